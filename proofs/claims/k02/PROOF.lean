import PyProof.Rows.All
import PyProof.StrLawsRepr
import Lean
import PySem.Challenge.RW_whichway_k02_pushes_recognized
import Wide.All
import OpenK.AllK
import Wide.FinOn
import KE.KStateDown
import HandS.ForMost
import HandS.ForExc
import HandS.Defaults
import HandS.CallSlots
import HandS.TupAny
import HandS.TupMul
import HandS.TupLe
import HandS.IsInst
import HandS.Deep
import HandS.Zip
import HandS.Style
import HandS.RaiseMore
import HandS.SortInts
import HandS.ExcIs
import KE.GoesEnum
import KE.GoesZip
import KE.KDictKeyed
import HandS.SetFor
import HandS.Conv
import HandS.Head0
import HandS.Head1
import HandS.Head2
import HandS.HeadEnd
import HandS.HeadHook1
import HandS.HeadHook2
set_option Elab.async false
set_option linter.all false
set_option maxRecDepth 100000
set_option maxHeartbeats 0
namespace Mi
open PySem
inductive D where
  | non | bl (b : Bool) | int (i : Int) | str (s : Str)
  | tup (ds : List D) | lst (ds : List D) | dic (ks vs : List D)
  | ref (i : Nat) | fn (g : Nat) | cls (g : Nat) | scr (ns : List Int) | tab (kvs : List (List Int × Str))
  deriving Inhabited
inductive Ob where
  | lst (ds : List D) | dic (ks vs : List D) | ins (cls : Nat) (fs : List (Str × D))
inductive R where
  | val (d : D) | new (o : Ob)
inductive Ar where
  | v (d : D) | s (i : Nat)
@[simp] def Ob.d : Ob → D
  | .lst ds => .lst ds
  | .dic ks vs => .dic ks vs
  | .ins _ _ => .non
@[simp] def R.d : R → D
  | .val d => d
  | .new o => o.d
@[simp] def Ob.flat : Ob → Bool
  | .ins _ _ => false
  | _ => true
@[simp] def R.flat : R → Bool
  | .val _ => true
  | .new o => o.flat
abbrev Ev := List (Option R)
abbrev Sto := List Ob
inductive Out (α : Type) where
  | ok (a : α) (e : Ev) (s : Sto) | exc (c : Nat) (e : Ev) (s : Sto) | bad
abbrev M (α : Type) := Ev → Sto → Out α
@[simp] def Out.bind {α β : Type} : Out α → (α → M β) → Out β
  | .ok a e s, f => f a e s
  | .exc c e s, _ => .exc c e s
  | .bad, _ => .bad
def bnd {α β : Type} (m : M α) (f : α → M β) : M β := fun e s => (m e s).bind f
def ret {α : Type} (a : α) : M α := fun e s => .ok a e s
def badM {α : Type} : M α := fun _ _ => .bad
def lift {α : Type} (o : Option α) : M α := fun e s => match o with
  | some a => .ok a e s
  | none => .bad
inductive COut where
  | ok (r : R) (s : Sto) | exc (c : Nat) (s : Sto) | bad
structure Orc where
  call : Nat → List D → Sto → COut
  gl : Nat → Option D
  has : Nat → Bool
  sub : Nat → Nat → Option Bool
@[simp] def COut.out (env : Ev) : COut → Out R
  | .ok r s' => .ok r env s'
  | .exc c s' => .exc c env s'
  | .bad => .bad
def callM (O : Orc) (g : Nat) (ds : List D) : M R := fun e s => (O.call g ds s).out e
def line : Nat := 16777216
mutual
def D.py : D → PyData
  | .non => .none | .bl b => .bool b | .int i => .int i | .str s => .str s
  | .tup ds => .tuple (pys ds)
  | .lst ds => .list (pys ds)
  | .dic ks vs => .dict ((pys ks).zip (pys vs))
  | .ref _ => .none | .fn _ => .none | .cls _ => .none | .scr _ => .none | .tab _ => .none
def pys : List D → List PyData
  | [] => []
  | d :: ds => d.py :: pys ds
end
mutual
def D.plain : D → Bool
  | .non => true | .bl _ => true | .int _ => true
  | .str x => PyData.strOk x
  | .tup ds => plains ds
  | .lst ds => plains ds
  | _ => false
def plains : List D → Bool
  | [] => true
  | d :: ds => d.plain && plains ds
end
mutual
def D.depth : D → Nat
  | .tup ds => depths ds + 1
  | .lst ds => depths ds + 1
  | .dic ks vs => max (depths ks) (depths vs) + 1
  | _ => 0
def depths : List D → Nat
  | [] => 0
  | d :: ds => max d.depth (depths ds)
end
mutual
def eqv : D → D → Bool
  | .non, .non => true
  | .bl a, .bl b => a == b
  | .bl a, .int j => (if a then 1 else 0) == j
  | .int i, .bl b => i == (if b then 1 else 0)
  | .int i, .int j => i == j
  | .str x, .str y => x == y
  | .lst xs, .lst ys => eqvs xs ys
  | .tup xs, .tup ys => eqvs xs ys
  | _, _ => false
def eqvs : List D → List D → Bool
  | [], [] => true
  | x :: xs, y :: ys => eqv x y && eqvs xs ys
  | _, _ => false
end
def D.cmp (d : D) : Bool := d.plain && decide (d.depth ≤ 60)
def mulOk (i j : Int) : Bool := decide (i.natAbs < 18446744073709551616) || decide (j.natAbs < 18446744073709551616)
def rep (n : Nat) (ds : List D) : List D := (List.replicate n ds).flatten
def binD (op : Operator) (x y : D) : Option R := match op, x, y with
  | .Add, .int i, .int j => some (.val (.int (i + j)))
  | .Add, .tup a, .tup b => if a.length + b.length ≤ line then some (.val (.tup (a ++ b))) else none
  | .Add, .lst a, .lst b => if a.length + b.length ≤ line then some (.new (.lst (a ++ b))) else none
  | .Add, .str a, .str b => if a.length + b.length ≤ line then some (.val (.str (a ++ b))) else none
  | .Sub, .int i, .int j => some (.val (.int (i - j)))
  | .Mult, .int i, .int j => if mulOk i j then some (.val (.int (i * j))) else none
  | .Mult, .tup a, .int k => if a.length ≤ 1000 ∧ k.natAbs ≤ 1000 then some (.val (.tup (rep k.toNat a))) else none
  | .Mult, .lst a, .int k => if a.length * k.toNat ≤ line ∧ k.natAbs ≤ line then some (.new (.lst (rep k.toNat a))) else none
  | .Mod, .int i, .int j => if j ≠ 0 then some (.val (.int (i.fmod j))) else none
  | .FloorDiv, .int i, .int j => if j ≠ 0 ∧ j.natAbs < 1073741824 then some (.val (.int (i.fdiv j))) else none
  | .Pow, .int i, .int j => if 0 ≤ j ∧ j ≤ 1000000 ∧ i.natAbs < 18446744073709551616 then some (.val (.int (i ^ j.toNat))) else none
  | .Add, .bl i, .int j => some (.val (.int ((if i = true then (1 : Int) else 0) + j)))
  | .Sub, .bl i, .int j => some (.val (.int ((if i = true then (1 : Int) else 0) - j)))
  | .Sub, .int i, .bl j => some (.val (.int (i - if j = true then (1 : Int) else 0)))
  | _, _, _ => none
def intsOf : List D → Option (List Int)
  | [] => some []
  | .int i :: ds => (intsOf ds).map (i :: ·)
  | _ => none
def blsOf : List D → Option (List Bool)
  | [] => some []
  | .bl i :: ds => (blsOf ds).map (i :: ·)
  | _ => none
def lexLt : List Int → List Int → Bool
  | [], [] => false
  | [], _ :: _ => true
  | _ :: _, [] => false
  | x :: xs, y :: ys => if x = y then lexLt xs ys else decide (x < y)
def ordI (op : CmpOp) (i j : Int) : Option Bool := match op with
  | .Lt => some (decide (i < j)) | .LtE => some (decide (i ≤ j)) | .Gt => some (decide (j < i)) | .GtE => some (decide (j ≤ i))
  | _ => none
def nilEq : D → D → Option Bool
  | .tup ds, .tup [] => some ds.isEmpty
  | _, _ => none
def cmpD (op : CmpOp) (x y : D) : Option Bool := match op with
  | .Eq => match x, y with
    | .str a, .str b => some (a == b)
    | _, _ => if x.cmp && y.cmp then some (eqv x y) else nilEq x y
  | .NotEq => match x, y with
    | .str a, .str b => some (!(a == b))
    | _, _ => if x.cmp && y.cmp then some (!eqv x y) else none
  | .In => match y with
    | .tup ys => if x.cmp && y.cmp then some (ys.any fun z => eqv z x) else none
    | .lst ys => if x.cmp && y.cmp then some (ys.any fun z => eqv z x) else none
    | _ => none
  | .NotIn => match y with
    | .tup ys => if x.cmp && y.cmp then some (!ys.any fun z => eqv z x) else none
    | .lst ys => if x.cmp && y.cmp then some (!ys.any fun z => eqv z x) else none
    | _ => none
  | .Is => match x, y with
    | .bl a, .bl b => some (a == b)
    | .non, .non => some true
    | .fn _, _ => none | .cls _, _ => none | .scr _, _ => none
    | _, .non => some false
    | _, _ => none
  | .IsNot => match x, y with
    | .bl a, .bl b => some (a != b)
    | .non, .non => some false
    | .fn _, _ => none | .cls _, _ => none | .scr _, _ => none
    | _, .non => some true
    | _, _ => none
  | .Lt => match x, y with
    | .int i, .int j => some (decide (i < j))
    | .tup a, .tup b => match intsOf a, intsOf b with
      | some m, some n => some (lexLt m n)
      | _, _ => none
    | _, _ => none
  | op => match x, y with
    | .int i, .int j => ordI op i j
    | _, _ => none
def place (n : Nat) (i : Int) : Option Nat := if 0 ≤ i then (if i < n then some i.toNat else none) else if -(n : Int) ≤ i then some (i + n).toNat else none
def item {α : Type} (xs : List α) (i : Int) : Option α := (place xs.length i).bind fun j => xs[j]?
def keyEq : D → D → Bool
  | .int i, .int j => decide (i = j)
  | .str x, .str y => decide (x = y)
  | _, _ => false
def dget : List D → List D → D → Option D
  | k :: ks, v :: vs, x => if keyEq k x = true then some v else dget ks vs x
  | _, _, _ => none
def ixD (x i : D) : Option D := match x, i with
  | .dic ks vs, .int k => dget ks vs (.int k)
  | .dic ks vs, .str k => dget ks vs (.str k)
  | .str a, .int k => if a.length ≤ line then (item a.cps.toList k).map fun c => .str ⟨#[c]⟩ else none
  | .tup a, .int k => item a k
  | .lst a, .int k => item a k
  | .scr a, .int k => (item a k).map .int
  | _, _ => none
def bound (n d : Nat) : Option Int → Nat
  | none => d
  | some v => if v < 0 then (v + (n : Int)).toNat else min v.toNat n
def cut (xs : List D) (lo hi : Option Int) : List D := (xs.drop (bound xs.length 0 lo)).take (bound xs.length xs.length hi - bound xs.length 0 lo)
def slD (x : D) (lo hi : Option Int) : Option R := match x with
  | .tup a => some (.val (.tup (cut a lo hi)))
  | .lst a => some (.new (.lst (cut a lo hi)))
  | _ => none
inductive Ty where
  | int | bool | tuple | list | str | dict
  deriving DecidableEq
def isiD (x : D) (t : Ty) : Option Bool := match x, t with
  | .non, _ => some false
  | .bl _, .int => some true | .bl _, .bool => some true | .bl _, _ => some false
  | .int _, .int => some true | .int _, _ => some false
  | .str _, .str => some true | .str _, _ => some false
  | .tup _, .tuple => some true | .tup _, _ => some false
  | .lst _, .list => some true | .lst _, _ => some false
  | .dic _ _, .dict => some true | .dic _ _, _ => some false
  | _, _ => none
mutual
def D.show : D → Bool
  | .non => true | .bl _ => true | .str _ => true
  | .int i => decide (i.natAbs.log2 < 1920)
  | .tup ds => shows ds
  | .lst ds => shows ds
  | .dic ks vs => shows ks && shows vs
  | _ => false
def shows : List D → Bool
  | [] => true
  | d :: ds => d.show && shows ds
end
inductive Bi where
  | len | sum | max | min | all | any | repr | int | str | list | tuple | sorted
  deriving DecidableEq
def maxI (x : Int) (xs : List Int) : Int := xs.foldl (fun a b => if b > a then b else a) x
def minI (x : Int) (xs : List Int) : Int := xs.foldl (fun a b => if b < a then b else a) x
def sortI (xs : List Int) : List Int := xs.mergeSort fun a b => decide (a ≤ b)
def biD (b : Bi) (xs : List D) : Option R := match b, xs with
  | .len, [.tup a] => some (.val (.int a.length))
  | .len, [.lst a] => some (.val (.int a.length))
  | .len, [.scr a] => some (.val (.int a.length))
  | .len, [.str a] => if a.length ≤ line then some (.val (.int a.length)) else none
  | .sum, [.lst a] => (intsOf a).map fun n => .val (.int n.sum)
  | .all, [.lst a] => (blsOf a).map fun n => .val (.bl (n.all id))
  | .any, [.lst a] => (blsOf a).map fun n => .val (.bl (n.any id))
  | .max, [.int i, .int j] => some (.val (.int (if j > i then j else i)))
  | .min, [.int i, .int j] => some (.val (.int (if j < i then j else i)))
  | .max, [.lst a] => match intsOf a with
    | some (x :: xs) => some (.val (.int (maxI x xs)))
    | _ => none
  | .min, [.lst a] => match intsOf a with
    | some (x :: xs) => some (.val (.int (minI x xs)))
    | _ => none
  | .sorted, [.lst a] => (intsOf a).map fun n => .new (.lst ((sortI n).map .int))
  | .tuple, [.tup a] => some (.val (.tup a))
  | .tuple, [.lst a] => some (.val (.tup a))
  | .list, [.tup a] => some (.new (.lst a))
  | .list, [.lst a] => some (.new (.lst a))
  | .repr, [d] => if d.show && decide (d.depth ≤ 60) && decide ((d.py.shown).length ≤ line) then some (.val (.str d.py.shown)) else none
  | .int, [.bl b] => some (.val (.int (if b then 1 else 0)))
  | .str, [.int i] => if i.natAbs.log2 < 1920 then some (.val (.str (toString i))) else none
  | .str, [.str a] => some (.val (.str a))
  | .str, [.bl b] => some (.val (.str (.ofString (if b = true then "True" else "False"))))
  | _, _ => none
inductive Me where
  | count | join | split | index
  deriving DecidableEq
def strsOf : List D → Option (List Str)
  | [] => some []
  | .str i :: ds => (strsOf ds).map (i :: ·)
  | _ => none
def firstIx (x : D) : List D → Option Nat
  | [] => none
  | d :: ds => if eqv d x = true then some 0 else (firstIx x ds).map (· + 1)
def meD (m : Me) (x y : D) : Option R := match m, x, y with
  | .count, .lst a, .int k => (intsOf a).map fun n => .val (.int (n.count k : Nat))
  | .join, .str a, .lst ds => match strsOf ds with
    | some ys => if (ys.map (·.length)).sum + ys.length * a.length ≤ 16777216 then some (.val (.str (Txt.join a ys))) else none
    | none => none
  | .split, .str a, .str b => if (b.length == 0) = false ∧ a.length + 2 ≤ line then some (.new (.lst ((Txt.split a b).map .str))) else none
  | _, _, _ => none
def meR (m : Me) (x : D) : Bool := match m, x with
  | .count, .lst _ => true
  | .index, .lst _ => true
  | .join, .str _ => true
  | .split, .str _ => true
  | _, _ => false
def get2D (x y z : D) : Option R := match x, y with
  | .tab kvs, .tup ds => (intsOf ds).map fun n => .val (match kvs.lookup n with
    | some v => .str v
    | none => z)
  | _, _ => none
def unpair : List D → Option (List D × List D)
  | [] => some ([], [])
  | k :: v :: r => (unpair r).map fun q => (k :: q.1, v :: q.2)
  | _ => none
def isKey : D → Bool
  | .int _ => true | .str _ => true | _ => false
def keysNd : List D → Bool
  | [] => true
  | k :: ks => isKey k && ks.all (fun x => !keyEq k x) && keysNd ks
def dicD (ds : List D) : Option R := match unpair ds with
  | some (ks, vs) => if keysNd ks && decide (ks.length ≤ 15) then some (.new (.dic ks vs)) else none
  | none => none
end Mi
namespace L2
open PySem PySem.Spec PyProof.Rows
theorem tuple_mul_same (l : Addr) (items : Array Value) (n : Nat) (dd : Option Addr) (sl : Array (Option Value)) (x : Int) (u : Tok) (c0 : (decide (x < -(2 ^ 63)) || decide (x ≥ 2 ^ 63)) = false) (c1 : (items.isEmpty || x == 1) = true) :
    Meets (Builtin.«tuple.__mul__» ⟨[.ref l, .int x u], []⟩) (fun _ R s => s.heap.get? l = some { cls := .type "tuple", dict := dd, data := .seq items n, slots := sl } ∧
      R (.ok (.ret (Value.ref l))) s) :=
  .of_wp fun prog w A R s h => by
    obtain ⟨hp, g, d, tk, os⟩ := s
    obtain ⟨hl, h⟩ := h
    have f1 := AutoSeq1.idx_int
    wp_walk using wpAny_loadPart' hl
    repeat (first
      | (refine wpAny_ite_false (decide_eq_false (by rw [c0]; exact Bool.false_ne_true)) ?_; wp_walk using wpAny_loadPart' hl)
      | (refine wpAny_ite_true (decide_eq_true c1) ?_; wp_walk using wpAny_loadPart' hl))
    exact ⟨_, rfl, h⟩
theorem tuple_mul_zero (l : Addr) (items : Array Value) (n : Nat) (dd : Option Addr) (sl : Array (Option Value)) (x : Int) (u : Tok) (c0 : (decide (x < -(2 ^ 63)) || decide (x ≥ 2 ^ 63)) = false) (c1 : (items.isEmpty || x == 1) = false) (c2 : (decide (x ≤ 0) || items.isEmpty) = true) :
    Meets (Builtin.«tuple.__mul__» ⟨[.ref l, .int x u], []⟩) (fun _ R s => s.heap.get? l = some { cls := .type "tuple", dict := dd, data := .seq items n, slots := sl } ∧
      R (.ok (.ret (Value.ref s.heap.objs.size))) { s with heap := s.heap.push { cls := Value.type "tuple", data := Data.seq #[] }, toks := s.toks }) :=
  .of_wp fun prog w A R s h => by
    obtain ⟨hp, g, d, tk, os⟩ := s
    obtain ⟨hl, h⟩ := h
    have f1 := AutoSeq1.idx_int
    wp_walk using wpAny_loadPart' hl
    repeat (first
      | (refine wpAny_ite_false (decide_eq_false (by rw [c0]; exact Bool.false_ne_true)) ?_; wp_walk using wpAny_loadPart' hl)
      | (refine wpAny_ite_false (decide_eq_false (by rw [c1]; exact Bool.false_ne_true)) ?_; wp_walk using wpAny_loadPart' hl)
      | (refine wpAny_ite_true (decide_eq_true c2) ?_; wp_walk using wpAny_loadPart' hl))
    exact ⟨_, rfl, h⟩
def rRepA (K : PySem.W.Frag) : R2 := fun x y H Q => ∃ l k xs, x = .ref l ∧ y = .int k ∧ SqT K H l xs ∧ -1000 ≤ k ∧ k ≤ 1000 ∧ xs.length ≤ 1000 ∧
  ((xs = [] ∨ k = 1) → Q (.ref l) H) ∧ (¬ (xs = [] ∨ k = 1) → ∀ p, H p = none → Q (.ref p) (upd H p (.tup (List.replicate k.toNat xs).flatten)))
theorem op_repA {X : Cx} : OpR X (binaryOp .Mult) (rRepA X.K) := by
  intro pins s σ H x y v u Q I rx ry h
  obtain ⟨l, k, xs, rfl, rfl, hT, h1, h2, hz, q1, q2⟩ := h
  by_cases h3 : xs ≠ [] ∧ 2 ≤ k
  · exact op_repT pins s σ H _ _ v u Q I rx ry ⟨l, k, xs, rfl, rfl, hT, h3.1, h3.2, h2, hz, q2 (by intro z; rcases z with z | z; exact h3.1 z; omega)⟩
  cases rx
  obtain ⟨t, rfl⟩ := ry
  obtain ⟨its, r, ⟨⟨cls, dd, data, sl⟩, ho, hc, n, hd⟩, hs⟩ := I.tuple hT
  simp only at hc hd
  subst hc hd
  have hle : its.length = xs.length := r.length.symm
  have hi : its.toArray.isEmpty = decide (xs = []) := by
    cases its with
    | nil => cases r; rfl
    | cons a b => cases r; simp
  have c0 : (decide (k < -(2 ^ 63)) || decide (k ≥ 2 ^ 63)) = false := by
    rw [decide_eq_false (by omega), decide_eq_false (by omega)] <;> rfl
  refine wpAny_binaryOp_repeat_ref (T := "tuple") (U := "int") (by decide) ⟨_, ho, rfl⟩ (fun s' => typeIs_int s' k t) noFill_tuple_mul F.fills_int_mul F.slot_int_rmul repeat_tuple F.slot_int_index.lookup
    (call_meets F.slot_int_rmul (typeIs_int s k t) F.entry_int_rmul (F.args_int_rmul_2 _ _) (int_rmul_tuple k t l its.toArray n dd sl)
      ⟨ho, rfl, ⟨_, ho, rfl⟩, ?_⟩)
  by_cases h4 : xs = [] ∨ k = 1
  · have c1 : (its.toArray.isEmpty || k == 1) = true := by
      rw [hi]
      rcases h4 with h4 | h4
      · simp [h4]
      · simp [h4]
    exact call_meets F.slot_tuple_mul ⟨_, ho, rfl⟩ F.entry_tuple_mul (F.args_tuple_mul_2 _ _) (tuple_mul_same l its.toArray n dd sl k t c0 c1) ⟨ho, .ref l, H, I, rfl, q1 h4⟩
  · have hne : xs ≠ [] := fun z => h4 (.inl z)
    have hk1 : k ≠ 1 := fun z => h4 (.inr z)
    have hk : k ≤ 0 := by
      by_cases z : 2 ≤ k
      · exact absurd ⟨hne, z⟩ h3
      · omega
    have c1 : (its.toArray.isEmpty || k == 1) = false := by
      rw [hi]
      simp [hne, hk1]
    have c2 : (decide (k ≤ 0) || its.toArray.isEmpty) = true := by simp [hk]
    refine call_meets F.slot_tuple_mul ⟨_, ho, rfl⟩ F.entry_tuple_mul (F.args_tuple_mul_2 _ _) (tuple_mul_zero l its.toArray n dd sl k t c0 c1 c2) ⟨ho, ?_⟩
    have ek : k.toNat = 0 := by omega
    have q3 := q2 h4
    rw [ek] at q3
    refine ⟨.ref s.heap.objs.size, _, I.laid (t' := s.toks) (o := .tup (List.replicate 0 xs).flatten) (fun b ob q => Heap.get?_push_of_some _ q) (Nat.le_refl _) ?_, rfl, q3 _ (I.hok.fresh (Nat.le_refl _))⟩
    exact ⟨Nat.zero_le _, [], .nil, IsTup.new _ _⟩
end L2
namespace Mi
open PySem
inductive T where
  | name (i : Nat) | tup (ts : List T)
mutual
inductive E where
  | nop | var (i : Nat) | cst (d : D) | glob (g : Nat)
  | tup (es : List E) | lst (es : List E) | dic (kvs : List E) | me (m : Me) (o a : E) | lrange (a : E)
  | bin (op : Operator) (a b : E) | neg (a : E) | not (a : E) | and (a b : E) | or (a b : E) | ife (c a b : E)
  | cmp (op : CmpOp) (a b : E) | chain (o1 o2 : CmpOp) (a b c : E)
  | ix (a b : E) | sl (a lo hi : E) | rev (a : E) | get2 (o k d : E)
  | isi (a : E) (t : Ty) | bi (b : Bi) (es : List E)
  | call (g : Nat) (es : List E) | calle (f : E) (es : List E)
  | pop (a i : E) | alloc (e : E)
  | comp (elt : E) (tg : T) (it : I) (c : E) (own : List Nat)
  | comp2 (elt : E) (tg : T) (it : I) (c : E) (tg1 : T) (it1 : I) (c1 : E) (own own1 : List Nat)
inductive I where
  | seq (e : E) | range (a : E) | range2 (a b : E) | zip (a b : E) | enum (e : E) | zip3 (a b c : E)
end
inductive TxB where
  | isx (g : Nat) | ve | not (c : TxB) | and (a b : TxB)
inductive TxE where
  | str (x : Str) | ife (c : TxB) (a b : TxE)
def cbv (sub : Nat → Option Bool) : TxB → Option Bool
  | .isx g => sub g
  | .ve => some true
  | .not c => (cbv sub c).map (!·)
  | .and a b => match cbv sub a with
    | some true => cbv sub b
    | some false => some false
    | none => none
def cev (sub : Nat → Option Bool) : TxE → Option Str
  | .str x => some x
  | .ife c a b => match cbv sub c with
    | some true => cev sub a
    | some false => cev sub b
    | none => none
inductive S where
  | expr (e : E) | set (i : Nat) (e : E) | asg (t : T) (e : E) | par (is : List Nat) (es : List E)
  | ret (e : E) | retN | iff (c : E) (a b : List S) | for (t : T) (it : I) (b : List S) | whl (n : Nat) (c : E) (b : List S)
  | aug (i : Nat) (op : Operator) (e : E) | setix (a i e : E) | app (a e : E) | ext (a e : E)
  | raise (g : Nat) | pass | brk | cont | frz (i : Nat) | mat (i : Nat) (n : Int) (b r : List S) | forR (t : T) (e : E) (b : List S) | tri (b : List S) (g i : Nat) (ce : TxE)
inductive Flow where
  | nx | bk | ct | rt (r : R)
def frz (r : R) : M D := if r.flat then ret r.d else badM
def getVar (i : Nat) : M R := fun e s => match e[i]? with
  | some (some (.val d)) => .ok (.val d) e s
  | some (some (.new o)) => if o.flat then .ok (.val o.d) (e.set i (some (.val o.d))) s else .bad
  | _ => .bad
def asA (x : E) (m : M R) : M Ar := match x with
  | .var i => fun e s => match e[i]? with
    | some (some (.val d)) => .ok (.v d) e s
    | some (some (.new _)) => .ok (.s i) e s
    | _ => .bad
  | _ => bnd m fun r => bnd (frz r) fun d => ret (.v d)
def deref (a : Ar) : M D := fun e s => match a with
  | .s i => match e[i]? with
    | some (some r) => if r.flat then .ok r.d e s else .bad
    | _ => .bad
  | .v (.ref n) => match s[n]? with
    | some o => .ok (if o.flat then o.d else .ref n) e s
    | none => .bad
  | .v d => .ok d e s
def prim1 (f : D → Option R) (a : Ar) : M R := bnd (deref a) fun x => lift (f x)
def prim2 (f : D → D → Option R) (a b : Ar) : M R := bnd (deref a) fun x => bnd (deref b) fun y => lift (f x y)
def derefs : List Ar → M (List D)
  | [] => ret []
  | a :: as => bnd (deref a) fun d => bnd (derefs as) fun ds => ret (d :: ds)
def primN (f : List D → Option R) (as : List Ar) : M R := bnd (derefs as) fun ds => lift (f ds)
def asBl (r : R) : M Bool := match r with
  | .val (.bl b) => ret b
  | _ => badM
def blR (o : Option Bool) : Option R := o.map fun b => .val (.bl b)
def asInt (r : R) : M Int := match r with
  | .val (.int b) => ret b
  | _ => badM
def negD (d : D) : Option R := match d with
  | .int i => some (.val (.int (-i)))
  | _ => none
def revD (d : D) : Option R := match d with
  | .tup ds => some (.val (.tup ds.reverse))
  | .lst ds => some (.new (.lst ds.reverse))
  | _ => none
def allocM (r : R) : M R := fun e s => match r with
  | .new o => .ok (.val (.ref s.length)) e (s ++ [o])
  | _ => .bad
def change (a : Ar) (f : Ob → Option (Ob × R)) : M R := fun e s => match a with
  | .s i => match e[i]? with
    | some (some (.new o)) => match f o with
      | some (o', r) => .ok r (e.set i (some (.new o'))) s
      | none => .bad
    | _ => .bad
  | .v (.ref n) => match s[n]? with
    | some o => match f o with
      | some (o', r) => .ok r e (s.set n o')
      | none => .bad
    | none => .bad
  | _ => .bad
def needL (a : Ar) : M Unit := bnd (deref a) fun d => match d with
  | .lst _ => ret ()
  | _ => badM
def needM (m : Me) (a : Ar) : M Unit := bnd (deref a) fun d => if meR m d = true then ret () else badM
def needT (d : D) : M Unit := match d with
  | .tab _ => ret ()
  | _ => badM
def popO (k : Int) (o : Ob) : Option (Ob × R) := match o with
  | .lst ds => if ds.length ≤ line then match place ds.length k with
      | some j => match ds[j]? with
        | some d => some (.lst (ds.eraseIdx j), .val d)
        | none => none
      | none => none
    else none
  | _ => none
def appO (d : D) (o : Ob) : Option (Ob × R) := match o with
  | .lst ds => if ds.length < line then some (.lst (ds ++ [d]), .val .non) else none
  | _ => none
def extO (d : D) (o : Ob) : Option (Ob × R) := match o, d with
  | .lst ds, .lst es => if ds.length + es.length ≤ line then some (.lst (ds ++ es), .val .non) else none
  | _, _ => none
def setO (k : Int) (d : D) (o : Ob) : Option (Ob × R) := match o with
  | .lst ds => match place ds.length k with
    | some j => some (.lst (ds.set j d), .val .non)
    | none => none
  | _ => none
mutual
def asgT : T → D → M Unit
  | .name i, d => fun e s => .ok () (e.set i (some (.val d))) s
  | .tup ts, d => match d with
    | .tup ds => asgTs ts ds
    | .lst ds => asgTs ts ds
    | _ => badM
def asgTs : List T → List D → M Unit
  | [], [] => ret ()
  | t :: ts, d :: ds => bnd (asgT t d) fun _ => asgTs ts ds
  | _, _ => badM
end
def wipeE (e : Ev) : List Nat → Ev
  | [] => e
  | v :: vs => (wipeE e vs).set v none
def restE (e0 e : Ev) : List Nat → Ev
  | [] => e
  | v :: vs => (restE e0 e vs).set v (e0[v]?.join)
def noOwn (e : Ev) (vs : List Nat) : Bool := vs.all fun i => match e[i]? with
  | some (some (.new _)) => false
  | some _ => true
  | none => false
def noExc {α : Type} (m : M α) : M α := fun e s => match m e s with
  | .ok a e s => .ok a e s
  | _ => .bad
def compL (f : D → M (Option D)) (vs : List Nat) : List D → M (List D)
  | [] => ret []
  | x :: xs => fun e s => (noExc (f x) (wipeE e vs) s).bind fun o => bnd (compL f vs xs) fun ds => ret (match o with
    | some d => d :: ds
    | none => ds)
def seqD : D → Option (List D)
  | .tup ds => some ds
  | .lst ds => some ds
  | _ => none
def zipL3 (xs ys zs : List D) : List D := List.zipWith (fun x q => .tup [x, q.1, q.2]) xs (ys.zip zs)
def compM (f : D → M (Option D)) (vs : List Nat) (items : List D) : M R := fun e s =>
  if noOwn e vs && decide (items.length ≤ line) then (compL f vs items e s).bind fun ds e' s' => .ok (.new (.lst ds)) (restE e e' vs) s' else .bad
def compLL (f : D → M (List D)) (vs : List Nat) : List D → M (List D)
  | [] => ret []
  | x :: xs => fun e s => (noExc (f x) (wipeE e vs) s).bind fun os => bnd (compLL f vs xs) fun ds => ret (os ++ ds)
def comp2M (f : D → M (List D)) (vs : List Nat) (items : List D) : M R := fun e s =>
  if noOwn e vs then (compLL f vs items e s).bind fun ds e' s' => if ds.length ≤ line then .ok (.new (.lst ds)) (restE e e' vs) s' else .bad else .bad
def partOf (x : E) (m : M R) : M (Option Int) := match x with
  | .nop => ret none
  | _ => bnd m fun r => bnd (asInt r) fun k => ret (some k)
def condOf (x : E) (m : M R) : M Bool := match x with
  | .nop => ret true
  | _ => bnd m asBl
mutual
def evE (O : Orc) : E → M R
  | .nop => badM
  | .var i => getVar i
  | .cst d => ret (.val d)
  | .glob g => lift ((O.gl g).map .val)
  | .tup es => bnd (evVs O es) fun ds => if ds.length ≤ line then ret (.val (.tup ds)) else badM
  | .lst es => bnd (evVs O es) fun ds => if ds.length ≤ line then ret (.new (.lst ds)) else badM
  | .dic kvs => bnd (evVs O kvs) fun ds => lift (dicD ds)
  | .me m o a => bnd (asA o (evE O o)) fun x => bnd (needM m x) fun _ => bnd (asA a (evE O a)) fun y => prim2 (meD m) x y
  | .lrange a => bnd (evE O a) fun r => bnd (asInt r) fun k => if k.natAbs ≤ line then ret (.new (.lst ((List.range k.toNat).map fun (i : Nat) => .int i))) else badM
  | .bin op a b => bnd (asA a (evE O a)) fun x => bnd (asA b (evE O b)) fun y => prim2 (binD op) x y
  | .neg a => bnd (asA a (evE O a)) fun x => prim1 negD x
  | .not a => bnd (evE O a) fun r => bnd (asBl r) fun b => ret (.val (.bl (!b)))
  | .and a b => bnd (evE O a) fun r => bnd (asBl r) fun c => match c with
    | true => evE O b
    | false => ret (.val (.bl false))
  | .or a b => bnd (evE O a) fun r => bnd (asBl r) fun c => match c with
    | true => ret (.val (.bl true))
    | false => evE O b
  | .ife c a b => bnd (evE O c) fun r => bnd (asBl r) fun c => match c with
    | true => evE O a
    | false => evE O b
  | .cmp op a b => bnd (asA a (evE O a)) fun x => bnd (asA b (evE O b)) fun y => prim2 (fun x y => blR (cmpD op x y)) x y
  | .chain o1 o2 a b c => bnd (asA a (evE O a)) fun x => bnd (asA b (evE O b)) fun y => bnd (prim2 (fun x y => blR (cmpD o1 x y)) x y) fun r => bnd (asBl r) fun k => match k with
    | true => bnd (asA c (evE O c)) fun z => prim2 (fun x y => blR (cmpD o2 x y)) y z
    | false => ret (.val (.bl false))
  | .ix a b => bnd (asA a (evE O a)) fun x => bnd (asA b (evE O b)) fun y => prim2 (fun x y => (ixD x y).map .val) x y
  | .sl a lo hi => bnd (asA a (evE O a)) fun x => bnd (partOf lo (evE O lo)) fun l => bnd (partOf hi (evE O hi)) fun h => prim1 (fun x => slD x l h) x
  | .rev a => bnd (asA a (evE O a)) fun x => prim1 revD x
  | .get2 o k d => bnd (evE O o) fun r => bnd (frz r) fun x => bnd (needT x) fun _ => bnd (evE O k) fun r => bnd (frz r) fun y => bnd (evE O d) fun r => bnd (frz r) fun z => lift (get2D x y z)
  | .isi a t => bnd (asA a (evE O a)) fun x => prim1 (fun x => blR (isiD x t)) x
  | .bi b es => bnd (evAs O es) fun xs => primN (biD b) xs
  | .call g es => bnd (evVs O es) fun ds => callM O g ds
  | .calle f es => bnd (evE O f) fun r => match r with
    | .val (.fn g) => if O.has g then bnd (evVs O es) fun ds => callM O g ds else badM
    | _ => badM
  | .pop a i => bnd (asA a (evE O a)) fun x => bnd (needL x) fun _ => bnd (evE O i) fun r => bnd (asInt r) fun k => change x (popO k)
  | .alloc e => bnd (evE O e) allocM
  | .comp elt tg it c own => bnd (evI O it) fun items => compM (fun x => bnd (asgT tg x) fun _ => bnd (condOf c (evE O c)) fun b => match b with
      | true => bnd (evE O elt) fun r => bnd (frz r) fun d => ret (some d)
      | false => ret none) own items
  | .comp2 elt tg it c tg1 it1 c1 own own1 => bnd (evI O it) fun items => comp2M (fun x => bnd (asgT tg x) fun _ => bnd (condOf c (evE O c)) fun b => match b with
      | true => bnd (evI O it1) fun ys => compL (fun x => bnd (asgT tg1 x) fun _ => bnd (condOf c1 (evE O c1)) fun b => match b with
        | true => bnd (evE O elt) fun r => bnd (frz r) fun d => ret (some d)
        | false => ret none) own1 ys
      | false => ret []) own items
def evVs (O : Orc) : List E → M (List D)
  | [] => ret []
  | e :: es => bnd (evE O e) fun r => bnd (frz r) fun d => bnd (evVs O es) fun ds => ret (d :: ds)
def evAs (O : Orc) : List E → M (List Ar)
  | [] => ret []
  | e :: es => bnd (asA e (evE O e)) fun a => bnd (evAs O es) fun as => ret (a :: as)
def evI (O : Orc) : I → M (List D)
  | .seq e => bnd (evE O e) fun r => bnd (frz r) fun d => match d with
    | .tup ds => ret ds
    | .lst ds => ret ds
    | _ => badM
  | .range a => bnd (evE O a) fun r => bnd (asInt r) fun k => if k.natAbs < 4611686018427387904 then ret ((List.range k.toNat).map fun (i : Nat) => .int i) else badM
  | .range2 a b => bnd (evE O a) fun r => bnd (asInt r) fun k => bnd (evE O b) fun r => bnd (asInt r) fun m => if k.natAbs < 4611686018427387904 ∧ m.natAbs < 4611686018427387904 then ret ((List.range (m - k).toNat).map fun (i : Nat) => .int (k + i)) else badM
  | .zip a b => bnd (evE O a) fun r => bnd (frz r) fun x => bnd (evE O b) fun r => bnd (frz r) fun y => match seqD x, seqD y with
    | some xs, some ys => ret (List.zipWith (fun x y => .tup [x, y]) xs ys)
    | _, _ => badM
  | .zip3 a b c => bnd (evE O a) fun r => bnd (frz r) fun x => bnd (evE O b) fun r => bnd (frz r) fun y => bnd (evE O c) fun r => bnd (frz r) fun z => match seqD x, seqD y, seqD z with
    | some xs, some ys, some zs => ret (zipL3 xs ys zs)
    | _, _, _ => badM
  | .enum e => bnd (evE O e) fun r => bnd (frz r) fun d => match d with
    | .tup ds => ret (List.zipWith (fun (i : Nat) x => .tup [.int i, x]) (List.range ds.length) ds)
    | .lst ds => ret (List.zipWith (fun (i : Nat) x => .tup [.int i, x]) (List.range ds.length) ds)
    | _ => badM
end
def setS (i : Nat) (r : R) : M Unit := fun e s => .ok () (e.set i (some r)) s
def forL (f : D → M Flow) : List D → M Flow
  | [] => ret .nx
  | x :: xs => bnd (f x) fun fl => match fl with
    | .nx => forL f xs
    | .ct => forL f xs
    | .bk => ret .nx
    | .rt r => ret (.rt r)
def forRL (n : Nat) (f : D → M Flow) : Nat → Nat → M Flow
  | 0, _ => badM
  | m + 1, i => fun e s => match s[n]? with
    | some (.lst ds) => match ds[i]? with
      | some d => bnd (f d) (fun fl => match fl with
        | .nx => forRL n f m (i + 1)
        | .ct => forRL n f m (i + 1)
        | .bk => ret .nx
        | .rt r => ret (.rt r)) e s
      | none => .ok .nx e s
    | _ => .bad
def forRM (r : R) (f : D → M Flow) : M Flow := match r with
  | .val (.ref n) => forRL n f 1000 0
  | _ => badM
def tryM (sub : Nat → Nat → Option Bool) (g i : Nat) (ce : TxE) (m : M Flow) : M Flow := fun e s => match m e s with
  | .ok fl e1 s1 => .ok fl e1 s1
  | .exc c e1 s1 => match sub c g with
    | some true => match cev (sub c) ce with
      | some x => .ok (.rt (.val (.str x))) (e1.set i none) s1
      | none => .bad
    | some false => .exc c e1 s1
    | none => .bad
  | .bad => .bad
def whlL (c : M Bool) (b : M Flow) : Nat → M Flow
  | 0 => badM
  | n + 1 => bnd c fun k => match k with
    | true => bnd b fun fl => match fl with
      | .nx => whlL c b n
      | .ct => whlL c b n
      | .bk => ret .nx
      | .rt r => ret (.rt r)
    | false => ret .nx
def sets : List Nat → List R → Ev → Ev
  | i :: is, r :: rs, e => sets is rs (e.set i (some r))
  | _, _, e => e
def heldR {α : Type} (r : R) (m : M α) : M α := match r with
  | .val _ => m
  | .new (.lst _) => m
  | _ => badM
def evRs (O : Orc) : List E → M (List R)
  | [] => ret []
  | x :: es => bnd (evE O x) fun r => bnd (heldR r (evRs O es)) fun rs => ret (r :: rs)
def setsM (is : List Nat) (rs : List R) : M Unit := fun e s => .ok () (sets is rs e) s
def getD' (i : Nat) : M D := fun e s => match e[i]? with
  | some (some (.val d)) => .ok d e s
  | _ => .bad
mutual
def exec (O : Orc) : S → M Flow
  | .expr e => bnd (evE O e) fun _ => ret .nx
  | .set i e => bnd (evE O e) fun r => bnd (setS i r) fun _ => ret .nx
  | .asg t e => bnd (evE O e) fun r => bnd (frz r) fun d => bnd (asgT t d) fun _ => ret .nx
  | .par is es => bnd (evRs O es) fun rs => if rs.length = is.length then bnd (setsM is rs) fun _ => ret .nx else badM
  | .ret e => bnd (evE O e) fun r => ret (.rt r)
  | .retN => ret (.rt (.val .non))
  | .iff c a b => bnd (evE O c) fun r => bnd (asBl r) fun k => match k with
    | true => execs O a
    | false => execs O b
  | .for t it b => bnd (evI O it) fun items => forL (fun x => bnd (asgT t x) fun _ => execs O b) items
  | .whl n c b => whlL (bnd (evE O c) asBl) (execs O b) n
  | .aug i op e => bnd (getD' i) fun x => bnd (evE O e) fun r => bnd (frz r) fun y => bnd (lift (binD op x y)) fun r => bnd (setS i r) fun _ => ret .nx
  | .setix a i e => bnd (evE O e) fun r => bnd (frz r) fun d => bnd (asA a (evE O a)) fun x => bnd (evE O i) fun r => bnd (asInt r) fun k => bnd (change x (setO k d)) fun _ => ret .nx
  | .app a e => bnd (asA a (evE O a)) fun x => bnd (needL x) fun _ => bnd (evE O e) fun r => bnd (frz r) fun d => bnd (change x (appO d)) fun _ => ret .nx
  | .ext a e => bnd (asA a (evE O a)) fun x => bnd (needL x) fun _ => bnd (asA e (evE O e)) fun y => bnd (deref y) fun d => bnd (change x (extO d)) fun _ => ret .nx
  | .raise g => fun e s => .exc g e s
  | .pass => ret .nx
  | .frz i => bnd (getVar i) fun _ => ret .nx
  | .brk => ret .bk
  | .cont => ret .ct
  | .tri b g i ce => tryM O.sub g i ce (execs O b)
  | .forR t e b => bnd (evE O e) fun r => forRM r fun x => bnd (asgT t x) fun _ => execs O b
  | .mat i n b r => bnd (getVar i) fun q => bnd (asInt q) fun v => if v = n then execs O b else execs O r
def execs (O : Orc) : List S → M Flow
  | [] => ret .nx
  | x :: xs => bnd (exec O x) fun fl => match fl with
    | .nx => execs O xs
    | fl => ret fl
end
structure Fn where
  np : Nat
  nl : Nat
  body : List S
def Fn.run (F : Fn) (O : Orc) (ds : List D) (s : Sto) : COut :=
  if ds.length = F.np then match execs O F.body (ds.map (fun d => some (.val d)) ++ List.replicate (F.nl - F.np) none) s with
    | .ok (.rt r) _ s' => .ok r s'
    | .ok .nx _ s' => .ok (.val .non) s'
    | .ok _ _ _ => .bad
    | .exc c _ s' => .exc c s'
    | .bad => .bad
  else .bad
structure Tb where
  fn : Nat → Option Fn
  gl : Nat → Option D
  sub : Nat → Nat → Option Bool
def orc (T : Tb) : Nat → Orc
  | 0 => ⟨fun _ _ _ => .bad, T.gl, fun g => (T.fn g).isSome, T.sub⟩
  | k + 1 => ⟨fun g ds s => match T.fn g with
    | some F => F.run (orc T k) ds s
    | none => .bad, T.gl, fun g => (T.fn g).isSome, T.sub⟩
end Mi
namespace Mi
open PySem
structure CC where
  N : List Str
  nm : List (Str × NameKind)
  wr : List (Str × NameKind)
  gn : Nat → Option Str
  gl : Nat → Option D
  fk : Nat → Bool
  cn : Nat → Option Str
def CC.vis (C : CC) (x : Str) : Bool := match C.nm.lookup x with
  | some .local => true
  | some .cell => true
  | some .free => true
  | _ => false
def CC.glb (C : CC) (x : Str) : Bool := match C.nm.lookup x with
  | some .globalImplicit => true
  | _ => false
def CC.wrt (C : CC) (x : Str) : Bool := match C.wr.lookup x with
  | some .local => true
  | some .cell => true
  | _ => false
def CC.slot (C : CC) (i : Nat) (x : Str) : Bool := decide (C.N[i]? = some x)
def notBug (x : Str) : Bool := !(x == ("__debug__" : Str)) && !(x == ("__classdict__" : Str)) && decide (x ≠ ("__name__" : Str))
def plainA : Expr → Bool
  | .Starred _ _ => false
  | _ => true
def plainIx : Expr → Bool
  | .Slice _ _ _ _ => false
  | _ => true
def noSet : Expr → Bool
  | .Set _ _ _ => false
  | _ => true
def noComp : Expr → Bool
  | .ListComp _ _ _ _ => false
  | .SetComp _ _ _ _ => false
  | .DictComp _ _ _ _ _ => false
  | _ => true
def isTup : Expr → Bool
  | .Tuple _ _ _ => true
  | _ => false
def cstC : D → Const → Bool
  | .non, .none => true
  | .bl b, .bool c => b == c
  | .int i, .int j => decide (i = j)
  | .str x, .str y => decide (x = y)
  | _, _ => false
def Ty.nm : Ty → Str
  | .int => "int" | .bool => "bool" | .tuple => "tuple" | .list => "list" | .str => "str" | .dict => "dict"
def Bi.nm : Bi → Str
  | .len => "len" | .sum => "sum" | .max => "max" | .min => "min" | .all => "all" | .any => "any" | .repr => "repr"
  | .int => "int" | .str => "str" | .list => "list" | .tuple => "tuple" | .sorted => "sorted"
def Me.nm : Me → Str
  | .count => "count" | .join => "join" | .split => "split" | .index => "index"
def baseOk : Expr → Bool
  | .Call _ _ _ _ => false
  | _ => true
def opsOk (op : CmpOp) (b : Expr) : Bool := !(behindInMarks op b)
def relNames (nm names : List (Str × NameKind)) : List (Str × NameKind) :=
  names.map fun (n, k) => if (k == NameKind.free && nm.lookup n == some NameKind.cell) then (n, NameKind.cell) else (n, k)
def CC.blk (C : CC) (names : List (Str × NameKind)) : CC := { C with nm := relNames C.nm names, wr := names }
def blkOk (C : CC) (scope : Scope) (own : List Nat) : Bool :=
  (match scope.kind with | .function => true | _ => false) && (scope.names.all fun y => decide (scope.names.lookup y.1 = some y.2)) && (own.all fun p => decide (p < C.N.length)) &&
    (scope.names.all fun y => match y.2 with
      | .free => (match C.nm.lookup y.1 with | some .cell => true | some .free => true | _ => false)
      | .local => own.any (fun i => decide (C.N[i]? = some y.1)) || decide (y.1 ∉ C.N)
      | .cell => own.any (fun i => decide (C.N[i]? = some y.1)) || decide (y.1 ∉ C.N)
      | _ => true)
mutual
def slotsT : T → List Nat
  | .name i => [i]
  | .tup ts => slotsTs ts
def slotsTs : List T → List Nat
  | [] => []
  | t :: ts => slotsT t ++ slotsTs ts
end
mutual
def chkT (C : CC) : T → Expr → Bool
  | .name i, .Name x _ => C.slot i x && C.wrt x
  | .tup ts, .Tuple es _ _ => chkTs C ts es
  | _, _ => false
def chkTs (C : CC) : List T → List Expr → Bool
  | [], [] => true
  | t :: ts, e :: es => plainA e && chkT C t e && chkTs C ts es
  | _, _ => false
end
def newish : Expr → Bool
  | .Call _ _ _ _ => true
  | .List _ _ => true
  | .BinOp _ _ _ _ => true
  | .ListComp _ _ _ _ => true
  | .Subscript _ _ _ => true
  | _ => false
def okT : E → Bool
  | .ife _ _ _ => false
  | .alloc _ => false
  | .and a b => okT a && okT b
  | .or a b => okT a && okT b
  | .not a => okT a
  | _ => true
def partC (x : E) (o : Option Expr) (b : Expr → Bool) : Bool := match x, o with
  | .nop, none => true
  | .nop, some _ => false
  | _, some e' => b e'
  | _, none => false
def condC (x : E) (o : List Expr) (b : Expr → Bool) : Bool := match x, o with
  | .nop, [] => true
  | .nop, _ => false
  | _, [e'] => b e'
  | _, _ => false
mutual
def chkE (C : CC) : E → Expr → Bool
  | .var i, .Name x _ => C.slot i x && C.vis x && notBug x
  | .cst d, .Constant c _ _ => cstC d c
  | .tup es, .Tuple es' _ _ => chkEs C es es'
  | .lst es, .List es' _ => chkEs C es es'
  | .bin op a b, .BinOp a' op' b' _ => decide (op = op') && chkE C a a' && chkE C b b'
  | .neg a, .UnaryOp .USub a' _ => chkE C a a'
  | .not a, .UnaryOp .Not a' _ => chkE C a a'
  | .and a b, .BoolOp .And (a' :: b' :: r) pos => chkE C a a' && (match r with
    | [] => chkE C b b'
    | _ :: _ => chkE C b (.BoolOp .And (b' :: r) pos))
  | .or a b, .BoolOp .Or (a' :: b' :: r) pos => chkE C a a' && (match r with
    | [] => chkE C b b'
    | _ :: _ => chkE C b (.BoolOp .Or (b' :: r) pos))
  | .ife c a b, .IfExp c' a' b' _ => okT c && chkE C c c' && chkE C a a' && chkE C b b'
  | .cmp op a b, .Compare a' [op'] [b'] _ => decide (op = op') && opsOk op b' && chkE C a a' && chkE C b b'
  | .chain o1 o2 a b c, .Compare a' [o1', o2'] [b', c'] _ => decide (o1 = o1') && decide (o2 = o2') && opsOk o2 c' && chkE C a a' && chkE C b b' && chkE C c c'
  | .ix a b, .Subscript a' b' _ => plainIx b' && chkE C a a' && chkE C b b'
  | .sl a lo hi, .Subscript a' (.Slice lo' hi' none _) _ => chkE C a a' && partC lo lo' (fun e' => chkE C lo e') && partC hi hi' (fun e' => chkE C hi e')
  | .rev a, .Subscript a' (.Slice none none (some (.UnaryOp .USub (.Constant (.int 1) _ _) _)) _) _ => chkE C a a'
  | .isi a t, .Call (.Name x _) [a', .Name y _] [] _ => decide (x = "isinstance") && C.glb x && decide (y = t.nm) && C.glb y && plainA a' && chkE C a a'
  | .bi b (e :: es), .Call (.Name x _) (e' :: es') [] _ => decide (x = b.nm) && C.glb x && plainA e' && chkE C e e' && chkEs C es es'
  | .call g es, .Call (.Name x _) es' [] _ => decide (C.gn g = some x) && C.fk g && C.glb x && notBug x && chkEs C es es'
  | .calle f es, .Call f' es' [] _ => (match f' with
    | .Call _ _ _ _ => true
    | _ => false) && !es'.isEmpty && chkE C f f' && chkEs C es es'
  | .pop a i, .Call (.Attribute a' m ap) [i'] [] cp => (match a' with
    | .Name _ _ => true
    | _ => false) && decide (m = "pop") && (ap.endLine == cp.line) && plainA i' && chkE C a a' && chkE C i i'
  | .dic kvs, .Dict keys values _ => decide (keys.length ≤ 15) && chkPs C kvs keys values
  | .me m o a, .Call (.Attribute o' n ap) [a'] [] cp => baseOk o' && decide (n = m.nm) && (ap.endLine == cp.line) && plainA a' && chkE C o o' && chkE C a a'
  | .get2 o k d, .Call (.Attribute o' n ap) [k', d'] [] cp => baseOk o' && decide (n = "get") && (ap.endLine == cp.line) && (plainA k' && plainA d') && chkE C o o' && chkE C k k' && chkE C d d'
  | .lrange a, .Call (.Name x _) [.Call (.Name y _) [a'] [] _] [] _ => decide (x = "list") && C.glb x && decide (y = "range") && C.glb y && plainA a' && chkE C a a'
  | .alloc e, e' => newish e' && chkE C e e'
  | .comp elt tg it c own, .ListComp elt' [⟨tg', it', ifs', 0⟩] scope _ => blkOk C scope own && noSet it' && (slotsT tg).all (fun i => own.contains i) && chkI C (isTup tg') it it' && chkT (C.blk scope.names) tg tg' &&
    chkE (C.blk scope.names) elt elt' && okT c && condC c ifs' (fun e' => chkE (C.blk scope.names) c e')
  | .comp2 elt tg it c tg1 it1 c1 own own1, .ListComp elt' [⟨tg', it', ifs', 0⟩, ⟨tg1', it1', ifs1', 0⟩] scope _ => blkOk C scope own && (noSet it' && noSet it1') && ((slotsT tg).all (fun i => own.contains i) && (slotsT tg1).all (fun i => own1.contains i) && own1.all (fun i => own.contains i)) &&
    chkI C (isTup tg') it it' && chkI (C.blk scope.names) (isTup tg1') it1 it1' && (chkT (C.blk scope.names) tg tg' && chkT (C.blk scope.names) tg1 tg1') && chkE (C.blk scope.names) elt elt' && (okT c && okT c1) &&
    (condC c ifs' (fun e' => chkE (C.blk scope.names) c e') && condC c1 ifs1' (fun e' => chkE (C.blk scope.names) c1 e'))
  | .glob g, .Name x _ => decide (C.gn g = some x) && C.glb x && notBug x && (C.gl g).isSome
  | _, _ => false
def chkEs (C : CC) : List E → List Expr → Bool
  | [], [] => true
  | e :: es, e' :: es' => plainA e' && chkE C e e' && chkEs C es es'
  | _, _ => false
def chkPs (C : CC) : List E → List (Option Expr) → List Expr → Bool
  | [], [], [] => true
  | k :: v :: r, some k' :: ks, v' :: vs => chkE C k k' && chkE C v v' && chkPs C r ks vs
  | _, _, _ => false
def chkI (C : CC) (tup : Bool) : I → Expr → Bool
  | .seq e, e' => chkE C e e'
  | .range a, .Call (.Name x _) [a'] [] _ => decide (x = "range") && C.glb x && plainA a' && chkE C a a'
  | .range2 a b, .Call (.Name x _) [a', b'] [] _ => decide (x = "range") && C.glb x && plainA a' && plainA b' && chkE C a a' && chkE C b b'
  | .zip a b, .Call (.Name x _) [a', b'] [] _ => tup && decide (x = "zip") && C.glb x && plainA a' && plainA b' && chkE C a a' && chkE C b b'
  | .zip3 a b c, .Call (.Name x _) [a', b', c'] [] _ => tup && decide (x = "zip") && C.glb x && plainA a' && plainA b' && plainA c' && chkE C a a' && chkE C b b' && chkE C c c'
  | .enum a, .Call (.Name x _) [a'] [] _ => tup && decide (x = "enumerate") && C.glb x && plainA a' && chkE C a a'
  | _, _ => false
end
end Mi
namespace Mi
open PySem PySem.Spec PyProof.Rows L2
structure Gs where
  K : PySem.W.Frag
  fa : Nat → Addr
  ca : Nat → Addr
def intsB : List Int → List Value → Bool
  | [], [] => true
  | n :: ns, .int m _ :: vs => decide (n = m) && intsB ns vs
  | _, _ => false
def tupHash (ns : List Int) : Int := reduceHash (Builtin.Tuple.tupleHashOf (ns.map hashInt))
def isTupB (K : PySem.W.Frag) (ns : List Int) (b : Addr) : Bool := match K.lookup b with
  | some ⟨.type c, _, .seq its _, _⟩ => decide (c = "tuple") && intsB ns its.toList
  | _ => false
def entsB (K : PySem.W.Frag) : List (List Int × Str) → List DictEntry → Bool
  | [], [] => true
  | (ns, x) :: r, ⟨h, .ref b, .str y _⟩ :: es => decide (h = tupHash ns) && isTupB K ns b && decide (x = y) && entsB K r es
  | _, _ => false
def tabB (K : PySem.W.Frag) (kvs : List (List Int × Str)) (a : Addr) : Bool := match K.lookup a with
  | some ⟨.type c, none, .dict es _, sl⟩ => decide (c = "dict") && sl.isEmpty && !(a == sysModules) && entsB K kvs es.toList && decide (kvs.map (·.1)).Nodup
  | _ => false
def keyD : Key → D
  | .inl i => .int i
  | .inr x => .str x
section
variable (G : Gs) (F : Hp) (ι : List Addr)
mutual
inductive Rel : V → D → Prop
  | non : Rel .non .non
  | bl (b : Bool) : Rel (.bl b) (.bl b)
  | int (i : Int) : Rel (.int i) (.int i)
  | str (x : Str) : Rel (.str x) (.str x)
  | tup {a : Addr} {xs : List V} {ds : List D} (h : SqT G.K F a xs) (hs : Rels xs ds) : Rel (.ref a) (.tup ds)
  | lst {a : Addr} {xs : List V} {ds : List D} (h : F a = some (.lst xs)) (hs : Rels xs ds) : Rel (.ref a) (.lst ds)
  | dic {a : Addr} {ks : List Key} {xs : List V} {ds : List D} (h : F a = some (.dK (ks.zip xs))) (hl : ks.length = xs.length) (hs : Rels xs ds) : Rel (.ref a) (.dic (ks.map keyD) ds)
  | ref {i : Nat} {a : Addr} (h : ι[i]? = some a) : Rel (.ref a) (.ref i)
  | fn (g : Nat) : Rel (.ref (G.fa g)) (.fn g)
  | cls (g : Nat) : Rel (.ref (G.ca g)) (.cls g)
  | scr {a : Addr} {ns : List Int} (h : SqL G.K F a (ns.map V.int)) : Rel (.ref a) (.scr ns)
  | tab {a : Addr} {kvs : List (List Int × Str)} (h : tabB G.K kvs a = true) : Rel (.ref a) (.tab kvs)
inductive Rels : List V → List D → Prop
  | nil : Rels [] []
  | cons {v : V} {vs : List V} {d : D} {ds : List D} (h : Rel v d) (hs : Rels vs ds) : Rels (v :: vs) (d :: ds)
end
end
def Pre (ι ι' : List Addr) : Prop := ∀ (i : Nat) (a : Addr), ι[i]? = some a → ι'[i]? = some a
theorem Pre.refl (ι : List Addr) : Pre ι ι := fun _ _ h => h
theorem Pre.trans {ι ι' ι'' : List Addr} (h : Pre ι ι') (h' : Pre ι' ι'') : Pre ι ι'' := fun i a e => h' i a (h i a e)
theorem sqT_mono {K : PySem.W.Frag} {F F' : Hp} {a : Addr} {xs : List V} (m : Same F F') (h : SqT K F a xs) : SqT K F' a xs := by
  rcases h with (h | ⟨o, h⟩) | h
  · exact .inl (.inl (m _ _ h))
  · exact .inl (.inr ⟨o, m _ _ h⟩)
  · exact .inr h
section
variable {G : Gs} {F F' H H' : Hp} {ι ι' : List Addr}
mutual
theorem Rel.mono (m : Same F F') (p : Pre ι ι') : ∀ {v : V} {d : D}, Rel G F ι v d → Rel G F' ι' v d
  | _, _, .non => .non
  | _, _, .bl b => .bl b
  | _, _, .int i => .int i
  | _, _, .str x => .str x
  | _, _, .tup h hs => .tup (sqT_mono m h) (Rels.mono m p hs)
  | _, _, .lst h hs => .lst (m _ _ h) (Rels.mono m p hs)
  | _, _, .dic h hl hs => .dic (m _ _ h) hl (Rels.mono m p hs)
  | _, _, .ref h => .ref (p _ _ h)
  | _, _, .fn g => .fn g
  | _, _, .cls g => .cls g
  | _, _, .scr h => .scr (m.seq h)
  | _, _, .tab h => .tab h
theorem Rels.mono (m : Same F F') (p : Pre ι ι') : ∀ {v : List V} {d : List D}, Rels G F ι v d → Rels G F' ι' v d
  | _, _, .nil => .nil
  | _, _, .cons h hs => .cons (Rel.mono m p h) (Rels.mono m p hs)
end
theorem Rels.length : ∀ {xs : List V} {ds : List D}, Rels G F ι xs ds → xs.length = ds.length
  | _, _, .nil => rfl
  | _, _, .cons _ hs => by simp [Rels.length hs]
theorem Rels.append : ∀ {xs ys : List V} {ds es : List D}, Rels G F ι xs ds → Rels G F ι ys es → Rels G F ι (xs ++ ys) (ds ++ es)
  | _, _, _, _, .nil, h => h
  | _, _, _, _, .cons h hs, h' => .cons h (Rels.append hs h')
theorem Rels.get : ∀ {xs : List V} {ds : List D} {i : Nat} {d : D}, Rels G F ι xs ds → ds[i]? = some d → ∃ v, xs[i]? = some v ∧ Rel G F ι v d
  | _, _, _, _, .nil, e => by simp at e
  | _, _, 0, _, .cons h _, e => by simp at e; subst e; exact ⟨_, rfl, h⟩
  | _, _, i + 1, _, .cons _ hs, e => by
    obtain ⟨v, e', h⟩ := Rels.get hs (by simpa using e)
    exact ⟨v, by simpa using e', h⟩
theorem Rels.getV : ∀ {xs : List V} {ds : List D} {i : Nat} {v : V}, Rels G F ι xs ds → xs[i]? = some v → ∃ d, ds[i]? = some d ∧ Rel G F ι v d
  | _, _, _, _, .nil, e => by simp at e
  | _, _, 0, _, .cons h _, e => by simp at e; subst e; exact ⟨_, rfl, h⟩
  | _, _, i + 1, _, .cons _ hs, e => by
    obtain ⟨v, e', h⟩ := Rels.getV hs (by simpa using e)
    exact ⟨v, by simpa using e', h⟩
theorem Rels.take : ∀ {xs : List V} {ds : List D} (n : Nat), Rels G F ι xs ds → Rels G F ι (xs.take n) (ds.take n)
  | _, _, 0, _ => .nil
  | _, _, _ + 1, .nil => .nil
  | _, _, n + 1, .cons h hs => .cons h (Rels.take n hs)
theorem Rels.drop : ∀ {xs : List V} {ds : List D} (n : Nat), Rels G F ι xs ds → Rels G F ι (xs.drop n) (ds.drop n)
  | _, _, 0, h => h
  | _, _, _ + 1, .nil => .nil
  | _, _, n + 1, .cons _ hs => Rels.drop n hs
theorem Rels.set {v : V} {d : D} (h : Rel G F ι v d) : ∀ {xs : List V} {ds : List D} (n : Nat), Rels G F ι xs ds → Rels G F ι (xs.set n v) (ds.set n d)
  | _, _, _, .nil => .nil
  | _, _, 0, .cons _ hs => .cons h hs
  | _, _, n + 1, .cons h' hs => .cons h' (Rels.set h n hs)
theorem Rels.erase : ∀ {xs : List V} {ds : List D} (n : Nat), Rels G F ι xs ds → Rels G F ι (xs.eraseIdx n) (ds.eraseIdx n)
  | _, _, _, .nil => .nil
  | _, _, 0, .cons _ hs => hs
  | _, _, n + 1, .cons h' hs => .cons h' (Rels.erase n hs)
theorem Rels.rep {xs : List V} {ds : List D} (h : Rels G F ι xs ds) : ∀ n, Rels G F ι (List.replicate n xs).flatten (rep n ds)
  | 0 => .nil
  | n + 1 => by
    show Rels G F ι (List.replicate (n + 1) xs).flatten (List.replicate (n + 1) ds).flatten
    rw [List.replicate_succ, List.replicate_succ, List.flatten_cons, List.flatten_cons]
    exact h.append (Rels.rep h n)
theorem Rels.rev : ∀ {xs : List V} {ds : List D}, Rels G F ι xs ds → Rels G F ι xs.reverse ds.reverse
  | _, _, .nil => .nil
  | _, _, .cons h hs => by
    rw [List.reverse_cons, List.reverse_cons]
    exact (Rels.rev hs).append (.cons h .nil)
theorem Rels.ints : ∀ {xs : List V} {ds : List D} {ns : List Int}, Rels G F ι xs ds → intsOf ds = some ns → xs = ns.map V.int
  | _, _, _, .nil, e => by simp [intsOf] at e; subst e; rfl
  | _, _, _, .cons h hs, e => by
    cases h with
    | int i =>
      simp only [intsOf, Option.map_eq_some_iff] at e
      obtain ⟨m, e', rfl⟩ := e
      rw [Rels.ints hs e']
      rfl
    | _ => simp [intsOf] at e
theorem Rels.bls : ∀ {xs : List V} {ds : List D} {ns : List Bool}, Rels G F ι xs ds → blsOf ds = some ns → xs = ns.map V.bl
  | _, _, _, .nil, e => by simp [blsOf] at e; subst e; rfl
  | _, _, _, .cons h hs, e => by
    cases h with
    | bl i =>
      simp only [blsOf, Option.map_eq_some_iff] at e
      obtain ⟨m, e', rfl⟩ := e
      rw [Rels.bls hs e']
      rfl
    | _ => simp [blsOf] at e
def ObjRel (G : Gs) (F : Hp) (ι : List Addr) (H : Hp) (a : Addr) : Ob → Prop
  | .lst ds => ∃ xs, H a = some (.lst xs) ∧ Rels G F ι xs ds
  | .dic ks ds => ∃ (kk : List Key) (xs : List V), H a = some (.dK (kk.zip xs)) ∧ kk.length = xs.length ∧ ks = kk.map keyD ∧ Rels G F ι xs ds
  | .ins _ _ => False
theorem ObjRel.there {a : Addr} {o : Ob} (h : ObjRel G F ι H a o) : ∃ u, H a = some u := by
  cases o with
  | lst ds => obtain ⟨xs, e, _⟩ := h; exact ⟨_, e⟩
  | dic ks vs => obtain ⟨kk, xs, e, _⟩ := h; exact ⟨_, e⟩
  | ins _ _ => exact h.elim
theorem ObjRel.mono {a : Addr} {o : Ob} (h : ObjRel G F ι H a o) (m : Same F F') (p : Pre ι ι') (e : ∀ u, H a = some u → H' a = some u) : ObjRel G F' ι' H' a o := by
  cases o with
  | lst ds => obtain ⟨xs, z, hs⟩ := h; exact ⟨xs, e _ z, hs.mono m p⟩
  | dic ks vs => obtain ⟨kk, xs, z, l, k, hs⟩ := h; exact ⟨kk, xs, e _ z, l, k, hs.mono m p⟩
  | ins _ _ => exact h.elim
theorem ObjRel.val {a : Addr} {o : Ob} (h : ObjRel G F ι H a o) (f : o.flat = true) (e : ∀ u, H a = some u → F a = some u) : Rel G F ι (.ref a) o.d := by
  cases o with
  | lst ds => obtain ⟨xs, z, hs⟩ := h; exact .lst (e _ z) hs
  | dic ks vs => obtain ⟨kk, xs, z, l, k, hs⟩ := h; subst k; exact .dic (e _ z) l hs
  | ins _ _ => exact h.elim
def RelX (G : Gs) (F : Hp) (ι : List Addr) (H : Hp) (v : V) (d : D) : Prop :=
  Rel G F ι v d ∨ ∃ a o, v = .ref a ∧ o.flat = true ∧ d = o.d ∧ ObjRel G F ι H a o
theorem RelX.lst {v : V} {ds : List D} (h : RelX G F ι H v (.lst ds)) (m : Same F H) : ∃ a xs, v = .ref a ∧ H a = some (.lst xs) ∧ Rels G F ι xs ds := by
  rcases h with h | ⟨a, o, rfl, f, e, h⟩
  · cases h with
    | lst h hs => exact ⟨_, _, rfl, m _ _ h, hs⟩
  · cases o with
    | lst es => cases e; obtain ⟨xs, z, hs⟩ := h; exact ⟨a, xs, rfl, z, hs⟩
    | dic _ _ => cases e
    | ins _ _ => cases f
theorem RelX.dic {v : V} {ks ds : List D} (h : RelX G F ι H v (.dic ks ds)) (m : Same F H) : ∃ (a : Addr) (kk : List Key) (xs : List V), v = .ref a ∧ H a = some (.dK (kk.zip xs)) ∧ kk.length = xs.length ∧ ks = kk.map keyD ∧ Rels G F ι xs ds := by
  rcases h with h | ⟨a, o, rfl, f, e, h⟩
  · cases h with
    | dic h l hs => exact ⟨_, _, _, rfl, m _ _ h, l, rfl, hs⟩
  · cases o with
    | lst es => cases e
    | dic _ _ => cases e; obtain ⟨kk, xs, z, l, k, hs⟩ := h; exact ⟨a, kk, xs, rfl, z, l, k, hs⟩
    | ins _ _ => cases f
theorem RelX.rel {v : V} {d : D} (h : RelX G F ι H v d) (h1 : ∀ ds, d ≠ .lst ds) (h2 : ∀ ks vs, d ≠ .dic ks vs) : Rel G F ι v d := by
  rcases h with h | ⟨a, o, rfl, f, rfl, h⟩
  · exact h
  · cases o with
    | lst es => exact absurd rfl (h1 _)
    | dic _ _ => exact absurd rfl (h2 _ _)
    | ins _ _ => cases f
theorem RelX.tup {v : V} {ds : List D} (h : RelX G F ι H v (.tup ds)) (m : Same F H) : ∃ a xs, v = .ref a ∧ SqT G.K H a xs ∧ Rels G F ι xs ds := by
  have q := h.rel (by intro _ z; cases z) (by intro _ _ z; cases z)
  cases q with
  | tup h2 hs => exact ⟨_, _, rfl, sqT_mono m h2, hs⟩
theorem RelX.int {v : V} {i : Int} (h : RelX G F ι H v (.int i)) : v = .int i := by
  have q := h.rel (by intro _ z; cases z) (by intro _ _ z; cases z)
  cases q; rfl
theorem RelX.bl {v : V} {i : Bool} (h : RelX G F ι H v (.bl i)) : v = .bl i := by
  have q := h.rel (by intro _ z; cases z) (by intro _ _ z; cases z)
  cases q; rfl
theorem RelX.str {v : V} {i : Str} (h : RelX G F ι H v (.str i)) : v = .str i := by
  have q := h.rel (by intro _ z; cases z) (by intro _ _ z; cases z)
  cases q; rfl
theorem RelX.non {v : V} (h : RelX G F ι H v .non) : v = .non := by
  have q := h.rel (by intro _ z; cases z) (by intro _ _ z; cases z)
  cases q; rfl
theorem RelX.scr {v : V} {ns : List Int} (h : RelX G F ι H v (.scr ns)) (m : Same F H) : ∃ a, v = .ref a ∧ SqL G.K H a (ns.map V.int) := by
  have q := h.rel (by intro _ z; cases z) (by intro _ _ z; cases z)
  cases q with
  | scr h2 => exact ⟨_, rfl, m.seq h2⟩
structure Grow (F H F' H' : Hp) : Prop where
  h : Same H H'
  f : Same F F'
  fh : Same F' H'
  new : ∀ a o, F' a = some o → F a = some o ∨ H a = none
theorem Grow.refl (m : Same F H) : Grow F H F H := ⟨Same.refl _, Same.refl _, m, fun _ _ e => .inl e⟩
theorem upd_same' {a : Addr} {o : HO} : upd H a o a = some o := upd_same
theorem same_upd {p : Addr} {o : HO} (h : H p = none) : Same H (upd H p o) := fun b x e => by
  rw [upd_ne (ne_of_none e h)]
  exact e
theorem Grow.frozen {p : Addr} {o : HO} (m : Same F H) (h : H p = none) : Grow F H (upd F p o) (upd H p o) := by
  have fp : F p = none := by
    cases e : F p with
    | none => rfl
    | some u => rw [m _ _ e] at h; cases h
  refine ⟨same_upd h, same_upd fp, fun b x e => ?_, fun b x e => ?_⟩
  · by_cases hb : b = p
    · subst hb
      rw [upd_same] at e ⊢
      exact e
    · rw [upd_ne hb] at e ⊢
      exact m _ _ e
  · by_cases hb : b = p
    · subst hb
      exact .inr h
    · rw [upd_ne hb] at e
      exact .inl e
theorem Grow.fresh {p : Addr} {o : HO} (m : Same F H) (h : H p = none) : Grow F H F (upd H p o) :=
  ⟨same_upd h, Same.refl _, m.trans (same_upd h), fun _ _ e => .inl e⟩
theorem Grow.trans {F1 H1 : Hp} (a : Grow F H F1 H1) (b : Grow F1 H1 F' H') : Grow F H F' H' := by
  refine ⟨a.h.trans b.h, a.f.trans b.f, b.fh, fun x o e => ?_⟩
  rcases b.new x o e with q | q
  · exact a.new x o q
  · refine .inr ?_
    cases z : H x with
    | none => rfl
    | some u => rw [a.h _ _ z] at q; cases q
def RelN (G : Gs) (F' : Hp) (ι : List Addr) (H H' : Hp) (v : V) : R → Prop
  | .val d => Rel G F' ι v d
  | .new o => ∃ a, v = .ref a ∧ ObjRel G F' ι H' a o ∧ F' a = none ∧ H a = none
def Res (G : Gs) (F : Hp) (ι : List Addr) (H : Hp) (r : R) (Q : VK) : Prop := ∀ F' v H', Grow F H F' H' → RelN G F' ι H H' v r → Q v H'
theorem Res.val {d : D} {v : V} {Q : VK} (h : Res G F ι H (.val d) Q) (m : Same F H) (r : Rel G F ι v d) : Q v H := h F v H (.refl m) r
theorem Res.tup {ds : List D} {xs : List V} {Q : VK} (h : Res G F ι H (.val (.tup ds)) Q) (m : Same F H) (r : Rels G F ι xs ds) : ∀ p, H p = none → Q (.ref p) (upd H p (.tup xs)) := fun p hp =>
  h _ _ _ (.frozen m hp) (.tup (.inl (.inl upd_same)) (r.mono (Grow.frozen (o := .tup xs) m hp).f (Pre.refl _)))
theorem Res.lst {ds : List D} {xs : List V} {Q : VK} (h : Res G F ι H (.new (.lst ds)) Q) (m : Same F H) (r : Rels G F ι xs ds) : ∀ p, H p = none → Q (.ref p) (upd H p (.lst xs)) := fun p hp => by
  refine h F _ _ (.fresh m hp) ⟨p, rfl, ⟨xs, upd_same, r⟩, ?_, hp⟩
  cases e : F p with
  | none => rfl
  | some u => rw [m _ _ e] at hp; cases hp
end
end Mi
namespace Mi
open PySem PySem.Spec PyProof.Rows L2
structure Act where
  G : Gs
  F0 : Hp
  ι0 : List Addr
  H0 : Hp
  n : Nat
def Owned (vs : List (Option V)) (e : Ev) (a : Addr) : Prop := ∃ (j : Nat) (o : Ob), e[j]? = some (some (.new o)) ∧ vs[j]? = some (some (.ref a))
structure Abs (c : Act) (F : Hp) (ι : List Addr) (vs : List (Option V)) (H : Hp) (e : Ev) (s : Sto) : Prop where
  len : vs.length = e.length
  le0 : Same c.F0 F
  le : Same F H
  new : ∀ a o, F a = some o → c.F0 a = some o ∨ c.H0 a = none
  pre : Pre c.ι0 ι
  nd : ι.Nodup
  inew : ∀ a ∈ ι, a ∈ c.ι0 ∨ c.H0 a = none
  sep : ∀ a ∈ ι, F a = none
  keep : ∀ a o, c.H0 a = some o → a ∉ c.ι0 → H a = some o
  lens : ι.length = s.length
  objs : ∀ (i : Nat) (a : Addr) (o : Ob), ι[i]? = some a → s[i]? = some o → ObjRel c.G F ι H a o
  val : ∀ (j : Nat) (d : D), e[j]? = some (some (.val d)) → ∃ v, vs[j]? = some (some v) ∧ Rel c.G F ι v d
  own : ∀ (j : Nat) (o : Ob), e[j]? = some (some (.new o)) → ∃ a, vs[j]? = some (some (.ref a)) ∧ ObjRel c.G F ι H a o ∧ F a = none ∧ a ∉ ι ∧ c.H0 a = none
  ownnd : ∀ (i j : Nat) (a : Addr) (p q : Ob), i ≠ j → e[i]? = some (some (.new p)) → e[j]? = some (some (.new q)) → vs[i]? = some (some (.ref a)) → vs[j]? = some (some (.ref a)) → False
def RelR (c : Act) (F : Hp) (ι : List Addr) (vs : List (Option V)) (H : Hp) (e : Ev) (v : V) : R → Prop
  | .val d => Rel c.G F ι v d
  | .new o => ∃ a, v = .ref a ∧ ObjRel c.G F ι H a o ∧ F a = none ∧ a ∉ ι ∧ c.H0 a = none ∧ ¬ Owned vs e a
def RelA (c : Act) (F : Hp) (ι : List Addr) (vs : List (Option V)) (v : V) : Ar → Prop
  | .v d => Rel c.G F ι v d
  | .s i => vs[i]? = some (some v)
section
variable {c : Act} {F F' H H' : Hp} {ι ι' : List Addr} {vs : List (Option V)} {e : Ev} {s : Sto}
theorem Abs.ιat (A : Abs c F ι vs H e s) {a : Addr} (h : a ∈ ι) : ∃ u, H a = some u := by
  obtain ⟨i, hi, e1⟩ := List.mem_iff_getElem.mp h
  have e2 : ι[i]? = some a := by rw [List.getElem?_eq_getElem hi, e1]
  have hs : i < s.length := by rw [← A.lens]; exact hi
  exact (A.objs i a _ e2 (List.getElem?_eq_getElem hs)).there
theorem Abs.fresh (A : Abs c F ι vs H e s) {p : Addr} (h : H p = none) : c.H0 p = none ∧ F p = none ∧ p ∉ ι ∧ ¬ Owned vs e p := by
  have hi : p ∉ ι := fun z => by
    obtain ⟨u, hu⟩ := A.ιat z
    rw [h] at hu; cases hu
  refine ⟨?_, ?_, hi, fun ⟨j, o, e1, e2⟩ => ?_⟩
  · cases z : c.H0 p with
    | none => rfl
    | some u =>
      have : p ∉ c.ι0 := fun q => hi (by
        obtain ⟨i, hi, e1⟩ := List.mem_iff_getElem.mp q
        exact List.mem_of_getElem? (A.pre i p (by rw [List.getElem?_eq_getElem hi, e1])))
      have := A.keep p u z this
      rw [h] at this; cases this
  · cases z : F p with
    | none => rfl
    | some u => have := A.le p u z; rw [h] at this; cases this
  · obtain ⟨a, e3, r, _⟩ := A.own j o e1
    rw [e2] at e3
    cases e3
    obtain ⟨u, hu⟩ := r.there
    rw [h] at hu; cases hu
theorem Abs.grow (A : Abs c F ι vs H e s) (g : Grow F H F' H') : Abs c F' ι vs H' e s := by
  have none_of : ∀ {a : Addr} {u : HO}, F a = none → H a = some u → F' a = none := fun {a u} hf hu => by
    cases z : F' a with
    | none => rfl
    | some w =>
      rcases g.new a w z with q | q
      · rw [hf] at q; cases q
      · rw [hu] at q; cases q
  refine { len := A.len, le0 := A.le0.trans g.f, le := g.fh, new := fun a o h => ?_, pre := A.pre, nd := A.nd, inew := A.inew, sep := fun a h => ?_, keep := fun a o h n => g.h _ _ (A.keep a o h n), lens := A.lens, objs := fun i a o h1 h2 => (A.objs i a o h1 h2).mono g.f (Pre.refl _) (fun u => g.h a u), val := fun j d h => ?_, own := fun j o h => ?_, ownnd := A.ownnd }
  · rcases g.new a o h with q | q
    · exact A.new a o q
    · exact .inr (A.fresh q).1
  · obtain ⟨u, hu⟩ := A.ιat h
    exact none_of (A.sep a h) hu
  · obtain ⟨v, h1, h2⟩ := A.val j d h
    exact ⟨v, h1, h2.mono g.f (Pre.refl _)⟩
  · obtain ⟨a, h1, h2, h3, h4, h5⟩ := A.own j o h
    obtain ⟨u, hu⟩ := h2.there
    exact ⟨a, h1, h2.mono g.f (Pre.refl _) (fun u => g.h a u), none_of h3 hu, h4, h5⟩
theorem RelN.relR (A : Abs c F ι vs H e s) (g : Grow F H F' H') {v : V} {r : R} (h : RelN c.G F' ι H H' v r) : RelR c F' ι vs H' e v r := by
  cases r with
  | val d => exact h
  | new o =>
    obtain ⟨a, rfl, h1, h2, h3⟩ := h
    obtain ⟨q1, q2, q3, q4⟩ := A.fresh h3
    exact ⟨a, rfl, h1, h2, q3, q1, q4⟩
theorem Abs.freeze (A : Abs c F ι vs H e s) {a : Addr} {u : HO} (hu : H a = some u) (hF : F a = none) (hι : a ∉ ι) (h0 : c.H0 a = none) (ho : ¬ Owned vs e a) : Abs c (upd F a u) ι vs H e s ∧ Same F (upd F a u) := by
  have m : Same F (upd F a u) := same_upd hF
  refine ⟨{ len := A.len, le0 := A.le0.trans m, le := fun b o h => ?_, new := fun b o h => ?_, pre := A.pre, nd := A.nd, inew := A.inew, sep := fun b h => ?_, keep := A.keep, lens := A.lens, objs := fun i a o h1 h2 => (A.objs i a o h1 h2).mono m (Pre.refl _) (fun u z => z), val := fun j d h => ?_, own := fun j o h => ?_, ownnd := A.ownnd }, m⟩
  · by_cases hb : b = a
    · subst hb; rw [upd_same] at h; cases h; exact hu
    · rw [upd_ne hb] at h; exact A.le b o h
  · by_cases hb : b = a
    · subst hb; exact .inr h0
    · rw [upd_ne hb] at h; exact A.new b o h
  · by_cases hb : b = a
    · subst hb; exact absurd h hι
    · rw [upd_ne hb]; exact A.sep b h
  · obtain ⟨v, h1, h2⟩ := A.val j d h
    exact ⟨v, h1, h2.mono m (Pre.refl _)⟩
  · obtain ⟨b, h1, h2, h3, h4, h5⟩ := A.own j o h
    refine ⟨b, h1, h2.mono m (Pre.refl _) (fun u z => z), ?_, h4, h5⟩
    by_cases hb : b = a
    · subst hb; exact absurd ⟨j, o, h, h1⟩ ho
    · rw [upd_ne hb]; exact h3
theorem RelR.frz (A : Abs c F ι vs H e s) {v : V} {r : R} (h : RelR c F ι vs H e v r) (f : r.flat = true) : ∃ F', Abs c F' ι vs H e s ∧ Same F F' ∧ Rel c.G F' ι v r.d := by
  cases r with
  | val d => exact ⟨F, A, Same.refl _, h⟩
  | new o =>
    obtain ⟨a, rfl, h1, h2, h3, h4, h5⟩ := h
    obtain ⟨u, hu⟩ := h1.there
    obtain ⟨B, m⟩ := A.freeze hu h2 h3 h4 h5
    refine ⟨_, B, m, (h1.mono m (Pre.refl _) (fun u z => z)).val f fun w hw => ?_⟩
    rw [hu] at hw
    cases hw
    exact upd_same
theorem get_lt {α : Type} {l : List α} {i : Nat} {x : α} (h : l[i]? = some x) : i < l.length := (List.getElem?_eq_some_iff.mp h).1
theorem Abs.setVal (A : Abs c F ι vs H e s) {i : Nat} {v : V} {d : D} (r : Rel c.G F ι v d) : Abs c F ι (vs.set i (some v)) H (e.set i (some (.val d))) s := by
  refine { A with len := by simpa using A.len, val := fun j d' h => ?_, own := fun j o h => ?_, ownnd := fun j k a p q hjk h1 h2 h3 h4 => ?_ }
  · by_cases hj : i = j
    · subst hj
      have hl := get_lt h
      rw [List.length_set] at hl
      rw [List.getElem?_set_self hl] at h
      cases h
      exact ⟨v, List.getElem?_set_self (by rw [A.len]; exact hl), r⟩
    · rw [List.getElem?_set_ne hj] at h ⊢
      exact A.val j d' h
  · by_cases hj : i = j
    · subst hj
      have hl := get_lt h
      rw [List.length_set] at hl
      rw [List.getElem?_set_self hl] at h
      cases h
    · rw [List.getElem?_set_ne hj] at h ⊢
      exact A.own j o h
  · by_cases hj : i = j
    · subst hj
      have hl := get_lt h1
      rw [List.length_set] at hl
      rw [List.getElem?_set_self hl] at h1
      cases h1
    · by_cases hk : i = k
      · subst hk
        have hl := get_lt h2
        rw [List.length_set] at hl
        rw [List.getElem?_set_self hl] at h2
        cases h2
      · rw [List.getElem?_set_ne hj] at h1 h3
        rw [List.getElem?_set_ne hk] at h2 h4
        exact A.ownnd j k a p q hjk h1 h2 h3 h4
theorem Abs.setNone (A : Abs c F ι vs H e s) (i : Nat) : Abs c F ι (vs.set i none) H (e.set i none) s := by
  refine { A with len := by simpa using A.len, val := fun j d' h => ?_, own := fun j o h => ?_, ownnd := fun j k a p q hjk h1 h2 h3 h4 => ?_ }
  · by_cases hj : i = j
    · subst hj
      have hl := get_lt h
      rw [List.length_set] at hl
      rw [List.getElem?_set_self hl] at h
      cases h
    · rw [List.getElem?_set_ne hj] at h ⊢
      exact A.val j d' h
  · by_cases hj : i = j
    · subst hj
      have hl := get_lt h
      rw [List.length_set] at hl
      rw [List.getElem?_set_self hl] at h
      cases h
    · rw [List.getElem?_set_ne hj] at h ⊢
      exact A.own j o h
  · by_cases hj : i = j
    · subst hj
      have hl := get_lt h1
      rw [List.length_set] at hl
      rw [List.getElem?_set_self hl] at h1
      cases h1
    · by_cases hk : i = k
      · subst hk
        have hl := get_lt h2
        rw [List.length_set] at hl
        rw [List.getElem?_set_self hl] at h2
        cases h2
      · rw [List.getElem?_set_ne hj] at h1 h3
        rw [List.getElem?_set_ne hk] at h2 h4
        exact A.ownnd j k a p q hjk h1 h2 h3 h4
theorem Abs.setR (A : Abs c F ι vs H e s) {i : Nat} {v : V} {r : R} (hr : RelR c F ι vs H e v r) : Abs c F ι (vs.set i (some v)) H (e.set i (some r)) s := by
  cases r with
  | val d => exact A.setVal hr
  | new o =>
    obtain ⟨b, rfl, h1, h2, h3, h4, h5⟩ := hr
    have h5' : ∀ (j : Nat) (p : Ob), e[j]? = some (some (.new p)) → vs[j]? = some (some (.ref b)) → False := fun j p x y => h5 ⟨j, p, x, y⟩
    refine { A with len := by simpa using A.len, val := fun j d' h => ?_, own := fun j o h => ?_, ownnd := fun j k a p q hjk k1 k2 k3 k4 => ?_ }
    · by_cases hj : i = j
      · subst hj
        have hl := get_lt h
        rw [List.length_set] at hl
        rw [List.getElem?_set_self hl] at h
        cases h
      · rw [List.getElem?_set_ne hj] at h ⊢
        exact A.val j d' h
    · by_cases hj : i = j
      · subst hj
        have hl := get_lt h
        rw [List.length_set] at hl
        rw [List.getElem?_set_self hl] at h
        cases h
        exact ⟨b, List.getElem?_set_self (by rw [A.len]; exact hl), h1, h2, h3, h4⟩
      · rw [List.getElem?_set_ne hj] at h ⊢
        exact A.own j o h
    · by_cases hj : i = j
      · subst hj
        have hl := get_lt k3
        rw [List.length_set] at hl
        rw [List.getElem?_set_self hl] at k3
        cases k3
        rw [List.getElem?_set_ne hjk] at k2 k4
        exact h5' k q k2 k4
      · by_cases hk : i = k
        · subst hk
          have hl := get_lt k4
          rw [List.length_set] at hl
          rw [List.getElem?_set_self hl] at k4
          cases k4
          rw [List.getElem?_set_ne hj] at k1 k3
          exact h5' j p k1 k3
        · rw [List.getElem?_set_ne hj] at k1 k3
          rw [List.getElem?_set_ne hk] at k2 k4
          exact A.ownnd j k a p q hjk k1 k2 k3 k4
theorem Abs.frzSlot (A : Abs c F ι vs H e s) {i : Nat} {o : Ob} (h : e[i]? = some (some (.new o))) (f : o.flat = true) :
    ∃ F' v, Abs c F' ι vs H (e.set i (some (.val o.d))) s ∧ Same F F' ∧ vs[i]? = some (some v) ∧ Rel c.G F' ι v o.d := by
  obtain ⟨a, h1, h2, h3, h4, h5⟩ := A.own i o h
  obtain ⟨u, hu⟩ := h2.there
  -- the slot forgotten first
  have hl := get_lt h
  have B : Abs c F ι vs H (e.set i none) s := by
    refine { A with len := by simpa using A.len, val := fun j d' q => ?_, own := fun j o q => ?_, ownnd := fun j k a p q hjk k1 k2 k3 k4 => ?_ }
    · by_cases hj : i = j
      · subst hj; rw [List.getElem?_set_self hl] at q; cases q
      · rw [List.getElem?_set_ne hj] at q; exact A.val j d' q
    · by_cases hj : i = j
      · subst hj; rw [List.getElem?_set_self hl] at q; cases q
      · rw [List.getElem?_set_ne hj] at q; exact A.own j o q
    · by_cases hj : i = j
      · subst hj; rw [List.getElem?_set_self hl] at k1; cases k1
      · by_cases hk : i = k
        · subst hk; rw [List.getElem?_set_self hl] at k2; cases k2
        · rw [List.getElem?_set_ne hj] at k1
          rw [List.getElem?_set_ne hk] at k2
          exact A.ownnd j k a p q hjk k1 k2 k3 k4
  have no : ¬ Owned vs (e.set i none) a := fun ⟨j, p, k1, k2⟩ => by
    by_cases hj : i = j
    · subst hj; rw [List.getElem?_set_self hl] at k1; cases k1
    · rw [List.getElem?_set_ne hj] at k1
      exact A.ownnd i j a o p hj h k1 h1 k2
  obtain ⟨C, m⟩ := B.freeze hu h3 h4 h5 no
  have r : Rel c.G (upd F a u) ι (.ref a) o.d := (h2.mono m (Pre.refl _) (fun u z => z)).val f fun w hw => by
    rw [hu] at hw; cases hw; exact upd_same
  refine ⟨_, .ref a, ?_, m, h1, r⟩
  have C2 := C.setVal (i := i) r
  rw [List.set_set] at C2
  have : vs.set i (some (.ref a)) = vs := by
    apply List.ext_getElem?
    intro j
    by_cases hj : i = j
    · subst hj
      rw [List.getElem?_set_self (get_lt h1), h1]
    · rw [List.getElem?_set_ne hj]
  rw [this] at C2
  exact C2
end
end Mi
namespace Mi
open PySem PySem.Spec PyProof.Rows L2
theorem rep_nil (n : Nat) : rep n [] = [] := by simp [rep]
theorem rep_one (ds : List D) : rep 1 ds = ds := by simp [rep]
theorem line_eq : sizeLine = line := sizeLine_eq
section
variable {G : Gs} {F H : Hp} {ι : List Addr}
mutual
theorem plain_py : ∀ d : D, d.plain = true → d.py.canLay0 = true
  | .non, _ => by simp [D.py, PyData.canLay0]
  | .bl _, _ => by simp [D.py, PyData.canLay0]
  | .int _, _ => by simp [D.py, PyData.canLay0]
  | .str x, h => by simpa [D.py, PyData.canLay0, D.plain] using h
  | .tup ds, h => by simpa [D.py, PyData.canLay0] using plains_py ds (by simpa [D.plain] using h)
  | .lst ds, h => by simpa [D.py, PyData.canLay0] using plains_py ds (by simpa [D.plain] using h)
  | .dic _ _, h => by simp [D.plain] at h
  | .ref _, h => by simp [D.plain] at h
  | .fn _, h => by simp [D.plain] at h
  | .cls _, h => by simp [D.plain] at h
  | .scr _, h => by simp [D.plain] at h
theorem plains_py : ∀ ds : List D, plains ds = true → PyData.canLayAll0 (pys ds) = true
  | [], _ => by simp [pys, PyData.canLayAll0]
  | d :: ds, h => by
    have h' : d.plain = true ∧ plains ds = true := by simpa [plains] using h
    simp [pys, PyData.canLayAll0, plain_py d h'.1, plains_py ds h'.2]
end
mutual
theorem depth_py : ∀ d : D, d.plain = true → d.py.depth = d.depth
  | .non, _ => by simp [D.py, PyData.depth, D.depth]
  | .bl _, _ => by simp [D.py, PyData.depth, D.depth]
  | .int _, _ => by simp [D.py, PyData.depth, D.depth]
  | .str x, h => by simp [D.py, PyData.depth, D.depth]
  | .tup ds, h => by simpa [D.py, PyData.depth, D.depth] using depths_py ds (by simpa [D.plain] using h)
  | .lst ds, h => by simpa [D.py, PyData.depth, D.depth] using depths_py ds (by simpa [D.plain] using h)
  | .dic _ _, h => by simp [D.plain] at h
  | .ref _, h => by simp [D.plain] at h
  | .fn _, h => by simp [D.plain] at h
  | .cls _, h => by simp [D.plain] at h
  | .scr _, h => by simp [D.plain] at h
theorem depths_py : ∀ ds : List D, plains ds = true → PyData.depthAll (pys ds) = depths ds
  | [], _ => by simp [pys, PyData.depthAll, depths]
  | d :: ds, h => by
    have h' : d.plain = true ∧ plains ds = true := by simpa [plains] using h
    simp [pys, PyData.depthAll, depths, depth_py d h'.1, depths_py ds h'.2]
end
mutual
theorem show_py : ∀ d : D, d.show = true → d.py.showable = true
  | .non, _ => by simp [D.py, PyData.showable]
  | .bl _, _ => by simp [D.py, PyData.showable]
  | .int _, h => by simpa [D.py, PyData.showable, D.show] using h
  | .str _, _ => by simp [D.py, PyData.showable]
  | .tup ds, h => by simpa [D.py, PyData.showable] using shows_py ds (by simpa [D.show] using h)
  | .lst ds, h => by simpa [D.py, PyData.showable] using shows_py ds (by simpa [D.show] using h)
  | .dic ks vs, h => by
    have h' : shows ks = true ∧ shows vs = true := by simpa [D.show] using h
    have h1 := shows_py ks h'.1
    have h2 := shows_py vs h'.2
    have go : ∀ (a b : List PyData), PyData.showableAll a = true → PyData.showableAll b = true → PyData.showableKv (a.zip b) = true := fun a => by
      induction a with
      | nil => intro b _ _; simp [PyData.showableKv]
      | cons x a ih =>
        intro b h3 h4
        cases b with
        | nil => simp [PyData.showableKv]
        | cons y b =>
          simp only [PyData.showableAll, Bool.and_eq_true] at h3 h4
          simp only [List.zip_cons_cons, PyData.showableKv, Bool.and_eq_true]
          exact ⟨⟨h3.1, h4.1⟩, ih b h3.2 h4.2⟩
    simp only [D.py, PyData.showable]
    exact go _ _ h1 h2
  | .ref _, h => by simp [D.show] at h
  | .fn _, h => by simp [D.show] at h
  | .cls _, h => by simp [D.show] at h
  | .scr _, h => by simp [D.show] at h
theorem shows_py : ∀ ds : List D, shows ds = true → PyData.showableAll (pys ds) = true
  | [], _ => by simp [pys, PyData.showableAll]
  | d :: ds, h => by
    have h' : d.show = true ∧ shows ds = true := by simpa [shows] using h
    simp [pys, PyData.showableAll, show_py d h'.1, shows_py ds h'.2]
end
theorem cmp_shaped {d : D} (h : d.cmp = true) : SeqAt.shaped d.py = true := by
  have h' : d.plain = true ∧ d.depth ≤ 60 := by simpa [D.cmp] using h
  unfold SeqAt.shaped
  rw [plain_py d h'.1, depth_py d h'.1]
  simp
  omega
mutual
theorem eqv_py : ∀ d e : D, d.plain = true → e.plain = true → PyData.eqv d.py e.py = eqv d e
  | .non, e, _, h => by cases e <;> simp_all [D.plain, D.py, PyData.eqv, eqv]
  | .bl _, e, _, h => by cases e <;> simp_all [D.plain, D.py, PyData.eqv, eqv]
  | .int _, e, _, h => by cases e <;> simp_all [D.plain, D.py, PyData.eqv, eqv]
  | .str _, e, _, h => by cases e <;> simp_all [D.plain, D.py, PyData.eqv, eqv]
  | .tup ds, e, hd, h => by
    cases e with
    | tup es => simpa [D.py, PyData.eqv, eqv] using eqvs_py ds es (by simpa [D.plain] using hd) (by simpa [D.plain] using h)
    | _ => simp_all [D.plain, D.py, PyData.eqv, eqv]
  | .lst ds, e, hd, h => by
    cases e with
    | lst es => simpa [D.py, PyData.eqv, eqv] using eqvs_py ds es (by simpa [D.plain] using hd) (by simpa [D.plain] using h)
    | _ => simp_all [D.plain, D.py, PyData.eqv, eqv]
  | .dic _ _, _, h, _ => by simp [D.plain] at h
  | .ref _, _, h, _ => by simp [D.plain] at h
  | .fn _, _, h, _ => by simp [D.plain] at h
  | .cls _, _, h, _ => by simp [D.plain] at h
  | .scr _, _, h, _ => by simp [D.plain] at h
theorem eqvs_py : ∀ ds es : List D, plains ds = true → plains es = true → PyData.eqvAll (pys ds) (pys es) = eqvs ds es
  | [], es, _, h => by cases es <;> simp [pys, PyData.eqvAll, eqvs]
  | d :: ds, es, hd, h => by
    cases es with
    | nil => simp [pys, PyData.eqvAll, eqvs]
    | cons e es =>
      have h1 : d.plain = true ∧ plains ds = true := by simpa [plains] using hd
      have h2 : e.plain = true ∧ plains es = true := by simpa [plains] using h
      simp [pys, PyData.eqvAll, eqvs, eqv_py d e h1.1 h2.1, eqvs_py ds es h1.2 h2.2]
end
theorem any_py {x : D} (hx : x.plain = true) : ∀ ds : List D, plains ds = true → ((pys ds).any fun z => PyData.eqv z x.py) = ds.any fun z => eqv z x
  | [], _ => by simp [pys]
  | d :: ds, h => by
    have h' : d.plain = true ∧ plains ds = true := by simpa [plains] using h
    simp [pys, eqv_py d x h'.1 hx, any_py hx ds h'.2]
mutual
theorem Rel.dp (m : Same F H) : ∀ {v : V} {d : D}, Rel G F ι v d → d.plain = true → Dp G.K H v d.py
  | _, _, .non, _ => .non
  | _, _, .bl b, _ => .bl b
  | _, _, .int i, _ => .int i
  | _, _, .str x, _ => .str x
  | _, _, .tup h hs, p => .tup (sqT_mono m h) (Rels.dp m hs (by simpa [D.plain] using p))
  | _, _, .lst h hs, p => .lst (.inl (.inl (m _ _ h))) (Rels.dp m hs (by simpa [D.plain] using p))
  | _, _, .dic _ _ _, p => by simp [D.plain] at p
  | _, _, .ref _, p => by simp [D.plain] at p
  | _, _, .fn _, p => by simp [D.plain] at p
  | _, _, .cls _, p => by simp [D.plain] at p
  | _, _, .scr _, p => by simp [D.plain] at p
theorem Rels.dp (m : Same F H) : ∀ {v : List V} {d : List D}, Rels G F ι v d → plains d = true → DpAll G.K H v (pys d)
  | _, _, .nil, _ => .nil
  | _, _, .cons h hs, p => by
    have h' := (show _ ∧ _ by simpa [plains] using p)
    exact .cons (Rel.dp m h h'.1) (Rels.dp m hs h'.2)
end
theorem RelX.dp {v : V} {d : D} (h : RelX G F ι H v d) (m : Same F H) (p : d.plain = true) : Dp G.K H v d.py := by
  rcases h with h | ⟨a, o, rfl, f, rfl, h⟩
  · exact h.dp m p
  · cases o with
    | lst ds =>
      obtain ⟨xs, e, hs⟩ := h
      exact .lst (.inl (.inl e)) (hs.dp m (by simpa [D.plain] using p))
    | dic _ _ => simp [D.plain] at p
    | ins _ _ => cases f
def rD2 (G : Gs) (f : D → D → Option R) : R2 := fun x y H Q => ∃ F ι dx dy r, Same F H ∧ RelX G F ι H x dx ∧ RelX G F ι H y dy ∧ f dx dy = some r ∧ Res G F ι H r Q
def rD1 (G : Gs) (f : D → Option R) : V → Hp → VK → Prop := fun x H Q => ∃ F ι dx r, Same F H ∧ RelX G F ι H x dx ∧ f dx = some r ∧ Res G F ι H r Q
end
section
variable {X : Cx} {G : Gs}
theorem opD (hK : X.K = G.K) (op : Operator) : OpR X (binaryOp op) (rD2 G (binD op)) := by
  intro pins s σ H x y v u Q I rx ry h
  obtain ⟨F, ι, dx, dy, r, m, hx, hy, e, hr⟩ := h
  unfold binD at e
  split at e
  · cases e; obtain rfl := hx.int; obtain rfl := hy.int
    exact op_add pins s σ H _ _ v u Q I rx ry ⟨_, _, rfl, rfl, hr.val m (.int _)⟩
  · split at e
    · cases e
      rename_i hl
      obtain ⟨a, xs, rfl, hA, ra⟩ := hx.tup m
      obtain ⟨b, ys, rfl, hB, rb⟩ := hy.tup m
      refine op_catA pins s σ H _ _ v u Q I rx ry ⟨a, b, xs, ys, rfl, rfl, by rw [hK]; exact hA, by rw [hK]; exact hB, by rw [ra.length, rb.length, line_eq]; exact hl, fun z => ?_, fun z1 z => ?_, fun z1 z2 => hr.tup m (ra.append rb)⟩
      · subst z
        cases ra
        refine hr.val m ?_
        simp only [List.nil_append]
        exact hy.rel (by intro _ z; cases z) (by intro _ _ z; cases z)
      · subst z
        cases rb
        refine hr.val m ?_
        simp only [List.append_nil]
        exact hx.rel (by intro _ z; cases z) (by intro _ _ z; cases z)
    · cases e
  · split at e
    · cases e
      rename_i hl
      obtain ⟨a, xs, rfl, hA, ra⟩ := hx.lst m
      obtain ⟨b, ys, rfl, hB, rb⟩ := hy.lst m
      exact op_cat pins s σ H _ _ v u Q I rx ry ⟨a, b, xs, ys, rfl, rfl, hA, hB, by rw [ra.length, rb.length, line_eq]; exact hl, hr.lst m (ra.append rb)⟩
    · cases e
  · split at e
    · cases e
      rename_i hl
      obtain rfl := hx.str; obtain rfl := hy.str
      exact op_add_str pins s σ H _ _ v u Q I rx ry ⟨_, _, rfl, rfl, by rw [line_eq]; exact hl, hr.val m (.str _)⟩
    · cases e
  · cases e; obtain rfl := hx.int; obtain rfl := hy.int
    exact op_sub pins s σ H _ _ v u Q I rx ry ⟨_, _, rfl, rfl, hr.val m (.int _)⟩
  · split at e
    · cases e
      rename_i hl
      obtain rfl := hx.int; obtain rfl := hy.int
      refine op_mul pins s σ H _ _ v u Q I rx ry ⟨_, _, rfl, rfl, ?_, hr.val m (.int _)⟩
      simp only [mulOk, Bool.or_eq_true, decide_eq_true_eq] at hl
      rcases hl with hl | hl
      · left; omega
      · right; omega
    · cases e
  · split at e
    · cases e
      rename_i hl
      obtain ⟨a, xs, rfl, hA, ra⟩ := hx.tup m
      obtain rfl := hy.int
      refine op_repA pins s σ H _ _ v u Q I rx ry ⟨a, _, xs, rfl, rfl, by rw [hK]; exact hA, by omega, by omega, by rw [ra.length]; exact hl.1, fun z => ?_, fun z => hr.tup m (ra.rep _)⟩
      refine hr.val m ?_
      rcases z with z | z
      · subst z
        cases ra
        rw [rep_nil]
        exact hx.rel (by intro _ z; cases z) (by intro _ _ z; cases z)
      · subst z
        rw [show (1 : Int).toNat = 1 from rfl, rep_one]
        exact hx.rel (by intro _ z; cases z) (by intro _ _ z; cases z)
    · cases e
  · split at e
    · cases e
      rename_i hl
      obtain ⟨a, xs, rfl, hA, ra⟩ := hx.lst m
      obtain rfl := hy.int
      exact op_rep pins s σ H _ _ v u Q I rx ry ⟨a, _, xs, rfl, rfl, hA, by have := hl.2; simp only [line] at this; omega, by have := hl.2; simp only [line] at this; omega, by rw [ra.length, line_eq]; exact hl.1, hr.lst m (ra.rep _)⟩
    · cases e
  · split at e
    · cases e
      rename_i hl
      obtain rfl := hx.int; obtain rfl := hy.int
      exact op_modN pins s σ H _ _ v u Q I rx ry ⟨_, _, rfl, rfl, hl, hr.val m (.int _)⟩
    · cases e
  · split at e
    · cases e
      rename_i hl
      obtain rfl := hx.int; obtain rfl := hy.int
      exact op_fdivN pins s σ H _ _ v u Q I rx ry ⟨_, _, rfl, rfl, hl, hr.val m (.int _)⟩
    · cases e
  · split at e
    · cases e
      rename_i hl
      obtain rfl := hx.int; obtain rfl := hy.int
      exact op_pow pins s σ H _ _ v u Q I rx ry ⟨_, _, rfl, rfl, ⟨hl.1, hl.2.1, by have := hl.2.2; omega⟩, hr.val m (.int _)⟩
    · cases e
  · cases e; obtain rfl := hx.bl; obtain rfl := hy.int
    cases rx
    obtain ⟨t, rfl⟩ := ry
    exact IntBool.add_bool_int ⟨.int _, H, I.tok _, ⟨_, rfl⟩, hr.val m (.int _)⟩
  · cases e; obtain rfl := hx.bl; obtain rfl := hy.int
    cases rx
    obtain ⟨t, rfl⟩ := ry
    exact IntBool.sub_bool_int ⟨.int _, H, I.tok _, ⟨_, rfl⟩, hr.val m (.int _)⟩
  · cases e; obtain rfl := hx.int; obtain rfl := hy.bl
    cases ry
    obtain ⟨t, rfl⟩ := rx
    exact IntBool.sub_int_bool ⟨.int _, H, I.tok _, ⟨_, rfl⟩, hr.val m (.int _)⟩
  · cases e
theorem eqv_non {x : D} {v : V} {G : Gs} {F H : Hp} {ι : List Addr} (h : RelX G F ι H v x) (hx : x ≠ .non) : v ≠ .non := by
  rcases h with h | ⟨a, o, rfl, _, _, _⟩
  · cases h <;> first | exact absurd rfl hx | (intro z; cases z)
  · intro z; cases z
def rInT (K : PySem.W.Frag) : R2 := fun x y H Q => ∃ d ds, Dp K H x d ∧ Dp K H y (.tuple ds) ∧ SeqAt.shaped d = true ∧ SeqAt.shaped (.tuple ds) = true ∧ Q (.bl (ds.any fun z => PyData.eqv z d)) H
def rNotInT (K : PySem.W.Frag) : R2 := fun x y H Q => ∃ d ds, Dp K H x d ∧ Dp K H y (.tuple ds) ∧ SeqAt.shaped d = true ∧ SeqAt.shaped (.tuple ds) = true ∧ Q (.bl (!ds.any fun z => PyData.eqv z d)) H
theorem op_inT (hu : X.A.units + 65 < cLine) : OpR X (compareOp .In) (rInT X.K) := by
  intro pins s σ H x y v u Q I rx ry h
  obtain ⟨d, ds, hd, he, sd, se, q⟩ := h
  obtain ⟨as, r1⟩ := Dp.reads I d x v hd rx
  obtain ⟨bs, r2⟩ := Dp.reads I (.tuple ds) y u he ry
  exact SeqAt.in_tuple_reads r2 r1 (SeqAt.canLay_of_shaped se) (SeqAt.canLay_of_shaped sd) (room_in_shaped sd hu) ⟨.bl _, H, I, rfl, q⟩
theorem op_notInT (hu : X.A.units + 65 < cLine) : OpR X (compareOp .NotIn) (rNotInT X.K) := by
  intro pins s σ H x y v u Q I rx ry h
  obtain ⟨d, ds, hd, he, sd, se, q⟩ := h
  obtain ⟨as, r1⟩ := Dp.reads I d x v hd rx
  obtain ⟨bs, r2⟩ := Dp.reads I (.tuple ds) y u he ry
  exact SeqAt.notIn_tuple_reads r2 r1 (SeqAt.canLay_of_shaped se) (SeqAt.canLay_of_shaped sd) (room_in_shaped sd hu) ⟨.bl _, H, I, rfl, q⟩
theorem cmp_both {x y : D} (h : (x.cmp && y.cmp) = true) : x.cmp = true ∧ y.cmp = true := by simpa using h
theorem cmp_plain {x : D} (h : x.cmp = true) : x.plain = true := by
  have h' : x.plain = true ∧ x.depth ≤ 60 := by simpa [D.cmp] using h
  exact h'.1
theorem eqD (hK : X.K = G.K) (hu : X.A.units + 65 < cLine) : OpR X (compareOp .Eq) (rD2 G fun x y => blR (cmpD .Eq x y)) := by
  intro pins s σ H x y v u Q I rx ry h
  obtain ⟨F, ι, dx, dy, r, m, hx, hy, e, hr⟩ := h
  simp only [blR, Option.map_eq_some_iff] at e
  obtain ⟨b, e, rfl⟩ := e
  unfold cmpD at e
  simp only at e
  split at e
  · cases e
    obtain rfl := hx.str; obtain rfl := hy.str
    refine op_eq pins s σ H _ _ v u Q I rx ry ⟨rfl, ?_⟩
    rw [dec_str]
    exact hr.val m (.bl _)
  · split at e
    · cases e
      rename_i hc
      obtain ⟨c1, c2⟩ := cmp_both hc
      refine op_eqD (by omega) pins s σ H _ _ v u Q I rx ry ⟨dx.py, dy.py, by rw [hK]; exact hx.dp m (cmp_plain c1), by rw [hK]; exact hy.dp m (cmp_plain c2), cmp_shaped c1, cmp_shaped c2, ?_⟩
      rw [eqv_py dx dy (cmp_plain c1) (cmp_plain c2)]
      exact hr.val m (.bl _)
    · unfold nilEq at e
      split at e
      · cases e
        rename_i ds _ _
        obtain ⟨a, xs, rfl, hA, ra⟩ := hx.tup m
        obtain ⟨b, ys, rfl, hB, rb⟩ := hy.tup m
        cases rb
        cases rx
        cases ry
        obtain ⟨its, r1, p1, _⟩ := I.tuple (hK ▸ hA)
        obtain ⟨its2, r2, p2, _⟩ := I.tuple (hK ▸ hB)
        cases r2
        refine SeqAt.eq_tupleAt (e := fun _ => true) p1 p2 (by omega) (fun j _ h2 => absurd h2 (by simp)) ?_
        have hz : ((List.range (min its.toArray.size ([] : List Value).toArray.size)).all (fun _ => true) && its.toArray.size == ([] : List Value).toArray.size) = ds.isEmpty := by
          cases ra with
          | nil => cases r1; rfl
          | cons _ _ => cases r1; simp
        rw [hz]
        exact ⟨.bl _, H, I, rfl, hr.val m (.bl _)⟩
      · cases e
theorem neD (hK : X.K = G.K) (hu : X.A.units + 65 < cLine) : OpR X (compareOp .NotEq) (rD2 G fun x y => blR (cmpD .NotEq x y)) := by
  intro pins s σ H x y v u Q I rx ry h
  obtain ⟨F, ι, dx, dy, r, m, hx, hy, e, hr⟩ := h
  simp only [blR, Option.map_eq_some_iff] at e
  obtain ⟨b, e, rfl⟩ := e
  unfold cmpD at e
  simp only at e
  split at e
  · cases e
    obtain rfl := hx.str; obtain rfl := hy.str
    refine op_ne pins s σ H _ _ v u Q I rx ry ⟨rfl, ?_⟩
    rw [dec_str]
    exact hr.val m (.bl _)
  · split at e
    · cases e
      rename_i hc
      obtain ⟨c1, c2⟩ := cmp_both hc
      refine op_neD (by omega) pins s σ H _ _ v u Q I rx ry ⟨dx.py, dy.py, by rw [hK]; exact hx.dp m (cmp_plain c1), by rw [hK]; exact hy.dp m (cmp_plain c2), cmp_shaped c1, cmp_shaped c2, ?_⟩
      rw [eqv_py dx dy (cmp_plain c1) (cmp_plain c2)]
      exact hr.val m (.bl _)
    · cases e
theorem inD (hK : X.K = G.K) (hu : X.A.units + 65 < cLine) : OpR X (compareOp .In) (rD2 G fun x y => blR (cmpD .In x y)) := by
  intro pins s σ H x y v u Q I rx ry h
  obtain ⟨F, ι, dx, dy, r, m, hx, hy, e, hr⟩ := h
  simp only [blR, Option.map_eq_some_iff] at e
  obtain ⟨b, e, rfl⟩ := e
  unfold cmpD at e
  simp only at e
  split at e
  · split at e
    · cases e
      rename_i ys hc
      obtain ⟨c1, c2⟩ := cmp_both hc
      have d2 := hy.dp m (cmp_plain c2)
      have s2 := cmp_shaped c2
      rw [D.py] at d2 s2
      refine op_inT hu pins s σ H _ _ v u Q I rx ry ⟨dx.py, pys ys, by rw [hK]; exact hx.dp m (cmp_plain c1), by rw [hK]; exact d2, cmp_shaped c1, s2, ?_⟩
      rw [any_py (cmp_plain c1) ys (by simpa [D.plain] using cmp_plain c2)]
      exact hr.val m (.bl _)
    · cases e
  · split at e
    · cases e
      rename_i ys hc
      obtain ⟨c1, c2⟩ := cmp_both hc
      have d2 := hy.dp m (cmp_plain c2)
      have s2 := cmp_shaped c2
      rw [D.py] at d2 s2
      refine op_inD hu pins s σ H _ _ v u Q I rx ry ⟨dx.py, pys ys, by rw [hK]; exact hx.dp m (cmp_plain c1), by rw [hK]; exact d2, cmp_shaped c1, s2, ?_⟩
      rw [any_py (cmp_plain c1) ys (by simpa [D.plain] using cmp_plain c2)]
      exact hr.val m (.bl _)
    · cases e
  · cases e
theorem notInD (hK : X.K = G.K) (hu : X.A.units + 65 < cLine) : OpR X (compareOp .NotIn) (rD2 G fun x y => blR (cmpD .NotIn x y)) := by
  intro pins s σ H x y v u Q I rx ry h
  obtain ⟨F, ι, dx, dy, r, m, hx, hy, e, hr⟩ := h
  simp only [blR, Option.map_eq_some_iff] at e
  obtain ⟨b, e, rfl⟩ := e
  unfold cmpD at e
  simp only at e
  split at e
  · split at e
    · cases e
      rename_i ys hc
      obtain ⟨c1, c2⟩ := cmp_both hc
      have d2 := hy.dp m (cmp_plain c2)
      have s2 := cmp_shaped c2
      rw [D.py] at d2 s2
      refine op_notInT hu pins s σ H _ _ v u Q I rx ry ⟨dx.py, pys ys, by rw [hK]; exact hx.dp m (cmp_plain c1), by rw [hK]; exact d2, cmp_shaped c1, s2, ?_⟩
      rw [any_py (cmp_plain c1) ys (by simpa [D.plain] using cmp_plain c2)]
      exact hr.val m (.bl _)
    · cases e
  · split at e
    · cases e
      rename_i ys hc
      obtain ⟨c1, c2⟩ := cmp_both hc
      have d2 := hy.dp m (cmp_plain c2)
      have s2 := cmp_shaped c2
      rw [D.py] at d2 s2
      refine op_notInD hu pins s σ H _ _ v u Q I rx ry ⟨dx.py, pys ys, by rw [hK]; exact hx.dp m (cmp_plain c1), by rw [hK]; exact d2, cmp_shaped c1, s2, ?_⟩
      rw [any_py (cmp_plain c1) ys (by simpa [D.plain] using cmp_plain c2)]
      exact hr.val m (.bl _)
    · cases e
  · cases e
theorem isD : OpR X (compareOp .Is) (rD2 G fun x y => blR (cmpD .Is x y)) := by
  intro pins s σ H x y v u Q I rx ry h
  obtain ⟨F, ι, dx, dy, r, m, hx, hy, e, hr⟩ := h
  simp only [blR, Option.map_eq_some_iff] at e
  obtain ⟨b, e, rfl⟩ := e
  unfold cmpD at e
  simp only at e
  split at e
  · cases e
    obtain rfl := hx.bl; obtain rfl := hy.bl
    refine op_isBl pins s σ H _ _ v u Q I rx ry ⟨_, _, rfl, rfl, ?_⟩
    rw [← Bool.beq_eq_decide_eq]
    exact hr.val m (.bl _)
  · cases e
    obtain rfl := hx.non; obtain rfl := hy.non
    exact op_isN pins s σ H _ _ v u Q I rx ry ⟨rfl, hr.val m (.bl _)⟩
  · cases e
  · cases e
  · cases e
  · rename_i h1 _ _ _
    cases e
    obtain rfl := hy.non
    have hn : x ≠ .non := eqv_non hx h1
    refine op_isN pins s σ H _ _ v u Q I rx ry ⟨rfl, ?_⟩
    rw [decide_eq_false hn]
    exact hr.val m (.bl _)
  · cases e
theorem isNotD : OpR X (compareOp .IsNot) (rD2 G fun x y => blR (cmpD .IsNot x y)) := by
  intro pins s σ H x y v u Q I rx ry h
  obtain ⟨F, ι, dx, dy, r, m, hx, hy, e, hr⟩ := h
  simp only [blR, Option.map_eq_some_iff] at e
  obtain ⟨b, e, rfl⟩ := e
  unfold cmpD at e
  simp only at e
  split at e
  · cases e
    obtain rfl := hx.bl; obtain rfl := hy.bl
    refine op_notBl pins s σ H _ _ v u Q I rx ry ⟨_, _, rfl, rfl, ?_⟩
    rw [← Bool.beq_eq_decide_eq]
    exact hr.val m (.bl _)
  · cases e
    obtain rfl := hx.non; obtain rfl := hy.non
    exact op_notN pins s σ H _ _ v u Q I rx ry ⟨rfl, hr.val m (.bl _)⟩
  · cases e
  · cases e
  · cases e
  · rename_i h1 _ _ _
    cases e
    obtain rfl := hy.non
    have hn : x ≠ .non := eqv_non hx h1
    refine op_notN pins s σ H _ _ v u Q I rx ry ⟨rfl, ?_⟩
    rw [decide_eq_false hn]
    exact hr.val m (.bl _)
  · cases e
theorem lexLt_eq : ∀ m n : List Int, HT.lexLt m n = lexLt m n
  | [], [] => rfl
  | [], _ :: _ => rfl
  | _ :: _, [] => rfl
  | x :: xs, y :: ys => by
    unfold HT.lexLt lexLt
    rw [lexLt_eq xs ys]
theorem ltD (hK : X.K = G.K) (hu : X.A.units + 65 < cLine) : OpR X (compareOp .Lt) (rD2 G fun x y => blR (cmpD .Lt x y)) := by
  intro pins s σ H x y v u Q I rx ry h
  obtain ⟨F, ι, dx, dy, r, m, hx, hy, e, hr⟩ := h
  simp only [blR, Option.map_eq_some_iff] at e
  obtain ⟨b, e, rfl⟩ := e
  unfold cmpD at e
  simp only at e
  split at e
  · cases e
    obtain rfl := hx.int; obtain rfl := hy.int
    exact op_lt pins s σ H _ _ v u Q I rx ry ⟨_, _, rfl, rfl, hr.val m (.bl _)⟩
  · split at e
    · cases e
      rename_i e1 e2
      obtain ⟨a, xs, rfl, hA, ra⟩ := hx.tup m
      obtain ⟨b, ys, rfl, hB, rb⟩ := hy.tup m
      obtain rfl := ra.ints e1
      obtain rfl := rb.ints e2
      refine op_ltT (by omega) pins s σ H _ _ v u Q I rx ry ⟨_, _, _, _, rfl, rfl, by rw [hK]; exact hA, by rw [hK]; exact hB, ?_⟩
      rw [lexLt_eq]
      exact hr.val m (.bl _)
    · cases e
  · cases e
theorem leD : OpR X (compareOp .LtE) (rD2 G fun x y => blR (cmpD .LtE x y)) := by
  intro pins s σ H x y v u Q I rx ry h
  obtain ⟨F, ι, dx, dy, r, m, hx, hy, e, hr⟩ := h
  simp only [blR, Option.map_eq_some_iff] at e
  obtain ⟨b, e, rfl⟩ := e
  unfold cmpD at e
  simp only at e
  split at e
  · cases e
    obtain rfl := hx.int; obtain rfl := hy.int
    exact op_le pins s σ H _ _ v u Q I rx ry ⟨_, _, rfl, rfl, hr.val m (.bl _)⟩
  · cases e
theorem gtD : OpR X (compareOp .Gt) (rD2 G fun x y => blR (cmpD .Gt x y)) := by
  intro pins s σ H x y v u Q I rx ry h
  obtain ⟨F, ι, dx, dy, r, m, hx, hy, e, hr⟩ := h
  simp only [blR, Option.map_eq_some_iff] at e
  obtain ⟨b, e, rfl⟩ := e
  unfold cmpD at e
  simp only at e
  split at e
  · cases e
    obtain rfl := hx.int; obtain rfl := hy.int
    exact op_gt pins s σ H _ _ v u Q I rx ry ⟨_, _, rfl, rfl, hr.val m (.bl _)⟩
  · cases e
theorem geD : OpR X (compareOp .GtE) (rD2 G fun x y => blR (cmpD .GtE x y)) := by
  intro pins s σ H x y v u Q I rx ry h
  obtain ⟨F, ι, dx, dy, r, m, hx, hy, e, hr⟩ := h
  simp only [blR, Option.map_eq_some_iff] at e
  obtain ⟨b, e, rfl⟩ := e
  unfold cmpD at e
  simp only at e
  split at e
  · cases e
    obtain rfl := hx.int; obtain rfl := hy.int
    exact op_ge pins s σ H _ _ v u Q I rx ry ⟨_, _, rfl, rfl, hr.val m (.bl _)⟩
  · cases e
theorem cmpOp (hK : X.K = G.K) (hu : X.A.units + 65 < cLine) (op : CmpOp) : OpR X (compareOp op) (rD2 G fun x y => blR (cmpD op x y)) := by
  cases op with
  | Eq => exact eqD hK hu
  | NotEq => exact neD hK hu
  | Lt => exact ltD hK hu
  | LtE => exact leD
  | Gt => exact gtD
  | GtE => exact geD
  | Is => exact isD
  | IsNot => exact isNotD
  | In => exact inD hK hu
  | NotIn => exact notInD hK hu
theorem negD_ok : UnR X (unaryOp .USub) (rD1 G negD) := by
  intro pins s σ H x v Q I rx h
  obtain ⟨F, ι, dx, r, m, hx, e, hr⟩ := h
  cases dx with
  | int i =>
    cases e
    obtain rfl := hx.int
    exact un_neg pins s σ H _ v Q I rx ⟨_, rfl, hr.val m (.int _)⟩
  | _ => cases e
theorem place_eq (n : Nat) (i : Int) : place n i = ixN n i := rfl
theorem item_eq {α : Type} (xs : List α) (i : Int) : item xs i = atI xs i := rfl
theorem Rels.item {F : Hp} {ι : List Addr} {xs : List V} {ds : List D} {k : Int} {d : D} (h : Rels G F ι xs ds) (e : item ds k = some d) : ∃ v, atI xs k = some v ∧ Rel G F ι v d := by
  unfold Mi.item at e
  obtain ⟨j, e1, e2⟩ := Option.bind_eq_some_iff.mp e
  obtain ⟨v, e3, r⟩ := h.get e2
  refine ⟨v, ?_, r⟩
  unfold atI
  rw [h.length]
  exact Option.bind_eq_some_iff.mpr ⟨j, e1, e3⟩
theorem dget_val : ∀ {kk : List Key} {xs : List V} {vs : List D} {F : Hp} {ι : List Addr} {k : Key} {d : D}, kk.length = xs.length → Rels G F ι xs vs → dget (kk.map keyD) vs (keyD k) = some d → ∃ v, valV (kk.zip xs) k = some v ∧ Rel G F ι v d
  | [], _, _, _, _, _, _, _, _, h => by simp [dget] at h
  | _ :: _, [], _, _, _, _, _, hl, _, _ => by simp at hl
  | j :: kk, x :: xs, _, F, ι, k, d, hl, .cons hr hs, h => by
    have e : keyEq (keyD j) (keyD k) = decide (j = k) := by
      cases j <;> cases k <;> simp [keyD, keyEq]
    simp only [List.map_cons, dget, e, decide_eq_true_eq] at h
    unfold valV
    rw [List.zip_cons_cons, List.find?_cons]
    by_cases hj : j = k
    · rw [if_pos hj] at h
      cases h
      simp only [hj, decide_true]
      exact ⟨x, rfl, hr⟩
    · rw [if_neg hj] at h
      simp only [hj, decide_false]
      exact dget_val (by simpa using hl) hs h
theorem ixD_ok (hK : X.K = G.K) (hu : X.A.units + 65 < cLine) : IxR X (rD2 G fun x y => (ixD x y).map .val) := by
  intro value slice pins s σ H x y v u Q I rx ry h hs
  obtain ⟨F, ι, dx, dy, r, m, hx, hy, e, hr⟩ := h
  simp only [Option.map_eq_some_iff] at e
  obtain ⟨d, e, rfl⟩ := e
  unfold ixD at e
  split at e
  · rename_i ks' vs' j
    obtain ⟨a, kk, xs, rfl, hA, hl, rfl, ra⟩ := hx.dic m
    obtain rfl := hy.int
    obtain ⟨w, e1, r⟩ := dget_val (k := .inl j) hl ra e
    obtain rfl : v = Value.ref a := rx
    have g : DGet H a (.int j) (some w) := by rw [← e1]; exact .inl ⟨_, .inl j, .inl hA, rfl, rfl⟩
    exact tail_any (dict_typeIs I g) slot_dict_getitem.lookup (d_getItem (by omega) I g ry fun w' s3 I3 rw' => ⟨w, H, I3, rw', hr.val m r⟩) hs
  · rename_i ks' vs' j
    obtain ⟨a, kk, xs, rfl, hA, hl, rfl, ra⟩ := hx.dic m
    obtain rfl := hy.str
    obtain ⟨w, e1, r⟩ := dget_val (k := .inr j) hl ra e
    obtain rfl : v = Value.ref a := rx
    have g : DGet H a (.str j) (some w) := by rw [← e1]; exact .inl ⟨_, .inr j, .inl hA, rfl, rfl⟩
    exact tail_any (dict_typeIs I g) slot_dict_getitem.lookup (d_getItem (by omega) I g ry fun w' s3 I3 rw' => ⟨w, H, I3, rw', hr.val m r⟩) hs
  · split at e
    · obtain rfl := hx.str
      obtain rfl := hy.int
      obtain ⟨ch, e1, rfl⟩ := Option.map_eq_some_iff.mp e
      exact ix_str value slice pins s σ H _ _ v u Q I rx ry ⟨_, _, _, rfl, rfl, by rw [line_eq]; assumption, e1, hr.val m (.str _)⟩ hs
    · cases e
  · obtain ⟨a, xs, rfl, hA, ra⟩ := hx.tup m
    obtain rfl := hy.int
    obtain ⟨w, e1, r⟩ := ra.item e
    exact ix_tup value slice pins s σ H _ _ v u Q I rx ry ⟨_, _, _, _, rfl, rfl, by rw [hK]; exact hA, e1, hr.val m r⟩ hs
  · obtain ⟨a, xs, rfl, hA, ra⟩ := hx.lst m
    obtain rfl := hy.int
    obtain ⟨w, e1, r⟩ := ra.item e
    exact ix_list value slice pins s σ H _ _ v u Q I rx ry ⟨_, _, _, _, rfl, rfl, .inl (.inl hA), e1, hr.val m r⟩ hs
  · simp only [Option.map_eq_some_iff] at e
    obtain ⟨i, e, rfl⟩ := e
    obtain ⟨a, rfl, hA⟩ := hx.scr m
    obtain rfl := hy.int
    refine ix_list value slice pins s σ H _ _ v u Q I rx ry ⟨_, _, _, _, rfl, rfl, by rw [hK]; exact hA, ?_, hr.val m (.int i)⟩ hs
    unfold Mi.item at e
    obtain ⟨j, e1, e2⟩ := Option.bind_eq_some_iff.mp e
    unfold atI
    rw [List.length_map]
    exact Option.bind_eq_some_iff.mpr ⟨j, e1, by rw [List.getElem?_map, e2]; rfl⟩
  · cases e
theorem Rels.cut {F : Hp} {ι : List Addr} {xs : List V} {ds : List D} (h : Rels G F ι xs ds) (lo hi : Option Int) : Rels G F ι (cutV xs lo hi) (Mi.cut ds lo hi) := by
  unfold cutV Mi.cut
  rw [h.length]
  exact (h.drop _).take _
theorem cut_whole {ds : List D} {lo hi : Option Int} (h : HT.sIx ds.length 0 lo = 0 ∧ HT.sIx ds.length ds.length hi = ds.length) : Mi.cut ds lo hi = ds := by
  unfold Mi.cut
  rw [show bound ds.length 0 lo = 0 from h.1, show bound ds.length ds.length hi = ds.length from h.2]
  simp
def rSl (G : Gs) : V → Option Int → Option Int → Hp → VK → Prop := fun x lo hi H Q => ∃ F ι dx r, Same F H ∧ RelX G F ι H x dx ∧ slD dx lo hi = some r ∧ Res G F ι H r Q
theorem slD_ok (hK : X.K = G.K) : SlR X (rSl G) := by
  intro pins s σ H x v vl vu lo hi sl Q I rx hs pl pu h
  obtain ⟨F, ι, dx, r, m, hx, e, hr⟩ := h
  unfold slD at e
  split at e
  · cases e
    rename_i ds
    obtain ⟨a, xs, rfl, hA, ra⟩ := hx.tup m
    refine sl_tupA pins s σ H _ v vl vu lo hi sl Q I rx hs pl pu ⟨a, xs, rfl, by rw [hK]; exact hA, fun z => ?_, fun z => hr.tup m (ra.cut lo hi)⟩
    refine hr.val m ?_
    rw [ra.length] at z
    rw [cut_whole z]
    exact hx.rel (by intro _ z; cases z) (by intro _ _ z; cases z)
  · cases e
    obtain ⟨a, xs, rfl, hA, ra⟩ := hx.lst m
    exact sl_list pins s σ H _ v vl vu lo hi sl Q I rx hs pl pu ⟨a, xs, rfl, .inl (.inl hA), hr.lst m (ra.cut lo hi)⟩
  · cases e
end
end Mi
namespace Mi
open PySem PySem.Spec PyProof.Rows L2
mutual
inductive Rs (h : Heap) : Value → PyData → Prop
  | none : Rs h .none .none
  | bool (b) : Rs h (.bool b) (.bool b)
  | int (i t) : Rs h (.int i t) (.int i)
  | str (x t) : Rs h (.str x t) (.str x)
  | list {a o vs n xs} : h.get? a = some o → o.cls = .type "list" → o.data = .seq vs n → RsAll h vs.toList xs → Rs h (.ref a) (.list xs)
  | tuple {a o vs n xs} : h.get? a = some o → o.cls = .type "tuple" → o.data = .seq vs n → RsAll h vs.toList xs → Rs h (.ref a) (.tuple xs)
  | dict {a o es n kvs} : h.get? a = some o → o.cls = .type "dict" → o.data = .dict es n → (a == sysModules) = false → RsAll h (es.toList.map (·.key)) (kvs.map (·.1)) → RsAll h (es.toList.map (·.val)) (kvs.map (·.2)) → Rs h (.ref a) (.dict kvs)
inductive RsAll (h : Heap) : List Value → List PyData → Prop
  | nil : RsAll h [] []
  | cons {v vs d ds} : Rs h v d → RsAll h vs ds → RsAll h (v :: vs) (d :: ds)
end
section
variable {h : Heap}
mutual
theorem Rs.reads : ∀ {v : Value} {d : PyData}, Rs h v d → ∃ as, Reads h v d as
  | _, _, .none => ⟨_, .none⟩
  | _, _, .bool b => ⟨_, .bool b⟩
  | _, _, .int i t => ⟨_, .int i t⟩
  | _, _, .str x t => ⟨_, .str x t⟩
  | _, _, .list h1 h2 h3 h4 => let ⟨_, r⟩ := RsAll.reads h4; ⟨_, .list h1 h2 h3 r⟩
  | _, _, .tuple h1 h2 h3 h4 => let ⟨_, r⟩ := RsAll.reads h4; ⟨_, .tuple h1 h2 h3 r⟩
  | _, _, .dict h1 h2 h3 _ h4 h5 => let ⟨_, r⟩ := RsAll.reads h4; let ⟨_, r'⟩ := RsAll.reads h5; ⟨_, .dict h1 h2 h3 r r'⟩
theorem RsAll.reads : ∀ {vs : List Value} {ds : List PyData}, RsAll h vs ds → ∃ as, ReadsAll h vs ds as
  | _, _, .nil => ⟨_, .nil⟩
  | _, _, .cons x y => let ⟨_, r⟩ := Rs.reads x; let ⟨_, r'⟩ := RsAll.reads y; ⟨_, .cons r r'⟩
end
variable {prog : Program} {w : World}
mutual
theorem Rs.k : ∀ {v : Value} {d : PyData}, Rs h v d → d.showable = true → d.shown.length ≤ sizeLine → ∃ bs, ReadAtMost h d.depth bs ∧ ReprK prog w bs h d.depth v d.shown
  | _, _, .none, _, _ => ⟨[], (fun _ h => nomatch h), by simp only [PyData.shown]; exact .of_is ReprIs.none _ _ _⟩
  | _, _, .bool b, _, _ => ⟨[], (fun _ h => nomatch h), by simp only [PyData.shown]; exact .of_is (ReprIs.bool b) _ _ _⟩
  | _, _, .int i t, hs, _ => ⟨[], (fun _ h => nomatch h), by simp only [PyData.shown]; exact .of_is (ReprIs.int t (by simpa [PyData.showable] using hs)) _ _ _⟩
  | _, _, .str x t, _, hz => ⟨[], (fun _ h => nomatch h), by simp only [PyData.shown]; exact .of_is (ReprIs.str x t (by simpa only [PyData.shown] using hz)) _ _ _⟩
  | _, _, .list (a := a) (vs := vs) (xs := xs) h1 h2 h3 h4, hs, hz => by
    have hz' : (listText (PyData.shownAll xs)).length ≤ sizeLine := by simpa only [PyData.shown] using hz
    obtain ⟨bs, hb, hk⟩ := RsAll.k h4 (by simpa [PyData.showable] using hs) (fun t ht => Nat.le_trans (listText_mem_le ht) hz')
    obtain ⟨_, rr⟩ := RsAll.reads h4
    have r : Reads h (.ref a) (.list xs) _ := .list h1 h2 h3 rr
    have hna : a ∉ bs := not_mem_of_deeper r (by simp only [PyData.depth]; omega) hb
    refine ⟨a :: bs, ReadAtMost.cons r (by simp only [PyData.depth]; omega) hb, ?_⟩
    simp only [PyData.depth, PyData.shown]
    obtain ⟨l⟩ := vs
    cases l with
    | nil =>
      have h4' : RsAll h [] xs := h4
      cases h4'
      simp only [PyData.shownAll, listText_nil]
      exact ReprK.listEmpty h1 h2 h3
    | cons x l => exact ReprK.list h1 h2 h3 hna (by simpa using hk.length_eq) (fun i y e => hk.item i y (by simpa using e))
  | _, _, .tuple (a := a) (xs := xs) h1 h2 h3 h4, hs, hz => by
    have hz' : (tupleText (PyData.shownAll xs)).length ≤ sizeLine := by simpa only [PyData.shown] using hz
    obtain ⟨bs, hb, hk⟩ := RsAll.k h4 (by simpa [PyData.showable] using hs) (fun t ht => Nat.le_trans (tupleText_mem_le ht) hz')
    obtain ⟨_, rr⟩ := RsAll.reads h4
    have r : Reads h (.ref a) (.tuple xs) _ := .tuple h1 h2 h3 rr
    have hna : a ∉ bs := not_mem_of_deeper r (by simp only [PyData.depth]; omega) hb
    refine ⟨a :: bs, ReadAtMost.cons r (by simp only [PyData.depth]; omega) hb, ?_⟩
    simp only [PyData.depth, PyData.shown]
    exact ReprK.tuple h1 h2 h3 hna hk
  | _, _, .dict (a := a) (es := es) (kvs := kvs) h1 h2 h3 hsys h4 h5, hs, hz => by
    have hz' : (dictText (PyData.shownKv kvs)).length ≤ sizeLine := by simpa only [PyData.shown] using hz
    obtain ⟨hs1, hs2⟩ := PyData.showableKv_split kvs (by simpa [PyData.showable] using hs)
    obtain ⟨b1, hb1, k1⟩ := RsAll.k h4 hs1 (fun t ht => let ⟨p, hp, hl⟩ := PyData.shownKv_key_le kvs t ht; Nat.le_trans hl (Nat.le_trans (dictText_mem_le hp) hz'))
    obtain ⟨b2, hb2, k2⟩ := RsAll.k h5 hs2 (fun t ht => let ⟨p, hp, hl⟩ := PyData.shownKv_val_le kvs t ht; Nat.le_trans hl (Nat.le_trans (dictText_mem_le hp) hz'))
    obtain ⟨_, r1⟩ := RsAll.reads h4
    obtain ⟨_, r2⟩ := RsAll.reads h5
    have r : Reads h (.ref a) (.dict kvs) _ := .dict h1 h2 h3 r1 r2
    have hb : ReadAtMost h (PyData.depthKv kvs) (b1 ++ b2) := (hb1.mono (PyData.depthAll_keys_le kvs)).append (hb2.mono (PyData.depthAll_vals_le kvs))
    have hna : a ∉ b1 ++ b2 := not_mem_of_deeper r (by simp only [PyData.depth]; omega) hb
    refine ⟨a :: (b1 ++ b2), ReadAtMost.cons r (by simp only [PyData.depth]; omega) hb, ?_⟩
    simp only [PyData.depth, PyData.shown, PyData.shownKv_eq]
    exact ReprK.dict h1 h2 h3 hsys hna (ReprEntriesK.of_two es.toList _ _
      (k1.more_le (fun b hb => List.mem_append_left _ hb) (PyData.depthAll_keys_le kvs)) (k2.more_le (fun b hb => List.mem_append_right _ hb) (PyData.depthAll_vals_le kvs)))
theorem RsAll.k : ∀ {vs : List Value} {ds : List PyData}, RsAll h vs ds → PyData.showableAll ds = true → (∀ t ∈ PyData.shownAll ds, t.length ≤ sizeLine) → ∃ bs, ReadAtMost h (PyData.depthAll ds) bs ∧ ReprAllK prog w bs h (PyData.depthAll ds) vs (PyData.shownAll ds)
  | _, _, .nil, _, _ => ⟨[], (fun _ h => nomatch h), by simp only [PyData.shownAll]; exact .nil⟩
  | _, _, .cons (d := d) (ds := ds) r rs, hs, hz => by
    have hs' : d.showable = true ∧ PyData.showableAll ds = true := by simpa [PyData.showableAll] using hs
    obtain ⟨b1, hb1, k1⟩ := Rs.k r hs'.1 (hz _ (by simp only [PyData.shownAll]; exact List.mem_cons_self ..))
    obtain ⟨b2, hb2, k2⟩ := RsAll.k rs hs'.2 (fun t ht => hz t (by simp only [PyData.shownAll]; exact List.mem_cons_of_mem _ ht))
    refine ⟨b1 ++ b2, ?_, ?_⟩
    · intro b hm
      simp only [PyData.depthAll]
      rcases List.mem_append.mp hm with hm | hm
      · obtain ⟨d', as', r', hd'⟩ := hb1 b hm
        exact ⟨d', as', r', Nat.le_trans hd' (Nat.le_max_left _ _)⟩
      · obtain ⟨d', as', r', hd'⟩ := hb2 b hm
        exact ⟨d', as', r', Nat.le_trans hd' (Nat.le_max_right _ _)⟩
    · simp only [PyData.depthAll, PyData.shownAll]
      exact .cons ((k1.more fun b hb => List.mem_append_left _ hb).level_le (Nat.le_max_left _ _)) (k2.more_le (fun b hb => List.mem_append_right _ hb) (Nat.le_max_right _ _))
end
theorem Rs.shows {a : Addr} {d : PyData} (r : Rs h (.ref a) d) (hs : d.showable = true) (hsz : d.shown.length ≤ sizeLine) : ∃ T idr, ShowsBy prog w h a d T idr := by
  cases r with
  | list h1 h2 h3 h4 =>
    rename_i o vs n xs
    have hz' : (listText (PyData.shownAll xs)).length ≤ sizeLine := by simpa only [PyData.shown] using hsz
    obtain ⟨bs, hb, hk⟩ := RsAll.k (prog := prog) (w := w) h4 (by simpa [PyData.showable] using hs) (fun t ht => Nat.le_trans (listText_mem_le ht) hz')
    obtain ⟨_, rr⟩ := RsAll.reads h4
    have hna : a ∉ bs := not_mem_of_deeper (.list h1 h2 h3 rr) (by simp only [PyData.depth]; omega) hb
    refine ⟨"list", "list.__repr__", F.slot_list_repr.toG, F.slot_list_str, F.slot_list_format, fun s hk0 => ⟨o, hk0 _ _ h1, h2⟩, fun A E s Q hg hu hk0 hQ => ?_⟩
    simp only [PyData.depth] at hu
    simp only [PyData.shown] at hQ
    obtain ⟨l⟩ := vs
    cases l with
    | nil =>
      have h4' : RsAll h [] xs := h4
      cases h4'
      simp only [PyData.shownAll, listText_nil] at hQ
      exact call_list_repr_empty ⟨o, hk0 _ _ h1, h2⟩ (hk0 _ _ h1) h3 (hQ s.heap _ _ fun _ _ e => e)
    | cons x l =>
      exact call_list_reprK h1 h2 h3 hna (by simpa using hk.length_eq) (fun i y e => hk.item i y (by simpa using e)) hg (fun b _ => Clear.nil b) hu hk0 hQ hz'
  | tuple h1 h2 h3 h4 =>
    rename_i o vs n xs
    have hz' : (tupleText (PyData.shownAll xs)).length ≤ sizeLine := by simpa only [PyData.shown] using hsz
    obtain ⟨bs, hb, hk⟩ := RsAll.k (prog := prog) (w := w) h4 (by simpa [PyData.showable] using hs) (fun t ht => Nat.le_trans (tupleText_mem_le ht) hz')
    obtain ⟨_, rr⟩ := RsAll.reads h4
    have hna : a ∉ bs := not_mem_of_deeper (.tuple h1 h2 h3 rr) (by simp only [PyData.depth]; omega) hb
    refine ⟨"tuple", "tuple.__repr__", F.slot_tuple_repr, F.slot_tuple_str, F.slot_tuple_format, fun s hk0 => ⟨o, hk0 _ _ h1, h2⟩, fun A E s Q hg hu hk0 hQ => ?_⟩
    simp only [PyData.depth] at hu
    simp only [PyData.shown] at hQ
    exact call_tuple_reprK h1 h2 h3 hna hk hg (fun b _ => Clear.nil b) hu hk0 hQ hz'
  | dict h1 h2 h3 hsys h4 h5 =>
    rename_i o es n kvs
    have hz' : (dictText (PyData.shownKv kvs)).length ≤ sizeLine := by simpa only [PyData.shown] using hsz
    obtain ⟨hs1, hs2⟩ := PyData.showableKv_split kvs (by simpa [PyData.showable] using hs)
    obtain ⟨b1, hb1, k1⟩ := RsAll.k (prog := prog) (w := w) h4 hs1 (fun t ht => let ⟨p, hp, hl⟩ := PyData.shownKv_key_le kvs t ht; Nat.le_trans hl (Nat.le_trans (dictText_mem_le hp) hz'))
    obtain ⟨b2, hb2, k2⟩ := RsAll.k (prog := prog) (w := w) h5 hs2 (fun t ht => let ⟨p, hp, hl⟩ := PyData.shownKv_val_le kvs t ht; Nat.le_trans hl (Nat.le_trans (dictText_mem_le hp) hz'))
    obtain ⟨_, r1⟩ := RsAll.reads h4
    obtain ⟨_, r2⟩ := RsAll.reads h5
    have hb : ReadAtMost h (PyData.depthKv kvs) (b1 ++ b2) := (hb1.mono (PyData.depthAll_keys_le kvs)).append (hb2.mono (PyData.depthAll_vals_le kvs))
    have hna : a ∉ b1 ++ b2 := not_mem_of_deeper (.dict h1 h2 h3 r1 r2) (by simp only [PyData.depth]; omega) hb
    refine ⟨"dict", "dict.__repr__", F.slot_dict_repr, F.slot_dict_str, F.slot_dict_format, fun s hk0 => ⟨o, hk0 _ _ h1, h2⟩, fun A E s Q hg hu hk0 hQ => ?_⟩
    simp only [PyData.depth] at hu
    simp only [PyData.shown, PyData.shownKv_eq] at hQ
    exact call_dict_reprK h1 h2 h3 hsys hna (ReprEntriesK.of_two es.toList _ _
      (k1.more_le (fun b hb => List.mem_append_left _ hb) (PyData.depthAll_keys_le kvs)) (k2.more_le (fun b hb => List.mem_append_right _ hb) (PyData.depthAll_vals_le kvs))) hg (fun b _ => Clear.nil b) hu hk0 hQ (by rw [← PyData.shownKv_eq]; exact hz')
theorem Rs.repr {a : Addr} {d : PyData} {A : Around} {E : Value → Shared → Prop} {s : Shared} {Q : Value → Shared → Prop} (r : Rs h (.ref a) d) (hs : d.showable = true) (hg : A.guards = some []) (hu : A.units + (d.depth + 1) < cLine) (hk0 : ∀ b o, h.get? b = some o → s.heap.get? b = some o)
    (hQ : ∀ h' u tk, (∀ b o, s.heap.get? b = some o → h'.get? b = some o) → Q (.str d.shown u) { s with heap := h', toks := tk }) (hsz : d.shown.length ≤ sizeLine) : wpAny (model prog w) A (call (.builtin "repr") [.ref a]) Q E s := by
  obtain ⟨T, idr, S⟩ := r.shows (prog := prog) (w := w) hs hsz
  exact call_repr_slot (by omega) (S.typeIs s hk0) S.slotRepr (S.call A.in1 E s _ hg (by show A.units + 1 + d.depth < cLine; omega) hk0 fun h' u tk hk => ⟨_, _, rfl, hQ h' u tk hk⟩)
end
section
variable {G : Gs} {F H : Hp} {ι : List Addr} {X : Cx} {pins : List (Addr × Obj)} {σ : L2.St} {s : Shared}
theorem keys_rs {h : Heap} {P : Program} {w : World} : ∀ {es : List DictEntry} {kvs : List (Key × V)} {vs : List (Key × Value)}, Pairs (mixKind P w) es vs → KV kvs vs → RsAll h (es.map (·.key)) (pys ((kvs.map (·.1)).map keyD))
  | _, _, _, .nil, r => by cases r; exact .nil
  | _, _, _, .cons h1 h2 h3, r => by
    cases r with
    | cons e r =>
      rename_i e0 kv es0 kvs0 p ps
      refine .cons ?_ (keys_rs h3 r)
      obtain ⟨e1, _⟩ := e
      show Rs h e0.key (keyD p.1).py
      rw [e1]
      rcases keyIs_shape h1 with ⟨i, t, e2, e3⟩ | ⟨x, t, e2, e3⟩
      · rw [e2, e3]; exact .int i t
      · rw [e2, e3]; exact .str x t
theorem vals_of {P : Program} {w : World} : ∀ {es : List DictEntry} {kvs : List (Key × V)} {vs : List (Key × Value)}, Pairs (mixKind P w) es vs → KV kvs vs → Vals (kvs.map (·.2)) (es.map (·.val))
  | _, _, _, .nil, r => by cases r; exact .nil
  | _, _, _, .cons h1 h2 h3, r => by
    cases r with
    | cons e r =>
      refine .cons ?_ (vals_of h3 r)
      show RelV _ (DictEntry.val _)
      rw [h2]
      exact e.2
theorem pys_length : ∀ ds : List D, (pys ds).length = ds.length
  | [] => rfl
  | d :: ds => by simp [pys, pys_length ds]
mutual
theorem Rel.rs (I : Inv X pins σ H s) (hK : X.K = G.K) (m : Same F H) : ∀ {d : D} {v : V} {u : Value}, d.show = true → Rel G F ι v d → RelV v u → Rs s.heap u d.py
  | .non, _, _, _, r, ru => by cases r; cases ru; exact .none
  | .bl b, _, _, _, r, ru => by cases r; cases ru; exact .bool b
  | .int i, _, _, _, r, ru => by cases r; obtain ⟨t, rfl⟩ := ru; exact .int i t
  | .str x, _, _, _, r, ru => by cases r; obtain ⟨t, rfl⟩ := ru; exact .str x t
  | .tup ds, _, _, hs, r, ru => by
    cases r with
    | tup h hr =>
      cases ru
      obtain ⟨its, rv, ⟨o, ho, hc, n, hd⟩, _⟩ := I.tuple (hK ▸ sqT_mono m h)
      exact .tuple ho hc hd (Rels.rs I hK m (by simpa [D.show] using hs) hr rv)
  | .lst ds, _, _, hs, r, ru => by
    cases r with
    | lst h hr =>
      cases ru
      obtain ⟨its, rv, ⟨o, n, ho, hc, _, hd⟩, _⟩ := I.list (.inl (.inl (m _ _ h)))
      exact .list ho hc hd (Rels.rs I hK m (by simpa [D.show] using hs) hr rv)
  | .dic ks vs, _, _, hs, r, ru => by
    cases r with
    | dic h hl hr =>
      rename_i a kk xs
      cases ru
      obtain ⟨_, hsys, vs', kv, o, es, ep, ho, hx, hd, _, pr, _⟩ := dk_of I.hok (m _ _ h)
      have hs' : shows (kk.map keyD) = true ∧ shows vs = true := by simpa [D.show] using hs
      have l2 : (pys (kk.map keyD)).length = (pys vs).length := by rw [pys_length, pys_length, List.length_map, hl, hr.length]
      rw [D.py]
      refine .dict ho hx.1 hd hsys ?_ ?_
      · rw [List.map_fst_zip (by omega)]
        have := keys_rs (h := s.heap) pr kv
        rwa [List.map_fst_zip (by omega)] at this
      · rw [List.map_snd_zip (by omega)]
        have := vals_of pr kv
        rw [List.map_snd_zip (by omega)] at this
        exact Rels.rs I hK m hs'.2 hr this
  | .ref _, _, _, h, _, _ => by simp [D.show] at h
  | .fn _, _, _, h, _, _ => by simp [D.show] at h
  | .cls _, _, _, h, _, _ => by simp [D.show] at h
  | .scr _, _, _, h, _, _ => by simp [D.show] at h
  | .tab _, _, _, h, _, _ => by simp [D.show] at h
theorem Rels.rs (I : Inv X pins σ H s) (hK : X.K = G.K) (m : Same F H) : ∀ {ds : List D} {vs : List V} {us : List Value}, shows ds = true → Rels G F ι vs ds → Vals vs us → RsAll s.heap us (pys ds)
  | [], _, _, _, r, ru => by cases r; cases ru; exact .nil
  | d :: ds, _, _, h, r, ru => by
    cases r with
    | cons r rs =>
      cases ru with
      | cons ru rus =>
        have h' : d.show = true ∧ shows ds = true := by simpa [shows] using h
        exact .cons (Rel.rs I hK m h'.1 r ru) (Rels.rs I hK m h'.2 rs rus)
end
mutual
theorem depth_le : ∀ d : D, d.py.depth ≤ d.depth
  | .non => Nat.le_refl _
  | .bl _ => Nat.le_refl _
  | .int _ => Nat.le_refl _
  | .str _ => Nat.le_refl _
  | .tup ds => by
    have := depths_le ds
    simp only [D.py, PyData.depth, D.depth]; omega
  | .lst ds => by
    have := depths_le ds
    simp only [D.py, PyData.depth, D.depth]; omega
  | .dic ks vs => by
    have h1 := depths_le ks
    have h2 := depths_le vs
    have go : ∀ (a b : List PyData), PyData.depthKv (a.zip b) ≤ max (PyData.depthAll a) (PyData.depthAll b) := fun a => by
      induction a with
      | nil => intro b; simp [PyData.depthKv]
      | cons x a ih =>
        intro b
        cases b with
        | nil => simp [PyData.depthKv]
        | cons y b =>
          have := ih b
          simp only [List.zip_cons_cons, PyData.depthKv, PyData.depthAll]
          omega
    have := go (pys ks) (pys vs)
    simp only [D.py, PyData.depth, D.depth]; omega
  | .ref _ => Nat.zero_le _
  | .fn _ => Nat.zero_le _
  | .cls _ => Nat.zero_le _
  | .scr _ => Nat.zero_le _
  | .tab _ => Nat.zero_le _
theorem depths_le : ∀ ds : List D, PyData.depthAll (pys ds) ≤ depths ds
  | [] => Nat.le_refl _
  | d :: ds => by
    have h1 := depth_le d
    have h2 := depths_le ds
    simp only [pys, PyData.depthAll, depths]; omega
end
theorem RelX.rs {v : V} {d : D} {u : Value} (h : RelX G F ι H v d) (I : Inv X pins σ H s) (hK : X.K = G.K) (m : Same F H) (hs : d.show = true) (ru : RelV v u) : Rs s.heap u d.py := by
  rcases h with h | ⟨a, o, rfl, f, rfl, h⟩
  · exact h.rs I hK m hs ru
  · cases ru
    cases o with
    | lst ds =>
      obtain ⟨xs, e, hr⟩ := h
      obtain ⟨its, rv, ⟨o, n, ho, hc, _, hd⟩, _⟩ := I.list (.inl (.inl e))
      exact .list ho hc hd (hr.rs I hK m (by simpa [D.show] using hs) rv)
    | dic ks vs =>
      obtain ⟨kk, xs, e, hl, rfl, hr⟩ := h
      have hr' : Rel G H ι (.ref a) (.dic (kk.map keyD) vs) := .dic e hl (hr.mono m (Pre.refl _))
      exact hr'.rs I hK (Same.refl _) hs rfl
    | ins _ _ => cases f
end
end Mi
namespace Mi
open PySem PySem.Spec PyProof.Rows L2
structure FnG (P : Program) (w : World) (K : PySem.W.Frag) (mg : Str → Option Value) (base : Heap) (k : Nat) (f : Addr) (sp : Sp) : Prop where
  kp : PySem.W.keepIn K (.ref f) = true
  run : ∀ (A : Around) (outer : List Env) (s : Shared) (H : Hp) (us : List Value) (vs : List V) (Q : VK) (E : XK), A.guards = some [] → Room k A → Env0 P w K mg base A outer s H → Vals vs us → sp vs H Q E →
    codeAny (model P w) A (.call (.ref f) ⟨us, []⟩) (CR (L2.CX P w) outer P w H s Q E) s
section
variable {X : Cx} {G : Gs} {k : Nat} {f : Addr} {sp : Sp} {W : WX}
theorem run_fnG {pins : List (Addr × Obj)} {σ : L2.St} {H : Hp} {s : Shared} {Q : VK} {us : List Value} {vs : List V} (F : FnG X.prog X.w X.K X.mg X.base k f sp) (hg : X.A.guards = some []) (hr : Room k X.A) (tk : Takes X W)
    (I : Inv X pins σ H s) (r : Vals vs us) (h : sp vs H Q (fun c d H' => W c d σ H')) : wpAny (model X.prog X.w) X.A (call (.ref f) us) (EP X pins σ Q) X.xe s := by
  refine wpAny_call (codeAny_mono (F.run X.A X.stack s H us vs Q _ hg hr I.env0 r h) fun r s' hq => ?_)
  cases r with
  | error e => exact passAt tk σ pins H s e s' I hq
  | ok fl =>
    cases fl with
    | ret u => exact I.after hq
    | next => exact False.elim hq
    | brk => exact False.elim hq
    | cont => exact False.elim hq
def rDN (G : Gs) (f : List D → Option R) : List V → Hp → VK → Prop := fun xs H Q => ∃ F ι ds r, Same F H ∧ Paired (RelX G F ι H) xs ds ∧ f ds = some r ∧ Res G F ι H r Q
theorem boot_ty (t : Ty) : bootBuiltins t.nm = some (.type (match t with | .int => "int" | .bool => "bool" | .tuple => "tuple" | .list => "list" | .str => "str" | .dict => "dict")) := by
  cases t <;> decide +kernel
def Ty.s : Ty → String
  | .int => "int" | .bool => "bool" | .tuple => "tuple" | .list => "list" | .str => "str" | .dict => "dict"
def tyOf : D → String
  | .non => "NoneType" | .bl _ => "bool" | .int _ => "int" | .str _ => "str" | .tup _ => "tuple" | .lst _ => "list" | .dic _ _ => "dict" | _ => ""
theorem kit_nn (t : Ty) : kitB "NoneType" t.s = some false := by cases t <;> decide +kernel
theorem kit_bl (t : Ty) : kitB "bool" t.s = some (decide (t = .int ∨ t = .bool)) := by cases t <;> decide +kernel
theorem kit_in (t : Ty) : kitB "int" t.s = some (decide (t = .int)) := by cases t <;> decide +kernel
theorem kit_st (t : Ty) : kitB "str" t.s = some (decide (t = .str)) := by cases t <;> decide +kernel
theorem kit_tu (t : Ty) : kitB "tuple" t.s = some (decide (t = .tuple)) := by cases t <;> decide +kernel
theorem kit_li (t : Ty) : kitB "list" t.s = some (decide (t = .list)) := by cases t <;> decide +kernel
theorem kit_di (t : Ty) : kitB "dict" t.s = some (decide (t = .dict)) := by cases t <;> decide +kernel
theorem isiD_kit {K : PySem.W.Frag} {x : D} {t : Ty} {b : Bool} (h : isiD x t = some b) : PySem.W.kitOne K (.type (tyOf x)) (.type t.s) = some b := by
  refine kit_ty ?_
  cases x with
  | non => simp only [isiD] at h; cases h; exact kit_nn t
  | bl _ => rw [tyOf, kit_bl, ← h]; cases t <;> rfl
  | int _ => rw [tyOf, kit_in, ← h]; cases t <;> rfl
  | str _ => rw [tyOf, kit_st, ← h]; cases t <;> rfl
  | tup _ => rw [tyOf, kit_tu, ← h]; cases t <;> rfl
  | lst _ => rw [tyOf, kit_li, ← h]; cases t <;> rfl
  | dic _ _ => rw [tyOf, kit_di, ← h]; cases t <;> rfl
  | _ => simp [isiD] at h
theorem RelX.tyX {F H : Hp} {ι : List Addr} {v : V} {x : D} (h : RelX G F ι H v x) (m : Same F H) {t : Ty} {b : Bool} (e : isiD x t = some b) : TyX G.K H v (.type (tyOf x)) := by
  cases x with
  | non => obtain rfl := h.non; exact .base .non
  | bl b => obtain rfl := h.bl; exact .base (.bl b)
  | int b => obtain rfl := h.int; exact .base (.int b)
  | str b => obtain rfl := h.str; exact .base (.str b)
  | tup ds =>
    obtain ⟨a, xs, rfl, hA, _⟩ := h.tup m
    rcases hA with (hA | ⟨o, hA⟩) | ⟨o, its, n, hk, hc, _⟩
    · exact .base (.tup hA)
    · exact .fTuple hA
    · exact .kTuple hk hc
  | lst ds => obtain ⟨a, xs, rfl, hA, _⟩ := h.lst m; exact .base (.lst hA)
  | dic ks vs => obtain ⟨a, kk, xs, rfl, hA, _⟩ := h.dic m; exact .base (.dK hA)
  | _ => simp [isiD] at e
theorem call_isiD (hK : X.K = G.K) (t : Ty) : CallR X (.builtin "isinstance") (fun xs H Q => ∃ x, xs = [x, .ty t.s] ∧ rD1 G (fun x => blR (isiD x t)) x H Q) := by
  intro pins s σ H xs us Q I rx h
  obtain ⟨x, rfl, F, ι, dx, r, m, hx, e, hr⟩ := h
  simp only [blR, Option.map_eq_some_iff] at e
  obtain ⟨b, e, rfl⟩ := e
  exact call_isi pins s σ H _ us Q I rx ⟨x, .ty t.s, _, _, b, rfl, .ty _, by rw [hK]; exact hx.tyX m e, by rw [hK]; exact isiD_kit e, hr.val m (.bl b)⟩
theorem vals_one {x : V} {us : List Value} (r : Vals [x] us) : ∃ u, us = [u] ∧ RelV x u := by
  cases r with
  | cons r1 r2 => cases r2; exact ⟨_, rfl, r1⟩
def Bi.v : Bi → Value
  | .len => .builtin "len" | .sum => .builtin "sum" | .max => .builtin "max" | .min => .builtin "min" | .all => .builtin "all" | .any => .builtin "any" | .repr => .builtin "repr"
  | .int => .type "int" | .str => .type "str" | .list => .type "list" | .tuple => .type "tuple" | .sorted => .builtin "sorted"
theorem boot_bi (b : Bi) : bootBuiltins b.nm = some b.v := by cases b <;> decide +kernel
theorem paired1 {α β : Type} {R : α → β → Prop} {xs : List α} {y : β} (h : Paired R xs [y]) : ∃ x, xs = [x] ∧ R x y := by
  cases h with
  | cons h t => cases t; exact ⟨_, rfl, h⟩
theorem paired2 {α β : Type} {R : α → β → Prop} {xs : List α} {y z : β} (h : Paired R xs [y, z]) : ∃ x x', xs = [x, x'] ∧ R x y ∧ R x' z := by
  cases h with
  | cons h t =>
    cases t with
    | cons h2 t2 => cases t2; exact ⟨_, _, rfl, h, h2⟩
theorem reprD_ok (hK : X.K = G.K) (hg : X.A.guards = some []) (hu : X.A.units + 65 < cLine) : CallR X (.builtin "repr") (rDN G (biD .repr)) := by
  intro pins s σ H xs us Q I rx h
  obtain ⟨F, ι, ds, r, m, hxs, e, hr⟩ := h
  rcases ds with _ | ⟨d, _ | ⟨d2, ds⟩⟩
  · simp [biD] at e
  rotate_left
  · simp [biD] at e
  simp only [biD] at e
  split at e
  · cases e
    rename_i hc
    simp only [Bool.and_eq_true, decide_eq_true_eq] at hc
    obtain ⟨⟨c1, c2⟩, c3⟩ := hc
    obtain ⟨x, rfl, hx⟩ := paired1 hxs
    obtain ⟨u, rfl, ru⟩ := vals_one rx
    have rd := hx.rs I hK m c1 ru
    have q := hr.val m (.str d.py.shown)
    have hs := show_py d c1
    have hz : d.py.shown.length ≤ sizeLine := by rw [line_eq]; exact c3
    have hdp : d.py.depth ≤ 60 := Nat.le_trans (depth_le d) c2
    cases d with
    | non =>
      obtain rfl := hx.non
      cases ru
      exact P.repr_of_none ⟨.str _, H, I.tok _, ⟨_, rfl⟩, by simpa [D.py, PyData.shown] using q⟩
    | bl b =>
      obtain rfl := hx.bl
      cases ru
      refine P.repr_of_bool ⟨.str _, H, I.tok _, ⟨_, rfl⟩, ?_⟩
      simpa [D.py, PyData.shown] using q
    | int i =>
      obtain rfl := hx.int
      obtain ⟨t, rfl⟩ := ru
      refine P.repr_of_int (by simpa [D.show] using c1) ⟨.str _, H, I.tok _, ⟨_, rfl⟩, ?_⟩
      simpa [D.py, PyData.shown] using q
    | str x =>
      obtain rfl := hx.str
      obtain ⟨t, rfl⟩ := ru
      refine P.repr_of_str ⟨.str _, H, I.tok _, ⟨_, rfl⟩, ?_⟩ (by simpa [D.py, PyData.shown] using hz)
      simpa [D.py, PyData.shown] using q
    | tup ds =>
      obtain ⟨a, xs, rfl, _, _⟩ := hx.tup m
      cases ru
      exact rd.repr hs hg (by omega) (fun b o z => z) (fun h' u tk k => ⟨.str _, H, I.kept k, ⟨_, rfl⟩, q⟩) hz
    | lst ds =>
      obtain ⟨a, xs, rfl, _, _⟩ := hx.lst m
      cases ru
      exact rd.repr hs hg (by omega) (fun b o z => z) (fun h' u tk k => ⟨.str _, H, I.kept k, ⟨_, rfl⟩, q⟩) hz
    | dic ks vs =>
      obtain ⟨a, kk, xs, rfl, _, _⟩ := hx.dic m
      cases ru
      exact rd.repr hs hg (by omega) (fun b o z => z) (fun h' u tk k => ⟨.str _, H, I.kept k, ⟨_, rfl⟩, q⟩) hz
    | _ => simp [D.show] at c1
  · cases e
theorem maxI_at : ∀ (xs : List Int) (x : Int), maxI x xs ∈ x :: xs ∧ ∀ y ∈ x :: xs, y ≤ maxI x xs
  | [], x => by simp [maxI]
  | z :: xs, x => by
    have e : maxI x (z :: xs) = maxI (if z > x then z else x) xs := rfl
    obtain ⟨h1, h2⟩ := maxI_at xs (if z > x then z else x)
    rw [e]
    have h3 := h2 _ (.head _)
    have h4 : x ≤ (if z > x then z else x) := by split <;> omega
    have h5 : z ≤ (if z > x then z else x) := by split <;> omega
    refine ⟨?_, fun y hy => ?_⟩
    · rcases List.mem_cons.mp h1 with q | q
      · rw [q]; split <;> simp
      · exact .tail _ (.tail _ q)
    · rcases List.mem_cons.mp hy with q | q
      · subst q; omega
      · rcases List.mem_cons.mp q with q | q
        · subst q; omega
        · exact h2 y (.tail _ q)
theorem minI_at : ∀ (xs : List Int) (x : Int), minI x xs ∈ x :: xs ∧ ∀ y ∈ x :: xs, minI x xs ≤ y
  | [], x => by simp [minI]
  | z :: xs, x => by
    have e : minI x (z :: xs) = minI (if z < x then z else x) xs := rfl
    obtain ⟨h1, h2⟩ := minI_at xs (if z < x then z else x)
    rw [e]
    have h3 := h2 _ (.head _)
    have h4 : (if z < x then z else x) ≤ x := by split <;> omega
    have h5 : (if z < x then z else x) ≤ z := by split <;> omega
    refine ⟨?_, fun y hy => ?_⟩
    · rcases List.mem_cons.mp h1 with q | q
      · rw [q]; split <;> simp
      · exact .tail _ (.tail _ q)
    · rcases List.mem_cons.mp hy with q | q
      · subst q; omega
      · rcases List.mem_cons.mp q with q | q
        · subst q; omega
        · exact h2 y (.tail _ q)
theorem sortI_one {ns ns' : List Int} (p : ns'.Perm ns) (h : ns'.Pairwise (· ≤ ·)) : ns' = sortI ns := by
  have h1 : (sortI ns).Pairwise (· ≤ ·) := by
    have := List.pairwise_mergeSort (le := fun a b : Int => decide (a ≤ b)) (by intro a b c h1 h2; simp only [decide_eq_true_eq] at *; omega) (by intro a b; simp only [Bool.or_eq_true, decide_eq_true_eq]; omega) ns
    exact this.imp fun {a b} q => by simpa using q
  have h2 : (sortI ns).Perm ns := List.mergeSort_perm _ _
  exact List.Perm.eq_of_pairwise (fun a b _ _ x y => by omega) h h1 (p.trans h2.symm)
theorem biD_ok (hK : X.K = G.K) (hg : X.A.guards = some []) (hu : X.A.units + 65 < cLine) (hc : X.calm = true) (b : Bi) : CallR X b.v (rDN G (biD b)) := by
  cases b with
  | repr => exact reprD_ok hK hg hu
  | len =>
    intro pins s σ H xs us Q I rx h
    obtain ⟨F, ι, ds, r, m, hxs, e, hr⟩ := h
    rcases ds with _ | ⟨d, _ | ⟨d2, ds⟩⟩
    · simp [biD] at e
    rotate_left
    · simp [biD] at e
    obtain ⟨x, rfl, hx⟩ := paired1 hxs
    cases d with
    | tup a =>
      cases e
      obtain ⟨p, ys, rfl, hA, ra⟩ := hx.tup m
      refine call_len_seq pins s σ H _ us Q I rx ⟨p, ys, rfl, .inr (by rw [hK]; exact hA), ?_⟩
      rw [ra.length]
      exact hr.val m (.int _)
    | lst a =>
      cases e
      obtain ⟨p, ys, rfl, hA, ra⟩ := hx.lst m
      refine call_len_seq pins s σ H _ us Q I rx ⟨p, ys, rfl, .inl (.inl (.inl hA)), ?_⟩
      rw [ra.length]
      exact hr.val m (.int _)
    | scr a =>
      cases e
      obtain ⟨p, rfl, hA⟩ := hx.scr m
      refine call_len_seq pins s σ H _ us Q I rx ⟨p, _, rfl, .inl (by rw [hK]; exact hA), ?_⟩
      rw [List.length_map]
      exact hr.val m (.int _)
    | str a =>
      simp only [biD] at e
      split at e
      · cases e
        obtain rfl := hx.str
        exact call_len_str pins s σ H _ us Q I rx ⟨a, rfl, by rw [line_eq]; assumption, hr.val m (.int _)⟩
      · cases e
    | _ => simp [biD] at e
  | sum =>
    intro pins s σ H xs us Q I rx h
    obtain ⟨F, ι, ds, r, m, hxs, e, hr⟩ := h
    rcases ds with _ | ⟨d, _ | ⟨d2, ds⟩⟩
    · simp [biD] at e
    rotate_left
    · simp [biD] at e
    obtain ⟨x, rfl, hx⟩ := paired1 hxs
    cases d with
    | lst a =>
      simp only [biD, Option.map_eq_some_iff] at e
      obtain ⟨n, e, rfl⟩ := e
      obtain ⟨p, ys, rfl, hA, ra⟩ := hx.lst m
      obtain rfl := ra.ints e
      exact cr_sum hc pins s σ H _ us Q I rx ⟨p, n, rfl, .inl (.inl hA), hr.val m (.int _)⟩
    | _ => simp [biD] at e
  | all =>
    intro pins s σ H xs us Q I rx h
    obtain ⟨F, ι, ds, r, m, hxs, e, hr⟩ := h
    rcases ds with _ | ⟨d, _ | ⟨d2, ds⟩⟩
    · simp [biD] at e
    rotate_left
    · simp [biD] at e
    obtain ⟨x, rfl, hx⟩ := paired1 hxs
    cases d with
    | lst a =>
      simp only [biD, Option.map_eq_some_iff] at e
      obtain ⟨n, e, rfl⟩ := e
      obtain ⟨p, ys, rfl, hA, ra⟩ := hx.lst m
      obtain rfl := ra.bls e
      exact cr_all hc pins s σ H _ us Q I rx ⟨p, n, rfl, .inl (.inl hA), hr.val m (.bl _)⟩
    | _ => simp [biD] at e
  | any =>
    intro pins s σ H xs us Q I rx h
    obtain ⟨F, ι, ds, r, m, hxs, e, hr⟩ := h
    rcases ds with _ | ⟨d, _ | ⟨d2, ds⟩⟩
    · simp [biD] at e
    rotate_left
    · simp [biD] at e
    obtain ⟨x, rfl, hx⟩ := paired1 hxs
    cases d with
    | lst a =>
      simp only [biD, Option.map_eq_some_iff] at e
      obtain ⟨n, e, rfl⟩ := e
      obtain ⟨p, ys, rfl, hA, ra⟩ := hx.lst m
      obtain rfl := ra.bls e
      exact cr_any hc pins s σ H _ us Q I rx ⟨p, n, rfl, .inl (.inl hA), hr.val m (.bl _)⟩
    | _ => simp [biD] at e
  | max =>
    intro pins s σ H xs us Q I rx h
    obtain ⟨F, ι, ds, r, m, hxs, e, hr⟩ := h
    rcases ds with _ | ⟨d, _ | ⟨d2, _ | ⟨d3, ds⟩⟩⟩
    · simp [biD] at e
    · obtain ⟨x, rfl, hx⟩ := paired1 hxs
      cases d with
      | lst a =>
        simp only [biD] at e
        split at e
        case h_2 => cases e
        rename_i y ys hi
        cases e
        obtain ⟨p, zs, rfl, hA, ra⟩ := hx.lst m
        obtain rfl := ra.ints hi
        obtain ⟨k1, k2⟩ := maxI_at ys y
        refine cr_max hc pins s σ H _ us Q I rx ⟨p, y :: ys, rfl, .inl (.inl hA), by simp, fun q q1 q2 => ?_⟩
        have : q = maxI y ys := by have := k2 q q1; have := q2 _ k1; omega
        rw [this]
        exact hr.val m (.int _)
      | _ => simp [biD] at e
    · cases d <;> cases d2 <;> simp [biD] at e
      subst e
      obtain ⟨x, x', rfl, hx, hx'⟩ := paired2 hxs
      obtain rfl := hx.int
      obtain rfl := hx'.int
      exact call_max2 hc pins s σ H _ us Q I rx ⟨_, _, rfl, hr.val m (.int _)⟩
    · simp [biD] at e
  | min =>
    intro pins s σ H xs us Q I rx h
    obtain ⟨F, ι, ds, r, m, hxs, e, hr⟩ := h
    rcases ds with _ | ⟨d, _ | ⟨d2, _ | ⟨d3, ds⟩⟩⟩
    · simp [biD] at e
    · obtain ⟨x, rfl, hx⟩ := paired1 hxs
      cases d with
      | lst a =>
        simp only [biD] at e
        split at e
        case h_2 => cases e
        rename_i y ys hi
        cases e
        obtain ⟨p, zs, rfl, hA, ra⟩ := hx.lst m
        obtain rfl := ra.ints hi
        obtain ⟨k1, k2⟩ := minI_at ys y
        refine cr_min hc pins s σ H _ us Q I rx ⟨p, y :: ys, rfl, .inl (.inl hA), by simp, fun q q1 q2 => ?_⟩
        have : q = minI y ys := by have := k2 q q1; have := q2 _ k1; omega
        rw [this]
        exact hr.val m (.int _)
      | _ => simp [biD] at e
    · cases d <;> cases d2 <;> simp [biD] at e
      subst e
      obtain ⟨x, x', rfl, hx, hx'⟩ := paired2 hxs
      obtain rfl := hx.int
      obtain rfl := hx'.int
      exact call_min2 hc pins s σ H _ us Q I rx ⟨_, _, rfl, hr.val m (.int _)⟩
    · simp [biD] at e
  | sorted =>
    intro pins s σ H xs us Q I rx h
    obtain ⟨F, ι, ds, r, m, hxs, e, hr⟩ := h
    rcases ds with _ | ⟨d, _ | ⟨d2, ds⟩⟩
    · simp [biD] at e
    rotate_left
    · simp [biD] at e
    obtain ⟨x, rfl, hx⟩ := paired1 hxs
    cases d with
    | lst a =>
      simp only [biD, Option.map_eq_some_iff] at e
      obtain ⟨n, e, rfl⟩ := e
      obtain ⟨p, ys, rfl, hA, ra⟩ := hx.lst m
      obtain rfl := ra.ints e
      refine cr_sortedI pins s σ H _ us Q I rx ⟨p, n, rfl, .inl (.inl hA), fun ns' q h1 h2 h3 => ?_⟩
      rw [sortI_one h1 h2]
      have rr : ∀ l : List Int, Rels G F ι (l.map V.int) (l.map D.int) := fun l => by
        induction l with
        | nil => exact .nil
        | cons a l ih => exact .cons (.int a) ih
      exact hr.lst m (rr _) q h3
    | _ => simp [biD] at e
  | tuple =>
    intro pins s σ H xs us Q I rx h
    obtain ⟨F, ι, ds, r, m, hxs, e, hr⟩ := h
    rcases ds with _ | ⟨d, _ | ⟨d2, ds⟩⟩
    · simp [biD] at e
    rotate_left
    · simp [biD] at e
    obtain ⟨x, rfl, hx⟩ := paired1 hxs
    cases d with
    | tup a =>
      cases e
      have hq := hr.val m (hx.rel (by intro _ z; cases z) (by intro _ _ z; cases z))
      obtain ⟨p, ys, rfl, hA, ra⟩ := hx.tup m
      exact call_tuple_of pins s σ H _ us Q I rx ⟨p, ys, rfl, .inr ⟨by rw [hK]; exact hA, hq⟩⟩
    | lst a =>
      cases e
      obtain ⟨p, ys, rfl, hA, ra⟩ := hx.lst m
      exact call_tuple_of pins s σ H _ us Q I rx ⟨p, ys, rfl, .inl ⟨.inl (.inl hA), hr.tup m ra⟩⟩
    | _ => simp [biD] at e
  | list =>
    intro pins s σ H xs us Q I rx h
    obtain ⟨F, ι, ds, r, m, hxs, e, hr⟩ := h
    rcases ds with _ | ⟨d, _ | ⟨d2, ds⟩⟩
    · simp [biD] at e
    rotate_left
    · simp [biD] at e
    obtain ⟨x, rfl, hx⟩ := paired1 hxs
    cases d with
    | tup a =>
      cases e
      obtain ⟨p, ys, rfl, hA, ra⟩ := hx.tup m
      exact call_list_of pins s σ H _ us Q I rx ⟨p, ys, rfl, .inr (by rw [hK]; exact hA), hr.lst m ra⟩
    | lst a =>
      cases e
      obtain ⟨p, ys, rfl, hA, ra⟩ := hx.lst m
      exact call_list_of pins s σ H _ us Q I rx ⟨p, ys, rfl, .inl (.inl (.inl hA)), hr.lst m ra⟩
    | _ => simp [biD] at e
  | int =>
    intro pins s σ H xs us Q I rx h
    obtain ⟨F, ι, ds, r, m, hxs, e, hr⟩ := h
    rcases ds with _ | ⟨d, _ | ⟨d2, ds⟩⟩
    · simp [biD] at e
    rotate_left
    · simp [biD] at e
    obtain ⟨x, rfl, hx⟩ := paired1 hxs
    cases d with
    | bl a =>
      cases e
      obtain rfl := hx.bl
      exact call_int1 pins s σ H _ us Q I rx (.inr ⟨a, rfl, hr.val m (.int _)⟩)
    | _ => simp [biD] at e
  | str =>
    intro pins s σ H xs us Q I rx h
    obtain ⟨F, ι, ds, r, m, hxs, e, hr⟩ := h
    rcases ds with _ | ⟨d, _ | ⟨d2, ds⟩⟩
    · simp [biD] at e
    rotate_left
    · simp [biD] at e
    obtain ⟨x, rfl, hx⟩ := paired1 hxs
    cases d with
    | int a =>
      simp only [biD] at e
      split at e
      · cases e
        obtain rfl := hx.int
        exact call_str_int pins s σ H _ us Q I rx ⟨a, rfl, by assumption, hr.val m (.str _)⟩
      · cases e
    | str a =>
      cases e
      obtain rfl := hx.str
      exact SkE.call_str_str pins s σ H _ us Q I rx ⟨a, rfl, hr.val m (.str _)⟩
    | bl a =>
      cases e
      obtain rfl := hx.bl
      obtain ⟨u, rfl, ru⟩ := vals_one rx
      cases ru
      exact P.str_of_bool ⟨.str _, H, I.tok _, ⟨_, rfl⟩, by cases a <;> exact hr.val m (.str _)⟩
    | _ => simp [biD] at e
end
end Mi
namespace Mi
open PySem PySem.Spec PyProof.Rows L2
abbrev Wh := Value → Option Addr → L2.St → Hp → Prop
def Fin {α : Type} (c : Act) (W : Wh) (σ : L2.St) (F : Hp) (ι : List Addr) (o : Out α) (P : α → Hp → List Addr → Hp → Ev → Sto → Prop) : Prop := match o with
  | .ok a e s => ∀ F' ι' H', Same F F' → Pre ι ι' → Abs c F' ι' σ H' e s → P a F' ι' H' e s
  | .exc g e s => ∀ F' ι' H', Same F F' → Pre ι ι' → Abs c F' ι' σ H' e s → W (.ref (c.G.ca g)) none σ H'
  | .bad => False
section
variable {α β : Type} {c : Act} {W : Wh} {σ : L2.St} {F : Hp} {ι : List Addr} {H : Hp} {e : Ev} {s : Sto}
theorem Fin.imp {o : Out α} {P P' : α → Hp → List Addr → Hp → Ev → Sto → Prop} (h : Fin c W σ F ι o P) (m : ∀ a F' ι' H' e' s', Same F F' → Pre ι ι' → Abs c F' ι' σ H' e' s' → P a F' ι' H' e' s' → P' a F' ι' H' e' s') : Fin c W σ F ι o P' := by
  cases o with
  | ok a e s => exact fun F' ι' H' h1 h2 h3 => m _ _ _ _ _ _ h1 h2 h3 (h F' ι' H' h1 h2 h3)
  | exc g e s => exact h
  | bad => exact h
theorem Fin.later {o : Out α} {P : α → Hp → List Addr → Hp → Ev → Sto → Prop} {F1 : Hp} {ι1 : List Addr} (h : Fin c W σ F ι o P) (h1 : Same F F1) (h2 : Pre ι ι1) : Fin c W σ F1 ι1 o P := by
  cases o with
  | ok a e s => exact fun F' ι' H' k1 k2 k3 => h F' ι' H' (h1.trans k1) (h2.trans k2) k3
  | exc g e s => exact fun F' ι' H' k1 k2 k3 => h F' ι' H' (h1.trans k1) (h2.trans k2) k3
  | bad => exact h
theorem Fin.split {m : M α} {f : α → M β} {P : β → Hp → List Addr → Hp → Ev → Sto → Prop} (h : Fin c W σ F ι (bnd m f e s) P) :
    Fin c W σ F ι (m e s) (fun a F' ι' H' e' s' => Fin c W σ F' ι' (f a e' s') P) := by
  unfold bnd at h
  cases hm : m e s with
  | ok a e1 s1 =>
    rw [hm] at h
    exact fun F' ι' H' k1 k2 k3 => Fin.later (o := f a e1 s1) h k1 k2
  | exc g e1 s1 => rw [hm] at h; exact h
  | bad => rw [hm] at h; exact h
theorem Fin.ok {a : α} {P : α → Hp → List Addr → Hp → Ev → Sto → Prop} (h : Fin c W σ F ι (.ok a e s) P) (A : Abs c F ι σ H e s) : P a F ι H e s := h F ι H (Same.refl _) (Pre.refl _) A
end
def RelB : V → Bool → Prop := fun v b => v = .bl b
def rdG {α : Type} (c : Act) (W : Wh) (Rl : Act → Hp → List Addr → List (Option V) → Hp → Ev → V → α → Prop) (m : M α) : TE := fun σ H Q => ∃ F ι e s, σ.length = c.n ∧ Abs c F ι σ H e s ∧
  Fin c W σ F ι (m e s) fun a F' ι' H' e' s' => ∀ v, Rl c F' ι' σ H' e' v a → Q v H'
abbrev rdR (c : Act) (W : Wh) (m : M R) : TE := rdG c W RelR m
abbrev RlA : Act → Hp → List Addr → List (Option V) → Hp → Ev → V → Ar → Prop := fun c F ι vs _ _ v a => RelA c F ι vs v a
abbrev RlD : Act → Hp → List Addr → List (Option V) → Hp → Ev → V → D → Prop := fun c F ι _ _ _ v d => Rel c.G F ι v d
abbrev rdA (c : Act) (W : Wh) (m : M Ar) : TE := rdG c W RlA m
abbrev rdD (c : Act) (W : Wh) (m : M D) : TE := rdG c W RlD m
def rdB (c : Act) (W : Wh) (m : M Bool) : TT := fun σ H Q => ∃ F ι e s, σ.length = c.n ∧ Abs c F ι σ H e s ∧
  Fin c W σ F ι (m e s) fun b F' ι' H' e' s' => Q b H'
def rdL {α : Type} (c : Act) (W : Wh) (Rl : Hp → List Addr → List (Option V) → V → α → Prop) (m : M (List α)) : TA := fun σ H Q => ∃ F ι e s, σ.length = c.n ∧ Abs c F ι σ H e s ∧
  Fin c W σ F ι (m e s) fun as F' ι' H' e' s' => ∀ vs, Paired (Rl F' ι' σ) vs as → Q vs H'
abbrev rdVs (c : Act) (W : Wh) (m : M (List D)) : TA := rdL c W (fun F ι _ v d => Rel c.G F ι v d) m
abbrev rdAs (c : Act) (W : Wh) (m : M (List Ar)) : TA := rdL c W (fun F ι vs v a => RelA c F ι vs v a) m
theorem peM {X : Cx} {e : Expr} {t t' : TE} (h : PE X e t) (m : ∀ σ H Q, t' σ H Q → t σ H Q) : PE X e t' := ⟨fun pins s σ H Q I z => h.run pins s σ H Q I (m σ H Q z)⟩
theorem ptM {X : Cx} {e : Expr} {t t' : TT} (h : PT X e t) (m : ∀ σ H Q, t' σ H Q → t σ H Q) : PT X e t' := ⟨fun pins s σ H Q I z => h.run pins s σ H Q I (m σ H Q z)⟩
theorem pwM {X : Cx} {e : Expr} {t t' : TT} (h : PW X e t) (m : ∀ σ H Q, t' σ H Q → t σ H Q) : PW X e t' := ⟨fun wh pins s σ H Q I z => h.run wh pins s σ H Q I (m σ H Q z)⟩
theorem paM {X : Cx} {es : List Expr} {t t' : TA} (h : PA X es t) (m : ∀ σ H Q, t' σ H Q → t σ H Q) : PA X es t' := ⟨fun pos pins s σ H Q I z => h.run pos pins s σ H Q I (m σ H Q z)⟩
theorem psM {X : Cx} {e : Stmt} {t t' : TS} (h : PS X e t) (m : ∀ D σ H, t' D σ H → t D σ H) : PS X e t' := ⟨fun pins s σ H D I z => h.run pins s σ H D I (m D σ H z)⟩
theorem pssM {X : Cx} {e : List Stmt} {t t' : TS} (h : PSs X e t) (m : ∀ D σ H, t' D σ H → t D σ H) : PSs X e t' := ⟨fun pins s σ H D I z => h.run pins s σ H D I (m D σ H z)⟩
section
variable {c : Act} {W : Wh} {σ : L2.St} {F F' : Hp} {ι ι' : List Addr} {H H' : Hp} {e : Ev} {s : Sto}
theorem RelA.mono {vs : List (Option V)} {v : V} {a : Ar} (h : RelA c F ι vs v a) (m : Same F F') (p : Pre ι ι') : RelA c F' ι' vs v a := by
  cases a with
  | v d => exact Rel.mono m p h
  | s i => exact h
theorem deref_ok {vs : List (Option V)} {v : V} {a : Ar} (A : Abs c F ι vs H e s) (h : RelA c F ι vs v a) : deref a e s = .bad ∨ ∃ d, deref a e s = .ok d e s ∧ RelX c.G F ι H v d := by
  cases a with
  | s i =>
    simp only [deref]
    cases z : e[i]? with
    | none => exact .inl rfl
    | some x =>
      cases x with
      | none => exact .inl rfl
      | some r =>
        simp only
        cases f : r.flat with
        | false => exact .inl rfl
        | true =>
          refine .inr ⟨r.d, rfl, ?_⟩
          have hv : vs[i]? = some (some v) := h
          cases r with
          | val d =>
            obtain ⟨w, h1, h2⟩ := A.val i d z
            rw [hv] at h1
            cases h1
            exact .inl h2
          | new o =>
            obtain ⟨b, h1, h2, _⟩ := A.own i o z
            rw [hv] at h1
            cases h1
            exact .inr ⟨b, o, rfl, f, rfl, h2⟩
  | v d =>
    have hd : Rel c.G F ι v d := h
    cases d with
    | ref n =>
      simp only [deref]
      cases z : s[n]? with
      | none => exact .inl rfl
      | some o =>
        refine .inr ⟨_, rfl, ?_⟩
        cases hd with
        | ref hi =>
          have ho := A.objs n _ o hi z
          cases f : o.flat with
          | false => exact .inl (.ref hi)
          | true => exact .inr ⟨_, o, rfl, f, rfl, ho⟩
    | _ => exact .inr ⟨_, rfl, .inl hd⟩
theorem Fin.prim1 {f : D → Option R} {a : Ar} {v : V} {Q : VK} (A : Abs c F ι σ H e s) (h : Fin c W σ F ι (prim1 f a e s) fun r F' ι' H' e' s' => ∀ v, RelR c F' ι' σ H' e' v r → Q v H')
    (ra : RelA c F ι σ v a) : rD1 c.G f v H Q := by
  unfold Mi.prim1 bnd at h
  rcases deref_ok A ra with z | ⟨d, z, hd⟩
  · rw [z] at h; exact h.elim
  · rw [z] at h
    simp only [Out.bind, lift] at h
    cases hf : f d with
    | none => rw [hf] at h; exact h.elim
    | some r =>
      rw [hf] at h
      exact ⟨F, ι, d, r, A.le, hd, hf, fun F' v' H' g n => h F' ι H' g.f (Pre.refl _) (A.grow g) v' (RelN.relR A g n)⟩
theorem Fin.prim2 {f : D → D → Option R} {a b : Ar} {v u : V} {Q : VK} (A : Abs c F ι σ H e s) (h : Fin c W σ F ι (prim2 f a b e s) fun r F' ι' H' e' s' => ∀ v, RelR c F' ι' σ H' e' v r → Q v H')
    (ra : RelA c F ι σ v a) (rb : RelA c F ι σ u b) : rD2 c.G f v u H Q := by
  unfold Mi.prim2 bnd at h
  rcases deref_ok A ra with z | ⟨d, z, hd⟩
  · rw [z] at h; exact h.elim
  · rw [z] at h
    simp only [Out.bind] at h
    rcases deref_ok A rb with z2 | ⟨d2, z2, hd2⟩
    · rw [z2] at h; exact h.elim
    · rw [z2] at h
      simp only [Out.bind, lift] at h
      cases hf : f d d2 with
      | none => rw [hf] at h; exact h.elim
      | some r =>
        rw [hf] at h
        exact ⟨F, ι, d, d2, r, A.le, hd, hd2, hf, fun F' v' H' g n => h F' ι H' g.f (Pre.refl _) (A.grow g) v' (RelN.relR A g n)⟩
theorem derefs_ok {vs : List (Option V)} (A : Abs c F ι vs H e s) : ∀ {xs : List V} {as : List Ar}, Paired (fun v a => RelA c F ι vs v a) xs as → derefs as e s = .bad ∨ ∃ ds, derefs as e s = .ok ds e s ∧ Paired (RelX c.G F ι H) xs ds
  | _, _, .nil => .inr ⟨[], rfl, .nil⟩
  | _, _, .cons h t => by
    simp only [derefs, bnd]
    rcases deref_ok A h with z | ⟨d, z, hd⟩
    · rw [z]; exact .inl rfl
    · rw [z]
      simp only [Out.bind, bnd]
      rcases derefs_ok A t with z2 | ⟨ds, z2, hds⟩
      · rw [z2]; exact .inl rfl
      · rw [z2]
        exact .inr ⟨d :: ds, rfl, .cons hd hds⟩
theorem Fin.primN {f : List D → Option R} {as : List Ar} {xs : List V} {Q : VK} (A : Abs c F ι σ H e s) (h : Fin c W σ F ι (primN f as e s) fun r F' ι' H' e' s' => ∀ v, RelR c F' ι' σ H' e' v r → Q v H')
    (ra : Paired (fun v a => RelA c F ι σ v a) xs as) : rDN c.G f xs H Q := by
  unfold Mi.primN bnd at h
  rcases derefs_ok A ra with z | ⟨d, z, hd⟩
  · rw [z] at h; exact h.elim
  · rw [z] at h
    simp only [Out.bind, lift] at h
    cases hf : f d with
    | none => rw [hf] at h; exact h.elim
    | some r =>
      rw [hf] at h
      exact ⟨F, ι, d, r, A.le, hd, hf, fun F' v' H' g n => h F' ι H' g.f (Pre.refl _) (A.grow g) v' (RelN.relR A g n)⟩
theorem Fin.frz {r : R} {v : V} {P : D → Hp → List Addr → Hp → Ev → Sto → Prop} (A : Abs c F ι σ H e s) (h : Fin c W σ F ι (frz r e s) P) (hr : RelR c F ι σ H e v r) :
    ∃ F' d, Same F F' ∧ Abs c F' ι σ H e s ∧ Rel c.G F' ι v d ∧ P d F' ι H e s := by
  unfold Mi.frz at h
  cases f : r.flat with
  | false => rw [f] at h; exact h.elim
  | true =>
    rw [f] at h
    obtain ⟨F', A', m, hd⟩ := RelR.frz A hr f
    exact ⟨F', r.d, m, A', hd, h F' ι H m (Pre.refl _) A'⟩
theorem rdR_frz {m : M R} {Q : VK} (h : rdD c W (bnd m Mi.frz) σ H Q) : rdR c W m σ H Q := by
  obtain ⟨F, ι, e, s, hn, A, h⟩ := h
  refine ⟨F, ι, e, s, hn, A, h.split.imp fun r F' ι' H' e' s' m1 p1 A' h' v hr => ?_⟩
  obtain ⟨F2, d, m2, A2, hd, q⟩ := Fin.frz A' h' hr
  exact q v hd
theorem rd2 {ma mb : M Ar} {f : D → D → Option R} {r : R2} {Q : VK} (h : rdR c W (bnd ma fun x => bnd mb fun y => Mi.prim2 f x y) σ H Q) (hr : ∀ x y H Q, rD2 c.G f x y H Q → r x y H Q) : tOp r (rdA c W ma) (rdA c W mb) σ H Q := by
  obtain ⟨F, ι, e, s, hn, A, h⟩ := h
  refine ⟨F, ι, e, s, hn, A, h.split.imp fun a F1 ι1 H1 e1 s1 m1 p1 A1 h1 v hv => ?_⟩
  refine ⟨F1, ι1, e1, s1, hn, A1, h1.split.imp fun b F2 ι2 H2 e2 s2 m2 p2 A2 h2 u hu => ?_⟩
  exact hr _ _ _ _ (Fin.prim2 A2 h2 (RelA.mono hv m2 p2) hu)
theorem rd1 {ma : M Ar} {f : D → Option R} {Q : VK} (h : rdR c W (bnd ma fun x => Mi.prim1 f x) σ H Q) : rdA c W ma σ H fun x H1 => rD1 c.G f x H1 Q := by
  obtain ⟨F, ι, e, s, hn, A, h⟩ := h
  exact ⟨F, ι, e, s, hn, A, h.split.imp fun a F1 ι1 H1 e1 s1 m1 p1 A1 h1 v hv => Fin.prim1 A1 h1 hv⟩
theorem Fin.asBl {α : Type} {f : Bool → M α} {r : R} {v : V} {P : α → Hp → List Addr → Hp → Ev → Sto → Prop} (h : Fin c W σ F ι ((bnd (asBl r) f) e s) P) (hr : RelR c F ι σ H e v r) :
    ∃ b, v = .bl b ∧ r = .val (.bl b) ∧ Fin c W σ F ι (f b e s) P := by
  unfold Mi.asBl bnd at h
  split at h
  · rename_i b
    cases hr
    exact ⟨b, rfl, rfl, h⟩
  · exact h.elim
theorem Fin.asInt {α : Type} {f : Int → M α} {r : R} {v : V} {P : α → Hp → List Addr → Hp → Ev → Sto → Prop} (h : Fin c W σ F ι ((bnd (asInt r) f) e s) P) (hr : RelR c F ι σ H e v r) :
    ∃ b, v = .int b ∧ r = .val (.int b) ∧ Fin c W σ F ι (f b e s) P := by
  unfold Mi.asInt bnd at h
  split at h
  · rename_i b
    cases hr
    exact ⟨b, rfl, rfl, h⟩
  · exact h.elim
theorem Abs.entry (A : Abs c F ι σ H e s) (n : Nat) : Abs ⟨c.G, F, ι, H, n⟩ F ι [] H [] s :=
  { len := rfl, le0 := Same.refl _, le := A.le, new := fun a o h => .inl h, pre := Pre.refl _, nd := A.nd, inew := fun a h => .inl h, sep := A.sep, keep := fun a o h _ => h, lens := A.lens, objs := A.objs,
    val := fun j d h => by simp at h, own := fun j o h => by simp at h, ownnd := fun i j a p q _ h => by simp at h }
theorem Abs.back {vs : List (Option V)} {n : Nat} {s' : Sto} (A : Abs c F ι vs H e s) (B : Abs ⟨c.G, F, ι, H, n⟩ F' ι' [] H' [] s') : Abs c F' ι' vs H' e s' := by
  have hnew : ∀ {a : Addr} {u : HO}, F a = none → H a = some u → F' a = none := fun {a u} h1 h2 => by
    cases z : F' a with
    | none => rfl
    | some w =>
      rcases B.new a w z with q | q
      · have q' : F a = some w := q
        rw [h1] at q'; cases q'
      · have q' : H a = none := q
        rw [h2] at q'; cases q'
  refine { len := A.len, le0 := A.le0.trans B.le0, le := B.le, new := fun a o h => ?_, pre := A.pre.trans B.pre, nd := B.nd, inew := fun a h => ?_, sep := B.sep, keep := fun a o h hn => ?_, lens := B.lens, objs := B.objs, val := fun j d h => ?_, own := fun j o h => ?_, ownnd := A.ownnd }
  · rcases B.new a o h with q | q
    · exact A.new a o q
    · exact .inr (A.fresh q).1
  · rcases B.inew a h with q | q
    · exact A.inew a q
    · exact .inr (A.fresh q).1
  · refine B.keep a o (A.keep a o h hn) fun q => ?_
    rcases A.inew a q with z | z
    · exact hn z
    · rw [h] at z; cases z
  · obtain ⟨v, h1, h2⟩ := A.val j d h
    exact ⟨v, h1, h2.mono B.le0 B.pre⟩
  · obtain ⟨a, h1, h2, h3, h4, h5⟩ := A.own j o h
    obtain ⟨u, hu⟩ := h2.there
    refine ⟨a, h1, h2.mono B.le0 B.pre (fun w hw => B.keep a w hw h4), hnew h3 hu, fun q => ?_, h5⟩
    rcases B.inew a q with z | z
    · exact h4 z
    · have z' : H a = none := z
      rw [hu] at z'; cases z'
theorem RelR.back {vs : List (Option V)} {n : Nat} {v : V} {r : R} (A : Abs c F ι vs H e s) (h : RelR ⟨c.G, F, ι, H, n⟩ F' ι' [] H' [] v r) : RelR c F' ι' vs H' e v r := by
  cases r with
  | val d => exact h
  | new o =>
    obtain ⟨a, rfl, h1, h2, h3, h4, _⟩ := h
    obtain ⟨q1, q2, q3, q4⟩ := A.fresh h4
    exact ⟨a, rfl, h1, h2, h3, q1, q4⟩
end
def spOf (G : Gs) (O : Orc) (g : Nat) : Sp := fun vs H Q E => ∃ F ι ds s, Abs ⟨G, F, ι, H, 0⟩ F ι [] H [] s ∧ Rels G F ι vs ds ∧ (match O.call g ds s with
  | .ok r s' => ∀ F' ι' v H', Abs ⟨G, F, ι, H, 0⟩ F' ι' [] H' [] s' → RelR ⟨G, F, ι, H, 0⟩ F' ι' [] H' [] v r → Q v H'
  | .exc cl s' => ∀ F' ι' H', Abs ⟨G, F, ι, H, 0⟩ F' ι' [] H' [] s' → E (.ref (G.ca cl)) none H'
  | .bad => False)
def bnames : List Str := ["isinstance", "int", "bool", "tuple", "list", "str", "dict", "len", "sum", "max", "min", "all", "any", "repr", "range", "zip", "enumerate", "sorted", "ValueError"]
structure SubOk (K : PySem.W.Frag) (a b : Addr) (r : Bool) : Prop where
  em : PySem.W.exmOne K (.ref a) (.ref b) = some r
  ki : PySem.W.kitOne K (.ref a) (.ref b) = some r
  ve : PySem.W.kitOne K (.ref a) (.type "ValueError") = some true
  ex : L2.ExcC K a
structure ClsOk (X : Cx) (a : Addr) (x : Str) : Prop where
  mg : X.mg x = some (.ref a)
  kp : PySem.W.keepIn X.K (.ref a) = true
  ex : PySem.W.excIn X.K a [.type "ValueError", .type "Exception", .type "BaseException", .type "object"] "ValueError.__new__" = true
  sb : PySem.W.subIn X.K (.ref a) (.type "BaseException") = some true
  ty : PySem.W.typeIn X.K (.ref a) = some (.type "type")
structure XOk (c : Act) (C : CC) (O : Orc) (k : Nat) (X : Cx) (W : Wh) : Prop where
  K : X.K = c.G.K
  N : X.N = C.N
  n : c.n = C.N.length
  nm : X.env.scope.names = C.nm
  kind : X.env.scope.kind = .function
  nd : C.N.Nodup
  calm : X.calm = true
  gd : X.A.guards = some []
  room : Room k X.A
  tk : Takes X W
  wr : ∀ x, C.wrt x = true → Loc X.env.scope x ∧ (X.fn x = true ∨ X.env.scope.names.lookup x = some .local)
  free : ∀ x ∈ bnames, X.mg x = none
  gl : ∀ g x, C.gn g = some x → ∀ d, O.gl g = some d → ∃ v u, X.mg x = some u ∧ RelV v u ∧ ∀ F ι, Rel c.G F ι v d
  glc : ∀ g, C.gl g = O.gl g
  fn : ∀ g x, C.gn g = some x → C.fk g = true → X.mg x = some (.ref (c.G.fa g))
  ok : ∀ g, C.fk g = true → FnG X.prog X.w X.K X.mg X.base k (c.G.fa g) (spOf c.G O g)
  dyn : ∀ g, O.has g = true → C.fk g = true
  cls : ∀ g x, C.cn g = some x → ClsOk X (c.G.ca g) x
  sub : ∀ a b r, O.sub a b = some r → SubOk X.K (c.G.ca a) (c.G.ca b) r
section
variable {c : Act} {C : CC} {O : Orc} {k : Nat} {X : Cx} {W : Wh} {e : Expr}
theorem XOk.hu (x : XOk c C O k X W) : X.A.units + 65 < cLine := by have := x.room.un; omega
theorem XOk.vis (x : XOk c C O k X W) {y : Str} (h : C.vis y = true) : Vis X.env.scope y := by
  unfold Vis
  rw [x.nm]
  unfold CC.vis at h
  split at h
  · exact .inl (by assumption)
  · exact .inr (.inl (by assumption))
  · exact .inr (.inr (by assumption))
  · cases h
theorem XOk.glb (x : XOk c C O k X W) {y : Str} (h : C.glb y = true) : Gl X y := by
  unfold Gl PySem.Env.kindOf
  rw [x.nm]
  unfold CC.glb at h
  split at h
  · assumption
  · cases h
theorem XOk.slot (x : XOk c C O k X W) {i : Nat} {y : Str} (h : C.slot i y = true) : X.N[i]? = some y := by
  rw [x.N]
  simpa [CC.slot] using h
theorem bug_of {x : Str} (h : notBug x = true) : (x == ("__debug__" : Str)) = false ∧ (x == ("__classdict__" : Str)) = false ∧ x ≠ ("__name__" : Str) := by
  unfold notBug at h
  simp only [Bool.and_eq_true, Bool.not_eq_true', decide_eq_true_eq] at h
  exact ⟨h.1.1, h.1.2, h.2⟩
theorem star_plain {es : List Expr} {env : PySem.Env} (h : plainA e = true) : starEach (e :: es) env = (false, eval e env) :: starEach es env := by
  cases e <;> first | rfl | simp [plainA] at h
end
end Mi
namespace Mi
open PySem PySem.Spec PyProof.Rows L2
section
variable {c : Act} {C : CC} {O : Orc} {k : Nat} {X : Cx} {W : Wh} {σ : L2.St} {F F' : Hp} {ι ι' : List Addr} {H H' : Hp} {e : Ev} {s : Sto} {pos p1 p2 : Pos}
theorem Abs.slotAt (x : XOk c C O k X W) {i : Nat} {y : Str} (hi : C.slot i y = true) : i < c.n := by
  rw [x.n]
  have h : C.N[i]? = some y := by simpa [CC.slot] using hi
  exact get_lt h
theorem var_ok (x : XOk c C O k X W) {i : Nat} {y : Str} (hi : C.slot i y = true) (hv : C.vis y = true) (hb : notBug y = true) : PE X (.Name y pos) (rdR c W (getVar i)) := by
  obtain ⟨b1, b2, _⟩ := bug_of hb
  refine peM (pe_var (x.slot hi) (x.vis hv) b1 b2) fun σ H Q h => ?_
  obtain ⟨F, ι, e, s, hn, A, h⟩ := h
  unfold getVar at h
  split at h
  · rename_i d z
    obtain ⟨v, h1, h2⟩ := A.val i d z
    exact ⟨v, h1, h.ok A v h2⟩
  · rename_i o z
    split at h
    · rename_i f
      obtain ⟨F', v, A', m, h1, h2⟩ := A.frzSlot z f
      exact ⟨v, h1, h F' ι H m (Pre.refl _) A' v h2⟩
    · exact h.elim
  · exact h.elim
theorem varA_ok (x : XOk c C O k X W) {i : Nat} {y : Str} (hi : C.slot i y = true) (hv : C.vis y = true) (hb : notBug y = true) (m : M R) : PE X (.Name y pos) (rdA c W (asA (.var i) m)) := by
  obtain ⟨b1, b2, _⟩ := bug_of hb
  refine peM (pe_var (x.slot hi) (x.vis hv) b1 b2) fun σ H Q h => ?_
  obtain ⟨F, ι, e, s, hn, A, h⟩ := h
  unfold asA at h
  simp only at h
  split at h
  · rename_i d z
    obtain ⟨v, h1, h2⟩ := A.val i d z
    exact ⟨v, h1, h.ok A v h2⟩
  · rename_i o z
    obtain ⟨a, h1, _⟩ := A.own i o z
    exact ⟨.ref a, h1, h.ok A _ h1⟩
  · exact h.elim
theorem asA_ok {x : E} {ast : Expr} {m : M R} (hx : ∀ i, x ≠ .var i) (h : PE X ast (rdR c W m)) : PE X ast (rdA c W (asA x m)) := by
  refine peM h fun σ H Q z => ?_
  have e1 : asA x m = bnd m fun r => bnd (frz r) fun d => ret (.v d) := by
    cases x <;> first | rfl | exact absurd rfl (hx _)
  rw [e1] at z
  obtain ⟨F, ι, e, s, hn, A, z⟩ := z
  refine ⟨F, ι, e, s, hn, A, z.split.imp fun r F' ι' H' e' s' m1 p1 A' h' v hr => ?_⟩
  obtain ⟨F2, d, m2, A2, hd, q⟩ := Fin.frz A' h'.split hr
  exact q.ok A2 v hd
theorem cst_ok {d : D} {cc : Const} {j : Nat} (h : cstC d cc = true) : PE X (.Constant cc j pos) (rdR c W (ret (.val d))) := by
  unfold cstC at h
  split at h
  · refine peM pe_non fun σ H Q z => ?_
    obtain ⟨F, ι, e, s, hn, A, z⟩ := z
    exact z.ok A _ .non
  · rw [eq_of_beq h]
    refine peM pe_bl fun σ H Q z => ?_
    obtain ⟨F, ι, e, s, hn, A, z⟩ := z
    exact z.ok A _ (.bl _)
  · rw [of_decide_eq_true h]
    refine peM pe_int fun σ H Q z => ?_
    obtain ⟨F, ι, e, s, hn, A, z⟩ := z
    exact z.ok A _ (.int _)
  · rw [of_decide_eq_true h]
    refine peM pe_str fun σ H Q z => ?_
    obtain ⟨F, ι, e, s, hn, A, z⟩ := z
    exact z.ok A _ (.str _)
  · cases h
theorem glob_ok (x : XOk c C O k X W) {g : Nat} {y : Str} (hg : C.gn g = some y) (hy : C.glb y = true) (hb : notBug y = true) (hs : (C.gl g).isSome = true) : PE X (.Name y pos) (rdR c W (lift ((O.gl g).map .val))) := by
  obtain ⟨b1, b2, _⟩ := bug_of hb
  rw [x.glc g] at hs
  obtain ⟨d, hd⟩ := Option.isSome_iff_exists.mp hs
  obtain ⟨v, u, h1, h2, h3⟩ := x.gl g y hg d hd
  refine peM (pe_glob (x.glb hy) h1 h2 b1) fun σ H Q z => ?_
  obtain ⟨F, ι, e, s, hn, A, z⟩ := z
  rw [hd] at z
  exact z.ok A v (h3 F ι)
theorem rels_of {xs : List V} {ds : List D} (h : Paired (fun v d => Rel c.G F ι v d) xs ds) : Rels c.G F ι xs ds := by
  induction h with
  | nil => exact .nil
  | cons h _ ih => exact .cons h ih
theorem tup_ok {es : List Expr} {j : Nat} {m : M (List D)} (h : PA X es (rdVs c W m)) : PE X (.Tuple es j pos) (rdR c W (bnd m fun ds => if ds.length ≤ line then ret (.val (.tup ds)) else badM)) := by
  refine peM (pe_tup h) fun σ H Q z => ?_
  obtain ⟨F, ι, e, s, hn, A, z⟩ := z
  refine ⟨F, ι, e, s, hn, A, z.split.imp fun ds F' ι' H' e' s' m1 p1 A' h' vs hr => ?_⟩
  have rr := rels_of hr
  split at h'
  · refine ⟨by rw [rr.length, line_eq]; assumption, fun p hp => ?_⟩
    have g := Grow.frozen (o := .tup vs) A'.le hp
    exact h' _ ι' _ g.f (Pre.refl _) (A'.grow g) _ (.tup (.inl (.inl upd_same)) (rr.mono g.f (Pre.refl _)))
  · exact h'.elim
theorem lst_ok {es : List Expr} {m : M (List D)} (h : PA X es (rdVs c W m)) : PE X (.List es pos) (rdR c W (bnd m fun ds => if ds.length ≤ line then ret (.new (.lst ds)) else badM)) := by
  refine peM (pe_lst h) fun σ H Q z => ?_
  obtain ⟨F, ι, e, s, hn, A, z⟩ := z
  refine ⟨F, ι, e, s, hn, A, z.split.imp fun ds F' ι' H' e' s' m1 p1 A' h' vs hr => ?_⟩
  have rr := rels_of hr
  split at h'
  · refine ⟨by rw [rr.length, line_eq]; assumption, fun p hp => ?_⟩
    have g := Grow.fresh (o := .lst vs) A'.le hp
    obtain ⟨q1, q2, q3, q4⟩ := A'.fresh hp
    exact h' _ ι' _ g.f (Pre.refl _) (A'.grow g) _ ⟨p, rfl, ⟨vs, upd_same, rr⟩, q2, q3, q1, q4⟩
  · exact h'.elim
theorem bin_ok (x : XOk c C O k X W) {op : Operator} {a b : Expr} {ma mb : M Ar} (ha : PE X a (rdA c W ma)) (hb : PE X b (rdA c W mb)) : PE X (.BinOp a op b pos) (rdR c W (bnd ma fun x => bnd mb fun y => prim2 (binD op) x y)) :=
  peM (pe_op (opD x.K op) ha hb) fun σ H Q z => rd2 z fun _ _ _ _ q => q
theorem cmp_ok (x : XOk c C O k X W) {op : CmpOp} {a b : Expr} {ma mb : M Ar} (hm : opsOk op b = true) (ha : PE X a (rdA c W ma)) (hb : PE X b (rdA c W mb)) : PE X (.Compare a [op] [b] pos) (rdR c W (bnd ma fun x => bnd mb fun y => prim2 (fun x y => blR (cmpD op x y)) x y)) :=
  peM (pe_cmpR (cmpOp x.K x.hu op) ha hb (by simpa [opsOk] using hm)) fun σ H Q z => rd2 z fun _ _ _ _ q => q
theorem neg_ok {a : Expr} {ma : M Ar} (ha : PE X a (rdA c W ma)) : PE X (.UnaryOp .USub a pos) (rdR c W (bnd ma fun x => prim1 negD x)) :=
  peM (pe_un (negD_ok (G := c.G)) ha) fun σ H Q z => rd1 z
theorem not_ok {a : Expr} {ma : M R} (ha : PE X a (rdR c W ma)) : PE X (.UnaryOp .Not a pos) (rdR c W (bnd ma fun r => bnd (asBl r) fun b => ret (.val (.bl (!b))))) := by
  refine peM (pe_not ha) fun σ H Q z => ?_
  obtain ⟨F, ι, e, s, hn, A, z⟩ := z
  refine ⟨F, ι, e, s, hn, A, z.split.imp fun r F' ι' H' e' s' m1 p1 A' h' v hr => ?_⟩
  obtain ⟨b, rfl, rfl, h2⟩ := Fin.asBl h' hr
  exact ⟨b, rfl, h2.ok A' _ (.bl _)⟩
theorem and_ok {a b : Expr} {r : List Expr} {ma mb : M R} (ha : PE X a (rdR c W ma)) (hb : PE X (.BoolOp .And (b :: r) pos) (rdR c W mb)) : PE X (.BoolOp .And (a :: b :: r) pos) (rdR c W (bnd ma fun r => bnd (asBl r) fun c => match c with
    | true => mb
    | false => ret (.val (.bl false)))) := by
  refine peM (pe_and ha hb) fun σ H Q z => ?_
  obtain ⟨F, ι, e, s, hn, A, z⟩ := z
  refine ⟨F, ι, e, s, hn, A, z.split.imp fun r F' ι' H' e' s' m1 p1 A' h' v hr => ?_⟩
  obtain ⟨b, rfl, rfl, h2⟩ := Fin.asBl h' hr
  refine ⟨b, rfl, ?_⟩
  cases b with
  | true => exact ⟨F', ι', e', s', hn, A', h2⟩
  | false => exact h2.ok A' _ (.bl _)
theorem or_ok {a b : Expr} {r : List Expr} {ma mb : M R} (ha : PE X a (rdR c W ma)) (hb : PE X (.BoolOp .Or (b :: r) pos) (rdR c W mb)) : PE X (.BoolOp .Or (a :: b :: r) pos) (rdR c W (bnd ma fun r => bnd (asBl r) fun c => match c with
    | true => ret (.val (.bl true))
    | false => mb)) := by
  refine peM (pe_or ha hb) fun σ H Q z => ?_
  obtain ⟨F, ι, e, s, hn, A, z⟩ := z
  refine ⟨F, ι, e, s, hn, A, z.split.imp fun r F' ι' H' e' s' m1 p1 A' h' v hr => ?_⟩
  obtain ⟨b, rfl, rfl, h2⟩ := Fin.asBl h' hr
  refine ⟨b, rfl, ?_⟩
  cases b with
  | true => exact h2.ok A' _ (.bl _)
  | false => exact ⟨F', ι', e', s', hn, A', h2⟩
theorem ife_ok {t a b : Expr} {mc ma mb : M R} (hc : PT X t (rdB c W (bnd mc asBl))) (ha : PE X a (rdR c W ma)) (hb : PE X b (rdR c W mb)) : PE X (.IfExp t a b pos) (rdR c W (bnd mc fun r => bnd (asBl r) fun c => match c with
    | true => ma
    | false => mb)) := by
  refine peM (pe_ifExp hc ha hb) fun σ H Q z => ?_
  obtain ⟨F, ι, e, s, hn, A, z⟩ := z
  refine ⟨F, ι, e, s, hn, A, ?_⟩
  have e1 : (bnd mc fun r => bnd (asBl r) fun c => match c with
    | true => ma
    | false => mb) = bnd (bnd mc asBl) fun c => match c with
    | true => ma
    | false => mb := by
    funext e s
    simp only [bnd]
    cases mc e s <;> rfl
  rw [e1] at z
  refine z.split.imp fun b F' ι' H' e' s' m1 p1 A' h' => ?_
  cases b with
  | true => exact ⟨F', ι', e', s', hn, A', h'⟩
  | false => exact ⟨F', ι', e', s', hn, A', h'⟩
theorem chain_ok (x : XOk c C O k X W) {o1 o2 : CmpOp} {a b t : Expr} {ma mb mc : M Ar} (hm : opsOk o2 t = true) (ha : PE X a (rdA c W ma)) (hb : PE X b (rdA c W mb)) (hc : PE X t (rdA c W mc)) :
    PE X (.Compare a [o1, o2] [b, t] pos) (rdR c W (bnd ma fun x => bnd mb fun y => bnd (prim2 (fun x y => blR (cmpD o1 x y)) x y) fun r => bnd (asBl r) fun k => match k with
    | true => bnd mc fun z => prim2 (fun x y => blR (cmpD o2 x y)) y z
    | false => ret (.val (.bl false)))) := by
  refine peM (pe_chain (cmpOp x.K x.hu o1) (cmpOp x.K x.hu o2) ha hb hc (by simpa [opsOk, lastMarks] using hm)) fun σ H Q z => ?_
  obtain ⟨F, ι, e, s, hn, A, z⟩ := z
  refine ⟨F, ι, e, s, hn, A, z.split.imp fun p F1 ι1 H1 e1 s1 m1 p1 A1 h1 v hv => ?_⟩
  refine ⟨F1, ι1, e1, s1, hn, A1, h1.split.imp fun q F2 ι2 H2 e2 s2 m2 p2 A2 h2 u hu => ?_⟩
  refine Fin.prim2 A2 (h2.split.imp fun r F3 ι3 H3 e3 s3 m3 p3 A3 h3 w hw => ?_) (RelA.mono hv m2 p2) hu
  obtain ⟨b, rfl, rfl, h4⟩ := Fin.asBl h3 hw
  refine ⟨b, rfl, ?_⟩
  cases b with
  | true =>
    rw [if_pos rfl]
    refine ⟨F3, ι3, e3, s3, hn, A3, h4.split.imp fun q F4 ι4 H4 e4 s4 m4 p4 A4 h5 u' hu' => ?_⟩
    exact Fin.prim2 A4 h5 (RelA.mono (RelA.mono hu m3 p3) m4 p4) hu'
  | false =>
    rw [if_neg Bool.false_ne_true]
    exact h4.ok A3 _ (.bl _)
theorem plainIx_ok {b : Expr} (h : plainIx b = true) : PlainIx b := by
  intro o i
  cases b <;> first | rfl | simp [plainIx] at h
theorem ix_ok (x : XOk c C O k X W) {a b : Expr} {ma mb : M Ar} (hb' : plainIx b = true) (ha : PE X a (rdA c W ma)) (hb : PE X b (rdA c W mb)) : PE X (.Subscript a b pos) (rdR c W (bnd ma fun x => bnd mb fun y => prim2 (fun x y => (ixD x y).map .val) x y)) :=
  peM (pe_ix (ixD_ok x.K x.hu) ha hb (plainIx_ok hb')) fun σ H Q z => rd2 z fun _ _ _ _ q => q
def rdO (c : Act) (W : Wh) (m : M (Option Int)) : TO := fun σ H Q => ∃ F ι e s, σ.length = c.n ∧ Abs c F ι σ H e s ∧ Fin c W σ F ι (m e s) fun o F' ι' H' e' s' => Q o H'
theorem poM {e : Option Expr} {t t' : TO} (h : PO X e t) (m : ∀ σ H Q, t' σ H Q → t σ H Q) : PO X e t' := ⟨fun pins s σ H Q I z => h.run pins s σ H Q I (m σ H Q z)⟩
theorem part_none {m : M R} : PO X none (rdO c W (partOf .nop m)) := by
  refine poM po_none fun σ H Q z => ?_
  obtain ⟨F, ι, e, s, hn, A, z⟩ := z
  exact z.ok A
theorem part_some {x : E} {m : M R} {a : Expr} (hx : x ≠ .nop) (h : PE X a (rdR c W m)) : PO X (some a) (rdO c W (partOf x m)) := by
  refine poM (po_some h) fun σ H Q z => ?_
  have e1 : partOf x m = bnd m fun r => bnd (asInt r) fun k => ret (some k) := by
    cases x <;> first | rfl | exact absurd rfl hx
  rw [e1] at z
  obtain ⟨F, ι, e, s, hn, A, z⟩ := z
  refine ⟨F, ι, e, s, hn, A, z.split.imp fun r F' ι' H' e' s' m1 p1 A' h' v hr => ?_⟩
  obtain ⟨b, rfl, rfl, h2⟩ := Fin.asInt h' hr
  exact ⟨b, rfl, h2.ok A'⟩
theorem sl_ok (x : XOk c C O k X W) {a : Expr} {lo hi : Option Expr} {ma : M Ar} {ml mh : M (Option Int)} (ha : PE X a (rdA c W ma)) (hl : PO X lo (rdO c W ml)) (hh : PO X hi (rdO c W mh)) :
    PE X (.Subscript a (.Slice lo hi none p2) pos) (rdR c W (bnd ma fun x => bnd ml fun l => bnd mh fun h => prim1 (fun x => slD x l h) x)) := by
  refine peM (pe_slice (slD_ok x.K) ha hl hh) fun σ H Q z => ?_
  obtain ⟨F, ι, e, s, hn, A, z⟩ := z
  refine ⟨F, ι, e, s, hn, A, z.split.imp fun p F1 ι1 H1 e1 s1 m1 p1 A1 h1 v hv => ?_⟩
  refine ⟨F1, ι1, e1, s1, hn, A1, h1.split.imp fun l F2 ι2 H2 e2 s2 m2 p2 A2 h2 => ?_⟩
  refine ⟨F2, ι2, e2, s2, hn, A2, h2.split.imp fun h F3 ι3 H3 e3 s3 m3 p3 A3 h3 => ?_⟩
  exact Fin.prim1 A3 h3 (RelA.mono (RelA.mono hv m2 p2) m3 p3)
theorem tynm (t : Ty) : bootBuiltins t.nm = some (.type t.s) ∧ t.nm ≠ "__name__" ∧ (t.nm == ("__debug__" : Str)) = false ∧ t.nm ∈ bnames := by
  cases t <;> exact ⟨by decide +kernel, by decide +kernel, by decide +kernel, by decide +kernel⟩
theorem isi_ok (x : XOk c C O k X W) {a : Expr} {ma : M Ar} {t : Ty} (hp : plainA a = true) (h1 : C.glb "isinstance" = true) (h2 : C.glb t.nm = true) (ha : PE X a (rdA c W ma)) :
    PE X (.Call (.Name "isinstance" p1) [a, .Name t.nm p2] [] pos) (rdR c W (bnd ma fun x => prim1 (fun x => blR (isiD x t)) x)) := by
  obtain ⟨t1, t2, t3, t4⟩ := tynm t
  refine peM (pe_callB (call_isiD (G := c.G) x.K t) (x.glb h1) (x.free _ (by decide +kernel)) (by decide +kernel) (pa_cons ha (pa_cons (pe_bltn (v := .ty t.s) (x.glb h2) (x.free _ t4) t1 rfl t2 t3) pa_nil (by rfl)) (star_plain hp)) (by decide) (by decide) (star_plain hp) (by rfl)) fun σ H Q z => ?_
  have z' := rd1 z
  obtain ⟨F, ι, e, s, hn, A, z'⟩ := z'
  exact ⟨F, ι, e, s, hn, A, z'.imp fun p F1 ι1 H1 e1 s1 m1 p1 A1 h1 v hv => ⟨v, rfl, h1 v hv⟩⟩
end
end Mi
namespace Mi
open PySem PySem.Spec PyProof.Rows L2
section
variable {c : Act} {C : CC} {O : Orc} {k : Nat} {X : Cx} {W : Wh} {σ : L2.St} {F F' : Hp} {ι ι' : List Addr} {H H' : Hp} {e : Ev} {s : Sto} {pos p1 p2 : Pos}
def plainAs : List Expr → Bool
  | [] => true
  | e :: es => plainA e && plainAs es
theorem chkEs_plain : ∀ {es : List E} {es' : List Expr}, chkEs C es es' = true → plainAs es' = true
  | [], [], _ => rfl
  | _ :: _, _ :: _, h => by
    simp only [chkEs, Bool.and_eq_true] at h
    simp [plainAs, h.1.1, chkEs_plain h.2]
  | [], _ :: _, h => by simp [chkEs] at h
  | _ :: _, [], h => by simp [chkEs] at h
theorem nostar {env : PySem.Env} {pos : Pos} : ∀ {es : List Expr}, plainAs es = true → (backTo pos (starEach es env)).any (·.1) = false
  | [], _ => rfl
  | e :: es, h => by
    simp only [plainAs, Bool.and_eq_true] at h
    rw [star_plain h.1]
    show (false || (backTo pos (starEach es env)).any (·.1)) = false
    rw [nostar h.2]
    rfl
theorem pas_nil : PA X [] (rdVs c W (ret [])) := by
  refine paM pa_nil fun σ H Q z => ?_
  obtain ⟨F, ι, e, s, hn, A, z⟩ := z
  exact z.ok A _ .nil
theorem pas_cons {a : Expr} {as : List Expr} {m : M R} {ms : M (List D)} (hp : plainA a = true) (ha : PE X a (rdR c W m)) (hs : PA X as (rdVs c W ms)) : PA X (a :: as) (rdVs c W (bnd m fun r => bnd (frz r) fun d => bnd ms fun ds => ret (d :: ds))) := by
  refine paM (pa_cons ha hs (star_plain hp)) fun σ H Q z => ?_
  obtain ⟨F, ι, e, s, hn, A, z⟩ := z
  refine ⟨F, ι, e, s, hn, A, z.split.imp fun r F1 ι1 H1 e1 s1 m1 p1 A1 h1 v hr => ?_⟩
  obtain ⟨F2, d, m2, A2, hd, q⟩ := Fin.frz A1 h1.split hr
  refine ⟨F2, ι1, e1, s1, hn, A2, q.split.imp fun ds F3 ι3 H3 e3 s3 m3 p3 A3 h3 vs hvs => ?_⟩
  exact h3.ok A3 _ (.cons (Rel.mono m3 p3 hd) hvs)
theorem paa_nil : PA X [] (rdAs c W (ret [])) := by
  refine paM pa_nil fun σ H Q z => ?_
  obtain ⟨F, ι, e, s, hn, A, z⟩ := z
  exact z.ok A _ .nil
theorem paa_cons {a : Expr} {as : List Expr} {m : M Ar} {ms : M (List Ar)} (hp : plainA a = true) (ha : PE X a (rdA c W m)) (hs : PA X as (rdAs c W ms)) : PA X (a :: as) (rdAs c W (bnd m fun d => bnd ms fun ds => ret (d :: ds))) := by
  refine paM (pa_cons ha hs (star_plain hp)) fun σ H Q z => ?_
  obtain ⟨F, ι, e, s, hn, A, z⟩ := z
  refine ⟨F, ι, e, s, hn, A, z.split.imp fun r F1 ι1 H1 e1 s1 m1 p1 A1 h1 v hr => ?_⟩
  refine ⟨F1, ι1, e1, s1, hn, A1, h1.split.imp fun ds F3 ι3 H3 e3 s3 m3 p3 A3 h3 vs hvs => ?_⟩
  exact h3.ok A3 _ (.cons (RelA.mono hr m3 p3) hvs)
theorem binm (b : Bi) : b.nm ≠ "__name__" ∧ (b.nm == ("__debug__" : Str)) = false ∧ b.nm ∈ bnames := by
  cases b <;> exact ⟨by decide +kernel, by decide +kernel, by decide +kernel⟩
theorem bi_ok (x : XOk c C O k X W) {b : Bi} {a : Expr} {as : List Expr} {m : M (List Ar)} (hp : plainAs (a :: as) = true) (h1 : C.glb b.nm = true) (h : PA X (a :: as) (rdAs c W m)) : PE X (.Call (.Name b.nm p1) (a :: as) [] pos) (rdR c W (bnd m fun xs => primN (biD b) xs)) := by
  obtain ⟨t1, t2, t3⟩ := binm b
  have hc := biD_ok (G := c.G) x.K x.gd x.hu x.calm b
  have hb := boot_bi b
  simp only [plainAs, Bool.and_eq_true] at hp
  have key : ∀ {r : List V → Hp → VK → Prop}, r = rDN c.G (biD b) → ∀ σ H Q, rdR c W (bnd m fun xs => primN (biD b) xs) σ H Q → tCB r (rdAs c W m) σ H Q := by
    rintro r rfl σ H Q z
    obtain ⟨F, ι, e, s, hn, A, z⟩ := z
    exact ⟨F, ι, e, s, hn, A, z.split.imp fun as F1 ι1 H1 e1 s1 m1 p1 A1 h1 vs hvs => Fin.primN A1 h1 hvs⟩
  have bi : ∀ {id : String}, b.v = .builtin id → PE X (.Call (.Name b.nm p1) (a :: as) [] pos) (rdR c W (bnd m fun xs => primN (biD b) xs)) := fun {id} e1 => by
    rw [e1] at hc hb
    exact peM (pe_callB hc (x.glb h1) (x.free _ t3) hb h t1 t2 (star_plain hp.1) (nostar hp.2)) (key rfl)
  have ty : ∀ {T : String}, b.v = .type T → PE X (.Call (.Name b.nm p1) (a :: as) [] pos) (rdR c W (bnd m fun xs => primN (biD b) xs)) := fun {T} e1 => by
    rw [e1] at hc hb
    exact peM (pe_callTy hc (x.glb h1) (x.free _ t3) hb h t1 t2 (star_plain hp.1) (nostar hp.2)) (key rfl)
  cases b <;> first | exact bi rfl | exact ty rfl
theorem call_fin {g : Nat} {Q : VK} {ds : List D} {vs : List V} (A : Abs c F ι σ H e s) (hn : σ.length = c.n) (z : Fin c W σ F ι (callM O g ds e s) fun r F' ι' H' e' s' => ∀ v, RelR c F' ι' σ H' e' v r → Q v H') (hv : Rels c.G F ι vs ds) :
    spOf c.G O g vs H Q (fun cl d H' => W cl d σ H') := by
  refine ⟨F, ι, ds, s, Abs.entry A 0, hv, ?_⟩
  unfold callM at z
  cases hc : O.call g ds s with
  | ok r s' =>
    rw [hc] at z
    intro F' ι' v H' B hr
    exact z F' ι' H' B.le0 B.pre (A.back B) v (RelR.back A hr)
  | exc cl s' =>
    rw [hc] at z
    intro F' ι' H' B
    exact z F' ι' H' B.le0 B.pre (A.back B)
  | bad => rw [hc] at z; exact z
def Cal (c : Act) (W : Wh) (O : Orc) (g : Nat) (σ : L2.St) (Q : VK) (vs : List V) (H : Hp) : Prop := ∃ ds F ι e s, Abs c F ι σ H e s ∧ (Fin c W σ F ι (callM O g ds e s) fun r F' ι' H' e' s' => ∀ v, RelR c F' ι' σ H' e' v r → Q v H') ∧ Rels c.G F ι vs ds
theorem cal_run (x : XOk c C O k X W) {g : Nat} (hk : C.fk g = true) {Q : VK} {pins : List (Addr × PySem.Obj)} {s' : Shared} {vs : List V} {us : List Value} (hn : σ.length = c.n) (I : L2.Inv X pins σ H s') (r : Vals vs us) (z : Cal c W O g σ Q vs H) :
    wpAny (model X.prog X.w) X.A (PySem.call (.ref (c.G.fa g)) us) (EP X pins σ Q) X.xe s' := by
  obtain ⟨ds, F, ι, e, s, A, z, hv⟩ := z
  exact run_fnG (x.ok g hk) x.gd x.room x.tk I r (call_fin A hn z hv)
theorem call_ok0 (x : XOk c C O k X W) {g : Nat} {y : Str} (hg : C.gn g = some y) (hk : C.fk g = true) (hy : C.glb y = true) (hb : notBug y = true) :
    PE X (.Call (.Name y p1) [] [] pos) (rdR c W (bnd (ret []) fun ds => callM O g ds)) := by
  obtain ⟨b1, b2, _⟩ := bug_of hb
  refine ⟨fun pins s' σ H Q I z => ?_⟩
  refine wpAny_Call_Name_kw (ld_glob I (x.glb hy) (x.fn g y hg hk) ?_ b1)
  obtain ⟨F, ι, e, s, hn, A, z⟩ := z
  exact PySem.W.callWith_K0 I.kIn (x.ok g hk).kp (cal_run x hk (us := []) hn I .nil ⟨[], F, ι, e, s, A, z, .nil⟩)
theorem call_ok (x : XOk c C O k X W) {g : Nat} {y : Str} {a : Expr} {as : List Expr} {m : M (List D)} (hg : C.gn g = some y) (hk : C.fk g = true) (hy : C.glb y = true) (hb : notBug y = true) (hp : plainAs (a :: as) = true) (h : PA X (a :: as) (rdVs c W m)) :
    PE X (.Call (.Name y p1) (a :: as) [] pos) (rdR c W (bnd m fun ds => callM O g ds)) := by
  obtain ⟨b1, b2, _⟩ := bug_of hb
  simp only [plainAs, Bool.and_eq_true] at hp
  refine ⟨fun pins s' σ H Q I z => ?_⟩
  refine wpAny_Call_Name_kw (ld_glob I (x.glb hy) (x.fn g y hg hk) ?_ b1)
  obtain ⟨F, ι, e, s, hn, A, z⟩ := z
  refine PySem.W.callWith_K (h₀ := X.base) I.ok.mod.kin (x.ok g hk).kp (thn (h.run pos pins s' σ H (Cal c W O g σ Q) I ⟨F, ι, e, s, hn, A, z.split.imp fun ds F1 ι1 H1 e1 s1 m1 p1 A1 h1 vs hvs => ⟨ds, F1, ι1, e1, s1, A1, h1, rels_of hvs⟩⟩) fun us s1 ⟨vs, H1, I1, r, q⟩ => ⟨I1.kIn, ?_⟩) (star_plain hp.1) (nostar hp.2)
  exact cal_run x hk hn I1 r q
def isCall : Expr → Bool
  | .Call _ _ _ _ => true
  | _ => false
theorem calle_ok (x : XOk c C O k X W) {f a : Expr} {as : List Expr} {mf : M R} {m : M (List D)} (hf' : isCall f = true) (hf : PE X f (rdR c W mf)) (hp : plainAs (a :: as) = true) (h : PA X (a :: as) (rdVs c W m)) :
    PE X (.Call f (a :: as) [] pos) (rdR c W (bnd mf fun r => match r with
      | .val (.fn g) => if O.has g then bnd m fun ds => callM O g ds else badM
      | _ => badM)) := by
  simp only [plainAs, Bool.and_eq_true] at hp
  refine ⟨fun pins s' σ H Q I z => ?_⟩
  have e1 : eval (.Call f (a :: as) [] pos) X.env = (do callWith pos (← eval f X.env) [] (backTo pos (starEach (a :: as) X.env)) (backToKw pos (keywordEach [] X.env))) := by
    cases f <;> first | rfl | simp [isCall] at hf'
  rw [e1]
  obtain ⟨F, ι, e, s, hn, A, z⟩ := z
  refine wpAny_bind (thn (hf.run pins s' σ H (fun v H1 => ∃ g F ι e s, v = .ref (c.G.fa g) ∧ C.fk g = true ∧ Abs c F ι σ H1 e s ∧ (Fin c W σ F ι (bnd m (fun ds => callM O g ds) e s) fun r F' ι' H' e' s' => ∀ v, RelR c F' ι' σ H' e' v r → Q v H')) I
    ⟨F, ι, e, s, hn, A, z.split.imp fun r F1 ι1 H1 e1 s1 m1 p1 A1 h1 v hv => ?_⟩) fun u s1 ⟨v, H1, I1, r1, g, F1, ι1, e1, s2, ev, hk, A1, z1⟩ => ?_)
  · split at h1
    · rename_i g
      cases hv
      split at h1
      · exact ⟨g, F1, ι1, e1, s1, rfl, x.dyn g (by assumption), A1, h1⟩
      · exact h1.elim
    · exact h1.elim
  · subst ev
    obtain rfl : u = Value.ref (c.G.fa g) := r1
    · refine PySem.W.callWith_K (h₀ := X.base) I.ok.mod.kin (x.ok g hk).kp (thn (h.run pos pins s1 σ H1 (Cal c W O g σ Q) I1 ⟨F1, ι1, e1, s2, hn, A1, z1.split.imp fun ds F2 ι2 H2 e2 s2 m2 p2 A2 h2 vs hvs => ⟨ds, F2, ι2, e2, s2, A2, h2, rels_of hvs⟩⟩) fun us s1 ⟨vs, H1, I1, r, q⟩ => ⟨I1.kIn, ?_⟩) (star_plain hp.1) (nostar hp.2)
      exact cal_run x hk hn I1 r q
theorem Abs.updOwn (A : Abs c F ι σ H e s) {i : Nat} {a : Addr} {o o' : Ob} {u : HO} (h1 : e[i]? = some (some (.new o))) (h2 : σ[i]? = some (some (.ref a))) (h3 : ObjRel c.G F ι (upd H a u) a o') : Abs c F ι σ (upd H a u) (e.set i (some (.new o'))) s := by
  obtain ⟨b, k1, k2, k3, k4, k5⟩ := A.own i o h1
  rw [h2] at k1
  cases k1
  have hl := get_lt h1
  have other : ∀ {b : Addr} {q : Ob}, b ≠ a → ObjRel c.G F ι H b q → ObjRel c.G F ι (upd H a u) b q := fun {b q} hb r => r.mono (Same.refl _) (Pre.refl _) fun w hw => by rw [upd_ne hb]; exact hw
  refine { A with len := by simpa using A.len, le := fun b w hb => ?_, keep := fun b w hb hn => ?_, objs := fun j b q hj hq => ?_, val := fun j d hj => ?_, own := fun j q hj => ?_, ownnd := fun j l b p q hjl m1 m2 m3 m4 => ?_ }
  · rw [upd_ne (ne_of_none hb k3)]; exact A.le b w hb
  · rw [upd_ne (ne_of_none hb k5)]; exact A.keep b w hb hn
  · refine other (fun z => ?_) (A.objs j b q hj hq)
    subst z
    exact k4 (List.mem_of_getElem? hj)
  · by_cases z : i = j
    · subst z; rw [List.getElem?_set_self hl] at hj; cases hj
    · rw [List.getElem?_set_ne z] at hj; exact A.val j d hj
  · by_cases z : i = j
    · subst z
      rw [List.getElem?_set_self hl] at hj
      cases hj
      exact ⟨a, h2, h3, k3, k4, k5⟩
    · rw [List.getElem?_set_ne z] at hj
      obtain ⟨b, m1, m2, m3, m4, m5⟩ := A.own j q hj
      exact ⟨b, m1, other (fun y => A.ownnd i j a o q z h1 hj h2 (by rw [← y]; exact m1)) m2, m3, m4, m5⟩
  · have back : ∀ {j : Nat} {p : Ob}, (e.set i (some (.new o')))[j]? = some (some (.new p)) → ∃ p', e[j]? = some (some (.new p')) := fun {j p} m => by
      by_cases z : i = j
      · subst z; exact ⟨o, h1⟩
      · rw [List.getElem?_set_ne z] at m; exact ⟨p, m⟩
    obtain ⟨p', n1⟩ := back m1
    obtain ⟨q', n2⟩ := back m2
    exact A.ownnd j l b p' q' hjl n1 n2 m3 m4
theorem Abs.updSto (A : Abs c F ι σ H e s) {n : Nat} {a : Addr} {o' : Ob} {u : HO} (h2 : ι[n]? = some a) (h3 : ObjRel c.G F ι (upd H a u) a o') : Abs c F ι σ (upd H a u) e (s.set n o') := by
  have hm : a ∈ ι := List.mem_of_getElem? h2
  have other : ∀ {b : Addr} {q : Ob}, b ≠ a → ObjRel c.G F ι H b q → ObjRel c.G F ι (upd H a u) b q := fun {b q} hb r => r.mono (Same.refl _) (Pre.refl _) fun w hw => by rw [upd_ne hb]; exact hw
  refine { A with le := fun b w hb => ?_, keep := fun b w hb hn => ?_, lens := by simpa using A.lens, objs := fun j b q hj hq => ?_, own := fun j q hj => ?_ }
  · rw [upd_ne (ne_of_none hb (A.sep a hm))]; exact A.le b w hb
  · have hne : b ≠ a := fun z => by
      subst z
      rcases A.inew b hm with y | y
      · exact hn y
      · rw [hb] at y; cases y
    rw [upd_ne hne]; exact A.keep b w hb hn
  · by_cases z : n = j
    · subst z
      rw [h2] at hj
      cases hj
      rw [List.getElem?_set_self (by have := get_lt hq; simpa using this)] at hq
      cases hq
      exact h3
    · rw [List.getElem?_set_ne z] at hq
      refine other (fun y => ?_) (A.objs j b q hj hq)
      subst y
      exact z (nd_ix A.nd h2 hj)
  · obtain ⟨b, m1, m2, m3, m4, m5⟩ := A.own j q hj
    exact ⟨b, m1, other (fun y => m4 (by rw [y]; exact hm)) m2, m3, m4, m5⟩
theorem Fin.change {f : Ob → Option (Ob × R)} {a : Ar} {v : V} {P : R → Hp → List Addr → Hp → Ev → Sto → Prop} (A : Abs c F ι σ H e s) (h : Fin c W σ F ι (change a f e s) P) (ra : RelA c F ι σ v a) :
    ∃ p o o' r, v = .ref p ∧ f o = some (o', r) ∧ ObjRel c.G F ι H p o ∧ ∀ u, ObjRel c.G F ι (upd H p u) p o' → ∃ e' s', Abs c F ι σ (upd H p u) e' s' ∧ P r F ι (upd H p u) e' s' := by
  unfold Mi.change at h
  cases a with
  | s i =>
    simp only at h
    split at h
    · rename_i o z
      split at h
      · rename_i o' r hf
        have hv : σ[i]? = some (some v) := ra
        obtain ⟨p, k1, k2, _⟩ := A.own i o z
        rw [hv] at k1
        cases k1
        refine ⟨p, o, o', r, rfl, hf, k2, fun u hu => ?_⟩
        have B := A.updOwn z hv hu
        exact ⟨_, _, B, h F ι _ (Same.refl _) (Pre.refl _) B⟩
      · exact h.elim
    · exact h.elim
  | v d =>
    cases d with
    | ref n =>
      simp only at h
      split at h
      · rename_i o z
        split at h
        · rename_i o' r hf
          have hv : Rel c.G F ι v (.ref n) := ra
          cases hv with
          | ref hi =>
            refine ⟨_, o, o', r, rfl, hf, A.objs n _ o hi z, fun u hu => ?_⟩
            have B := A.updSto hi hu
            exact ⟨_, _, B, h F ι _ (Same.refl _) (Pre.refl _) B⟩
        · exact h.elim
      · exact h.elim
    | _ => exact h.elim
theorem Fin.needL {α : Type} {f : Unit → M α} {a : Ar} {v : V} {P : α → Hp → List Addr → Hp → Ev → Sto → Prop} (A : Abs c F ι σ H e s) (h : Fin c W σ F ι (bnd (needL a) f e s) P) (ra : RelA c F ι σ v a) :
    (∃ p xs, v = .ref p ∧ H p = some (.lst xs)) ∧ Fin c W σ F ι (f () e s) P := by
  unfold Mi.needL bnd at h
  rcases deref_ok A ra with z | ⟨d, z, hd⟩
  · simp only [bnd, z] at h; exact h.elim
  · simp only [bnd, z, Out.bind] at h
    cases d with
    | lst ds =>
      obtain ⟨p, xs, rfl, hp, _⟩ := hd.lst A.le
      exact ⟨⟨p, xs, rfl, hp⟩, h⟩
    | _ => exact h.elim
def isName : Expr → Bool
  | .Name _ _ => true
  | _ => false
theorem seq_ix {n : Nat} {i : Int} {j : Nat} (h : place n i = some j) : seqIndex? i n = some j := (ixN_seq (show ixN n i = some j from h)).1
theorem pop_ok (x : XOk c C O k X W) {a i : Expr} {ma : M Ar} {mi : M R} {ap cp : Pos} (ha' : isName a = true) (hp : plainA i = true) (hl : (ap.endLine == cp.line) = true) (ha : PE X a (rdA c W ma)) (hi : PE X i (rdR c W mi)) :
    PE X (.Call (.Attribute a "pop" ap) [i] [] cp) (rdR c W (bnd ma fun x => bnd (needL x) fun _ => bnd mi fun r => bnd (asInt r) fun k => change x (popO k))) := by
  have hbase : attributeBase a "pop" X.env (eval a X.env) = eval a X.env := by
    cases a <;> first | rfl | simp [isName] at ha'
  refine peM (pe_bm PySem.F.plainAttrs_list PySem.F.slot_list_pop PySem.F.type_list_pop mt_popAt ha (pa_cons hi pa_nil (star_plain hp)) hbase (by rw [star_plain hp]; rfl) hl (star_plain hp) rfl) fun σ H Q z => ?_
  obtain ⟨F, ι, e, s, hn, A, z⟩ := z
  refine ⟨F, ι, e, s, hn, A, z.split.imp fun p F1 ι1 H1 e1 s1 m1 p1 A1 h1 v hv => ?_⟩
  obtain ⟨⟨p, xs, rfl, hp⟩, h2⟩ := Fin.needL A1 h1 hv
  refine ⟨.inl ⟨rfl, xs, .inl (.inl hp)⟩, ?_⟩
  refine ⟨F1, ι1, e1, s1, hn, A1, h2.split.imp fun r F2 ι2 H2 e2 s2 m2 p2 A2 h3 u hu => ?_⟩
  obtain ⟨j, rfl, rfl, h4⟩ := Fin.asInt h3 hu
  obtain ⟨p', o, o', r, ev, hf, ho, go⟩ := Fin.change A2 h4 (RelA.mono hv m2 p2)
  cases ev
  cases o with
  | lst ds =>
    simp only [popO] at hf
    split at hf
    rotate_left
    · cases hf
    rename_i hz
    cases hj : place ds.length j with
    | none => rw [hj] at hf; cases hf
    | some l =>
      rw [hj] at hf
      simp only at hf
      cases hd : ds[l]? with
      | none => rw [hd] at hf; cases hf
      | some d =>
        rw [hd] at hf
        cases hf
        obtain ⟨ys, hy, ry⟩ := ho
        obtain ⟨w, hw, rw'⟩ := ry.get hd
        obtain ⟨q1, q2, q3, q4⟩ := ixN_seq (show ixN ds.length j = some l from hj)
        simp only [line] at hz
        obtain ⟨e', s', B, hQ⟩ := go (.lst (ys.eraseIdx l)) ⟨_, upd_same, ry.erase l⟩
        refine ⟨p, ys, j, l, w, rfl, rfl, hy, ?_, ?_, by rw [ry.length]; exact q1, hw, hQ w rw'⟩
        · omega
        · omega
  | dic _ _ => cases hf
  | ins _ _ => cases hf
end
end Mi
namespace Mi
open PySem PySem.Spec PyProof.Rows L2
theorem meets_enumT {v : Value} {o : Obj} {H : Heap → Prop} (B : Begins v o H) : Meets (Builtin.«enumerate.__new__» { pos := [Value.type "enumerate", v] }) fun x R s => H s.heap ∧ R (.ok (Flow.ret (Value.ref (s.heap.push o).objs.size))) { heap := (s.heap.push o).push { cls := Value.type "enumerate", data := Data.fields #[Value.none, Value.bool false, Value.ref s.heap.objs.size, rawInt 0, Value.none, Value.none] }, gens := s.gens, drawn := s.drawn, toks := s.toks, os := s.os } :=
  Meets.of_wp fun prog w A R s h => by
    obtain ⟨hp, g, d, tk, os⟩ := s
    obtain ⟨h1, h⟩ := h
    unfold Builtin.«enumerate.__new__»
    refine wpAny_bind ?_
    unfold Builtin.SmallTypes.newClass
    dsimp only
    refine wpAny_bind ?_
    refine wpAny_pure ?_
    refine wpAny_ite_false rfl ?_
    refine wpAny_bind ?_
    refine wpAny_of_eq sub_enumerate ?_
    refine wpAny_ite_false rfl ?_
    refine wpAny_pure ?_
    dsimp only
    refine wpAny_ite_true rfl ?_
    refine wpAny_bind ?_
    unfold Builtin.SmallTypes.calledThroughType
    refine wpAny_bind ?_
    refine wpAny_stack_any fun st => ?_
    refine wpAny_pure ?_
    have q1 : ∀ {A' : Around} {E : Value → Shared → Prop} {Q : Value → Shared → Prop}, Q (Value.ref hp.objs.size) { heap := hp.push o, gens := g, drawn := d, toks := tk, os := os } → wpAny (model prog w) A' (pyIter v) Q E { heap := hp, gens := g, drawn := d, toks := tk, os := os } := fun {A' E Q} q => B.iter prog w A' E { heap := hp, gens := g, drawn := d, toks := tk, os := os } Q h1 q
    have fin : wpAny (model prog w) A.in1 (do
          let __do_lift ← pyIter v
          let __do_lift ←
            Builtin.SmallTypes.newRecord (Value.type "enumerate")
                (Builtin.SmallTypes.ownedTupleFields ++ [__do_lift, rawInt 0, Value.none, Value.none])
          PySem.ret __do_lift)
       (fun fin s' => ∃ v, fin = Fin.done (Flow.ret v) ∧ R (Except.ok (Flow.ret v)) s') (fun e s' => R (Except.error e) s')
        { heap := hp, gens := g, drawn := d, toks := tk, os := os } := by
      refine wpAny_bind (q1 (wpAny_bind ?_))
      unfold Builtin.SmallTypes.newRecord
      dsimp only
      unfold newObj
      refine wpAny_ite_false rfl ?_
      refine wpAny_bind (wpAny_alloc' (wpAny_pure ?_))
      exact wpAny_pure ⟨_, rfl, h⟩
    split
    · split
      · refine wpAny_bind (wpAny_pure ?_)
        exact fin
      · refine wpAny_bind (wpAny_pure ?_)
        exact fin
    · refine wpAny_ite_false rfl ?_
      refine wpAny_bind (wpAny_pure ?_)
      exact fin
theorem call_enumB {prog : Program} {w : World} {A : Around} {E : Value → Shared → Prop} {s : Shared} {v : Value} {o : Obj} {H : Heap → Prop} {Q : Value → Shared → Prop} (B : Begins v o H) (h1 : H s.heap)
    (h : ∀ h' : Heap, IsEnum h' (s.heap.objs.size + 1) s.heap.objs.size 0 Value.none → h'.get? s.heap.objs.size = some o → h'.objs.size = s.heap.objs.size + 2 → (∀ (b : Addr) (o : Obj), s.heap.get? b = some o → h'.get? b = some o) → Q (Value.ref (s.heap.objs.size + 1)) { heap := h', gens := s.gens, drawn := s.drawn, toks := s.toks, os := s.os }) : wpAny (model prog w) A (call (Value.type "enumerate") [v]) Q E s := by
  refine callType_new F.called_enumerate (by decide) (F.typeCall_enumerate_1 v) (F.newCall_enumerate_1 v) (fun obj => F.args_object_init_2 obj v) F.entry_enumerate_new (meets_enumT B) ⟨h1, ?_⟩
  have hz := Heap.size_push s.heap o
  have he := Heap.get?_push_size (s.heap.push o) (o := { cls := Value.type "enumerate", data := Data.fields #[Value.none, Value.bool false, Value.ref s.heap.objs.size, rawInt 0, Value.none, Value.none] }) rfl
  show Shared.TypeIs _ (Value.ref (s.heap.push o).objs.size) "enumerate" ∧ Q (Value.ref (s.heap.push o).objs.size) _
  rw [hz] at he ⊢
  exact ⟨⟨_, he, rfl⟩, h _ he (Heap.get?_push_of_some _ (Heap.get?_push_size s.heap B.free)) (by rw [Heap.size_push, hz]) fun b o x => Heap.get?_push_of_some _ (Heap.get?_push_of_some _ x)⟩
def IteT (K : W.Frag) (a : Addr) : It where
  go i H := ∃ xs x, SqT K H a xs ∧ xs[i]? = some x
  yld i H v H' := ∃ T x, v = V.ref T ∧ H T = none ∧ H' = upd H T (HO.tup [V.int (i : Int), x]) ∧ ∀ xs, SqT K H a xs → xs[i]? = some x
  stop i H := ∃ xs, SqT K H a xs ∧ xs.length ≤ i
theorem turn_enumT {P : Program} {w : World} {K : W.Frag} {elts : List Expr} {kk : Nat} {tpos : Pos} (a e it : Addr) (hne2 : a ≠ it) (hne3 : e ≠ a) : Turn P w K (Expr.Tuple elts kk tpos) (IteT K a) [e, it] e fun i h => (∃ old, IsEnum h e it (i : Int) old) ∧ h.IsTupleIter it a i ∧ e ≠ it where
  mem := by simp
  obj i h st b hb := by
    obtain ⟨⟨old, he⟩, ⟨o, ho, hc, hd⟩, hne⟩ := st
    simp only [List.mem_cons, List.not_mem_nil, or_false] at hb
    rcases hb with rfl | rfl
    · exact ⟨_, he, fun v q => nomatch q⟩
    · exact ⟨_, ho, fun v q => by rw [hd] at q; nomatch q⟩
  keep i h h' st k := by
    obtain ⟨⟨old, he⟩, hi, hne⟩ := st
    exact ⟨⟨old, k e (by simp) _ he⟩, hi.at fun o q => k it (by simp) o q, hne⟩
  item X hP hw hK hc i pins s σ H E I hf st hg := by
    subst hP hw hK
    obtain ⟨⟨old, he⟩, hit, hne⟩ := st
    obtain ⟨xs, x, hq, hx⟩ := hg
    obtain ⟨its, rv, p, hz⟩ := Inv.tuple I hq
    obtain ⟨u, hu, ru⟩ := Vals.get rv hx
    have hel := Heap.lt_size he
    have hil : it < s.heap.objs.size := by
      obtain ⟨o, q, _⟩ := hit
      exact Heap.lt_size q
    have hd : (Around.in1 X.A).handled = none := I.ok.hd hc
    have hix : i < its.toArray.size := by
      have := (List.getElem?_eq_some_iff.mp hu).1
      simpa using this
    refine wpAny_pyNext_enum_itemD (Draws.tuple hd it a hne2 its.toArray) he ⟨hit, p⟩ hix hne (by simp; exact ⟨hne, hne3⟩) fun y h' tk hy ho hit' hT hsz hk => ?_
    have ey : y = u := by
      rw [List.getElem?_toArray, hu] at hy
      exact (Option.some.inj hy).symm
    subst ey
    refine ⟨_, rfl, wpAny_letOwnedTupleGo_enum ho fun h'' he' sb => ?_⟩
    have hT2 := (sb.2 s.heap.objs.size (Nat.ne_of_gt hel)).trans hT
    have new : ObjOk X.prog X.w (upd H s.heap.objs.size (HO.tup [V.int (i : Int), x])) h'' s.heap.objs.size (HO.tup [V.int (i : Int), x]) := ⟨by show 2 ≤ 16777216; omega, [Value.int (i : Int) tk, y], .cons ⟨tk, rfl⟩ (.cons ru .nil), _, hT2, rfl, 0, rfl⟩
    have I1 := Inv.turnedNew (t' := tk + 1) (ch := [e, it]) I (fun b ob hb q => (sb.2 b fun z => hb (by simp [z])).trans (hk b ob (fun z => hb (by simp [z])) (fun z => hb (by simp [z])) q)) hf (Nat.le_refl s.heap.objs.size) new
    refine ⟨V.ref s.heap.objs.size, _, I1, rfl, ⟨_, x, rfl, HOk.fresh I.hok (Nat.le_refl _), rfl, fun ys hy => ?_⟩, ⟨⟨y, ?_⟩, ?_, hne⟩, fun b hb => ?_⟩
    · rw [Inv.tuple_inj I hy hq]
      exact hx
    · have e1 : ((i + 1 : Nat) : Int) = (i : Int) + 1 := by omega
      rw [e1]
      exact he'
    · exact hit'.1.at fun o q => (sb.2 it (Ne.symm hne)).trans q
    · have hb' : b < s.heap.objs.size := by
        simp only [List.mem_cons, List.not_mem_nil, or_false] at hb
        rcases hb with rfl | rfl
        · exact hel
        · exact hil
      rw [upd_ne (Nat.ne_of_lt hb')]
      exact (hf b hb).1
  done X hP hw hK hc i pins s σ H E I hf st hg := by
    subst hP hw hK
    obtain ⟨⟨old, he⟩, hit, hne⟩ := st
    obtain ⟨xs, hq, hx⟩ := hg
    obtain ⟨its, rv, p, hz⟩ := Inv.tuple I hq
    obtain ⟨f0, f1, f2, f3, f4, f5⟩ := hf it (by simp)
    have hd : (Around.in1 X.A).handled = none := I.ok.hd hc
    have hl := Vals.length rv
    have h0 : its.toArray[i]? = none := by
      rw [List.getElem?_toArray, List.getElem?_eq_none_iff]
      omega
    have Dr : Draws X.prog X.w X.A.in1 it [it, a] i (fun _ _ => True) (fun j h => j = i ∧ h.IsTupleIter it a i ∧ h.IsTuple a its.toArray) := {
      live := fun j h ⟨_, ⟨o, q, _⟩, _⟩ => ⟨o, q⟩
      frame := fun j h h' ⟨z, q1, o, q2, q3⟩ k => ⟨z, q1.at fun o q => k it (by simp) o q, o, k a (by simp) o q2, q3⟩
      item := fun j s Q E hj ⟨z, _⟩ => absurd z (Nat.ne_of_lt hj)
      done := fun s Q E ⟨_, q1, q2⟩ q => RZ.nextOf_tuple_end hd q1 q2 h0 q }
    exact wpAny_pyNext_enum_endD Dr he ⟨rfl, hit, p⟩ fun h' eb => ⟨rfl, Inv.turned I (fun b o hb q => eb b o hb q) f0 f1 f3 f4 f5⟩
  self A i s Q E st h := by
    obtain ⟨⟨old, he⟩, _⟩ := st
    exact wpAny_pyIter_enum he h
def iEnumA (K : W.Frag) (ta : TA) : TI := fun σ H R => ta σ H fun vs H1 => ∃ a xs, vs = [V.ref a] ∧ (SqL K H1 a xs ∧ R (Ite K a) H1 ∨ SqT K H1 a xs ∧ R (IteT K a) H1)
theorem pi_enumA {X : Cx} {e : Expr} {ta : TA} {p pos tpos : Pos} {elts : List Expr} {kk : Nat} (hg : Gl X "enumerate") (hm : X.mg "enumerate" = none) (ha : PA X [e] ta) (hs : starEach [e] X.env = [(false, eval e X.env)]) : PI X (Expr.Tuple elts kk tpos) ((Expr.Name "enumerate" p).Call [e] [] pos) (iEnumA X.K ta) where
  run pins s σ H R I h := by
    refine Call_ (ld_blt I hg hm (u := Value.type "enumerate") rfl (PyProof.Rows.callWith_type1 (thn (ha.run pos pins s σ H _ I h) fun us s1 z => ?_) hs rfl))
    obtain ⟨vs, H1, I1, r1, a, xs, rfl, q⟩ := z
    have fp : ∀ b, s1.heap.objs.size ≤ b → FpOk X pins H1 b := fun b hle => Inv.fpOk I1 hle (HOk.fresh I1.hok hle)
    cases r1 with
    | cons r rr =>
      cases rr
      cases r
      rcases q with ⟨hq, q⟩ | ⟨hq, q⟩
      · obtain ⟨its, rv, p', hz⟩ := Inv.list I1 hq
        refine call_enumerate_list (PlainL.isList p') fun h' he hit hsz hk => wpAny_pyIter_enum he ?_
        have I2 := Inv.kept (t' := s1.toks) I1 hk
        refine ⟨_, [s1.heap.objs.size + 1, s1.heap.objs.size], _, _, H1, rfl, I2, turn_enum a (s1.heap.objs.size + 1) s1.heap.objs.size, ⟨⟨_, he⟩, hit, Nat.succ_ne_self _⟩, fun b hb => ?_, q⟩
        refine fp b ?_
        simp only [List.mem_cons, List.not_mem_nil, or_false] at hb
        rcases hb with rfl | rfl
        · exact Nat.le_succ _
        · exact Nat.le_refl _
      · obtain ⟨its, rv, p', hz⟩ := Inv.tuple I1 hq
        have hal : a < s1.heap.objs.size := by
          obtain ⟨o, q, _⟩ := p'
          exact Heap.lt_size q
        refine call_enumB (begins_tuple a its.toArray) p' fun h' he hit hsz hk => wpAny_pyIter_enum he ?_
        have I2 := Inv.kept (t' := s1.toks) I1 hk
        refine ⟨_, [s1.heap.objs.size + 1, s1.heap.objs.size], _, _, H1, rfl, I2, turn_enumT a (s1.heap.objs.size + 1) s1.heap.objs.size (Nat.ne_of_lt hal) (Nat.ne_of_gt (Nat.lt_succ_of_lt hal)), ⟨⟨_, he⟩, ⟨_, hit, rfl, rfl⟩, Nat.succ_ne_self _⟩, fun b hb => ?_, q⟩
        refine fp b ?_
        simp only [List.mem_cons, List.not_mem_nil, or_false] at hb
        rcases hb with rfl | rfl
        · exact Nat.le_succ _
        · exact Nat.le_refl _
end Mi
namespace Mi
open PySem PySem.Spec PyProof.Rows L2
def SqK (k : Bool) (K : W.Frag) (H : Hp) (a : Addr) (xs : List V) : Prop := match k with
  | true => SqT K H a xs
  | false => SqL K H a xs
def IsItK (k : Bool) (h : Heap) (it a : Addr) (i : Nat) : Prop := match k with
  | true => h.IsTupleIter it a i
  | false => h.IsListIter it a i
def IsSqK (k : Bool) (h : Heap) (a : Addr) (items : Array Value) : Prop := match k with
  | true => h.IsTuple a items
  | false => h.IsList a items
def itoK (k : Bool) (a : Addr) : Obj := match k with
  | true => { cls := Value.type "tuple_iterator", data := Data.fields #[Value.ref a, Value.int 0 0] }
  | false => { cls := Value.type "list_iterator", data := Data.fields #[Value.ref a, Value.int 0 0] }
section
variable {X : Cx} {pins : List (Addr × Obj)} {σ : L2.St} {H : Hp} {s : Shared} {k : Bool} {a : Addr} {xs ys : List V}
theorem invK (I : L2.Inv X pins σ H s) (h : SqK k X.K H a xs) : ∃ its, Vals xs its ∧ IsSqK k s.heap a its.toArray ∧ xs.length ≤ sizeLine := by
  cases k with
  | true => exact Inv.tuple I h
  | false =>
    obtain ⟨its, h1, h2, h3⟩ := Inv.list I h
    exact ⟨its, h1, PlainL.isList h2, h3⟩
theorem invK_inj (I : L2.Inv X pins σ H s) (h : SqK k X.K H a xs) (h' : SqK k X.K H a ys) : xs = ys := by
  cases k with
  | true => exact Inv.tuple_inj I h h'
  | false => exact Inv.list_inj I h h'
end
theorem sqK_lt {k : Bool} {h : Heap} {a : Addr} {its : Array Value} (p : IsSqK k h a its) : a < h.objs.size := by
  cases k <;> (obtain ⟨o, q, _⟩ := p; exact Heap.lt_size q)
theorem begK (k : Bool) (a : Addr) (items : Array Value) : Begins (Value.ref a) (itoK k a) fun h => IsSqK k h a items := by
  cases k with
  | true => exact begins_tuple a items
  | false => exact begins_list a items
theorem itK_new {k : Bool} {h : Heap} {it a : Addr} (e : h.get? it = some (itoK k a)) : IsItK k h it a 0 := by
  cases k <;> exact ⟨_, e, rfl, rfl⟩
theorem itK_at {k : Bool} {h h' : Heap} {it a : Addr} {i : Nat} (q : IsItK k h it a i) (f : ∀ o, h.get? it = some o → h'.get? it = some o) : IsItK k h' it a i := by
  cases k with
  | true => exact Heap.IsTupleIter.at q f
  | false => exact Heap.IsListIter.at q f
theorem itK_obj {k : Bool} {h : Heap} {it a : Addr} {i : Nat} (q : IsItK k h it a i) : ∃ o, h.get? it = some o ∧ ∀ v, o.data ≠ Data.cell v := by
  cases k <;> (obtain ⟨o, e, _, hd⟩ := q; exact ⟨o, e, fun v z => by rw [hd] at z; nomatch z⟩)
theorem sqK_at {k : Bool} {h h' : Heap} {a : Addr} {its : Array Value} (q : IsSqK k h a its) (f : ∀ o, h.get? a = some o → h'.get? a = some o) : IsSqK k h' a its := by
  cases k <;> (obtain ⟨o, e, r⟩ := q; exact ⟨o, f o e, r⟩)
section
variable {prog : Program} {w : World} {A : Around}
theorem drK (k : Bool) (hd : A.handled = none) (it a : Addr) (hne : a ≠ it) (items : Array Value) : Draws prog w A it [it, a] items.size (fun i v => items[i]? = some v) fun i h => IsItK k h it a i ∧ IsSqK k h a items := by
  cases k with
  | true => exact Draws.tuple hd it a hne items
  | false => exact Draws.list hd it a hne items
theorem drStop (k : Bool) (hd : A.handled = none) (it a : Addr) (hne : a ≠ it) (items : Array Value) (i : Nat) : ∃ (n : Nat) (P : Nat → Value → Prop) (St : Nat → Heap → Prop), Draws prog w A it [it, a] n P St ∧ i ≤ n ∧ (items.size ≤ i → i = n) ∧ ∀ h, IsItK k h it a i → IsSqK k h a items → St i h := by
  by_cases q : i < items.size
  · exact ⟨_, _, _, drK k hd it a hne items, by omega, by omega, fun h h1 h2 => ⟨h1, h2⟩⟩
  · have h0 : items[i]? = none := by
      rw [Array.getElem?_eq_none_iff]
      omega
    refine ⟨i, fun _ _ => True, fun j h => j = i ∧ IsItK k h it a i ∧ IsSqK k h a items, {
      live := fun j h ⟨_, q1, _⟩ => by
        obtain ⟨o, e, _⟩ := itK_obj q1
        exact ⟨o, e⟩
      frame := fun j h h' ⟨z, q1, q2⟩ f => ⟨z, itK_at q1 fun o e => f it (by simp) o e, sqK_at q2 fun o e => f a (by simp) o e⟩
      item := fun j s Q E hj ⟨z, _⟩ => absurd z (Nat.ne_of_lt hj)
      done := fun s Q E ⟨_, q1, q2⟩ q => by
        cases k with
        | true => exact wpAny_nextOf_tuple_end hd q1 q2 h0 q
        | false => exact wpAny_nextOf_list_end hd q1 q2 h0 q }, Nat.le_refl _, fun _ => rfl, fun h h1 h2 => ⟨rfl, h1, h2⟩⟩
end
def Itz2 (k1 k2 : Bool) (K : W.Frag) (a b : Addr) : It where
  go i H := ∃ xs ys x y, SqK k1 K H a xs ∧ SqK k2 K H b ys ∧ xs[i]? = some x ∧ ys[i]? = some y
  yld i H v H' := ∃ T x y, v = V.ref T ∧ H T = none ∧ H' = upd H T (HO.tup [x, y]) ∧ (∀ xs, SqK k1 K H a xs → xs[i]? = some x) ∧ ∀ ys, SqK k2 K H b ys → ys[i]? = some y
  stop i H := ∃ xs ys, SqK k1 K H a xs ∧ SqK k2 K H b ys ∧ (xs.length ≤ i ∨ ys.length ≤ i)
theorem turn_z2 {P : Program} {w : World} {K : W.Frag} {elts : List Expr} {kk : Nat} {tpos : Pos} {k1 k2 : Bool} {a b z TI TO i1 i2 : Addr} (S : ZipSep2 z TI TO i1 i2 [i1, a] [i2, b]) (n1 : a ≠ i1) (n2 : b ≠ i2) : Turn P w K (Expr.Tuple elts kk tpos) (Itz2 k1 k2 K a b) [z, TI, TO, i1, i2] z fun i h => IsZip h z TI TO Value.none ∧ IsTupOf2 h TI (Value.ref i1) (Value.ref i2) ∧ (∃ x y, IsTupOf2 h TO x y) ∧ IsItK k1 h i1 a i ∧ IsItK k2 h i2 b i where
  mem := by simp
  obj i h st c hc := by
    obtain ⟨hz, hI, ⟨x, y, hO⟩, q1, q2⟩ := st
    simp only [List.mem_cons, List.not_mem_nil, or_false] at hc
    rcases hc with rfl | rfl | rfl | rfl | rfl
    · exact ⟨_, hz, fun v q => nomatch q⟩
    · exact ⟨_, hI, fun v q => nomatch q⟩
    · exact ⟨_, hO, fun v q => nomatch q⟩
    · exact itK_obj q1
    · exact itK_obj q2
  keep i h h' st f := by
    obtain ⟨hz, hI, ⟨x, y, hO⟩, q1, q2⟩ := st
    exact ⟨f z (by simp) _ hz, f TI (by simp) _ hI, ⟨x, y, f TO (by simp) _ hO⟩, itK_at q1 fun o e => f i1 (by simp) o e, itK_at q2 fun o e => f i2 (by simp) o e⟩
  item X hP hw hK hc i pins s σ H E I hf st hg := by
    subst hP hw hK
    obtain ⟨hz, hI, ⟨o1, o2, hO⟩, q1, q2⟩ := st
    obtain ⟨xs, ys, x, y, hq1, hq2, hx, hy⟩ := hg
    obtain ⟨is1, r1, p1, _⟩ := invK I hq1
    obtain ⟨is2, r2, p2, _⟩ := invK I hq2
    obtain ⟨u1, hu1, ru1⟩ := Vals.get r1 hx
    obtain ⟨u2, hu2, ru2⟩ := Vals.get r2 hy
    have hzl := Heap.lt_size hz
    have hd : (Around.in1 X.A).handled = none := I.ok.hd hc
    have l1 : i < is1.toArray.size := by
      have := (List.getElem?_eq_some_iff.mp hu1).1
      simpa using this
    have l2 : i < is2.toArray.size := by
      have := (List.getElem?_eq_some_iff.mp hu2).1
      simpa using this
    refine wpAny_pyNext_zipD2_item S (drK k1 hd i1 a n1 is1.toArray) (drK k2 hd i2 b n2 is2.toArray) hz hI hO ⟨q1, p1⟩ ⟨q2, p2⟩ l1 l2 fun x1 x2 h' tk e1 e2 hz' hO' s1 s2 hT hsz hk => ?_
    rw [List.getElem?_toArray] at e1 e2
    rw [hu1] at e1
    rw [hu2] at e2
    cases e1
    cases e2
    refine ⟨_, rfl, wpAny_letOwnedTupleGo_zip hz' fun h'' hz'' sb => ?_⟩
    have hT2 := (sb.2 s.heap.objs.size (Nat.ne_of_gt hzl)).trans hT
    have new : ObjOk X.prog X.w (upd H s.heap.objs.size (HO.tup [x, y])) h'' s.heap.objs.size (HO.tup [x, y]) := ⟨by show 2 ≤ 16777216; omega, [u1, u2], .cons ru1 (.cons ru2 .nil), _, hT2, rfl, 0, rfl⟩
    have I1 := Inv.turnedNew (t' := tk) (ch := [z, TI, TO, i1, i2]) I (fun c oc hb q => (sb.2 c fun w => hb (by simp [w])).trans (hk c oc (fun w => hb (by simp [w])) (fun w => hb (by simp [w])) (fun w => hb (by simp [w])) (fun w => hb (by simp [w])) q)) hf (Nat.le_refl s.heap.objs.size) new
    have z1 : i1 ≠ z := fun w => S.zf1 (by simp [w])
    have z2 : i2 ≠ z := fun w => S.zf2 (by simp [w])
    have t1 : TI ≠ i1 := S.TIi1
    have t2 : TI ≠ i2 := S.TIi2
    refine ⟨V.ref s.heap.objs.size, _, I1, rfl, ⟨_, x, y, rfl, HOk.fresh I.hok (Nat.le_refl _), rfl, fun zs hzs => ?_, fun zs hzs => ?_⟩, ⟨hz'', (sb.2 TI S.TIz).trans (hk TI _ S.TIz S.TITO t1 t2 hI), ⟨_, _, (sb.2 TO S.TOz).trans hO'⟩, itK_at s1.1 fun o e => (sb.2 i1 z1).trans e, itK_at s2.1 fun o e => (sb.2 i2 z2).trans e⟩, fun c hcm => ?_⟩
    · rw [invK_inj I hzs hq1]
      exact hx
    · rw [invK_inj I hzs hq2]
      exact hy
    · have hb' : c < s.heap.objs.size := by
        simp only [List.mem_cons, List.not_mem_nil, or_false] at hcm
        obtain ⟨o1, g1, _⟩ := itK_obj q1
        obtain ⟨o2, g2, _⟩ := itK_obj q2
        rcases hcm with rfl | rfl | rfl | rfl | rfl
        · exact hzl
        · exact Heap.lt_size hI
        · exact Heap.lt_size hO
        · exact Heap.lt_size g1
        · exact Heap.lt_size g2
      rw [upd_ne (Nat.ne_of_lt hb')]
      exact (hf c hcm).1
  done X hP hw hK hc i pins s σ H E I hf st hg := by
    subst hP hw hK
    obtain ⟨hz, hI, ⟨o1, o2, hO⟩, q1, q2⟩ := st
    obtain ⟨xs, ys, hq1, hq2, hx⟩ := hg
    obtain ⟨is1, r1, p1, _⟩ := invK I hq1
    obtain ⟨is2, r2, p2, _⟩ := invK I hq2
    have v1 := Vals.length r1
    have v2 := Vals.length r2
    have hd : (Around.in1 X.A).handled = none := I.ok.hd hc
    obtain ⟨m1, P1, S1, D1, l1, g1, w1⟩ := drStop (prog := X.prog) (w := X.w) k1 hd i1 a n1 is1.toArray i
    obtain ⟨m2, P2, S2, D2, l2, g2, w2⟩ := drStop (prog := X.prog) (w := X.w) k2 hd i2 b n2 is2.toArray i
    refine wpAny_pyNext_zipD2_end S D1 D2 hz hI hO (w1 _ q1 p1) (w2 _ q2 p2) l1 l2 (hx.imp (fun z => g1 (by simpa [← v1] using z)) (fun z => g2 (by simpa [← v2] using z))) fun h' tk hk => ⟨rfl, ?_⟩
    exact Inv.turnedL (ch := [z, TI, TO, i1, i2]) I (fun c oc hb q => hk c oc (fun w => hb (by simp [w])) (fun w => hb (by simp [w])) (fun w => hb (by simp [w])) (fun w => hb (by simp [w])) q) hf
  self A i s Q E st h := wpAny_pyIter_zip st.1 h
def iZip2 (K : W.Frag) (ta : TA) : TI := fun σ H R => ta σ H fun vs H1 => ∃ a b xs ys k1 k2, vs = [V.ref a, V.ref b] ∧ SqK k1 K H1 a xs ∧ SqK k2 K H1 b ys ∧ R (Itz2 k1 k2 K a b) H1
theorem pi_zip2 {X : Cx} {e e2 : Expr} {ta : TA} {p pos tpos : Pos} {elts : List Expr} {kk : Nat} (hg : Gl X "zip") (hm : X.mg "zip" = none) (ha : PA X [e, e2] ta) (hs : starEach [e, e2] X.env = (false, eval e X.env) :: starEach [e2] X.env) (hs2 : ((backTo pos (starEach [e2] X.env)).any fun x => x.1) = false) : PI X (Expr.Tuple elts kk tpos) ((Expr.Name "zip" p).Call [e, e2] [] pos) (iZip2 X.K ta) where
  run pins s σ H R I h := by
    refine Call_ (ld_blt I hg hm (u := Value.type "zip") rfl (PyProof.Rows.callWith_type1 (thn (ha.run pos pins s σ H _ I h) fun us s1 z => ?_) hs hs2))
    obtain ⟨vs, H1, I1, r1, a, b, xs, ys, k1, k2, rfl, hq1, hq2, q⟩ := z
    have fp : ∀ b, s1.heap.objs.size ≤ b → FpOk X pins H1 b := fun b hle => Inv.fpOk I1 hle (HOk.fresh I1.hok hle)
    cases r1 with
    | cons r rr =>
      cases rr with
      | cons r2 rr =>
        cases rr
        cases r
        cases r2
        obtain ⟨is1, w1, p1, _⟩ := invK I1 hq1
        obtain ⟨is2, w2, p2, _⟩ := invK I1 hq2
        have l1 := sqK_lt p1
        have l2 := sqK_lt p2
        refine zip_begins2 (begK k1 a is1.toArray) (begK k2 b is2.toArray) p1 p2 fun h' hz hI hO g1 g2 hsz hk => wpAny_pyIter_zip hz ?_
        have I2 := Inv.kept (t' := s1.toks) I1 hk
        refine ⟨_, _, _, _, H1, rfl, I2, turn_z2 (k1 := k1) (k2 := k2) (zip_sep2 (N := s1.heap.objs.size) (fp1 := [a]) (fp2 := [b]) (by simpa using l1) (by simpa using l2)) (Nat.ne_of_lt l1) (Nat.ne_of_lt (Nat.lt_succ_of_lt l2)), ⟨hz, hI, ⟨_, _, hO⟩, itK_new g1, itK_new g2⟩, fun c hc => ?_, q⟩
        refine fp c ?_
        simp only [List.mem_cons, List.not_mem_nil, or_false] at hc
        rcases hc with rfl | rfl | rfl | rfl | rfl
        · exact Nat.le_add_right _ _
        · exact Nat.le_add_right _ _
        · exact Nat.le_add_right _ _
        · exact Nat.le_refl _
        · exact Nat.le_add_right _ _
def Itz3 (k1 k2 k3 : Bool) (K : W.Frag) (a b d : Addr) : It where
  go i H := ∃ xs ys zs x y z, SqK k1 K H a xs ∧ SqK k2 K H b ys ∧ SqK k3 K H d zs ∧ xs[i]? = some x ∧ ys[i]? = some y ∧ zs[i]? = some z
  yld i H v H' := ∃ T x y z, v = V.ref T ∧ H T = none ∧ H' = upd H T (HO.tup [x, y, z]) ∧ (∀ xs, SqK k1 K H a xs → xs[i]? = some x) ∧ (∀ ys, SqK k2 K H b ys → ys[i]? = some y) ∧ ∀ zs, SqK k3 K H d zs → zs[i]? = some z
  stop i H := ∃ xs ys zs, SqK k1 K H a xs ∧ SqK k2 K H b ys ∧ SqK k3 K H d zs ∧ (xs.length ≤ i ∨ ys.length ≤ i ∨ zs.length ≤ i)
theorem turn_z3 {P : Program} {w : World} {K : W.Frag} {elts : List Expr} {kk : Nat} {tpos : Pos} {k1 k2 k3 : Bool} {a b d z TI TO i1 i2 i3 : Addr} (S : ZipSep3 z TI TO i1 i2 i3 [i1, a] [i2, b] [i3, d]) (n1 : a ≠ i1) (n2 : b ≠ i2) (n3 : d ≠ i3) : Turn P w K (Expr.Tuple elts kk tpos) (Itz3 k1 k2 k3 K a b d) [z, TI, TO, i1, i2, i3] z fun i h => IsZip h z TI TO Value.none ∧ IsTupOf3 h TI (Value.ref i1) (Value.ref i2) (Value.ref i3) ∧ (∃ x y v, IsTupOf3 h TO x y v) ∧ IsItK k1 h i1 a i ∧ IsItK k2 h i2 b i ∧ IsItK k3 h i3 d i where
  mem := by simp
  obj i h st c hc := by
    obtain ⟨hz, hI, ⟨x, y, v, hO⟩, q1, q2, q3⟩ := st
    simp only [List.mem_cons, List.not_mem_nil, or_false] at hc
    rcases hc with rfl | rfl | rfl | rfl | rfl | rfl
    · exact ⟨_, hz, fun v q => nomatch q⟩
    · exact ⟨_, hI, fun v q => nomatch q⟩
    · exact ⟨_, hO, fun v q => nomatch q⟩
    · exact itK_obj q1
    · exact itK_obj q2
    · exact itK_obj q3
  keep i h h' st f := by
    obtain ⟨hz, hI, ⟨x, y, v, hO⟩, q1, q2, q3⟩ := st
    exact ⟨f z (by simp) _ hz, f TI (by simp) _ hI, ⟨x, y, v, f TO (by simp) _ hO⟩, itK_at q1 fun o e => f i1 (by simp) o e, itK_at q2 fun o e => f i2 (by simp) o e, itK_at q3 fun o e => f i3 (by simp) o e⟩
  item X hP hw hK hc i pins s σ H E I hf st hg := by
    subst hP hw hK
    obtain ⟨hz, hI, ⟨o1, o2, o3, hO⟩, q1, q2, q3⟩ := st
    obtain ⟨xs, ys, vs, x, y, v, hq1, hq2, hq3, hx, hy, hv⟩ := hg
    obtain ⟨is1, r1, p1, _⟩ := invK I hq1
    obtain ⟨is2, r2, p2, _⟩ := invK I hq2
    obtain ⟨is3, r3, p3, _⟩ := invK I hq3
    obtain ⟨u1, hu1, ru1⟩ := Vals.get r1 hx
    obtain ⟨u2, hu2, ru2⟩ := Vals.get r2 hy
    obtain ⟨u3, hu3, ru3⟩ := Vals.get r3 hv
    have hzl := Heap.lt_size hz
    have hd : (Around.in1 X.A).handled = none := I.ok.hd hc
    have l1 : i < is1.toArray.size := by
      have := (List.getElem?_eq_some_iff.mp hu1).1
      simpa using this
    have l2 : i < is2.toArray.size := by
      have := (List.getElem?_eq_some_iff.mp hu2).1
      simpa using this
    have l3 : i < is3.toArray.size := by
      have := (List.getElem?_eq_some_iff.mp hu3).1
      simpa using this
    refine wpAny_pyNext_zipD3_item S (drK k1 hd i1 a n1 is1.toArray) (drK k2 hd i2 b n2 is2.toArray) (drK k3 hd i3 d n3 is3.toArray) hz hI hO ⟨q1, p1⟩ ⟨q2, p2⟩ ⟨q3, p3⟩ l1 l2 l3 fun x1 x2 x3 h' tk e1 e2 e3 hz' hO' s1 s2 s3 hT hsz hk => ?_
    rw [List.getElem?_toArray] at e1 e2 e3
    rw [hu1] at e1
    rw [hu2] at e2
    rw [hu3] at e3
    cases e1
    cases e2
    cases e3
    refine ⟨_, rfl, wpAny_letOwnedTupleGo_zip hz' fun h'' hz'' sb => ?_⟩
    have hT2 := (sb.2 s.heap.objs.size (Nat.ne_of_gt hzl)).trans hT
    have new : ObjOk X.prog X.w (upd H s.heap.objs.size (HO.tup [x, y, v])) h'' s.heap.objs.size (HO.tup [x, y, v]) := ⟨by show 3 ≤ 16777216; omega, [u1, u2, u3], .cons ru1 (.cons ru2 (.cons ru3 .nil)), _, hT2, rfl, 0, rfl⟩
    have I1 := Inv.turnedNew (t' := tk) (ch := [z, TI, TO, i1, i2, i3]) I (fun c oc hb q => (sb.2 c fun w => hb (by simp [w])).trans (hk c oc (fun w => hb (by simp [w])) (fun w => hb (by simp [w])) (fun w => hb (by simp [w])) (fun w => hb (by simp [w])) (fun w => hb (by simp [w])) q)) hf (Nat.le_refl s.heap.objs.size) new
    have z1 : i1 ≠ z := fun w => S.zf1 (by simp [w])
    have z2 : i2 ≠ z := fun w => S.zf2 (by simp [w])
    have z3 : i3 ≠ z := fun w => S.zf3 (by simp [w])
    refine ⟨V.ref s.heap.objs.size, _, I1, rfl, ⟨_, x, y, v, rfl, HOk.fresh I.hok (Nat.le_refl _), rfl, fun zs hzs => ?_, fun zs hzs => ?_, fun zs hzs => ?_⟩, ⟨hz'', (sb.2 TI S.TIz).trans (hk TI _ S.TIz S.TITO S.TIi1 S.TIi2 S.TIi3 hI), ⟨_, _, _, (sb.2 TO S.TOz).trans hO'⟩, itK_at s1.1 fun o e => (sb.2 i1 z1).trans e, itK_at s2.1 fun o e => (sb.2 i2 z2).trans e, itK_at s3.1 fun o e => (sb.2 i3 z3).trans e⟩, fun c hcm => ?_⟩
    · rw [invK_inj I hzs hq1]
      exact hx
    · rw [invK_inj I hzs hq2]
      exact hy
    · rw [invK_inj I hzs hq3]
      exact hv
    · have hb' : c < s.heap.objs.size := by
        simp only [List.mem_cons, List.not_mem_nil, or_false] at hcm
        obtain ⟨o1, g1, _⟩ := itK_obj q1
        obtain ⟨o2, g2, _⟩ := itK_obj q2
        obtain ⟨o3, g3, _⟩ := itK_obj q3
        rcases hcm with rfl | rfl | rfl | rfl | rfl | rfl
        · exact hzl
        · exact Heap.lt_size hI
        · exact Heap.lt_size hO
        · exact Heap.lt_size g1
        · exact Heap.lt_size g2
        · exact Heap.lt_size g3
      rw [upd_ne (Nat.ne_of_lt hb')]
      exact (hf c hcm).1
  done X hP hw hK hc i pins s σ H E I hf st hg := by
    subst hP hw hK
    obtain ⟨hz, hI, ⟨o1, o2, o3, hO⟩, q1, q2, q3⟩ := st
    obtain ⟨xs, ys, vs, hq1, hq2, hq3, hx⟩ := hg
    obtain ⟨is1, r1, p1, _⟩ := invK I hq1
    obtain ⟨is2, r2, p2, _⟩ := invK I hq2
    obtain ⟨is3, r3, p3, _⟩ := invK I hq3
    have v1 := Vals.length r1
    have v2 := Vals.length r2
    have v3 := Vals.length r3
    have hd : (Around.in1 X.A).handled = none := I.ok.hd hc
    obtain ⟨m1, P1, S1, D1, l1, g1, w1⟩ := drStop (prog := X.prog) (w := X.w) k1 hd i1 a n1 is1.toArray i
    obtain ⟨m2, P2, S2, D2, l2, g2, w2⟩ := drStop (prog := X.prog) (w := X.w) k2 hd i2 b n2 is2.toArray i
    obtain ⟨m3, P3, S3, D3, l3, g3, w3⟩ := drStop (prog := X.prog) (w := X.w) k3 hd i3 d n3 is3.toArray i
    refine wpAny_pyNext_zipD3_end S D1 D2 D3 hz hI hO (w1 _ q1 p1) (w2 _ q2 p2) (w3 _ q3 p3) l1 l2 l3 (hx.imp (fun z => g1 (by simpa [← v1] using z)) (fun z => z.imp (fun z => g2 (by simpa [← v2] using z)) (fun z => g3 (by simpa [← v3] using z)))) fun h' tk hk => ⟨rfl, ?_⟩
    exact Inv.turnedL (ch := [z, TI, TO, i1, i2, i3]) I (fun c oc hb q => hk c oc (fun w => hb (by simp [w])) (fun w => hb (by simp [w])) (fun w => hb (by simp [w])) (fun w => hb (by simp [w])) (fun w => hb (by simp [w])) q) hf
  self A i s Q E st h := wpAny_pyIter_zip st.1 h
def iZip3 (K : W.Frag) (ta : TA) : TI := fun σ H R => ta σ H fun vs H1 => ∃ a b d xs ys zs k1 k2 k3, vs = [V.ref a, V.ref b, V.ref d] ∧ SqK k1 K H1 a xs ∧ SqK k2 K H1 b ys ∧ SqK k3 K H1 d zs ∧ R (Itz3 k1 k2 k3 K a b d) H1
theorem pi_zip3 {X : Cx} {e e2 e3 : Expr} {ta : TA} {p pos tpos : Pos} {elts : List Expr} {kk : Nat} (hg : Gl X "zip") (hm : X.mg "zip" = none) (ha : PA X [e, e2, e3] ta) (hs : starEach [e, e2, e3] X.env = (false, eval e X.env) :: starEach [e2, e3] X.env) (hs2 : ((backTo pos (starEach [e2, e3] X.env)).any fun x => x.1) = false) : PI X (Expr.Tuple elts kk tpos) ((Expr.Name "zip" p).Call [e, e2, e3] [] pos) (iZip3 X.K ta) where
  run pins s σ H R I h := by
    refine Call_ (ld_blt I hg hm (u := Value.type "zip") rfl (PyProof.Rows.callWith_type1 (thn (ha.run pos pins s σ H _ I h) fun us s1 z => ?_) hs hs2))
    obtain ⟨vs, H1, I1, r1, a, b, d, xs, ys, zs, k1, k2, k3, rfl, hq1, hq2, hq3, q⟩ := z
    have fp : ∀ b, s1.heap.objs.size ≤ b → FpOk X pins H1 b := fun b hle => Inv.fpOk I1 hle (HOk.fresh I1.hok hle)
    cases r1 with
    | cons r rr =>
      cases rr with
      | cons r2 rr =>
        cases rr with
        | cons r3 rr =>
          cases rr
          cases r
          cases r2
          cases r3
          obtain ⟨is1, w1, p1, _⟩ := invK I1 hq1
          obtain ⟨is2, w2, p2, _⟩ := invK I1 hq2
          obtain ⟨is3, w3, p3, _⟩ := invK I1 hq3
          have l1 := sqK_lt p1
          have l2 := sqK_lt p2
          have l3 := sqK_lt p3
          refine zip_begins3 (begK k1 a is1.toArray) (begK k2 b is2.toArray) (begK k3 d is3.toArray) p1 p2 p3 fun h' hz hI hO g1 g2 g3 hsz hk => wpAny_pyIter_zip hz ?_
          have I2 := Inv.kept (t' := s1.toks) I1 hk
          refine ⟨_, _, _, _, H1, rfl, I2, turn_z3 (k1 := k1) (k2 := k2) (k3 := k3) (zip_sep3 (N := s1.heap.objs.size) (fp1 := [a]) (fp2 := [b]) (fp3 := [d]) (by simpa using l1) (by simpa using l2) (by simpa using l3)) (Nat.ne_of_lt l1) (Nat.ne_of_lt (Nat.lt_succ_of_lt l2)) (Nat.ne_of_lt (Nat.lt_succ_of_lt (Nat.lt_succ_of_lt l3))), ⟨hz, hI, ⟨_, _, _, hO⟩, itK_new g1, itK_new g2, itK_new g3⟩, fun c hc => ?_, q⟩
          refine fp c ?_
          simp only [List.mem_cons, List.not_mem_nil, or_false] at hc
          rcases hc with rfl | rfl | rfl | rfl | rfl | rfl
          · exact Nat.le_add_right _ _
          · exact Nat.le_add_right _ _
          · exact Nat.le_add_right _ _
          · exact Nat.le_refl _
          · exact Nat.le_add_right _ _
          · exact Nat.le_add_right _ _
end Mi
namespace Mi
open PySem PySem.Spec PyProof.Rows L2 HT
theorem adjust_rev (n : Nat) : Builtin.Slice.sliceAdjust none none (-1) (n : Int) = ((n : Int) - 1, -1) := by
  unfold Builtin.Slice.sliceAdjust
  simp
theorem places_rev (n : Nat) : Builtin.Slice.slicePlaces ((n : Int) - 1) (-1) (-1) = n := by
  unfold Builtin.Slice.slicePlaces
  have h1 : ¬ ((-1 : Int) > 0) := by decide
  simp only [h1, if_false, Int.neg_neg, Int.ediv_one]
  split <;> omega
theorem pick_rev (xs : Array Value) : ((List.range xs.size).filterMap fun (m : Nat) => xs[(((xs.size : Int) - 1) + (m : Int) * (-1)).toNat]?).toArray = xs.toList.reverse.toArray := by
  congr 1
  refine List.ext_getElem? fun i => ?_
  have gen : ∀ l : List Nat, (∀ m ∈ l, m < xs.size) → l.filterMap (fun (m : Nat) => xs[(((xs.size : Int) - 1) + (m : Int) * (-1)).toNat]?) = l.map fun m => xs[xs.size - 1 - m]?.getD .none := fun l => by
    induction l with
    | nil => intro _; rfl
    | cons m l ih =>
      intro hl
      have hm' := hl m (.head _)
      have e1 : (((xs.size : Int) - 1) + (m : Int) * (-1)).toNat = xs.size - 1 - m := by omega
      rw [List.filterMap_cons, e1, Array.getElem?_eq_getElem (by omega), ih fun k hk => hl k (.tail _ hk), List.map_cons, Array.getElem?_eq_getElem (by omega)]
      rfl
  have e := gen (List.range xs.size) fun m hm => List.mem_range.mp hm
  rw [e]
  by_cases hi : i < xs.size
  · rw [List.getElem?_map, List.getElem?_range hi, List.getElem?_reverse (by simpa using hi)]
    simp only [Option.map_some, Array.length_toList, Array.getElem?_toList]
    rw [Array.getElem?_eq_getElem (by omega)]
    rfl
  · rw [List.getElem?_eq_none (by simp; omega), List.getElem?_eq_none (by simp; omega)]
theorem sliceApplied_rev {prog : Program} {w : World} {A : Around} {E : Value → Shared → Prop} {s : Shared} {sl : Addr} {vl vu vs : Value} {n : Nat} {Q : Int × Int × Nat → Shared → Prop} (hs : s.heap.IsSliceOf sl vl vu vs) (pl : IsPart vl none) (pu : IsPart vu none) (ps : IsPart vs (some (-1)))
    (h : Q ((n : Int) - 1, -1, n) s) : wpAny (model prog w) A (Builtin.Slice.sliceApplied (.ref sl) (pure (n : Int))) Q E s := by
  obtain ⟨os, hos, hcs, hds⟩ := id hs
  unfold Builtin.Slice.sliceApplied Builtin.Slice.sliceFields
  refine wpAny_bind (wpAny_bind (wpAny_field hos hds (x := vl) rfl (wpAny_bind (wpAny_field hos hds (x := vu) rfl (wpAny_bind (wpAny_field hos hds (x := vs) rfl (wpAny_pure ?_)))))))
  refine wpAny_bind (slicePart_ ps ?_)
  show wpAny _ _ (if ((-1 : Int) == 0) = true then _ else _) _ _ s
  rw [if_neg (by decide)]
  refine wpAny_bind (slicePart_ pl (wpAny_bind (slicePart_ pu (wpAny_bind (wpAny_pure ?_)))))
  show wpAny _ _ (match Builtin.Slice.sliceAdjust none none (-1) (n : Int) with | (lo, hi) => pure (lo, (-1 : Int), Builtin.Slice.slicePlaces lo hi (-1))) _ _ s
  rw [adjust_rev n]
  show wpAny _ _ (pure ((n : Int) - 1, (-1 : Int), Builtin.Slice.slicePlaces ((n : Int) - 1) (-1) (-1))) _ _ s
  rw [places_rev]
  exact wpAny_pure h
theorem getItem_tuple_rev {prog : Program} {w : World} {A : Around} {E : Value → Shared → Prop} {s : Shared} {t sl : Addr} {items : Array Value} {vl vu vs : Value} {Q : Value → Shared → Prop} (ht : IsTup s.heap t items) (hs : s.heap.IsSliceOf sl vl vu vs) (pl : IsPart vl none) (pu : IsPart vu none) (ps : IsPart vs (some (-1)))
    (h : Q (.ref s.heap.objs.size) { s with heap := s.heap.push { cls := .type "tuple", data := .seq items.toList.reverse.toArray } })
    (hsz : items.size ≤ sizeLine) : wpAny (model prog w) A (getItem (.ref t) (.ref sl)) Q E s := by
  have htake : sizeOk (.seq items.toList.reverse.toArray) := by
    show items.toList.reverse.toArray.size ≤ sizeLine
    rw [List.size_toArray, List.length_reverse, Array.length_toList]
    omega
  obtain ⟨os, hos, hcs, hds⟩ := id hs
  have hTs : s.TypeIs (.ref sl) "slice" := ⟨os, hos, hcs⟩
  unfold getItem
  try with_reducible refine wpAny_holding ?_
  first | refine wpAny_bind (wpAny_pure ?_) | skip
  refine wpAny_bind (wpAny_sequenceKey ht.typeIs (by decide) ?_)
  refine wpAny_bind (wpAny_callSpecial?_slot (name := Str.ofString "__getitem__") ht.typeIs PyProof.Rows.slot_tuple_getitem
    (wpAny_call_entry PyProof.Rows.slot_tuple_getitem ht.typeIs entry_tuple_getitem ?_ (args_tuple_getitem _ _)))
  show wpAny _ _ (Builtin.Tuple.tupleItemsOf (.ref t) >>= _) _ _ s
  refine wpAny_bind (tupleItemsOf_ ht ?_)
  refine wpAny_bind (wpAny_typeOf hTs ?_)
  rw [if_pos (by decide)]
  refine wpAny_bind (sliceApplied_rev hs pl pu ps ?_)
  have hno : ¬ ((((items.size : Int) - 1) == 0 && (-1 : Int) == 1 && items.size == items.size) = true) := by
    have : ((-1 : Int) == 1) = false := by decide
    rw [this]; simp
  show wpAny _ _ (if (((items.size : Int) - 1) == 0 && (-1 : Int) == 1 && items.size == items.size) = true then _ else _) _ _ s
  rw [if_neg hno, pick_rev]
  first
    | exact wpAny_bind (m := Builtin.Tuple.tupleExact _) (wpAny_newObj_type (wpAny_pure ⟨_, rfl, wpAny_pure h⟩) htake)
    | exact wpAny_bind (m := Builtin.Tuple.tupleExact _) (wpAny_newObj_type (wpAny_bind (wpAny_pure (wpAny_pure ⟨_, rfl, wpAny_pure h⟩))) htake)
    | exact wpAny_bind (wpAny_bind (m := Builtin.Tuple.tupleExact _) (wpAny_newObj_type (wpAny_pure (wpAny_pure ⟨_, rfl, wpAny_pure h⟩)) htake))
    | exact wpAny_bind (wpAny_bind (m := Builtin.Tuple.tupleExact _) (wpAny_newObj_type (wpAny_pure ⟨_, rfl, wpAny_pure h⟩) htake))
section
variable {X : Cx} {G : Gs}
def tRevA (G : Gs) (te : TE) : TE := fun σ H Q => te σ H fun x H1 => rD1 G revD x H1 Q
theorem pe_revA (hK : X.K = G.K) {e : Expr} {te : TE} {k : Nat} {p1 p2 p3 pos : Pos} (he : PE X e te) : PE X (.Subscript e (.Slice none none (some (.UnaryOp .USub (.Constant (.int 1) k p1) p2)) p3) pos) (tRevA G te) := by
  refine ⟨fun pins s σ H Q I h => ?_⟩
  refine Subscript_ (thn (he.run pins s σ H _ I h) fun v s1 ⟨x, H1, I1, r1, q1⟩ => ?_)
  obtain ⟨F, ι, dx, r, m, hx, er, hr⟩ := q1
  have hst : PO X (some (.UnaryOp .USub (.Constant (.int 1) k p1) p2)) (tPart (tUn (rU fun i => .int (-i)) (tC (.int 1)))) := po_some (pe_un un_neg pe_int)
  refine wpAny_Slice (thn (po_none.run pins s1 σ H1 (fun o H2 => o = none ∧ H2 = H1) I1 ⟨rfl, rfl⟩) fun vl s2 ⟨l, H2, I2, pl, el, e2⟩ => ?_)
  subst el e2
  refine thn (po_none.run pins s2 σ H2 (fun o H3 => o = none ∧ H3 = H2) I2 ⟨rfl, rfl⟩) fun vu s3 ⟨u, H3, I3, pu, eu, e3⟩ => ?_
  subst eu e3
  refine thn (hst.run pins s3 σ H3 (fun o H4 => o = some (-1) ∧ H4 = H3) I3 ⟨1, rfl, -1, rfl, rfl, rfl⟩) fun vs s4 ⟨o, H4, I4, ps, eo, e4⟩ => ?_
  subst eo e4
  have I5 : Inv X pins σ H4 { s4 with heap := s4.heap.push { cls := .type "slice", data := .fields #[vl, vu, vs] } } := I4.kept (t' := s4.toks) fun b ob q => Heap.get?_push_of_some _ q
  unfold revD at er
  split at er
  · cases er
    rename_i ds
    obtain ⟨a, xs, rfl, hA, ra⟩ := hx.tup m
    cases r1
    rw [← hK] at hA
    obtain ⟨its, r, ht, hz⟩ := I5.tuple hA
    have hlen := r.length
    show wpAny (model X.prog X.w) X.A (subscriptTail e (.Slice none none (some (.UnaryOp .USub (.Constant (.int 1) k p1) p2)) p3) (.ref a) (.ref s4.heap.objs.size)) (EP X pins σ Q) X.xe { s4 with heap := s4.heap.push { cls := .type "slice", data := .fields #[vl, vu, vs] } }
    refine tail_any (ops := [.ref a, .ref s4.heap.objs.size]) ht.typeIs (PyProof.Rows.slot_tuple_getitem.lookup) ?_ (by with_unfolding_all rfl)
    refine getItem_tuple_rev ht (Heap.IsSliceOf.new _ vl vu vs) pl pu ps ?_ (by rw [List.size_toArray]; omega)
    refine ⟨.ref _, _, I5.laid (t' := s4.toks) (o := .tup xs.reverse) (fun b ob q => Heap.get?_push_of_some _ q) (Nat.le_refl _) ?_, rfl, hr.tup m ra.rev _ (I5.hok.fresh (Nat.le_refl _))⟩
    exact ⟨by rw [List.length_reverse]; exact hz, _, r.reverse, IsTup.new _ _⟩
  · cases er
    rename_i ds
    obtain ⟨a, xs, rfl, hA, ra⟩ := hx.lst m
    cases r1
    have hA' : SqL X.K H4 a xs := .inl (.inl hA)
    obtain ⟨its, r, ht, hz⟩ := I5.list hA'
    have hlen := r.length
    show wpAny (model X.prog X.w) X.A (subscriptTail e (.Slice none none (some (.UnaryOp .USub (.Constant (.int 1) k p1) p2)) p3) (.ref a) (.ref s4.heap.objs.size)) (EP X pins σ Q) X.xe { s4 with heap := s4.heap.push { cls := .type "slice", data := .fields #[vl, vu, vs] } }
    refine tail_any (ops := [.ref a, .ref s4.heap.objs.size]) ht.isList.typeIs (PySem.slot_list_getitem.lookup) ?_ (by with_unfolding_all rfl)
    refine wpAny_getItem_list_slice ht.isList (Heap.IsSliceOf.new _ vl vu vs) pl pu ps (by decide) ?_ (by rw [List.size_toArray]; omega)
    rw [PySem.W.krv_pick]
    refine ⟨.ref _, _, I5.laid (t' := s4.toks) (o := .lst xs.reverse) (fun b ob q => Heap.get?_push_of_some _ q) (Nat.le_refl _) ?_, rfl, hr.lst m ra.rev _ (I5.hok.fresh (Nat.le_refl _))⟩
    exact ⟨by rw [List.length_reverse]; exact hz, _, 0, r.reverse, Heap.get?_push_size _ rfl⟩
  · cases er
end
section
variable {c : Act} {C : CC} {O : Orc} {k : Nat} {X : Cx} {W : Wh} {pos p1 p2 p3 : Pos}
theorem rev_ok (x : XOk c C O k X W) {a : Expr} {j : Nat} {ma : M Ar} (ha : PE X a (rdA c W ma)) :
    PE X (.Subscript a (.Slice none none (some (.UnaryOp .USub (.Constant (.int 1) j p1) p2)) p3) pos) (rdR c W (bnd ma fun x => prim1 revD x)) :=
  peM (pe_revA x.K ha) fun σ H Q z => rd1 z
end
end Mi
namespace Mi
open PySem PySem.Spec PyProof.Rows L2
section
variable {c : Act} {C : CC} {O : Orc} {k : Nat} {X : Cx} {W : Wh} {σ : L2.St} {F F' : Hp} {ι ι' : List Addr} {H H' : Hp} {e : Ev} {s : Sto} {pos p1 p2 : Pos}
theorem Abs.alloc (A : Abs c F ι σ H e s) {a : Addr} {o : Ob} (h1 : ObjRel c.G F ι H a o) (h2 : F a = none) (h3 : a ∉ ι) (h4 : c.H0 a = none) (h5 : ¬ Owned σ e a) : Abs c F (ι ++ [a]) σ H e (s ++ [o]) ∧ Pre ι (ι ++ [a]) := by
  have p : Pre ι (ι ++ [a]) := fun i b h => by rw [List.getElem?_append_left (get_lt h)]; exact h
  refine ⟨{ A with pre := A.pre.trans p, nd := ?_, inew := fun b hb => ?_, sep := fun b hb => ?_, lens := by simp [A.lens], objs := fun i b q hi hq => ?_, val := fun j d hj => ?_, own := fun j q hj => ?_ }, p⟩
  · rw [List.nodup_append]
    refine ⟨A.nd, by simp, fun x hx y hy => ?_⟩
    have : y = a := by simpa using hy
    subst this
    intro z
    subst z
    exact h3 hx
  · rcases List.mem_append.mp hb with z | z
    · exact A.inew b z
    · have : b = a := by simpa using z
      subst this; exact .inr h4
  · rcases List.mem_append.mp hb with z | z
    · exact A.sep b z
    · have : b = a := by simpa using z
      subst this; exact h2
  · by_cases hl : i < ι.length
    · rw [List.getElem?_append_left hl] at hi
      rw [List.getElem?_append_left (by rw [← A.lens]; exact hl)] at hq
      exact (A.objs i b q hi hq).mono (Same.refl _) p (fun u z => z)
    · have hl2 := get_lt hi
      rw [List.length_append] at hl2
      have e1 : i = ι.length := by simp at hl2; omega
      subst e1
      rw [List.getElem?_append_right (Nat.le_refl _), Nat.sub_self] at hi
      rw [A.lens, List.getElem?_append_right (Nat.le_refl _), Nat.sub_self] at hq
      cases hi
      cases hq
      exact h1.mono (Same.refl _) p (fun u z => z)
  · obtain ⟨v, q1, q2⟩ := A.val j d hj
    exact ⟨v, q1, q2.mono (Same.refl _) p⟩
  · obtain ⟨b, q1, q2, q3, q4, q5⟩ := A.own j q hj
    refine ⟨b, q1, q2.mono (Same.refl _) p (fun u z => z), q3, fun z => ?_, q5⟩
    rcases List.mem_append.mp z with z | z
    · exact q4 z
    · have : b = a := by simpa using z
      subst this
      exact h5 ⟨j, q, hj, q1⟩
theorem alloc_ok {a : Expr} {m : M R} (h : PE X a (rdR c W m)) : PE X a (rdR c W (bnd m allocM)) := by
  refine peM h fun σ H Q z => ?_
  obtain ⟨F, ι, e, s, hn, A, z⟩ := z
  refine ⟨F, ι, e, s, hn, A, z.split.imp fun r F1 ι1 H1 e1 s1 m1 p1 A1 h1 v hr => ?_⟩
  cases r with
  | val d => exact h1.elim
  | new o =>
    obtain ⟨b, rfl, q1, q2, q3, q4, q5⟩ := hr
    obtain ⟨B, p⟩ := A1.alloc q1 q2 q3 q4 q5
    refine h1 F1 _ H1 (Same.refl _) p B _ (.ref ?_)
    rw [← A1.lens, List.getElem?_append_right (Nat.le_refl _), Nat.sub_self]
    rfl
def ItOk (G : Gs) (F : Hp) (ι : List Addr) (J : It) (items : List D) : Prop := ∀ F1 H1 i, Same F F1 → Same F1 H1 →
  (i < items.length → J.go i H1 ∧ ∀ x H', J.yld i H1 x H' → ∃ F2 d, items[i]? = some d ∧ Grow F1 H1 F2 H' ∧ Rel G F2 ι x d) ∧ (items.length ≤ i → J.stop i H1)
def rdI (c : Act) (W : Wh) (m : M (List D)) : TI := fun σ H R => ∃ F ι e s, σ.length = c.n ∧ Abs c F ι σ H e s ∧
  Fin c W σ F ι (m e s) fun items F' ι' H' e' s' => ∀ J, ItOk c.G F' ι' J items → R J H'
theorem piM {tg e : Expr} {t t' : TI} (h : PI X tg e t) (m : ∀ σ H Q, t' σ H Q → t σ H Q) : PI X tg e t' := ⟨fun pins s σ H Q I z => h.run pins s σ H Q I (m σ H Q z)⟩
def iSeq (K : PySem.W.Frag) (tl : TE) : TI := fun σ H R => tl σ H fun x H1 => ∃ a, x = .ref a ∧ (((∃ xs, SqL K H1 a xs) ∧ R (Itl K a) H1) ∨ ((∃ xs, SqT K H1 a xs) ∧ R (Itt K a) H1))
theorem pi_seq {tg l : Expr} {tl : TE} (hl : PE X l tl) : PI X tg l (iSeq X.K tl) := by
  refine ⟨fun pins s σ H R I h => ?_⟩
  refine thn (hl.run pins s σ H _ I h) fun v s1 ⟨x, H1, I1, r1, a, ex, q⟩ => ?_
  subst ex
  cases r1
  have I2 : ∀ o : PySem.Obj, L2.Inv X pins σ H1 { s1 with heap := s1.heap.push o } := fun o => I1.kept (t' := s1.toks) fun b w z => Heap.get?_push_of_some _ z
  have fr : ∀ b ∈ [s1.heap.objs.size], FpOk X pins H1 b := fun b hb => by
    rw [List.mem_singleton.mp hb]
    exact I1.fpOk (Nat.le_refl _) (I1.hok.fresh (Nat.le_refl _))
  rcases q with ⟨⟨xs, hq⟩, q⟩ | ⟨⟨xs, hq⟩, q⟩
  · obtain ⟨its, rv, p, hz⟩ := I1.list hq
    exact wpAny_pyIter_list p.isList ⟨_, [s1.heap.objs.size], _, _, H1, rfl, I2 _, turn_list a _, ⟨_, Heap.get?_push_size _ rfl, rfl, rfl⟩, fr, q⟩
  · obtain ⟨its, rv, p, hz⟩ := I1.tuple hq
    exact wpAny_pyIter_tuple p ⟨_, [s1.heap.objs.size], _, _, H1, rfl, I2 _, turn_tuple a _, ⟨_, Heap.get?_push_size _ rfl, rfl, rfl⟩, fr, q⟩
theorem itl_ok {G : Gs} {a : Addr} {xs : List V} {ds : List D} (h : F a = some (.lst xs)) (hr : Rels G F ι xs ds) : ItOk G F ι (Itl G.K a) ds := by
  intro F1 H1 i m1 m2
  have hq : ∀ {H : Hp}, Same F1 H → SqL G.K H a xs := fun m => .inl (.inl (m _ _ (m1 _ _ h)))
  refine ⟨fun hi => ?_, fun hi => ⟨xs, hq m2, by rw [hr.length]; exact hi⟩⟩
  obtain ⟨v, hv, rv⟩ := hr.get (List.getElem?_eq_getElem hi)
  refine ⟨⟨xs, v, hq m2, hv⟩, fun x H' ⟨e, y⟩ => ?_⟩
  subst e
  have := y xs (hq m2)
  rw [hv] at this
  cases this
  exact ⟨F1, _, List.getElem?_eq_getElem hi, .refl m2, rv.mono m1 (Pre.refl _)⟩
theorem itt_ok {G : Gs} {a : Addr} {xs : List V} {ds : List D} (h : SqT G.K F a xs) (hr : Rels G F ι xs ds) : ItOk G F ι (Itt G.K a) ds := by
  intro F1 H1 i m1 m2
  have hq : SqT G.K H1 a xs := sqT_mono (m1.trans m2) h
  refine ⟨fun hi => ?_, fun hi => ⟨xs, hq, by rw [hr.length]; exact hi⟩⟩
  obtain ⟨v, hv, rv⟩ := hr.get (List.getElem?_eq_getElem hi)
  refine ⟨⟨xs, v, hq, hv⟩, fun x H' ⟨e, y⟩ => ?_⟩
  subst e
  have := y xs hq
  rw [hv] at this
  cases this
  exact ⟨F1, _, List.getElem?_eq_getElem hi, .refl m2, rv.mono m1 (Pre.refl _)⟩
theorem itr_ok {G : Gs} {lo : Int} {n : Nat} : ItOk G F ι (Itr lo n) ((List.range n).map fun (i : Nat) => .int (lo + i)) := by
  intro F1 H1 i m1 m2
  rw [List.length_map, List.length_range]
  refine ⟨fun hi => ⟨hi, fun x H' ⟨e, y⟩ => ?_⟩, fun hi => hi⟩
  subst e
  subst y
  exact ⟨F1, .int (lo + i), by simp [hi], .refl m2, .int _⟩
theorem seq_ok (x : XOk c C O k X W) {tg a : Expr} {m : M R} (h : PE X a (rdR c W m)) : PI X tg a (rdI c W (bnd m fun r => bnd (frz r) fun d => match d with
    | .tup ds => ret ds
    | .lst ds => ret ds
    | _ => badM)) := by
  refine piM (pi_seq h) fun σ H Q z => ?_
  obtain ⟨F, ι, e, s, hn, A, z⟩ := z
  refine ⟨F, ι, e, s, hn, A, z.split.imp fun r F1 ι1 H1 e1 s1 m1 p1 A1 h1 v hr => ?_⟩
  obtain ⟨F2, d, m2, A2, hd, q⟩ := Fin.frz A1 h1.split hr
  rw [x.K]
  cases d with
  | tup ds =>
    cases hd with
    | tup h hs => exact ⟨_, rfl, .inr ⟨⟨_, sqT_mono A2.le h⟩, q.ok A2 _ (itt_ok h hs)⟩⟩
  | lst ds =>
    cases hd with
    | lst h hs => exact ⟨_, rfl, .inl ⟨⟨_, .inl (.inl (A2.le _ _ h))⟩, q.ok A2 _ (itl_ok h hs)⟩⟩
  | _ => exact q.elim
theorem range_ok (x : XOk c C O k X W) {tg a : Expr} {m : M R} (hp : plainA a = true) (hg : C.glb "range" = true) (h : PE X a (rdR c W m)) : PI X tg (.Call (.Name "range" p1) [a] [] pos) (rdI c W (bnd m fun r => bnd (asInt r) fun k => if k.natAbs < 4611686018427387904 then ret ((List.range k.toNat).map fun (i : Nat) => .int i) else badM)) := by
  refine piM (pi_range1 (x.glb hg) (x.free _ (by decide +kernel)) (pa_cons h pa_nil (star_plain hp)) (star_plain hp)) fun σ H Q z => ?_
  obtain ⟨F, ι, e, s, hn, A, z⟩ := z
  refine ⟨F, ι, e, s, hn, A, z.split.imp fun r F1 ι1 H1 e1 s1 m1 p1 A1 h1 v hr => ?_⟩
  obtain ⟨j, rfl, rfl, h2⟩ := Fin.asInt h1 hr
  split at h2
  · rename_i hz
    refine ⟨j, rfl, by omega, by omega, h2.ok A1 _ ?_⟩
    have := itr_ok (G := c.G) (F := F1) (ι := ι1) (lo := 0) (n := j.toNat)
    simpa using this
  · exact h2.elim
theorem range2_ok (x : XOk c C O k X W) {tg a b : Expr} {ma mb : M R} (hp : plainA a = true) (hp2 : plainA b = true) (hg : C.glb "range" = true) (h : PE X a (rdR c W ma)) (h' : PE X b (rdR c W mb)) : PI X tg (.Call (.Name "range" p1) [a, b] [] pos) (rdI c W (bnd ma fun r => bnd (asInt r) fun k => bnd mb fun r => bnd (asInt r) fun m => if k.natAbs < 4611686018427387904 ∧ m.natAbs < 4611686018427387904 then ret ((List.range (m - k).toNat).map fun (i : Nat) => .int (k + i)) else badM)) := by
  refine piM (pi_range2 (x.glb hg) (x.free _ (by decide +kernel)) (pa_cons h (pa_cons h' pa_nil (star_plain hp2)) (star_plain hp)) (by rw [star_plain hp, star_plain hp2]; rfl) (star_plain hp2)) fun σ H Q z => ?_
  obtain ⟨F, ι, e, s, hn, A, z⟩ := z
  refine ⟨F, ι, e, s, hn, A, z.split.imp fun r F1 ι1 H1 e1 s1 m1 p1 A1 h1 v hr => ?_⟩
  obtain ⟨j, rfl, rfl, h2⟩ := Fin.asInt h1 hr
  refine ⟨F1, ι1, e1, s1, hn, A1, h2.split.imp fun r F2 ι2 H2 e2 s2 m2 p2 A2 h3 v hr => ?_⟩
  obtain ⟨j2, rfl, rfl, h4⟩ := Fin.asInt h3 hr
  split at h4
  · rename_i hz
    exact ⟨j, j2, rfl, by omega, h4.ok A2 _ itr_ok⟩
  · exact h4.elim
theorem rel_seq {G : Gs} {v : V} {d : D} {ds : List D} (h : Rel G F ι v d) (e : seqD d = some ds) : ∃ k a xs, v = .ref a ∧ (∀ H1, Same F H1 → SqK k G.K H1 a xs) ∧ Rels G F ι xs ds := by
  cases d with
  | tup es =>
    cases e
    cases h with
    | tup h1 h2 => exact ⟨true, _, _, rfl, fun H1 m => sqT_mono m h1, h2⟩
  | lst es =>
    cases e
    cases h with
    | lst h1 h2 => exact ⟨false, _, _, rfl, fun H1 m => .inl (.inl (m _ _ h1)), h2⟩
  | _ => cases e
theorem itz2_ok {G : Gs} {k1 k2 : Bool} {a b : Addr} {xs ys : List V} {ds es : List D} (h : ∀ H1, Same F H1 → SqK k1 G.K H1 a xs) (hr : Rels G F ι xs ds) (h' : ∀ H1, Same F H1 → SqK k2 G.K H1 b ys) (hr' : Rels G F ι ys es) : ItOk G F ι (Itz2 k1 k2 G.K a b) (List.zipWith (fun x y => .tup [x, y]) ds es) := by
  intro F1 H1 i m1 m2
  have hq := h _ (m1.trans m2)
  have hq' := h' _ (m1.trans m2)
  rw [List.length_zipWith]
  refine ⟨fun hi => ?_, fun hi => ⟨xs, ys, hq, hq', by rw [hr.length, hr'.length]; omega⟩⟩
  have ha : ds[i]? = some (ds[i]'(by omega)) := List.getElem?_eq_getElem _
  have hb : es[i]? = some (es[i]'(by omega)) := List.getElem?_eq_getElem _
  obtain ⟨v, hv, rv⟩ := hr.get ha
  obtain ⟨w, hw, rw'⟩ := hr'.get hb
  refine ⟨⟨xs, ys, v, w, hq, hq', hv, hw⟩, fun x H' ⟨T, x', y', ex, hT, eH, g1, g2⟩ => ?_⟩
  subst ex
  subst eH
  have e1 := g1 xs hq
  have e2 := g2 ys hq'
  rw [hv] at e1
  rw [hw] at e2
  cases e1
  cases e2
  have g := Grow.frozen (o := .tup [v, w]) m2 hT
  refine ⟨_, .tup [ds[i]'(by omega), es[i]'(by omega)], ?_, g, .tup (.inl (.inl upd_same)) (.cons (rv.mono (m1.trans g.f) (Pre.refl _)) (.cons (rw'.mono (m1.trans g.f) (Pre.refl _)) .nil))⟩
  rw [List.getElem?_zipWith, ha, hb]
theorem itz3_ok {G : Gs} {k1 k2 k3 : Bool} {a b d : Addr} {xs ys zs : List V} {ds es fs : List D} (h : ∀ H1, Same F H1 → SqK k1 G.K H1 a xs) (hr : Rels G F ι xs ds) (h' : ∀ H1, Same F H1 → SqK k2 G.K H1 b ys) (hr' : Rels G F ι ys es) (h'' : ∀ H1, Same F H1 → SqK k3 G.K H1 d zs) (hr'' : Rels G F ι zs fs) : ItOk G F ι (Itz3 k1 k2 k3 G.K a b d) (zipL3 ds es fs) := by
  intro F1 H1 i m1 m2
  have hq := h _ (m1.trans m2)
  have hq' := h' _ (m1.trans m2)
  have hq'' := h'' _ (m1.trans m2)
  unfold zipL3
  rw [List.length_zipWith, List.length_zip]
  refine ⟨fun hi => ?_, fun hi => ⟨xs, ys, zs, hq, hq', hq'', by rw [hr.length, hr'.length, hr''.length]; omega⟩⟩
  have ha : ds[i]? = some (ds[i]'(by omega)) := List.getElem?_eq_getElem _
  have hb : es[i]? = some (es[i]'(by omega)) := List.getElem?_eq_getElem _
  have hd : fs[i]? = some (fs[i]'(by omega)) := List.getElem?_eq_getElem _
  obtain ⟨v, hv, rv⟩ := hr.get ha
  obtain ⟨w, hw, rw'⟩ := hr'.get hb
  obtain ⟨u, hu, ru⟩ := hr''.get hd
  refine ⟨⟨xs, ys, zs, v, w, u, hq, hq', hq'', hv, hw, hu⟩, fun x H' ⟨T, x', y', z', ex, hT, eH, g1, g2, g3⟩ => ?_⟩
  subst ex
  subst eH
  have e1 := g1 xs hq
  have e2 := g2 ys hq'
  have e3 := g3 zs hq''
  rw [hv] at e1
  rw [hw] at e2
  rw [hu] at e3
  cases e1
  cases e2
  cases e3
  have g := Grow.frozen (o := .tup [v, w, u]) m2 hT
  refine ⟨_, .tup [ds[i]'(by omega), es[i]'(by omega), fs[i]'(by omega)], ?_, g, .tup (.inl (.inl upd_same)) (.cons (rv.mono (m1.trans g.f) (Pre.refl _)) (.cons (rw'.mono (m1.trans g.f) (Pre.refl _)) (.cons (ru.mono (m1.trans g.f) (Pre.refl _)) .nil)))⟩
  rw [List.getElem?_zipWith, ha, List.getElem?_eq_getElem (l := es.zip fs) (by rw [List.length_zip]; omega), List.getElem_zip]
theorem zip_ok (x : XOk c C O k X W) {es : List Expr} {kk : Nat} {a b : Expr} {ma mb : M R} (hp : plainA a = true) (hp2 : plainA b = true) (hg : C.glb "zip" = true) (h : PE X a (rdR c W ma)) (h' : PE X b (rdR c W mb)) : PI X (.Tuple es kk p2) (.Call (.Name "zip" p1) [a, b] [] pos)
    (rdI c W (bnd ma fun r => bnd (frz r) fun x => bnd mb fun r => bnd (frz r) fun y => match seqD x, seqD y with
      | some xs, some ys => ret (List.zipWith (fun x y => .tup [x, y]) xs ys)
      | _, _ => badM)) := by
  refine piM (pi_zip2 (x.glb hg) (x.free _ (by decide +kernel)) (pa_cons h (pa_cons h' pa_nil (star_plain hp2)) (star_plain hp)) (star_plain hp) (nostar (by simp [plainAs, hp2]))) fun σ H Q z => ?_
  obtain ⟨F, ι, e, s, hn, A, z⟩ := z
  refine ⟨F, ι, e, s, hn, A, z.split.imp fun r F1 ι1 H1 e1 s1 m1 p1 A1 h1 v hr => ?_⟩
  obtain ⟨F2, d, m2, A2, hd, q⟩ := Fin.frz A1 h1.split hr
  refine ⟨F2, ι1, e1, s1, hn, A2, q.split.imp fun r F3 ι3 H3 e3 s3 m3 p3 A3 h3 w hw => ?_⟩
  obtain ⟨F4, d4, m4, A4, hd4, q4⟩ := Fin.frz A3 h3.split hw
  have hd' := hd.mono (m3.trans m4) p3
  rw [x.K]
  cases e1 : seqD d with
  | none => rw [e1] at q4; exact q4.elim
  | some xs =>
    cases e2 : seqD d4 with
    | none => rw [e1, e2] at q4; exact q4.elim
    | some ys =>
      rw [e1, e2] at q4
      obtain ⟨k1, a1, us, rfl, g1, g2⟩ := rel_seq hd' e1
      obtain ⟨k2, a2, vs, rfl, g3, g4⟩ := rel_seq hd4 e2
      exact ⟨_, _, us, vs, k1, k2, rfl, g1 _ A4.le, g3 _ A4.le, q4.ok A4 _ (itz2_ok g1 g2 g3 g4)⟩
theorem zip3_ok (x : XOk c C O k X W) {es : List Expr} {kk : Nat} {a b b2 : Expr} {ma mb mc : M R} (hp : plainA a = true) (hp2 : plainA b = true) (hp3 : plainA b2 = true) (hg : C.glb "zip" = true) (h : PE X a (rdR c W ma)) (h' : PE X b (rdR c W mb)) (h'' : PE X b2 (rdR c W mc)) : PI X (.Tuple es kk p2) (.Call (.Name "zip" p1) [a, b, b2] [] pos)
    (rdI c W (bnd ma fun r => bnd (frz r) fun x => bnd mb fun r => bnd (frz r) fun y => bnd mc fun r => bnd (frz r) fun z => match seqD x, seqD y, seqD z with
      | some xs, some ys, some zs => ret (zipL3 xs ys zs)
      | _, _, _ => badM)) := by
  refine piM (pi_zip3 (x.glb hg) (x.free _ (by decide +kernel)) (pa_cons h (pa_cons h' (pa_cons h'' pa_nil (star_plain hp3)) (star_plain hp2)) (star_plain hp)) (star_plain hp) (nostar (by simp [plainAs, hp2, hp3]))) fun σ H Q z => ?_
  obtain ⟨F, ι, e, s, hn, A, z⟩ := z
  refine ⟨F, ι, e, s, hn, A, z.split.imp fun r F1 ι1 H1 e1 s1 m1 p1 A1 h1 v hr => ?_⟩
  obtain ⟨F2, d, m2, A2, hd, q⟩ := Fin.frz A1 h1.split hr
  refine ⟨F2, ι1, e1, s1, hn, A2, q.split.imp fun r F3 ι3 H3 e3 s3 m3 p3 A3 h3 w hw => ?_⟩
  obtain ⟨F4, d4, m4, A4, hd4, q4⟩ := Fin.frz A3 h3.split hw
  refine ⟨F4, ι3, e3, s3, hn, A4, q4.split.imp fun r F5 ι5 H5 e5 s5 m5 p5 A5 h5 w5 hw5 => ?_⟩
  obtain ⟨F6, d6, m6, A6, hd6, q6⟩ := Fin.frz A5 h5.split hw5
  have hd' := hd.mono (((m3.trans m4).trans m5).trans m6) (p3.trans p5)
  have hd4' := hd4.mono (m5.trans m6) p5
  rw [x.K]
  cases e1 : seqD d with
  | none => rw [e1] at q6; exact q6.elim
  | some xs =>
    cases e2 : seqD d4 with
    | none => rw [e1, e2] at q6; exact q6.elim
    | some ys =>
      cases e3 : seqD d6 with
      | none => rw [e1, e2, e3] at q6; exact q6.elim
      | some zs =>
        rw [e1, e2, e3] at q6
        obtain ⟨k1, a1, us, rfl, g1, g2⟩ := rel_seq hd' e1
        obtain ⟨k2, a2, vs, rfl, g3, g4⟩ := rel_seq hd4' e2
        obtain ⟨k3, a3, ws, rfl, g5, g6⟩ := rel_seq hd6 e3
        exact ⟨_, _, _, us, vs, ws, k1, k2, k3, rfl, g1 _ A6.le, g3 _ A6.le, g5 _ A6.le, q6.ok A6 _ (itz3_ok g1 g2 g3 g4 g5 g6)⟩
theorem ite_ok {G : Gs} {a : Addr} {xs : List V} {ds : List D} (h : F a = some (.lst xs)) (hr : Rels G F ι xs ds) : ItOk G F ι (Ite G.K a) (List.zipWith (fun (i : Nat) x => .tup [.int i, x]) (List.range ds.length) ds) := by
  intro F1 H1 i m1 m2
  have hq : SqL G.K H1 a xs := .inl (.inl (m2 _ _ (m1 _ _ h)))
  rw [List.length_zipWith, List.length_range, Nat.min_self]
  refine ⟨fun hi => ?_, fun hi => ⟨xs, hq, by rw [hr.length]; omega⟩⟩
  have ha : ds[i]? = some (ds[i]'(by omega)) := List.getElem?_eq_getElem _
  obtain ⟨v, hv, rv⟩ := hr.get ha
  refine ⟨⟨xs, v, hq, hv⟩, fun x H' ⟨T, x', ex, hT, eH, g1⟩ => ?_⟩
  subst ex
  subst eH
  have e1 := g1 xs hq
  rw [hv] at e1
  cases e1
  have g := Grow.frozen (o := .tup [.int (i : Nat), v]) m2 hT
  refine ⟨_, .tup [.int i, ds[i]'(by omega)], ?_, g, .tup (.inl (.inl upd_same)) (.cons (.int _) (.cons (rv.mono (m1.trans g.f) (Pre.refl _)) .nil))⟩
  rw [List.getElem?_zipWith, ha, List.getElem?_range hi]
theorem iteT_ok {G : Gs} {a : Addr} {xs : List V} {ds : List D} (h : SqT G.K F a xs) (hr : Rels G F ι xs ds) : ItOk G F ι (IteT G.K a) (List.zipWith (fun (i : Nat) x => .tup [.int i, x]) (List.range ds.length) ds) := by
  intro F1 H1 i m1 m2
  have hq : SqT G.K H1 a xs := sqT_mono (m1.trans m2) h
  rw [List.length_zipWith, List.length_range, Nat.min_self]
  refine ⟨fun hi => ?_, fun hi => ⟨xs, hq, by rw [hr.length]; omega⟩⟩
  have ha : ds[i]? = some (ds[i]'(by omega)) := List.getElem?_eq_getElem _
  obtain ⟨v, hv, rv⟩ := hr.get ha
  refine ⟨⟨xs, v, hq, hv⟩, fun x H' ⟨T, x', ex, hT, eH, g1⟩ => ?_⟩
  subst ex
  subst eH
  have e1 := g1 xs hq
  rw [hv] at e1
  cases e1
  have g := Grow.frozen (o := .tup [.int (i : Nat), v]) m2 hT
  refine ⟨_, .tup [.int i, ds[i]'(by omega)], ?_, g, .tup (.inl (.inl upd_same)) (.cons (.int _) (.cons (rv.mono (m1.trans g.f) (Pre.refl _)) .nil))⟩
  rw [List.getElem?_zipWith, ha, List.getElem?_range hi]
theorem enum_ok (x : XOk c C O k X W) {es : List Expr} {kk : Nat} {a : Expr} {ma : M R} (hp : plainA a = true) (hg : C.glb "enumerate" = true) (h : PE X a (rdR c W ma)) : PI X (.Tuple es kk p2) (.Call (.Name "enumerate" p1) [a] [] pos)
    (rdI c W (bnd ma fun r => bnd (frz r) fun d => match d with
      | .tup ds => ret (List.zipWith (fun (i : Nat) x => .tup [.int i, x]) (List.range ds.length) ds)
      | .lst ds => ret (List.zipWith (fun (i : Nat) x => .tup [.int i, x]) (List.range ds.length) ds)
      | _ => badM)) := by
  refine piM (pi_enumA (x.glb hg) (x.free _ (by decide +kernel)) (pa_cons h pa_nil (star_plain hp)) (star_plain hp)) fun σ H Q z => ?_
  obtain ⟨F, ι, e, s, hn, A, z⟩ := z
  refine ⟨F, ι, e, s, hn, A, z.split.imp fun r F1 ι1 H1 e1 s1 m1 p1 A1 h1 v hr => ?_⟩
  obtain ⟨F2, d, m2, A2, hd, q⟩ := Fin.frz A1 h1.split hr
  rw [x.K]
  cases d with
  | tup ds =>
    cases hd with
    | tup h hs => exact ⟨_, _, rfl, .inr ⟨sqT_mono A2.le h, q.ok A2 _ (iteT_ok h hs)⟩⟩
  | lst ds =>
    cases hd with
    | lst h hs => exact ⟨_, _, rfl, .inl ⟨.inl (.inl (A2.le _ _ h)), q.ok A2 _ (ite_ok h hs)⟩⟩
  | _ => exact q.elim
theorem tst_val {a : Expr} {m : M R} (h : PE X a (rdR c W m)) (he : ∀ whole, isTrue a X.env whole = (do let v ← whole; standAt a.pos; holding [v] (truthy v))) : PT X a (rdB c W (bnd m asBl)) := by
  refine ptM (pt_val h he) fun σ H Q z => ?_
  obtain ⟨F, ι, e, s, hn, A, z⟩ := z
  refine ⟨F, ι, e, s, hn, A, z.split.imp fun r F1 ι1 H1 e1 s1 m1 p1 A1 h1 v hr => ?_⟩
  unfold asBl at h1
  split at h1
  · cases hr
    exact ⟨_, rfl, h1.ok A1⟩
  · exact h1.elim
theorem tst_cmp (x : XOk c C O k X W) {op : CmpOp} {a b : Expr} {ma mb : M Ar} (hm : opsOk op b = true) (ha : PE X a (rdA c W ma)) (hb : PE X b (rdA c W mb)) : PT X (.Compare a [op] [b] pos) (rdB c W (bnd (bnd ma fun x => bnd mb fun y => prim2 (fun x y => blR (cmpD op x y)) x y) asBl)) := by
  refine ptM (pt_cmpR (cmpOp (G := c.G) x.K x.hu op) ha hb (by simpa [opsOk] using hm)) fun σ H Q z => ?_
  obtain ⟨F, ι, e, s, hn, A, z⟩ := z
  refine rd2 (Q := fun x H' => ∃ k, x = .bl k ∧ Q k H') ⟨F, ι, e, s, hn, A, z.split.imp fun r F1 ι1 H1 e1 s1 m1 p1 A1 h1 v hr => ?_⟩ fun _ _ _ _ q => q
  unfold asBl at h1
  split at h1
  · cases hr
    exact ⟨_, rfl, h1.ok A1⟩
  · exact h1.elim
end
end Mi
namespace Mi
open PySem PySem.Spec PyProof.Rows L2
section
variable {c : Act} {C : CC} {O : Orc} {k : Nat} {X : Cx} {W : Wh} {σ : L2.St} {F F' : Hp} {ι ι' : List Addr} {H H' : Hp} {e : Ev} {s : Sto} {pos p1 p2 : Pos}
def gT (G : Gs) (n : Nat) (t : T) : TG := fun v σ H Q => ∃ (c : Act) (F : Hp) (ι : List Addr) (e : Ev) (s : Sto) (d : D) (e' : Ev), c.G = G ∧ c.n = n ∧ σ.length = n ∧ Abs c F ι σ H e s ∧ Rel G F ι v d ∧ asgT t d e s = .ok () e' s ∧
  ∀ σ', σ'.length = σ.length → (∀ j, j ∉ slotsT t → σ'[j]? = σ[j]?) → Abs c F ι σ' H e' s → Q σ' H
def gTs (G : Gs) (n : Nat) (ts : List T) : TGs := fun vs σ H Q => ∃ (c : Act) (F : Hp) (ι : List Addr) (e : Ev) (s : Sto) (ds : List D) (e' : Ev), c.G = G ∧ c.n = n ∧ σ.length = n ∧ Abs c F ι σ H e s ∧ Rels G F ι vs ds ∧ asgTs ts ds e s = .ok () e' s ∧
  ∀ σ', σ'.length = σ.length → (∀ j, j ∉ slotsTs ts → σ'[j]? = σ[j]?) → Abs c F ι σ' H e' s → Q σ' H
theorem pgM {tg : Expr} {t t' : TG} (h : PG X tg t) (m : ∀ v σ H Q, t' v σ H Q → t v σ H Q) : PG X tg t' := ⟨fun pins s σ H v u Q I r z => h.run pins s σ H v u Q I r (m v σ H Q z)⟩
theorem pgsM {tg : List Expr} {t t' : TGs} (h : PGs X tg t) (m : ∀ v σ H Q, t' v σ H Q → t v σ H Q) : PGs X tg t' := ⟨fun pins s σ H v u Q I r z => h.run pins s σ H v u Q I r (m v σ H Q z)⟩
theorem pg_or {tg : Expr} {t t' : TG} (h : PG X tg t) (h' : PG X tg t') : PG X tg (fun v σ H Q => t v σ H Q ∨ t' v σ H Q) := ⟨fun pins s σ H v u Q I r z => z.elim (h.run pins s σ H v u Q I r) (h'.run pins s σ H v u Q I r)⟩
theorem asgTs_len : ∀ {ts : List T} {ds : List D} {e e' : Ev} {s s' : Sto}, asgTs ts ds e s = .ok () e' s' → ds.length = ts.length
  | [], [], _, _, _, _, _ => rfl
  | t :: ts, d :: ds, e, e', s, s', h => by
    unfold asgTs bnd at h
    cases h1 : asgT t d e s with
    | ok a e1 s1 => rw [h1] at h; simp [asgTs_len h]
    | exc g e1 s1 => rw [h1] at h; cases h
    | bad => rw [h1] at h; cases h
  | [], _ :: _, _, _, _, _, h => by simp [asgTs, badM] at h
  | _ :: _, [], _, _, _, _, h => by simp [asgTs, badM] at h
mutual
theorem asgT_sto : ∀ {t : T} {d : D} {e e' : Ev} {s s' : Sto}, asgT t d e s = .ok () e' s' → s' = s
  | .name i, d, e, e', s, s', h => by simp only [asgT] at h; cases h; rfl
  | .tup ts, d, e, e', s, s', h => by
    cases d with
    | tup ds => exact asgTs_sto (by simpa [asgT] using h)
    | lst ds => exact asgTs_sto (by simpa [asgT] using h)
    | _ => simp [asgT, badM] at h
theorem asgTs_sto : ∀ {ts : List T} {ds : List D} {e e' : Ev} {s s' : Sto}, asgTs ts ds e s = .ok () e' s' → s' = s
  | [], [], _, _, _, _, h => by simp only [asgTs, ret] at h; cases h; rfl
  | t :: ts, d :: ds, e, e', s, s', h => by
    unfold asgTs bnd at h
    cases h1 : asgT t d e s with
    | ok a e1 s1 =>
      rw [h1] at h
      rw [asgTs_sto h, asgT_sto h1]
    | exc g e1 s1 => rw [h1] at h; cases h
    | bad => rw [h1] at h; cases h
  | [], _ :: _, _, _, _, _, h => by simp [asgTs, badM] at h
  | _ :: _, [], _, _, _, _, h => by simp [asgTs, badM] at h
end
theorem tgt_plain : ∀ {ts : List T} {es : List Expr}, chkTs C ts es = true → (assignEach es X.env).findIdx? (·.1) = none ∧ (assignEach es X.env).length = ts.length
  | [], [], _ => ⟨rfl, rfl⟩
  | t :: ts, a :: as, h => by
    simp only [chkTs, Bool.and_eq_true] at h
    obtain ⟨h1, h2⟩ := tgt_plain h.2
    have e1 : assignEach (a :: as) X.env = (false, assign a X.env) :: assignEach as X.env := by
      have := h.1.1
      cases a <;> first | rfl | simp [plainA] at this
    rw [e1]
    exact ⟨by simp [List.findIdx?_cons, h1], by simp [h2]⟩
  | [], _ :: _, h => by simp [chkTs] at h
  | _ :: _, [], h => by simp [chkTs] at h
mutual
theorem tgt_ok (x : XOk c C O k X W) : ∀ {t : T} {a : Expr}, chkT C t a = true → PG X a (gT c.G c.n t)
  | .name i, a, h => by
    cases a
    all_goals first | (simp [chkT] at h; done) | skip
    rename_i y p
    simp only [chkT, Bool.and_eq_true] at h
    obtain ⟨w1, w2⟩ := x.wr y h.2
    refine pgM (pg_name (by rw [x.N]; exact x.nd) (x.slot h.1) w1 w2) fun v σ H Q z => ?_
    obtain ⟨c', F, ι, e, s, d, e', hG, hn, hl, A, r, ha, q⟩ := z
    simp only [asgT] at ha
    cases ha
    refine q (σ.set i (some v)) (by simp) (fun j hj => ?_) (A.setVal (by rw [hG]; exact r))
    rw [List.getElem?_set_ne]
    intro z
    exact hj (by simp [slotsT, z])
  | .tup ts, a, h => by
    cases a
    all_goals first | (simp [chkT] at h; done) | skip
    rename_i es j p
    have hts : chkTs C ts es = true := by simpa [chkT] using h
    obtain ⟨h1, h2⟩ := tgt_plain (X := X) hts
    have P := tgts_ok x hts
    refine pgM (pg_or (pg_tup x.calm P h2 h1) (pg_lst x.calm P h2 h1)) fun v σ H Q z => ?_
    obtain ⟨c', F, ι, e, s, d, e', hG, hn, hl, A, r, ha, q⟩ := z
    rw [x.K]
    cases d with
    | tup ds =>
      cases r with
      | tup g1 g2 =>
        have ha' : asgTs ts ds e s = .ok () e' s := by simpa [asgT] using ha
        exact .inl ⟨_, _, rfl, sqT_mono A.le g1, by rw [g2.length]; exact asgTs_len ha', c', F, ι, e, s, ds, e', hG, hn, hl, A, g2, ha', fun σ' l1 l2 => q σ' l1 (by simpa [slotsT] using l2)⟩
    | lst ds =>
      cases r with
      | lst g1 g2 =>
        have ha' : asgTs ts ds e s = .ok () e' s := by simpa [asgT] using ha
        exact .inr ⟨_, _, rfl, .inl (.inl (A.le _ _ g1)), by rw [g2.length]; exact asgTs_len ha', c', F, ι, e, s, ds, e', hG, hn, hl, A, g2, ha', fun σ' l1 l2 => q σ' l1 (by simpa [slotsT] using l2)⟩
    | _ => simp [asgT, badM] at ha
theorem tgts_ok (x : XOk c C O k X W) : ∀ {ts : List T} {es : List Expr}, chkTs C ts es = true → PGs X es (gTs c.G c.n ts)
  | [], [], _ => by
    refine pgsM pgs_nil fun v σ H Q z => ?_
    obtain ⟨c', F, ι, e, s, d, e', hG, hn, hl, A, r, ha, q⟩ := z
    cases d with
    | nil =>
      cases r
      simp only [asgTs, ret] at ha
      cases ha
      exact ⟨rfl, q σ rfl (fun _ _ => rfl) A⟩
    | cons _ _ => simp [asgTs, badM] at ha
  | t :: ts, a :: as, h => by
    simp only [chkTs, Bool.and_eq_true] at h
    have e1 : assignEach (a :: as) X.env = (false, assign a X.env) :: assignEach as X.env := by
      have := h.1.1
      cases a <;> first | rfl | simp [plainA] at this
    refine pgsM (pgs_cons (tgt_ok x h.1.2) (tgts_ok x h.2) (by rw [e1]; rfl)) fun v σ H Q z => ?_
    obtain ⟨c', F, ι, e, s, d, e', hG, hn, hl, A, r, ha, q⟩ := z
    cases r with
    | nil => simp [asgTs, badM] at ha
    | cons r rs =>
      rename_i v vs d ds
      unfold asgTs bnd at ha
      cases h1 : asgT t d e s with
      | ok u e2 s2 =>
        rw [h1] at ha
        have es2 := asgT_sto h1
        subst es2
        refine ⟨v, vs, rfl, c', F, ι, e, s2, d, e2, hG, hn, hl, A, r, h1, fun σ1 l1 l2 A1 => ?_⟩
        refine ⟨c', F, ι, e2, s2, ds, e', hG, hn, by rw [l1, hl], A1, rs, ha, fun σ2 l3 l4 A2 => q σ2 (by rw [l3, l1]) (fun j hj => ?_) A2⟩
        simp only [slotsTs, List.mem_append, not_or] at hj
        rw [l4 j hj.2, l2 j hj.1]
      | exc g e2 s2 => rw [h1] at ha; cases ha
      | bad => rw [h1] at ha; cases ha
  | [], _ :: _, h => by simp [chkTs] at h
  | _ :: _, [], h => by simp [chkTs] at h
end
def Act.hold (c : Act) (p : Addr) (u : HO) : Act := { c with H0 := upd c.H0 p u }
structure Apart (c : Act) (F : Hp) (ι : List Addr) (vs : List (Option V)) (e : Ev) (p : Addr) : Prop where
  h0 : c.H0 p = none
  f : F p = none
  i : p ∉ ι
  o : ¬ Owned vs e p
theorem Abs.hold {vs : List (Option V)} {p : Addr} {u : HO} (A : Abs c F ι vs H e s) (a : Apart c F ι vs e p) (hp : H p = some u) : Abs (c.hold p u) F ι vs H e s := by
  refine { A with new := fun b o h => ?_, inew := fun b h => ?_, keep := fun b o h n => ?_, own := fun j o h => ?_ }
  · rcases A.new b o h with q | q
    · exact .inl q
    · exact .inr (show upd c.H0 p u b = none by rw [upd_ne (ne_of_none h a.f)]; exact q)
  · rcases A.inew b h with q | q
    · exact .inl q
    · exact .inr (show upd c.H0 p u b = none by
        rw [upd_ne (fun z => a.i (by rw [← z]; exact h))]; exact q)
  · have h' : upd c.H0 p u b = some o := h
    by_cases z : b = p
    · subst z
      rw [upd_same] at h'
      cases h'
      exact hp
    · rw [upd_ne z] at h'
      exact A.keep b o h' n
  · obtain ⟨b, h1, h2, h3, h4, h5⟩ := A.own j o h
    refine ⟨b, h1, h2, h3, h4, ?_⟩
    show upd c.H0 p u b = none
    rw [upd_ne (fun z => a.o ⟨j, o, h, by rw [← z]; exact h1⟩)]
    exact h5
theorem Abs.unhold {vs : List (Option V)} {p : Addr} {u : HO} (A : Abs (c.hold p u) F ι vs H e s) (h0 : c.H0 p = none) (f0 : c.F0 p = none) (i0 : p ∉ c.ι0) : Abs c F ι vs H e s ∧ Apart c F ι vs e p ∧ H p = some u := by
  have back : ∀ {b : Addr}, upd c.H0 p u b = none → b ≠ p ∧ c.H0 b = none := fun {b} h => by
    by_cases z : b = p
    · subst z; rw [upd_same] at h; cases h
    · rw [upd_ne z] at h; exact ⟨z, h⟩
  have hp : H p = some u := A.keep p _ (show upd c.H0 p u p = _ from upd_same) i0
  refine ⟨{ A with new := fun b o h => ?_, inew := fun b h => ?_, keep := fun b o h n => ?_, own := fun j o h => ?_ }, ⟨h0, ?_, ?_, ?_⟩, hp⟩
  · rcases A.new b o h with q | q
    · exact .inl q
    · exact .inr (back q).2
  · rcases A.inew b h with q | q
    · exact .inl q
    · exact .inr (back q).2
  · refine A.keep b o ?_ n
    show upd c.H0 p u b = some o
    rw [upd_ne (ne_of_none h h0)]
    exact h
  · obtain ⟨b, h1, h2, h3, h4, h5⟩ := A.own j o h
    exact ⟨b, h1, h2, h3, h4, (back h5).2⟩
  · cases z : F p with
    | none => rfl
    | some o =>
      rcases A.new p o z with q | q
      · have q' : c.F0 p = some o := q
        rw [f0] at q'; cases q'
      · exact absurd rfl (back q).1
  · intro z
    rcases A.inew p z with q | q
    · exact i0 q
    · exact absurd rfl (back q).1
  · rintro ⟨j, o, h1, h2⟩
    obtain ⟨b, k1, k2, k3, k4, k5⟩ := A.own j o h1
    rw [h2] at k1
    cases k1
    exact absurd rfl (back k5).1
theorem Abs.updApart {vs : List (Option V)} {p : Addr} {u : HO} (A : Abs c F ι vs H e s) (a : Apart c F ι vs e p) : Abs c F ι vs (upd H p u) e s := by
  refine { A with le := fun b o h => ?_, keep := fun b o h n => ?_, objs := fun i b o h1 h2 => ?_, own := fun j o h => ?_ }
  · rw [upd_ne (ne_of_none h a.f)]; exact A.le b o h
  · rw [upd_ne (ne_of_none h a.h0)]; exact A.keep b o h n
  · refine (A.objs i b o h1 h2).mono (Same.refl _) (Pre.refl _) fun w hw => ?_
    rw [upd_ne (fun z => a.i (by rw [← z]; exact List.mem_of_getElem? h1))]
    exact hw
  · obtain ⟨b, h1, h2, h3, h4, h5⟩ := A.own j o h
    refine ⟨b, h1, h2.mono (Same.refl _) (Pre.refl _) fun w hw => ?_, h3, h4, h5⟩
    rw [upd_ne (fun z => a.o ⟨j, o, h, by rw [← z]; exact h1⟩)]
    exact hw
theorem Abs.newApart {vs : List (Option V)} {p : Addr} (A : Abs c F ι vs H e s) (hp : H p = none) : Apart c F ι vs e p := by
  obtain ⟨q1, q2, q3, q4⟩ := A.fresh hp
  exact ⟨q1, q2, q3, q4⟩
theorem wipeE_len : ∀ (e : Ev) (vs : List Nat), (wipeE e vs).length = e.length
  | _, [] => rfl
  | e, v :: vs => by simp [wipeE, wipeE_len e vs]
theorem Abs.wipe {vs : List (Option V)} (A : Abs c F ι vs H e s) : ∀ own : List Nat, Abs c F ι (L2.wipe vs own) H (wipeE e own) s
  | [] => A
  | v :: own => (A.wipe own).setNone v
theorem wipeE_in {e : Ev} {j : Nat} : ∀ {vs : List Nat}, j ∈ vs → j < e.length → (wipeE e vs)[j]? = some none
  | [], h, _ => by cases h
  | v :: vs, h, hl => by
    unfold wipeE
    by_cases z : v = j
    · subst z; rw [List.getElem?_set_self (by rw [wipeE_len]; exact hl)]
    · rw [List.getElem?_set_ne z]
      exact wipeE_in ((List.mem_cons.mp h).resolve_left (Ne.symm z)) hl
theorem wipeE_out {e : Ev} {j : Nat} : ∀ {vs : List Nat}, j ∉ vs → (wipeE e vs)[j]? = e[j]?
  | [], _ => rfl
  | v :: vs, h => by
    unfold wipeE
    rw [List.getElem?_set_ne (fun z => h (by simp [z]))]
    exact wipeE_out fun z => h (List.mem_cons_of_mem _ z)
theorem restE_len (e0 : Ev) : ∀ (e : Ev) (vs : List Nat), (restE e0 e vs).length = e.length
  | _, [] => rfl
  | e, v :: vs => by simp [restE, restE_len e0 e vs]
theorem restE_in {e0 e : Ev} {j : Nat} {r : Option R} (hr : e0[j]? = some r) : ∀ {vs : List Nat}, j ∈ vs → j < e.length → (restE e0 e vs)[j]? = some r
  | [], h, _ => by cases h
  | v :: vs, h, hl => by
    unfold restE
    by_cases z : v = j
    · subst z
      rw [List.getElem?_set_self (by rw [restE_len]; exact hl), hr]
      rfl
    · rw [List.getElem?_set_ne z]
      exact restE_in hr ((List.mem_cons.mp h).resolve_left (Ne.symm z)) hl
theorem restE_out {e0 e : Ev} {j : Nat} : ∀ {vs : List Nat}, j ∉ vs → (restE e0 e vs)[j]? = e[j]?
  | [], _ => rfl
  | v :: vs, h => by
    unfold restE
    rw [List.getElem?_set_ne (fun z => h (by simp [z]))]
    exact restE_out fun z => h (List.mem_cons_of_mem _ z)
theorem wipe_in {σ : L2.St} {j : Nat} : ∀ {vs : List Nat}, j ∈ vs → j < σ.length → (L2.wipe σ vs)[j]? = some none
  | [], h, _ => by cases h
  | v :: vs, h, hl => by
    unfold L2.wipe
    by_cases z : v = j
    · subst z; rw [List.getElem?_set_self (by rw [wipe_length]; exact hl)]
    · rw [List.getElem?_set_ne z]
      exact wipe_in ((List.mem_cons.mp h).resolve_left (Ne.symm z)) hl
theorem wipe_eq {σ σ' : L2.St} {vs : List Nat} (hl : σ'.length = σ.length) (h : ∀ j, j ∉ vs → σ'[j]? = (L2.wipe σ vs)[j]?) : L2.wipe σ' vs = L2.wipe σ vs := by
  apply List.ext_getElem?
  intro j
  by_cases z : j ∈ vs
  · by_cases hj : j < σ.length
    · rw [wipe_in z (by rw [hl]; exact hj), wipe_in z hj]
    · rw [List.getElem?_eq_none (by rw [wipe_length, hl]; omega), List.getElem?_eq_none (by rw [wipe_length]; omega)]
  · rw [wipe_out z, h j z]
theorem noOwn_at {e : Ev} {vs : List Nat} (h : noOwn e vs = true) {j : Nat} (hj : j ∈ vs) : ∃ r, e[j]? = some r ∧ ∀ o, r ≠ some (.new o) := by
  unfold noOwn at h
  have := List.all_eq_true.mp h j hj
  split at this
  · cases this
  · rename_i z hz he
    exact ⟨z, he, fun o q => hz o q⟩
  · cases this
theorem Abs.restore {e0 : Ev} {s0 : Sto} {F0 H1 : Hp} {ι0 : List Addr} {own : List Nat} (A : Abs c F0 ι0 σ H1 e0 s0) (no : noOwn e0 own = true) (B : Abs c F ι (L2.wipe σ own) H (wipeE e own) s) (m : Same F0 F) (p : Pre ι0 ι) : Abs c F ι σ H (restE e0 e own) s := by
  have hl : σ.length = e.length := by have := B.len; rw [wipe_length, wipeE_len] at this; exact this
  have l0 := A.len
  have inn : ∀ {j r}, j ∈ own → (restE e0 e own)[j]? = some (some r) → e0[j]? = some (some r) ∧ ∀ o, r ≠ .new o := fun {j r} hj h => by
    obtain ⟨r', h1, h2⟩ := noOwn_at no hj
    rw [restE_in h1 hj (by rw [← hl, l0]; exact get_lt h1)] at h
    cases h
    exact ⟨h1, fun o z => h2 o (by rw [z])⟩
  have out : ∀ {j r}, j ∉ own → (restE e0 e own)[j]? = some (some r) → (wipeE e own)[j]? = some (some r) := fun {j r} hj h => by
    rw [restE_out hj] at h
    rw [wipeE_out hj]; exact h
  have vout : ∀ {j}, j ∉ own → (L2.wipe σ own)[j]? = σ[j]? := fun {j} hj => wipe_out hj
  refine { B with len := by rw [restE_len]; exact hl, val := fun j d h => ?_, own := fun j o h => ?_, ownnd := fun i j a pp q hij h1 h2 h3 h4 => ?_ }
  · by_cases hj : j ∈ own
    · obtain ⟨v, k1, k2⟩ := A.val j d (inn hj h).1
      exact ⟨v, k1, k2.mono m p⟩
    · obtain ⟨v, k1, k2⟩ := B.val j d (out hj h)
      rw [vout hj] at k1
      exact ⟨v, k1, k2⟩
  · by_cases hj : j ∈ own
    · exact absurd rfl ((inn hj h).2 o)
    · obtain ⟨a, k1, k2⟩ := B.own j o (out hj h)
      rw [vout hj] at k1
      exact ⟨a, k1, k2⟩
  · have hi : i ∉ own := fun z => (inn z h1).2 pp rfl
    have hj : j ∉ own := fun z => (inn z h2).2 q rfl
    exact B.ownnd i j a pp q hij (out hi h1) (out hj h2) (by rw [vout hi]; exact h3) (by rw [vout hj]; exact h4)
end
end Mi
namespace Mi
open PySem PySem.Spec PyProof.Rows L2
def noW : Wh := fun _ _ _ _ => False
theorem takes_no {X : Cx} : Takes X noW := fun u s' h => by
  obtain ⟨a, B, sI, pins, σ, H, cls, d, h⟩ := h
  exact h.2.2.2.2.2.2.2.2.elim
section
variable {c : Act} {C : CC} {O : Orc} {k : Nat} {X : Cx} {W : Wh} {σ : L2.St} {F F' : Hp} {ι ι' : List Addr} {H H' : Hp} {e : Ev} {s : Sto} {pos p1 p2 : Pos}
def bkR (G : Gs) (n : Nat) (m : M R) : TE := fun σ H Q => ∃ c : Act, (c.G = G ∧ c.n = n) ∧ rdR c noW m σ H Q
def bkB (G : Gs) (n : Nat) (m : M Bool) : TT := fun σ H Q => ∃ c : Act, (c.G = G ∧ c.n = n) ∧ rdB c noW m σ H Q
theorem bkR_ok {G : Gs} {n : Nat} {m : M R} {a : Expr} (h : ∀ c : Act, c.G = G ∧ c.n = n → PE X a (rdR c noW m)) : PE X a (bkR G n m) :=
  ⟨fun pins s σ H Q I ⟨c, hc, z⟩ => (h c hc).run pins s σ H Q I z⟩
theorem bkB_ok {G : Gs} {n : Nat} {m : M Bool} {a : Expr} (h : ∀ c : Act, c.G = G ∧ c.n = n → PT X a (rdB c noW m)) : PT X a (bkB G n m) :=
  ⟨fun pins s σ H Q I ⟨c, hc, z⟩ => (h c hc).run pins s σ H Q I z⟩
def turnM (tg : T) (mc : M Bool) (me : M R) (x : D) : M (Option D) := bnd (asgT tg x) fun _ => bnd mc fun b => match b with
  | true => bnd me fun r => bnd (frz r) fun d => ret (some d)
  | false => ret none
theorem noExc_ok {α : Type} {m : M α} {a : α} {e e' : Ev} {s s' : Sto} (h : noExc m e s = .ok a e' s') : m e s = .ok a e' s' := by
  unfold noExc at h
  split at h
  · cases h; assumption
  · cases h
theorem bind_ok {α β : Type} {o : Out α} {f : α → M β} {b : β} {e' : Ev} {s' : Sto} (h : o.bind f = .ok b e' s') : ∃ a e1 s1, o = .ok a e1 s1 ∧ f a e1 s1 = .ok b e' s' := by
  cases o with
  | ok a e1 s1 => exact ⟨a, e1, s1, rfl, h⟩
  | exc g e1 s1 => cases h
  | bad => cases h
theorem bnd_ok {α β : Type} {m : M α} {f : α → M β} {b : β} {e e' : Ev} {s s' : Sto} (h : bnd m f e s = .ok b e' s') : ∃ a e1 s1, m e s = .ok a e1 s1 ∧ f a e1 s1 = .ok b e' s' := bind_ok h
theorem compL_notexc {f : D → M (Option D)} {vs : List Nat} : ∀ {xs : List D} {e : Ev} {s : Sto} {g : Nat} {e' : Ev} {s' : Sto}, compL f vs xs e s ≠ .exc g e' s'
  | [], e, s, g, e', s', h => by cases h
  | x :: xs, e, s, g, e', s', h => by
    unfold compL at h
    cases h1 : noExc (f x) (wipeE e vs) s with
    | ok o e1 s1 =>
      rw [h1] at h
      simp only [Out.bind, bnd] at h
      cases h2 : compL f vs xs e1 s1 with
      | ok ds e2 s2 => rw [h2] at h; cases h
      | exc g e2 s2 => exact compL_notexc h2
      | bad => rw [h2] at h; cases h
    | exc g1 e1 s1 =>
      unfold noExc at h1
      split at h1 <;> cases h1
    | bad => rw [h1] at h; cases h
theorem comp_rd {mi : M (List D)} {tg : T} {mc : M Bool} {me : M R} {own : List Nat} {Q : VK} (hs : ∀ j ∈ slotsT tg, j ∈ own) (z : rdR c W (bnd mi fun items => compM (turnM tg mc me) own items) σ H Q) :
    tLc (rdI c W mi) (gT c.G c.n tg) (bkB c.G c.n mc) (bkR c.G c.n me) own σ H Q := by
  obtain ⟨F, ι, e, s, hn, A, z⟩ := z
  refine ⟨F, ι, e, s, hn, A, z.split.imp fun items F1 ι1 H1 e1 s1 m1 p1 A1 z1 J hJ => ?_⟩
  unfold compM at z1
  split at z1
  rotate_left
  · exact z1.elim
  rename_i hc
  simp only [Bool.and_eq_true, decide_eq_true_eq] at hc
  obtain ⟨no, hlen⟩ := hc
  cases hr : compL (turnM tg mc me) own items e1 s1 with
  | exc g e2 s2 => exact absurd hr compL_notexc
  | bad => rw [hr] at z1; exact z1.elim
  | ok ds eE sE =>
  rw [hr] at z1
  have fin : ∀ F' ι' H', Same F1 F' → Pre ι1 ι' → Abs c F' ι' σ H' (restE e1 eE own) sE → ∀ v, RelR c F' ι' σ H' (restE e1 eE own) v (.new (.lst ds)) → Q v H' := z1
  intro p hp
  have ap0 := A1.newApart hp
  have f00 : c.F0 p = none := by
    cases q : c.F0 p with
    | none => rfl
    | some w => have := A1.le _ _ (A1.le0 _ _ q); rw [hp] at this; cases this
  have i00 : p ∉ c.ι0 := fun q => by
    obtain ⟨i, hi, e2⟩ := List.mem_iff_getElem.mp q
    exact ap0.i (List.mem_of_getElem? (A1.pre i p (by rw [List.getElem?_eq_getElem hi, e2])))
  let W' : Nat → Nat → Hp → Prop := fun i m H2 => ∃ (acc : List D) (xs : List V) (F2 : Hp) (ι2 : List Addr) (e2 : Ev) (s2 : Sto) (rest : List D), m = items.length - i ∧ i ≤ items.length ∧ Same F1 F2 ∧ Pre ι1 ι2 ∧
    Abs (c.hold p (.lst xs)) F2 ι2 (L2.wipe σ own) H2 (wipeE e2 own) s2 ∧ Rels c.G F2 ι2 xs acc ∧ compL (turnM tg mc me) own (items.drop i) e2 s2 = .ok rest eE sE ∧ acc ++ rest = ds ∧ acc.length ≤ i
  refine ⟨W', ⟨items.length, [], [], F1, ι1, e1, s1, ds, by simp, Nat.zero_le _, Same.refl _, Pre.refl _, ?_, .nil, by simpa using hr, rfl, Nat.le_refl _⟩, ?_⟩
  · have B := (A1.updApart (u := .lst []) ap0).wipe own
    have g : Grow F1 H1 F1 (upd H1 p (.lst [])) := .fresh A1.le hp
    refine B.hold ⟨ap0.h0, ap0.f, ap0.i, fun ⟨j, o, k1, k2⟩ => ?_⟩ upd_same
    by_cases hj : j ∈ own
    · rw [wipeE_in hj (by have := get_lt k1; rw [wipeE_len] at this; exact this)] at k1
      cases k1
    · rw [wipeE_out hj] at k1
      rw [wipe_out hj] at k2
      exact ap0.o ⟨j, o, k1, k2⟩
  · rintro i m H2 ⟨acc, xs, F2, ι2, e2, s2, rest, rfl, hi, m2, p2, A2, ra, hrun, hds, hal⟩
    obtain ⟨B2, ap2, hp2⟩ := A2.unhold ap0.h0 f00 i00
    have JJ := hJ F2 H2 i m2 A2.le
    by_cases hlt : i < items.length
    · refine .inr ⟨(JJ.1 hlt).1, fun H' => ∃ m', m' < items.length - i ∧ W' (i + 1) m' H', fun H' h => h, fun x H3 hy => ?_⟩
      obtain ⟨F3, d, hd, g3, rd⟩ := (JJ.1 hlt).2 x H3 hy
      have hdrop : items.drop i = d :: items.drop (i + 1) := by
        rw [List.drop_eq_getElem_cons hlt]
        rw [List.getElem?_eq_getElem hlt] at hd
        cases hd
        rfl
      rw [hdrop] at hrun
      unfold compL at hrun
      obtain ⟨o, e4, s4, ho, hrun2⟩ := bind_ok hrun
      obtain ⟨rest2, e5, s5, hrest, hret⟩ := bnd_ok hrun2
      cases hret
      have hf := noExc_ok ho
      unfold turnM at hf
      obtain ⟨u, eA, sA, hA, hf⟩ := bnd_ok hf
      obtain ⟨b, eB, sB, hB, hf⟩ := bnd_ok hf
      have esA := asgT_sto hA
      subst esA
      have A3 := A2.grow g3
      refine ⟨c.hold p (.lst xs), F3, ι2, wipeE e2 own, sA, d, eA, rfl, rfl, by rw [wipe_length]; exact hn, A3, rd.mono (Same.refl _) p2, hA, fun σ2 l2 q2 A4 => ⟨?_, ?_⟩⟩
      · have h1 : L2.wipe σ2 own = L2.wipe (L2.wipe σ own) own := by
          refine wipe_eq l2 fun j hj => ?_
          rw [wipe_out hj]
          exact q2 j fun z => hj (hs j z)
        have h2 : L2.wipe (L2.wipe σ own) own = L2.wipe σ own := wipe_eq (wipe_length _ _) fun j hj => rfl
        rw [h1, h2]
      · have ws : L2.wipe σ2 own = L2.wipe σ own := by
          have h1 : L2.wipe σ2 own = L2.wipe (L2.wipe σ own) own := by
            refine wipe_eq l2 fun j hj => ?_
            rw [wipe_out hj]
            exact q2 j fun z => hj (hs j z)
          have h2 : L2.wipe (L2.wipe σ own) own = L2.wipe σ own := wipe_eq (wipe_length _ _) fun j hj => rfl
          rw [h1, h2]
        have hn2 : σ2.length = (c.hold p (.lst xs)).n := by rw [l2, wipe_length]; exact hn
        refine ⟨c.hold p (.lst xs), ⟨rfl, rfl⟩, F3, ι2, eA, sA, hn2, A4, ?_⟩
        rw [hB]
        intro F5 ι5 H5 m5 p5 A5
        cases b with
        | false =>
          rw [if_neg Bool.false_ne_true]
          cases hf
          have A6 := A5.wipe own
          rw [ws] at A6
          refine ⟨items.length - (i + 1), by omega, acc, xs, F5, ι5, e4, s4, rest2, rfl, hlt, (m2.trans g3.f).trans m5, p2.trans p5, A6, ra.mono (g3.f.trans m5) p5, hrest, hds, by omega⟩
        | true =>
          rw [if_pos rfl]
          obtain ⟨r, eC, sC, hC, hf⟩ := bnd_ok hf
          refine ⟨c.hold p (.lst xs), ⟨rfl, rfl⟩, F5, ι5, eB, sB, hn2, A5, ?_⟩
          rw [hC]
          intro F6 ι6 H6 m6 p6 A6 y hy
          obtain ⟨d', eD, sD, hD, hf⟩ := bnd_ok hf
          unfold frz at hD
          split at hD
          rotate_left
          · cases hD
          rename_i hfl
          cases hD
          cases hf
          obtain ⟨F7, A7, m7, rd7⟩ := RelR.frz A6 hy hfl
          obtain ⟨B7, ap7, hp7⟩ := A7.unhold ap0.h0 f00 i00
          have ra7 : Rels c.G F7 ι6 xs acc := ra.mono ((g3.f.trans m5).trans (m6.trans m7)) (p5.trans p6)
          refine ⟨xs, hp7, by rw [ra7.length, line_eq]; omega, items.length - (i + 1), by omega, acc ++ [r.d], xs ++ [y], F7, ι6, e4, s4, rest2, rfl, hlt, ((m2.trans g3.f).trans m5).trans (m6.trans m7), (p2.trans p5).trans p6, ?_, ra7.append (.cons rd7 .nil), hrest, by rw [List.append_assoc]; exact hds, by simp; omega⟩
          have B8 := (B7.updApart (u := .lst (xs ++ [y])) ap7).wipe own
          rw [ws] at B8
          refine B8.hold ⟨ap7.h0, ap7.f, ap7.i, fun ⟨j, q, k1, k2⟩ => ?_⟩ upd_same
          by_cases hj : j ∈ own
          · rw [wipeE_in hj (by have := get_lt k1; rw [wipeE_len] at this; exact this)] at k1
            cases k1
          · rw [wipeE_out hj] at k1
            rw [← ws, wipe_out hj] at k2
            exact ap7.o ⟨j, q, k1, k2⟩
    · have e1' : i = items.length := by omega
      subst e1'
      refine .inl ⟨JJ.2 (Nat.le_refl _), ?_⟩
      rw [List.drop_length] at hrun
      simp only [compL, ret] at hrun
      cases hrun
      rw [List.append_nil] at hds
      subst hds
      have D := A1.restore no B2 m2 p2
      refine fin F2 ι2 H2 m2 p2 D (.ref p) ⟨p, rfl, ⟨xs, hp2, ra⟩, ap2.f, ap2.i, ap0.h0, fun ⟨j, q, k1, k2⟩ => ?_⟩
      by_cases hj : j ∈ own
      · obtain ⟨r', g1, g2⟩ := noOwn_at no hj
        have hl : σ.length = eE.length := by have := B2.len; rw [wipe_length, wipeE_len] at this; exact this
        rw [restE_in g1 hj (by rw [← hl, A1.len]; exact get_lt g1)] at k1
        cases k1
        exact g2 q rfl
      · rw [restE_out hj] at k1
        refine ap2.o ⟨j, q, ?_, ?_⟩
        · rw [wipeE_out hj]; exact k1
        · rw [wipe_out hj]; exact k2
def bkI (G : Gs) (n : Nat) (m : M (List D)) : TI := fun σ H R => ∃ c : Act, (c.G = G ∧ c.n = n) ∧ rdI c noW m σ H R
theorem bkI_ok {G : Gs} {n : Nat} {m : M (List D)} {tg a : Expr} (h : ∀ c : Act, c.G = G ∧ c.n = n → PI X tg a (rdI c noW m)) : PI X tg a (bkI G n m) :=
  ⟨fun pins s σ H R I ⟨c, hc, z⟩ => (h c hc).run pins s σ H R I z⟩
def turn2M (tg : T) (mc : M Bool) (mi1 : M (List D)) (tg1 : T) (mc1 : M Bool) (me : M R) (own1 : List Nat) (x : D) : M (List D) := bnd (asgT tg x) fun _ => bnd mc fun b => match b with
  | true => bnd mi1 fun ys => compL (turnM tg1 mc1 me) own1 ys
  | false => ret []
theorem compLL_notexc {f : D → M (List D)} {vs : List Nat} : ∀ {xs : List D} {e : Ev} {s : Sto} {g : Nat} {e' : Ev} {s' : Sto}, compLL f vs xs e s ≠ .exc g e' s'
  | [], e, s, g, e', s', h => by cases h
  | x :: xs, e, s, g, e', s', h => by
    unfold compLL at h
    cases h1 : noExc (f x) (wipeE e vs) s with
    | ok o e1 s1 =>
      rw [h1] at h
      simp only [Out.bind, bnd] at h
      cases h2 : compLL f vs xs e1 s1 with
      | ok ds e2 s2 => rw [h2] at h; cases h
      | exc g e2 s2 => exact compLL_notexc h2
      | bad => rw [h2] at h; cases h
    | exc g1 e1 s1 =>
      unfold noExc at h1
      split at h1 <;> cases h1
    | bad => rw [h1] at h; cases h
theorem wipe_sub {σ : L2.St} {vs vs1 : List Nat} (h : ∀ j ∈ vs1, j ∈ vs) : L2.wipe (L2.wipe σ vs1) vs = L2.wipe σ vs := wipe_eq (wipe_length _ _) fun j hj => by
  rw [wipe_out hj, wipe_out fun z => hj (h j z)]
theorem wipeE_sub {e : Ev} {vs vs1 : List Nat} (h : ∀ j ∈ vs1, j ∈ vs) : wipeE (wipeE e vs1) vs = wipeE e vs := by
  refine List.ext_getElem? fun j => ?_
  by_cases hj : j ∈ vs
  · by_cases hl : j < e.length
    · rw [wipeE_in hj (by rw [wipeE_len]; exact hl), wipeE_in hj hl]
    · rw [List.getElem?_eq_none (by rw [wipeE_len, wipeE_len]; omega), List.getElem?_eq_none (by rw [wipeE_len]; omega)]
  · rw [wipeE_out hj, wipeE_out hj, wipeE_out fun z => hj (h j z)]
theorem ws_of {σ σ2 : L2.St} {own sl : List Nat} (l : σ2.length = (L2.wipe σ own).length) (q : ∀ j, j ∉ sl → σ2[j]? = (L2.wipe σ own)[j]?) (h : ∀ j ∈ sl, j ∈ own) : L2.wipe σ2 own = L2.wipe σ own := by
  have h1 : L2.wipe σ2 own = L2.wipe (L2.wipe σ own) own := by
    refine wipe_eq l fun j hj => ?_
    rw [wipe_out hj]
    exact q j fun z => hj (h j z)
  rw [h1]
  exact wipe_eq (wipe_length _ _) fun j hj => rfl
theorem comp2_rd {mi mi1 : M (List D)} {tg tg1 : T} {mc mc1 : M Bool} {me : M R} {own own1 : List Nat} {Q : VK} (hs : ∀ j ∈ slotsT tg, j ∈ own) (hs1 : ∀ j ∈ slotsT tg1, j ∈ own1) (ho : ∀ j ∈ own1, j ∈ own)
    (z : rdR c W (bnd mi fun items => comp2M (turn2M tg mc mi1 tg1 mc1 me own1) own items) σ H Q) :
    tLc2 (rdI c W mi) (gT c.G c.n tg) (bkB c.G c.n mc) (bkI c.G c.n mi1) (gT c.G c.n tg1) (bkB c.G c.n mc1) (bkR c.G c.n me) own own1 σ H Q := by
  obtain ⟨F, ι, e, s, hn, A, z⟩ := z
  refine ⟨F, ι, e, s, hn, A, z.split.imp fun items F1 ι1 H1 e1 s1 m1 p1 A1 z1 J hJ => ?_⟩
  unfold comp2M at z1
  split at z1
  rotate_left
  · exact z1.elim
  rename_i no
  cases hr : compLL (turn2M tg mc mi1 tg1 mc1 me own1) own items e1 s1 with
  | exc g e2 s2 => exact absurd hr compLL_notexc
  | bad => rw [hr] at z1; exact z1.elim
  | ok ds eE sE =>
  rw [hr] at z1
  simp only [Out.bind] at z1
  split at z1
  rotate_left
  · exact z1.elim
  rename_i hlen
  have fin : ∀ F' ι' H', Same F1 F' → Pre ι1 ι' → Abs c F' ι' σ H' (restE e1 eE own) sE → ∀ v, RelR c F' ι' σ H' (restE e1 eE own) v (.new (.lst ds)) → Q v H' := z1
  intro p hp
  have ap0 := A1.newApart hp
  have f00 : c.F0 p = none := by
    cases q : c.F0 p with
    | none => rfl
    | some w => have := A1.le _ _ (A1.le0 _ _ q); rw [hp] at this; cases this
  have i00 : p ∉ c.ι0 := fun q => by
    obtain ⟨i, hi, e2⟩ := List.mem_iff_getElem.mp q
    exact ap0.i (List.mem_of_getElem? (A1.pre i p (by rw [List.getElem?_eq_getElem hi, e2])))
  let W' : Nat → Nat → Hp → Prop := fun i m H2 => ∃ (acc : List D) (xs : List V) (F2 : Hp) (ι2 : List Addr) (e2 : Ev) (s2 : Sto) (rest : List D), m = items.length - i ∧ i ≤ items.length ∧ Same F1 F2 ∧ Pre ι1 ι2 ∧
    Abs (c.hold p (.lst xs)) F2 ι2 (L2.wipe σ own) H2 (wipeE e2 own) s2 ∧ Rels c.G F2 ι2 xs acc ∧ compLL (turn2M tg mc mi1 tg1 mc1 me own1) own (items.drop i) e2 s2 = .ok rest eE sE ∧ acc ++ rest = ds
  refine ⟨W', ⟨items.length, [], [], F1, ι1, e1, s1, ds, by simp, Nat.zero_le _, Same.refl _, Pre.refl _, ?_, .nil, by simpa using hr, rfl⟩, ?_⟩
  · have B := (A1.updApart (u := .lst []) ap0).wipe own
    refine B.hold ⟨ap0.h0, ap0.f, ap0.i, fun ⟨j, o, k1, k2⟩ => ?_⟩ upd_same
    by_cases hj : j ∈ own
    · rw [wipeE_in hj (by have := get_lt k1; rw [wipeE_len] at this; exact this)] at k1
      cases k1
    · rw [wipeE_out hj] at k1
      rw [wipe_out hj] at k2
      exact ap0.o ⟨j, o, k1, k2⟩
  · rintro i m H2 ⟨acc, xs, F2, ι2, e2, s2, rest, rfl, hi, m2, p2, A2, ra, hrun, hds⟩
    obtain ⟨B2, ap2, hp2⟩ := A2.unhold ap0.h0 f00 i00
    have JJ := hJ F2 H2 i m2 A2.le
    by_cases hlt : i < items.length
    · refine .inr ⟨(JJ.1 hlt).1, fun H' => ∃ m', m' < items.length - i ∧ W' (i + 1) m' H', fun H' h => h, fun x H3 hy => ?_⟩
      obtain ⟨F3, d, hd, g3, rd⟩ := (JJ.1 hlt).2 x H3 hy
      have hdrop : items.drop i = d :: items.drop (i + 1) := by
        rw [List.drop_eq_getElem_cons hlt]
        rw [List.getElem?_eq_getElem hlt] at hd
        cases hd
        rfl
      rw [hdrop] at hrun
      unfold compLL at hrun
      obtain ⟨os, e4, s4, hos, hrun2⟩ := bind_ok hrun
      obtain ⟨rest2, e5, s5, hrest, hret⟩ := bnd_ok hrun2
      cases hret
      have hf := noExc_ok hos
      unfold turn2M at hf
      obtain ⟨u, eA, sA, hA, hf⟩ := bnd_ok hf
      obtain ⟨b, eB, sB, hB, hf⟩ := bnd_ok hf
      have esA := asgT_sto hA
      subst esA
      have A3 := A2.grow g3
      refine ⟨c.hold p (.lst xs), F3, ι2, wipeE e2 own, sA, d, eA, rfl, rfl, by rw [wipe_length]; exact hn, A3, rd.mono (Same.refl _) p2, hA, fun σ2 l2 q2 A4 => ⟨ws_of l2 q2 hs, ?_⟩⟩
      have ws : L2.wipe σ2 own = L2.wipe σ own := ws_of l2 q2 hs
      have hn2 : σ2.length = (c.hold p (.lst xs)).n := by rw [l2, wipe_length]; exact hn
      refine ⟨c.hold p (.lst xs), ⟨rfl, rfl⟩, F3, ι2, eA, sA, hn2, A4, ?_⟩
      rw [hB]
      intro F5 ι5 H5 m5 p5 A5
      cases b with
      | false =>
        rw [if_neg Bool.false_ne_true]
        cases hf
        have A6 := A5.wipe own
        rw [ws] at A6
        exact ⟨items.length - (i + 1), by omega, acc, xs, F5, ι5, e4, s4, rest2, rfl, hlt, (m2.trans g3.f).trans m5, p2.trans p5, A6, ra.mono (g3.f.trans m5) p5, hrest, hds⟩
      | true =>
        rw [if_pos rfl]
        obtain ⟨ys, eI, sI, hI, hf⟩ := bnd_ok hf
        refine ⟨c.hold p (.lst xs), ⟨rfl, rfl⟩, F5, ι5, eB, sB, hn2, A5, ?_⟩
        rw [hI]
        intro F6 ι6 H6 m6 p6 A6 J1 hJ1
        let W1 : Nat → Nat → Hp → Prop := fun j k H7 => ∃ (acc1 : List D) (xs1 : List V) (F7 : Hp) (ι7 : List Addr) (e7 : Ev) (s7 : Sto) (rest1 : List D), k = ys.length - j ∧ j ≤ ys.length ∧ Same F6 F7 ∧ Pre ι6 ι7 ∧
          Abs (c.hold p (.lst xs1)) F7 ι7 (L2.wipe σ2 own1) H7 (wipeE e7 own1) s7 ∧ Rels c.G F7 ι7 xs1 acc1 ∧ compL (turnM tg1 mc1 me) own1 (ys.drop j) e7 s7 = .ok rest1 e4 s4 ∧ acc ++ os = acc1 ++ rest1
        refine ⟨W1, ⟨ys.length, acc, xs, F6, ι6, eI, sI, os, by simp, Nat.zero_le _, Same.refl _, Pre.refl _, A6.wipe own1, ra.mono ((g3.f.trans m5).trans m6) (p5.trans p6), by simpa using hf, rfl⟩, ?_⟩
        rintro j k H7 ⟨acc1, xs1, F7, ι7, e7, s7, rest1, rfl, hj, m7, p7, A7, ra7, hrun7, hacc⟩
        obtain ⟨B7, ap7, hp7⟩ := A7.unhold ap0.h0 f00 i00
        have JJ1 := hJ1 F7 H7 j m7 A7.le
        by_cases hlt1 : j < ys.length
        · refine .inr ⟨(JJ1.1 hlt1).1, fun H' => ∃ k', k' < ys.length - j ∧ W1 (j + 1) k' H', fun H' h => h, fun x1 H8 hy1 => ?_⟩
          obtain ⟨F8, d1, hd1, g8, rd8⟩ := (JJ1.1 hlt1).2 x1 H8 hy1
          have hdrop1 : ys.drop j = d1 :: ys.drop (j + 1) := by
            rw [List.drop_eq_getElem_cons hlt1]
            rw [List.getElem?_eq_getElem hlt1] at hd1
            cases hd1
            rfl
          rw [hdrop1] at hrun7
          unfold compL at hrun7
          obtain ⟨o1, e9, s9, ho1, hrun9⟩ := bind_ok hrun7
          obtain ⟨rest9, e10, s10, hrest9, hret9⟩ := bnd_ok hrun9
          cases hret9
          have hf1 := noExc_ok ho1
          unfold turnM at hf1
          obtain ⟨u1, eC, sC, hC, hf1⟩ := bnd_ok hf1
          obtain ⟨b1, eD, sD, hD, hf1⟩ := bnd_ok hf1
          have esC := asgT_sto hC
          subst esC
          have A8 := A7.grow g8
          refine ⟨c.hold p (.lst xs1), F8, ι7, wipeE e7 own1, sC, d1, eC, rfl, rfl, by rw [wipe_length]; exact hn2, A8, rd8.mono (Same.refl _) p7, hC, fun σ3 l3 q3 A9 => ⟨ws_of l3 q3 hs1, ?_⟩⟩
          have ws1 : L2.wipe σ3 own1 = L2.wipe σ2 own1 := ws_of l3 q3 hs1
          have hn3 : σ3.length = (c.hold p (.lst xs1)).n := by rw [l3, wipe_length]; exact hn2
          refine ⟨c.hold p (.lst xs1), ⟨rfl, rfl⟩, F8, ι7, eC, sC, hn3, A9, ?_⟩
          rw [hD]
          intro F10 ι10 H10 m10 p10 A10
          cases b1 with
          | false =>
            rw [if_neg Bool.false_ne_true]
            cases hf1
            have A11 := A10.wipe own1
            rw [ws1] at A11
            exact ⟨ys.length - (j + 1), by omega, acc1, xs1, F10, ι10, e9, s9, rest9, rfl, hlt1, (m7.trans g8.f).trans m10, p7.trans p10, A11, ra7.mono (g8.f.trans m10) p10, hrest9, hacc⟩
          | true =>
            rw [if_pos rfl]
            obtain ⟨r, eX, sX, hX, hf1⟩ := bnd_ok hf1
            refine ⟨c.hold p (.lst xs1), ⟨rfl, rfl⟩, F10, ι10, eD, sD, hn3, A10, ?_⟩
            rw [hX]
            intro F11 ι11 H11 m11 p11 A11 y hy
            obtain ⟨d', eY, sY, hY, hf1⟩ := bnd_ok hf1
            unfold frz at hY
            split at hY
            rotate_left
            · cases hY
            rename_i hfl
            cases hY
            cases hf1
            obtain ⟨F12, A12, m12, rd12⟩ := RelR.frz A11 hy hfl
            obtain ⟨B12, ap12, hp12⟩ := A12.unhold ap0.h0 f00 i00
            have ra12 : Rels c.G F12 ι11 xs1 acc1 := ra7.mono ((g8.f.trans m10).trans (m11.trans m12)) (p10.trans p11)
            have hsz : acc1.length < sizeLine := by
              have q1 : (acc ++ os).length ≤ ds.length := by rw [← hds, List.length_append, List.length_append, List.length_append]; omega
              rw [hacc, List.length_append, List.length_cons] at q1
              rw [line_eq]
              omega
            refine ⟨xs1, hp12, by rw [ra12.length]; exact hsz, ys.length - (j + 1), by omega, acc1 ++ [r.d], xs1 ++ [y], F12, ι11, e9, s9, rest9, rfl, hlt1, ((m7.trans g8.f).trans m10).trans (m11.trans m12), (p7.trans p10).trans p11, ?_, ra12.append (.cons rd12 .nil), hrest9, by rw [List.append_assoc]; exact hacc⟩
            have B13 := (B12.updApart (u := .lst (xs1 ++ [y])) ap12).wipe own1
            rw [ws1] at B13
            refine B13.hold ⟨ap12.h0, ap12.f, ap12.i, fun ⟨j', q, k1, k2⟩ => ?_⟩ upd_same
            by_cases hj' : j' ∈ own1
            · rw [wipeE_in hj' (by have := get_lt k1; rw [wipeE_len] at this; exact this)] at k1
              cases k1
            · rw [wipeE_out hj'] at k1
              rw [← ws1, wipe_out hj'] at k2
              exact ap12.o ⟨j', q, k1, k2⟩
        · have ej : j = ys.length := by omega
          subst ej
          refine .inl ⟨JJ1.2 (Nat.le_refl _), ?_⟩
          rw [List.drop_length] at hrun7
          simp only [compL, ret] at hrun7
          cases hrun7
          rw [List.append_nil] at hacc
          subst hacc
          have B14 := A7.wipe own
          rw [wipe_sub ho, ws, wipeE_sub ho] at B14
          exact ⟨items.length - (i + 1), by omega, acc ++ os, xs1, F7, ι7, e4, s4, rest2, rfl, hlt, ((m2.trans g3.f).trans m5).trans (m6.trans m7), (p2.trans p5).trans (p6.trans p7), B14, ra7, hrest, by rw [List.append_assoc]; exact hds⟩
    · have e1' : i = items.length := by omega
      subst e1'
      refine .inl ⟨JJ.2 (Nat.le_refl _), ?_⟩
      rw [List.drop_length] at hrun
      simp only [compLL, ret] at hrun
      cases hrun
      rw [List.append_nil] at hds
      subst hds
      have D := A1.restore no B2 m2 p2
      refine fin F2 ι2 H2 m2 p2 D (.ref p) ⟨p, rfl, ⟨xs, hp2, ra⟩, ap2.f, ap2.i, ap0.h0, fun ⟨j, q, k1, k2⟩ => ?_⟩
      by_cases hj : j ∈ own
      · obtain ⟨r', g1, g2⟩ := noOwn_at no hj
        have hl : σ.length = eE.length := by have := B2.len; rw [wipe_length, wipeE_len] at this; exact this
        rw [restE_in g1 hj (by rw [← hl, A1.len]; exact get_lt g1)] at k1
        cases k1
        exact g2 q rfl
      · rw [restE_out hj] at k1
        refine ap2.o ⟨j, q, ?_, ?_⟩
        · rw [wipeE_out hj]; exact k1
        · rw [wipe_out hj]; exact k2
end
end Mi
namespace Mi
open PySem PySem.Spec PyProof.Rows L2
section
variable {c : Act} {C : CC} {O : Orc} {k : Nat} {X : Cx} {W : Wh} {σ : L2.St} {F F' : Hp} {ι ι' : List Addr} {H H' : Hp} {e : Ev} {s : Sto} {pos p1 p2 : Pos}
theorem lookup_rel {nm : List (Str × NameKind)} {y : Str} {kd : NameKind} (hk : kd ≠ .free) : ∀ {names : List (Str × NameKind)}, names.lookup y = some kd → (relNames nm names).lookup y = some kd
  | [], h => by simp at h
  | (n, q) :: r, h => by
    show List.lookup y ((if (q == NameKind.free && nm.lookup n == some NameKind.cell) = true then (n, NameKind.cell) else (n, q)) :: relNames nm r) = _
    by_cases z : y = n
    · subst z
      simp only [List.lookup_cons_self] at h
      cases h
      have : (kd == NameKind.free) = false := by cases kd <;> first | rfl | exact absurd rfl hk
      simp [this]
    · have e1 : (y == n) = false := by simpa using z
      rw [List.lookup_cons, e1] at h
      split
      · rw [List.lookup_cons, e1]; exact lookup_rel hk h
      · rw [List.lookup_cons, e1]; exact lookup_rel hk h
theorem XOk.blk (x : XOk c C O k X W) {scope : Scope} {own : List Nat} (hb : blkOk C scope own = true) {c' : Act} (hc : c'.G = c.G ∧ c'.n = c.n) (s : Shared) (H : Hp) (Ca : Addr) (cl : List (Str × Addr)) (fp : List Addr) :
    XOk c' (C.blk scope.names) O k (X.blk s H scope (compEnvC scope cl Ca X.env) fp) noW := by
  obtain ⟨h1, h2⟩ := hc
  unfold blkOk at hb
  simp only [Bool.and_eq_true] at hb
  have hkind : scope.kind = .function := by
    have := hb.1.1.1
    split at this
    · assumption
    · cases this
  have hnm : (compEnvC scope cl Ca X.env).scope.names = relNames C.nm scope.names := by
    show (scope.names.map _) = _
    unfold relNames
    refine List.map_congr_left fun y hy => ?_
    obtain ⟨n, q⟩ := y
    have e1 : X.env.kindOf n = C.nm.lookup n := by unfold PySem.Env.kindOf; rw [x.nm]
    show (if (q == NameKind.free && X.env.scope.kind == .function && X.env.kindOf n == some .cell) = true then (n, NameKind.cell) else (n, q)) = if (q == NameKind.free && C.nm.lookup n == some NameKind.cell) = true then (n, NameKind.cell) else (n, q)
    rw [x.kind, e1]
    simp
  refine { K := by rw [h1]; exact x.K, N := x.N, n := by rw [h2]; exact x.n, nm := hnm, kind := hkind, nd := x.nd, calm := x.calm, gd := x.gd, room := x.room, tk := takes_no, wr := fun y hy => ?_, free := x.free, gl := by rw [h1]; exact x.gl, glc := x.glc, fn := by rw [h1]; exact x.fn, ok := by rw [h1]; exact x.ok, dyn := x.dyn, cls := fun g y hg => by rw [h1]; exact ⟨(x.cls g y hg).mg, (x.cls g y hg).kp, (x.cls g y hg).ex, (x.cls g y hg).sb, (x.cls g y hg).ty⟩, sub := by rw [h1]; exact x.sub }
  have hy' : (match scope.names.lookup y with | some .local => true | some .cell => true | _ => false) = true := hy
  split at hy'
  · rename_i z
    have := lookup_rel (nm := C.nm) (by decide) z
    exact ⟨.inl (by rw [hnm]; exact this), .inr (by rw [hnm]; exact this)⟩
  · rename_i z
    have := lookup_rel (nm := C.nm) (by decide) z
    exact ⟨.inr (by rw [hnm]; exact this), .inl (by show (scope.names.lookup y == some NameKind.cell) = true; rw [z]; rfl)⟩
  · cases hy'
def ownP (C : CC) (own : List Nat) : List (Str × Nat) := own.map fun i => (C.N.getD i default, i)
theorem ownP_snd (C : CC) (own : List Nat) : (ownP C own).map (·.2) = own := by simp [ownP, Function.comp_def]
theorem XOk.blkOk (x : XOk c C O k X W) {scope : Scope} {own : List Nat} (hb : Mi.blkOk C scope own = true) : BlkOk X.N X.env.scope scope (ownP C own) := by
  unfold Mi.blkOk at hb
  simp only [Bool.and_eq_true] at hb
  obtain ⟨⟨⟨h1, h2⟩, h3⟩, h4⟩ := hb
  have mem : ∀ {y : Str}, (own.any (fun i => decide (C.N[i]? = some y)) || decide (y ∉ C.N)) = true → y ∈ (ownP C own).map (·.1) ∨ y ∉ X.N := fun {y} h => by
    rw [x.N]
    simp only [Bool.or_eq_true, decide_eq_true_eq, List.any_eq_true] at h
    rcases h with ⟨i, hi, hy⟩ | h
    · refine .inl (List.mem_map.mpr ⟨(C.N.getD i default, i), List.mem_map.mpr ⟨i, hi, rfl⟩, ?_⟩)
      simp [List.getD, hy]
    · exact .inr h
  refine ⟨?_, fun y hy => ?_, fun p hp => ?_, fun y hy hf => ?_, fun y hy hlc => ?_⟩
  · split at h1
    · assumption
    · cases h1
  · exact of_decide_eq_true (List.all_eq_true.mp h2 y hy)
  · obtain ⟨i, hi, rfl⟩ := List.mem_map.mp hp
    have hl := of_decide_eq_true (List.all_eq_true.mp h3 i hi)
    rw [x.N]
    simp [List.getD, hl]
  · have := List.all_eq_true.mp h4 y hy
    rw [hf] at this
    simp only at this
    rw [x.nm]
    split at this
    · exact .inl (by assumption)
    · exact .inr (by assumption)
    · cases this
  · have := List.all_eq_true.mp h4 y hy
    rcases hlc with z | z
    · rw [z] at this; exact mem this
    · rw [z] at this; exact mem this
theorem set_fold {it : Expr} {env : PySem.Env} (h : noSet it = true) (x : Value) : foldedSetIterable it env x = pure x := by
  cases it <;> first | rfl | simp [noSet] at h
theorem comp_ok (x : XOk c C O k X W) {elt tg it : Expr} {ifs : List Expr} {scope : Scope} {own : List Nat} {t : T} {mi : M (List D)} {mc : M Bool} {me : M R} (hb : Mi.blkOk C scope own = true) (hn : noSet it = true) (hs : ∀ j ∈ slotsT t, j ∈ own)
    (hi : PI X tg it (rdI c W mi)) (ht : chkT (C.blk scope.names) t tg = true)
    (hc : ∀ (s : Shared) (H : Hp) (Ca : Addr) (cl : List (Str × Addr)) (fp : List Addr), PTs (X.blk s H scope (compEnvC scope cl Ca X.env) fp) ifs (bkB c.G c.n mc))
    (he : ∀ (s : Shared) (H : Hp) (Ca : Addr) (cl : List (Str × Addr)) (fp : List Addr), PE (X.blk s H scope (compEnvC scope cl Ca X.env) fp) elt (bkR c.G c.n me)) :
    PE X (.ListComp elt [⟨tg, it, ifs, 0⟩] scope pos) (rdR c W (bnd mi fun items => compM (turnM t mc me) own items)) := by
  refine peM (pe_lc (own := ownP C own) x.calm (by rw [x.N]; exact x.nd) hi (x.blkOk hb) (fun s H Ca cl fp => tgt_ok (x.blk hb ⟨rfl, rfl⟩ s H Ca cl fp) ht) hc he (set_fold hn)) fun σ H Q z => ?_
  rw [ownP_snd]
  exact comp_rd hs z
theorem comp2_ok (x : XOk c C O k X W) {elt tg it tg1 it1 : Expr} {ifs ifs1 : List Expr} {scope : Scope} {own own1 : List Nat} {t t1 : T} {mi mi1 : M (List D)} {mc mc1 : M Bool} {me : M R} (hb : Mi.blkOk C scope own = true) (hn : noSet it = true) (hn1 : noSet it1 = true) (hs : ∀ j ∈ slotsT t, j ∈ own) (hs1 : ∀ j ∈ slotsT t1, j ∈ own1) (ho : ∀ j ∈ own1, j ∈ own)
    (hi : PI X tg it (rdI c W mi)) (ht : chkT (C.blk scope.names) t tg = true) (ht1 : chkT (C.blk scope.names) t1 tg1 = true)
    (hi1 : ∀ (s : Shared) (H : Hp) (Ca : Addr) (cl : List (Str × Addr)) (fp : List Addr), PI (X.blk s H scope (compEnvC scope cl Ca X.env) fp) tg1 it1 (bkI c.G c.n mi1))
    (hc : ∀ (s : Shared) (H : Hp) (Ca : Addr) (cl : List (Str × Addr)) (fp : List Addr), PTs (X.blk s H scope (compEnvC scope cl Ca X.env) fp) ifs (bkB c.G c.n mc))
    (hc1 : ∀ (s : Shared) (H : Hp) (Ca : Addr) (cl : List (Str × Addr)) (fp : List Addr), PTs (X.blk s H scope (compEnvC scope cl Ca X.env) fp) ifs1 (bkB c.G c.n mc1))
    (he : ∀ (s : Shared) (H : Hp) (Ca : Addr) (cl : List (Str × Addr)) (fp : List Addr), PE (X.blk s H scope (compEnvC scope cl Ca X.env) fp) elt (bkR c.G c.n me)) :
    PE X (.ListComp elt [⟨tg, it, ifs, 0⟩, ⟨tg1, it1, ifs1, 0⟩] scope pos) (rdR c W (bnd mi fun items => comp2M (turn2M t mc mi1 t1 mc1 me own1) own items)) := by
  refine peM (pe_lc2 (own := ownP C own) (vs1 := own1) x.calm (by rw [x.N]; exact x.nd) hi (x.blkOk hb) (by rw [ownP_snd]; exact ho) (fun s H Ca cl fp => tgt_ok (x.blk hb ⟨rfl, rfl⟩ s H Ca cl fp) ht) hc hi1 (fun s H Ca cl fp => tgt_ok (x.blk hb ⟨rfl, rfl⟩ s H Ca cl fp) ht1) hc1 he (set_fold hn) (fun _ => set_fold hn1)) fun σ H Q z => ?_
  rw [ownP_snd]
  exact comp2_rd hs hs1 ho z
theorem pts_cond {m : M R} {a : Expr} {G : Gs} {n : Nat} {x : E} (hx : x ≠ .nop) (h : PT X a (bkB G n (bnd m asBl))) : PTs X [a] (bkB G n (condOf x m)) := by
  have e1 : condOf x m = bnd m asBl := by cases x <;> first | rfl | exact absurd rfl hx
  rw [e1]
  exact pts_one h
theorem pts_no {m : M R} {G : Gs} {n : Nat} : PTs X [] (bkB G n (condOf .nop m)) := by
  refine ⟨fun pins s σ H Q I z => ?_⟩
  refine pts_nil.run pins s σ H Q I ?_
  obtain ⟨c, hc, F, ι, e, s, hn, A, z⟩ := z
  exact z.ok A
theorem part_ok (x : E) {m : M R} {oe : Option Expr} {b : Expr → Bool} (h : partC x oe b = true) (hx : ∀ a, b a = true → PE X a (rdR c W m)) : PO X oe (rdO c W (partOf x m)) := by
  unfold partC at h
  split at h
  · exact part_none
  · cases h
  · rename_i a hne
    exact part_some (fun z => by subst z; exact hne rfl) (hx a h)
  · cases h
theorem chain_rd {a b t : Expr} {o1 o2 : CmpOp} {ma mb mc : M Ar} {Q : VK} (z : rdR c W (bnd ma fun x => bnd mb fun y => bnd (prim2 (fun x y => blR (cmpD o1 x y)) x y) fun r => bnd (asBl r) fun k => match k with
    | true => bnd mc fun z => prim2 (fun x y => blR (cmpD o2 x y)) y z
    | false => ret (.val (.bl false))) σ H Q) : tChain (rD2 c.G fun x y => blR (cmpD o1 x y)) (rD2 c.G fun x y => blR (cmpD o2 x y)) (rdA c W ma) (rdA c W mb) (rdA c W mc) σ H Q := by
  obtain ⟨F, ι, e, s, hn, A, z⟩ := z
  refine ⟨F, ι, e, s, hn, A, z.split.imp fun p F1 ι1 H1 e1 s1 m1 p1 A1 h1 v hv => ?_⟩
  refine ⟨F1, ι1, e1, s1, hn, A1, h1.split.imp fun q F2 ι2 H2 e2 s2 m2 p2 A2 h2 u hu => ?_⟩
  refine Fin.prim2 A2 (h2.split.imp fun r F3 ι3 H3 e3 s3 m3 p3 A3 h3 w hw => ?_) (RelA.mono hv m2 p2) hu
  obtain ⟨b, rfl, rfl, h4⟩ := Fin.asBl h3 hw
  refine ⟨b, rfl, ?_⟩
  cases b with
  | true =>
    rw [if_pos rfl]
    refine ⟨F3, ι3, e3, s3, hn, A3, h4.split.imp fun q F4 ι4 H4 e4 s4 m4 p4 A4 h5 u' hu' => ?_⟩
    exact Fin.prim2 A4 h5 (RelA.mono (RelA.mono hu m3 p3) m4 p4) hu'
  | false =>
    rw [if_neg Bool.false_ne_true]
    exact h4.ok A3 _ (.bl _)
theorem tst_chain (x : XOk c C O k X W) {o1 o2 : CmpOp} {a b t : Expr} {ma mb mc : M Ar} (hm : opsOk o2 t = true) (ha : PE X a (rdA c W ma)) (hb : PE X b (rdA c W mb)) (hc : PE X t (rdA c W mc)) :
    PT X (.Compare a [o1, o2] [b, t] pos) (rdB c W (bnd (bnd ma fun x => bnd mb fun y => bnd (prim2 (fun x y => blR (cmpD o1 x y)) x y) fun r => bnd (asBl r) fun k => match k with
    | true => bnd mc fun z => prim2 (fun x y => blR (cmpD o2 x y)) y z
    | false => ret (.val (.bl false))) asBl)) := by
  refine ptM (pt_chain (cmpOp (G := c.G) x.K x.hu o1) (cmpOp (G := c.G) x.K x.hu o2) ha hb hc (by simpa [opsOk, lastMarks] using hm)) fun σ H Q z => ?_
  obtain ⟨F, ι, e, s, hn, A, z⟩ := z
  refine chain_rd (a := a) (b := b) (t := t) (Q := fun x H' => ∃ k, x = .bl k ∧ Q k H') ⟨F, ι, e, s, hn, A, z.split.imp fun r F1 ι1 H1 e1 s1 m1 p1 A1 h1 v hr => ?_⟩
  unfold asBl at h1
  split at h1
  · cases hr
    exact ⟨_, rfl, h1.ok A1⟩
  · exact h1.elim
theorem bool_step {m : M R} {f : Bool → M R} : bnd (bnd m fun r => bnd (asBl r) f) asBl = bnd (bnd m asBl) fun b => bnd (f b) asBl := by
  funext e s
  show ((m e s).bind fun r => bnd (asBl r) f).bind asBl = ((m e s).bind asBl).bind fun b => bnd (f b) asBl
  cases m e s with
  | ok r e1 s1 =>
    show (((asBl r) e1 s1).bind f).bind asBl = ((asBl r) e1 s1).bind fun b => bnd (f b) asBl
    cases asBl r e1 s1 <;> rfl
  | exc g e1 s1 => rfl
  | bad => rfl
theorem tst_not {a : Expr} {m : M R} (h : PT X a (rdB c W (bnd m asBl))) : PT X (.UnaryOp .Not a pos) (rdB c W (bnd (bnd m fun r => bnd (asBl r) fun b => ret (.val (.bl (!b)))) asBl)) := by
  refine ptM (pt_not h) fun σ H Q z => ?_
  rw [bool_step] at z
  obtain ⟨F, ι, e, s, hn, A, z⟩ := z
  exact ⟨F, ι, e, s, hn, A, z.split.imp fun b F1 ι1 H1 e1 s1 m1 p1 A1 h1 => h1.ok A1⟩
theorem tst_and {a b : Expr} {r : List Expr} {ma mb : M R} (ha : PT X a (rdB c W (bnd ma asBl))) (hb : PW X (.BoolOp .And (b :: r) pos) (rdB c W (bnd mb asBl))) : PW X (.BoolOp .And (a :: b :: r) pos) (rdB c W (bnd (bnd ma fun r => bnd (asBl r) fun c => match c with
    | true => mb
    | false => ret (.val (.bl false))) asBl)) := by
  refine pwM (pw_and ha hb) fun σ H Q z => ?_
  rw [bool_step] at z
  obtain ⟨F, ι, e, s, hn, A, z⟩ := z
  refine ⟨F, ι, e, s, hn, A, z.split.imp fun b F1 ι1 H1 e1 s1 m1 p1 A1 h1 => ?_⟩
  cases b with
  | true => rw [if_pos rfl]; exact ⟨F1, ι1, e1, s1, hn, A1, h1⟩
  | false => rw [if_neg Bool.false_ne_true]; exact h1.ok A1
theorem tst_or {a b : Expr} {r : List Expr} {ma mb : M R} (ha : PT X a (rdB c W (bnd ma asBl))) (hb : PW X (.BoolOp .Or (b :: r) pos) (rdB c W (bnd mb asBl))) : PW X (.BoolOp .Or (a :: b :: r) pos) (rdB c W (bnd (bnd ma fun r => bnd (asBl r) fun c => match c with
    | true => ret (.val (.bl true))
    | false => mb) asBl)) := by
  refine pwM (pw_or ha hb) fun σ H Q z => ?_
  rw [bool_step] at z
  obtain ⟨F, ι, e, s, hn, A, z⟩ := z
  refine ⟨F, ι, e, s, hn, A, z.split.imp fun b F1 ι1 H1 e1 s1 m1 p1 A1 h1 => ?_⟩
  cases b with
  | true => rw [if_pos rfl]; exact h1.ok A1
  | false => rw [if_neg Bool.false_ne_true]; exact ⟨F1, ι1, e1, s1, hn, A1, h1⟩
end
end Mi
namespace Mi
open PySem PySem.Spec PyProof.Rows L2
section
variable {α : Type} {c : Act} {C : CC} {O : Orc} {k : Nat} {X : Cx} {W : Wh} {σ : L2.St} {F F' : Hp} {ι ι' : List Addr} {H H' : Hp} {e : Ev} {s : Sto} {pos p1 p2 p3 : Pos}
theorem Fin.held {m : M α} {P : α → Hp → List Addr → Hp → Ev → Sto → Prop} {p : Addr} {u : HO} (h0 : c.H0 p = none) (f0 : c.F0 p = none) (i0 : p ∉ c.ι0) (h : Fin c W σ F ι (m e s) P) :
    Fin (c.hold p u) W σ F ι (m e s) (fun a F' ι' H' e' s' => Apart c F' ι' σ e' p ∧ H' p = some u ∧ Abs c F' ι' σ H' e' s' ∧ P a F' ι' H' e' s') := by
  cases hm : m e s with
  | ok a e1 s1 =>
    rw [hm] at h
    intro F' ι' H' k1 k2 A
    obtain ⟨B, ap, hp⟩ := A.unhold h0 f0 i0
    exact ⟨ap, hp, B, h F' ι' H' k1 k2 B⟩
  | exc g e1 s1 =>
    rw [hm] at h
    intro F' ι' H' k1 k2 A
    exact h F' ι' H' k1 k2 (A.unhold h0 f0 i0).1
  | bad => rw [hm] at h; exact h
theorem XOk.act (x : XOk c C O k X W) {c' : Act} (hG : c'.G = c.G) (hn : c'.n = c.n) : XOk c' C O k X W := by
  obtain ⟨G, a1, a2, a3, n⟩ := c
  obtain ⟨G', b1, b2, b3, n'⟩ := c'
  cases hG
  cases hn
  exact { K := x.K, N := x.N, n := x.n, nm := x.nm, kind := x.kind, nd := x.nd, calm := x.calm, gd := x.gd, room := x.room, tk := x.tk, wr := x.wr, free := x.free, gl := x.gl, glc := x.glc, fn := x.fn, ok := x.ok, dyn := x.dyn, cls := x.cls, sub := x.sub }
def bkW (c : Act) (W : Wh) (m : M R) : TE := fun σ H Q => ∃ c' : Act, (c'.G = c.G ∧ c'.n = c.n) ∧ rdR c' W m σ H Q
theorem bkW_ok {m : M R} {a : Expr} (h : ∀ c' : Act, (c'.G = c.G ∧ c'.n = c.n) → PE X a (rdR c' W m)) : PE X a (bkW c W m) :=
  ⟨fun pins s σ H Q I ⟨c', hc, z⟩ => (h c' hc).run pins s σ H Q I z⟩
def trsOf (c : Act) (W : Wh) (O : Orc) : List E → List (TE × TE)
  | k :: v :: r => (bkW c W (evE O k), bkW c W (evE O v)) :: trsOf c W O r
  | _ => []
theorem pps_ok {c : Act} : ∀ {ys : List E} {ks : List (Option Expr)} {vs : List Expr}, (∀ y ∈ ys, ∀ a, chkE C y a = true → PE X a (bkW c W (evE O y))) → chkPs C ys ks vs = true → PPs X pos ks vs (trsOf c W O ys) ∧ ks.all (·.isSome) = true ∧ ks.length = vs.length ∧ ys.length = ks.length + ks.length
  | [], [], [], _, _ => ⟨pps_nil, rfl, rfl, rfl⟩
  | k :: v :: r, some k' :: ks, v' :: vs, hy, h => by
    simp only [chkPs, Bool.and_eq_true] at h
    obtain ⟨q1, q2, q3, q4⟩ := pps_ok (fun y m => hy y (.tail _ (.tail _ m))) h.2
    refine ⟨pps_cons (hy k (.head _) k' h.1.1) (hy v (.tail _ (.head _)) v' h.1.2) q1, ?_, ?_, ?_⟩
    · simpa using q2
    · simpa using q3
    · simp only [List.length_cons]; omega
  | [], [], _ :: _, _, h => by simp [chkPs] at h
  | [], _ :: _, _, _, h => by simp [chkPs] at h
  | [_], ks, vs, _, h => by cases ks <;> cases vs <;> simp [chkPs] at h
  | _ :: _ :: _, [], _, _, h => by simp [chkPs] at h
  | _ :: _ :: _, none :: _, _, _, h => by simp [chkPs] at h
  | _ :: _ :: _, some _ :: _, [], _, h => by simp [chkPs] at h
inductive PRel (G : Gs) (F : Hp) (ι : List Addr) : List (V × V) → List D → Prop
  | nil : PRel G F ι [] []
  | cons {x y : V} {dx dy : D} {ps : List (V × V)} {ds : List D} (h1 : Rel G F ι x dx) (h2 : Rel G F ι y dy) (t : PRel G F ι ps ds) : PRel G F ι ((x, y) :: ps) (dx :: dy :: ds)
theorem pairs_rd {c0 c : Act} (hc : c.G = c0.G ∧ c.n = c0.n) : ∀ (ys : List E) {F : Hp} {ι : List Addr} {H : Hp} {e : Ev} {s : Sto} {P : List D → Hp → List Addr → Hp → Ev → Sto → Prop} {Q : List (V × V) → Hp → Prop}, (∃ n, ys.length = n + n) → σ.length = c.n → Abs c F ι σ H e s →
    Fin c W σ F ι (evVs O ys e s) P → (∀ ps ds F' ι' H' e' s', Abs c F' ι' σ H' e' s' → PRel c.G F' ι' ps ds → P ds F' ι' H' e' s' → Q ps H') → tPairs (trsOf c0 W O ys) σ H Q
  | [], F, ι, H, e, s, P, Q, _, hn, A, z, hQ => hQ [] [] F ι H e s A .nil (z.ok A)
  | [y], _, _, _, _, _, _, _, ⟨n, h⟩, _, _, _, _ => by simp at h; omega
  | ky :: vy :: r, F, ι, H, e, s, P, Q, hl, hn, A, z, hQ => by
    refine ⟨c, hc, F, ι, e, s, hn, A, (Fin.split (m := evE O ky) z).imp fun r1 F1 ι1 H1 e1 s1 m1 p1 A1 h1 x hx => ?_⟩
    obtain ⟨F2, d, m2, A2, hd, q⟩ := Fin.frz A1 h1.split hx
    refine ⟨c, hc, F2, ι1, e1, s1, hn, A2, ((Fin.split q).split).imp fun r3 F3 ι3 H3 e3 s3 m3 p3 A3 h3 w hw => ?_⟩
    obtain ⟨F4, d4, m4, A4, hd4, q4⟩ := Fin.frz A3 h3.split hw
    have hl' : ∃ n, r.length = n + n := by
      obtain ⟨n, hn⟩ := hl
      refine ⟨n - 1, ?_⟩
      simp only [List.length_cons] at hn
      omega
    refine pairs_rd hc r (P := fun ds F' ι' H' e' s' => Same F4 F' ∧ Pre ι3 ι' ∧ P (d :: d4 :: ds) F' ι' H' e' s') hl' hn A4 ((q4.split).imp fun ds F5 ι5 H5 e5 s5 m5 p5 A5 h5 => ?_) fun ps ds F' ι' H' e' s' A' rr ⟨q1, q2, q3⟩ => ?_
    · have h6 := Fin.ok h5 A5
      exact ⟨m5, p5, Fin.ok h6 A5⟩
    · exact hQ _ _ F' ι' H' e' s' A' (.cons (Rel.mono (m3.trans (m4.trans q1)) (p3.trans q2) hd) (Rel.mono q1 q2 hd4) rr) q3
theorem key_of {G : Gs} {x : V} {d : D} (h : Rel G F ι x d) (k : isKey d = true) : ∃ kk : Key, x = kV kk ∧ d = keyD kk := by
  cases h with
  | int i => exact ⟨.inl i, rfl, rfl⟩
  | str i => exact ⟨.inr i, rfl, rfl⟩
  | _ => simp [isKey] at k
theorem keyEq_D (j k : Key) : keyEq (keyD j) (keyD k) = decide (j = k) := by cases j <;> cases k <;> simp [keyD, keyEq]
theorem disp_kvs {G : Gs} : ∀ {ps : List (V × V)} {ds ks vs : List D}, PRel G F ι ps ds → unpair ds = some (ks, vs) → keysNd ks = true → ∃ (kk : List Key) (xs : List V), ps = (kk.zip xs).map (fun kv => (kV kv.1, kv.2)) ∧ kk.length = xs.length ∧ ks = kk.map keyD ∧ Rels G F ι xs vs ∧ kk.Nodup
  | _, _, ks, vs, .nil, h, _ => by
    simp only [unpair, Option.some.injEq, Prod.mk.injEq] at h
    obtain ⟨rfl, rfl⟩ := h
    exact ⟨[], [], rfl, rfl, rfl, .nil, .nil⟩
  | _, _, ks, vs, .cons (dx := dx) (dy := dy) h1 h2 t, h, hk => by
    simp only [unpair, Option.map_eq_some_iff] at h
    obtain ⟨⟨ks', vs'⟩, h, e⟩ := h
    cases e
    simp only [keysNd, Bool.and_eq_true] at hk
    obtain ⟨kk, xs, rfl, hl, rfl, rr, nd⟩ := disp_kvs t h hk.2
    obtain ⟨j, rfl, rfl⟩ := key_of h1 hk.1.1
    refine ⟨j :: kk, _ :: xs, rfl, by simp [hl], rfl, .cons h2 rr, List.nodup_cons.mpr ⟨fun m => ?_, nd⟩⟩
    have := List.all_eq_true.mp hk.1.2 (keyD j) (List.mem_map.mpr ⟨j, m, rfl⟩)
    rw [keyEq_D] at this
    simp at this
theorem putK_new {kvs : List (Key × V)} {k : Key} {v : V} (h : k ∉ kvs.map (·.1)) : putK kvs k v = kvs ++ [(k, v)] := by
  unfold putK
  rw [if_neg]
  intro z
  obtain ⟨kv, h1, h2⟩ := List.any_eq_true.mp z
  exact h (List.mem_map.mpr ⟨kv, h1, of_decide_eq_true h2⟩)
theorem merge_nd : ∀ (more kvs : List (Key × V)), ((kvs ++ more).map (·.1)).Nodup → mergeK kvs more = kvs ++ more
  | [], kvs, _ => by simp [mergeK]
  | kv :: more, kvs, h => by
    have h1 : kv.1 ∉ kvs.map (·.1) := fun z => by
      rw [List.map_append, List.map_cons] at h
      exact (List.nodup_append.mp h).2.2 kv.1 z kv.1 (.head _) rfl
    unfold mergeK
    rw [List.foldl_cons, putK_new h1]
    have := merge_nd more (kvs ++ [kv]) (by simpa using h)
    unfold mergeK at this
    rw [this]
    simp
theorem dic_ok (x : XOk c C O k X W) {ys : List E} {ks : List (Option Expr)} {vs : List Expr} (hy : ∀ y ∈ ys, ∀ c' : Act, (c'.G = c.G ∧ c'.n = c.n) → ∀ a, chkE C y a = true → PE X a (rdR c' W (evE O y))) (h15 : ks.length ≤ 15) (h : chkPs C ys ks vs = true) : PE X (.Dict ks vs pos) (rdR c W (bnd (evVs O ys) fun ds => lift (dicD ds))) := by
  obtain ⟨g1, g2, g3, g4⟩ := pps_ok (X := X) (W := W) (O := O) (C := C) (c := c) (pos := pos) (fun y m a ha => bkW_ok fun c' hc => hy y m c' hc a ha) h
  refine ⟨fun pins s' σ H Q I z => ?_⟩
  obtain ⟨F, ι, e, s, hn, A, z⟩ := z
  have z := z.split
  cases ks with
  | nil =>
    have hv : vs = [] := List.length_eq_zero_iff.mp g3.symm
    have hy0 : ys = [] := List.length_eq_zero_iff.mp g4
    subst hv hy0
    refine (pe_dnewK (X := X)).run pins s' σ H Q I fun p hp => ?_
    have z1 := z.ok A
    have g := Grow.fresh (o := .dK []) A.le hp
    obtain ⟨q1, q2, q3, q4⟩ := A.fresh hp
    exact z1 F ι _ g.f (Pre.refl _) (A.grow g) (.ref p) ⟨p, rfl, ⟨[], [], upd_same, rfl, rfl, .nil⟩, q2, q3, q1, q4⟩
  | cons k0 ks0 =>
    have i0 : ∀ {p : Addr}, H p = none → p ∉ c.ι0 := fun {p} hp z => (A.fresh hp).2.2.1 (by
      obtain ⟨i, hi, e1⟩ := List.mem_iff_getElem.mp z
      exact List.mem_of_getElem? (A.pre i p (by rw [List.getElem?_eq_getElem hi, e1])))
    have f0 : ∀ {p : Addr}, H p = none → c.F0 p = none := fun {p} hp => by
      cases z : c.F0 p with
      | none => rfl
      | some u =>
        have := A.le0 p u z
        rw [(A.fresh hp).2.1] at this
        cases this
    have run : ∀ p : Addr, H p = none → tPairs (trsOf c W O ys) σ (upd H p (.dK [])) fun ps H2 => H2 p = some (.dK []) ∧ ∃ kvs : List (Key × V), ps = kvs.map (fun kv => (kV kv.1, kv.2)) ∧ kvs.length ≤ 15 ∧ Q (.ref p) (upd H2 p (.dK (mergeK [] kvs))) := fun p hp => by
      obtain ⟨q1, q2, q3, q4⟩ := A.fresh hp
      have g := Grow.fresh (o := .dK []) A.le hp
      have A1 := (A.grow g).hold (p := p) (u := .dK []) ⟨q1, q2, q3, q4⟩ upd_same
      refine pairs_rd (c0 := c) (c := c.hold p (.dK [])) ⟨rfl, rfl⟩ ys ⟨_, g4⟩ hn A1 (Fin.held q1 (f0 hp) (i0 hp) z) fun ps ds F' ι' H' e' s2 A2 rr ⟨ap, hp2, A3, hP⟩ => ⟨hp2, ?_⟩
      have hP' : Fin c W σ F' ι' (lift (dicD ds) e' s2) fun r F' ι' H' e' s' => ∀ v, RelR c F' ι' σ H' e' v r → Q v H' := hP
      simp only [lift, dicD] at hP'
      split at hP'
      case h_2 => exact hP'.elim
      rename_i a hd
      split at hd
      case h_2 => cases hd
      rename_i kd vd hu
      split at hd
      case isFalse => cases hd
      rename_i hk
      simp only [Bool.and_eq_true, decide_eq_true_eq] at hk
      cases hd
      obtain ⟨kk, xs, e1, e2, e3, rx, nd⟩ := disp_kvs rr hu hk.1
      refine ⟨kk.zip xs, e1, ?_, ?_⟩
      · have := hk.2
        rw [e3, List.length_map] at this
        rw [List.length_zip]
        omega
      · have nz : ([] ++ kk.zip xs : List (Key × V)).map (·.1) = kk := by
          rw [List.nil_append]
          exact List.map_fst_zip (by omega)
        rw [merge_nd (kk.zip xs) [] (by rw [nz]; exact nd), List.nil_append]
        have B := A3.updApart (u := .dK (kk.zip xs)) ap
        have own : ObjRel c.G F' ι' (upd H' p (.dK (kk.zip xs))) p (.dic kd vd) := ⟨kk, xs, upd_same, e2, e3, rx⟩
        exact hP' F' ι' _ (Same.refl _) (Pre.refl _) B (.ref p) ⟨p, rfl, own, ap.f, ap.i, ap.h0, ap.o⟩
    exact (pe_disp g1 g2 g3 (by simp) h15).run pins s' σ H Q I run
def Me.T : Me → String
  | .count => "list" | .join => "str" | .split => "str" | .index => "list"
def Me.id : Me → String
  | .count => "list.count" | .join => "str.join" | .split => "str.split" | .index => "list.index"
def rMe (G : Gs) (m : Me) : V → List V → Hp → VK → Prop := fun x xs H Q => ∃ F ι dx dy r y, Same F H ∧ RelX G F ι H x dx ∧ xs = [y] ∧ RelX G F ι H y dy ∧ meD m dx dy = some r ∧ Res G F ι H r Q
theorem Rels.strs {G : Gs} : ∀ {xs : List V} {ds : List D} {ns : List Str}, Rels G F ι xs ds → strsOf ds = some ns → xs = ns.map V.str
  | _, _, _, .nil, e => by simp [strsOf] at e; subst e; rfl
  | _, _, _, .cons h hs, e => by
    cases h with
    | str i =>
      simp only [strsOf, Option.map_eq_some_iff] at e
      obtain ⟨m, e', rfl⟩ := e
      rw [Rels.strs hs e']
      rfl
    | _ => simp [strsOf] at e
theorem rels_strs {G : Gs} : ∀ l : List Str, Rels G F ι (l.map V.str) (l.map D.str)
  | [] => .nil
  | a :: l => .cons (.str a) (rels_strs l)
theorem meD_ok {G : Gs} (hK : X.K = G.K) (m : Me) : MtR X m.id (rMe G m) := by
  intro pins s σ H x xs v us Q I rx rxs h
  obtain ⟨F, ι, dx, dy, r, y, ms, hx, rfl, hy, e, hr⟩ := h
  cases m with
  | count =>
    cases dx <;> cases dy <;> simp only [meD, reduceCtorEq, Option.map_eq_some_iff] at e
    obtain ⟨n, e, rfl⟩ := e
    obtain ⟨a, ys, rfl, hA, ra⟩ := hx.lst ms
    obtain rfl := ra.ints e
    obtain rfl := hy.int
    exact mt_lcount pins s σ H _ _ v us Q I rx rxs ⟨a, n, _, rfl, rfl, .inl (.inl hA), hr.val ms (.int _)⟩
  | join =>
    cases dx <;> cases dy <;> simp only [meD, reduceCtorEq] at e
    split at e
    case h_2 => cases e
    rename_i ys hs
    split at e
    case isFalse => cases e
    cases e
    obtain rfl := hx.str
    obtain ⟨a, zs, rfl, hA, ra⟩ := hy.lst ms
    obtain rfl := Rels.strs ra hs
    exact mt_join pins s σ H _ _ v us Q I rx rxs ⟨_, a, ys, rfl, rfl, .inl (.inl (.inl hA)), by assumption, hr.val ms (.str _)⟩
  | split =>
    cases dx <;> cases dy <;> simp only [meD, reduceCtorEq] at e
    split at e
    case isFalse => cases e
    rename_i hl
    cases e
    obtain rfl := hx.str
    obtain rfl := hy.str
    exact mt_split pins s σ H _ _ v us Q I rx rxs ⟨_, _, rfl, rfl, hl.1, by rw [line_eq]; exact hl.2, hr.lst ms (rels_strs _)⟩
  | index => cases dx <;> cases dy <;> simp [meD] at e
theorem Fin.needM {α : Type} {f : Unit → M α} {m : Me} {a : Ar} {v : V} {P : α → Hp → List Addr → Hp → Ev → Sto → Prop} (A : Abs c F ι σ H e s) (h : Fin c W σ F ι (bnd (needM m a) f e s) P) (ra : RelA c F ι σ v a) :
    tyV c.G.K m.T v H ∧ Fin c W σ F ι (f () e s) P := by
  unfold Mi.needM bnd at h
  rcases deref_ok A ra with z | ⟨d, z, hd⟩
  · simp only [bnd, z] at h; exact h.elim
  · simp only [bnd, z, Out.bind] at h
    by_cases hm : meR m d = true
    rotate_left
    · rw [if_neg hm] at h; exact h.elim
    rw [if_pos hm] at h
    refine ⟨?_, h⟩
    cases m <;> cases d <;> simp only [meR, Bool.false_eq_true] at hm
    · obtain ⟨p, xs, rfl, hp, _⟩ := hd.lst A.le
      exact .inl ⟨rfl, xs, .inl (.inl hp)⟩
    · obtain rfl := hd.str; rfl
    · obtain rfl := hd.str; rfl
    · obtain ⟨p, xs, rfl, hp, _⟩ := hd.lst A.le
      exact .inl ⟨rfl, xs, .inl (.inl hp)⟩
theorem base_ok {a : Expr} {m : Str} {env : PySem.Env} (h : baseOk a = true) : attributeBase a m env (eval a env) = eval a env := by
  cases a <;> first | rfl | simp [baseOk] at h
theorem me_ok (x : XOk c C O k X W) {m : Me} {o a : Expr} {mo ma : M Ar} {ap cp : Pos} (ho' : baseOk o = true) (hp : plainA a = true) (hl : (ap.endLine == cp.line) = true) (ho : PE X o (rdA c W mo)) (ha : PE X a (rdA c W ma)) :
    PE X (.Call (.Attribute o m.nm ap) [a] [] cp) (rdR c W (bnd mo fun x => bnd (needM m x) fun _ => bnd ma fun y => prim2 (meD m) x y)) := by
  have key : ∀ σ H Q, rdR c W (bnd mo fun x => bnd (needM m x) fun _ => bnd ma fun y => prim2 (meD m) x y) σ H Q → mo = mo → rdA c W mo σ H fun x H1 => tyV X.K m.T x H1 ∧ rdA c W ma σ H1 fun y H2 => rMe c.G m x [y] H2 Q := by
    intro σ H Q z _
    obtain ⟨F, ι, e, s, hn, A, z⟩ := z
    refine ⟨F, ι, e, s, hn, A, z.split.imp fun p F1 ι1 H1 e1 s1 m1 p1 A1 h1 v hv => ?_⟩
    obtain ⟨ty, h2⟩ := Fin.needM A1 h1 hv
    refine ⟨by rw [x.K]; exact ty, F1, ι1, e1, s1, hn, A1, h2.split.imp fun r F2 ι2 H2 e2 s2 m2 p2 A2 h3 u hu => ?_⟩
    obtain ⟨F3, ι3, dx, dy, r3, ms, q1, q2, q3, q4⟩ := Fin.prim2 A2 h3 (RelA.mono hv m2 p2) hu
    exact ⟨F3, ι3, dx, dy, r3, _, ms, q1, rfl, q2, q3, q4⟩
  have hm := meD_ok (X := X) (G := c.G) x.K m
  have hf : ((backTo cp (starEach [a] X.env)).all (fun x => !x.1) && (backToKw cp (keywordEach [] X.env)).all (fun x => x.1.isSome) && decide (([a] : List Expr).length + ([] : List Keyword).length + (if ([] : List Keyword).isEmpty then 0 else 1) < 30)) = true := by rw [star_plain hp]; rfl
  cases m with
  | count => exact peM (pe_bm PySem.F.plainAttrs_list PySem.F.slot_list_count PySem.F.type_list_count hm ho (pa_cons ha pa_nil (star_plain hp)) (base_ok ho') hf hl (star_plain hp) rfl) fun σ H Q z => key σ H Q z rfl
  | join => exact peM (pe_bm PySem.F.plainAttrs_str PySem.F.slot_str_join PySem.F.type_str_join hm ho (pa_cons ha pa_nil (star_plain hp)) (base_ok ho') hf hl (star_plain hp) rfl) fun σ H Q z => key σ H Q z rfl
  | split => exact peM (pe_bm PySem.F.plainAttrs_str PySem.F.slot_str_split PySem.F.type_str_split hm ho (pa_cons ha pa_nil (star_plain hp)) (base_ok ho') hf hl (star_plain hp) rfl) fun σ H Q z => key σ H Q z rfl
  | index => exact peM (pe_bm PySem.F.plainAttrs_list PySem.F.slot_list_index PySem.F.type_list_index hm ho (pa_cons ha pa_nil (star_plain hp)) (base_ok ho') hf hl (star_plain hp) rfl) fun σ H Q z => key σ H Q z rfl
theorem intsB_items {prog : Program} {w : World} : ∀ {ns : List Int} {vs : List Value}, intsB ns vs = true → ItemsAre (intKind prog w) ns vs
  | [], [], _ => .nil
  | n :: ns, .int m _ :: vs, h => by
    simp only [intsB, Bool.and_eq_true, decide_eq_true_eq] at h
    obtain ⟨rfl, h2⟩ := h
    exact .cons (by simp [intKind, Value.isInt]) (intsB_items h2)
  | [], _ :: _, h => by simp [intsB] at h
  | _ :: _, [], h => by simp [intsB] at h
  | _ :: _, .none :: _, h | _ :: _, .bool _ :: _, h | _ :: _, .str _ _ :: _, h | _ :: _, .ref _ :: _, h => by simp [intsB] at h
theorem ents_at {prog : Program} {w : World} {K : PySem.W.Frag} {hp : Heap} (kin : K.In hp) : ∀ {kvs : List (List Int × Str)} {es : List DictEntry}, entsB K kvs es = true →
    ∃ xs : List (List Int × Addr × Value), es = xs.map (entryOfKey (tupleKind (intKind prog w))) ∧ (∀ x ∈ xs, (tupleKind (intKind prog w)).is hp x.1 x.2.1) ∧ xs.map (·.1) = kvs.map (·.1) ∧
      ∀ n, (match kvs.lookup n with
        | some s => ∃ t, (valueAt (pairsH xs) n) = some (.str s t)
        | none => valueAt (pairsH xs) n = none)
  | [], [], _ => ⟨[], rfl, (fun x hx => by cases hx), rfl, fun n => rfl⟩
  | (ns, x) :: r, ⟨h0, k0, v0⟩ :: es, h => by
    cases k0 <;> first | (simp [entsB] at h; done) | skip
    cases v0 <;> first | (simp [entsB] at h; done) | skip
    rename_i b y t
    simp only [entsB, Bool.and_eq_true, decide_eq_true_eq] at h
    obtain ⟨⟨⟨rfl, h2⟩, rfl⟩, h4⟩ := h
    obtain ⟨xs, q1, q2, q3, q4⟩ := ents_at (prog := prog) (w := w) kin h4
    refine ⟨(ns, b, .str x t) :: xs, by rw [List.map_cons, ← q1]; rfl, fun z hz => ?_, by rw [List.map_cons, q3]; rfl, fun n => ?_⟩
    · rcases List.mem_cons.mp hz with e | e
      · subst e
        unfold isTupB at h2
        split at h2
        · rename_i c od its m sl q
          simp only [Bool.and_eq_true, decide_eq_true_eq] at h2
          obtain ⟨rfl, h2⟩ := h2
          exact ⟨_, its, m, kin b _ q, rfl, rfl, intsB_items h2⟩
        · cases h2
      · exact q2 z e
    · have q := q4 n
      by_cases hn : n = ns
      · subst hn
        simp only [List.lookup_cons, beq_self_eq_true]
        exact ⟨t, by simp [valueAt, pairsH]⟩
      · have e1 : ((ns, x) :: r).lookup n = r.lookup n := by
          simp only [List.lookup_cons]
          rw [show (n == ns) = false from by simpa using hn]
        have e2 : valueAt (pairsH ((ns, b, Value.str x t) :: xs)) n = valueAt (pairsH xs) n := by
          simp only [valueAt, pairsH, List.map_cons, List.find?_cons]
          rw [show decide (ns = n) = false from decide_eq_false fun z => hn z.symm]
        rw [e1, e2]
        exact q
  | [], _ :: _, h => by simp [entsB] at h
  | _ :: _, [], h => by simp [entsB] at h
theorem get2_ok (x : XOk c C O k X W) {o a b : Expr} {mo ma mb : M R} {ap cp : Pos} (ho' : baseOk o = true) (hp : plainA a = true) (hp2 : plainA b = true) (hl : (ap.endLine == cp.line) = true) (ho : PE X o (rdR c W mo)) (ha : PE X a (rdR c W ma)) (hb : PE X b (rdR c W mb)) :
    PE X (.Call (.Attribute o "get" ap) [a, b] [] cp) (rdR c W (bnd mo fun r => bnd (frz r) fun x => bnd (needT x) fun _ => bnd ma fun r => bnd (frz r) fun y => bnd mb fun r => bnd (frz r) fun z => lift (get2D x y z))) := by
  have trees : backTo cp (starEach [a, b] X.env) = [(false, eval a X.env), (false, eval b X.env)] := by rw [star_plain hp, star_plain hp2]; rfl
  refine ⟨fun pins s' σ H Q I z => ?_⟩
  obtain ⟨F, ι, e, s, hn, A, z⟩ := z
  refine wpAny_Call_method (base_ok ho') (by rw [trees]; rfl) hl PySem.F.plainAttrs_dict PySem.F.slot_dict_get PySem.F.type_dict_get (thn (ho.run pins s' σ H (fun v H1 => ∃ a' kvs, v = .ref a' ∧ tabB c.G.K kvs a' = true ∧ rdR c W (bnd ma fun r => bnd (frz r) fun y => bnd mb fun r => bnd (frz r) fun z => lift (get2D (.tab kvs) y z)) σ H1 Q) I
    ⟨F, ι, e, s, hn, A, z.split.imp fun r F1 ι1 H1 e1 s1 m1 p1 A1 h1 v hv => ?_⟩) fun u s1 ⟨v, H1, I1, rv, a', kvs, ev, ht, z1⟩ => ?_)
  · obtain ⟨F2, d, m2, A2, rd, q⟩ := Fin.frz A1 h1.split hv
    cases rd with
    | tab ht => exact ⟨_, _, rfl, ht, F2, ι1, e1, s1, hn, A2, q⟩
    | _ => exact q.elim
  · subst ev
    obtain rfl : u = Value.ref a' := rv
    unfold tabB at ht
    split at ht
    case h_2 => cases ht
    rename_i cn es ep sl hk
    simp only [Bool.and_eq_true, decide_eq_true_eq, Bool.not_eq_true'] at ht
    obtain ⟨⟨⟨⟨rfl, h2⟩, h3⟩, h4⟩, h5⟩ := ht
    have hsl : sl = #[] := Array.isEmpty_iff.mp h2
    subst hsl
    rw [← x.K] at hk h4
    have dict : ∀ {h : Heap}, X.K.In h → ∃ kk : List (List Int × Value), h.DictKeyed (tupleKind (intKind X.prog X.w)) a' kk ∧ ∀ n, (match kvs.lookup n with
        | some s => ∃ t, valueAt kk n = some (.str s t)
        | none => valueAt kk n = none) := fun {h} kin => by
      obtain ⟨xs, q1, q2, q3, q4⟩ := ents_at (prog := X.prog) (w := X.w) kin h4
      exact ⟨pairsH xs, ⟨xs, ⟨_, es, ep, kin a' _ hk, ⟨rfl, rfl, rfl⟩, rfl, q1, q2, by rw [q3]; exact h5⟩, rfl⟩, q4⟩
    obtain ⟨F1, ι1, e1, s2, _, A1, z1⟩ := z1
    refine ⟨⟨_, I1.kIn a' _ hk, rfl⟩, (fun b hb => by cases hb; exact ⟨_, I1.kIn a' _ hk, rfl⟩), ?_⟩
    rw [trees]
    refine Calls.callWith_builtin rfl (Calls.evalArgs_plain (Calls.spliced_cons (thn (ha.run pins s1 σ H1 (fun v H2 => ∃ y F2 ι2 e2 s2, Rel c.G F2 ι2 v y ∧ Abs c F2 ι2 σ H2 e2 s2 ∧ Fin c W σ F2 ι2 (bnd mb (fun r => bnd (frz r) fun z => lift (get2D (.tab kvs) y z)) e2 s2) fun r F' ι' H' e' s' => ∀ v, RelR c F' ι' σ H' e' v r → Q v H') I1
      ⟨F1, ι1, e1, s2, hn, A1, z1.split.imp fun r F2 ι2 H2 e2 s3 m2 p2 A2 q2 v hv => ?_⟩) fun iv s3 ⟨y, H2, I2, ry, dy, F2, ι2, e2, s4, rdy, A2, z2⟩ =>
      Calls.spliced_cons (thn (hb.run pins s3 σ H2 (fun v H3 => ∃ z F3 ι3 e3 s5, Rel c.G F3 ι3 v z ∧ Rel c.G F3 ι3 y dy ∧ Abs c F3 ι3 σ H3 e3 s5 ∧ Fin c W σ F3 ι3 (lift (get2D (.tab kvs) dy z) e3 s5) fun r F' ι' H' e' s' => ∀ v, RelR c F' ι' σ H' e' v r → Q v H') I2
        ⟨F2, ι2, e2, s4, hn, A2, z2.split.imp fun r F3 ι3 H3 e3 s5 m3 p3 A3 q3 v hv => ?_⟩) fun fv s5 ⟨zz, H3, I3, rz, dz, F3, ι3, e3, s6, rdz, rdy3, A3, z3⟩ => Calls.spliced_nil ?_))))
    · obtain ⟨F3, d, m3, A3, rd, q3⟩ := Fin.frz A2 q2.split hv
      exact ⟨d, F3, ι2, e2, s3, rd, A3, q3⟩
    · obtain ⟨F4, d, m4, A4, rd, q4⟩ := Fin.frz A3 q3.split hv
      exact ⟨d, F4, ι3, e3, s5, rd, (rdy.mono m3 p3).mono m4 (Pre.refl _), A4, q4⟩
    · cases rdy3 with
      | @tup b xs ds hT hs =>
        simp only [get2D, lift] at z3
        cases hi : intsOf ds with
        | none => rw [hi] at z3; exact z3.elim
        | some ns =>
          rw [hi] at z3
          have hxs := Rels.ints hs hi
          subst hxs
          have hT' : SqT X.K H3 b (ns.map V.int) := by rw [x.K]; exact sqT_mono A3.le hT
          obtain ⟨its, rv, pt, hz⟩ := I3.tuple hT'
          cases ry
          obtain ⟨kk, dk, hkk⟩ := dict I3.kIn
          have hkey : (tupleKind (intKind X.prog X.w)).is s5.heap ns b := by
            obtain ⟨ob, hob, hcl, nn, hdd⟩ := pt
            have items : ∀ {ns : List Int} {its : List Value}, Vals (ns.map V.int) its → ItemsAre (intKind X.prog X.w) ns its := fun {ns} => by
              induction ns with
              | nil => intro its r; cases r; exact .nil
              | cons n ns ih =>
                intro its r
                cases r with
                | cons r1 r2 =>
                  obtain ⟨t, rfl⟩ := r1
                  exact .cons (by simp [intKind, Value.isInt]) (ih r2)
            exact ⟨ob, its.toArray, nn, hob, hcl, hdd, items rv⟩
          refine getOr_keyed (knd := tupleKind (intKind X.prog X.w)) (k := ns) (by have := x.hu; show X.A.units + 1 < _; omega) hkey h3 dk ?_
          have fin : ∀ v, RelR c F3 ι3 σ H3 e3 v (.val (match kvs.lookup ns with
            | some v => .str v
            | none => dz)) → Q v H3 := z3.ok A3
          have hl := hkk ns
          cases hq : kvs.lookup ns with
          | some sv =>
            rw [hq] at hl fin
            obtain ⟨t, hv⟩ := hl
            rw [hv]
            exact ⟨.str sv, H3, I3.tok _, ⟨t, rfl⟩, fin (.str sv) (.str sv)⟩
          | none =>
            rw [hq] at hl fin
            have hv : valueAt kk ns = none := hl
            rw [hv]
            exact ⟨zz, H3, I3.tok _, rz, fin zz rdz⟩
      | _ => exact z3.elim
theorem lrange_ok (x : XOk c C O k X W) {a : Expr} {m : M R} (hg : C.glb "list" = true) (hg2 : C.glb "range" = true) (hp : plainA a = true) (h : PE X a (rdR c W m)) : PE X (.Call (.Name "list" p1) [.Call (.Name "range" p2) [a] [] p3] [] pos) (rdR c W (bnd m fun r => bnd (asInt r) fun k => if k.natAbs ≤ line then ret (.new (.lst ((List.range k.toNat).map fun (i : Nat) => .int i))) else badM)) := by
  refine peM (pe_listRg x.calm (x.glb hg) (x.free _ (by decide +kernel)) (prg_1 (x.glb hg2) (x.free _ (by decide +kernel)) h (star_plain hp))) fun σ H Q z => ?_
  obtain ⟨F, ι, e, s, hn, A, z⟩ := z
  refine ⟨F, ι, e, s, hn, A, z.split.imp fun r F1 ι1 H1 e1 s1 m1 p1 A1 h1 v hv => ?_⟩
  obtain ⟨b, rfl, rfl, h2⟩ := Fin.asInt h1 hv
  refine ⟨b, rfl, ?_⟩
  split at h2
  case isFalse => exact h2.elim
  rename_i hb
  have hb' : b.natAbs ≤ 16777216 := hb
  refine ⟨⟨by omega, by omega, by omega, by omega, by omega⟩, fun p hp => ?_⟩
  have g := Grow.fresh (o := .lst (rgV 0 b)) A1.le hp
  obtain ⟨q1, q2, q3, q4⟩ := A1.fresh hp
  have rr : ∀ (n : Nat), Rels c.G F1 ι1 ((List.range n).map fun i => V.int (0 + (i : Nat))) ((List.range n).map fun (i : Nat) => D.int i) := fun n => by
    induction n with
    | zero => exact .nil
    | succ n ih =>
      rw [List.range_succ, List.map_append, List.map_append]
      refine ih.append (.cons ?_ .nil)
      show Rel c.G F1 ι1 (V.int (0 + (n : Nat))) (D.int (n : Nat))
      rw [Int.zero_add]
      exact .int _
  have ev : rgV 0 b = (List.range b.toNat).map fun i => V.int (0 + (i : Nat)) := by
    unfold rgV
    rw [Int.sub_zero]
  exact h2 F1 ι1 _ g.f (Pre.refl _) (A1.grow g) (.ref p) ⟨p, rfl, ⟨rgV 0 b, upd_same, by rw [ev]; exact rr _⟩, q2, q3, q1, q4⟩
end
end Mi
namespace Mi
open PySem PySem.Spec PyProof.Rows L2
theorem tst_he {a : Expr} {env : PySem.Env} (h1 : ∀ op vs p, a ≠ .BoolOp op vs p) (h2 : ∀ x p, a ≠ .UnaryOp .Not x p) (h3 : ∀ x y z p, a ≠ .IfExp x y z p) (h4 : ∀ x y z p, a ≠ .Compare x y z p) : ∀ whole, isTrue a env whole = (do let v ← whole; standAt a.pos; holding [v] (truthy v)) := by
  intro whole
  cases a with
  | BoolOp op vs p => exact absurd rfl (h1 op vs p)
  | UnaryOp op x p => cases op <;> first | rfl | exact absurd rfl (h2 x p)
  | IfExp x y z p => exact absurd rfl (h3 x y z p)
  | Compare x y z p => exact absurd rfl (h4 x y z p)
  | _ => rfl
section
variable {O : Orc} {k : Nat}
theorem asA_chk {c : Act} {C : CC} {X : Cx} {W : Wh} (x : XOk c C O k X W) {y : E} {a : Expr} (hc : chkE C y a = true) (h : PE X a (rdR c W (evE O y))) : PE X a (rdA c W (asA y (evE O y))) := by
  cases y with
  | var i =>
    cases a <;> first | (simp [chkE] at hc; done) | skip
    simp only [chkE, Bool.and_eq_true] at hc
    exact varA_ok x hc.1.1 hc.1.2 hc.2 _
  | _ => exact asA_ok (by intro i z; cases z) h
def PEok (O : Orc) (k : Nat) (y : E) : Prop := ∀ {c : Act} {C : CC} {X : Cx} {W : Wh} {a : Expr}, XOk c C O k X W → chkE C y a = true → PE X a (rdR c W (evE O y))
def PTok (O : Orc) (k : Nat) (y : E) : Prop := ∀ {c : Act} {C : CC} {X : Cx} {W : Wh} {a : Expr}, XOk c C O k X W → okT y = true → chkE C y a = true → PT X a (rdB c W (bnd (evE O y) asBl))
def PWok (O : Orc) (k : Nat) (y : E) : Prop := ∀ {c : Act} {C : CC} {X : Cx} {W : Wh} {op : BoolOp} {vs : List Expr} {p : Pos}, XOk c C O k X W → okT y = true → chkE C y (.BoolOp op vs p) = true → PW X (.BoolOp op vs p) (rdB c W (bnd (evE O y) asBl))
def PVok (O : Orc) (k : Nat) (ys : List E) : Prop := ∀ {c : Act} {C : CC} {X : Cx} {W : Wh} {es : List Expr}, XOk c C O k X W → chkEs C ys es = true → PA X es (rdVs c W (evVs O ys))
def PAok (O : Orc) (k : Nat) (ys : List E) : Prop := ∀ {c : Act} {C : CC} {X : Cx} {W : Wh} {es : List Expr}, XOk c C O k X W → chkEs C ys es = true → PA X es (rdAs c W (evAs O ys))
def PIok (O : Orc) (k : Nat) (y : I) : Prop := ∀ {c : Act} {C : CC} {X : Cx} {W : Wh} {tg a : Expr}, XOk c C O k X W → chkI C (isTup tg) y a = true → PI X tg a (rdI c W (evI O y))
theorem E_var {i : Nat}  : PEok O k (.var i) := by
  intro c C X W a x h
  cases a <;> first | (simp [chkE] at h; done) | skip
  simp only [chkE, Bool.and_eq_true] at h
  exact var_ok x h.1.1 h.1.2 h.2
theorem E_cst {d : D}  : PEok O k (.cst d) := by
  intro c C X W a x h
  cases a <;> first | (simp [chkE] at h; done) | skip
  exact cst_ok (by simpa [chkE] using h)
theorem E_glob {g : Nat}  : PEok O k (.glob g) := by
  intro c C X W a x h
  cases a <;> first | (simp [chkE] at h; done) | skip
  simp only [chkE, Bool.and_eq_true, decide_eq_true_eq] at h
  exact glob_ok x h.1.1.1 h.1.1.2 h.1.2 h.2
theorem E_tup {es : List E} (ves : PVok O k es) : PEok O k (.tup es) := by
  intro c C X W a x h
  cases a <;> first | (simp [chkE] at h; done) | skip
  exact tup_ok (ves x (by simpa [chkE] using h))
theorem E_lst {es : List E} (ves : PVok O k es) : PEok O k (.lst es) := by
  intro c C X W a x h
  cases a <;> first | (simp [chkE] at h; done) | skip
  exact lst_ok (ves x (by simpa [chkE] using h))
theorem E_bin {op : Operator} {y : E} {z : E} (ey : PEok O k y) (ez : PEok O k z) : PEok O k (.bin op y z) := by
  intro c C X W a x h
  cases a <;> first | (simp [chkE] at h; done) | skip
  simp only [chkE, Bool.and_eq_true, decide_eq_true_eq] at h
  obtain ⟨⟨rfl, h1⟩, h2⟩ := h
  exact bin_ok x (asA_chk x h1 (ey x h1)) (asA_chk x h2 (ez x h2))
theorem E_neg {y : E} (ey : PEok O k y) : PEok O k (.neg y) := by
  intro c C X W a x h
  cases a <;> first | (simp [chkE] at h; done) | skip
  rename_i op a p
  cases op <;> first | (simp [chkE] at h; done) | skip
  have h1 : chkE C y a = true := by simpa [chkE] using h
  exact neg_ok (asA_chk x h1 (ey x h1))
theorem E_not {y : E} (ey : PEok O k y) : PEok O k (.not y) := by
  intro c C X W a x h
  cases a <;> first | (simp [chkE] at h; done) | skip
  rename_i op a p
  cases op <;> first | (simp [chkE] at h; done) | skip
  exact not_ok (ey x (by simpa [chkE] using h))
theorem E_and {y : E} {z : E} (ey : PEok O k y) (ez : PEok O k z) : PEok O k (.and y z) := by
  intro c C X W a x h
  cases a <;> first | (simp [chkE] at h; done) | skip
  rename_i op vs p
  cases op <;> first | (simp [chkE] at h; done) | skip
  rcases vs with _ | ⟨a, _ | ⟨b, r⟩⟩ <;> first | (simp [chkE] at h; done) | skip
  simp only [chkE, Bool.and_eq_true] at h
  refine and_ok (ey x h.1) ?_
  cases r with
  | nil => exact pe_one (ez x h.2)
  | cons _ _ => exact ez x h.2
theorem E_or {y : E} {z : E} (ey : PEok O k y) (ez : PEok O k z) : PEok O k (.or y z) := by
  intro c C X W a x h
  cases a <;> first | (simp [chkE] at h; done) | skip
  rename_i op vs p
  cases op <;> first | (simp [chkE] at h; done) | skip
  rcases vs with _ | ⟨a, _ | ⟨b, r⟩⟩ <;> first | (simp [chkE] at h; done) | skip
  simp only [chkE, Bool.and_eq_true] at h
  refine or_ok (ey x h.1) ?_
  cases r with
  | nil => exact pe_one (ez x h.2)
  | cons _ _ => exact ez x h.2
theorem E_ife {t : E} {y : E} {z : E} (tt : PTok O k t) (ey : PEok O k y) (ez : PEok O k z) : PEok O k (.ife t y z) := by
  intro c C X W a x h
  cases a <;> first | (simp [chkE] at h; done) | skip
  simp only [chkE, Bool.and_eq_true] at h
  exact ife_ok (tt x h.1.1.1 h.1.1.2) (ey x h.1.2) (ez x h.2)
theorem E_cmp {op : CmpOp} {y : E} {z : E} (ey : PEok O k y) (ez : PEok O k z) : PEok O k (.cmp op y z) := by
  intro c C X W a x h
  cases a <;> first | (simp [chkE] at h; done) | skip
  rename_i a ops bs p
  rcases ops with _ | ⟨o, _ | ⟨o2, ops⟩⟩ <;> rcases bs with _ | ⟨b, _ | ⟨b2, bs⟩⟩ <;> first | (simp [chkE] at h; done) | skip
  simp only [chkE, Bool.and_eq_true, decide_eq_true_eq] at h
  obtain ⟨⟨⟨rfl, h0⟩, h1⟩, h2⟩ := h
  exact cmp_ok x h0 (asA_chk x h1 (ey x h1)) (asA_chk x h2 (ez x h2))
theorem E_chain {o1 : CmpOp} {o2 : CmpOp} {y : E} {z : E} {w : E} (ey : PEok O k y) (ez : PEok O k z) (ew : PEok O k w) : PEok O k (.chain o1 o2 y z w) := by
  intro c C X W a x h
  cases a <;> first | (simp [chkE] at h; done) | skip
  rename_i a ops bs p
  rcases ops with _ | ⟨o, _ | ⟨o2', _ | ⟨o3, ops⟩⟩⟩ <;> rcases bs with _ | ⟨b, _ | ⟨b2, _ | ⟨b3, bs⟩⟩⟩ <;> first | (simp [chkE] at h; done) | skip
  simp only [chkE, Bool.and_eq_true, decide_eq_true_eq] at h
  obtain ⟨⟨⟨⟨⟨rfl, rfl⟩, h0⟩, h1⟩, h2⟩, h3⟩ := h
  exact chain_ok x h0 (asA_chk x h1 (ey x h1)) (asA_chk x h2 (ez x h2)) (asA_chk x h3 (ew x h3))
theorem E_ix {y : E} {z : E} (ey : PEok O k y) (ez : PEok O k z) : PEok O k (.ix y z) := by
  intro c C X W a x h
  cases a <;> first | (simp [chkE] at h; done) | skip
  simp only [chkE, Bool.and_eq_true] at h
  exact ix_ok x h.1.1 (asA_chk x h.1.2 (ey x h.1.2)) (asA_chk x h.2 (ez x h.2))
theorem E_sl {y : E} {lo : E} {hi : E} (ey : PEok O k y) (elo : PEok O k lo) (ehi : PEok O k hi) : PEok O k (.sl y lo hi) := by
  intro c C X W a x h
  cases a <;> first | (simp [chkE] at h; done) | skip
  rename_i a sl p
  cases sl <;> first | (simp [chkE] at h; done) | skip
  rename_i lo' hi' st p2
  cases st <;> first | (simp [chkE] at h; done) | skip
  simp only [chkE, Bool.and_eq_true] at h
  exact sl_ok x (asA_chk x h.1.1 (ey x h.1.1)) (part_ok lo h.1.2 fun a ha => elo x ha) (part_ok hi h.2 fun a ha => ehi x ha)
theorem E_rev {y : E} (ey : PEok O k y) : PEok O k (.rev y) := by
  intro c C X W a x h
  cases a <;> first | (simp [chkE] at h; done) | skip
  rename_i a sl p
  unfold chkE at h
  split at h <;> first | (cases h; done) | skip
  all_goals first | (rename_i e1 e2; cases e1) | skip
  all_goals first | (rename_i e2; cases e2) | skip
  all_goals exact rev_ok x (asA_chk x h (ey x h))
theorem E_isi {y : E} {t : Ty} (ey : PEok O k y) : PEok O k (.isi y t) := by
  intro c C X W a x h
  cases a <;> first | (simp [chkE] at h; done) | skip
  rename_i f as kw p
  cases f <;> first | (simp [chkE] at h; done) | skip
  rcases as with _ | ⟨a, _ | ⟨b, _ | ⟨b3, bs⟩⟩⟩ <;> first | (simp [chkE] at h; done) | skip
  cases b <;> first | (simp [chkE] at h; done) | skip
  cases kw <;> first | (simp [chkE] at h; done) | skip
  simp only [chkE, Bool.and_eq_true, decide_eq_true_eq] at h
  obtain ⟨⟨⟨⟨⟨rfl, h1⟩, rfl⟩, h2⟩, h3⟩, h4⟩ := h
  exact isi_ok x h3 h1 h2 (asA_chk x h4 (ey x h4))
theorem E_bi {b : Bi} {ys : List E} (ays : PAok O k ys) : PEok O k (.bi b ys) := by
  intro c C X W a x h
  cases ys with
  | nil => cases a <;> simp [chkE] at h
  | cons y ys =>
  cases a <;> first | (simp [chkE] at h; done) | skip
  rename_i f as kw p
  cases f <;> first | (simp [chkE] at h; done) | skip
  rcases as with _ | ⟨a, as⟩ <;> first | (simp [chkE] at h; done) | skip
  cases kw <;> first | (simp [chkE] at h; done) | skip
  simp only [chkE, Bool.and_eq_true, decide_eq_true_eq] at h
  obtain ⟨⟨⟨⟨rfl, h1⟩, h2⟩, h3⟩, h4⟩ := h
  exact bi_ok x (by simp [plainAs, h2, chkEs_plain h4]) h1 (ays x (by simp [chkEs, h2, h3, h4]))
theorem E_call {g : Nat} {ys : List E} (vys : PVok O k ys) : PEok O k (.call g ys) := by
  intro c C X W a x h
  cases a <;> first | (simp [chkE] at h; done) | skip
  rename_i f as kw p
  cases f <;> first | (simp [chkE] at h; done) | skip
  cases kw <;> first | (simp [chkE] at h; done) | skip
  simp only [chkE, Bool.and_eq_true, decide_eq_true_eq] at h
  obtain ⟨⟨⟨⟨h0, h1⟩, h2⟩, h3⟩, h4⟩ := h
  cases as with
  | nil =>
    cases ys with
    | nil => exact call_ok0 x h0 h1 h2 h3
    | cons _ _ => simp [chkEs] at h4
  | cons a as => exact call_ok x h0 h1 h2 h3 (chkEs_plain h4) (vys x h4)
theorem E_calle {f : E} {ys : List E} (ef : PEok O k f) (vys : PVok O k ys) : PEok O k (.calle f ys) := by
  intro c C X W a x h
  cases a <;> first | (simp [chkE] at h; done) | skip
  rename_i f' as kw p
  cases kw <;> first | (simp [chkE] at h; done) | skip
  simp only [chkE, Bool.and_eq_true] at h
  obtain ⟨⟨⟨h0, h00⟩, h1⟩, h2⟩ := h
  cases as with
  | nil => simp at h00
  | cons a as => exact calle_ok x (by cases f' <;> simp_all [isCall]) (ef x h1) (chkEs_plain h2) (vys x h2)
theorem E_pop {y : E} {z : E} (ey : PEok O k y) (ez : PEok O k z) : PEok O k (.pop y z) := by
  intro c C X W a x h
  cases a <;> first | (simp [chkE] at h; done) | skip
  rename_i f as kw p
  cases f <;> first | (simp [chkE] at h; done) | skip
  rcases as with _ | ⟨a, _ | ⟨b, bs⟩⟩ <;> first | (simp [chkE] at h; done) | skip
  cases kw <;> first | (simp [chkE] at h; done) | skip
  rename_i o m ap
  simp only [chkE, Bool.and_eq_true, decide_eq_true_eq] at h
  obtain ⟨⟨⟨⟨⟨h0, rfl⟩, h1⟩, h2⟩, h3⟩, h4⟩ := h
  exact pop_ok x (by cases o <;> simp_all [isName]) h2 h1 (asA_chk x h3 (ey x h3)) (ez x h4)
theorem E_dic {ys : List E} (vys : ∀ y ∈ ys, PEok O k y) : PEok O k (.dic ys) := by
  intro c C X W a x h
  cases a <;> first | (simp [chkE] at h; done) | skip
  simp only [chkE, Bool.and_eq_true, decide_eq_true_eq] at h
  exact dic_ok x (fun y hy c' hc' a' ha => vys y hy (x.act hc'.1 hc'.2) ha) h.1 h.2
theorem E_me {m : Me} {y : E} {z : E} (ey : PEok O k y) (ez : PEok O k z) : PEok O k (.me m y z) := by
  intro c C X W a x h
  cases a <;> first | (simp [chkE] at h; done) | skip
  rename_i f as kw p
  cases f <;> first | (simp [chkE] at h; done) | skip
  rcases as with _ | ⟨a, _ | ⟨b, bs⟩⟩ <;> first | (simp [chkE] at h; done) | skip
  cases kw <;> first | (simp [chkE] at h; done) | skip
  simp only [chkE, Bool.and_eq_true, decide_eq_true_eq] at h
  obtain ⟨⟨⟨⟨⟨h0, rfl⟩, h1⟩, h2⟩, h3⟩, h4⟩ := h
  exact me_ok x h0 h2 h1 (asA_chk x h3 (ey x h3)) (asA_chk x h4 (ez x h4))
theorem E_get2 {y z w : E} (ey : PEok O k y) (ez : PEok O k z) (ew : PEok O k w) : PEok O k (.get2 y z w) := by
  intro c C X W a x h
  cases a <;> first | (simp [chkE] at h; done) | skip
  rename_i f as kw p
  cases f <;> first | (simp [chkE] at h; done) | skip
  rcases as with _ | ⟨a, _ | ⟨b, _ | ⟨b2, bs⟩⟩⟩ <;> first | (simp [chkE] at h; done) | skip
  cases kw <;> first | (simp [chkE] at h; done) | skip
  simp only [chkE, Bool.and_eq_true, decide_eq_true_eq] at h
  obtain ⟨⟨⟨⟨⟨⟨h0, rfl⟩, h1⟩, h2, h2'⟩, h3⟩, h4⟩, h5⟩ := h
  exact get2_ok x h0 h2 h2' h1 (ey x h3) (ez x h4) (ew x h5)
theorem E_lrange {y : E} (ey : PEok O k y) : PEok O k (.lrange y) := by
  intro c C X W a x h
  cases a <;> first | (simp [chkE] at h; done) | skip
  rename_i f as kw p
  cases f <;> first | (simp [chkE] at h; done) | skip
  rcases as with _ | ⟨a, _ | ⟨b, bs⟩⟩ <;> first | (simp [chkE] at h; done) | skip
  cases kw <;> first | (cases a <;> simp [chkE] at h; done) | skip
  cases a <;> first | (simp [chkE] at h; done) | skip
  rename_i f2 as2 kw2 p2
  cases f2 <;> first | (simp [chkE] at h; done) | skip
  rcases as2 with _ | ⟨a2, _ | ⟨b2, bs2⟩⟩ <;> first | (simp [chkE] at h; done) | skip
  cases kw2 <;> first | (simp [chkE] at h; done) | skip
  simp only [chkE, Bool.and_eq_true, decide_eq_true_eq] at h
  obtain ⟨⟨⟨⟨⟨rfl, h1⟩, rfl⟩, h2⟩, h3⟩, h4⟩ := h
  exact lrange_ok x h1 h2 h3 (ey x h4)
theorem E_alloc {y : E} (ey : PEok O k y) : PEok O k (.alloc y) := by
  intro c C X W a x h
  have h1 : newish a = true ∧ chkE C y a = true := by
    cases a <;> first | (simp only [chkE, Bool.and_eq_true] at h; exact h) | (simp [chkE, newish] at h; done)
  exact alloc_ok (ey x h1.2)
theorem E_comp {elt : E} {tg : T} {it : I} {cc : E} {own : List Nat} (eelt : PEok O k elt) (iit : PIok O k it) (tcc : PTok O k cc) : PEok O k (.comp elt tg it cc own) := by
  intro c C X W a x h
  cases a <;> first | (simp [chkE] at h; done) | skip
  rename_i elt' gs scope p
  rcases gs with _ | ⟨⟨tg', it', ifs', as'⟩, _ | ⟨g2, gs⟩⟩ <;> first | (simp [chkE] at h; done) | skip
  by_cases has : as' = 0
  rotate_left
  · exfalso; revert h; simp [chkE, has]
  subst has
  simp only [chkE, Bool.and_eq_true] at h
  obtain ⟨⟨⟨⟨⟨⟨⟨h1, h2⟩, h3⟩, h4⟩, h5⟩, h6⟩, h7⟩, h8⟩ := h
  refine comp_ok x h1 h2 (fun j hj => by simpa using List.all_eq_true.mp h3 j hj) (iit x h4) h5 (fun s H Ca cl fp => ?_) (fun s H Ca cl fp => bkR_ok fun c' hc' => eelt (x.blk h1 hc' s H Ca cl fp) h6)
  unfold condC at h8
  split at h8
  · exact pts_no
  · cases h8
  · rename_i e' hne
    exact pts_cond (fun z => by subst z; exact hne rfl) (bkB_ok fun c' hc' => tcc (x.blk h1 hc' s H Ca cl fp) h7 h8)
  · cases h8
theorem cond_ok {X : Cx} {C' : CC} {G : Gs} {n : Nat} {cc : E} {ifs : List Expr} (h8 : condC cc ifs (fun e' => chkE C' cc e') = true) (h : ∀ e', chkE C' cc e' = true → PT X e' (bkB G n (bnd (evE O cc) asBl))) : PTs X ifs (bkB G n (condOf cc (evE O cc))) := by
  unfold condC at h8
  split at h8
  · exact pts_no
  · cases h8
  · rename_i e' hne
    exact pts_cond (fun z => by subst z; exact hne rfl) (h e' h8)
  · cases h8
theorem E_comp2 {elt : E} {tg : T} {it : I} {cc : E} {tg1 : T} {it1 : I} {cc1 : E} {own own1 : List Nat} (eelt : PEok O k elt) (iit : PIok O k it) (tcc : PTok O k cc) (iit1 : PIok O k it1) (tcc1 : PTok O k cc1) : PEok O k (.comp2 elt tg it cc tg1 it1 cc1 own own1) := by
  intro c C X W a x h
  cases a <;> first | (simp [chkE] at h; done) | skip
  rename_i elt' gs scope p
  rcases gs with _ | ⟨⟨tg', it', ifs', as'⟩, _ | ⟨⟨tg1', it1', ifs1', as1'⟩, _ | ⟨g3, gs⟩⟩⟩ <;> first | (simp [chkE] at h; done) | skip
  by_cases has : as' = 0
  rotate_left
  · exfalso; revert h; simp [chkE, has]
  subst has
  by_cases has1 : as1' = 0
  rotate_left
  · exfalso; revert h; simp [chkE, has1]
  subst has1
  simp only [chkE, Bool.and_eq_true] at h
  obtain ⟨⟨⟨⟨⟨⟨⟨⟨h1, h2, h2'⟩, ⟨h3, h3'⟩, h3''⟩, h4⟩, h4'⟩, h5, h5'⟩, h6⟩, h7, h7'⟩, h8, h8'⟩ := h
  exact comp2_ok x h1 h2 h2' (fun j hj => by simpa using List.all_eq_true.mp h3 j hj) (fun j hj => by simpa using List.all_eq_true.mp h3' j hj) (fun j hj => by simpa using List.all_eq_true.mp h3'' j hj) (iit x h4) h5 h5'
    (fun s H Ca cl fp => bkI_ok fun c' hc' => iit1 (x.blk h1 hc' s H Ca cl fp) h4') (fun s H Ca cl fp => cond_ok h8 fun e' he => bkB_ok fun c' hc' => tcc (x.blk h1 hc' s H Ca cl fp) h7 he)
    (fun s H Ca cl fp => cond_ok h8' fun e' he => bkB_ok fun c' hc' => tcc1 (x.blk h1 hc' s H Ca cl fp) h7' he) (fun s H Ca cl fp => bkR_ok fun c' hc' => eelt (x.blk h1 hc' s H Ca cl fp) h6)
theorem T_not {y : E} (ty : PTok O k y) : PTok O k (.not y) := by
  intro c C X W a x ht h
  cases a <;> first | (simp [chkE] at h; done) | skip
  rename_i op a p
  cases op <;> first | (simp [chkE] at h; done) | skip
  exact tst_not (ty x (by simpa [okT] using ht) (by simpa [chkE] using h))
theorem T_cmp {op : CmpOp} {y : E} {z : E} (ey : PEok O k y) (ez : PEok O k z) : PTok O k (.cmp op y z) := by
  intro c C X W a x ht h
  cases a <;> first | (simp [chkE] at h; done) | skip
  rename_i a ops bs p
  rcases ops with _ | ⟨o, _ | ⟨o2, ops⟩⟩ <;> rcases bs with _ | ⟨b, _ | ⟨b2, bs⟩⟩ <;> first | (simp [chkE] at h; done) | skip
  simp only [chkE, Bool.and_eq_true, decide_eq_true_eq] at h
  obtain ⟨⟨⟨rfl, h0⟩, h1⟩, h2⟩ := h
  exact tst_cmp x h0 (asA_chk x h1 (ey x h1)) (asA_chk x h2 (ez x h2))
theorem T_chain {o1 : CmpOp} {o2 : CmpOp} {y : E} {z : E} {w : E} (ey : PEok O k y) (ez : PEok O k z) (ew : PEok O k w) : PTok O k (.chain o1 o2 y z w) := by
  intro c C X W a x ht h
  cases a <;> first | (simp [chkE] at h; done) | skip
  rename_i a ops bs p
  rcases ops with _ | ⟨o, _ | ⟨o2', _ | ⟨o3, ops⟩⟩⟩ <;> rcases bs with _ | ⟨b, _ | ⟨b2, _ | ⟨b3, bs⟩⟩⟩ <;> first | (simp [chkE] at h; done) | skip
  simp only [chkE, Bool.and_eq_true, decide_eq_true_eq] at h
  obtain ⟨⟨⟨⟨⟨rfl, rfl⟩, h0⟩, h1⟩, h2⟩, h3⟩ := h
  exact tst_chain x h0 (asA_chk x h1 (ey x h1)) (asA_chk x h2 (ez x h2)) (asA_chk x h3 (ew x h3))
theorem W_and {y z : E} (ty : PTok O k y) (tz : PTok O k z) (wz : PWok O k z) : PWok O k (.and y z) := by
  intro c C X W op vs p x ht h
  cases op <;> first | (simp [chkE] at h; done) | skip
  rcases vs with _ | ⟨a, _ | ⟨b, r⟩⟩ <;> first | (simp [chkE] at h; done) | skip
  simp only [chkE, Bool.and_eq_true] at h
  simp only [okT, Bool.and_eq_true] at ht
  refine tst_and (ty x ht.1 h.1) ?_
  cases r with
  | nil => exact pw_and1 (tz x ht.2 h.2)
  | cons _ _ => exact wz x ht.2 h.2
theorem W_or {y z : E} (ty : PTok O k y) (tz : PTok O k z) (wz : PWok O k z) : PWok O k (.or y z) := by
  intro c C X W op vs p x ht h
  cases op <;> first | (simp [chkE] at h; done) | skip
  rcases vs with _ | ⟨a, _ | ⟨b, r⟩⟩ <;> first | (simp [chkE] at h; done) | skip
  simp only [chkE, Bool.and_eq_true] at h
  simp only [okT, Bool.and_eq_true] at ht
  refine tst_or (ty x ht.1 h.1) ?_
  cases r with
  | nil => exact pw_or1 (tz x ht.2 h.2)
  | cons _ _ => exact wz x ht.2 h.2
theorem I_seq {y : E} (ey : PEok O k y) : PIok O k (.seq y) := by
  intro c C X W tg a x h
  exact seq_ok x (ey x (by simpa [chkI] using h))
theorem I_range {y : E} (ey : PEok O k y) : PIok O k (.range y) := by
  intro c C X W tg a x h
  cases a <;> first | (simp [chkI] at h; done) | skip
  rename_i f as kw p
  cases f <;> first | (simp [chkI] at h; done) | skip
  rcases as with _ | ⟨a, _ | ⟨b, bs⟩⟩ <;> first | (simp [chkI] at h; done) | skip
  cases kw <;> first | (simp [chkI] at h; done) | skip
  simp only [chkI, Bool.and_eq_true, decide_eq_true_eq] at h
  obtain ⟨⟨⟨rfl, h1⟩, h2⟩, h3⟩ := h
  exact range_ok x h2 h1 (ey x h3)
theorem I_range2 {y : E} {z : E} (ey : PEok O k y) (ez : PEok O k z) : PIok O k (.range2 y z) := by
  intro c C X W tg a x h
  cases a <;> first | (simp [chkI] at h; done) | skip
  rename_i f as kw p
  cases f <;> first | (simp [chkI] at h; done) | skip
  rcases as with _ | ⟨a, _ | ⟨b, _ | ⟨b2, bs⟩⟩⟩ <;> first | (simp [chkI] at h; done) | skip
  cases kw <;> first | (simp [chkI] at h; done) | skip
  simp only [chkI, Bool.and_eq_true, decide_eq_true_eq] at h
  obtain ⟨⟨⟨⟨⟨rfl, h1⟩, h2⟩, h3⟩, h4⟩, h5⟩ := h
  exact range2_ok x h2 h3 h1 (ey x h4) (ez x h5)
theorem I_zip {y : E} {z : E} (ey : PEok O k y) (ez : PEok O k z) : PIok O k (.zip y z) := by
  intro c C X W tg a x h
  cases a <;> first | (simp [chkI] at h; done) | skip
  rename_i f as kw p
  cases f <;> first | (simp [chkI] at h; done) | skip
  rcases as with _ | ⟨a, _ | ⟨b, _ | ⟨b2, bs⟩⟩⟩ <;> first | (simp [chkI] at h; done) | skip
  cases kw <;> first | (simp [chkI] at h; done) | skip
  simp only [chkI, Bool.and_eq_true, decide_eq_true_eq] at h
  obtain ⟨⟨⟨⟨⟨⟨h0, rfl⟩, h1⟩, h2⟩, h3⟩, h4⟩, h5⟩ := h
  cases tg <;> first | (simp [isTup] at h0; done) | skip
  exact zip_ok x h2 h3 h1 (ey x h4) (ez x h5)
theorem I_zip3 {y z y2 : E} (ey : PEok O k y) (ez : PEok O k z) (e2 : PEok O k y2) : PIok O k (.zip3 y z y2) := by
  intro c C X W tg a x h
  cases a <;> first | (simp [chkI] at h; done) | skip
  rename_i f as kw p
  cases f <;> first | (simp [chkI] at h; done) | skip
  rcases as with _ | ⟨a, _ | ⟨b, _ | ⟨b2, _ | ⟨b3, bs⟩⟩⟩⟩ <;> first | (simp [chkI] at h; done) | skip
  cases kw <;> first | (simp [chkI] at h; done) | skip
  simp only [chkI, Bool.and_eq_true, decide_eq_true_eq] at h
  obtain ⟨⟨⟨⟨⟨⟨⟨⟨h0, rfl⟩, h1⟩, h2⟩, h3⟩, h3'⟩, h4⟩, h5⟩, h6⟩ := h
  cases tg <;> first | (simp [isTup] at h0; done) | skip
  exact zip3_ok x h2 h3 h3' h1 (ey x h4) (ez x h5) (e2 x h6)
theorem I_enum {y : E} (ey : PEok O k y) : PIok O k (.enum y) := by
  intro c C X W tg a x h
  cases a <;> first | (simp [chkI] at h; done) | skip
  rename_i f as kw p
  cases f <;> first | (simp [chkI] at h; done) | skip
  rcases as with _ | ⟨a, _ | ⟨b, bs⟩⟩ <;> first | (simp [chkI] at h; done) | skip
  cases kw <;> first | (simp [chkI] at h; done) | skip
  simp only [chkI, Bool.and_eq_true, decide_eq_true_eq] at h
  obtain ⟨⟨⟨⟨h0, rfl⟩, h1⟩, h2⟩, h3⟩ := h
  cases tg <;> first | (simp [isTup] at h0; done) | skip
  exact enum_ok x h2 h1 (ey x h3)
theorem T_val {y : E} (h : PEok O k y) (hk : ∀ C a, chkE C y a = true → (∀ op vs p, a ≠ .BoolOp op vs p) ∧ (∀ x p, a ≠ .UnaryOp .Not x p) ∧ (∀ x y z p, a ≠ .IfExp x y z p) ∧ (∀ x y z p, a ≠ .Compare x y z p)) : PTok O k y := by
  intro c C X W a x ht hc
  obtain ⟨h1, h2, h3, h4⟩ := hk C a hc
  exact tst_val (h x hc) (tst_he h1 h2 h3 h4)
theorem W_no {y : E} (hk : ∀ C op vs p, chkE C y (.BoolOp op vs p) = false) : PWok O k y := by
  intro c C X W op vs p x ht h
  rw [hk] at h
  cases h
theorem W_notT {y : E} (hk : okT y = false) : PWok O k y := by
  intro c C X W op vs p x ht h
  rw [hk] at ht
  cases ht
theorem T_notT {y : E} (hk : okT y = false) : PTok O k y := by
  intro c C X W a x ht h
  rw [hk] at ht
  cases ht
theorem T_and {y z : E} (w : PWok O k (.and y z)) : PTok O k (.and y z) := by
  intro c C X W a x ht h
  cases a <;> first | (simp [chkE] at h; done) | skip
  exact (w x ht h).pt
theorem T_or {y z : E} (w : PWok O k (.or y z)) : PTok O k (.or y z) := by
  intro c C X W a x ht h
  cases a <;> first | (simp [chkE] at h; done) | skip
  exact (w x ht h).pt
theorem V_nil : PVok O k [] := by
  intro c C X W es x h
  cases es with
  | nil => exact pas_nil
  | cons _ _ => simp [chkEs] at h
theorem V_cons {y : E} {ys : List E} (ey : PEok O k y) (vys : PVok O k ys) : PVok O k (y :: ys) := by
  intro c C X W es x h
  cases es with
  | nil => simp [chkEs] at h
  | cons a as =>
    simp only [chkEs, Bool.and_eq_true] at h
    exact pas_cons h.1.1 (ey x h.1.2) (vys x h.2)
theorem A_nil : PAok O k [] := by
  intro c C X W es x h
  cases es with
  | nil => exact paa_nil
  | cons _ _ => simp [chkEs] at h
theorem A_cons {y : E} {ys : List E} (ey : PEok O k y) (ays : PAok O k ys) : PAok O k (y :: ys) := by
  intro c C X W es x h
  cases es with
  | nil => simp [chkEs] at h
  | cons a as =>
    simp only [chkEs, Bool.and_eq_true] at h
    exact paa_cons h.1.1 (asA_chk x h.1.2 (ey x h.1.2)) (ays x h.2)
theorem val_of {y : E} (h : PEok O k y) (hk : ∀ C a, chkE C y a = true → (∀ op vs p, a ≠ .BoolOp op vs p) ∧ (∀ x p, a ≠ .UnaryOp .Not x p) ∧ (∀ x y z p, a ≠ .IfExp x y z p) ∧ (∀ x y z p, a ≠ .Compare x y z p)) : PEok O k y ∧ PTok O k y ∧ PWok O k y := by
  refine ⟨h, T_val h hk, ?_⟩
  intro c C X W op vs p x ht hc
  exact absurd rfl ((hk C _ hc).1 op vs p)
theorem none_of {y : E} (hk : ∀ C a, chkE C y a = false) : PEok O k y ∧ PTok O k y ∧ PWok O k y := by
  refine ⟨?_, ?_, ?_⟩
  · intro c C X W a x h; rw [hk] at h; cases h
  · intro c C X W a x ht h; rw [hk] at h; cases h
  · intro c C X W op vs p x ht h; rw [hk] at h; cases h
theorem K_var {u0 : Nat} : ∀ C a, chkE C (.var u0) a = true → (∀ op vs p, a ≠ .BoolOp op vs p) ∧ (∀ x p, a ≠ .UnaryOp .Not x p) ∧ (∀ x y z p, a ≠ .IfExp x y z p) ∧ (∀ x y z p, a ≠ .Compare x y z p) := by
  intro C a h
  cases a <;> first | (simp [chkE] at h; done) | (refine ⟨?_, ?_, ?_, ?_⟩ <;> intros <;> simp; done)
theorem K_cst {u0 : D} : ∀ C a, chkE C (.cst u0) a = true → (∀ op vs p, a ≠ .BoolOp op vs p) ∧ (∀ x p, a ≠ .UnaryOp .Not x p) ∧ (∀ x y z p, a ≠ .IfExp x y z p) ∧ (∀ x y z p, a ≠ .Compare x y z p) := by
  intro C a h
  cases a <;> first | (simp [chkE] at h; done) | (refine ⟨?_, ?_, ?_, ?_⟩ <;> intros <;> simp; done)
theorem K_glob {u0 : Nat} : ∀ C a, chkE C (.glob u0) a = true → (∀ op vs p, a ≠ .BoolOp op vs p) ∧ (∀ x p, a ≠ .UnaryOp .Not x p) ∧ (∀ x y z p, a ≠ .IfExp x y z p) ∧ (∀ x y z p, a ≠ .Compare x y z p) := by
  intro C a h
  cases a <;> first | (simp [chkE] at h; done) | (refine ⟨?_, ?_, ?_, ?_⟩ <;> intros <;> simp; done)
theorem K_tup {u0 : List E} : ∀ C a, chkE C (.tup u0) a = true → (∀ op vs p, a ≠ .BoolOp op vs p) ∧ (∀ x p, a ≠ .UnaryOp .Not x p) ∧ (∀ x y z p, a ≠ .IfExp x y z p) ∧ (∀ x y z p, a ≠ .Compare x y z p) := by
  intro C a h
  cases a <;> first | (simp [chkE] at h; done) | (refine ⟨?_, ?_, ?_, ?_⟩ <;> intros <;> simp; done)
theorem K_lst {u0 : List E} : ∀ C a, chkE C (.lst u0) a = true → (∀ op vs p, a ≠ .BoolOp op vs p) ∧ (∀ x p, a ≠ .UnaryOp .Not x p) ∧ (∀ x y z p, a ≠ .IfExp x y z p) ∧ (∀ x y z p, a ≠ .Compare x y z p) := by
  intro C a h
  cases a <;> first | (simp [chkE] at h; done) | (refine ⟨?_, ?_, ?_, ?_⟩ <;> intros <;> simp; done)
theorem K_bin {u0 : Operator} {u1 : E} {u2 : E} : ∀ C a, chkE C (.bin u0 u1 u2) a = true → (∀ op vs p, a ≠ .BoolOp op vs p) ∧ (∀ x p, a ≠ .UnaryOp .Not x p) ∧ (∀ x y z p, a ≠ .IfExp x y z p) ∧ (∀ x y z p, a ≠ .Compare x y z p) := by
  intro C a h
  cases a <;> first | (simp [chkE] at h; done) | (refine ⟨?_, ?_, ?_, ?_⟩ <;> intros <;> simp; done)
theorem K_ix {u0 : E} {u1 : E} : ∀ C a, chkE C (.ix u0 u1) a = true → (∀ op vs p, a ≠ .BoolOp op vs p) ∧ (∀ x p, a ≠ .UnaryOp .Not x p) ∧ (∀ x y z p, a ≠ .IfExp x y z p) ∧ (∀ x y z p, a ≠ .Compare x y z p) := by
  intro C a h
  cases a <;> first | (simp [chkE] at h; done) | (refine ⟨?_, ?_, ?_, ?_⟩ <;> intros <;> simp; done)
theorem K_sl {u0 : E} {u1 : E} {u2 : E} : ∀ C a, chkE C (.sl u0 u1 u2) a = true → (∀ op vs p, a ≠ .BoolOp op vs p) ∧ (∀ x p, a ≠ .UnaryOp .Not x p) ∧ (∀ x y z p, a ≠ .IfExp x y z p) ∧ (∀ x y z p, a ≠ .Compare x y z p) := by
  intro C a h
  cases a <;> first | (simp [chkE] at h; done) | (refine ⟨?_, ?_, ?_, ?_⟩ <;> intros <;> simp; done)
theorem K_rev {u0 : E} : ∀ C a, chkE C (.rev u0) a = true → (∀ op vs p, a ≠ .BoolOp op vs p) ∧ (∀ x p, a ≠ .UnaryOp .Not x p) ∧ (∀ x y z p, a ≠ .IfExp x y z p) ∧ (∀ x y z p, a ≠ .Compare x y z p) := by
  intro C a h
  cases a <;> first | (simp [chkE] at h; done) | (refine ⟨?_, ?_, ?_, ?_⟩ <;> intros <;> simp; done)
theorem K_isi {u0 : E} {u1 : Ty} : ∀ C a, chkE C (.isi u0 u1) a = true → (∀ op vs p, a ≠ .BoolOp op vs p) ∧ (∀ x p, a ≠ .UnaryOp .Not x p) ∧ (∀ x y z p, a ≠ .IfExp x y z p) ∧ (∀ x y z p, a ≠ .Compare x y z p) := by
  intro C a h
  cases a <;> first | (simp [chkE] at h; done) | (refine ⟨?_, ?_, ?_, ?_⟩ <;> intros <;> simp; done)
theorem K_call {u0 : Nat} {u1 : List E} : ∀ C a, chkE C (.call u0 u1) a = true → (∀ op vs p, a ≠ .BoolOp op vs p) ∧ (∀ x p, a ≠ .UnaryOp .Not x p) ∧ (∀ x y z p, a ≠ .IfExp x y z p) ∧ (∀ x y z p, a ≠ .Compare x y z p) := by
  intro C a h
  cases a <;> first | (simp [chkE] at h; done) | (refine ⟨?_, ?_, ?_, ?_⟩ <;> intros <;> simp; done)
theorem K_calle {u0 : E} {u1 : List E} : ∀ C a, chkE C (.calle u0 u1) a = true → (∀ op vs p, a ≠ .BoolOp op vs p) ∧ (∀ x p, a ≠ .UnaryOp .Not x p) ∧ (∀ x y z p, a ≠ .IfExp x y z p) ∧ (∀ x y z p, a ≠ .Compare x y z p) := by
  intro C a h
  cases a <;> first | (simp [chkE] at h; done) | (refine ⟨?_, ?_, ?_, ?_⟩ <;> intros <;> simp; done)
theorem K_pop {u0 : E} {u1 : E} : ∀ C a, chkE C (.pop u0 u1) a = true → (∀ op vs p, a ≠ .BoolOp op vs p) ∧ (∀ x p, a ≠ .UnaryOp .Not x p) ∧ (∀ x y z p, a ≠ .IfExp x y z p) ∧ (∀ x y z p, a ≠ .Compare x y z p) := by
  intro C a h
  cases a <;> first | (simp [chkE] at h; done) | (refine ⟨?_, ?_, ?_, ?_⟩ <;> intros <;> simp; done)
theorem K_comp {u0 : E} {u1 : T} {u2 : I} {u3 : E} {u4 : List Nat} : ∀ C a, chkE C (.comp u0 u1 u2 u3 u4) a = true → (∀ op vs p, a ≠ .BoolOp op vs p) ∧ (∀ x p, a ≠ .UnaryOp .Not x p) ∧ (∀ x y z p, a ≠ .IfExp x y z p) ∧ (∀ x y z p, a ≠ .Compare x y z p) := by
  intro C a h
  cases a <;> first | (simp [chkE] at h; done) | (refine ⟨?_, ?_, ?_, ?_⟩ <;> intros <;> simp; done)
theorem K_bi {u0 : Bi} {u1 : List E} : ∀ C a, chkE C (.bi u0 u1) a = true → (∀ op vs p, a ≠ .BoolOp op vs p) ∧ (∀ x p, a ≠ .UnaryOp .Not x p) ∧ (∀ x y z p, a ≠ .IfExp x y z p) ∧ (∀ x y z p, a ≠ .Compare x y z p) := by
  intro C a h
  cases u1 <;> cases a <;> first | (simp [chkE] at h; done) | (refine ⟨?_, ?_, ?_, ?_⟩ <;> intros <;> simp; done)
theorem K_neg {u0 : E} : ∀ C a, chkE C (.neg u0) a = true → (∀ op vs p, a ≠ .BoolOp op vs p) ∧ (∀ x p, a ≠ .UnaryOp .Not x p) ∧ (∀ x y z p, a ≠ .IfExp x y z p) ∧ (∀ x y z p, a ≠ .Compare x y z p) := by
  intro C a h
  cases a <;> first | (simp [chkE] at h; done) | skip
  rename_i op a p
  cases op <;> first | (simp [chkE] at h; done) | (refine ⟨?_, ?_, ?_, ?_⟩ <;> intros <;> simp; done)
theorem K_comp2 {u0 : E} {u1 : T} {u2 : I} {u3 : E} {v1 : T} {v2 : I} {v3 : E} {u4 u5 : List Nat} : ∀ C a, chkE C (.comp2 u0 u1 u2 u3 v1 v2 v3 u4 u5) a = true → (∀ op vs p, a ≠ .BoolOp op vs p) ∧ (∀ x p, a ≠ .UnaryOp .Not x p) ∧ (∀ x y z p, a ≠ .IfExp x y z p) ∧ (∀ x y z p, a ≠ .Compare x y z p) := by
  intro C a h
  cases a <;> first | (simp [chkE] at h; done) | (refine ⟨?_, ?_, ?_, ?_⟩ <;> intros <;> simp; done)
theorem K_dic {u0 : List E} : ∀ C a, chkE C (.dic u0) a = true → (∀ op vs p, a ≠ .BoolOp op vs p) ∧ (∀ x p, a ≠ .UnaryOp .Not x p) ∧ (∀ x y z p, a ≠ .IfExp x y z p) ∧ (∀ x y z p, a ≠ .Compare x y z p) := by
  intro C a h
  cases a <;> first | (simp [chkE] at h; done) | (refine ⟨?_, ?_, ?_, ?_⟩ <;> intros <;> intro z <;> cases z)
theorem K_me {u0 : Me} {u1 u2 : E} : ∀ C a, chkE C (.me u0 u1 u2) a = true → (∀ op vs p, a ≠ .BoolOp op vs p) ∧ (∀ x p, a ≠ .UnaryOp .Not x p) ∧ (∀ x y z p, a ≠ .IfExp x y z p) ∧ (∀ x y z p, a ≠ .Compare x y z p) := by
  intro C a h
  cases a <;> first | (simp [chkE] at h; done) | (refine ⟨?_, ?_, ?_, ?_⟩ <;> intros <;> intro z <;> cases z)
theorem K_get2 {u0 u1 u2 : E} : ∀ C a, chkE C (.get2 u0 u1 u2) a = true → (∀ op vs p, a ≠ .BoolOp op vs p) ∧ (∀ x p, a ≠ .UnaryOp .Not x p) ∧ (∀ x y z p, a ≠ .IfExp x y z p) ∧ (∀ x y z p, a ≠ .Compare x y z p) := by
  intro C a h
  cases a <;> first | (simp [chkE] at h; done) | (refine ⟨?_, ?_, ?_, ?_⟩ <;> intros <;> intro z <;> cases z)
theorem K_lrange {u0 : E} : ∀ C a, chkE C (.lrange u0) a = true → (∀ op vs p, a ≠ .BoolOp op vs p) ∧ (∀ x p, a ≠ .UnaryOp .Not x p) ∧ (∀ x y z p, a ≠ .IfExp x y z p) ∧ (∀ x y z p, a ≠ .Compare x y z p) := by
  intro C a h
  cases a <;> first | (simp [chkE] at h; done) | (refine ⟨?_, ?_, ?_, ?_⟩ <;> intros <;> intro z <;> cases z)
mutual
theorem ev_ok : ∀ y : E, PEok O k y ∧ PTok O k y ∧ PWok O k y
  | .nop => none_of fun C a => by cases a <;> simp [chkE]
  | .dic ys => val_of (E_dic (evm_ok ys)) K_dic
  | .me _ y z => val_of (E_me (ev_ok y).1 (ev_ok z).1) K_me
  | .get2 y z w => val_of (E_get2 (ev_ok y).1 (ev_ok z).1 (ev_ok w).1) K_get2
  | .lrange y => val_of (E_lrange (ev_ok y).1) K_lrange
  | .rev y => val_of (E_rev (ev_ok y).1) K_rev
  | .var _ => val_of E_var K_var
  | .cst _ => val_of E_cst K_cst
  | .glob _ => val_of E_glob K_glob
  | .tup es => val_of (E_tup (evs_ok es).1) K_tup
  | .lst es => val_of (E_lst (evs_ok es).1) K_lst
  | .bin _ y z => val_of (E_bin (ev_ok y).1 (ev_ok z).1) K_bin
  | .neg y => val_of (E_neg (ev_ok y).1) K_neg
  | .not y => ⟨E_not (ev_ok y).1, T_not (ev_ok y).2.1, W_no fun C op vs p => by simp [chkE]⟩
  | .and y z => ⟨E_and (ev_ok y).1 (ev_ok z).1, T_and (W_and (ev_ok y).2.1 (ev_ok z).2.1 (ev_ok z).2.2), W_and (ev_ok y).2.1 (ev_ok z).2.1 (ev_ok z).2.2⟩
  | .or y z => ⟨E_or (ev_ok y).1 (ev_ok z).1, T_or (W_or (ev_ok y).2.1 (ev_ok z).2.1 (ev_ok z).2.2), W_or (ev_ok y).2.1 (ev_ok z).2.1 (ev_ok z).2.2⟩
  | .ife t y z => ⟨E_ife (ev_ok t).2.1 (ev_ok y).1 (ev_ok z).1, T_notT rfl, W_notT rfl⟩
  | .cmp _ y z => ⟨E_cmp (ev_ok y).1 (ev_ok z).1, T_cmp (ev_ok y).1 (ev_ok z).1, W_no fun C op vs p => by simp [chkE]⟩
  | .chain _ _ y z w => ⟨E_chain (ev_ok y).1 (ev_ok z).1 (ev_ok w).1, T_chain (ev_ok y).1 (ev_ok z).1 (ev_ok w).1, W_no fun C op vs p => by simp [chkE]⟩
  | .ix y z => val_of (E_ix (ev_ok y).1 (ev_ok z).1) K_ix
  | .sl y lo hi => val_of (E_sl (ev_ok y).1 (ev_ok lo).1 (ev_ok hi).1) K_sl
  | .isi y _ => val_of (E_isi (ev_ok y).1) K_isi
  | .bi _ ys => val_of (E_bi (evs_ok ys).2) K_bi
  | .call _ ys => val_of (E_call (evs_ok ys).1) K_call
  | .calle f ys => val_of (E_calle (ev_ok f).1 (evs_ok ys).1) K_calle
  | .pop y z => val_of (E_pop (ev_ok y).1 (ev_ok z).1) K_pop
  | .alloc y => ⟨E_alloc (ev_ok y).1, T_notT rfl, W_notT rfl⟩
  | .comp elt _ it cc _ => val_of (E_comp (ev_ok elt).1 (evI_ok it) (ev_ok cc).2.1) K_comp
  | .comp2 elt _ it cc _ it1 cc1 _ _ => val_of (E_comp2 (ev_ok elt).1 (evI_ok it) (ev_ok cc).2.1 (evI_ok it1) (ev_ok cc1).2.1) K_comp2
theorem evm_ok : ∀ ys : List E, ∀ y ∈ ys, PEok O k y
  | [] => fun y hy => by cases hy
  | z :: ys => fun y hy => by
    rcases List.mem_cons.mp hy with q | q
    · rw [q]; exact (ev_ok z).1
    · exact evm_ok ys y q
theorem evs_ok : ∀ ys : List E, PVok O k ys ∧ PAok O k ys
  | [] => ⟨V_nil, A_nil⟩
  | y :: ys => ⟨V_cons (ev_ok y).1 (evs_ok ys).1, A_cons (ev_ok y).1 (evs_ok ys).2⟩
theorem evI_ok : ∀ y : I, PIok O k y
  | .seq y => I_seq (ev_ok y).1
  | .range y => I_range (ev_ok y).1
  | .range2 y z => I_range2 (ev_ok y).1 (ev_ok z).1
  | .zip y z => I_zip (ev_ok y).1 (ev_ok z).1
  | .zip3 y z y2 => I_zip3 (ev_ok y).1 (ev_ok z).1 (ev_ok y2).1
  | .enum y => I_enum (ev_ok y).1
end
end
end Mi
namespace Mi
open PySem PySem.Spec PyProof.Rows L2
def swC (C : CC) (x : Str) (px : Pos) : Expr → Bool
  | .ListComp _ _ sc p => decide (C.nm.lookup x = some .local) && (px.line == p.line) && !(sc.names.any fun (n, k) => n == x && (k == .local || k == .cell))
  | _ => false
def listish : Expr → Bool
  | .SetComp _ _ _ _ => false
  | .DictComp _ _ _ _ _ => false
  | _ => true
def lcl (C : CC) (x : Str) : Bool := decide (C.nm.lookup x = some .local)
def cExpr (b : Expr → Bool) : Stmt → Bool
  | .Expr e' _ => noComp e' && b e'
  | _ => false
def cSet (C : CC) (i : Nat) (b : Expr → Bool) : Stmt → Bool
  | .Assign [.Name x px] e' _ => listish e' && C.slot i x && C.wrt x && b e'
  | _ => false
def notLcl (C : CC) : Expr → Bool
  | .Name x _ => !(lcl C x)
  | _ => true
def foldT : Expr → Bool
  | .Tuple vs _ _ => vs.all (foldedForSure 8)
  | _ => false
def cAsg (C : CC) (ts : List T) (b : Expr → Bool) : Stmt → Bool
  | .Assign [.Tuple es kk tp] e' _ => noComp e' && (!(isTup e') || es.any (fun t => notLcl C t) || foldT e') && chkTs C ts es && b e'
  | _ => false
def par2C (C : CC) (i j : Nat) (x y : Str) (px py : Pos) (a b : Expr) : Bool := C.slot i x && C.slot j y && decide (i ≠ j) && lcl C x && lcl C y && (px.line == py.line) && decide (x ≠ y) && (plainA a && plainA b) &&
  !([a, b].all (foldedForSure 8)) && !([a, b].all (constantsAlone 8))
def par3C (C : CC) (i j l : Nat) (x y z : Str) (px py pz : Pos) (a b d : Expr) : Bool := C.slot i x && C.slot j y && C.slot l z && decide (i ≠ j) && decide (i ≠ l) && decide (j ≠ l) && lcl C x && lcl C y && lcl C z &&
  (px.line == py.line) && (px.line == pz.line) && (decide (x ≠ y) && decide (x ≠ z) && decide (y ≠ z)) && (plainA a && plainA b && plainA d) && !([a, b, d].all (foldedForSure 8)) && !([a, b, d].all (constantsAlone 8))
def cPar2 (C : CC) (i j : Nat) (b' : List Expr → Bool) : Stmt → Bool
  | .Assign [.Tuple [.Name x px, .Name y py] _ _] (.Tuple [a, b] _ _) _ => par2C C i j x y px py a b && b' [a, b]
  | _ => false
def cPar3 (C : CC) (i j l : Nat) (b' : List Expr → Bool) : Stmt → Bool
  | .Assign [.Tuple [.Name x px, .Name y py, .Name z pz] _ _] (.Tuple [a, b, d] _ _) _ => par3C C i j l x y z px py pz a b d && b' [a, b, d]
  | _ => false
def cRet (b : Expr → Bool) : Stmt → Bool
  | .Return (some e') _ => b e'
  | _ => false
def cRetN : Stmt → Bool
  | .Return none _ => true
  | _ => false
def cIf (q : Expr → Bool) (a b : List Stmt → Bool) : Stmt → Bool
  | .If q' a' b' _ => q q' && a a' && b b'
  | _ => false
def cFor (C : CC) (t : T) (it : Bool → Expr → Bool) (b : List Stmt → Bool) : Stmt → Bool
  | .For tg it' b' [] _ => noSet it' && chkT C t tg && it (isTup tg) it' && b b'
  | _ => false
def cWhl (q : Expr → Bool) (b : List Stmt → Bool) : Stmt → Bool
  | .While q' b' [] _ => q q' && b b'
  | _ => false
def cSub (a i e : Expr → Bool) : Stmt → Bool
  | .Assign [.Subscript a' i' _] e' _ => plainIx i' && noComp e' && e e' && a a' && i i'
  | _ => false
def cMeth (m : Str) (a e : Expr → Bool) : Stmt → Bool
  | .Expr (.Call (.Attribute a' m' ap) [e'] [] cp) _ => isName a' && decide (m' = m) && (ap.endLine == cp.line) && plainA e' && a a' && e e'
  | _ => false
def cRaise (C : CC) (g : Nat) : Stmt → Bool
  | .Raise (some (.Call (.Name y _) [.Constant (.str _) _ _] [] _)) none _ => decide (C.cn g = some y) && C.glb y && notBug y
  | _ => false
def cPass : Stmt → Bool
  | .Pass _ => true
  | .Expr (.Constant (.str _) _ _) _ => true
  | _ => false
def cBrk : Stmt → Bool
  | .Break _ => true
  | _ => false
def cCont : Stmt → Bool
  | .Continue _ => true
  | _ => false
def cMatch (C : CC) (i : Nat) (b : List MatchCase → Bool) : Stmt → Bool
  | .Match (.Name x _) cs _ => C.slot i x && C.vis x && notBug x && b cs
  | _ => false
def constI : Expr → Option Int
  | .Constant (.int m) _ _ => some m
  | .UnaryOp .USub (.Constant (.int m) _ _) _ => some (-m)
  | _ => none
def cCase (n : Int) (b : List Stmt → Bool) (q : List MatchCase → Bool) : List MatchCase → Bool
  | ⟨.MatchValue e _, none, body⟩ :: rest => decide (constI e = some n) && b body && q rest
  | _ => false
def cDflt (b : List Stmt → Bool) : List MatchCase → Bool
  | [⟨.MatchAs none none _, none, body⟩] => b body
  | _ => false
def isFrz : S → Bool
  | .frz _ => true
  | _ => false
def isiCall (C : CC) (n : Str) (k : Str → Bool) : Expr → Bool
  | .Call (.Name f _) [.Name e _, .Name y _] [] _ => decide (f = "isinstance") && C.glb "isinstance" && decide (e = n) && k y
  | _ => false
def chkCB (C : CC) (n : Str) : TxB → Expr → Bool
  | .isx g => isiCall C n fun y => decide (C.cn g = some y) && C.glb y && notBug y
  | .ve => isiCall C n fun y => decide (y = "ValueError") && C.glb "ValueError"
  | .not c => fun e => match e with
    | .UnaryOp .Not a _ => chkCB C n c a
    | _ => false
  | .and c d => fun e => match e with
    | .BoolOp .And [a, b] _ => chkCB C n c a && chkCB C n d b
    | _ => false
def chkCE (C : CC) (n : Str) : TxE → Expr → Bool
  | .str x => fun e => match e with
    | .Constant (.str y) _ _ => decide (x = y)
    | _ => false
  | .ife c a b => fun e => match e with
    | .IfExp t u v _ => chkCB C n c t && chkCE C n a u && chkCE C n b v
    | _ => false
def cTry (C : CC) (g i : Nat) (b : List Stmt → Bool) (h : Str → Expr → Bool) : Stmt → Bool
  | .Try body [.ExceptHandler (some (.Name x _)) (some n) [.Return (some e) _] _] [] [] _ => decide (C.cn g = some x) && C.glb x && notBug x && C.slot i n && C.vis n && decide (C.nm.lookup n = some .local) && notBug n && b body && h n e
  | _ => false
mutual
def chkS (C : CC) : S → Stmt → Bool
  | .expr e => cExpr (chkE C e)
  | .set i e => cSet C i (chkE C e)
  | .asg t e => match t with
    | .tup ts => cAsg C ts (chkE C e)
    | .name _ => fun _ => false
  | .par is es => match is with
    | [i, j] => cPar2 C i j (chkEs C es)
    | [i, j, l] => cPar3 C i j l (chkEs C es)
    | _ => fun _ => false
  | .ret e => cRet (chkE C e)
  | .retN => cRetN
  | .iff q a b => cIf (fun q' => okT q && chkE C q q') (chkSs C a) (chkSs C b)
  | .for t it b => cFor C t (fun k => chkI C k it) (chkSs C b)
  | .tri b g i ce => cTry C g i (chkSs C b) (fun n e => chkCE C n ce e)
  | .forR t y b => cFor C t (fun _ => chkE C y) (chkSs C b)
  | .whl _ q b => cWhl (fun q' => okT q && chkE C q q') (chkSs C b)
  | .aug _ _ _ => fun _ => false
  | .setix a i e => cSub (chkE C a) (chkE C i) (chkE C e)
  | .app a e => cMeth "append" (chkE C a) (chkE C e)
  | .ext a e => cMeth "extend" (chkE C a) (chkE C e)
  | .raise g => cRaise C g
  | .pass => cPass
  | .brk => cBrk
  | .cont => cCont
  | .frz _ => fun _ => false
  | .mat i n b r => cMatch C i (cCase n (chkSs C b) (fun cs => cDflt (chkSs C r) cs || chkTl C i r cs))
def chkSs (C : CC) : List S → List Stmt → Bool
  | [] => fun l => l.isEmpty
  | x :: xs => fun l => if isFrz x = true then chkSs C xs l else match l with
    | [] => false
    | y :: ys => chkS C x y && chkSs C xs ys
def chkX (C : CC) (i : Nat) : S → List MatchCase → Bool
  | .mat j n b r => fun cs => decide (j = i) && cCase n (chkSs C b) (fun cs => cDflt (chkSs C r) cs || chkTl C i r cs) cs
  | _ => fun _ => false
def chkTl (C : CC) (i : Nat) : List S → List MatchCase → Bool
  | [] => fun _ => false
  | y :: ys => fun cs => ys.isEmpty && chkX C i y cs
end
def endS (c : Act) (D : Ends) (F : Hp) (ι : List Addr) (σ : L2.St) (H : Hp) (e : Ev) : Flow → Prop
  | .nx => D.nx σ H
  | .bk => D.bk σ H
  | .ct => D.ct σ H
  | .rt r => ∀ v, RelR c F ι σ H e v r → D.rt v H
def FinS (c : Act) (W : Wh) (F : Hp) (ι : List Addr) (o : Out Flow) (D : Ends) : Prop := match o with
  | .ok fl e s => ∀ F' ι' σ' H', Same F F' → Pre ι ι' → σ'.length = c.n → Abs c F' ι' σ' H' e s → endS c D F' ι' σ' H' e fl
  | .exc g e s => ∀ F' ι' σ' H', Same F F' → Pre ι ι' → σ'.length = c.n → Abs c F' ι' σ' H' e s → W (.ref (c.G.ca g)) none σ' H'
  | .bad => False
def rdS (c : Act) (W : Wh) (m : M Flow) : TS := fun D σ H => ∃ F ι e s, σ.length = c.n ∧ Abs c F ι σ H e s ∧ FinS c W F ι (m e s) D
section
variable {α : Type} {c : Act} {C : CC} {O : Orc} {k : Nat} {X : Cx} {W : Wh} {σ : L2.St} {F F' : Hp} {ι ι' : List Addr} {H H' : Hp} {e : Ev} {s : Sto} {D : Ends} {pos p1 p2 : Pos}
theorem FinS.later {o : Out Flow} (h : FinS c W F ι o D) (m : Same F F') (p : Pre ι ι') : FinS c W F' ι' o D := by
  cases o with
  | ok a e s => exact fun F2 ι2 σ2 H2 k1 k2 => h F2 ι2 σ2 H2 (m.trans k1) (p.trans k2)
  | exc g e s => exact fun F2 ι2 σ2 H2 k1 k2 => h F2 ι2 σ2 H2 (m.trans k1) (p.trans k2)
  | bad => exact h
theorem FinS.split {m : M α} {f : α → M Flow} (hn : σ.length = c.n) (h : FinS c W F ι (bnd m f e s) D) : Fin c W σ F ι (m e s) (fun a F' ι' H' e' s' => FinS c W F' ι' (f a e' s') D) := by
  unfold bnd at h
  cases hm : m e s with
  | ok a e1 s1 =>
    rw [hm] at h
    exact fun F' ι' H' k1 k2 k3 => FinS.later (o := f a e1 s1) h k1 k2
  | exc g e1 s1 => rw [hm] at h; exact fun F' ι' H' k1 k2 k3 => h F' ι' σ H' k1 k2 hn k3
  | bad => rw [hm] at h; exact h
theorem FinS.nx (A : Abs c F ι σ H e s) (hn : σ.length = c.n) (h : FinS c W F ι (ret .nx e s) D) : D.nx σ H := h F ι σ H (Same.refl _) (Pre.refl _) hn A
theorem FinS.seq {m : M Flow} {f : Flow → M Flow} {D' : Ends} (h : FinS c W F ι (bnd m f e s) D) (h1 : ∀ F' ι' σ' H' e' s', Same F F' → Pre ι ι' → σ'.length = c.n → Abs c F' ι' σ' H' e' s' → FinS c W F' ι' (f .nx e' s') D → D'.nx σ' H')
    (h2 : ∀ F' ι' σ' H' e' s', Same F F' → Pre ι ι' → σ'.length = c.n → Abs c F' ι' σ' H' e' s' → FinS c W F' ι' (f .bk e' s') D → D'.bk σ' H') (h3 : ∀ F' ι' σ' H' e' s', Same F F' → Pre ι ι' → σ'.length = c.n → Abs c F' ι' σ' H' e' s' → FinS c W F' ι' (f .ct e' s') D → D'.ct σ' H')
    (h4 : ∀ r, f (.rt r) = ret (.rt r)) (h5 : D'.rt = D.rt) : FinS c W F ι (m e s) D' := by
  unfold bnd at h
  cases hm : m e s with
  | ok a e1 s1 =>
    rw [hm] at h
    intro F2 ι2 σ2 H2 k1 k2 k3 A2
    have h' := FinS.later (o := f a e1 s1) h k1 k2
    cases a with
    | nx => exact h1 F2 ι2 _ _ e1 s1 k1 k2 k3 A2 h'
    | bk => exact h2 F2 ι2 _ _ e1 s1 k1 k2 k3 A2 h'
    | ct => exact h3 F2 ι2 _ _ e1 s1 k1 k2 k3 A2 h'
    | rt r =>
      rw [h4] at h'
      have q := h' F2 ι2 σ2 H2 (Same.refl _) (Pre.refl _) k3 A2
      show ∀ v, RelR c F2 ι2 σ2 H2 e1 v r → D'.rt v H2
      rw [h5]
      exact q
  | exc g e1 s1 => rw [hm] at h; exact h
  | bad => rw [hm] at h; exact h
theorem alloc_rd {m : M R} {Q : VK} (z : rdR c W (bnd m allocM) σ H Q) : rdR c W m σ H Q := by
  obtain ⟨F, ι, e, s, hn, A, z⟩ := z
  refine ⟨F, ι, e, s, hn, A, z.split.imp fun r F1 ι1 H1 e1 s1 m1 p1 A1 h1 v hr => ?_⟩
  cases r with
  | val d => exact h1.elim
  | new o =>
    obtain ⟨b, rfl, q1, q2, q3, q4, q5⟩ := hr
    obtain ⟨B, p⟩ := A1.alloc q1 q2 q3 q4 q5
    refine h1 F1 _ H1 (Same.refl _) p B _ (.ref ?_)
    rw [← A1.lens, List.getElem?_append_right (Nat.le_refl _), Nat.sub_self]
    rfl
theorem sw_eq (x : XOk c C O k X W) {y : Str} {py : Pos} {a : Expr} {l : Nat} (ha : listish a = true) : swapsWith a (some (.Name y py)) l X.env = pure (swC C y py a) := by
  have hb : X.env.blockKind = .function := by unfold PySem.Env.blockKind; rw [x.kind]; rfl
  have hk : X.env.kindOf y = C.nm.lookup y := by unfold PySem.Env.kindOf; rw [x.nm]
  cases a <;> first | (simp [listish] at ha; done) | rfl | skip
  rename_i elt gs sc p
  unfold swapsWith swC
  simp only [hb, hk]
  cases hz : C.nm.lookup y with
  | none => rfl
  | some kd => cases kd <;> rfl
theorem set_rd {m : M R} {i : Nat} (z : rdS c W (bnd m fun r => bnd (setS i r) fun _ => ret .nx) D σ H) : rdR c W m σ H fun v H1 => D.nx (σ.set i (some v)) H1 := by
  obtain ⟨F, ι, e, s, hn, A, z⟩ := z
  exact ⟨F, ι, e, s, hn, A, (z.split hn).imp fun r F1 ι1 H1 e1 s1 m1 p1 A1 h1 v hr => h1 F1 ι1 _ H1 (Same.refl _) (Pre.refl _) (by rw [List.length_set]; exact hn) (A1.setR hr)⟩
abbrev tSet (c : Act) (W : Wh) (m : M R) (i : Nat) : TS := fun D σ H => rdR c W m σ H fun v H1 => D.nx (σ.set i (some v)) H1
theorem set_plain (x : XOk c C O k X W) {i : Nat} {y : Str} {py : Pos} {a : Expr} {m : M R} (h1 : listish a = true) (h2 : C.slot i y = true) (h3 : C.wrt y = true) (hs : swC C y py a = false) (h : PE X a (rdR c W m)) : PS X (.Assign [.Name y py] a pos) (tSet c W m i) := by
  obtain ⟨w1, w2⟩ := x.wr y h3
  exact psM (ps_set (by rw [x.N]; exact x.nd) (x.slot h2) w1 h (by rw [sw_eq x h1, hs]) w2) fun D σ H z => z
theorem set_comp (x : XOk c C O k X W) {i : Nat} {y : Str} {py p : Pos} {elt : Expr} {gs : List Comprehension} {sc : Scope} (h2 : C.slot i y = true) (hs : swC C y py (.ListComp elt gs sc p) = true) :
    ∀ (z : E), chkE C z (.ListComp elt gs sc p) = true → PS X (.Assign [.Name y py] (.ListComp elt gs sc p) pos) (tSet c W (evE O z) i)
  | .alloc z, h => by
    simp only [chkE, newish, Bool.true_and] at h
    exact psM (set_comp x h2 hs z h) fun D σ H q => alloc_rd q
  | .comp el tg it cc own, h => by
    have hl : C.nm.lookup y = some .local := by
      unfold swC at hs
      simp only [Bool.and_eq_true, decide_eq_true_eq] at hs
      exact hs.1.1
    have hsw := sw_eq (l := pos.line) x (y := y) (py := py) (a := .ListComp elt gs sc p) rfl
    rw [hs] at hsw
    rcases gs with _ | ⟨⟨tg', it', ifs', as'⟩, _ | ⟨g2, gs⟩⟩ <;> first | (simp [chkE] at h; done) | skip
    by_cases has : as' = 0
    rotate_left
    · exfalso; revert h; simp [chkE, has]
    subst has
    simp only [chkE, Bool.and_eq_true] at h
    obtain ⟨⟨⟨⟨⟨⟨⟨h1, h2'⟩, h3⟩, h4⟩, h5⟩, h6⟩, h7⟩, h8⟩ := h
    refine psM (ps_setLc (own := ownP C own) x.calm (by rw [x.N]; exact x.nd) (x.slot h2) (by rw [x.nm]; exact hl) hsw ((evI_ok it) x h4) (x.blkOk h1) (fun s H Ca cl fp => tgt_ok (x.blk h1 ⟨rfl, rfl⟩ s H Ca cl fp) h5)
      (fun s H Ca cl fp => (?_ : PTs _ ifs' (bkB c.G c.n (condOf cc (evE O cc))))) (fun s H Ca cl fp => bkR_ok fun c' hc' => (ev_ok el).1 (x.blk h1 hc' s H Ca cl fp) h6) (set_fold h2')) fun D σ H z => ?_
    · unfold condC at h8
      split at h8
      · exact pts_no
      · cases h8
      · rename_i e' hne
        exact pts_cond (fun z => by subst z; exact hne rfl) (bkB_ok fun c' hc' => (ev_ok cc).2.1 (x.blk h1 hc' s H Ca cl fp) h7 h8)
      · cases h8
    · rw [ownP_snd]
      exact comp_rd (fun j hj => by simpa using List.all_eq_true.mp h3 j hj) z
  | .comp2 el tg it cc tg1 it1 cc1 own own1, h => by
    have hl : C.nm.lookup y = some .local := by
      unfold swC at hs
      simp only [Bool.and_eq_true, decide_eq_true_eq] at hs
      exact hs.1.1
    have hsw := sw_eq (l := pos.line) x (y := y) (py := py) (a := .ListComp elt gs sc p) rfl
    rw [hs] at hsw
    rcases gs with _ | ⟨⟨tg', it', ifs', as'⟩, _ | ⟨⟨tg1', it1', ifs1', as1'⟩, _ | ⟨g3, gs⟩⟩⟩ <;> first | (simp [chkE] at h; done) | skip
    by_cases has : as' = 0
    rotate_left
    · exfalso; revert h; simp [chkE, has]
    subst has
    by_cases has1 : as1' = 0
    rotate_left
    · exfalso; revert h; simp [chkE, has1]
    subst has1
    simp only [chkE, Bool.and_eq_true] at h
    obtain ⟨⟨⟨⟨⟨⟨⟨⟨h1, h2', h2''⟩, ⟨h3, h3'⟩, h3''⟩, h4⟩, h4'⟩, h5, h5'⟩, h6⟩, h7, h7'⟩, h8, h8'⟩ := h
    refine psM (ps_setLc2 (own := ownP C own) (vs1 := own1) x.calm (by rw [x.N]; exact x.nd) (x.slot h2) (by rw [x.nm]; exact hl) hsw ((evI_ok it) x h4) (x.blkOk h1) (by rw [ownP_snd]; exact fun j hj => by simpa using List.all_eq_true.mp h3'' j hj)
      (fun s H Ca cl fp => tgt_ok (x.blk h1 ⟨rfl, rfl⟩ s H Ca cl fp) h5) (fun s H Ca cl fp => cond_ok h8 fun e' he => bkB_ok fun c' hc' => (ev_ok cc).2.1 (x.blk h1 hc' s H Ca cl fp) h7 he)
      (fun s H Ca cl fp => bkI_ok fun c' hc' => (evI_ok it1) (x.blk h1 hc' s H Ca cl fp) h4') (fun s H Ca cl fp => tgt_ok (x.blk h1 ⟨rfl, rfl⟩ s H Ca cl fp) h5')
      (fun s H Ca cl fp => cond_ok h8' fun e' he => bkB_ok fun c' hc' => (ev_ok cc1).2.1 (x.blk h1 hc' s H Ca cl fp) h7' he) (fun s H Ca cl fp => bkR_ok fun c' hc' => (ev_ok el).1 (x.blk h1 hc' s H Ca cl fp) h6) (set_fold h2') (fun _ => set_fold h2'')) fun D σ H z => ?_
    rw [ownP_snd]
    exact comp2_rd (fun j hj => by simpa using List.all_eq_true.mp h3 j hj) (fun j hj => by simpa using List.all_eq_true.mp h3' j hj) (fun j hj => by simpa using List.all_eq_true.mp h3'' j hj) z
  | .nop, h | .var _, h | .cst _, h | .glob _, h | .tup _, h | .lst _, h | .dic _, h | .me _ _ _, h | .lrange _, h | .bin _ _ _, h | .neg _, h | .not _, h | .and _ _, h | .or _ _, h | .ife _ _ _, h | .cmp _ _ _, h | .chain _ _ _ _ _, h | .ix _ _, h | .sl _ _ _, h | .rev _, h | .get2 _ _ _, h | .isi _ _, h | .bi _ _, h | .call _ _, h | .calle _ _, h | .pop _ _, h => by
    exfalso; revert h; simp [chkE]
end
end Mi
namespace Mi
open PySem PySem.Spec PyProof.Rows L2
section
variable {α : Type} {c : Act} {C : CC} {O : Orc} {k : Nat} {X : Cx} {W : Wh} {σ : L2.St} {F F' : Hp} {ι ι' : List Addr} {H H' : Hp} {e : Ev} {s : Sto} {Dn : Ends} {pos p1 p2 : Pos}
theorem FinS.frz {r : R} {v : V} {f : D → M Flow} (hn : σ.length = c.n) (A : Abs c F ι σ H e s) (h : FinS c W F ι (bnd (Mi.frz r) f e s) Dn) (hr : RelR c F ι σ H e v r) :
    ∃ F' d, Same F F' ∧ Abs c F' ι σ H e s ∧ Rel c.G F' ι v d ∧ FinS c W F' ι (f d e s) Dn := Fin.frz A (h.split hn) hr
inductive RelRs (c : Act) (F : Hp) (ι : List Addr) (vs : List (Option V)) (H : Hp) (e : Ev) : List V → List R → Prop
  | nil : RelRs c F ι vs H e [] []
  | cons {v : V} {r : R} {xs : List V} {rs : List R} (h : RelR c F ι vs H e v r) (hd : ∀ o, r = .new o → ∀ (j : Nat) (w : V) (o' : Ob), xs[j]? = some w → rs[j]? = some (.new o') → w ≠ v) (hs : RelRs c F ι vs H e xs rs) : RelRs c F ι vs H e (v :: xs) (r :: rs)
def rdRs (c : Act) (W : Wh) (m : M (List R)) : TA := fun σ H Q => ∃ F ι e s, σ.length = c.n ∧ Abs c F ι σ H e s ∧ Fin c W σ F ι (m e s) fun rs F' ι' H' e' s' => ∀ vs, RelRs c F' ι' σ H' e' vs rs → Q vs H'
theorem RelR.setSlot {i : Nat} {v w : V} {r q : R} (h : RelR c F ι σ H e w q) (hd : ∀ o, r = .new o → ∀ o', q = .new o' → w ≠ v) : RelR c F ι (σ.set i (some v)) H (e.set i (some r)) w q := by
  cases q with
  | val d => exact h
  | new o =>
    obtain ⟨a, rfl, h1, h2, h3, h4, h5⟩ := h
    refine ⟨a, rfl, h1, h2, h3, h4, fun ⟨j, o', e1, e2⟩ => ?_⟩
    by_cases hj : i = j
    · subst hj
      by_cases hl : i < e.length
      · rw [List.getElem?_set_self hl] at e1
        cases e1
        by_cases hl2 : i < σ.length
        · rw [List.getElem?_set_self hl2] at e2
          cases e2
          exact hd _ rfl _ rfl rfl
        · rw [List.getElem?_eq_none (by rw [List.length_set]; omega)] at e2
          cases e2
      · rw [List.getElem?_eq_none (by rw [List.length_set]; omega)] at e1
        cases e1
    · rw [List.getElem?_set_ne hj] at e1 e2
      exact h5 ⟨j, o', e1, e2⟩
theorem RelRs.setSlot {i : Nat} {v : V} {r : R} : ∀ {xs : List V} {rs : List R}, RelRs c F ι σ H e xs rs → (∀ o, r = .new o → ∀ (j : Nat) (w : V) (o' : Ob), xs[j]? = some w → rs[j]? = some (.new o') → w ≠ v) → RelRs c F ι (σ.set i (some v)) H (e.set i (some r)) xs rs
  | _, _, .nil, _ => .nil
  | _, _, .cons h hd t, g => .cons (h.setSlot fun o e1 o' e2 => g o e1 0 _ o' rfl (by rw [e2]; rfl)) hd (RelRs.setSlot t fun o e1 j w o' h1 h2 => g o e1 (j + 1) w o' h1 h2)
def setsV : List Nat → List V → L2.St → L2.St
  | i :: is, v :: vs, σ => setsV is vs (σ.set i (some v))
  | _, _, σ => σ
theorem setsV_len : ∀ {is : List Nat} {vs : List V} {σ : L2.St}, (setsV is vs σ).length = σ.length
  | [], _, _ => by simp [setsV]
  | _ :: _, [], _ => by simp [setsV]
  | i :: is, v :: vs, σ => by simp [setsV, setsV_len]
theorem Abs.sets : ∀ {is : List Nat} {xs : List V} {rs : List R} {σ : L2.St} {e : Ev}, Abs c F ι σ H e s → RelRs c F ι σ H e xs rs → Abs c F ι (setsV is xs σ) H (sets is rs e) s
  | [], _, _, _, _, A, _ => by simpa [setsV, Mi.sets] using A
  | _ :: _, [], _, _, _, A, .nil => by simpa [setsV, Mi.sets] using A
  | i :: is, _, _, _, _, A, .cons h hd t => by
    simp only [setsV, Mi.sets]
    exact Abs.sets (A.setR h) (t.setSlot hd)
theorem RelR.unhold {p : Addr} {xs : List V} {v : V} {r : R} (h0 : c.H0 p = none) (h : RelR (c.hold p (.lst xs)) F ι σ H e v r) : RelR c F ι σ H e v r ∧ (∀ o, r = .new o → v ≠ .ref p) := by
  cases r with
  | val d => exact ⟨h, fun o z => by cases z⟩
  | new o =>
    obtain ⟨a, rfl, h1, h2, h3, h4, h5⟩ := h
    have hne : a ≠ p := fun z => by
      subst z
      have : upd c.H0 a (.lst xs) a = none := h4
      rw [upd_same] at this
      cases this
    refine ⟨⟨a, rfl, h1, h2, h3, ?_, h5⟩, fun o _ z => hne (by cases z; rfl)⟩
    have : upd c.H0 p (.lst xs) a = none := h4
    rw [upd_ne hne] at this
    exact this
theorem RelRs.unhold {p : Addr} {ys : List V} (h0 : c.H0 p = none) : ∀ {xs : List V} {rs : List R}, RelRs (c.hold p (.lst ys)) F ι σ H e xs rs → RelRs c F ι σ H e xs rs ∧ ∀ (j : Nat) (w : V) (o' : Ob), xs[j]? = some w → rs[j]? = some (.new o') → w ≠ .ref p
  | _, _, .nil => ⟨.nil, fun j w o' h => by simp at h⟩
  | _, _, .cons h hd t => by
    obtain ⟨a1, a2⟩ := h.unhold h0
    obtain ⟨b1, b2⟩ := RelRs.unhold h0 t
    refine ⟨.cons a1 hd b1, fun j w o' e1 e2 => ?_⟩
    cases j with
    | zero => cases e1; cases e2; exact a2 _ rfl
    | succ j => exact b2 j w o' e1 e2
theorem rs_nil : PA X [] (rdRs c W (ret [])) := by
  refine ⟨fun pos pins s σ H Q I z => ?_⟩
  refine pa_nil.run pos pins s σ H Q I ?_
  obtain ⟨F, ι, e, s, hn, A, z⟩ := z
  exact z.ok A [] .nil
theorem rs_ok : ∀ (ys : List E) {c : Act} {es : List Expr}, XOk c C O k X W → chkEs C ys es = true → PA X es (rdRs c W (evRs O ys))
  | [], c, es, x, h => by
    cases es with
    | nil => exact rs_nil
    | cons a as => simp [chkEs] at h
  | y :: ys, c, [], x, h => by simp [chkEs] at h
  | y :: ys, c, a :: as, x, h => by
    simp only [chkEs, Bool.and_eq_true] at h
    have tail : PA X as (fun σ H Q => ∃ c' : Act, (c'.G = c.G ∧ c'.n = c.n) ∧ rdRs c' W (evRs O ys) σ H Q) :=
      ⟨fun pos pins s σ H Q I ⟨c', hc, z⟩ => (rs_ok ys (x.act hc.1 hc.2) h.2).run pos pins s σ H Q I z⟩
    have both := pa_cons ((ev_ok y).1 x h.1.2) tail (star_plain h.1.1)
    refine ⟨fun pos pins s σ H Q I z => both.run pos pins s σ H Q I ?_⟩
    obtain ⟨F, ι, e, s, hn, A, z⟩ := z
    refine ⟨F, ι, e, s, hn, A, z.split.imp fun r F1 ι1 H1 e1 s1 m1 p1 A1 h1 v hr => ?_⟩
    cases r with
    | val d =>
      refine ⟨c, ⟨rfl, rfl⟩, F1, ι1, e1, s1, hn, A1, ?_⟩
      refine (Fin.split (m := evRs O ys) h1).imp fun rs F2 ι2 H2 e2 s2 m2 p2 A2 h2 vs hvs => ?_
      exact h2.ok A2 (v :: vs) (.cons (Rel.mono m2 p2 hr) (fun o z => by cases z) hvs)
    | new o =>
      cases o with
      | lst ds =>
        obtain ⟨p, rfl, q1, q2, q3, q4, q5⟩ := hr
        obtain ⟨xs, hp, rl⟩ := q1
        have i0 : p ∉ c.ι0 := fun z => q3 (by
          obtain ⟨i, hi, e1⟩ := List.mem_iff_getElem.mp z
          exact List.mem_of_getElem? (A1.pre i p (by rw [List.getElem?_eq_getElem hi, e1])))
        have f0 : c.F0 p = none := by
          cases z : c.F0 p with
          | none => rfl
          | some u =>
            have := A1.le0 p u z
            rw [q2] at this
            cases this
        refine ⟨c.hold p (.lst xs), ⟨rfl, rfl⟩, F1, ι1, e1, s1, hn, A1.hold ⟨q4, q2, q3, q5⟩ hp, ?_⟩
        have h1' := Fin.held (u := .lst xs) q4 f0 i0 (Fin.split (m := evRs O ys) h1)
        refine h1'.imp fun rs F2 ι2 H2 e2 s2 m2 p2 A2 h2 vs hvs => ?_
        obtain ⟨ap, hp2, B, h3⟩ := h2
        obtain ⟨u1, u2⟩ := hvs.unhold q4
        refine h3.ok B (.ref p :: vs) (.cons ⟨p, rfl, ⟨xs, hp2, rl.mono m2 p2⟩, ap.f, ap.i, ap.h0, ap.o⟩ (fun o _ => u2) u1)
      | dic _ _ => exact h1.elim
      | ins _ _ => exact h1.elim
end
end Mi
namespace Mi
open PySem PySem.Spec PyProof.Rows L2
section
variable {c : Act} {C : CC} {O : Orc} {k : Nat} {X : Cx} {W : Wh} {a : Addr} {oe : Obj} {pn : List (Addr × Obj)} {c1 g0 i : Nat} {n : Str}
def rB (i : Nat) (a : Addr) (v : Option Bool) : TT := fun σ H Q => σ[i]? = some (some (.ref a)) ∧ ∃ b, v = some b ∧ Q b H
theorem isx_ok (x : XOk c C O k X W) (hz : Zc (.ref (c.G.ca c1)) none oe) (hf : ∃ vs, oe.data = .fields vs) (S : L2.ExcC X.K (c.G.ca c1)) (hi : C.slot i n = true) (hv : C.vis n = true) (hb : notBug n = true) {y : Str} {p1 p2 p3 pos : Pos} {v : V} {cv : Value} {b : Bool}
    (h1 : C.glb "isinstance" = true) (hy : PE (X.suite a ((a, oe) :: pn)) (.Name y p3) (tC v)) (hcv : ∀ u, RelV v u → u = cv) (hk : PySem.W.kitOne X.K (.ref (c.G.ca c1)) cv = some b) :
    PT (X.suite a ((a, oe) :: pn)) (.Call (.Name "isinstance" p1) [.Name n p2, .Name y p3] [] pos) (rB i a (some b)) := by
  have hb' : (n == ("__debug__" : Str)) = false ∧ (n == ("__classdict__" : Str)) = false := by
    simp only [notBug, Bool.and_eq_true, Bool.not_eq_true'] at hb
    exact hb.1
  have pv : PE (X.suite a ((a, oe) :: pn)) (.Name n p2) (tVar i) := pe_var (X := X.suite a ((a, oe) :: pn)) (x.slot hi) (x.vis hv) hb'.1 hb'.2
  have pc := pe_callB (X := X.suite a ((a, oe) :: pn)) (p := p1) (pos := pos) (call_isE (X := X) (pn := pn) S hz hf) (x.glb h1) (x.free _ (by decide +kernel)) (by decide +kernel) (pa_cons pv (pa_cons hy pa_nil)) (by decide) (by decide)
  refine ptM (pt_val pc) fun σ H Q z => ?_
  obtain ⟨z1, b', z2, z3⟩ := z
  cases z2
  exact ⟨_, z1, v, cv, b, rfl, hcv, hk, b, rfl, z3⟩
theorem cb_ok (x : XOk c C O k X W) (hz : Zc (.ref (c.G.ca c1)) none oe) (hf : ∃ vs, oe.data = .fields vs) (S : SubOk X.K (c.G.ca c1) (c.G.ca g0) true) (hi : C.slot i n = true) (hv : C.vis n = true) (hb : notBug n = true) (hfree : X.mg "ValueError" = none) :
    ∀ (q : TxB) (e : Expr), chkCB C n q e = true → PT (X.suite a ((a, oe) :: pn)) e (rB i a (cbv (O.sub c1) q))
  | .isx g, e, h => by
    simp only [chkCB] at h
    unfold isiCall at h
    split at h
    case h_2 => cases h
    simp only [Bool.and_eq_true, decide_eq_true_eq] at h
    obtain ⟨⟨⟨rfl, h1⟩, rfl⟩, ⟨h2, h3⟩, h4⟩ := h
    rename_i yy _ _
    have hd : (yy == ("__debug__" : Str)) = false := by
      simp only [notBug, Bool.and_eq_true, Bool.not_eq_true'] at h4
      exact h4.1.1
    cases hs : O.sub c1 g with
    | none =>
      exact ⟨fun pins s σ H Q I z => by
        obtain ⟨_, b, q, _⟩ := z
        simp only [cbv, hs] at q
        cases q⟩
    | some b =>
      rw [show cbv (O.sub c1) (.isx g) = some b from hs]
      exact isx_ok (a := a) (pn := pn) x hz hf S.ex hi hv hb h1 (pe_glob (X := X.suite a ((a, oe) :: pn)) (v := .ref (c.G.ca g)) (x.glb h3) (x.cls g _ h2).mg rfl hd) (fun u r => r) (x.sub c1 g b hs).ki
  | .ve, e, h => by
    simp only [chkCB] at h
    unfold isiCall at h
    split at h
    case h_2 => cases h
    simp only [Bool.and_eq_true, decide_eq_true_eq] at h
    obtain ⟨⟨⟨rfl, h1⟩, rfl⟩, rfl, h3⟩ := h
    exact isx_ok (a := a) (pn := pn) x hz hf S.ex hi hv hb h1 (pe_bltn (X := X.suite a ((a, oe) :: pn)) (v := .ty "ValueError") (u := .type "ValueError") (x.glb h3) hfree (by decide +kernel) rfl (by decide) (by decide)) (fun u r => r) S.ve
  | .not q, e, h => by
    cases e <;> first | (simp [chkCB] at h; done) | skip
    rename_i op e p
    cases op <;> first | (simp [chkCB] at h; done) | skip
    refine ptM (pt_not (cb_ok x hz hf S hi hv hb hfree q e (by simpa [chkCB] using h))) fun σ H Q z => ?_
    obtain ⟨z1, b, z2, z3⟩ := z
    simp only [cbv, Option.map_eq_some_iff] at z2
    obtain ⟨b', q1, rfl⟩ := z2
    exact ⟨z1, b', q1, z3⟩
  | .and q r, e, h => by
    cases e <;> first | (simp [chkCB] at h; done) | skip
    rename_i op es p
    cases op <;> first | (simp [chkCB] at h; done) | skip
    rcases es with _ | ⟨e1, _ | ⟨e2, _ | ⟨e3, es⟩⟩⟩ <;> first | (simp [chkCB] at h; done) | skip
    have h' : chkCB C n q e1 = true ∧ chkCB C n r e2 = true := by simpa [chkCB] using h
    refine ptM (pw_and (cb_ok x hz hf S hi hv hb hfree q e1 h'.1) (pw_and1 (cb_ok x hz hf S hi hv hb hfree r e2 h'.2))).pt fun σ H Q z => ?_
    obtain ⟨z1, b, z2, z3⟩ := z
    simp only [cbv] at z2
    split at z2
    · rename_i q1
      exact ⟨z1, true, q1, z1, b, z2, z3⟩
    · rename_i q1
      cases z2
      exact ⟨z1, false, q1, z3⟩
    · cases z2
theorem ce_ok (x : XOk c C O k X W) (hz : Zc (.ref (c.G.ca c1)) none oe) (hf : ∃ vs, oe.data = .fields vs) (S : SubOk X.K (c.G.ca c1) (c.G.ca g0) true) (hi : C.slot i n = true) (hv : C.vis n = true) (hb : notBug n = true) (hfree : X.mg "ValueError" = none) :
    ∀ (q : TxE) (e : Expr), chkCE C n q e = true → PE (X.suite a ((a, oe) :: pn)) e (fun σ H Q => σ[i]? = some (some (.ref a)) ∧ ∃ y, cev (O.sub c1) q = some y ∧ Q (.str y) H)
  | .str y, e, h => by
    cases e <;> first | (simp [chkCE] at h; done) | skip
    rename_i cst j p
    cases cst <;> first | (simp [chkCE] at h; done) | skip
    have h' := of_decide_eq_true (show decide (y = _) = true from by simpa [chkCE] using h)
    subst h'
    refine peM pe_str fun σ H Q z => ?_
    obtain ⟨_, w, q, r⟩ := z
    cases q
    exact r
  | .ife q u v, e, h => by
    cases e <;> first | (simp [chkCE] at h; done) | skip
    rename_i e1 e2 e3 p
    have h' : (chkCB C n q e1 = true ∧ chkCE C n u e2 = true) ∧ chkCE C n v e3 = true := by simpa [chkCE] using h
    refine peM (pe_ifExp (cb_ok x hz hf S hi hv hb hfree q _ h'.1.1) (ce_ok x hz hf S hi hv hb hfree u _ h'.1.2) (ce_ok x hz hf S hi hv hb hfree v _ h'.2)) fun σ H Q z => ?_
    obtain ⟨z1, y, z2, z3⟩ := z
    simp only [cev] at z2
    split at z2
    · rename_i q1
      exact ⟨z1, true, q1, z1, y, z2, z3⟩
    · rename_i q1
      exact ⟨z1, false, q1, z1, y, z2, z3⟩
    · cases z2
end
end Mi
namespace Mi
open PySem PySem.Spec PyProof.Rows L2
section
variable {α : Type} {c : Act} {C : CC} {O : Orc} {k : Nat} {X : Cx} {W : Wh} {σ : L2.St} {F F' : Hp} {ι ι' : List Addr} {H H' : Hp} {e : Ev} {s : Sto} {Dn : Ends} {pos p1 p2 : Pos}
structure Pass (X : Cx) : Prop where
  p : PassesOwn (model X.prog X.w) X.A X.env X.xe
  hs : X.stack = X.env :: X.outer
  hf : X.env.frame = some X.env.locals
def PSok (O : Orc) (k : Nat) (y : S) : Prop := ∀ {c : Act} {C : CC} {X : Cx} {W : Wh} {st : Stmt}, XOk c C O k X W → Pass X → chkS C y st = true → PS X st (rdS c W (exec O y))
def PSsok (O : Orc) (k : Nat) (y : List S) : Prop := ∀ {c : Act} {C : CC} {X : Cx} {W : Wh} {st : List Stmt}, XOk c C O k X W → Pass X → chkSs C y st = true → PSs X st (rdS c W (execs O y))
theorem noC_sw {a : Expr} {o : Option Expr} {l : Nat} {env : PySem.Env} (h : noComp a = true) : swapsWith a o l env = pure false := by
  cases a <;> first | rfl | simp [noComp] at h
theorem S_expr {y : E} : PSok O k (.expr y) := by
  intro c C X W st x hp h
  simp only [chkS] at h
  unfold cExpr at h
  split at h
  case h_2 => cases h
  simp only [Bool.and_eq_true] at h
  refine psM (ps_expr ((ev_ok y).1 x h.2) (noC_sw h.1)) fun D σ H z => ?_
  obtain ⟨F, ι, e, s, hn, A, z⟩ := z
  exact ⟨F, ι, e, s, hn, A, (z.split hn).imp fun r F1 ι1 H1 e1 s1 m1 p1 A1 h1 v hr => h1.nx A1 hn⟩
theorem S_set {i : Nat} {y : E} : PSok O k (.set i y) := by
  intro c C X W st x hp h
  simp only [chkS] at h
  unfold cSet at h
  split at h
  case h_2 => cases h
  rename_i nm py a pos
  simp only [Bool.and_eq_true] at h
  obtain ⟨⟨⟨h1, h2⟩, h3⟩, h4⟩ := h
  cases hs : swC C nm py a with
  | false => exact psM (set_plain x h1 h2 h3 hs ((ev_ok y).1 x h4)) fun D σ H z => set_rd z
  | true =>
    cases a <;> first | (simp [swC] at hs; done) | skip
    exact psM (set_comp x h2 hs y h4) fun D σ H z => set_rd z
theorem asgT_exc : ∀ (t : T) (d : D) (e : Ev) (s : Sto) (g : Nat) (e' : Ev) (s' : Sto), asgT t d e s ≠ .exc g e' s'
  | .name i, d, e, s, g, e', s' => by simp [asgT]
  | .tup ts, d, e, s, g, e', s' => by
    have go : ∀ (us : List T), (∀ t ∈ us, ∀ d e s g e' s', asgT t d e s ≠ .exc g e' s') → ∀ (ds : List D) (e : Ev) (s : Sto), asgTs us ds e s ≠ .exc g e' s' := fun us hu => by
      induction us with
      | nil => intro ds e s; cases ds <;> simp [asgTs, ret, badM]
      | cons t us ih =>
        intro ds e s
        cases ds with
        | nil => simp [asgTs, badM]
        | cons d ds =>
          unfold asgTs bnd
          cases z : asgT t d e s with
          | ok u e2 s2 => exact ih (fun t ht => hu t (.tail _ ht)) ds e2 s2
          | exc g2 e2 s2 => exact absurd z (hu t (.head _) d e s g2 e2 s2)
          | bad => intro q; cases q
    have all : ∀ t ∈ ts, ∀ d e s g e' s', asgT t d e s ≠ .exc g e' s' := fun t ht d e s g e' s' => asgT_exc t d e s g e' s'
    unfold asgT
    cases d <;> first | exact go _ all _ _ _ | simp [badM]
theorem tgt_rd {t : T} {d : D} {v : V} {f : Unit → M Flow} (hn : σ.length = c.n) (A : Abs c F ι σ H e s) (rd : Rel c.G F ι v d) (z : FinS c W F ι (bnd (asgT t d) f e s) Dn) {Q : L2.St → Hp → Prop} (hQ : ∀ σ' e', σ'.length = c.n → Abs c F ι σ' H e' s → FinS c W F ι (f () e' s) Dn → Q σ' H) : gT c.G c.n t v σ H Q := by
  unfold bnd at z
  cases ha : asgT t d e s with
  | ok u e1 s1 =>
    rw [ha] at z
    have := asgT_sto ha
    subst this
    exact ⟨c, F, ι, e, s1, d, e1, rfl, rfl, hn, A, rd, ha, fun σ' l1 l2 B => hQ σ' e1 (by rw [l1, hn]) B z⟩
  | exc g e1 s1 => exact absurd ha (asgT_exc _ _ _ _ _ _ _)
  | bad => rw [ha] at z; exact z.elim
def starB (u : Expr) : Bool := match u with
  | .Starred .. => true
  | _ => false
theorem starB_no {u : Expr} (h : plainA u = true) : starB u = false := by
  cases u <;> first | rfl | simp [plainA] at h
def nameC (env : PySem.Env) (line : Nat) (u : Expr) : Option Str := match u with
  | .Name id pos => if env.kindOf id == some .local && pos.line == line then some id else none
  | _ => none
theorem fm_len {α β : Type} {f : α → Option β} : ∀ {l : List α}, (l.filterMap f).length ≤ l.length
  | [] => Nat.le_refl _
  | a :: l => by
    rw [List.filterMap_cons]
    split
    · exact Nat.le_succ_of_le fm_len
    · exact Nat.succ_le_succ fm_len
theorem fm_lt {α β : Type} {f : α → Option β} : ∀ {l : List α}, (l.any fun a => (f a).isNone) = true → (l.filterMap f).length < l.length
  | [], h => by simp at h
  | a :: l, h => by
    rw [List.filterMap_cons]
    simp only [List.any_cons, Bool.or_eq_true] at h
    split
    · exact Nat.lt_succ_of_le fm_len
    · rename_i b hb
      rcases h with q | q
      · rw [hb] at q; cases q
      · exact Nat.succ_lt_succ (fm_lt q)
theorem swp_tup {env : PySem.Env} {ts vs : List Expr} {kk k2 : Nat} {tp p2 : Pos} (h : ∀ line, (ts.any fun t => (nameC env line t).isNone) = true) : swappedStores [.Tuple ts kk tp] (.Tuple vs k2 p2) env = pure none := by
  show (if (!(ts.length == 2 || ts.length == 3) || vs.length != ts.length || env.blockKind != .function) = true then pure none else if vs.any starB = true then _ else if ((ts.filterMap (nameC env ((ts.head?.map (·.pos.line)).getD 0))).length != ts.length || _) = true then _ else _) = _
  split
  · rfl
  · split
    · rfl
    · split
      · rfl
      · rename_i hh
        exfalso
        refine hh ?_
        rw [Bool.or_eq_true]
        refine .inl ?_
        have := fm_lt (h ((ts.head?.map (·.pos.line)).getD 0))
        simp only [bne_iff_ne, ne_eq]
        omega
theorem swp_fold {env : PySem.Env} {ts vs : List Expr} {kk k2 : Nat} {tp p2 : Pos} (h : foldT (.Tuple vs k2 p2) = true) : swappedStores [.Tuple ts kk tp] (.Tuple vs k2 p2) env = pure none := by
  have h' : vs.all (foldedForSure 8) = true := h
  show (if (!(ts.length == 2 || ts.length == 3) || vs.length != ts.length || env.blockKind != .function) = true then pure none else if vs.any starB = true then _ else if ((ts.filterMap (nameC env ((ts.head?.map (·.pos.line)).getD 0))).length != ts.length || _) = true then _ else if vs.all (foldedForSure 8) = true then _ else _) = _
  rw [if_pos h']
  split
  · rfl
  · split
    · rfl
    · split <;> rfl
theorem swp_none (x : XOk c C O k X W) {a : Expr} {es : List Expr} {kk : Nat} {tp : Pos} (h : (!(isTup a) || es.any (fun t => notLcl C t) || foldT a) = true) : swappedStores [.Tuple es kk tp] a X.env = pure none := by
  cases hT : isTup a with
  | false => cases a <;> first | rfl | simp [isTup] at hT
  | true =>
    rw [hT] at h
    simp only [Bool.not_true, Bool.false_or, Bool.or_eq_true] at h
    cases a <;> first | (simp [isTup] at hT; done) | skip
    rcases h with h | h
    rotate_left
    · exact swp_fold h
    refine swp_tup fun line => ?_
    rw [List.any_eq_true] at h ⊢
    obtain ⟨t, ht, hl⟩ := h
    refine ⟨t, ht, ?_⟩
    cases t <;> first | rfl | skip
    rename_i y p
    simp only [notLcl, lcl, Bool.not_eq_true', decide_eq_false_iff_not] at hl
    have hk : X.env.kindOf y = C.nm.lookup y := by unfold PySem.Env.kindOf; rw [x.nm]
    have hl' : (X.env.kindOf y == some NameKind.local) = false := by
      rw [hk]
      cases z : C.nm.lookup y with
      | none => rfl
      | some kd =>
        cases kd <;> first | rfl | skip
        exact absurd z hl
    simp only [nameC, hl', Bool.false_and, Bool.false_eq_true, if_false, Option.isNone_none]
theorem S_asg {t : T} {y : E} : PSok O k (.asg t y) := by
  intro c C X W st x hp h
  simp only [chkS] at h
  split at h
  case h_2 => cases h
  rename_i ts
  unfold cAsg at h
  split at h
  case h_2 => cases h
  rename_i es kk tp a pos
  simp only [Bool.and_eq_true] at h
  obtain ⟨⟨⟨h1, h2⟩, h3⟩, h4⟩ := h
  refine psM (ps_asg ((ev_ok y).1 x h4) (tgt_ok x (t := .tup ts) (show chkT C (.tup ts) (.Tuple es kk tp) = true from by simp only [chkT]; exact h3)) (by unfold swapsWithSole; exact noC_sw h1) (swp_none x h2) rfl) fun D σ H z => ?_
  obtain ⟨F, ι, e, s, hn, A, z⟩ := z
  refine ⟨F, ι, e, s, hn, A, (z.split hn).imp fun r F1 ι1 H1 e1 s1 m1 p1 A1 h1 v hr => ?_⟩
  obtain ⟨F2, d, m2, A2, rd, h2⟩ := h1.frz hn A1 hr
  exact tgt_rd hn A2 rd h2 fun σ' e' hn' B q => q.nx B hn'
theorem lcl_kind (x : XOk c C O k X W) {y : Str} (h : lcl C y = true) : X.env.scope.names.lookup y = some .local ∧ X.env.kindOf y = some .local := by
  unfold lcl at h
  have := of_decide_eq_true h
  exact ⟨by rw [x.nm]; exact this, by unfold PySem.Env.kindOf; rw [x.nm]; exact this⟩
theorem swp_two {env : PySem.Env} {nx ny : Str} {px py kt pt2 : Pos} {k1 k2 : Nat} {a b : Expr} (hb : env.blockKind = .function) (h1 : env.kindOf nx = some .local) (h2 : env.kindOf ny = some .local) (h3 : py.line = px.line) (h4 : nx ≠ ny)
    (h5 : plainA a = true) (h6 : plainA b = true) (h7 : [a, b].all (foldedForSure 8) = false) (h8 : [a, b].all (constantsAlone 8) = false) : swappedStores [.Tuple [.Name nx px, .Name ny py] k1 kt] (.Tuple [a, b] k2 pt2) env = pure (some [nx, ny]) := by
  have s1 : ¬ ([a, b].any starB = true) := by simp [starB_no h5, starB_no h6]
  have s2 : [Expr.Name nx px, Expr.Name ny py].filterMap (nameC env px.line) = [nx, ny] := by simp [nameC, h1, h2, h3]
  have b1 : (nx == ny) = false := by simp [h4]
  have b2 : (ny == nx) = false := by simp [Ne.symm h4]
  have s3 : ¬ (([nx, ny].length != 2 || [nx, ny].eraseDups.length != [nx, ny].length) = true) := by
    simp [List.eraseDups, List.eraseDupsBy, List.eraseDupsBy.loop, b1, b2]
  show (if _ then _ else if [a, b].any starB = true then _ else if (([Expr.Name nx px, Expr.Name ny py].filterMap (nameC env px.line)).length != 2 || ([Expr.Name nx px, Expr.Name ny py].filterMap (nameC env px.line)).eraseDups.length != ([Expr.Name nx px, Expr.Name ny py].filterMap (nameC env px.line)).length) = true then _
    else if [a, b].all (foldedForSure 8) = true then _ else if [a, b].all (constantsAlone 8) = true then _ else pure (some ([Expr.Name nx px, Expr.Name ny py].filterMap (nameC env px.line)))) = _
  rw [if_neg (by simp [hb]), if_neg s1, s2, if_neg s3, h7, h8]
  rfl
theorem swp_three {env : PySem.Env} {nx ny nz : Str} {px py pz kt pt2 : Pos} {k1 k2 : Nat} {a b d : Expr} (hb : env.blockKind = .function) (h1 : env.kindOf nx = some .local) (h2 : env.kindOf ny = some .local) (h2' : env.kindOf nz = some .local) (h3 : py.line = px.line) (h3' : pz.line = px.line)
    (h4 : nx ≠ ny) (h4' : nx ≠ nz) (h4'' : ny ≠ nz)
    (h5 : plainA a = true) (h6 : plainA b = true) (h6' : plainA d = true) (h7 : [a, b, d].all (foldedForSure 8) = false) (h8 : [a, b, d].all (constantsAlone 8) = false) : swappedStores [.Tuple [.Name nx px, .Name ny py, .Name nz pz] k1 kt] (.Tuple [a, b, d] k2 pt2) env = pure (some [nx, ny, nz]) := by
  have s1 : ¬ ([a, b, d].any starB = true) := by simp [starB_no h5, starB_no h6, starB_no h6']
  have s2 : [Expr.Name nx px, Expr.Name ny py, Expr.Name nz pz].filterMap (nameC env px.line) = [nx, ny, nz] := by simp [nameC, h1, h2, h2', h3, h3']
  have b1 : (nx == ny) = false := by simp [h4]
  have b2 : (ny == nx) = false := by simp [Ne.symm h4]
  have b3 : (nx == nz) = false := by simp [h4']
  have b4 : (nz == nx) = false := by simp [Ne.symm h4']
  have b5 : (ny == nz) = false := by simp [h4'']
  have b6 : (nz == ny) = false := by simp [Ne.symm h4'']
  have s3 : ¬ (([nx, ny, nz].length != 3 || [nx, ny, nz].eraseDups.length != [nx, ny, nz].length) = true) := by
    simp [List.eraseDups, List.eraseDupsBy, List.eraseDupsBy.loop, b1, b2, b3, b4, b5, b6]
  show (if _ then _ else if [a, b, d].any starB = true then _ else if (([Expr.Name nx px, Expr.Name ny py, Expr.Name nz pz].filterMap (nameC env px.line)).length != 3 || ([Expr.Name nx px, Expr.Name ny py, Expr.Name nz pz].filterMap (nameC env px.line)).eraseDups.length != ([Expr.Name nx px, Expr.Name ny py, Expr.Name nz pz].filterMap (nameC env px.line)).length) = true then _
    else if [a, b, d].all (foldedForSure 8) = true then _ else if [a, b, d].all (constantsAlone 8) = true then _ else pure (some ([Expr.Name nx px, Expr.Name ny py, Expr.Name nz pz].filterMap (nameC env px.line)))) = _
  rw [if_neg (by simp [hb]), if_neg s1, s2, if_neg s3, h7, h8]
  rfl
theorem S_par {is : List Nat} {es : List E} : PSok O k (.par is es) := by
  intro c C X W st x hp h
  have hb : X.env.blockKind = .function := by unfold PySem.Env.blockKind; rw [x.kind]; rfl
  simp only [chkS] at h
  split at h
  case h_3 => cases h
  · rename_i i j
    unfold cPar2 at h
    split at h
    case h_2 => cases h
    rename_i nx px ny py kt pt a b k2 pt2 pos
    simp only [Bool.and_eq_true, par2C, decide_eq_true_eq] at h
    obtain ⟨⟨⟨⟨⟨⟨⟨⟨⟨⟨h1, h2⟩, h3⟩, h4⟩, h5⟩, h6⟩, hne⟩, h7, h8⟩, h9⟩, h10⟩, h11⟩ := h
    have hw : swappedStores [.Tuple [.Name nx px, .Name ny py] kt pt] (.Tuple [a, b] k2 pt2) X.env = pure (some [nx, ny]) := by
      rw [Bool.not_eq_true'] at h9 h10
      exact swp_two hb (lcl_kind x h4).2 (lcl_kind x h5).2 (eq_of_beq h6).symm hne h7 h8 h9 h10
    refine psM (ps_par x.calm (by rw [x.N]; exact x.nd) (x.slot h1) (x.slot h2) h3 (lcl_kind x h4).1 (lcl_kind x h5).1 (rs_ok es x h11) hw) fun D σ H z => ?_
    obtain ⟨F, ι, e, s, hn, A, z⟩ := z
    refine ⟨F, ι, e, s, hn, A, (z.split hn).imp fun rs F1 ι1 H1 e1 s1 m1 p1 A1 q1 vs hvs => ?_⟩
    split at q1
    · rename_i hl
      have B := A1.sets (is := [i, j]) hvs
      have q2 := FinS.nx (σ := setsV [i, j] vs σ) B (by rw [setsV_len]; exact hn) q1
      cases hvs with
      | nil => simp at hl
      | cons a1 a2 a3 =>
        cases a3 with
        | nil => simp at hl
        | cons b1 b2 b3 =>
          cases b3 with
          | nil => exact ⟨_, _, rfl, q2⟩
          | cons _ _ _ => simp at hl
    · exact q1.elim
  · rename_i i j l
    unfold cPar3 at h
    split at h
    case h_2 => cases h
    rename_i nx px ny py nz pz kt pt a b d k2 pt2 pos
    simp only [Bool.and_eq_true, par3C, decide_eq_true_eq] at h
    obtain ⟨⟨⟨⟨⟨⟨⟨⟨⟨⟨⟨⟨⟨⟨⟨h1, h2⟩, h2'⟩, h3⟩, h3'⟩, h3''⟩, h4⟩, h5⟩, h5'⟩, h6⟩, h6'⟩, ⟨hxy, hxz⟩, hyz⟩, ⟨h7, h8⟩, h8'⟩, h9⟩, h10⟩, h11⟩ := h
    have hw : swappedStores [.Tuple [.Name nx px, .Name ny py, .Name nz pz] kt pt] (.Tuple [a, b, d] k2 pt2) X.env = pure (some [nx, ny, nz]) := by
      rw [Bool.not_eq_true'] at h9 h10
      exact swp_three hb (lcl_kind x h4).2 (lcl_kind x h5).2 (lcl_kind x h5').2 (eq_of_beq h6).symm (eq_of_beq h6').symm hxy hxz hyz h7 h8 h8' h9 h10
    refine psM (ps_par3 x.calm (by rw [x.N]; exact x.nd) (x.slot h1) (x.slot h2) (x.slot h2') h3 h3' h3'' (lcl_kind x h4).1 (lcl_kind x h5).1 (lcl_kind x h5').1 (rs_ok es x h11) hw) fun D σ H z => ?_
    obtain ⟨F, ι, e, s, hn, A, z⟩ := z
    refine ⟨F, ι, e, s, hn, A, (z.split hn).imp fun rs F1 ι1 H1 e1 s1 m1 p1 A1 q1 vs hvs => ?_⟩
    split at q1
    · rename_i hl
      have B := A1.sets (is := [i, j, l]) hvs
      have q2 := FinS.nx (σ := setsV [i, j, l] vs σ) B (by rw [setsV_len]; exact hn) q1
      cases hvs with
      | nil => simp at hl
      | cons a1 a2 a3 =>
        cases a3 with
        | nil => simp at hl
        | cons b1 b2 b3 =>
          cases b3 with
          | nil => simp at hl
          | cons c1 c2 c3 =>
            cases c3 with
            | nil => exact ⟨_, _, _, rfl, q2⟩
            | cons _ _ _ => simp at hl
    · exact q1.elim
theorem S_ret {y : E} : PSok O k (.ret y) := by
  intro c C X W st x hp h
  simp only [chkS] at h
  unfold cRet at h
  split at h
  case h_2 => cases h
  refine psM (ps_ret ((ev_ok y).1 x h)) fun D σ H z => ?_
  obtain ⟨F, ι, e, s, hn, A, z⟩ := z
  exact ⟨F, ι, e, s, hn, A, (z.split hn).imp fun r F1 ι1 H1 e1 s1 m1 p1 A1 h1 v hr => h1 F1 ι1 σ H1 (Same.refl _) (Pre.refl _) hn A1 v hr⟩
theorem S_retN : PSok O k .retN := by
  intro c C X W st x hp h
  simp only [chkS] at h
  unfold cRetN at h
  split at h
  case h_2 => cases h
  refine psM ps_retN fun D σ H z => ?_
  obtain ⟨F, ι, e, s, hn, A, z⟩ := z
  exact z F ι σ H (Same.refl _) (Pre.refl _) hn A .non .non
theorem S_iff {q : E} {a b : List S} (ha : PSsok O k a) (hb : PSsok O k b) : PSok O k (.iff q a b) := by
  intro c C X W st x hp h
  simp only [chkS] at h
  unfold cIf at h
  split at h
  case h_2 => cases h
  simp only [Bool.and_eq_true] at h
  obtain ⟨⟨⟨h1, h2⟩, h3⟩, h4⟩ := h
  refine psM (ps_if ((ev_ok q).2.1 x h1 h2) (ha x hp h3) (hb x hp h4)) fun D σ H z => ?_
  obtain ⟨F, ι, e, s, hn, A, z⟩ := z
  have e1 : exec O (.iff q a b) = bnd (bnd (evE O q) asBl) fun k => match k with
      | true => execs O a
      | false => execs O b := by
    funext e s
    simp only [exec, bnd]
    cases evE O q e s <;> rfl
  rw [e1] at z
  refine ⟨F, ι, e, s, hn, A, (z.split hn).imp fun t F1 ι1 H1 e1 s1 m1 p1 A1 h1 => ?_⟩
  cases t with
  | true => exact ⟨F1, ι1, e1, s1, hn, A1, h1⟩
  | false => exact ⟨F1, ι1, e1, s1, hn, A1, h1⟩
theorem S_whl {n : Nat} {q : E} {b : List S} (hb : PSsok O k b) : PSok O k (.whl n q b) := by
  intro c C X W st x hp h
  simp only [chkS] at h
  unfold cWhl at h
  split at h
  case h_2 => cases h
  simp only [Bool.and_eq_true] at h
  obtain ⟨⟨h1, h2⟩, h3⟩ := h
  refine psM (ps_while hp.p ((ev_ok q).2.1 x h1 h2) (hb x hp h3)) fun D σ H z => ?_
  refine ⟨fun m => rdS c W (whlL (bnd (evE O q) asBl) (execs O b) m) D, ⟨n, z⟩, fun m σ H z => ?_⟩
  obtain ⟨F, ι, e, s, hn, A, z⟩ := z
  cases m with
  | zero => exact z.elim
  | succ m =>
    refine ⟨F, ι, e, s, hn, A, (FinS.split (m := bnd (evE O q) asBl) hn z).imp fun t F1 ι1 H1 e1 s1 m1 p1 A1 h1 => ?_⟩
    cases t with
    | false => exact h1.nx A1 hn
    | true =>
      refine ⟨rdS c W (whlL (bnd (evE O q) asBl) (execs O b) m) D, fun σ' H' z => ⟨m, Nat.lt_succ_self m, z⟩, F1, ι1, e1, s1, hn, A1, ?_⟩
      exact FinS.seq (m := execs O b) h1 (fun F5 ι5 σ5 H5 e5 s5 k1 k2 k3 k4 k5 => ⟨F5, ι5, e5, s5, k3, k4, k5⟩) (fun F5 ι5 σ5 H5 e5 s5 k1 k2 k3 k4 k5 => k5.nx k4 k3) (fun F5 ι5 σ5 H5 e5 s5 k1 k2 k3 k4 k5 => ⟨F5, ι5, e5, s5, k3, k4, k5⟩) (fun r => rfl) rfl
theorem S_for {t : T} {it : I} {b : List S} (hb : PSsok O k b) : PSok O k (.for t it b) := by
  intro c C X W st x hp h
  simp only [chkS] at h
  unfold cFor at h
  split at h
  case h_2 => cases h
  simp only [Bool.and_eq_true] at h
  obtain ⟨⟨⟨h1, h2⟩, h3⟩, h4⟩ := h
  refine psM (ps_for hp.p x.calm (evI_ok it x h3) (tgt_ok x h2) (hb x hp h4) (set_fold h1)) fun D σ H z => ?_
  obtain ⟨F, ι, e, s, hn, A, z⟩ := z
  refine ⟨F, ι, e, s, hn, A, (z.split hn).imp fun items F1 ι1 H1 e1 s1 m1 p1 A1 z1 J hJ => ?_⟩
  refine ⟨fun i m σ H => m = items.length - i ∧ i ≤ items.length ∧ ∃ F2 ι2 e s, Same F1 F2 ∧ Pre ι1 ι2 ∧ σ.length = c.n ∧ Abs c F2 ι2 σ H e s ∧ FinS c W F2 ι2 (forL (fun x => bnd (asgT t x) fun _ => execs O b) (items.drop i) e s) D,
    ⟨_, rfl, Nat.zero_le _, F1, ι1, e1, s1, Same.refl _, Pre.refl _, hn, A1, z1⟩, ?_⟩
  rintro i m σ2 H2 ⟨rfl, hi, F2, ι2, e2, s2, m2, p2, hn2, A2, z2⟩
  by_cases hlt : i < items.length
  · obtain ⟨go, yl⟩ := (hJ F2 H2 i m2 A2.le).1 hlt
    refine .inr ⟨go, fun σ3 H3 => (items.length - (i + 1) = items.length - (i + 1) ∧ i + 1 ≤ items.length ∧ ∃ F2 ι2 e s, Same F1 F2 ∧ Pre ι1 ι2 ∧ σ3.length = c.n ∧ Abs c F2 ι2 σ3 H3 e s ∧ FinS c W F2 ι2 (forL (fun x => bnd (asgT t x) fun _ => execs O b) (items.drop (i + 1)) e s) D), fun σ3 H3 w => ⟨_, by omega, w⟩, fun u H3 y => ?_⟩
    obtain ⟨F3, d, hd, gr, rd⟩ := yl u H3 y
    have e3 : items.drop i = d :: items.drop (i + 1) := by
      rw [List.drop_eq_getElem_cons hlt]
      rw [List.getElem?_eq_getElem hlt] at hd
      cases hd
      rfl
    rw [e3] at z2
    have A3 := A2.grow gr
    have z3 : FinS c W F3 ι2 (bnd (asgT t d) (fun _ => bnd (execs O b) fun fl => match fl with
        | .nx => forL (fun x => bnd (asgT t x) fun _ => execs O b) (items.drop (i + 1))
        | .ct => forL (fun x => bnd (asgT t x) fun _ => execs O b) (items.drop (i + 1))
        | .bk => ret .nx
        | .rt r => ret (.rt r)) e2 s2) D := by
      refine FinS.later ?_ gr.f (Pre.refl _)
      have e4 : forL (fun x => bnd (asgT t x) fun _ => execs O b) (d :: items.drop (i + 1)) e2 s2 = bnd (asgT t d) (fun _ => bnd (execs O b) fun fl => match fl with
        | .nx => forL (fun x => bnd (asgT t x) fun _ => execs O b) (items.drop (i + 1))
        | .ct => forL (fun x => bnd (asgT t x) fun _ => execs O b) (items.drop (i + 1))
        | .bk => ret .nx
        | .rt r => ret (.rt r)) e2 s2 := by
        simp only [forL, bnd]
        cases asgT t d e2 s2 <;> rfl
      rw [← e4]
      exact z2
    refine tgt_rd hn2 A3 (rd.mono (Same.refl _) p2) z3 fun σ4 e4 hn4 A4 z4 => ⟨F3, ι2, e4, s2, hn4, A4, ?_⟩
    refine FinS.seq (m := execs O b) z4 (fun F5 ι5 σ5 H5 e5 s5 k1 k2 k3 k4 k5 => ?_) (fun F5 ι5 σ5 H5 e5 s5 k1 k2 k3 k4 k5 => k5.nx k4 k3) (fun F5 ι5 σ5 H5 e5 s5 k1 k2 k3 k4 k5 => ?_) (fun r => rfl) rfl
    · exact ⟨rfl, hlt, F5, ι5, e5, s5, (m2.trans gr.f).trans k1, p2.trans k2, k3, k4, k5⟩
    · exact ⟨rfl, hlt, F5, ι5, e5, s5, (m2.trans gr.f).trans k1, p2.trans k2, k3, k4, k5⟩
  · have e3 : i = items.length := by omega
    refine .inl ⟨(hJ F2 H2 i m2 A2.le).2 (by omega), ?_⟩
    rw [e3, List.drop_length] at z2
    exact z2.nx A2 hn2
theorem S_forR {t : T} {y : E} {b : List S} (hb : PSsok O k b) : PSok O k (.forR t y b) := by
  intro c C X W st x hp h
  simp only [chkS] at h
  unfold cFor at h
  split at h
  case h_2 => cases h
  simp only [Bool.and_eq_true] at h
  obtain ⟨⟨⟨h1, h2⟩, h3⟩, h4⟩ := h
  refine psM (ps_for hp.p x.calm (pi_seq ((ev_ok y).1 x h3)) (tgt_ok x h2) (hb x hp h4) (set_fold h1)) fun D σ H z => ?_
  obtain ⟨F, ι, e, s, hn, A, z⟩ := z
  refine ⟨F, ι, e, s, hn, A, (z.split hn).imp fun r F1 ι1 H1 e1 s1 m1 p1 A1 z1 v hr => ?_⟩
  cases r with
  | new o => exact z1.elim
  | val d =>
    cases d <;> first | exact z1.elim | skip
    rename_i n
    cases hr with
    | ref hn1 =>
      rename_i a
      have there : ∀ {F2 : Hp} {ι2 : List Addr} {σ2 : L2.St} {H2 : Hp} {e2 : Ev} {s2 : Sto} {f : Mi.D → M Flow} {m i : Nat}, Pre ι1 ι2 → Abs c F2 ι2 σ2 H2 e2 s2 → FinS c W F2 ι2 (forRL n f (m + 1) i e2 s2) D →
          ∃ ds xs, s2[n]? = some (.lst ds) ∧ H2 a = some (.lst xs) ∧ Rels c.G F2 ι2 xs ds := fun {F2 ι2 σ2 H2 e2 s2 f m i} p2 A2 z2 => by
        cases hs : s2[n]? with
        | none => simp only [forRL, hs] at z2; exact z2.elim
        | some o =>
          cases o with
          | lst ds =>
            obtain ⟨xs, q1, q2⟩ := A2.objs n a _ (p2 n a hn1) hs
            exact ⟨ds, xs, rfl, q1, q2⟩
          | dic _ _ => simp only [forRL, hs] at z2; exact z2.elim
          | ins _ _ => simp only [forRL, hs] at z2; exact z2.elim
      obtain ⟨ds0, xs0, _, q0, _⟩ := there (Pre.refl _) A1 z1
      refine ⟨a, rfl, .inl ⟨⟨xs0, .inl (.inl q0)⟩, ?_⟩⟩
      refine ⟨fun i m σ H => ∃ F2 ι2 e s, Same F1 F2 ∧ Pre ι1 ι2 ∧ σ.length = c.n ∧ Abs c F2 ι2 σ H e s ∧ FinS c W F2 ι2 (forRL n (fun x => bnd (asgT t x) fun _ => execs O b) m i e s) D,
        ⟨1000, F1, ι1, e1, s1, Same.refl _, Pre.refl _, hn, A1, z1⟩, ?_⟩
      rintro i m σ2 H2 ⟨F2, ι2, e2, s2, m2, p2, hn2, A2, z2⟩
      cases m with
      | zero => exact z2.elim
      | succ m =>
        obtain ⟨ds, xs, hs, hx, rl⟩ := there p2 A2 z2
        have sq : SqL X.K H2 a xs := .inl (.inl hx)
        simp only [forRL, hs] at z2
        cases hd : ds[i]? with
        | none =>
          rw [hd] at z2
          have hle : ds.length ≤ i := List.getElem?_eq_none_iff.mp hd
          exact .inl ⟨⟨xs, sq, by rw [rl.length]; exact hle⟩, z2.nx A2 hn2⟩
        | some d =>
          rw [hd] at z2
          obtain ⟨v, hv, rd⟩ := rl.get hd
          refine .inr ⟨⟨xs, v, sq, hv⟩, fun σ3 H3 => ∃ F2 ι2 e s, Same F1 F2 ∧ Pre ι1 ι2 ∧ σ3.length = c.n ∧ Abs c F2 ι2 σ3 H3 e s ∧ FinS c W F2 ι2 (forRL n (fun x => bnd (asgT t x) fun _ => execs O b) m (i + 1) e s) D, fun σ3 H3 w => ⟨m, Nat.lt_succ_self m, w⟩, fun u H3 y => ?_⟩
          obtain ⟨rfl, y⟩ := y
          have := y xs sq
          rw [hv] at this
          cases this
          have z3 : FinS c W F2 ι2 (bnd (asgT t d) (fun _ => bnd (execs O b) fun fl => match fl with
              | .nx => forRL n (fun x => bnd (asgT t x) fun _ => execs O b) m (i + 1)
              | .ct => forRL n (fun x => bnd (asgT t x) fun _ => execs O b) m (i + 1)
              | .bk => ret .nx
              | .rt r => ret (.rt r)) e2 s2) D := by
            have e4 : bnd (bnd (asgT t d) fun _ => execs O b) (fun fl => match fl with
              | .nx => forRL n (fun x => bnd (asgT t x) fun _ => execs O b) m (i + 1)
              | .ct => forRL n (fun x => bnd (asgT t x) fun _ => execs O b) m (i + 1)
              | .bk => ret .nx
              | .rt r => ret (.rt r)) e2 s2 = bnd (asgT t d) (fun _ => bnd (execs O b) fun fl => match fl with
              | .nx => forRL n (fun x => bnd (asgT t x) fun _ => execs O b) m (i + 1)
              | .ct => forRL n (fun x => bnd (asgT t x) fun _ => execs O b) m (i + 1)
              | .bk => ret .nx
              | .rt r => ret (.rt r)) e2 s2 := by
              simp only [bnd]
              cases asgT t d e2 s2 <;> rfl
            rw [← e4]
            exact z2
          refine tgt_rd hn2 A2 rd z3 fun σ4 e4 hn4 A4 z4 => ⟨F2, ι2, e4, s2, hn4, A4, ?_⟩
          refine FinS.seq (m := execs O b) z4 (fun F5 ι5 σ5 H5 e5 s5 k1 k2 k3 k4 k5 => ?_) (fun F5 ι5 σ5 H5 e5 s5 k1 k2 k3 k4 k5 => k5.nx k4 k3) (fun F5 ι5 σ5 H5 e5 s5 k1 k2 k3 k4 k5 => ?_) (fun r => rfl) rfl
          · exact ⟨F5, ι5, e5, s5, m2.trans k1, p2.trans k2, k3, k4, k5⟩
          · exact ⟨F5, ι5, e5, s5, m2.trans k1, p2.trans k2, k3, k4, k5⟩
theorem Abs.clr (A : Abs c F ι σ H e s) (i : Nat) : Abs c F ι (σ.set i none) H (e.set i none) s := by
  have ge : ∀ {α : Type} {l : List (Option α)} {j : Nat} {d : α}, (l.set i none)[j]? = some (some d) → i ≠ j ∧ l[j]? = some (some d) := fun {α l j d} h => by
    by_cases hj : i = j
    · subst hj
      by_cases hl : i < l.length
      · rw [List.getElem?_set_self hl] at h; cases h
      · rw [List.getElem?_eq_none (by rw [List.length_set]; omega)] at h; cases h
    · rw [List.getElem?_set_ne hj] at h
      exact ⟨hj, h⟩
  refine { len := by simp [A.len], le0 := A.le0, le := A.le, new := A.new, pre := A.pre, nd := A.nd, inew := A.inew, sep := A.sep, keep := A.keep, lens := A.lens, objs := A.objs, val := fun j d h => ?_, own := fun j o h => ?_, ownnd := fun j l a p q hne h1 h2 h3 h4 => ?_ }
  · obtain ⟨hj, h'⟩ := ge h
    obtain ⟨v, q1, q2⟩ := A.val j d h'
    exact ⟨v, by rw [List.getElem?_set_ne hj]; exact q1, q2⟩
  · obtain ⟨hj, h'⟩ := ge h
    obtain ⟨a, q1, q2⟩ := A.own j o h'
    exact ⟨a, by rw [List.getElem?_set_ne hj]; exact q1, q2⟩
  · exact A.ownnd j l a p q hne (ge h1).2 (ge h2).2 (ge h3).2 (ge h4).2
theorem XOk.tr (x : XOk c C O k X W) {pn : List (Addr × PySem.Obj)} {xe : Value → Shared → Prop} {W' : Wh} (tk : Takes (X.tr pn xe) W') : XOk c C O k (X.tr pn xe) W' :=
  { K := x.K, N := x.N, n := x.n, nm := x.nm, kind := x.kind, nd := x.nd, calm := x.calm, gd := x.gd, room := x.room, tk := tk, wr := x.wr, free := x.free, gl := x.gl, glc := x.glc, fn := x.fn, ok := x.ok, dyn := x.dyn,
    cls := fun g y hg => ⟨(x.cls g y hg).mg, (x.cls g y hg).kp, (x.cls g y hg).ex, (x.cls g y hg).sb, (x.cls g y hg).ty⟩, sub := x.sub }
theorem S_tri {b : List S} {g i : Nat} {ce : TxE} (hb : PSsok O k b) : PSok O k (.tri b g i ce) := by
  intro c C X W st x hp h
  simp only [chkS] at h
  unfold cTry at h
  split at h
  case h_2 => cases h
  rename_i body y py n e pr ph p
  simp only [Bool.and_eq_true, decide_eq_true_eq] at h
  obtain ⟨⟨⟨⟨⟨⟨⟨⟨h1, h2⟩, h3⟩, h4⟩, h5⟩, h6⟩, h7⟩, h8⟩, h9⟩ := h
  have cl := x.cls g y h1
  have hd : (y == ("__debug__" : Str)) = false := by
    simp only [notBug, Bool.and_eq_true, Bool.not_eq_true'] at h3
    exact h3.1.1
  have nm : Names X y (.ref (c.G.ca g)) := ⟨x.glb h2, hd, .inl cl.mg⟩
  have hfree : X.mg "ValueError" = none := x.free _ (by decide +kernel)
  refine psM (ps_try_as (i := i) (ts := fun a cls d D σ H => ∃ c1 w, cls = .ref (c.G.ca c1) ∧ d = none ∧ O.sub c1 g = some true ∧ cev (O.sub c1) ce = some w ∧ σ[i]? = some (some (.ref a)) ∧ D.rt (.str w) H) (Wout := W) (tb := fun W' => rdS c W' (execs O b)) hp.hs hp.hf (by rw [x.N]; exact x.nd) (x.slot h4) (by unfold PySem.Env.kindOf; rw [x.nm]; exact h6) nm x.tk
    (fun W' pn xe tk ps => hb (x.tr tk) ⟨ps, hp.hs, hp.hf⟩ h8) (fun a oe cls d pn hz hf => ?_)) fun D σ H z => ?_
  · refine ⟨fun pins s σ H D I hh => ?_⟩
    obtain ⟨c1, w, rfl, rfl, hs, hc, hi, hD⟩ := hh
    exact (pss_one (ps_ret (ce_ok (a := a) (pn := pn) x hz hf (x.sub c1 g true hs) h4 h5 h7 hfree ce e h9))).run pins s σ H D I ⟨hi, w, hc, hD⟩
  · obtain ⟨F, ι, e0, s0, hn, A, z⟩ := z
    refine ⟨F, ι, e0, s0, hn, A, ?_⟩
    have z' : FinS c W F ι (tryM O.sub g i ce (execs O b) e0 s0) D := z
    unfold tryM at z'
    cases hm : execs O b e0 s0 with
    | ok fl e1 s1 => rw [hm] at z'; exact z'
    | bad => rw [hm] at z'; exact z'
    | exc c1 e1 s1 =>
      rw [hm] at z'
      simp only at z'
      intro F' ι' σ' H' k1 k2 k3 k4
      cases hs : O.sub c1 g with
      | none => rw [hs] at z'; exact z'.elim
      | some r =>
        refine ⟨r, (x.sub c1 g r hs).em, fun hr a ha => ?_, fun hr => ?_⟩
        · subst hr
          rw [hs] at z'
          simp only at z'
          cases hc : cev (O.sub c1) ce with
          | none => rw [hc] at z'; exact z'.elim
          | some w =>
            rw [hc] at z'
            have hil : i < σ'.length := by
              have := x.slot h4
              rw [x.N] at this
              have := (List.getElem?_eq_some_iff.mp this).1
              rw [k3, x.n]
              exact this
            exact ⟨c1, w, rfl, rfl, hs, hc, List.getElem?_set_self hil, z' F' ι' (σ'.set i none) H' k1 k2 (by rw [List.length_set]; exact k3) (k4.clr i) (.str w) (.str w)⟩
        · subst hr
          rw [hs] at z'
          exact z' F' ι' σ' H' k1 k2 k3 k4
end
end Mi
namespace Mi
open PySem PySem.Spec PyProof.Rows L2
section
variable {α : Type} {c : Act} {C : CC} {O : Orc} {k : Nat} {X : Cx} {W : Wh} {σ : L2.St} {F F' : Hp} {ι ι' : List Addr} {H H' : Hp} {e : Ev} {s : Sto} {Dn : Ends} {pos p1 p2 : Pos}
structure PM (X : Cx) (i : Nat) (cs : List MatchCase) (t : TS) : Prop where
  run : ∀ (pins : List (Addr × PySem.Obj)) (s : Shared) (σ : L2.St) (H : Hp) (D : Ends) (first : Bool) (u : Value) (n : Int), L2.Inv X pins σ H s → σ[i]? = some (some (.int n)) → RelV (.int n) u → t D σ H →
    wpAny (model X.prog X.w) X.A (matchCases cs X.env u first) (SP X pins D) X.xe s
def PMok (O : Orc) (k : Nat) (q : CC → Nat → List MatchCase → Bool) (m : M Flow) : Prop := ∀ {c : Act} {C : CC} {X : Cx} {W : Wh} {i : Nat} {cs : List MatchCase}, XOk c C O k X W → Pass X → q C i cs = true → PM X i cs (rdS c W m)
theorem X_no {q : CC → Nat → List MatchCase → Bool} {m : M Flow} (h : ∀ C i cs, q C i cs = false) : PMok O k q m := by
  intro c C X W i cs x hp hq
  rw [h] at hq
  cases hq
theorem pe_constI {a : Expr} {n : Int} (h : constI a = some n) : PE X a (tC (.int n)) := by
  unfold constI at h
  split at h
  · cases h
    exact pe_int
  · cases h
    refine peM (pe_un un_neg pe_int) fun σ H Q q => ?_
    exact ⟨_, rfl, q⟩
  · cases h
theorem eq_intsM {pins : List (Addr × PySem.Obj)} {s' : Shared} {E : Value → Shared → Prop} {n m : Int} {u v : Value} {Q : Bool → Shared → Prop} (ru : RelV (.int n) u) (rv : RelV (.int m) v) (h : Q (decide (n = m)) s') :
    wpAny (model X.prog X.w) X.A (compareOp .Eq u v) (fun c s2 => wpAny (model X.prog X.w) X.A (truthy c) Q E s2) E s' := by
  obtain ⟨t, rfl⟩ := ru
  obtain ⟨t', rfl⟩ := rv
  refine P.eq_int ?_
  refine wpAny_truthy_bool ?_
  rw [show (n == m) = decide (n = m) from rfl]
  exact h
theorem mat_int {i : Nat} {n : Int} {b r : List S} (A : Abs c F ι σ H e s) {v : Int} (hv : σ[i]? = some (some (.int v))) (z : FinS c W F ι (exec O (.mat i n b r) e s) Dn) :
    FinS c W F ι (if v = n then execs O b e s else execs O r e s) Dn := by
  simp only [exec, bnd, getVar] at z
  cases q : e[i]? with
  | none => rw [q] at z; exact z.elim
  | some w =>
    rw [q] at z
    cases w with
    | none => exact z.elim
    | some r0 =>
      cases r0 with
      | new o =>
        simp only at z
        split at z
        · cases o <;> exact z.elim
        · exact z.elim
      | val d =>
        obtain ⟨w, h1, h2⟩ := A.val i d q
        rw [hv] at h1
        cases h1
        cases h2
        have z2 : FinS c W F ι ((if v = n then execs O b else execs O r) e s) Dn := z
        by_cases hc : v = n
        · rw [if_pos hc] at z2 ⊢
          exact z2
        · rw [if_neg hc] at z2 ⊢
          exact z2
theorem pm_case {i : Nat} {n : Int} {a : Expr} {p : Pos} {body : List Stmt} {rest : List MatchCase} {b r : List S} (ha : constI a = some n) (hb : PSs X body (rdS c W (execs O b))) (hr : PM X i rest (rdS c W (execs O r))) :
    PM X i (⟨.MatchValue a p, none, body⟩ :: rest) (rdS c W (exec O (.mat i n b r))) := by
  refine ⟨fun pins s' σ H D first u v I hi ru z => ?_⟩
  refine wpAny_matchCases_cons (wpAny_matchPattern_Value (thn ((pe_constI ha).run pins s' σ H (fun y H1 => y = .int n ∧ H1 = H) I ⟨rfl, rfl⟩) fun y s1 ⟨x, H1, I1, r1, ex, eH⟩ => ?_))
  subst ex eH
  refine eq_intsM (pins := pins) ru r1 ?_
  obtain ⟨F, ι, e, s, hn, A, z⟩ := z
  have z' := mat_int A hi z
  by_cases hv : v = n
  · rw [decide_eq_true hv]
    rw [if_pos hv] at z'
    refine wpAny_assignInOrder_none ?_
    exact hb.run pins s1 σ H1 D I1 ⟨F, ι, e, s, hn, A, z'⟩
  · rw [decide_eq_false hv]
    rw [if_neg hv] at z'
    exact hr.run pins s1 σ H1 D false u v I1 hi ru ⟨F, ι, e, s, hn, A, z'⟩
theorem pm_dflt {i : Nat} {p : Pos} {body : List Stmt} {t : TS} (hb : PSs X body t) : PM X i [⟨.MatchAs none none p, none, body⟩] t := by
  refine ⟨fun pins s' σ H D first u v I hi ru z => ?_⟩
  refine wpAny_matchCases_cons (wpAny_matchPattern_Capture ?_)
  refine wpAny_assignInOrder_none ?_
  exact hb.run pins s' σ H D I z
theorem case_okM {i : Nat} {n : Int} {b r : List S} {cs : List MatchCase} (hb : PSsok O k b) (hr : PSsok O k r) (ht : PMok O k (chkTl · · r) (execs O r)) (x : XOk c C O k X W) (hp : Pass X)
    (h : cCase n (chkSs C b) (fun cs => cDflt (chkSs C r) cs || chkTl C i r cs) cs = true) : PM X i cs (rdS c W (exec O (.mat i n b r))) := by
  unfold cCase at h
  split at h
  case h_2 => cases h
  rename_i a p body rest
  simp only [Bool.and_eq_true, decide_eq_true_eq, Bool.or_eq_true] at h
  obtain ⟨⟨h1, h2⟩, h3⟩ := h
  refine pm_case h1 (hb x hp h2) ?_
  rcases h3 with h3 | h3
  · unfold cDflt at h3
    split at h3
    · exact pm_dflt (hr x hp h3)
    · cases h3
  · exact ht x hp h3
theorem X_mat {i : Nat} {n : Int} {b r : List S} (hb : PSsok O k b) (hr : PSsok O k r) (ht : PMok O k (chkTl · · r) (execs O r)) : PMok O k (chkX · · (.mat i n b r)) (exec O (.mat i n b r)) := by
  intro c C X W j cs x hp h
  simp only [chkX, Bool.and_eq_true, decide_eq_true_eq] at h
  obtain ⟨rfl, h⟩ := h
  exact case_okM hb hr ht x hp h
theorem Tl_cons {y : S} {ys : List S} (h : PMok O k (chkX · · y) (exec O y)) : PMok O k (chkTl · · (y :: ys)) (execs O (y :: ys)) := by
  intro c C X W j cs x hp hc
  simp only [chkTl, Bool.and_eq_true] at hc
  obtain ⟨h1, h2⟩ := hc
  cases ys with
  | cons _ _ => simp at h1
  | nil =>
    have e1 : execs O [y] = exec O y := by
      funext e s
      simp only [execs, bnd]
      cases exec O y e s with
      | ok fl e1 s1 => cases fl <;> rfl
      | exc _ _ _ => rfl
      | bad => rfl
    rw [e1]
    exact h x hp h2
theorem S_mat {i : Nat} {n : Int} {b r : List S} (hb : PSsok O k b) (hr : PSsok O k r) (ht : PMok O k (chkTl · · r) (execs O r)) : PSok O k (.mat i n b r) := by
  intro c C X W st x hp h
  simp only [chkS] at h
  unfold cMatch at h
  split at h
  case h_2 => cases h
  rename_i y py cs pos
  simp only [Bool.and_eq_true] at h
  obtain ⟨⟨⟨h1, h2⟩, h3⟩, h4⟩ := h
  have hm := case_okM hb hr ht x hp h4
  refine ⟨fun pins s' σ H D I z => ?_⟩
  obtain ⟨F, ι, e, s, hn, A, z⟩ := z
  have key : ∃ v : Int, e[i]? = some (some (.val (.int v))) := by
    simp only [exec, bnd, getVar] at z
    cases q : e[i]? with
    | none => rw [q] at z; exact z.elim
    | some w =>
      rw [q] at z
      cases w with
      | none => exact z.elim
      | some r0 =>
        cases r0 with
        | new o =>
          simp only at z
          split at z
          · cases o <;> exact z.elim
          · exact z.elim
        | val d =>
          cases d with
          | int v => exact ⟨v, rfl⟩
          | _ => exact z.elim
  obtain ⟨v, hv⟩ := key
  obtain ⟨w, hw, rw'⟩ := A.val i _ hv
  cases rw'
  have hz : rdR c W (getVar i) σ H fun x H1 => x = .int v ∧ rdS c W (exec O (.mat i n b r)) D σ H1 := by
    refine ⟨F, ι, e, s, hn, A, ?_⟩
    have eg : getVar i e s = .ok (.val (.int v)) e s := by simp only [getVar, hv]
    rw [eg]
    intro F' ι' H' m p A' w hw'
    cases hw'
    exact ⟨rfl, F', ι', e, s, hn, A', FinS.later z m p⟩
  refine wpAny_Match (thn ((var_ok x h1 h2 h3).run pins s' σ H _ I hz) fun u s1 ⟨x1, H1, I1, r1, ex, q⟩ => ?_)
  subst ex
  exact hm.run pins s1 σ H1 D true u v I1 hw r1 q
end
end Mi
namespace Mi
open PySem PySem.Spec PyProof.Rows L2
section
variable {α : Type} {c : Act} {C : CC} {O : Orc} {k : Nat} {X : Cx} {W : Wh} {σ : L2.St} {F F' : Hp} {ι ι' : List Addr} {H H' : Hp} {e : Ev} {s : Sto} {Dn : Ends} {pos p1 p2 : Pos}
theorem S_setix {a i y : E} : PSok O k (.setix a i y) := by
  intro c C X W st x hp h
  simp only [chkS] at h
  unfold cSub at h
  split at h
  case h_2 => cases h
  rename_i a' i' tp e' pos
  simp only [Bool.and_eq_true] at h
  obtain ⟨⟨⟨⟨h1, h2⟩, h3⟩, h4⟩, h5⟩ := h
  have hsub : ∀ v, assign (.Subscript a' i' tp) X.env v = (do
      let ov ← holding [v] (eval a' X.env)
      let iv ← holding [v, ov] (eval i' X.env)
      standAt tp
      holding [v, ov, iv] (setItem ov iv v)
      release [v, ov, iv] []) := fun v => by
    cases i' <;> first | rfl | simp [plainIx] at h1
  refine psM (ps_asg ((ev_ok y).1 x h3) (pg_sub (asA_chk x h4 ((ev_ok a).1 x h4)) ((ev_ok i).1 x h5) set_list hsub) (by unfold swapsWithSole; exact noC_sw h2) (by cases e' <;> rfl) rfl) fun D σ H z => ?_
  obtain ⟨F, ι, e, s, hn, A, z⟩ := z
  refine ⟨F, ι, e, s, hn, A, (z.split hn).imp fun r F1 ι1 H1 e1 s1 m1 p1 A1 q1 v hv => ?_⟩
  obtain ⟨F2, d, m2, A2, rd, q2⟩ := q1.frz hn A1 hv
  refine ⟨F2, ι1, e1, s1, hn, A2, (q2.split hn).imp fun p F3 ι3 H3 e3 s3 m3 p3 A3 q3 u hu => ?_⟩
  refine ⟨F3, ι3, e3, s3, hn, A3, (q3.split hn).imp fun r F4 ι4 H4 e4 s4 m4 p4 A4 q4 w hw => ?_⟩
  obtain ⟨j, rfl, rfl, q5⟩ := Fin.asInt (f := fun k => bnd (change p (setO k d)) fun _ => ret Flow.nx) (P := fun fl F5 ι5 H5 e5 s5 => endS c D F5 ι5 σ H5 e5 fl) ((FinS.split (m := ret ()) (f := fun _ => bnd (asInt r) fun k => bnd (change p (setO k d)) fun _ => ret Flow.nx) hn q4).ok A4 |> fun q => by
    revert q
    unfold FinS Fin
    generalize (bnd (asInt r) fun k => bnd (change p (setO k d)) fun _ => ret Flow.nx) e4 s4 = o
    cases o with
    | ok a e s => exact fun q F' ι' H' k1 k2 k3 => q F' ι' σ H' k1 k2 hn k3
    | exc g e s => exact fun q F' ι' H' k1 k2 k3 => q F' ι' σ H' k1 k2 hn k3
    | bad => exact id) hw
  obtain ⟨p', o, o', r', ev, hf, ho, go⟩ := Fin.change (f := setO j d) (P := fun r F5 ι5 H5 e5 s5 => D.nx σ H5) A4 ((Fin.split (m := change p (setO j d)) q5).imp fun r F5 ι5 H5 e5 s5 m5 p5 A5 q => q.ok A5) (RelA.mono hu m4 p4)
  subst ev
  cases o with
  | lst ds =>
    simp only [setO] at hf
    cases hj : place ds.length j with
    | none => rw [hj] at hf; cases hf
    | some l =>
      rw [hj] at hf
      cases hf
      obtain ⟨xs, hx, rx⟩ := ho
      obtain ⟨e', s', B, hQ⟩ := go (.lst (xs.set l v)) ⟨_, upd_same, rx.set ((rd.mono m3 p3).mono m4 p4) l⟩
      exact ⟨p', xs, j, l, rfl, rfl, hx, by rw [rx.length]; exact hj, hQ⟩
  | dic _ _ => cases hf
  | ins _ _ => cases hf
theorem FinS.fin {o : Out Flow} (hn : σ.length = c.n) (h : FinS c W F ι o Dn) : Fin c W σ F ι o fun fl F' ι' H' e' s' => endS c Dn F' ι' σ H' e' fl := by
  cases o with
  | ok a e s => exact fun F' ι' H' k1 k2 k3 => h F' ι' σ H' k1 k2 hn k3
  | exc g e s => exact fun F' ι' H' k1 k2 k3 => h F' ι' σ H' k1 k2 hn k3
  | bad => exact h
theorem meth_base {a : Expr} {m : Str} {env : PySem.Env} (h : isName a = true) : attributeBase a m env (eval a env) = eval a env := by
  cases a <;> first | rfl | simp [isName] at h
theorem S_app {a y : E} : PSok O k (.app a y) := by
  intro c C X W st x hp h
  simp only [chkS] at h
  unfold cMeth at h
  split at h
  case h_2 => cases h
  rename_i a' m ap e' cp pos
  simp only [Bool.and_eq_true, decide_eq_true_eq] at h
  obtain ⟨⟨⟨⟨⟨h1, rfl⟩, h3⟩, h4⟩, h5⟩, h6⟩ := h
  refine psM (ps_expr (pe_bm PySem.F.plainAttrs_list PySem.F.slot_list_append PySem.F.type_list_append mt_append (asA_chk x h5 ((ev_ok a).1 x h5)) (pa_cons ((ev_ok y).1 x h6) pa_nil (star_plain h4)) (meth_base h1) (by rw [star_plain h4]; rfl) h3 (star_plain h4) rfl) rfl) fun D σ H z => ?_
  obtain ⟨F, ι, e, s, hn, A, z⟩ := z
  refine ⟨F, ι, e, s, hn, A, (z.fin hn).split.imp fun p F1 ι1 H1 e1 s1 m1 p1 A1 q1 v hv => ?_⟩
  obtain ⟨⟨p0, xs, rfl, hp⟩, q2⟩ := Fin.needL A1 q1 hv
  refine ⟨.inl ⟨rfl, xs, .inl (.inl hp)⟩, ?_⟩
  refine ⟨F1, ι1, e1, s1, hn, A1, q2.split.imp fun r F2 ι2 H2 e2 s2 m2 p2 A2 q3 u hu => ?_⟩
  obtain ⟨F3, d, m3, A3, rd, q4⟩ := Fin.frz A2 q3.split hu
  obtain ⟨p', o, o', r', ev, hf, ho, go⟩ := Fin.change A3 q4.split (RelA.mono hv (m2.trans m3) p2)
  cases ev
  cases o with
  | lst ds =>
    simp only [appO] at hf
    split at hf
    rotate_left
    · cases hf
    rename_i hz
    cases hf
    obtain ⟨ys, hy, ry⟩ := ho
    obtain ⟨e', s', B, hQ⟩ := go (.lst (ys ++ [u])) ⟨_, upd_same, ry.append (.cons rd .nil)⟩
    simp only [line] at hz
    refine ⟨p0, ys, u, rfl, rfl, hy, ?_, hQ.ok B⟩
    rw [ry.length]
    show _ < 16777216
    exact hz
  | dic _ _ => cases hf
  | ins _ _ => cases hf
theorem S_ext {a y : E} : PSok O k (.ext a y) := by
  intro c C X W st x hp h
  simp only [chkS] at h
  unfold cMeth at h
  split at h
  case h_2 => cases h
  rename_i a' m ap e' cp pos
  simp only [Bool.and_eq_true, decide_eq_true_eq] at h
  obtain ⟨⟨⟨⟨⟨h1, rfl⟩, h3⟩, h4⟩, h5⟩, h6⟩ := h
  refine psM (ps_expr (pe_bm PySem.F.plainAttrs_list PySem.F.slot_list_extend PySem.F.type_list_extend mt_extend (asA_chk x h5 ((ev_ok a).1 x h5)) (pa_cons (asA_chk x h6 ((ev_ok y).1 x h6)) pa_nil (star_plain h4)) (meth_base h1) (by rw [star_plain h4]; rfl) h3 (star_plain h4) rfl) rfl) fun D σ H z => ?_
  obtain ⟨F, ι, e, s, hn, A, z⟩ := z
  refine ⟨F, ι, e, s, hn, A, (z.fin hn).split.imp fun p F1 ι1 H1 e1 s1 m1 p1 A1 q1 v hv => ?_⟩
  obtain ⟨⟨p0, xs, rfl, hp⟩, q2⟩ := Fin.needL A1 q1 hv
  refine ⟨.inl ⟨rfl, xs, .inl (.inl hp)⟩, ?_⟩
  refine ⟨F1, ι1, e1, s1, hn, A1, q2.split.imp fun r F2 ι2 H2 e2 s2 m2 p2 A2 q3 u hu => ?_⟩
  unfold bnd at q3
  rcases deref_ok A2 hu with z | ⟨d, z, hd⟩
  · rw [z] at q3; exact q3.elim
  · rw [z] at q3
    obtain ⟨p', o, o', r', ev, hf, ho, go⟩ := Fin.change A2 (Fin.split (m := change p (extO d)) q3) (RelA.mono hv m2 p2)
    cases ev
    cases o with
    | lst ds =>
      cases d <;> first | (simp [extO] at hf; done) | skip
      rename_i es
      simp only [extO] at hf
      split at hf
      rotate_left
      · cases hf
      rename_i hz
      cases hf
      obtain ⟨b, zs, rfl, hb, rb⟩ := hd.lst A2.le
      obtain ⟨ys, hy, ry⟩ := ho
      obtain ⟨e', s', B, hQ⟩ := go (.lst (ys ++ zs)) ⟨_, upd_same, ry.append rb⟩
      simp only [line] at hz
      refine ⟨p0, b, ys, zs, rfl, rfl, hy, hb, ?_, hQ.ok B⟩
      rw [ry.length, rb.length]
      show _ ≤ 16777216
      exact hz
    | dic _ _ => simp [extO] at hf
    | ins _ _ => simp [extO] at hf
theorem S_raise {g : Nat} : PSok O k (.raise g) := by
  intro c C X W st x hp h
  simp only [chkS] at h
  unfold cRaise at h
  split at h
  case h_2 => cases h
  simp only [Bool.and_eq_true, decide_eq_true_eq] at h
  obtain ⟨⟨h1, h2⟩, h3⟩ := h
  have q := x.cls _ _ h1
  refine psM (ps_raise x.calm x.tk (pmk_own PySem.F.excBase_ValueError q.ex q.mg q.kp (raises_own q.sb q.ty) (x.glb h2) (bug_of h3).1)) fun D σ H z => ?_
  obtain ⟨F, ι, e, s, hn, A, z⟩ := z
  exact z F ι σ H (Same.refl _) (Pre.refl _) hn A
theorem S_pass : PSok O k .pass := by
  intro c C X W st x hp h
  simp only [chkS] at h
  unfold cPass at h
  split at h
  case h_3 => cases h
  · refine psM ps_pass fun D σ H z => ?_
    obtain ⟨F, ι, e, s, hn, A, z⟩ := z
    exact z.nx A hn
  · refine psM ps_doc fun D σ H z => ?_
    obtain ⟨F, ι, e, s, hn, A, z⟩ := z
    exact z.nx A hn
theorem S_brk : PSok O k .brk := by
  intro c C X W st x hp h
  simp only [chkS] at h
  unfold cBrk at h
  split at h
  case h_2 => cases h
  refine psM ps_break fun D σ H z => ?_
  obtain ⟨F, ι, e, s, hn, A, z⟩ := z
  exact z F ι σ H (Same.refl _) (Pre.refl _) hn A
theorem S_cont : PSok O k .cont := by
  intro c C X W st x hp h
  simp only [chkS] at h
  unfold cCont at h
  split at h
  case h_2 => cases h
  refine psM ps_continue fun D σ H z => ?_
  obtain ⟨F, ι, e, s, hn, A, z⟩ := z
  exact z F ι σ H (Same.refl _) (Pre.refl _) hn A
theorem S_aug {i : Nat} {op : Operator} {y : E} : PSok O k (.aug i op y) := by
  intro c C X W st x hp h
  simp only [chkS] at h
  cases h
theorem Ss_nil : PSsok O k [] := by
  intro c C X W st x hp h
  cases st with
  | nil =>
    refine pssM pss_nil fun D σ H z => ?_
    obtain ⟨F, ι, e, s, hn, A, z⟩ := z
    exact z.nx A hn
  | cons _ _ => simp [chkSs] at h
theorem Ss_frz {i : Nat} {ys : List S} (hys : PSsok O k ys) : PSsok O k (.frz i :: ys) := by
  intro c C X W st x hp h
  have h' : chkSs C ys st = true := by simpa [chkSs, isFrz] using h
  refine pssM (hys x hp h') fun D σ H z => ?_
  obtain ⟨F, ι, e, s, hn, A, z⟩ := z
  have e1 : execs O (.frz i :: ys) e s = (getVar i e s).bind fun _ => execs O ys := by
    simp only [execs, exec, bnd, ret]
    cases getVar i e s <;> rfl
  rw [e1] at z
  unfold getVar at z
  split at z
  · exact ⟨F, ι, e, s, hn, A, z⟩
  · rename_i o hq
    split at z
    · rename_i f
      obtain ⟨F', v, A', m, _, _⟩ := A.frzSlot hq f
      exact ⟨F', ι, _, s, hn, A', FinS.later (o := execs O ys (e.set i (some (.val o.d))) s) z m (Pre.refl _)⟩
    · exact z.elim
  · exact z.elim
theorem S_frz {i : Nat} : PSok O k (.frz i) := by
  intro c C X W st x hp h
  simp [chkS] at h
theorem Ss_cons {y : S} {ys : List S} (hf : ∀ i, y ≠ .frz i) (hy : PSok O k y) (hys : PSsok O k ys) : PSsok O k (y :: ys) := by
  intro c C X W st x hp h
  have hz : isFrz y = false := by cases y <;> first | rfl | exact (hf _ rfl).elim
  cases st with
  | nil => simp [chkSs, hz] at h
  | cons a as =>
    simp only [chkSs, hz, Bool.false_eq_true, if_false, Bool.and_eq_true] at h
    refine pssM (pss_cons (hy x hp h.1) (hys x hp h.2)) fun D σ H z => ?_
    obtain ⟨F, ι, e, s, hn, A, z⟩ := z
    refine ⟨F, ι, e, s, hn, A, FinS.seq (m := exec O y) z (fun F5 ι5 σ5 H5 e5 s5 k1 k2 k3 k4 k5 => ⟨F5, ι5, e5, s5, k3, k4, k5⟩) (fun F5 ι5 σ5 H5 e5 s5 k1 k2 k3 k4 k5 => ?_) (fun F5 ι5 σ5 H5 e5 s5 k1 k2 k3 k4 k5 => ?_) (fun r => rfl) rfl⟩
    · exact k5 F5 ι5 σ5 H5 (Same.refl _) (Pre.refl _) k3 k4
    · exact k5 F5 ι5 σ5 H5 (Same.refl _) (Pre.refl _) k3 k4
mutual
theorem ex_ok : ∀ y : S, PSok O k y
  | .expr y => S_expr
  | .set i y => S_set
  | .asg t y => S_asg
  | .par is es => S_par
  | .ret y => S_ret
  | .retN => S_retN
  | .iff q a b => S_iff (exs_ok a) (exs_ok b)
  | .for t it b => S_for (exs_ok b)
  | .forR t y b => S_forR (exs_ok b)
  | .tri b g i ce => S_tri (exs_ok b)
  | .whl n q b => S_whl (exs_ok b)
  | .aug i op y => S_aug
  | .setix a i y => S_setix
  | .app a y => S_app
  | .ext a y => S_ext
  | .raise g => S_raise
  | .pass => S_pass
  | .brk => S_brk
  | .cont => S_cont
  | .frz i => S_frz
  | .mat i n b r => S_mat (exs_ok b) (exs_ok r) (tls_ok r)
theorem exs_ok : ∀ ys : List S, PSsok O k ys
  | [] => Ss_nil
  | y :: ys => by
    by_cases h : ∃ i, y = .frz i
    · obtain ⟨i, rfl⟩ := h
      exact Ss_frz (exs_ok ys)
    · exact Ss_cons (fun i z => h ⟨i, z⟩) (ex_ok y) (exs_ok ys)
theorem xs_ok : ∀ y : S, PMok O k (chkX · · y) (exec O y)
  | .mat i n b r => X_mat (exs_ok b) (exs_ok r) (tls_ok r)
  | .expr _ | .set _ _ | .asg _ _ | .par _ _ | .ret _ | .retN | .iff _ _ _ | .for _ _ _ | .forR _ _ _ | .tri _ _ _ _ | .whl _ _ _ | .aug _ _ _ | .setix _ _ _ | .app _ _ | .ext _ _ | .raise _ | .pass | .brk | .cont | .frz _ => X_no fun _ _ _ => rfl
theorem tls_ok : ∀ ys : List S, PMok O k (chkTl · · ys) (execs O ys)
  | [] => X_no fun _ _ _ => rfl
  | y :: ys => Tl_cons (xs_ok y)
end
end
end Mi
namespace Mi
open PySem PySem.Spec PyProof.Rows L2
theorem look_zip {α : Type} : ∀ {ns : List Str} {us : List α} {n : Str}, us.length = ns.length → n ∈ ns → ((ns.zip us).lookup n).isSome = true
  | [], _, _, _, h => by cases h
  | m :: ns, [], _, h, _ => by simp at h
  | m :: ns, u :: us, n, h, hm => by
    simp only [List.zip_cons_cons, List.lookup_cons]
    cases e : n == m with
    | true => rfl
    | false =>
      refine look_zip (by simpa using h) ?_
      rcases List.mem_cons.mp hm with q | q
      · rw [q] at e; simp at e
      · exact q
theorem filterMap_congr' {α β : Type} {f g : α → Option β} : ∀ {l : List α}, (∀ a ∈ l, f a = g a) → l.filterMap f = l.filterMap g
  | [], _ => rfl
  | a :: l, h => by
    rw [List.filterMap_cons, List.filterMap_cons, h a (.head _), filterMap_congr' fun b hb => h b (.tail _ hb)]
theorem look_all {α : Type} : ∀ {ns : List Str} {us : List α}, ns.Nodup → us.length = ns.length → ns.filterMap (fun n => ((ns.zip us).lookup n).map (n, ·)) = ns.zip us
  | [], _, _, _ => rfl
  | m :: ns, [], _, h => by simp at h
  | m :: ns, u :: us, nd, h => by
    have nd' := List.nodup_cons.mp nd
    simp only [List.zip_cons_cons, List.filterMap_cons, List.lookup_cons, beq_self_eq_true, Option.map_some]
    refine congrArg _ ((filterMap_congr' fun n hn => ?_).trans (look_all nd'.2 (by simpa using h)))
    have : (n == m) = false := by
      cases e : n == m with
      | false => rfl
      | true =>
        rw [eq_of_beq e] at hn
        exact absurd hn nd'.1
    rw [this]
def plainP (p : Arguments) : Bool := match p with
  | ⟨[], _, none, [], _, none, _⟩ => true
  | _ => false
theorem bind_plain {fd : FuncData} {us : List Value} (hp : plainP fd.params = true) (hd : fd.defaults = .none) (nd : (fd.params.args.map (·.arg)).Nodup) (hl : us.length = fd.params.args.length) : bindArgs fd ⟨us, []⟩ = pure ((fd.params.args.map (·.arg)).zip us) := by
  obtain ⟨nm, qn, ⟨po, as, va, ko, kd, kw, df⟩, bd, sc, gl, cl, dv, kv, r1, r2, r3, r4, r5, r6⟩ := fd
  dsimp only at hp hd nd hl ⊢
  unfold plainP at hp
  split at hp
  case h_2 => cases hp
  rename_i h0
  cases h0
  subst hd
  have e0 : seqItems? Value.none = pure none := rfl
  have miss : (as.map (·.arg)).filter (fun n => (((as.map (·.arg)).zip us).lookup n).isNone) = [] := by
    rw [List.filter_eq_nil_iff]
    intro n hn
    have := look_zip (us := us) (by rw [List.length_map]; exact hl) hn
    rw [Option.isSome_iff_exists] at this
    obtain ⟨v, hv⟩ := this
    rw [hv]
    simp
  have all := look_all nd (us := us) (by rw [List.length_map]; exact hl)
  rw [List.filterMap_map] at all
  unfold bindArgs
  rw [e0]
  simp [hl]
  have e1 : (List.map (fun (x : Arg) => x.arg) [] ++ List.map (fun x => x.arg) as).length - (List.drop ((#[] : Array Value).size - (List.map (fun (x : Arg) => x.arg) [] ++ List.map (fun x => x.arg) as).length) ([] : List Value)).length = as.length := by simp
  have e2 : List.take as.length (List.map (fun (x : Arg) => x.arg) [] ++ List.map (fun x => x.arg) as) = as.map (·.arg) := by
    rw [List.map_nil, List.nil_append]
    exact List.take_of_length_le (by rw [List.length_map]; exact Nat.le_refl _)
  refine (if_neg fun z => ?_).trans (by rw [all])
  rw [e1, e2, miss] at z
  cases z
def scOk (np : Nat) (N : List Str) (sc : Scope) : Bool := (match sc.kind with | .function => true | _ => false) && !sc.isCoroutine && !sc.isGenerator && decide N.Nodup &&
  (N.take np).all (fun x => match sc.names.lookup x with | some .local => true | some .cell => true | _ => false) && sc.names.all (fun y => match y.2 with | .free => false | _ => true) && decide (np ≤ N.length)
theorem scOk_fn {np : Nat} {N ps : List Str} {sc : Scope} (h : scOk np N sc = true) (hp : ps = N.take np) : FnScope N ps sc := by
  unfold scOk at h
  simp only [Bool.and_eq_true, decide_eq_true_eq, Bool.not_eq_true'] at h
  obtain ⟨⟨⟨⟨⟨⟨h1, h2⟩, h3⟩, h4⟩, h5⟩, h6⟩, h7⟩ := h
  refine ⟨?_, h2, h3, h4, ?_, fun x hx => ?_, fun y hy => ?_⟩
  · split at h1
    · assumption
    · cases h1
  · rw [hp, List.length_take, Nat.min_eq_left h7]
  · rw [hp] at hx
    have := List.all_eq_true.mp h5 x hx
    split at this
    · exact .inl (by assumption)
    · exact .inr (by assumption)
    · cases this
  · have := List.all_eq_true.mp h6 y hy
    intro z
    rw [z] at this
    cases this
def CC.of (gn : Nat → Option Str) (gl : Nat → Option D) (fk : Nat → Bool) (cn : Nat → Option Str) (N : List Str) (sc : Scope) : CC := ⟨N, sc.names, sc.names, gn, gl, fk, cn⟩
structure FnAt (K : PySem.W.Frag) (gn : Nat → Option Str) (gl : Nat → Option D) (fk : Nat → Bool) (cn : Nat → Option Str) (f : Addr) (F : Fn) : Prop where
  kp : PySem.W.keepIn K (.ref f) = true
  ex : ∃ (oc : Value) (od : Option Addr) (osl : Array (Option Value)) (name qual : Str) (params : Arguments) (body : List Stmt) (scope : Scope) (kV doc pm : Value) (an : Option Addr) (cdv ct : Value) (N : List Str),
    K.lookup f = some ⟨oc, od, .func (PySem.W.fnOf name qual params body scope .none kV doc pm an cdv ct), osl⟩ ∧ PySem.W.codeIn K cdv qual = true ∧ plainP params = true ∧ params.args.map (·.arg) = N.take F.np ∧ scOk F.np N scope = true ∧ F.nl = N.length ∧
      chkSs (CC.of gn gl fk cn N scope) F.body body = true
section
variable {G : Gs} {O : Orc} {k : Nat}
theorem start_abs {F H : Hp} {ι : List Addr} {ds : List D} {vs : List V} {s : Sto} {n : Nat} (A : Abs ⟨G, F, ι, H, 0⟩ F ι [] H [] s) (r : Rels G F ι vs ds) :
    Abs ⟨G, F, ι, H, n⟩ F ι (vs.map some ++ List.replicate (n - vs.length) none) H (ds.map (fun d => some (.val d)) ++ List.replicate (n - ds.length) none) s := by
  have hl := r.length
  refine { len := by simp [hl], le0 := A.le0, le := A.le, new := A.new, pre := A.pre, nd := A.nd, inew := A.inew, sep := A.sep, keep := A.keep, lens := A.lens, objs := A.objs, val := fun j d h => ?_, own := fun j o h => ?_, ownnd := fun i j a p q _ h => ?_ }
  · by_cases hj : j < ds.length
    · rw [List.getElem?_append_left (by simpa using hj), List.getElem?_map] at h
      cases hd : ds[j]? with
      | none => rw [hd] at h; cases h
      | some d' =>
        rw [hd] at h
        cases h
        obtain ⟨v, h1, h2⟩ := r.get hd
        refine ⟨v, ?_, h2⟩
        rw [List.getElem?_append_left (by simpa [hl] using hj), List.getElem?_map, h1]
        rfl
    · rw [List.getElem?_append_right (by simpa using hj), List.getElem?_replicate] at h
      split at h <;> cases h
  · by_cases hj : j < ds.length
    · rw [List.getElem?_append_left (by simpa using hj), List.getElem?_map] at h
      cases hd : ds[j]? with
      | none => rw [hd] at h; cases h
      | some d' => rw [hd] at h; cases h
    · rw [List.getElem?_append_right (by simpa using hj), List.getElem?_replicate] at h
      split at h <;> cases h
  · by_cases hj : i < ds.length
    · rw [List.getElem?_append_left (by simpa using hj), List.getElem?_map] at h
      cases hd : ds[i]? with
      | none => rw [hd] at h; cases h
      | some d' => rw [hd] at h; cases h
    · rw [List.getElem?_append_right (by simpa using hj), List.getElem?_replicate] at h
      split at h <;> cases h
theorem Abs.drop {F0 F' H0 H' : Hp} {ι0 ι' : List Addr} {σ : L2.St} {e : Ev} {s : Sto} {n : Nat} (A : Abs ⟨G, F0, ι0, H0, n⟩ F' ι' σ H' e s) : Abs ⟨G, F0, ι0, H0, 0⟩ F' ι' [] H' [] s :=
  { len := rfl, le0 := A.le0, le := A.le, new := A.new, pre := A.pre, nd := A.nd, inew := A.inew, sep := A.sep, keep := A.keep, lens := A.lens, objs := A.objs, val := fun j d h => by simp at h, own := fun j o h => by simp at h, ownnd := fun i j a p q _ h => by simp at h }
theorem RelR.drop {F0 F' H0 H' : Hp} {ι0 ι' : List Addr} {σ : L2.St} {e : Ev} {n : Nat} {v : V} {r : R} (h : RelR ⟨G, F0, ι0, H0, n⟩ F' ι' σ H' e v r) : RelR ⟨G, F0, ι0, H0, 0⟩ F' ι' [] H' [] v r := by
  cases r with
  | val d => exact h
  | new o =>
    obtain ⟨a, h0, h1, h2, h3, h4, h5⟩ := h
    exact ⟨a, h0, h1, h2, h3, h4, fun ⟨j, o, e1, _⟩ => by simp at e1⟩
end
end Mi
namespace Mi
open PySem PySem.Spec PyProof.Rows L2
structure Fac (T : Tb) (gn cn : Nat → Option Str) (K : PySem.W.Frag) (mg : Str → Option Value) (G : Gs) : Prop where
  k : G.K = K
  fn : ∀ g x, gn g = some x → (T.fn g).isSome = true → mg x = some (.ref (G.fa g))
  gl : ∀ g x, gn g = some x → ∀ d, T.gl g = some d → ∃ v u, mg x = some u ∧ RelV v u ∧ ∀ F ι, Rel G F ι v d
  free : ∀ x ∈ bnames, mg x = none
  cls : ∀ g x, cn g = some x → mg x = some (.ref (G.ca g)) ∧ PySem.W.keepIn K (.ref (G.ca g)) = true ∧ PySem.W.excIn K (G.ca g) [.type "ValueError", .type "Exception", .type "BaseException", .type "object"] "ValueError.__new__" = true ∧
    PySem.W.subIn K (.ref (G.ca g)) (.type "BaseException") = some true ∧ PySem.W.typeIn K (.ref (G.ca g)) = some (.type "type")
  sub : ∀ a b r, T.sub a b = some r → SubOk K (G.ca a) (G.ca b) r
  at_ : ∀ g F, T.fn g = some F → FnAt K gn T.gl (fun g => (T.fn g).isSome) cn (G.fa g) F
section
variable {T : Tb} {gn cn : Nat → Option Str} {K : PySem.W.Frag} {mg : Str → Option Value} {G : Gs} {P : Program} {w : World} {base : Heap}
theorem orc_gl (T : Tb) (k : Nat) : (orc T k).gl = T.gl := by cases k <;> rfl
theorem orc_sub (T : Tb) (k : Nat) : (orc T k).sub = T.sub := by cases k <;> rfl
theorem orc_has (T : Tb) (k : Nat) (g : Nat) : (orc T k).has g = (T.fn g).isSome := by cases k <;> rfl
theorem fns_ok (fac : Fac T gn cn K mg G) : ∀ k g, (T.fn g).isSome = true → FnG P w K mg base k (G.fa g) (spOf G (orc T k) g)
  | 0, g, hg => by
    obtain ⟨F, hF⟩ := Option.isSome_iff_exists.mp hg
    refine ⟨(fac.at_ g F hF).kp, fun A outer s H us vs Q E hgd hr e0 r hsp => ?_⟩
    obtain ⟨F0, ι, ds, st, A0, rl, z⟩ := hsp
    exact z.elim
  | k + 1, g, hg => by
    obtain ⟨F, hF⟩ := Option.isSome_iff_exists.mp hg
    have at_ := fac.at_ g F hF
    refine ⟨at_.kp, fun A outer s H us vs Q E hgd hr e0 r hsp => ?_⟩
    obtain ⟨F0, ι, ds, st, A0, rl, z⟩ := hsp
    obtain ⟨oc, od, osl, name, qual, params, body, scope, kV, doc, pm, an, cdv, ct, N, lk, hcd, hpp, hps, hsc, hnl, hch⟩ := at_.ex
    have S : FnScope N (N.take F.np) scope := scOk_fn hsc rfl
    have hrun : (orc T (k + 1)).call g ds st = F.run (orc T k) ds st := by
      show (match T.fn g with
        | some F => F.run (orc T k) ds st
        | none => .bad) = _
      rw [hF]
    rw [hrun] at z
    unfold Fn.run at z
    by_cases hlen : ds.length = F.np
    rotate_left
    · rw [if_neg hlen] at z; exact z.elim
    rw [if_pos hlen] at z
    have hnp : F.np ≤ N.length := by
      unfold scOk at hsc
      simp only [Bool.and_eq_true, decide_eq_true_eq] at hsc
      exact hsc.2
    have lps : (N.take F.np).length = F.np := by rw [List.length_take, Nat.min_eq_left hnp]
    have hl : vs.length = (N.take F.np).length := by rw [rl.length, hlen, lps]
    have hus : us.length = params.args.length := by
      have := congrArg List.length hps
      rw [List.length_map, lps] at this
      rw [this, ← r.length, rl.length, hlen]
    have hbind : bindArgs (PySem.W.fnOf name qual params body scope .none kV doc pm an cdv ct) ⟨us, []⟩ = pure ((N.take F.np).zip us) := by
      rw [← hps]
      exact bind_plain hpp rfl (by
        show (params.args.map (·.arg)).Nodup
        rw [hps]
        exact S.nd.sublist (List.take_sublist _ _)) hus
    have KX : K.In s.heap := e0.mod.kin.keeps fun b o e => (e0.bs b o e).1
    have lim : s.heap.NoLimit := e0.mod.nolimit.keeps fun b o e => (e0.bs b o e).1
    have hkind : ∀ y ∈ (N.take F.np).zip us, scope.names.lookup y.1 = some .local ∨ (scope.names.lookup y.1 = some .cell ∧ ((cellsFrom (s.heap.objs.size + 1) scope.names []).lookup y.1).isSome = true) := fun ⟨n, v⟩ hy => by
      rcases S.par n (List.of_mem_zip hy).1 with q | q
      · exact .inl q
      · exact .inr ⟨q, PySem.W.cellsFrom_some _ _ _ (.inl q)⟩
    refine codeAny_call_function hr.depth (KX _ _ lk) rfl S.co S.gen rfl (PySem.W.codeRec_of KX hcd) (BindsTo.of_eq hbind _ _ _ _ ?_)
    refine wpAny_newFunctionEnv_cells S.kind hkind fun env he s1 x => ?_
    subst he
    refine ⟨lim.keeps x.toInCall.keep, codeAny_func ?_⟩
    let X := cxOf (L2.CX P w) P w K mg base N qual scope (G.fa g) cdv A outer s H E
    let c : Act := ⟨G, F0, ι, H, N.length⟩
    let C := CC.of gn T.gl (fun g => (T.fn g).isSome) cn N scope
    have I : L2.Inv X [] (start N vs) H s1 := inv_start S hr.hd e0 hl r x
    have xo : XOk c C (orc T k) k X (fun cls d _ H => E cls d H) :=
      { K := fac.k.symm, N := rfl, n := rfl, nm := rfl, kind := S.kind, nd := S.nd, calm := rfl, gd := hgd, room := hr.deeper _, tk := takes_of rfl rfl rfl rfl, wr := fun y hy => ⟨?_, .inl rfl⟩, free := fac.free,
        gl := fun g x hg d hd => fac.gl g x hg d (by rw [orc_gl] at hd; exact hd), glc := fun g => by rw [orc_gl]; rfl, fn := fac.fn, ok := fun g hg => fns_ok fac k g hg, dyn := fun g hg => by rw [orc_has] at hg; exact hg,
        cls := fun g x hg => ⟨(fac.cls g x hg).1, (fac.cls g x hg).2.1, (fac.cls g x hg).2.2.1, (fac.cls g x hg).2.2.2.1, (fac.cls g x hg).2.2.2.2⟩,
        sub := fun a b r hs => fac.sub a b r (by rw [orc_sub] at hs; exact hs) }
    · let D : Ends := { nx := fun _ H' => Q .non H', rt := Q }
      have hq : rdS c (fun cls d _ H => E cls d H) (execs (orc T k) F.body) D (start N vs) H := by
        refine ⟨F0, ι, _, st, ?_, start_abs A0 rl, ?_⟩
        · simp only [L2.start, List.length_append, List.length_map, List.length_replicate]
          show vs.length + (N.length - vs.length) = N.length
          rw [rl.length, hlen]
          omega
        · show FinS c _ F0 ι (execs (orc T k) F.body (ds.map (fun d => some (.val d)) ++ List.replicate (N.length - ds.length) none) st) D
          rw [hnl, ← hlen] at z
          cases hz : execs (orc T k) F.body (ds.map (fun d => some (.val d)) ++ List.replicate (N.length - ds.length) none) st with
          | bad => rw [hz] at z; exact z
          | exc g2 e2 s2 =>
            rw [hz] at z
            exact fun F' ι' σ' H' k1 k2 k3 k4 => z F' ι' H' k4.drop
          | ok fl e2 s2 =>
            rw [hz] at z
            cases fl with
            | nx => exact fun F' ι' σ' H' k1 k2 k3 k4 => z F' ι' .non H' k4.drop Rel.non
            | rt r => exact fun F' ι' σ' H' k1 k2 k3 k4 v hv => z F' ι' v H' k4.drop hv.drop
            | bk => exact z.elim
            | ct => exact z.elim
      refine wpAny_mono ((exs_ok F.body xo ⟨passes_of rfl, rfl, rfl⟩ hch).run [] s1 (start N vs) H D I hq) (fun fl s' hs => ?_) fun e s' hs => hs
      have fin : ∀ {σ' : L2.St} {H' : Hp} {v : V} {u : Value}, L2.Inv X [] σ' H' s' → RelV v u → Q v H' → CE outer P w H s Q u s' :=
        fun {σ' H' v u} J rv q => ⟨v, H', J.os, J.bare, J.base, J.hok, rv, q⟩
      cases fl with
      | ret u =>
        obtain ⟨v, σ', H', J, rv, q⟩ := hs
        exact fin J rv q
      | next =>
        obtain ⟨σ', H', J, q⟩ := hs
        exact fin (v := V.non) (u := Value.none) J rfl q
      | brk =>
        obtain ⟨_, _, _, q⟩ := hs
        exact False.elim q
      | cont =>
        obtain ⟨_, _, _, q⟩ := hs
        exact False.elim q
    · have hy' : (match scope.names.lookup y with | some .local => true | some .cell => true | _ => false) = true := hy
      split at hy'
      · exact .inl (by assumption)
      · exact .inr (by assumption)
      · cases hy'
end
end Mi
namespace Mi
open PySem PySem.Spec PyProof.Rows L2
inductive Ek where
  | fn (F : Fn) (xs : List Str) | cst (d : D) | cls | clx
structure Ent where
  name : Str
  ek : Ek
def tbOf (es : List Ent) : Tb := ⟨fun g => match es[g]? with
  | some ⟨_, .fn F _⟩ => some F
  | _ => none, fun g => match es[g]? with
  | some ⟨_, .cst d⟩ => some d
  | some ⟨_, .fn _ _⟩ => some (.fn g)
  | some ⟨_, .cls⟩ => some (.cls g)
  | some ⟨_, .clx⟩ => some (.cls g)
  | none => none, fun a b => match es[a]?, es[b]? with
  | some ⟨x, .clx⟩, some ⟨y, .clx⟩ => some (decide (x = y) || decide (y = .ofString "WayError"))
  | _, _ => none⟩
def gnOf (es : List Ent) (g : Nat) : Option Str := (es[g]?).map (·.name)
def cnOf (es : List Ent) (g : Nat) : Option Str := match es[g]? with
  | some ⟨x, .cls⟩ => some x
  | some ⟨x, .clx⟩ => some x
  | _ => none
def adOf (K : PySem.W.Frag) (es : List Ent) (g : Nat) : Addr := match es[g]? with
  | some e => He.ga K e.name
  | none => 0
def gsOf (K : PySem.W.Frag) (es : List Ent) : Gs := ⟨K, adOf K es, adOf K es⟩
section
variable (K : PySem.W.Frag) (es : List Ent)
mutual
def valB : D → Value → Bool
  | .non, .none => true
  | .bl b, .bool c => b == c
  | .int i, .int j _ => decide (i = j)
  | .str x, .str y _ => decide (x = y)
  | .fn g, .ref a => decide (a = adOf K es g)
  | .cls g, .ref a => decide (a = adOf K es g)
  | .tup ds, .ref a => (match K.lookup a with
    | some ⟨.type c, _, .seq its _, _⟩ => decide (c = "tuple") && decide (its.size ≤ sizeLine) && valsB ds its.toList
    | _ => false)
  | .tab kvs, .ref a => tabB K kvs a
  | _, _ => false
def valsB : List D → List Value → Bool
  | [], [] => true
  | d :: ds, u :: us => valB d u && valsB ds us
  | _, _ => false
end
def slotNs (sc : Scope) : List Str := sc.names.filterMap fun y => match y.2 with
  | .local => some y.1
  | .cell => some y.1
  | _ => none
def bodyB (F : Fn) (ps : List Str) (sc : Scope) (N : List Str) (body : List Stmt) : Bool :=
  decide (ps = N.take F.np) && scOk F.np N sc && decide (F.nl = N.length) && chkSs (CC.of (gnOf es) (tbOf es).gl (fun g => ((tbOf es).fn g).isSome) (cnOf es) N sc) F.body body
def fnB (F : Fn) (xs : List Str) (o : Obj) : Bool := match o with
  | ⟨_, _, .func fd, _⟩ => (match fd.body with
    | .stmts body => (match fd.defaults with
      | .none => decide (fd.globals = mainGlobals) && fd.closure.isEmpty && decide (fd.builtins = builtinsNs) && PySem.W.codeIn K fd.code fd.qualname && plainP fd.params && bodyB es F (fd.params.args.map (·.arg)) fd.scope (slotNs fd.scope ++ xs) body
      | _ => false)
    | _ => false)
  | _ => false
def gloB (x : Str) : Bool := He.eqO (PySem.W.nsIn K mainGlobals x) (some (some (.ref (He.ga K x))))
def entB (e : Ent) : Bool := match e.ek with
  | .fn F xs => gloB K e.name && PySem.W.keepIn K (.ref (He.ga K e.name)) && (match K.lookup (He.ga K e.name) with
    | some o => fnB K es F xs o
    | none => false)
  | .cst d => (match PySem.W.nsIn K mainGlobals e.name with
    | some (some u) => valB K es d u
    | _ => false)
  | .cls => gloB K e.name && (He.Fa.exc e.name).ok K
  | .clx => gloB K e.name && (He.Fa.exc e.name).ok K
def excB (a : Addr) : Bool := He.eqO (PySem.W.findIn K (.ref a) "__getattribute__") (some (some (.builtin "BaseException.__getattribute__"))) && He.eqO (PySem.W.findIn K (.ref a) "__getattr__") (some none) && decide (PySem.W.subIn K (.ref a) (.type "BaseException") = some true) && PySem.W.hasDictIn K a && He.eqO (PySem.W.findIn K (.ref a) "__class__") (some (some (.builtin "object.__class__"))) &&
  He.eqO (PySem.W.specialIn K (.builtin "object.__class__") "__get__") (some (some (.builtin "getset_descriptor.__get__"))) && decide (PySem.W.takesIn K (.builtin "object.__class__") = some true) && decide (PySem.W.mroIn K a (.type "object") = some true)
def subB (a b : Addr) (r : Bool) : Bool := decide (PySem.W.exmOne K (.ref a) (.ref b) = some r) && decide (PySem.W.kitOne K (.ref a) (.ref b) = some r) && decide (PySem.W.kitOne K (.ref a) (.type "ValueError") = some true) && excB K a
def subsB : Bool := (List.range es.length).all fun a => (List.range es.length).all fun b => match (tbOf es).sub a b with
  | some r => subB K (adOf K es a) (adOf K es b) r
  | none => true
def okM : Bool := (bnames.all fun x => He.eqO (PySem.W.nsIn K mainGlobals x) (some none)) && subsB K es && es.all (entB K es)
end
section
variable {K : PySem.W.Frag} {es : List Ent}
mutual
theorem valB_ok : ∀ {d : D} {u : Value}, valB K es d u = true → ∃ v, RelV v u ∧ ∀ F ι, Rel (gsOf K es) F ι v d
  | .non, u, h => by
    cases u <;> first | (simp [valB] at h; done) | exact ⟨.non, rfl, fun _ _ => .non⟩
  | .bl b, u, h => by
    cases u <;> first | (simp [valB] at h; done) | skip
    simp only [valB] at h
    cases eq_of_beq h
    exact ⟨.bl b, rfl, fun _ _ => .bl b⟩
  | .int b, u, h => by
    cases u <;> first | (simp [valB] at h; done) | skip
    simp only [valB, decide_eq_true_eq] at h
    subst h
    exact ⟨.int b, ⟨_, rfl⟩, fun _ _ => .int b⟩
  | .str b, u, h => by
    cases u <;> first | (simp [valB] at h; done) | skip
    simp only [valB, decide_eq_true_eq] at h
    subst h
    exact ⟨.str b, ⟨_, rfl⟩, fun _ _ => .str b⟩
  | .tab kvs, u, h => by
    cases u <;> first | (simp [valB] at h; done) | skip
    rename_i a
    simp only [valB] at h
    exact ⟨.ref a, rfl, fun _ _ => .tab h⟩
  | .fn g, u, h => by
    cases u <;> first | (simp [valB] at h; done) | skip
    simp only [valB, decide_eq_true_eq] at h
    subst h
    exact ⟨.ref _, rfl, fun _ _ => .fn g⟩
  | .cls g, u, h => by
    cases u <;> first | (simp [valB] at h; done) | skip
    simp only [valB, decide_eq_true_eq] at h
    subst h
    exact ⟨.ref _, rfl, fun _ _ => .cls g⟩
  | .tup ds, u, h => by
    cases u <;> first | (simp [valB] at h; done) | skip
    rename_i a
    simp only [valB] at h
    split at h
    case h_2 => cases h
    rename_i c od its n sl q
    simp only [Bool.and_eq_true, decide_eq_true_eq] at h
    obtain ⟨⟨h1, h2⟩, h3⟩ := h
    obtain ⟨vs, r, g⟩ := valsB_ok h3
    exact ⟨.ref a, rfl, fun F ι => .tup (.inr ⟨_, its, n, q, congrArg Value.type h1, rfl, h2, r⟩) (g F ι)⟩
  | .lst _, u, h => by cases u <;> simp [valB] at h
  | .dic _ _, u, h => by cases u <;> simp [valB] at h
  | .ref _, u, h => by cases u <;> simp [valB] at h
  | .scr _, u, h => by cases u <;> simp [valB] at h
theorem valsB_ok : ∀ {ds : List D} {us : List Value}, valsB K es ds us = true → ∃ vs, Vals vs us ∧ ∀ F ι, Rels (gsOf K es) F ι vs ds
  | [], [], _ => ⟨[], .nil, fun _ _ => .nil⟩
  | [], _ :: _, h => by simp [valsB] at h
  | _ :: _, [], h => by simp [valsB] at h
  | d :: ds, u :: us, h => by
    simp only [valsB, Bool.and_eq_true] at h
    obtain ⟨v, r, g⟩ := valB_ok h.1
    obtain ⟨vs, rs, gs⟩ := valsB_ok h.2
    exact ⟨v :: vs, .cons r rs, fun F ι => .cons (g F ι) (gs F ι)⟩
end
theorem ent_at (h : okM K es = true) {g : Nat} {e : Ent} (he : es[g]? = some e) : entB K es e = true := by
  unfold okM at h
  simp only [Bool.and_eq_true] at h
  exact List.all_eq_true.mp h.2 e (List.mem_of_getElem? he)
theorem ad_of {g : Nat} {e : Ent} (he : es[g]? = some e) : adOf K es g = He.ga K e.name := by unfold adOf; rw [he]
theorem fac_of {h : Heap} {mg : Str → Option Value} (X : K.In h) (N : h.Ns mainGlobals mg) (ok : okM K es = true) : Fac (tbOf es) (gnOf es) (cnOf es) K mg (gsOf K es) := by
  have glo : ∀ {x : Str}, gloB K x = true → mg x = some (.ref (He.ga K x)) := fun {x} q => PySem.W.mg_of X N (He.eqO_ok q)
  refine { k := rfl, fn := fun g x hg hs => ?_, gl := fun g x hg d hd => ?_, free := fun x hx => ?_, cls := fun g x hg => ?_, sub := fun a b r hs => ?_, at_ := fun g F hF => ?_ }
  · unfold gnOf at hg
    cases he : es[g]? with
    | none => rw [he] at hg; cases hg
    | some e =>
      rw [he] at hg
      cases hg
      have q := ent_at ok he
      obtain ⟨nm, ek⟩ := e
      cases ek with
      | fn F xs =>
        simp only [entB, Bool.and_eq_true] at q
        show mg nm = some (.ref (adOf K es g))
        rw [ad_of he]
        exact glo q.1.1
      | cst d => simp [tbOf, he] at hs
      | cls => simp [tbOf, he] at hs
      | clx => simp [tbOf, he] at hs
  · unfold gnOf at hg
    cases he : es[g]? with
    | none => rw [he] at hg; cases hg
    | some e =>
      rw [he] at hg
      cases hg
      have q := ent_at ok he
      obtain ⟨nm, ek⟩ := e
      cases ek with
      | fn F xs =>
        simp only [entB, Bool.and_eq_true] at q
        simp only [tbOf, he] at hd
        cases hd
        exact ⟨.ref (adOf K es g), .ref (He.ga K nm), glo q.1.1, by rw [ad_of he]; rfl, fun F ι => .fn g⟩
      | cst d' =>
        simp only [tbOf, he] at hd
        cases hd
        simp only [entB] at q
        split at q
        case h_2 => cases q
        rename_i u hu
        obtain ⟨v, r, z⟩ := valB_ok q
        exact ⟨v, u, PySem.W.mg_of X N hu, r, z⟩
      | cls =>
        simp only [entB, Bool.and_eq_true] at q
        simp only [tbOf, he] at hd
        cases hd
        exact ⟨.ref (adOf K es g), .ref (He.ga K nm), glo q.1, by rw [ad_of he]; rfl, fun F ι => .cls g⟩
      | clx =>
        simp only [entB, Bool.and_eq_true] at q
        simp only [tbOf, he] at hd
        cases hd
        exact ⟨.ref (adOf K es g), .ref (He.ga K nm), glo q.1, by rw [ad_of he]; rfl, fun F ι => .cls g⟩
  · unfold okM at ok
    simp only [Bool.and_eq_true] at ok
    exact PySem.W.mg_none_of X N (He.eqO_ok (List.all_eq_true.mp ok.1.1 x hx))
  · unfold cnOf at hg
    split at hg
    case h_3 => cases hg
    · rename_i y he
      cases hg
      have q := ent_at ok he
      simp only [entB, Bool.and_eq_true] at q
      have r := He.exc_ok q.2
      show mg x = some (.ref (adOf K es g)) ∧ PySem.W.keepIn K (.ref (adOf K es g)) = true ∧ _ ∧ _ ∧ _
      rw [show (gsOf K es).ca g = He.ga K x from ad_of he, show adOf K es g = He.ga K x from ad_of he]
      exact ⟨glo q.1, r.2.1, r.1, r.2.2.1, r.2.2.2⟩
    · rename_i y he
      cases hg
      have q := ent_at ok he
      simp only [entB, Bool.and_eq_true] at q
      have r := He.exc_ok q.2
      show mg x = some (.ref (adOf K es g)) ∧ PySem.W.keepIn K (.ref (adOf K es g)) = true ∧ _ ∧ _ ∧ _
      rw [show (gsOf K es).ca g = He.ga K x from ad_of he, show adOf K es g = He.ga K x from ad_of he]
      exact ⟨glo q.1, r.2.1, r.1, r.2.2.1, r.2.2.2⟩
  · unfold okM at ok
    simp only [Bool.and_eq_true] at ok
    have la : a < es.length := by
      by_cases h : a < es.length
      · exact h
      · simp [tbOf, List.getElem?_eq_none (Nat.le_of_not_lt h)] at hs
    have lb : b < es.length := by
      by_cases h : b < es.length
      · exact h
      · simp only [tbOf, List.getElem?_eq_none (Nat.le_of_not_lt h)] at hs
        split at hs
        · rename_i q; cases q
        · cases hs
    have q := List.all_eq_true.mp (List.all_eq_true.mp ok.1.2 a (List.mem_range.mpr la)) b (List.mem_range.mpr lb)
    rw [hs] at q
    simp only [subB, excB, Bool.and_eq_true, decide_eq_true_eq] at q
    obtain ⟨⟨⟨q1, q2⟩, q3⟩, ⟨⟨⟨⟨⟨⟨⟨z1, z2⟩, z3⟩, z4⟩, z5⟩, z6⟩, z7⟩, z8⟩⟩ := q
    exact ⟨q1, q2, q3, ⟨He.eqO_ok z1, He.eqO_ok z2, z3, z4, He.eqO_ok z5, He.eqO_ok z6, z7, z8⟩⟩
  · simp only [tbOf] at hF
    split at hF
    case h_2 => cases hF
    rename_i nm F' xs he
    cases hF
    have q := ent_at ok he
    simp only [entB, Bool.and_eq_true] at q
    obtain ⟨⟨q1, q2⟩, q3⟩ := q
    cases hl : K.lookup (He.ga K nm) with
    | none => rw [hl] at q3; cases q3
    | some o =>
      rw [hl] at q3
      obtain ⟨oc, od, dt, osl⟩ := o
      cases dt with
      | func fd =>
        obtain ⟨n1, n2, n3, n4, n5, n6, n7, n8, n9, n10, n11, n12, n13, n14, n15⟩ := fd
        simp only [fnB] at q3
        cases n4 with
        | stmts body =>
          cases n8 with
          | none =>
            simp only [Bool.and_eq_true, decide_eq_true_eq, List.isEmpty_iff, bodyB] at q3
            obtain ⟨⟨⟨⟨⟨z1, z2⟩, z3⟩, z4⟩, z5⟩, ⟨⟨z6, z7⟩, z8⟩, z9⟩ := q3
            subst z1 z2 z3
            have had : (gsOf K es).fa g = He.ga K nm := ad_of he
            exact ⟨by rw [had]; exact q2, oc, od, osl, n1, n2, n3, body, n5, n9, n10, n11, n12, n13, n14, _, by rw [had]; exact hl, z4, z5, z6, z7, z8, z9⟩
          | _ => cases q3
        | _ => cases q3
      | _ => cases q3
end
end Mi
namespace Mi
open PySem PySem.Spec PyProof.Rows L2
def keysOf (g : Addr → Option Obj) (a : Addr) : List Addr := match g a with
  | some ⟨_, _, .dict es _, _⟩ => es.toList.filterMap fun e => match e.key with
    | .ref b => some b
    | _ => none
  | _ => []
def asK (g : Addr → Option Obj) (n : Nat) : List Addr := He.asD g n ++ (He.asD g n).flatMap (keysOf g)
def hookM (n : Nat) (es : List Ent) : PySem.W.Hook where
  α := Bool
  obs := fun s => okM (He.frG s.heap.get? (asK s.heap.get? n)) es
  val := fun _ => true
  says := fun _ h => ∃ K : PySem.W.Frag, K.In h ∧ okM K es = true
  of := fun _ _ e => ⟨_, He.frG_in, e⟩
  keeps := fun _ _ _ ⟨K, hK, q⟩ k => ⟨K, PySem.W.Frag.In.keeps hK k, q⟩
def obM (n : Nat) (es : List Ent) (s : PySem.W.SharedT) : Bool := okM (He.frG (HandSHeadRun.getT s) (asK (HandSHeadRun.getT s) n)) es
theorem obM_eq (n : Nat) (es : List Ent) (s : PySem.W.SharedT) : obM n es s = (hookM n es).obs s.abs := by
  have e : HandSHeadRun.getT s = s.abs.heap.get? := funext (HandSHeadRun.getT_eq s)
  show okM _ es = okM _ es
  rw [e]
def scrH (K : PySem.W.Frag) (a : Addr) (o : Obj) (ns : List Int) : Hp := fun b => match K.lookup a with
  | none => if b = a then some (.frz o (.lst (ns.map V.int))) else none
  | some _ => none
theorem scrH_at {K : PySem.W.Frag} {a b : Addr} {o : Obj} {ns : List Int} {u : HO} (h : scrH K a o ns b = some u) : b = a ∧ K.lookup a = none ∧ u = .frz o (.lst (ns.map V.int)) := by
  unfold scrH at h
  cases q : K.lookup a with
  | some _ => rw [q] at h; cases h
  | none =>
    rw [q] at h
    by_cases hb : b = a
    · simp only [hb, if_true] at h
      cases h
      exact ⟨hb, rfl, rfl⟩
    · simp only [hb, if_false] at h
      cases h
theorem law_run {P : Program} {w : World} {es : List Ent} {K : PySem.W.Frag} {mg mb : Str → Option Value} {k g : Nat} {a : Addr} {s₁ : Shared} {vs : List Value} {ns : List Int} (hK : K.In s₁.heap) (hmg : s₁.heap.Ns mainGlobals mg) (hmb : s₁.heap.Ns builtinsNs mb)
    (hbt : ∀ x : Str, x ≠ "__name__" → mb x = bootBuiltins x) (hnl : s₁.heap.NoLimit) (hgn : s₁.gens = #[]) (hob : s₁.heap.get? a = some { cls := .type "list", data := .seq vs.toArray }) (hin : IntsAre vs ns) (hsz : ns.length ≤ sizeLine) (room : Room k callerA)
    (ok : okM K es = true) (hf : ((tbOf es).fn g).isSome = true) (spec : ∃ st, (orc (tbOf es) k).call g [.scr ns] [] = .ok (.val (.bl true)) st) :
    codeAny (model P w) callerA (.call (.ref (adOf K es g)) ⟨[.ref a], []⟩) (fun r s' => r = .ok (.ret (.bool true)) ∧ OldK s₁.heap s'.heap ∧ s'.os = s₁.os ∧ AllBare s'.gens) s₁ := by
  let o : Obj := { cls := .type "list", data := .seq vs.toArray }
  let H := scrH K a o ns
  have rv := vals_ints hin
  have told : ∀ {b : Addr} {u : HO}, H b = some u → b = a ∧ K.lookup a = none ∧ u = .frz o (.lst (ns.map V.int)) := scrH_at
  have off : ∀ {b : Addr} {p : Obj}, s₁.heap.get? b = some p → p ≠ o → H b = none := fun {b p} e ne => by
    cases q : H b with
    | none => rfl
    | some u =>
      obtain ⟨rfl, _, _⟩ := told q
      rw [hob] at e
      cases e
      exact absurd rfl ne
  have ns_of : ∀ {b : Addr} {m : Str → Option Value}, s₁.heap.Ns b m → (hidT s₁.heap H).Ns b m := fun {b m} z => by
    obtain ⟨p, ds, n, e, d, r⟩ := z
    refine ⟨p, ds, n, hidT_get e (off e fun z => ?_), d, r⟩
    rw [z] at d
    cases d
  have kin : K.In (hidT s₁.heap H) := fun b p e => by
    refine hidT_get (hK b p e) ?_
    cases q : H b with
    | none => rfl
    | some u =>
      obtain ⟨rfl, z, _⟩ := told q
      rw [z] at e
      cases e
  have hok : HOk P w H s₁.heap := fun b u e => by
    obtain ⟨rfl, _, rfl⟩ := told e
    exact ⟨hob, by rw [List.length_map]; exact hsz, vs, 0, rv, hob⟩
  have sq : SqL K H a (ns.map V.int) := by
    cases q : K.lookup a with
    | none =>
      refine .inl (.inr ⟨o, ?_⟩)
      show scrH K a o ns a = _
      simp only [scrH, q, if_true]
    | some p =>
      have e := hK a p q
      rw [hob] at e
      cases e
      exact .inr ⟨_, vs.toArray, _, q, rfl, rfl, rfl, by rw [List.size_toArray, hin.length]; exact hsz, by simpa using rv⟩
  have e0 : Env0 P w K mg (hidT s₁.heap H) callerA [] s₁ H :=
    ⟨rfl, ⟨kin, ns_of hmg, ⟨mb, ns_of hmb, hbt⟩, by obtain ⟨m, h1, h2⟩ := hnl; exact ⟨m, ns_of h1, h2⟩⟩, fun b p e => of_hidT e, Nat.le_of_eq (hidT_size _ _), trivial, fun b hb => absurd hb List.not_mem_nil, hok, .of_eq hgn⟩
  have F := fns_ok (P := P) (w := w) (base := hidT s₁.heap H) (fac_of kin (ns_of hmg) ok) k g hf
  obtain ⟨st, hst⟩ := spec
  have abs : Abs ⟨gsOf K es, H, [], H, 0⟩ H [] [] H [] [] :=
    { len := rfl, le0 := Same.refl _, le := Same.refl _, new := fun _ _ h => .inl h, pre := Pre.refl _, nd := List.nodup_nil, inew := fun _ h => (by cases h), sep := fun _ h => (by cases h), keep := fun _ _ h _ => h, lens := rfl, objs := fun i _ _ h => by simp at h,
      val := fun j d h => by simp at h, own := fun j o h => by simp at h, ownnd := fun i j a p q _ h => by simp at h }
  have sp : spOf (gsOf K es) (orc (tbOf es) k) g [.ref a] H (fun v _ => v = .bl true) (fun _ _ _ => False) := by
    refine ⟨H, [], [.scr ns], [], abs, .cons (.scr sq) .nil, ?_⟩
    rw [hst]
    intro F' ι' v H' _ hv
    cases hv
    rfl
  refine codeAny_mono (F.run callerA [] s₁ H [.ref a] [.ref a] _ _ rfl room e0 (.cons rfl .nil) sp) fun r s' h => ?_
  cases r with
  | error e =>
    obtain ⟨_, _, _, _, _, _, _, _, _, _, _, _, z⟩ := h
    exact z.elim
  | ok fl =>
    cases fl with
    | next => exact False.elim h
    | brk => exact False.elim h
    | cont => exact False.elim h
    | ret u =>
      obtain ⟨v, H', os, bare, un, hok', r', q⟩ := h
      have q' : v = .bl true := q
      subst q'
      obtain rfl : u = Value.bool true := r'
      refine ⟨rfl, OldK.of_keep fun b p e => ?_, os, bare⟩
      cases z : H b with
      | none => exact un.keep b p e z (by intro y; cases y) (by simp)
      | some u =>
        obtain ⟨rfl, _, rfl⟩ := told z
        have z2 := un.frzs b o _ z
        obtain ⟨e2, _⟩ := hok' b _ z2
        rw [hob] at e
        cases e
        exact e2
theorem walkM {l : PySem.W.OpenLaw} {n k g m : Nat} {q : Program} {loose : List Str} {XP : (Str → Option Value) → Heap → Prop} {d : DefRec} {es : List Ent} {F : Fn} {xs : List Str} (hn : l.most = some n) (hn2 : n ≤ sizeLine) (hdf : d.params.defaults = []) (room : Room k callerA) (hg : es[g]? = some ⟨d.name, .fn F xs⟩)
    (spec : ∀ ns : List Int, ns.length ≤ n → ∃ st, (orc (tbOf es) k).call g [.scr ns] [] = .ok (.val (.bl true)) st) : PySem.W.WalkO q loose XP (hookM m es).says l.row.toRowW d [] (fun f vs => PySem.call f vs) := by
  refine Att.attach_call hn hdf fun w s₀ s₁ mg mb fa o pm cd doc a vs ns G Y ho hd hcd hmg hobj hints hlen hgn => ?_
  obtain ⟨K, hK, ok⟩ := Y
  have hf : ((tbOf es).fn g).isSome = true := by simp [tbOf, hg]
  have fac := fac_of hK G.T.g ok
  have e1 : mg d.name = some (.ref (adOf K es g)) := fac.fn g d.name (by simp [gnOf, hg]) hf
  rw [hmg] at e1
  cases e1
  exact law_run hK G.T.g G.T.b G.T.builtins G.T.nolimit hgn hobj hints (Nat.le_trans hlen hn2) room ok hf (spec ns hlen)
end Mi
namespace Mi
open PySem
abbrev Hide {β : Sort _} (_ : β) : Type := Unit
inductive WP {α : Type} (m : M α) (e : Ev) (s : Sto) (P : α → Ev → Sto → Prop) (u : Hide P := ()) : Prop where
  | intro (a : α) (e' : Ev) (s' : Sto) (h : m e s = .ok a e' s') (p : P a e' s') : WP m e s P u
section
variable {α β : Type} {O : Orc} {e : Ev} {s : Sto} {P : α → Ev → Sto → Prop} {p : R → Ev → Sto → Prop} {pf : Flow → Ev → Sto → Prop}
theorem WP.mono {m : M α} {P' : α → Ev → Sto → Prop} (h : WP m e s P) (k : ∀ a e' s', P a e' s' → P' a e' s') : WP m e s P' := by
  obtain ⟨a, e', s', h1, h2⟩ := h
  exact ⟨a, e', s', h1, k _ _ _ h2⟩
theorem WP.bnd {m : M β} {f : β → M α} (h : WP m e s fun a e' s' => WP (f a) e' s' P) : WP (Mi.bnd m f) e s P := by
  obtain ⟨a, e', s', h1, b, e2, s2, h2, h3⟩ := h
  refine ⟨b, e2, s2, ?_, h3⟩
  unfold Mi.bnd
  rw [h1]
  exact h2
theorem WP.ret {a : α} (h : P a e s) : WP (Mi.ret a) e s P := ⟨a, e, s, rfl, h⟩
theorem WP.of {m : M α} {a : α} {e' : Ev} {s' : Sto} (h : m e s = .ok a e' s') (k : P a e' s') : WP m e s P := ⟨a, e', s', h, k⟩
theorem WP.lift {o : Option α} {a : α} (h : o = some a) (k : P a e s) : WP (Mi.lift o) e s P := by
  subst h
  exact ⟨a, e, s, rfl, k⟩
theorem wv_var {i : Nat} {d : D} (h : e[i]? = some (some (.val d))) (k : p (.val d) e s) : WP (evE O (.var i)) e s p := by
  refine ⟨_, e, s, ?_, k⟩
  show getVar i e s = _
  unfold getVar
  rw [h]
theorem wv_varN {i : Nat} {o : Ob} (h : e[i]? = some (some (.new o))) (f : o.flat = true) (k : p (.val o.d) (e.set i (some (.val o.d))) s) : WP (evE O (.var i)) e s p := by
  refine ⟨_, _, s, ?_, k⟩
  show getVar i e s = _
  unfold getVar
  rw [h]
  simp only [f, if_true]
theorem wv_cst {d : D} (k : p (.val d) e s) : WP (evE O (.cst d)) e s p := ⟨_, e, s, rfl, k⟩
theorem wv_glob {g : Nat} {d : D} (h : O.gl g = some d) (k : p (.val d) e s) : WP (evE O (.glob g)) e s p := by
  refine ⟨_, e, s, ?_, k⟩
  show Mi.lift ((O.gl g).map R.val) e s = _
  rw [h]
  rfl
theorem wa_var {i : Nat} {m : M R} {d : D} {P : Ar → Ev → Sto → Prop} (h : e[i]? = some (some (.val d))) (k : P (.v d) e s) : WP (asA (.var i) m) e s P := by
  refine ⟨_, e, s, ?_, k⟩
  simp only [asA, h]
theorem wa_varN {i : Nat} {m : M R} {o : Ob} {P : Ar → Ev → Sto → Prop} (h : e[i]? = some (some (.new o))) (k : P (.s i) e s) : WP (asA (.var i) m) e s P := by
  refine ⟨_, e, s, ?_, k⟩
  simp only [asA, h]
theorem wa_val {x : E} {m : M R} {P : Ar → Ev → Sto → Prop} (hx : ∀ i, x ≠ .var i) (h : WP m e s fun r e' s' => r.flat = true ∧ P (.v r.d) e' s') : WP (asA x m) e s P := by
  have e1 : asA x m = Mi.bnd m fun r => Mi.bnd (frz r) fun d => Mi.ret (.v d) := by
    cases x <;> first | rfl | exact absurd rfl (hx _)
  rw [e1]
  refine WP.bnd (h.mono fun r e' s' ⟨h1, h2⟩ => ?_)
  refine ⟨_, e', s', ?_, h2⟩
  simp only [Mi.bnd, frz, h1, if_true, Mi.ret, Out.bind]
theorem wa_glob {g : Nat} {d : D} {P : Ar → Ev → Sto → Prop} (h : O.gl g = some d) (k : P (.v d) e s) : WP (asA (.glob g) (evE O (.glob g))) e s P :=
  wa_val (by intro i z; cases z) (wv_glob h ⟨rfl, k⟩)
theorem wp_frz {r : R} {P : D → Ev → Sto → Prop} (h : r.flat = true) (k : P r.d e s) : WP (frz r) e s P := by
  refine ⟨_, e, s, ?_, k⟩
  simp only [frz, h, if_true, Mi.ret]
theorem wvs_nil {P : List D → Ev → Sto → Prop} (k : P [] e s) : WP (evVs O []) e s P := ⟨_, e, s, rfl, k⟩
theorem wvs_cons {x : E} {xs : List E} {P : List D → Ev → Sto → Prop} (h : WP (evE O x) e s fun r e1 s1 => r.flat = true ∧ WP (evVs O xs) e1 s1 fun ds e2 s2 => P (r.d :: ds) e2 s2) : WP (evVs O (x :: xs)) e s P :=
  WP.bnd (h.mono fun r e1 s1 ⟨h1, h2⟩ => WP.bnd (wp_frz h1 (WP.bnd (h2.mono fun ds e2 s2 h3 => WP.ret h3))))
theorem was_nil {P : List Ar → Ev → Sto → Prop} (k : P [] e s) : WP (evAs O []) e s P := ⟨_, e, s, rfl, k⟩
theorem was_cons {x : E} {xs : List E} {P : List Ar → Ev → Sto → Prop} (h : WP (asA x (evE O x)) e s fun a e1 s1 => WP (evAs O xs) e1 s1 fun as e2 s2 => P (a :: as) e2 s2) : WP (evAs O (x :: xs)) e s P :=
  WP.bnd (h.mono fun r e1 s1 h2 => WP.bnd (h2.mono fun ds e2 s2 h3 => WP.ret h3))
theorem wrs_nil {P : List R → Ev → Sto → Prop} (k : P [] e s) : WP (evRs O []) e s P := ⟨_, e, s, rfl, k⟩
theorem wrs_val {x : E} {xs : List E} {P : List R → Ev → Sto → Prop} (h : WP (evE O x) e s fun r e1 s1 => (∀ α (m : M α), heldR r m = m) ∧ WP (evRs O xs) e1 s1 fun rs e2 s2 => P (r :: rs) e2 s2) : WP (evRs O (x :: xs)) e s P :=
  WP.bnd (h.mono fun r e1 s1 ⟨h1, h2⟩ => WP.bnd (by rw [h1]; exact h2.mono fun ds e2 s2 h3 => WP.ret h3))
theorem wv_tup {xs : List E} (h : WP (evVs O xs) e s fun ds e' s' => ds.length ≤ line ∧ p (.val (.tup ds)) e' s') : WP (evE O (.tup xs)) e s p :=
  WP.bnd (h.mono fun ds e' s' ⟨h1, h2⟩ => by simp only [h1, if_true]; exact WP.ret h2)
theorem wv_lst {xs : List E} (h : WP (evVs O xs) e s fun ds e' s' => ds.length ≤ line ∧ p (.new (.lst ds)) e' s') : WP (evE O (.lst xs)) e s p :=
  WP.bnd (h.mono fun ds e' s' ⟨h1, h2⟩ => by simp only [h1, if_true]; exact WP.ret h2)
theorem wv_bin {op : Operator} {a b : E} (h : WP (asA a (evE O a)) e s fun x e1 s1 => WP (asA b (evE O b)) e1 s1 fun y e2 s2 => WP (prim2 (binD op) x y) e2 s2 p) : WP (evE O (.bin op a b)) e s p :=
  WP.bnd (h.mono fun _ _ _ h => WP.bnd h)
theorem wv_cmp {op : CmpOp} {a b : E} (h : WP (asA a (evE O a)) e s fun x e1 s1 => WP (asA b (evE O b)) e1 s1 fun y e2 s2 => WP (prim2 (fun x y => blR (cmpD op x y)) x y) e2 s2 p) : WP (evE O (.cmp op a b)) e s p :=
  WP.bnd (h.mono fun _ _ _ h => WP.bnd h)
theorem wv_ix {a b : E} (h : WP (asA a (evE O a)) e s fun x e1 s1 => WP (asA b (evE O b)) e1 s1 fun y e2 s2 => WP (prim2 (fun x y => (ixD x y).map .val) x y) e2 s2 p) : WP (evE O (.ix a b)) e s p :=
  WP.bnd (h.mono fun _ _ _ h => WP.bnd h)
theorem wv_neg {a : E} (h : WP (asA a (evE O a)) e s fun x e1 s1 => WP (prim1 negD x) e1 s1 p) : WP (evE O (.neg a)) e s p := WP.bnd h
theorem wv_isi {a : E} {t : Ty} (h : WP (asA a (evE O a)) e s fun x e1 s1 => WP (prim1 (fun x => blR (isiD x t)) x) e1 s1 p) : WP (evE O (.isi a t)) e s p := WP.bnd h
theorem wv_bi {b : Bi} {xs : List E} (h : WP (evAs O xs) e s fun as e1 s1 => WP (primN (biD b) as) e1 s1 p) : WP (evE O (.bi b xs)) e s p := WP.bnd h
theorem wp_asBl {r : R} {P : Bool → Ev → Sto → Prop} {k : Bool} (h : r = .val (.bl k)) (q : P k e s) : WP (asBl r) e s P := by subst h; exact ⟨k, e, s, rfl, q⟩
theorem wp_asInt {r : R} {P : Int → Ev → Sto → Prop} {k : Int} (h : r = .val (.int k)) (q : P k e s) : WP (asInt r) e s P := by subst h; exact ⟨k, e, s, rfl, q⟩
theorem wv_not {a : E} (h : WP (evE O a) e s fun r e1 s1 => ∃ k, r = .val (.bl k) ∧ p (.val (.bl (!k))) e1 s1) : WP (evE O (.not a)) e s p :=
  WP.bnd (h.mono fun r e1 s1 ⟨k, h1, h2⟩ => WP.bnd (wp_asBl h1 (WP.ret h2)))
theorem wv_and {a b : E} (h : WP (evE O a) e s fun r e1 s1 => ∃ k, r = .val (.bl k) ∧ (k = true → WP (evE O b) e1 s1 p) ∧ (k = false → p (.val (.bl false)) e1 s1)) : WP (evE O (.and a b)) e s p :=
  WP.bnd (h.mono fun r e1 s1 ⟨k, h1, h2, h3⟩ => WP.bnd (wp_asBl h1 (by cases k with | true => exact h2 rfl | false => exact WP.ret (h3 rfl))))
theorem wv_or {a b : E} (h : WP (evE O a) e s fun r e1 s1 => ∃ k, r = .val (.bl k) ∧ (k = false → WP (evE O b) e1 s1 p) ∧ (k = true → p (.val (.bl true)) e1 s1)) : WP (evE O (.or a b)) e s p :=
  WP.bnd (h.mono fun r e1 s1 ⟨k, h1, h2, h3⟩ => WP.bnd (wp_asBl h1 (by cases k with | false => exact h2 rfl | true => exact WP.ret (h3 rfl))))
theorem wv_ife {c a b : E} (h : WP (evE O c) e s fun r e1 s1 => ∃ k, r = .val (.bl k) ∧ (k = true → WP (evE O a) e1 s1 p) ∧ (k = false → WP (evE O b) e1 s1 p)) : WP (evE O (.ife c a b)) e s p :=
  WP.bnd (h.mono fun r e1 s1 ⟨k, h1, h2, h3⟩ => WP.bnd (wp_asBl h1 (by cases k with | true => exact h2 rfl | false => exact h3 rfl)))
theorem wv_andT {a b : E} (h : WP (evE O a) e s fun r e1 s1 => ∃ k, r = .val (.bl k) ∧ WP (evE O b) e1 s1 fun r2 e2 s2 => ∃ k2, r2 = .val (.bl k2) ∧ e2 = e1 ∧ s2 = s1 ∧ p (.val (.bl (k && k2))) e1 s1) : WP (evE O (.and a b)) e s p :=
  wv_and (h.mono fun r e1 s1 ⟨k, h1, h2⟩ => ⟨k, h1, fun hk => h2.mono fun r2 e2 s2 ⟨k2, h3, h4, h5, h6⟩ => by subst hk h3 h4 h5; exact h6, fun hk => by
    obtain ⟨_, _, _, _, k2, _, _, _, h6⟩ := h2
    subst hk
    exact h6⟩)
theorem wv_orT {a b : E} (h : WP (evE O a) e s fun r e1 s1 => ∃ k, r = .val (.bl k) ∧ WP (evE O b) e1 s1 fun r2 e2 s2 => ∃ k2, r2 = .val (.bl k2) ∧ e2 = e1 ∧ s2 = s1 ∧ p (.val (.bl (k || k2))) e1 s1) : WP (evE O (.or a b)) e s p :=
  wv_or (h.mono fun r e1 s1 ⟨k, h1, h2⟩ => ⟨k, h1, fun hk => h2.mono fun r2 e2 s2 ⟨k2, h3, h4, h5, h6⟩ => by subst hk h3 h4 h5; exact h6, fun hk => by
    obtain ⟨_, _, _, _, k2, _, _, _, h6⟩ := h2
    subst hk
    exact h6⟩)
theorem wv_chainT {o1 o2 : CmpOp} {a b c : E} (h : WP (asA a (evE O a)) e s fun x e1 s1 => WP (asA b (evE O b)) e1 s1 fun y e2 s2 => WP (prim2 (fun x y => blR (cmpD o1 x y)) x y) e2 s2 fun r e3 s3 => ∃ k, r = .val (.bl k) ∧
    WP (asA c (evE O c)) e3 s3 fun z e4 s4 => WP (prim2 (fun x y => blR (cmpD o2 x y)) y z) e4 s4 fun r2 e5 s5 => ∃ k2, r2 = .val (.bl k2) ∧ e5 = e3 ∧ s5 = s3 ∧ p (.val (.bl (k && k2))) e3 s3) : WP (evE O (.chain o1 o2 a b c)) e s p := by
  refine WP.bnd (h.mono fun x e1 s1 h => WP.bnd (h.mono fun y e2 s2 h => WP.bnd (h.mono fun r e3 s3 ⟨k, h1, h2⟩ => WP.bnd (wp_asBl h1 ?_))))
  cases k with
  | true => exact WP.bnd (h2.mono fun z e4 s4 h3 => h3.mono fun r2 e5 s5 ⟨k2, q1, q2, q3, q4⟩ => by subst q1 q2 q3; exact q4)
  | false =>
    obtain ⟨_, _, _, _, _, _, _, _, k2, _, _, _, h6⟩ := h2
    exact WP.ret h6
theorem wp_none {m : M R} {P : Option Int → Ev → Sto → Prop} (k : P none e s) : WP (partOf .nop m) e s P := ⟨none, e, s, rfl, k⟩
theorem wp_some {x : E} {m : M R} {P : Option Int → Ev → Sto → Prop} (hx : x ≠ .nop) (h : WP m e s fun r e1 s1 => ∃ k, r = .val (.int k) ∧ P (some k) e1 s1) : WP (partOf x m) e s P := by
  have e1 : partOf x m = Mi.bnd m fun r => Mi.bnd (asInt r) fun k => Mi.ret (some k) := by cases x <;> first | rfl | exact absurd rfl hx
  rw [e1]
  exact WP.bnd (h.mono fun r e1 s1 ⟨k, h1, h2⟩ => WP.bnd (wp_asInt h1 (WP.ret h2)))
theorem wv_sl {a lo hi : E} (h : WP (asA a (evE O a)) e s fun x e1 s1 => WP (partOf lo (evE O lo)) e1 s1 fun l e2 s2 => WP (partOf hi (evE O hi)) e2 s2 fun u e3 s3 => WP (prim1 (fun x => slD x l u) x) e3 s3 p) : WP (evE O (.sl a lo hi)) e s p :=
  WP.bnd (h.mono fun x e1 s1 h => WP.bnd (h.mono fun l e2 s2 h => WP.bnd h))
theorem wp_callM {g : Nat} {ds : List D} {r : R} {s' : Sto} (h : O.call g ds s = .ok r s') (k : p r e s') : WP (callM O g ds) e s p := by
  refine ⟨r, e, s', ?_, k⟩
  unfold callM
  rw [h]
  rfl
theorem wv_call {g : Nat} {xs : List E} (h : WP (evVs O xs) e s fun ds e1 s1 => ∃ r s2, O.call g ds s1 = .ok r s2 ∧ p r e1 s2) : WP (evE O (.call g xs)) e s p :=
  WP.bnd (h.mono fun ds e1 s1 ⟨r, s2, h1, h2⟩ => wp_callM h1 h2)
theorem wv_calle {f : E} {xs : List E} (h : WP (evE O f) e s fun r e1 s1 => ∃ g, r = .val (.fn g) ∧ O.has g = true ∧ WP (evVs O xs) e1 s1 fun ds e2 s2 => ∃ r s3, O.call g ds s2 = .ok r s3 ∧ p r e2 s3) : WP (evE O (.calle f xs)) e s p :=
  WP.bnd (h.mono fun r e1 s1 ⟨g, h1, h2, h3⟩ => by
    subst h1
    simp only [h2, if_true]
    exact WP.bnd (h3.mono fun ds e1 s1 ⟨r, s2, h1, h2⟩ => wp_callM h1 h2))
theorem wv_alloc {x : E} (h : WP (evE O x) e s fun r e1 s1 => ∃ o, r = .new o ∧ p (.val (.ref s1.length)) e1 (s1 ++ [o])) : WP (evE O (.alloc x)) e s p :=
  WP.bnd (h.mono fun r e1 s1 ⟨o, h1, h2⟩ => by subst h1; exact ⟨_, _, _, rfl, h2⟩)
theorem wp_prim1 {f : D → Option R} {x : Ar} {d : D} {r : R} (h : deref x e s = .ok d e s) (h1 : f d = some r) (k : p r e s) : WP (prim1 f x) e s p := by
  refine ⟨r, e, s, ?_, k⟩
  simp only [prim1, Mi.bnd, h, Out.bind, Mi.lift, h1]
theorem wp_prim2 {f : D → D → Option R} {x y : Ar} {d d' : D} {r : R} (h : deref x e s = .ok d e s) (h' : deref y e s = .ok d' e s) (h1 : f d d' = some r) (k : p r e s) : WP (prim2 f x y) e s p := by
  refine ⟨r, e, s, ?_, k⟩
  simp only [prim2, Mi.bnd, h, h', Out.bind, Mi.lift, h1]
theorem derefs_nil : derefs [] e s = .ok [] e s := rfl
theorem derefs_cons {a : Ar} {as : List Ar} {d : D} {ds : List D} (h : deref a e s = .ok d e s) (h' : derefs as e s = .ok ds e s) : derefs (a :: as) e s = .ok (d :: ds) e s := by
  simp only [derefs, Mi.bnd, h, h', Out.bind, Mi.ret]
theorem wp_primN {f : List D → Option R} {xs : List Ar} {ds : List D} {r : R} (h : derefs xs e s = .ok ds e s) (h1 : f ds = some r) (k : p r e s) : WP (primN f xs) e s p := by
  refine ⟨r, e, s, ?_, k⟩
  simp only [primN, Mi.bnd, h, Out.bind, Mi.lift, h1]
theorem deref_ref {n : Nat} {o : Ob} (h : s[n]? = some o) (f : o.flat = true) : deref (.v (.ref n)) e s = .ok o.d e s := by
  simp only [deref, h, f, if_true]
theorem deref_v {d : D} (h : ∀ n, d ≠ .ref n) : deref (.v d) e s = .ok d e s := by
  cases d <;> first | rfl | exact absurd rfl (h _)
theorem wi_seq {x : E} {P : List D → Ev → Sto → Prop} (h : WP (evE O x) e s fun r e1 s1 => r.flat = true ∧ ∃ ds, (r.d = .tup ds ∨ r.d = .lst ds) ∧ P ds e1 s1) : WP (evI O (.seq x)) e s P :=
  WP.bnd (h.mono fun r e1 s1 ⟨h1, ds, h2, h3⟩ => WP.bnd (wp_frz h1 (by rcases h2 with h | h <;> rw [h] <;> exact WP.ret h3)))
theorem wi_range {x : E} {P : List D → Ev → Sto → Prop} (h : WP (evE O x) e s fun r e1 s1 => ∃ k, r = .val (.int k) ∧ k.natAbs < 4611686018427387904 ∧ P ((List.range k.toNat).map fun (i : Nat) => .int i) e1 s1) : WP (evI O (.range x)) e s P :=
  WP.bnd (h.mono fun r e1 s1 ⟨k, h1, h2, h3⟩ => WP.bnd (wp_asInt h1 (by simp only [h2, if_true]; exact WP.ret h3)))
theorem wi_range2 {x y : E} {P : List D → Ev → Sto → Prop} (h : WP (evE O x) e s fun r e1 s1 => ∃ k, r = .val (.int k) ∧ WP (evE O y) e1 s1 fun r2 e2 s2 => ∃ m, r2 = .val (.int m) ∧ (k.natAbs < 4611686018427387904 ∧ m.natAbs < 4611686018427387904) ∧ P ((List.range (m - k).toNat).map fun (i : Nat) => .int (k + i)) e2 s2) : WP (evI O (.range2 x y)) e s P :=
  WP.bnd (h.mono fun r e1 s1 ⟨k, h1, h2⟩ => WP.bnd (wp_asInt h1 (WP.bnd (h2.mono fun r2 e2 s2 ⟨m, h3, h4, h5⟩ => WP.bnd (wp_asInt h3 (by simp only [h4, and_self, if_true]; exact WP.ret h5))))))
theorem wi_zipT {x y : E} {P : List D → Ev → Sto → Prop} (h : WP (evE O x) e s fun r e1 s1 => ∃ xs, r = .val (.tup xs) ∧ WP (evE O y) e1 s1 fun r2 e2 s2 => ∃ ys, r2 = .val (.tup ys) ∧ P (List.zipWith (fun x y => .tup [x, y]) xs ys) e2 s2) : WP (evI O (.zip x y)) e s P :=
  WP.bnd (h.mono fun r e1 s1 ⟨xs, h1, h2⟩ => by subst h1; exact WP.bnd (wp_frz rfl (WP.bnd (h2.mono fun r2 e2 s2 ⟨ys, h3, h4⟩ => by subst h3; exact WP.bnd (wp_frz rfl (WP.ret h4))))))
theorem wi_zipL {x y : E} {P : List D → Ev → Sto → Prop} (h : WP (evE O x) e s fun r e1 s1 => r.flat = true ∧ ∃ xs, r.d = .lst xs ∧ WP (evE O y) e1 s1 fun r2 e2 s2 => r2.flat = true ∧ ∃ ys, r2.d = .lst ys ∧ P (List.zipWith (fun x y => .tup [x, y]) xs ys) e2 s2) : WP (evI O (.zip x y)) e s P :=
  WP.bnd (h.mono fun r e1 s1 ⟨f1, xs, h1, h2⟩ => WP.bnd (wp_frz f1 (by rw [h1]; exact WP.bnd (h2.mono fun r2 e2 s2 ⟨f2, ys, h3, h4⟩ => WP.bnd (wp_frz f2 (by rw [h3]; exact WP.ret h4))))))
theorem wi_enum {x : E} {P : List D → Ev → Sto → Prop} (h : WP (evE O x) e s fun r e1 s1 => r.flat = true ∧ ∃ ds, r.d = .lst ds ∧ P (List.zipWith (fun (i : Nat) x => .tup [.int i, x]) (List.range ds.length) ds) e1 s1) : WP (evI O (.enum x)) e s P :=
  WP.bnd (h.mono fun r e1 s1 ⟨h1, ds, h2, h3⟩ => WP.bnd (wp_frz h1 (by rw [h2]; exact WP.ret h3)))
theorem wp_noExc {m : M α} (h : WP m e s P) : WP (noExc m) e s P := by
  obtain ⟨a, e', s', h1, h2⟩ := h
  refine ⟨a, e', s', ?_, h2⟩
  unfold noExc
  rw [h1]
theorem rest_same {e e' : Ev} {own : List Nat} (h : wipeE e' own = wipeE e own) (no : noOwn e own = true) : restE e e' own = e := by
  refine List.ext_getElem? fun j => ?_
  have hl : e'.length = e.length := by have := congrArg List.length h; rw [wipeE_len, wipeE_len] at this; exact this
  by_cases hj : j ∈ own
  · obtain ⟨r, h1, _⟩ := noOwn_at no hj
    rw [restE_in h1 hj (by rw [hl]; exact (List.getElem?_eq_some_iff.mp h1).1), h1]
  · rw [restE_out hj]
    have q : (wipeE e' own)[j]? = (wipeE e own)[j]? := by rw [h]
    rw [wipeE_out hj, wipeE_out hj] at q
    exact q
theorem compL_S {f : D → M (Option D)} {own : List Nat} {items : List D} {E0 : Ev} (J : Nat → List D → Sto → Prop)
    (step : ∀ i acc s1 x, items[i]? = some x → J i acc s1 → WP (f x) E0 s1 fun o e2 s2 => wipeE e2 own = E0 ∧ J (i + 1) (acc ++ o.toList) s2) :
    ∀ (n i : Nat) (acc : List D) (e1 : Ev) (s1 : Sto), n = items.length - i → i ≤ items.length → wipeE e1 own = E0 → J i acc s1 → WP (compL f own (items.drop i)) e1 s1 fun ds e2 s2 => wipeE e2 own = E0 ∧ J items.length (acc ++ ds) s2
  | 0, i, acc, e1, s1, hn, hi, he, hJ => by
    have : i = items.length := by omega
    subst this
    rw [List.drop_length]
    exact ⟨[], e1, s1, rfl, he, by rw [List.append_nil]; exact hJ⟩
  | n + 1, i, acc, e1, s1, hn, hi, he, hJ => by
    have hlt : i < items.length := by omega
    rw [List.drop_eq_getElem_cons hlt]
    obtain ⟨o, e2, s2, h1, h2, h3⟩ := step i acc s1 items[i] (List.getElem?_eq_getElem hlt) hJ
    obtain ⟨ds, e3, s3, h4, h5, h6⟩ := compL_S J step n (i + 1) (acc ++ o.toList) e2 s2 (by omega) hlt h2 h3
    have hx : noExc (f items[i]) E0 s1 = .ok o e2 s2 := by unfold noExc; rw [h1]
    cases o with
    | none =>
      refine ⟨ds, e3, s3, ?_, h5, by simpa using h6⟩
      unfold compL
      rw [he, hx]
      simp only [Out.bind, Mi.bnd, h4, Mi.ret]
    | some d =>
      refine ⟨d :: ds, e3, s3, ?_, h5, by simpa [List.append_assoc] using h6⟩
      unfold compL
      rw [he, hx]
      simp only [Out.bind, Mi.bnd, h4, Mi.ret]
theorem wv_comp {elt : E} {tg : T} {it : I} {c : E} {own : List Nat} (h : WP (evI O it) e s fun items e1 s1 => noOwn e1 own = true ∧ items.length ≤ line ∧ ∃ J : Nat → List D → Sto → Prop, J 0 [] s1 ∧
    (∀ i acc s2 x, items[i]? = some x → J i acc s2 → WP (turnM tg (condOf c (evE O c)) (evE O elt) x) (wipeE e1 own) s2 fun o e3 s3 => wipeE e3 own = wipeE e1 own ∧ J (i + 1) (acc ++ o.toList) s3) ∧
    (∀ acc s2, J items.length acc s2 → p (.new (.lst acc)) e1 s2)) : WP (evE O (.comp elt tg it c own)) e s p := by
  refine WP.bnd (h.mono fun items e1 s1 ⟨h1, h2, J, h3, h4, h5⟩ => ?_)
  obtain ⟨ds, e2, s2, q1, q2, q3⟩ := compL_S J h4 items.length 0 [] e1 s1 rfl (Nat.zero_le _) rfl h3
  rw [List.drop_zero] at q1
  refine ⟨.new (.lst ds), e1, s2, ?_, h5 ds s2 (by simpa using q3)⟩
  unfold compM
  simp only [h1, h2, decide_true, Bool.and_self, if_true]
  show ((compL (turnM tg (condOf c (evE O c)) (evE O elt)) own items e1 s1).bind _) = _
  rw [q1]
  simp only [Out.bind]
  rw [rest_same q2 h1]
theorem wv_compP {elt : E} {tg : T} {it : I} {c : E} {own : List Nat} (h : WP (evI O it) e s fun items e1 s1 => noOwn e1 own = true ∧ items.length ≤ line ∧ ∃ g : D → Option D,
    (∀ x ∈ items, WP (turnM tg (condOf c (evE O c)) (evE O elt) x) (wipeE e1 own) s1 fun o e3 s3 => wipeE e3 own = wipeE e1 own ∧ s3 = s1 ∧ o = g x) ∧ p (.new (.lst (items.filterMap g))) e1 s1) : WP (evE O (.comp elt tg it c own)) e s p := by
  refine wv_comp (h.mono fun items e1 s1 ⟨h1, h2, g, h3, h4⟩ => ⟨h1, h2, fun i acc s2 => s2 = s1 ∧ acc = (items.take i).filterMap g, ⟨rfl, rfl⟩, fun i acc s2 x hx hJ => ?_, fun acc s2 hJ => ?_⟩)
  · obtain ⟨rfl, rfl⟩ := hJ
    refine (h3 x (List.mem_of_getElem? hx)).mono fun o e3 s3 ⟨q1, q2, q3⟩ => ⟨q1, q2, ?_⟩
    obtain ⟨hlt, hx'⟩ := List.getElem?_eq_some_iff.mp hx
    rw [List.take_succ, hx, List.filterMap_append, q3]
    cases hg : g x <;> simp [hg]
  · obtain ⟨rfl, rfl⟩ := hJ
    rw [List.take_length]
    exact h4
theorem wt_turn {tg : T} {mc : M Bool} {me : M R} {x : D} {P : Option D → Ev → Sto → Prop} {e1 : Ev} (h : asgT tg x e s = .ok () e1 s) (h1 : WP mc e1 s fun b e2 s2 => (b = true → WP me e2 s2 fun r e3 s3 => r.flat = true ∧ P (some r.d) e3 s3) ∧ (b = false → P none e2 s2)) : WP (turnM tg mc me x) e s P := by
  refine WP.bnd (WP.of h (WP.bnd (h1.mono fun b e2 s2 ⟨q1, q2⟩ => ?_)))
  cases b with
  | true => exact WP.bnd ((q1 rfl).mono fun r e3 s3 ⟨f, k⟩ => WP.bnd (wp_frz f (WP.ret k)))
  | false => exact WP.ret (q2 rfl)
theorem wt_all {tg : T} {m : M R} {me : M R} {x : D} {P : Option D → Ev → Sto → Prop} {e1 : Ev} (h : asgT tg x e s = .ok () e1 s) (h1 : WP me e1 s fun r e3 s3 => r.flat = true ∧ P (some r.d) e3 s3) : WP (turnM tg (condOf .nop m) me x) e s P :=
  wt_turn h ⟨true, e1, s, rfl, fun _ => h1, fun z => by cases z⟩
theorem wt_if {tg : T} {c : E} {m : M R} {me : M R} {x : D} {P : Option D → Ev → Sto → Prop} {e1 : Ev} (hc : c ≠ .nop) (h : asgT tg x e s = .ok () e1 s) (h1 : WP m e1 s fun r e2 s2 => ∃ k, r = .val (.bl k) ∧ (k = true → WP me e2 s2 fun r e3 s3 => r.flat = true ∧ P (some r.d) e3 s3) ∧ (k = false → P none e2 s2)) : WP (turnM tg (condOf c m) me x) e s P := by
  refine wt_turn h ?_
  have e2 : condOf c m = Mi.bnd m asBl := by cases c <;> first | rfl | exact absurd rfl hc
  rw [e2]
  exact WP.bnd (h1.mono fun r e2 s2 ⟨k, q1, q2, q3⟩ => wp_asBl q1 ⟨q2, q3⟩)
theorem wx_expr {y : E} (h : WP (evE O y) e s fun _ e' s' => pf .nx e' s') : WP (exec O (.expr y)) e s pf := WP.bnd (h.mono fun _ _ _ h => WP.ret h)
theorem wx_set {i : Nat} {y : E} (h : WP (evE O y) e s fun r e' s' => pf .nx (e'.set i (some r)) s') : WP (exec O (.set i y)) e s pf :=
  WP.bnd (h.mono fun r e' s' h => WP.bnd ⟨(), _, _, rfl, WP.ret h⟩)
theorem wx_asg {t : T} {y : E} (h : WP (evE O y) e s fun r e' s' => r.flat = true ∧ ∃ e'', asgT t r.d e' s' = .ok () e'' s' ∧ pf .nx e'' s') : WP (exec O (.asg t y)) e s pf :=
  WP.bnd (h.mono fun r e' s' ⟨h1, e'', h2, h3⟩ => WP.bnd (wp_frz h1 (WP.bnd ⟨(), _, _, h2, WP.ret h3⟩)))
theorem wx_par {is : List Nat} {es : List E} (h : WP (evRs O es) e s fun rs e' s' => rs.length = is.length ∧ pf .nx (sets is rs e') s') : WP (exec O (.par is es)) e s pf :=
  WP.bnd (h.mono fun rs e' s' ⟨h1, h2⟩ => by simp only [h1, if_true]; exact WP.bnd ⟨(), _, _, rfl, WP.ret h2⟩)
theorem wx_ret {y : E} (h : WP (evE O y) e s fun r e' s' => pf (.rt r) e' s') : WP (exec O (.ret y)) e s pf := WP.bnd (h.mono fun _ _ _ h => WP.ret h)
theorem wx_iff {q : E} {a b : List S} (h : WP (evE O q) e s fun r e' s' => ∃ k, r = .val (.bl k) ∧ (k = true → WP (execs O a) e' s' pf) ∧ (k = false → WP (execs O b) e' s' pf)) : WP (exec O (.iff q a b)) e s pf :=
  WP.bnd (h.mono fun r e' s' ⟨k, h1, h2, h3⟩ => WP.bnd (wp_asBl h1 (by cases k with | true => exact h2 rfl | false => exact h3 rfl)))
theorem ws_nil (h : pf .nx e s) : WP (execs O []) e s pf := ⟨_, e, s, rfl, h⟩
theorem ws_cons {x : S} {xs : List S} (h : WP (exec O x) e s fun fl e1 s1 => match fl with | .nx => WP (execs O xs) e1 s1 pf | .bk => pf .bk e1 s1 | .ct => pf .ct e1 s1 | .rt r => pf (.rt r) e1 s1) : WP (execs O (x :: xs)) e s pf :=
  WP.bnd (h.mono fun fl e1 s1 h => by cases fl <;> first | exact h | exact WP.ret h)
theorem wp_forL {f : D → M Flow} {items : List D} (I : Nat → Ev → Sto → Prop) (h0 : I 0 e s)
    (step : ∀ i x e1 s1, items[i]? = some x → I i e1 s1 → WP (f x) e1 s1 fun fl e2 s2 => match fl with | .nx => I (i + 1) e2 s2 | .ct => I (i + 1) e2 s2 | .bk => pf .nx e2 s2 | .rt r => pf (.rt r) e2 s2)
    (fin : ∀ e1 s1, I items.length e1 s1 → pf .nx e1 s1) : WP (forL f items) e s pf := by
  have go : ∀ (n i : Nat) (e1 : Ev) (s1 : Sto), n = items.length - i → i ≤ items.length → I i e1 s1 → WP (forL f (items.drop i)) e1 s1 pf := fun n => by
    induction n with
    | zero =>
      intro i e1 s1 hn hi h
      have : i = items.length := by omega
      subst this
      rw [List.drop_length]
      exact ⟨_, e1, s1, rfl, fin _ _ h⟩
    | succ n ih =>
      intro i e1 s1 hn hi h
      have hlt : i < items.length := by omega
      rw [List.drop_eq_getElem_cons hlt]
      refine WP.bnd ((step i items[i] e1 s1 (List.getElem?_eq_getElem hlt) h).mono fun fl e2 s2 q => ?_)
      cases fl with
      | nx => exact ih (i + 1) e2 s2 (by omega) hlt q
      | ct => exact ih (i + 1) e2 s2 (by omega) hlt q
      | bk => exact WP.ret q
      | rt r => exact WP.ret q
  exact go items.length 0 e s rfl (Nat.zero_le _) h0
theorem wx_for {t : T} {it : I} {b : List S} (h : WP (evI O it) e s fun items e1 s1 => ∃ I : Nat → Ev → Sto → Prop, I 0 e1 s1 ∧
    (∀ i x e2 s2, items[i]? = some x → I i e2 s2 → ∃ e3, asgT t x e2 s2 = .ok () e3 s2 ∧ WP (execs O b) e3 s2 fun fl e4 s4 => match fl with | .nx => I (i + 1) e4 s4 | .ct => I (i + 1) e4 s4 | .bk => pf .nx e4 s4 | .rt r => pf (.rt r) e4 s4) ∧
    (∀ e2 s2, I items.length e2 s2 → pf .nx e2 s2)) : WP (exec O (.for t it b)) e s pf :=
  WP.bnd (h.mono fun items e1 s1 ⟨I, h0, h1, h2⟩ => wp_forL I h0 (fun i x e2 s2 hx hI => by
    obtain ⟨e3, q1, q2⟩ := h1 i x e2 s2 hx hI
    exact WP.bnd ⟨(), _, _, q1, q2⟩) h2)
theorem wp_whl {c : M Bool} {b : M Flow} (I : Nat → Ev → Sto → Prop) (step : ∀ n e1 s1, I n e1 s1 → WP c e1 s1 fun k e2 s2 => (k = true → 0 < n ∧ WP b e2 s2 fun fl e3 s3 => match fl with | .nx => I (n - 1) e3 s3 | .ct => I (n - 1) e3 s3 | .bk => pf .nx e3 s3 | .rt r => pf (.rt r) e3 s3) ∧ (k = false → pf .nx e2 s2)) :
    ∀ (m n : Nat) (e : Ev) (s : Sto), n < m → I n e s → WP (whlL c b m) e s pf
  | 0, n, e, s, h, _ => by omega
  | m + 1, n, e, s, h, hI => by
    refine WP.bnd ((step n e s hI).mono fun k e2 s2 ⟨q1, q2⟩ => ?_)
    cases k with
    | false => exact WP.ret (q2 rfl)
    | true =>
      obtain ⟨hn, q⟩ := q1 rfl
      refine WP.bnd (q.mono fun fl e3 s3 q => ?_)
      cases fl with
      | nx => exact wp_whl I step m (n - 1) e3 s3 (by omega) q
      | ct => exact wp_whl I step m (n - 1) e3 s3 (by omega) q
      | bk => exact WP.ret q
      | rt r => exact WP.ret q
theorem wx_whl {m : Nat} {q : E} {b : List S} (h : ∃ (I : Nat → Ev → Sto → Prop) (n : Nat), n < m ∧ I n e s ∧ ∀ n e1 s1, I n e1 s1 → WP (evE O q) e1 s1 fun r e2 s2 => ∃ k, r = .val (.bl k) ∧ (k = true → 0 < n ∧ WP (execs O b) e2 s2 fun fl e3 s3 => match fl with | .nx => I (n - 1) e3 s3 | .ct => I (n - 1) e3 s3 | .bk => pf .nx e3 s3 | .rt r => pf (.rt r) e3 s3) ∧ (k = false → pf .nx e2 s2)) : WP (exec O (.whl m q b)) e s pf := by
  obtain ⟨I, n, h1, h2, h3⟩ := h
  exact wp_whl I (fun n e1 s1 hI => WP.bnd ((h3 n e1 s1 hI).mono fun r e2 s2 ⟨k, q1, q2⟩ => wp_asBl q1 q2)) m n e s h1 h2
theorem wp_change {f : Ob → Option (Ob × R)} {i : Nat} {o o' : Ob} {r : R} (h : e[i]? = some (some (.new o))) (h1 : f o = some (o', r)) (k : p r (e.set i (some (.new o'))) s) : WP (change (.s i) f) e s p := by
  refine ⟨r, _, s, ?_, k⟩
  simp only [change, h, h1]
theorem wp_changeS {f : Ob → Option (Ob × R)} {n : Nat} {o o' : Ob} {r : R} (h : s[n]? = some o) (h1 : f o = some (o', r)) (k : p r e (s.set n o')) : WP (change (.v (.ref n)) f) e s p := by
  refine ⟨r, e, _, ?_, k⟩
  simp only [change, h, h1]
theorem wx_setix {a i y : E} (h : WP (evE O y) e s fun r e1 s1 => r.flat = true ∧ WP (asA a (evE O a)) e1 s1 fun x e2 s2 => WP (evE O i) e2 s2 fun r2 e3 s3 => ∃ k, r2 = .val (.int k) ∧ WP (change x (setO k r.d)) e3 s3 fun _ e4 s4 => pf .nx e4 s4) : WP (exec O (.setix a i y)) e s pf :=
  WP.bnd (h.mono fun r e1 s1 ⟨f, h⟩ => WP.bnd (wp_frz f (WP.bnd (h.mono fun x e2 s2 h => WP.bnd (h.mono fun r2 e3 s3 ⟨k, h1, h2⟩ => WP.bnd (wp_asInt h1 (WP.bnd (h2.mono fun _ _ _ h => WP.ret h))))))))
theorem wp_needL {x : Ar} {ds : List D} {P : Unit → Ev → Sto → Prop} (h : deref x e s = .ok (.lst ds) e s) (k : P () e s) : WP (needL x) e s P := by
  refine ⟨(), e, s, ?_, k⟩
  simp only [needL, Mi.bnd, h, Out.bind, Mi.ret]
theorem wx_app {a y : E} (h : WP (asA a (evE O a)) e s fun x e1 s1 => ∃ ds, deref x e1 s1 = .ok (.lst ds) e1 s1 ∧ WP (evE O y) e1 s1 fun r e2 s2 => r.flat = true ∧ WP (change x (appO r.d)) e2 s2 fun _ e3 s3 => pf .nx e3 s3) : WP (exec O (.app a y)) e s pf :=
  WP.bnd (h.mono fun x e1 s1 ⟨ds, h1, h⟩ => WP.bnd (wp_needL h1 (WP.bnd (h.mono fun r e2 s2 ⟨f, h⟩ => WP.bnd (wp_frz f (WP.bnd (h.mono fun _ _ _ h => WP.ret h)))))))
theorem wx_ext {a y : E} (h : WP (asA a (evE O a)) e s fun x e1 s1 => ∃ ds, deref x e1 s1 = .ok (.lst ds) e1 s1 ∧ WP (asA y (evE O y)) e1 s1 fun z e2 s2 => ∃ d, deref z e2 s2 = .ok d e2 s2 ∧ WP (change x (extO d)) e2 s2 fun _ e3 s3 => pf .nx e3 s3) : WP (exec O (.ext a y)) e s pf :=
  WP.bnd (h.mono fun x e1 s1 ⟨ds, h1, h⟩ => WP.bnd (wp_needL h1 (WP.bnd (h.mono fun z e2 s2 ⟨d, h2, h⟩ => WP.bnd ⟨d, e2, s2, h2, WP.bnd (h.mono fun _ _ _ h => WP.ret h)⟩))))
theorem wv_pop {a i : E} (h : WP (asA a (evE O a)) e s fun x e1 s1 => ∃ ds, deref x e1 s1 = .ok (.lst ds) e1 s1 ∧ WP (evE O i) e1 s1 fun r e2 s2 => ∃ k, r = .val (.int k) ∧ WP (change x (popO k)) e2 s2 p) : WP (evE O (.pop a i)) e s p :=
  WP.bnd (h.mono fun x e1 s1 ⟨ds, h1, h⟩ => WP.bnd (wp_needL h1 (WP.bnd (h.mono fun r e2 s2 ⟨k, h1, h2⟩ => WP.bnd (wp_asInt h1 h2)))))
theorem wx_pass (h : pf .nx e s) : WP (exec O .pass) e s pf := ⟨_, e, s, rfl, h⟩
def RunOk (c : COut) (Q : R → Sto → Prop) : Prop := ∃ r s', c = .ok r s' ∧ Q r s'
theorem run_ok {F : Fn} {ds : List D} {Q : R → Sto → Prop} (hl : ds.length = F.np) (h : WP (execs O F.body) (ds.map (fun d => some (.val d)) ++ List.replicate (F.nl - F.np) none) s fun fl _ s' => match fl with | .rt r => Q r s' | .nx => Q (.val .non) s' | _ => False) : RunOk (F.run O ds s) Q := by
  obtain ⟨fl, e', s', h1, h2⟩ := h
  unfold RunOk Fn.run
  rw [if_pos hl, h1]
  cases fl with
  | rt r => exact ⟨r, s', rfl, h2⟩
  | nx => exact ⟨_, s', rfl, h2⟩
  | bk => exact h2.elim
  | ct => exact h2.elim
def Lv (T : Tb) (d g : Nat) (C : (List D → Sto → COut) → Prop) : Prop := ∀ k, d ≤ k → C ((orc T k).call g)
theorem Lv.of {T : Tb} {d g : Nat} {F : Fn} {C : (List D → Sto → COut) → Prop} (hF : T.fn g = some F) (h : ∀ j, d ≤ j → C (F.run (orc T j))) : Lv T (d + 1) g C := fun k hk => by
  cases k with
  | zero => omega
  | succ j =>
    have e1 : (orc T (j + 1)).call g = F.run (orc T j) := by
      funext ds s
      show (match T.fn g with
        | some F => F.run (orc T j) ds s
        | none => .bad) = _
      rw [hF]
    rw [e1]
    exact h j (by omega)
theorem Lv.at {T : Tb} {d g k : Nat} {C : (List D → Sto → COut) → Prop} (h : Lv T d g C) (hk : d ≤ k) : C ((orc T k).call g) := h k hk
theorem compL_M {γ : Type} {f : D → M (Option D)} {own : List Nat} {s1 : Sto} {l : List γ} {fd : γ → D} {h : γ → Option D} {E0 : Ev} (step : ∀ c ∈ l, WP (f (fd c)) E0 s1 fun o e2 s2 => wipeE e2 own = E0 ∧ s2 = s1 ∧ o = h c) :
    ∀ (m : List γ), (∀ c ∈ m, c ∈ l) → ∀ e1 : Ev, wipeE e1 own = E0 → WP (compL f own (m.map fd)) e1 s1 fun ds e2 s2 => wipeE e2 own = E0 ∧ s2 = s1 ∧ ds = m.filterMap h
  | [], _, e1, he => ⟨[], e1, s1, rfl, he, rfl, rfl⟩
  | c :: m, hm, e1, he => by
    obtain ⟨o, e2, s2, h1, h2, rfl, h4⟩ := step c (hm c (.head _))
    obtain ⟨ds, e3, s3, q1, q2, q3, q4⟩ := compL_M step m (fun d hd => hm d (.tail _ hd)) e2 h2
    subst q3
    have hx : noExc (f (fd c)) E0 s3 = .ok o e2 s3 := by unfold noExc; rw [h1]
    refine ⟨(c :: m).filterMap h, e3, s3, ?_, q2, rfl, rfl⟩
    rw [List.map_cons]
    unfold compL
    rw [he, hx]
    simp only [Out.bind, Mi.bnd, q1, Mi.ret, q4, List.filterMap_cons]
    subst h4
    cases h c <;> rfl
theorem wv_compM {elt : E} {tg : T} {it : I} {c : E} {own : List Nat} (h : WP (evI O it) e s fun items e1 s1 => noOwn e1 own = true ∧ items.length ≤ line ∧ ∃ (γ : Type) (l : List γ) (fd : γ → D) (g : γ → Option D), items = l.map fd ∧
    (∀ x ∈ l, WP (turnM tg (condOf c (evE O c)) (evE O elt) (fd x)) (wipeE e1 own) s1 fun o e3 s3 => wipeE e3 own = wipeE e1 own ∧ s3 = s1 ∧ o = g x) ∧ p (.new (.lst (l.filterMap g))) e1 s1) : WP (evE O (.comp elt tg it c own)) e s p := by
  refine WP.bnd (h.mono fun items e1 s1 ⟨h1, h2, γ, l, fd, g, h3, h4, h5⟩ => ?_)
  subst h3
  obtain ⟨ds, e2, s2, q1, q2, q3, q4⟩ := compL_M (own := own) h4 l (fun _ h => h) e1 rfl
  subst q3 q4
  refine ⟨_, e1, s2, ?_, h5⟩
  unfold compM
  simp only [h1, h2, decide_true, Bool.and_self, if_true]
  show ((compL (turnM tg (condOf c (evE O c)) (evE O elt)) own (l.map fd) e1 s2).bind _) = _
  rw [q1]
  simp only [Out.bind]
  rw [rest_same q2 h1]
theorem compLL_M {γ : Type} {f : D → M (List D)} {own : List Nat} {s1 : Sto} {l : List γ} {fd : γ → D} {h : γ → List D} {E0 : Ev} (step : ∀ c ∈ l, WP (f (fd c)) E0 s1 fun o e2 s2 => wipeE e2 own = E0 ∧ s2 = s1 ∧ o = h c) :
    ∀ (m : List γ), (∀ c ∈ m, c ∈ l) → ∀ e1 : Ev, wipeE e1 own = E0 → WP (compLL f own (m.map fd)) e1 s1 fun ds e2 s2 => wipeE e2 own = E0 ∧ s2 = s1 ∧ ds = m.flatMap h
  | [], _, e1, he => ⟨[], e1, s1, rfl, he, rfl, rfl⟩
  | c :: m, hm, e1, he => by
    obtain ⟨o, e2, s2, h1, h2, rfl, h4⟩ := step c (hm c (.head _))
    obtain ⟨ds, e3, s3, q1, q2, q3, q4⟩ := compLL_M step m (fun d hd => hm d (.tail _ hd)) e2 h2
    subst q3
    have hx : noExc (f (fd c)) E0 s3 = .ok o e2 s3 := by unfold noExc; rw [h1]
    refine ⟨(c :: m).flatMap h, e3, s3, ?_, q2, rfl, rfl⟩
    rw [List.map_cons]
    unfold compLL
    rw [he, hx]
    simp only [Out.bind, Mi.bnd, q1, Mi.ret, q4, List.flatMap_cons, h4]
theorem wv_comp2M {elt : E} {tg tg1 : T} {it it1 : I} {c c1 : E} {own own1 : List Nat} (h : WP (evI O it) e s fun items e1 s1 => noOwn e1 own = true ∧ ∃ (γ : Type) (l : List γ) (fd : γ → D) (g : γ → List D), items = l.map fd ∧
    (∀ x ∈ l, WP (turn2M tg (condOf c (evE O c)) (evI O it1) tg1 (condOf c1 (evE O c1)) (evE O elt) own1 (fd x)) (wipeE e1 own) s1 fun o e3 s3 => wipeE e3 own = wipeE e1 own ∧ s3 = s1 ∧ o = g x) ∧ (l.flatMap g).length ≤ line ∧ p (.new (.lst (l.flatMap g))) e1 s1) :
    WP (evE O (.comp2 elt tg it c tg1 it1 c1 own own1)) e s p := by
  refine WP.bnd (h.mono fun items e1 s1 ⟨h1, γ, l, fd, g, h3, h4, h6, h5⟩ => ?_)
  subst h3
  obtain ⟨ds, e2, s2, q1, q2, q3, q4⟩ := compLL_M (own := own) h4 l (fun _ h => h) e1 rfl
  subst q3 q4
  refine ⟨_, e1, s2, ?_, h5⟩
  unfold comp2M
  simp only [h1, if_true]
  show ((compLL (turn2M tg (condOf c (evE O c)) (evI O it1) tg1 (condOf c1 (evE O c1)) (evE O elt) own1) own (l.map fd) e1 s2).bind _) = _
  rw [q1]
  simp only [Out.bind, h6, if_true]
  rw [rest_same q2 h1]
theorem wt_two {tg tg1 : T} {mi : M (List D)} {m : M R} {mc1 : M Bool} {me : M R} {own1 : List Nat} {x : D} {P : List D → Ev → Sto → Prop} {e1 : Ev} (h : asgT tg x e s = .ok () e1 s) (h1 : WP mi e1 s fun ys e2 s2 => WP (compL (turnM tg1 mc1 me) own1 ys) e2 s2 P) : WP (turn2M tg (condOf .nop m) mi tg1 mc1 me own1 x) e s P :=
  WP.bnd (WP.of h (WP.bnd ⟨true, e1, s, rfl, WP.bnd h1⟩))
theorem filterMap_some {γ : Type} {f : γ → D} : ∀ {l : List γ}, l.filterMap (fun x => some (f x)) = l.map f
  | [] => rfl
  | a :: l => by rw [List.filterMap_cons, List.map_cons, filterMap_some]
theorem filterMap_if {γ : Type} {f : γ → D} {q : γ → Bool} : ∀ {l : List γ}, l.filterMap (fun x => if q x = true then some (f x) else none) = (l.filter q).map f
  | [] => rfl
  | a :: l => by
    rw [List.filterMap_cons, List.filter_cons, filterMap_if]
    cases q a <;> rfl
theorem zip_two {α β : Type} {f : α → D} {g : β → D} : ∀ {a : List α} {b : List β}, List.zipWith (fun x y => D.tup [x, y]) (a.map f) (b.map g) = (a.zip b).map fun q => .tup [f q.1, g q.2]
  | [], _ => by simp
  | _ :: _, [] => by simp
  | a :: as, b :: bs => by simp only [List.map_cons, List.zipWith_cons_cons, List.zip_cons_cons, zip_two]
theorem bls_map {γ : Type} {f : γ → Bool} : ∀ {l : List γ}, blsOf (l.map fun x => .bl (f x)) = some (l.map f)
  | [] => rfl
  | a :: l => by simp only [List.map_cons, blsOf, bls_map, Option.map_some]
theorem ints_map : ∀ {l : List Int}, intsOf (l.map .int) = some l
  | [] => rfl
  | a :: l => by simp only [List.map_cons, intsOf, ints_map, Option.map_some]
end
end Mi
namespace Mi
open PySem
section
variable {α β : Type} {O : Orc} {e : Ev} {s : Sto} {P : α → Ev → Sto → Prop} {p : R → Ev → Sto → Prop} {pa : Ar → Ev → Sto → Prop} {pf : Flow → Ev → Sto → Prop}
theorem bin_addI {i j : Int} : binD .Add (.int i) (.int j) = some (.val (.int (i + j))) := rfl
theorem bin_subI {i j : Int} : binD .Sub (.int i) (.int j) = some (.val (.int (i - j))) := rfl
theorem bin_mulI {i j : Int} (h : mulOk i j = true) : binD .Mult (.int i) (.int j) = some (.val (.int (i * j))) := by simp only [binD, h, if_true]
theorem bin_modI {i j : Int} (h : j ≠ 0) : binD .Mod (.int i) (.int j) = some (.val (.int (i.fmod j))) := by simp only [binD, h, ne_eq, not_false_eq_true, if_true]
theorem bin_divI {i j : Int} (h : j ≠ 0 ∧ j.natAbs < 1073741824) : binD .FloorDiv (.int i) (.int j) = some (.val (.int (i.fdiv j))) := by simp only [binD, h, ne_eq, not_false_eq_true, and_self, if_true]
theorem bin_addT {a b : List D} (h : a.length + b.length ≤ line) : binD .Add (.tup a) (.tup b) = some (.val (.tup (a ++ b))) := by simp only [binD, h, if_true]
theorem bin_addL {a b : List D} (h : a.length + b.length ≤ line) : binD .Add (.lst a) (.lst b) = some (.new (.lst (a ++ b))) := by simp only [binD, h, if_true]
theorem cmp_lt {i j : Int} : cmpD .Lt (.int i) (.int j) = some (decide (i < j)) := rfl
theorem cmp_le {i j : Int} : cmpD .LtE (.int i) (.int j) = some (decide (i ≤ j)) := rfl
theorem cmp_gt {i j : Int} : cmpD .Gt (.int i) (.int j) = some (decide (j < i)) := rfl
theorem cmp_ge {i j : Int} : cmpD .GtE (.int i) (.int j) = some (decide (j ≤ i)) := rfl
theorem int_beq {i j : Int} : (i == j) = decide (i = j) := by by_cases h : i = j <;> simp [h]
theorem cmp_eqI {i j : Int} : cmpD .Eq (.int i) (.int j) = some (decide (i = j)) := by rw [← int_beq]; rfl
theorem cmp_neI {i j : Int} : cmpD .NotEq (.int i) (.int j) = some (!decide (i = j)) := by rw [← int_beq]; rfl
theorem cmp_eqB {i j : Bool} : cmpD .Eq (.bl i) (.bl j) = some (i == j) := rfl
theorem cmp_eqS {i j : Str} : cmpD .Eq (.str i) (.str j) = some (i == j) := rfl
theorem cmp_neS {i j : Str} : cmpD .NotEq (.str i) (.str j) = some (!(i == j)) := rfl
theorem blR_s {b : Bool} : blR (some b) = some (.val (.bl b)) := rfl
theorem bi_lenT {a : List D} : biD .len [.tup a] = some (.val (.int a.length)) := rfl
theorem bi_lenL {a : List D} : biD .len [.lst a] = some (.val (.int a.length)) := rfl
theorem bi_lenS {a : List Int} : biD .len [.scr a] = some (.val (.int a.length)) := rfl
theorem bi_tupT {a : List D} : biD .tuple [.tup a] = some (.val (.tup a)) := rfl
theorem bi_tupL {a : List D} : biD .tuple [.lst a] = some (.val (.tup a)) := rfl
theorem bi_lstT {a : List D} : biD .list [.tup a] = some (.new (.lst a)) := rfl
theorem bi_lstL {a : List D} : biD .list [.lst a] = some (.new (.lst a)) := rfl
theorem bi_max {i j : Int} : biD .max [.int i, .int j] = some (.val (.int (if j > i then j else i))) := rfl
theorem bi_min {i j : Int} : biD .min [.int i, .int j] = some (.val (.int (if j < i then j else i))) := rfl
theorem bi_intB {b : Bool} : biD .int [.bl b] = some (.val (.int (if b then 1 else 0))) := rfl
theorem bi_all {l : List D} {n : List Bool} (h : blsOf l = some n) : biD .all [.lst l] = some (.val (.bl (n.all id))) := by simp only [biD, h, Option.map_some]
theorem bi_sum {l : List D} {n : List Int} (h : intsOf l = some n) : biD .sum [.lst l] = some (.val (.int n.sum)) := by simp only [biD, h, Option.map_some]
theorem neg_i {i : Int} : negD (.int i) = some (.val (.int (-i))) := rfl
theorem ix_t {a : List D} {k : Int} {d : D} (h : item a k = some d) : ixD (.tup a) (.int k) = some d := h
theorem ix_l {a : List D} {k : Int} {d : D} (h : item a k = some d) : ixD (.lst a) (.int k) = some d := h
theorem isi_int {i : Int} {t : Ty} : isiD (.int i) t = some (decide (t = .int)) := by cases t <;> rfl
theorem isi_lst {i : List D} {t : Ty} : isiD (.lst i) t = some (decide (t = .list)) := by cases t <;> rfl
theorem isi_dic {i j : List D} {t : Ty} : isiD (.dic i j) t = some (decide (t = .dict)) := by cases t <;> rfl
theorem isi_str {i : Str} {t : Ty} : isiD (.str i) t = some (decide (t = .str)) := by cases t <;> rfl
theorem isi_non {t : Ty} : isiD .non t = some false := by cases t <;> rfl
theorem isi_bl {i : Bool} {t : Ty} : isiD (.bl i) t = some (decide (t = .int ∨ t = .bool)) := by cases t <;> rfl
theorem isi_tup {i : List D} {t : Ty} : isiD (.tup i) t = some (decide (t = .tuple)) := by cases t <;> rfl
theorem WP.ext {m : M α} {e : Ev} {s : Sto} {P Q : α → Ev → Sto → Prop} (h : ∀ a e1 s1, P a e1 s1 = Q a e1 s1) : WP m e s P = WP m e s Q := by
  have : P = Q := funext fun a => funext fun e1 => funext fun s1 => h a e1 s1
  rw [this]
theorem r_bnd {m : M β} {f : β → M α} : WP (bnd m f) e s P = WP m e s fun a e' s' => WP (f a) e' s' P := propext (Iff.intro (fun h => by
  obtain ⟨b, e2, s2, h1, h2⟩ := h
  unfold bnd at h1
  cases hm : m e s with
  | ok a e1 s1 => rw [hm] at h1; exact ⟨a, e1, s1, hm, ⟨b, e2, s2, h1, h2⟩⟩
  | exc g e1 s1 => rw [hm] at h1; cases h1
  | bad => rw [hm] at h1; cases h1) WP.bnd)
theorem r_ok {m : M α} {a : α} {e' : Ev} {s' : Sto} (h : m e s = .ok a e' s') : WP m e s P = P a e' s' := propext ⟨fun ⟨b, e2, s2, h1, h2⟩ => by rw [h] at h1; cases h1; exact h2, WP.of h⟩
theorem r_no {m : M α} (h : m e s = .bad) : WP m e s P = False := propext ⟨fun ⟨b, e2, s2, h1, h2⟩ => (by rw [h] at h1; cases h1), False.elim⟩
theorem r_ret {a : α} : WP (ret a) e s P = P a e s := r_ok rfl
theorem r_lift {o : Option α} : WP (lift o) e s P = (match o with | some a => P a e s | none => False) := by
  cases o with
  | some a => exact r_ok rfl
  | none => exact r_no rfl
theorem r_liftS {a : α} : WP (lift (some a)) e s P = P a e s := r_ok rfl
theorem r_frz {r : R} {P : D → Ev → Sto → Prop} : WP (frz r) e s P = (r.flat = true ∧ P r.d e s) := by
  cases h : r.flat with
  | true => rw [r_ok (m := frz r) (a := r.d) (e' := e) (s' := s) (by simp only [frz, h, if_true, ret])]; simp
  | false => rw [r_no (m := frz r) (by simp only [frz, h]; rfl)]; simp
theorem r_asBl {P : Bool → Ev → Sto → Prop} {b : Bool} : WP (asBl (.val (.bl b))) e s P = P b e s := r_ok rfl
theorem r_asInt {P : Int → Ev → Sto → Prop} {b : Int} : WP (asInt (.val (.int b))) e s P = P b e s := r_ok rfl
def varP (x : Option (Option R)) (a : D → Prop) (b : Ob → Prop) (u : Hide (a, b) := ()) : Prop := match x with
  | some (some (.val d)) => a d
  | some (some (.new o)) => b o
  | _ => False
theorem varP_v {d : D} {a : D → Prop} {b : Ob → Prop} : varP (some (some (.val d))) a b = a d := rfl
theorem varP_n {o : Ob} {a : D → Prop} {b : Ob → Prop} : varP (some (some (.new o))) a b = b o := rfl
theorem r_var {i : Nat} : WP (evE O (.var i)) e s p = varP e[i]? (fun d => p (.val d) e s) (fun o => o.flat = true ∧ p (.val o.d) (e.set i (some (.val o.d))) s) := by
  show WP (getVar i) e s p = _
  unfold varP
  split
  · rename_i d h; exact r_ok (by unfold getVar; rw [h])
  · rename_i o h
    cases hf : o.flat with
    | true => rw [r_ok (m := getVar i) (by unfold getVar; rw [h]; simp only [hf, if_true]; rfl)]; exact propext ⟨fun z => ⟨hf, z⟩, And.right⟩
    | false => rw [r_no (m := getVar i) (by unfold getVar; rw [h]; simp only [hf]; rfl)]; exact propext ⟨False.elim, fun z => Bool.noConfusion (hf.symm.trans z.1)⟩
  · rename_i h1 h2
    refine r_no ?_
    unfold getVar
    split
    · exact (h1 _ (by assumption)).elim
    · exact (h2 _ (by assumption)).elim
    · rfl
theorem ra_var {i : Nat} {m : M R} : WP (asA (.var i) m) e s pa = varP e[i]? (fun d => pa (.v d) e s) (fun o => pa (.s i) e s) := by
  unfold varP
  split
  · rename_i d h; exact r_ok (by simp only [asA, h])
  · rename_i o h; exact r_ok (by simp only [asA, h])
  · rename_i h1 h2
    refine r_no ?_
    unfold asA
    dsimp only
    split
    · exact (h1 _ (by assumption)).elim
    · exact (h2 _ (by assumption)).elim
    · rfl
theorem ra_val {x : E} {m : M R} (hx : ∀ i, x ≠ .var i) : WP (asA x m) e s pa = WP m e s fun r e' s' => r.flat = true ∧ pa (.v r.d) e' s' := by
  have e1 : asA x m = Mi.bnd m fun r => Mi.bnd (frz r) fun d => Mi.ret (.v d) := by
    cases x <;> first | rfl | exact absurd rfl (hx _)
  rw [e1]
  repeat (first | rfl | refine WP.ext fun _ _ _ => ?_ | refine congrArg (And _) ?_ | rw [r_bnd] | rw [r_frz] | rw [r_ret])
theorem ra_nop  {m : M R} : WP (asA (.nop ) m) e s pa = WP m e s fun r e' s' => r.flat = true ∧ pa (.v r.d) e' s' := ra_val (fun _ => E.noConfusion)
theorem ra_cst {d : D} {m : M R} : WP (asA (.cst d) m) e s pa = WP m e s fun r e' s' => r.flat = true ∧ pa (.v r.d) e' s' := ra_val (fun _ => E.noConfusion)
theorem ra_glob {g : Nat} {m : M R} : WP (asA (.glob g) m) e s pa = WP m e s fun r e' s' => r.flat = true ∧ pa (.v r.d) e' s' := ra_val (fun _ => E.noConfusion)
theorem ra_tup {es : List E} {m : M R} : WP (asA (.tup es) m) e s pa = WP m e s fun r e' s' => r.flat = true ∧ pa (.v r.d) e' s' := ra_val (fun _ => E.noConfusion)
theorem ra_lst {es : List E} {m : M R} : WP (asA (.lst es) m) e s pa = WP m e s fun r e' s' => r.flat = true ∧ pa (.v r.d) e' s' := ra_val (fun _ => E.noConfusion)
theorem ra_dic {kvs : List E} {m : M R} : WP (asA (.dic kvs) m) e s pa = WP m e s fun r e' s' => r.flat = true ∧ pa (.v r.d) e' s' := ra_val (fun _ => E.noConfusion)
theorem ra_bin {op : Operator} {a : E} {b : E} {m : M R} : WP (asA (.bin op a b) m) e s pa = WP m e s fun r e' s' => r.flat = true ∧ pa (.v r.d) e' s' := ra_val (fun _ => E.noConfusion)
theorem ra_neg {a : E} {m : M R} : WP (asA (.neg a) m) e s pa = WP m e s fun r e' s' => r.flat = true ∧ pa (.v r.d) e' s' := ra_val (fun _ => E.noConfusion)
theorem ra_not {a : E} {m : M R} : WP (asA (.not a) m) e s pa = WP m e s fun r e' s' => r.flat = true ∧ pa (.v r.d) e' s' := ra_val (fun _ => E.noConfusion)
theorem ra_and {a : E} {b : E} {m : M R} : WP (asA (.and a b) m) e s pa = WP m e s fun r e' s' => r.flat = true ∧ pa (.v r.d) e' s' := ra_val (fun _ => E.noConfusion)
theorem ra_or {a : E} {b : E} {m : M R} : WP (asA (.or a b) m) e s pa = WP m e s fun r e' s' => r.flat = true ∧ pa (.v r.d) e' s' := ra_val (fun _ => E.noConfusion)
theorem ra_ife {c : E} {a : E} {b : E} {m : M R} : WP (asA (.ife c a b) m) e s pa = WP m e s fun r e' s' => r.flat = true ∧ pa (.v r.d) e' s' := ra_val (fun _ => E.noConfusion)
theorem ra_cmp {op : CmpOp} {a : E} {b : E} {m : M R} : WP (asA (.cmp op a b) m) e s pa = WP m e s fun r e' s' => r.flat = true ∧ pa (.v r.d) e' s' := ra_val (fun _ => E.noConfusion)
theorem ra_chain {o1 : CmpOp} {o2 : CmpOp} {a : E} {b : E} {c : E} {m : M R} : WP (asA (.chain o1 o2 a b c) m) e s pa = WP m e s fun r e' s' => r.flat = true ∧ pa (.v r.d) e' s' := ra_val (fun _ => E.noConfusion)
theorem ra_ix {a : E} {b : E} {m : M R} : WP (asA (.ix a b) m) e s pa = WP m e s fun r e' s' => r.flat = true ∧ pa (.v r.d) e' s' := ra_val (fun _ => E.noConfusion)
theorem ra_sl {a : E} {lo : E} {hi : E} {m : M R} : WP (asA (.sl a lo hi) m) e s pa = WP m e s fun r e' s' => r.flat = true ∧ pa (.v r.d) e' s' := ra_val (fun _ => E.noConfusion)
theorem ra_me {k : Me} {o a : E} {m : M R} : WP (asA (.me k o a) m) e s pa = WP m e s fun r e' s' => r.flat = true ∧ pa (.v r.d) e' s' := ra_val (fun _ => E.noConfusion)
theorem ra_lrange {a : E} {m : M R} : WP (asA (.lrange a) m) e s pa = WP m e s fun r e' s' => r.flat = true ∧ pa (.v r.d) e' s' := ra_val (fun _ => E.noConfusion)
theorem ra_rev {a : E} {m : M R} : WP (asA (.rev a) m) e s pa = WP m e s fun r e' s' => r.flat = true ∧ pa (.v r.d) e' s' := ra_val (fun _ => E.noConfusion)
theorem ra_get2 {a b c : E} {m : M R} : WP (asA (.get2 a b c) m) e s pa = WP m e s fun r e' s' => r.flat = true ∧ pa (.v r.d) e' s' := ra_val (fun _ => E.noConfusion)
theorem ra_isi {a : E} {t : Ty} {m : M R} : WP (asA (.isi a t) m) e s pa = WP m e s fun r e' s' => r.flat = true ∧ pa (.v r.d) e' s' := ra_val (fun _ => E.noConfusion)
theorem ra_bi {b : Bi} {es : List E} {m : M R} : WP (asA (.bi b es) m) e s pa = WP m e s fun r e' s' => r.flat = true ∧ pa (.v r.d) e' s' := ra_val (fun _ => E.noConfusion)
theorem ra_call {g : Nat} {es : List E} {m : M R} : WP (asA (.call g es) m) e s pa = WP m e s fun r e' s' => r.flat = true ∧ pa (.v r.d) e' s' := ra_val (fun _ => E.noConfusion)
theorem ra_calle {f : E} {es : List E} {m : M R} : WP (asA (.calle f es) m) e s pa = WP m e s fun r e' s' => r.flat = true ∧ pa (.v r.d) e' s' := ra_val (fun _ => E.noConfusion)
theorem ra_pop {a : E} {i : E} {m : M R} : WP (asA (.pop a i) m) e s pa = WP m e s fun r e' s' => r.flat = true ∧ pa (.v r.d) e' s' := ra_val (fun _ => E.noConfusion)
theorem ra_alloc {a : E} {m : M R} : WP (asA (.alloc a) m) e s pa = WP m e s fun r e' s' => r.flat = true ∧ pa (.v r.d) e' s' := ra_val (fun _ => E.noConfusion)
theorem ra_comp {a : E} {tg : T} {it : I} {c : E} {own : List Nat} {m : M R} : WP (asA (.comp a tg it c own) m) e s pa = WP m e s fun r e' s' => r.flat = true ∧ pa (.v r.d) e' s' := ra_val (fun _ => E.noConfusion)
theorem ra_comp2 {a : E} {tg : T} {it : I} {c : E} {tg1 : T} {it1 : I} {c1 : E} {own : List Nat} {own1 : List Nat} {m : M R} : WP (asA (.comp2 a tg it c tg1 it1 c1 own own1) m) e s pa = WP m e s fun r e' s' => r.flat = true ∧ pa (.v r.d) e' s' := ra_val (fun _ => E.noConfusion)
theorem r_cst {d : D} : WP (evE O (.cst d)) e s p = p (.val d) e s := r_ok rfl
theorem r_glob {g : Nat} : WP (evE O (.glob g)) e s p = (match O.gl g with | some d => p (.val d) e s | none => False) := by
  show WP (Mi.lift ((O.gl g).map .val)) e s p = _
  rw [r_lift]
  cases O.gl g <;> rfl
theorem re_nil {P : List D → Ev → Sto → Prop} : WP (evVs O []) e s P = P [] e s := r_ok rfl
theorem re_cons {x : E} {xs : List E} {P : List D → Ev → Sto → Prop} : WP (evVs O (x :: xs)) e s P = WP (evE O x) e s fun r e1 s1 => r.flat = true ∧ WP (evVs O xs) e1 s1 fun ds e2 s2 => P (r.d :: ds) e2 s2 := by
  show WP (bnd _ _) e s P = _
  repeat (first | rfl | refine WP.ext fun _ _ _ => ?_ | refine congrArg (And _) ?_ | rw [r_bnd] | rw [r_frz] | rw [r_ret])
theorem rsa_nil {P : List Ar → Ev → Sto → Prop} : WP (evAs O []) e s P = P [] e s := r_ok rfl
theorem rsa_cons {x : E} {xs : List E} {P : List Ar → Ev → Sto → Prop} : WP (evAs O (x :: xs)) e s P = WP (asA x (evE O x)) e s fun r e1 s1 => WP (evAs O xs) e1 s1 fun ds e2 s2 => P (r :: ds) e2 s2 := by
  show WP (bnd _ _) e s P = _
  repeat (first | rfl | refine WP.ext fun _ _ _ => ?_ | refine congrArg (And _) ?_ | rw [r_bnd] | rw [r_frz] | rw [r_ret])
theorem r_tup {es : List E} : WP (evE O (.tup es)) e s p = WP (evVs O es) e s fun ds e1 s1 => ds.length ≤ line ∧ p (.val (.tup ds)) e1 s1 := by
  show WP (bnd _ _) e s p = _
  rw [r_bnd]
  refine WP.ext fun ds e1 s1 => ?_
  by_cases h : ds.length ≤ line
  · simp only [h, if_true, r_ret, true_and]
  · simp only [h, if_false, false_and]
    exact r_no rfl
theorem r_lst {es : List E} : WP (evE O (.lst es)) e s p = WP (evVs O es) e s fun ds e1 s1 => ds.length ≤ line ∧ p (.new (.lst ds)) e1 s1 := by
  show WP (bnd _ _) e s p = _
  rw [r_bnd]
  refine WP.ext fun ds e1 s1 => ?_
  by_cases h : ds.length ≤ line
  · simp only [h, if_true, r_ret, true_and]
  · simp only [h, if_false, false_and]
    exact r_no rfl
theorem r_bin {op : Operator} {a b : E} : WP (evE O (.bin op a b)) e s p = WP (asA a (evE O a)) e s fun x e1 s1 => WP (asA b (evE O b)) e1 s1 fun y e2 s2 => WP (prim2 (binD op) x y) e2 s2 p := by
  show WP (bnd _ _) e s p = _
  repeat (first | rfl | refine WP.ext fun _ _ _ => ?_ | refine congrArg (And _) ?_ | rw [r_bnd] | rw [r_frz] | rw [r_ret])
theorem r_cmp {op : CmpOp} {a b : E} : WP (evE O (.cmp op a b)) e s p = WP (asA a (evE O a)) e s fun x e1 s1 => WP (asA b (evE O b)) e1 s1 fun y e2 s2 => WP (prim2 (fun x y => blR (cmpD op x y)) x y) e2 s2 p := by
  show WP (bnd _ _) e s p = _
  repeat (first | rfl | refine WP.ext fun _ _ _ => ?_ | refine congrArg (And _) ?_ | rw [r_bnd] | rw [r_frz] | rw [r_ret])
theorem r_ix {a b : E} : WP (evE O (.ix a b)) e s p = WP (asA a (evE O a)) e s fun x e1 s1 => WP (asA b (evE O b)) e1 s1 fun y e2 s2 => WP (prim2 (fun x y => (ixD x y).map .val) x y) e2 s2 p := by
  show WP (bnd _ _) e s p = _
  repeat (first | rfl | refine WP.ext fun _ _ _ => ?_ | refine congrArg (And _) ?_ | rw [r_bnd] | rw [r_frz] | rw [r_ret])
theorem r_neg {a : E} : WP (evE O (.neg a)) e s p = WP (asA a (evE O a)) e s fun x e1 s1 => WP (prim1 negD x) e1 s1 p := by
  show WP (bnd _ _) e s p = _
  repeat (first | rfl | refine WP.ext fun _ _ _ => ?_ | refine congrArg (And _) ?_ | rw [r_bnd] | rw [r_frz] | rw [r_ret])
theorem r_isi {a : E} {t : Ty} : WP (evE O (.isi a t)) e s p = WP (asA a (evE O a)) e s fun x e1 s1 => WP (prim1 (fun x => blR (isiD x t)) x) e1 s1 p := by
  show WP (bnd _ _) e s p = _
  repeat (first | rfl | refine WP.ext fun _ _ _ => ?_ | refine congrArg (And _) ?_ | rw [r_bnd] | rw [r_frz] | rw [r_ret])
theorem r_bi {b : Bi} {es : List E} : WP (evE O (.bi b es)) e s p = WP (evAs O es) e s fun xs e1 s1 => WP (primN (biD b) xs) e1 s1 p := by
  show WP (bnd _ _) e s p = _
  repeat (first | rfl | refine WP.ext fun _ _ _ => ?_ | refine congrArg (And _) ?_ | rw [r_bnd] | rw [r_frz] | rw [r_ret])
theorem r_not {a : E} : WP (evE O (.not a)) e s p = WP (evE O a) e s fun r e1 s1 => WP (asBl r) e1 s1 fun k e2 s2 => p (.val (.bl (!k))) e2 s2 := by
  show WP (bnd _ _) e s p = _
  repeat (first | rfl | refine WP.ext fun _ _ _ => ?_ | refine congrArg (And _) ?_ | rw [r_bnd] | rw [r_frz] | rw [r_ret])
theorem r_and {a b : E} : WP (evE O (.and a b)) e s p = WP (evE O a) e s fun r e1 s1 => WP (asBl r) e1 s1 fun k e2 s2 => if k = true then WP (evE O b) e2 s2 p else p (.val (.bl false)) e2 s2 := by
  show WP (bnd _ _) e s p = _
  rw [r_bnd]
  refine WP.ext fun r e1 s1 => ?_
  try rw [r_bnd]
  refine WP.ext fun k e2 s2 => ?_
  cases k <;> simp [r_ret]
theorem r_or {a b : E} : WP (evE O (.or a b)) e s p = WP (evE O a) e s fun r e1 s1 => WP (asBl r) e1 s1 fun k e2 s2 => if k = true then p (.val (.bl true)) e2 s2 else WP (evE O b) e2 s2 p := by
  show WP (bnd _ _) e s p = _
  rw [r_bnd]
  refine WP.ext fun r e1 s1 => ?_
  try rw [r_bnd]
  refine WP.ext fun k e2 s2 => ?_
  cases k <;> simp [r_ret]
theorem r_ife {c a b : E} : WP (evE O (.ife c a b)) e s p = WP (evE O c) e s fun r e1 s1 => WP (asBl r) e1 s1 fun k e2 s2 => if k = true then WP (evE O a) e2 s2 p else WP (evE O b) e2 s2 p := by
  show WP (bnd _ _) e s p = _
  rw [r_bnd]
  refine WP.ext fun r e1 s1 => ?_
  try rw [r_bnd]
  refine WP.ext fun k e2 s2 => ?_
  cases k <;> simp [r_ret]
theorem r_chain {o1 o2 : CmpOp} {a b c : E} : WP (evE O (.chain o1 o2 a b c)) e s p = WP (asA a (evE O a)) e s fun x e1 s1 => WP (asA b (evE O b)) e1 s1 fun y e2 s2 => WP (prim2 (fun x y => blR (cmpD o1 x y)) x y) e2 s2 fun r e3 s3 => WP (asBl r) e3 s3 fun k e4 s4 => if k = true then WP (asA c (evE O c)) e4 s4 (fun z e5 s5 => WP (prim2 (fun x y => blR (cmpD o2 x y)) y z) e5 s5 p) else p (.val (.bl false)) e4 s4 := by
  show WP (bnd _ _) e s p = _
  rw [r_bnd]
  refine WP.ext fun x e1 s1 => ?_
  try rw [r_bnd]
  refine WP.ext fun y e2 s2 => ?_
  try rw [r_bnd]
  refine WP.ext fun r e3 s3 => ?_
  try rw [r_bnd]
  refine WP.ext fun k e4 s4 => ?_
  cases k <;> simp [r_ret, r_bnd]
theorem r_none {m : M R} {P : Option Int → Ev → Sto → Prop} : WP (partOf .nop m) e s P = P none e s := r_ok rfl
theorem rp_cst {d : D} {m : M R} {P : Option Int → Ev → Sto → Prop} : WP (partOf (.cst d) m) e s P = WP m e s fun r e1 s1 => WP (asInt r) e1 s1 fun k e2 s2 => P (some k) e2 s2 := by
  show WP (bnd _ _) e s P = _
  repeat (first | rfl | refine WP.ext fun _ _ _ => ?_ | refine congrArg (And _) ?_ | rw [r_bnd] | rw [r_frz] | rw [r_ret])
theorem rp_glob {g : Nat} {m : M R} {P : Option Int → Ev → Sto → Prop} : WP (partOf (.glob g) m) e s P = WP m e s fun r e1 s1 => WP (asInt r) e1 s1 fun k e2 s2 => P (some k) e2 s2 := by
  show WP (bnd _ _) e s P = _
  repeat (first | rfl | refine WP.ext fun _ _ _ => ?_ | refine congrArg (And _) ?_ | rw [r_bnd] | rw [r_frz] | rw [r_ret])
theorem rp_bin {op : Operator} {a : E} {b : E} {m : M R} {P : Option Int → Ev → Sto → Prop} : WP (partOf (.bin op a b) m) e s P = WP m e s fun r e1 s1 => WP (asInt r) e1 s1 fun k e2 s2 => P (some k) e2 s2 := by
  show WP (bnd _ _) e s P = _
  repeat (first | rfl | refine WP.ext fun _ _ _ => ?_ | refine congrArg (And _) ?_ | rw [r_bnd] | rw [r_frz] | rw [r_ret])
theorem rp_neg {a : E} {m : M R} {P : Option Int → Ev → Sto → Prop} : WP (partOf (.neg a) m) e s P = WP m e s fun r e1 s1 => WP (asInt r) e1 s1 fun k e2 s2 => P (some k) e2 s2 := by
  show WP (bnd _ _) e s P = _
  repeat (first | rfl | refine WP.ext fun _ _ _ => ?_ | refine congrArg (And _) ?_ | rw [r_bnd] | rw [r_frz] | rw [r_ret])
theorem rp_ife {c : E} {a : E} {b : E} {m : M R} {P : Option Int → Ev → Sto → Prop} : WP (partOf (.ife c a b) m) e s P = WP m e s fun r e1 s1 => WP (asInt r) e1 s1 fun k e2 s2 => P (some k) e2 s2 := by
  show WP (bnd _ _) e s P = _
  repeat (first | rfl | refine WP.ext fun _ _ _ => ?_ | refine congrArg (And _) ?_ | rw [r_bnd] | rw [r_frz] | rw [r_ret])
theorem rp_ix {a : E} {b : E} {m : M R} {P : Option Int → Ev → Sto → Prop} : WP (partOf (.ix a b) m) e s P = WP m e s fun r e1 s1 => WP (asInt r) e1 s1 fun k e2 s2 => P (some k) e2 s2 := by
  show WP (bnd _ _) e s P = _
  repeat (first | rfl | refine WP.ext fun _ _ _ => ?_ | refine congrArg (And _) ?_ | rw [r_bnd] | rw [r_frz] | rw [r_ret])
theorem rp_bi {b : Bi} {es : List E} {m : M R} {P : Option Int → Ev → Sto → Prop} : WP (partOf (.bi b es) m) e s P = WP m e s fun r e1 s1 => WP (asInt r) e1 s1 fun k e2 s2 => P (some k) e2 s2 := by
  show WP (bnd _ _) e s P = _
  repeat (first | rfl | refine WP.ext fun _ _ _ => ?_ | refine congrArg (And _) ?_ | rw [r_bnd] | rw [r_frz] | rw [r_ret])
theorem rp_call {g : Nat} {es : List E} {m : M R} {P : Option Int → Ev → Sto → Prop} : WP (partOf (.call g es) m) e s P = WP m e s fun r e1 s1 => WP (asInt r) e1 s1 fun k e2 s2 => P (some k) e2 s2 := by
  show WP (bnd _ _) e s P = _
  repeat (first | rfl | refine WP.ext fun _ _ _ => ?_ | refine congrArg (And _) ?_ | rw [r_bnd] | rw [r_frz] | rw [r_ret])
theorem rp_var {i : Nat} {m : M R} {P : Option Int → Ev → Sto → Prop} : WP (partOf (.var i) m) e s P = WP m e s fun r e1 s1 => WP (asInt r) e1 s1 fun k e2 s2 => P (some k) e2 s2 := by
  show WP (bnd _ _) e s P = _
  repeat (first | rfl | refine WP.ext fun _ _ _ => ?_ | refine congrArg (And _) ?_ | rw [r_bnd] | rw [r_frz] | rw [r_ret])
theorem r_sl {a lo hi : E} : WP (evE O (.sl a lo hi)) e s p = WP (asA a (evE O a)) e s fun x e1 s1 => WP (partOf lo (evE O lo)) e1 s1 fun l e2 s2 => WP (partOf hi (evE O hi)) e2 s2 fun h e3 s3 => WP (prim1 (fun x => slD x l h) x) e3 s3 p := by
  show WP (bnd _ _) e s p = _
  repeat (first | rfl | refine WP.ext fun _ _ _ => ?_ | refine congrArg (And _) ?_ | rw [r_bnd] | rw [r_frz] | rw [r_ret])
theorem r_call {g : Nat} {es : List E} : WP (evE O (.call g es)) e s p = WP (evVs O es) e s fun ds e1 s1 => WP (callM O g ds) e1 s1 p := by
  show WP (bnd _ _) e s p = _
  repeat (first | rfl | refine WP.ext fun _ _ _ => ?_ | refine congrArg (And _) ?_ | rw [r_bnd] | rw [r_frz] | rw [r_ret])
theorem r_callM {g : Nat} {ds : List D} {r : R} {s' : Sto} (h : O.call g ds s = .ok r s') : WP (callM O g ds) e s p = p r e s' := r_ok (by unfold callM; rw [h]; rfl)
theorem r_alloc {a : E} : WP (evE O (.alloc a)) e s p = WP (evE O a) e s fun r e1 s1 => WP (allocM r) e1 s1 p := by
  show WP (bnd _ _) e s p = _
  rw [r_bnd]
theorem r_allocM {o : Ob} : WP (allocM (.new o)) e s p = p (.val (.ref s.length)) e (s ++ [o]) := r_ok rfl
theorem r_prim1 {f : D → Option R} {x : Ar} : WP (prim1 f x) e s p = WP (deref x) e s fun d e1 s1 => WP (lift (f d)) e1 s1 p := r_bnd
theorem r_prim2 {f : D → D → Option R} {x y : Ar} : WP (prim2 f x y) e s p = WP (deref x) e s fun d e1 s1 => WP (deref y) e1 s1 fun d' e2 s2 => WP (lift (f d d')) e2 s2 p := by
  show WP (bnd _ _) e s p = _
  repeat (first | rfl | refine WP.ext fun _ _ _ => ?_ | refine congrArg (And _) ?_ | rw [r_bnd] | rw [r_frz] | rw [r_ret])
theorem r_primN {f : List D → Option R} {xs : List Ar} : WP (primN f xs) e s p = WP (derefs xs) e s fun ds e1 s1 => WP (lift (f ds)) e1 s1 p := r_bnd
theorem rd_nil {P : List D → Ev → Sto → Prop} : WP (derefs []) e s P = P [] e s := r_ok rfl
theorem rd_cons {x : Ar} {xs : List Ar} {P : List D → Ev → Sto → Prop} : WP (derefs (x :: xs)) e s P = WP (deref x) e s fun d e1 s1 => WP (derefs xs) e1 s1 fun ds e2 s2 => P (d :: ds) e2 s2 := by
  show WP (bnd _ _) e s P = _
  repeat (first | rfl | refine WP.ext fun _ _ _ => ?_ | refine congrArg (And _) ?_ | rw [r_bnd] | rw [r_frz] | rw [r_ret])
section
variable {P : D → Ev → Sto → Prop}
theorem rd_int {i : Int} : WP (deref (.v (.int i))) e s P = P (.int i) e s := r_ok rfl
theorem rd_bl {i : Bool} : WP (deref (.v (.bl i))) e s P = P (.bl i) e s := r_ok rfl
theorem rd_str {i : Str} : WP (deref (.v (.str i))) e s P = P (.str i) e s := r_ok rfl
theorem rd_non : WP (deref (.v .non)) e s P = P .non e s := r_ok rfl
theorem rd_tup {i : List D} : WP (deref (.v (.tup i))) e s P = P (.tup i) e s := r_ok rfl
theorem rd_lst {i : List D} : WP (deref (.v (.lst i))) e s P = P (.lst i) e s := r_ok rfl
theorem rd_dic {i j : List D} : WP (deref (.v (.dic i j))) e s P = P (.dic i j) e s := r_ok rfl
theorem rd_cls {i : Nat} : WP (deref (.v (.cls i))) e s P = P (.cls i) e s := r_ok rfl
theorem rd_scr {i : List Int} : WP (deref (.v (.scr i))) e s P = P (.scr i) e s := r_ok rfl
theorem rd_fn {i : Nat} : WP (deref (.v (.fn i))) e s P = P (.fn i) e s := r_ok rfl
theorem rd_ref {n : Nat} {o : Ob} (h : s[n]? = some o) (f : o.flat = true) : WP (deref (.v (.ref n))) e s P = P o.d e s := r_ok (by simp only [deref, h, f, if_true])
def refP (x : Option Ob) (k : Ob → Prop) (u : Hide k := ()) : Prop := match x with
  | some o => k o
  | none => False
theorem refP_s {o : Ob} {k : Ob → Prop} : refP (some o) k = k o := rfl
theorem rd_r {n : Nat} : WP (deref (.v (.ref n))) e s P = refP s[n]? fun o => P (if o.flat then o.d else .ref n) e s := by
  cases h : s[n]? with
  | none => exact r_no (by simp only [deref, h])
  | some o => exact r_ok (by simp only [deref, h])
theorem rd_s {i : Nat} : WP (deref (.s i)) e s P = varP e[i]? (fun d => P d e s) (fun o => o.flat = true ∧ P o.d e s) := by
  unfold varP
  split
  · rename_i d h; exact r_ok (by simp only [deref, h]; rfl)
  · rename_i o h
    cases hf : o.flat with
    | true => rw [r_ok (m := deref (.s i)) (a := o.d) (e' := e) (s' := s) (by simp only [deref, h, R.flat, R.d, hf, if_true])]; exact propext ⟨fun z => ⟨hf, z⟩, And.right⟩
    | false => rw [r_no (m := deref (.s i)) (by simp only [deref, h, R.flat, hf]; rfl)]; exact propext ⟨False.elim, fun z => Bool.noConfusion (hf.symm.trans z.1)⟩
  · rename_i h1 h2
    refine r_no ?_
    simp only [deref]
    split
    · rename_i r h
      cases r with
      | val d => exact (h1 _ h).elim
      | new o => exact (h2 _ h).elim
    · rfl
end
def seqM (d : D) : M (List D) := match d with
  | .tup ds => ret ds
  | .lst ds => ret ds
  | _ => badM
theorem rq_tup {ds : List D} {P : List D → Ev → Sto → Prop} : WP (seqM (.tup ds)) e s P = P ds e s := r_ok rfl
theorem rq_lst {ds : List D} {P : List D → Ev → Sto → Prop} : WP (seqM (.lst ds)) e s P = P ds e s := r_ok rfl
theorem ri_seq {x : E} {P : List D → Ev → Sto → Prop} : WP (evI O (.seq x)) e s P = WP (evE O x) e s fun r e1 s1 => r.flat = true ∧ WP (seqM r.d) e1 s1 P := by
  show WP (bnd _ _) e s P = _
  repeat (first | rfl | refine WP.ext fun _ _ _ => ?_ | refine congrArg (And _) ?_ | rw [r_bnd] | rw [r_frz] | rw [r_ret])
theorem ri_range {x : E} {P : List D → Ev → Sto → Prop} : WP (evI O (.range x)) e s P = WP (evE O x) e s fun r e1 s1 => WP (asInt r) e1 s1 fun k e2 s2 => k.natAbs < 4611686018427387904 ∧ P ((List.range k.toNat).map fun (i : Nat) => .int i) e2 s2 := by
  show WP (bnd _ _) e s P = _
  rw [r_bnd]
  refine WP.ext fun r e1 s1 => ?_
  try rw [r_bnd]
  refine WP.ext fun k e2 s2 => ?_
  by_cases h : k.natAbs < 4611686018427387904
  · simp only [h, if_true, r_ret, true_and]
  · simp only [h, if_false, false_and]
    exact r_no rfl
theorem ri_range2 {x y : E} {P : List D → Ev → Sto → Prop} : WP (evI O (.range2 x y)) e s P = WP (evE O x) e s fun r e1 s1 => WP (asInt r) e1 s1 fun k e2 s2 => WP (evE O y) e2 s2 fun r e3 s3 => WP (asInt r) e3 s3 fun m e4 s4 => (k.natAbs < 4611686018427387904 ∧ m.natAbs < 4611686018427387904) ∧ P ((List.range (m - k).toNat).map fun (i : Nat) => .int (k + i)) e4 s4 := by
  show WP (bnd _ _) e s P = _
  rw [r_bnd]
  refine WP.ext fun r e1 s1 => ?_
  try rw [r_bnd]
  refine WP.ext fun k e2 s2 => ?_
  try rw [r_bnd]
  refine WP.ext fun r e3 s3 => ?_
  try rw [r_bnd]
  refine WP.ext fun m e4 s4 => ?_
  by_cases h : k.natAbs < 4611686018427387904 ∧ m.natAbs < 4611686018427387904
  · simp only [h, and_self, if_true, r_ret, true_and]
  · simp only [h, if_false, false_and]
    exact r_no rfl
def zipM (x y : D) : M (List D) := match seqD x, seqD y with
  | some xs, some ys => ret (List.zipWith (fun x y => .tup [x, y]) xs ys)
  | _, _ => badM
def zip3M (x y z : D) : M (List D) := match seqD x, seqD y, seqD z with
  | some xs, some ys, some zs => ret (zipL3 xs ys zs)
  | _, _, _ => badM
theorem rz_tup {xs ys : List D} {P : List D → Ev → Sto → Prop} : WP (zipM (.tup xs) (.tup ys)) e s P = P (List.zipWith (fun x y => .tup [x, y]) xs ys) e s := r_ok rfl
theorem rz_lst {xs ys : List D} {P : List D → Ev → Sto → Prop} : WP (zipM (.lst xs) (.lst ys)) e s P = P (List.zipWith (fun x y => .tup [x, y]) xs ys) e s := r_ok rfl
theorem rz_tl {xs ys : List D} {P : List D → Ev → Sto → Prop} : WP (zipM (.tup xs) (.lst ys)) e s P = P (List.zipWith (fun x y => .tup [x, y]) xs ys) e s := r_ok rfl
theorem rz_lt {xs ys : List D} {P : List D → Ev → Sto → Prop} : WP (zipM (.lst xs) (.tup ys)) e s P = P (List.zipWith (fun x y => .tup [x, y]) xs ys) e s := r_ok rfl
theorem rz_ttt {xs ys zs : List D} {P : List D → Ev → Sto → Prop} : WP (zip3M (.tup xs) (.tup ys) (.tup zs)) e s P = P (zipL3 xs ys zs) e s := r_ok rfl
theorem rz_ttl {xs ys zs : List D} {P : List D → Ev → Sto → Prop} : WP (zip3M (.tup xs) (.tup ys) (.lst zs)) e s P = P (zipL3 xs ys zs) e s := r_ok rfl
theorem rz_lll {xs ys zs : List D} {P : List D → Ev → Sto → Prop} : WP (zip3M (.lst xs) (.lst ys) (.lst zs)) e s P = P (zipL3 xs ys zs) e s := r_ok rfl
theorem ri_zip3 {x y z : E} {P : List D → Ev → Sto → Prop} : WP (evI O (.zip3 x y z)) e s P = WP (evE O x) e s fun r e1 s1 => r.flat = true ∧ WP (evE O y) e1 s1 fun r2 e2 s2 => r2.flat = true ∧ WP (evE O z) e2 s2 fun r3 e3 s3 => r3.flat = true ∧ WP (zip3M r.d r2.d r3.d) e3 s3 P := by
  show WP (bnd _ _) e s P = _
  repeat (first | rfl | refine WP.ext fun _ _ _ => ?_ | refine congrArg (And _) ?_ | rw [r_bnd] | rw [r_frz] | rw [r_ret])
theorem ri_zip {x y : E} {P : List D → Ev → Sto → Prop} : WP (evI O (.zip x y)) e s P = WP (evE O x) e s fun r e1 s1 => r.flat = true ∧ WP (evE O y) e1 s1 fun r2 e2 s2 => r2.flat = true ∧ WP (zipM r.d r2.d) e2 s2 P := by
  show WP (bnd _ _) e s P = _
  repeat (first | rfl | refine WP.ext fun _ _ _ => ?_ | refine congrArg (And _) ?_ | rw [r_bnd] | rw [r_frz] | rw [r_ret])
theorem r_dic {kvs : List E} : WP (evE O (.dic kvs)) e s p = WP (evVs O kvs) e s fun ds e1 s1 => WP (lift (dicD ds)) e1 s1 p := by
  show WP (bnd _ _) e s p = _
  repeat (first | rfl | refine WP.ext fun _ _ _ => ?_ | refine congrArg (And _) ?_ | rw [r_bnd] | rw [r_frz] | rw [r_ret])
theorem r_needM {m : Me} {x : Ar} {P : Unit → Ev → Sto → Prop} : WP (needM m x) e s P = WP (deref x) e s fun d e1 s1 => meR m d = true ∧ P () e1 s1 := by
  show WP (bnd _ _) e s P = _
  rw [r_bnd]
  refine WP.ext fun d e1 s1 => ?_
  by_cases h : meR m d = true
  · rw [if_pos h, r_ret]; simp [h]
  · rw [if_neg h]
    have : (meR m d = true ∧ P () e1 s1) = False := by simp [h]
    rw [this]
    exact r_no rfl
theorem r_me {m : Me} {o a : E} : WP (evE O (.me m o a)) e s p = WP (asA o (evE O o)) e s fun x e1 s1 => WP (needM m x) e1 s1 fun _ e2 s2 => WP (asA a (evE O a)) e2 s2 fun y e3 s3 => WP (prim2 (meD m) x y) e3 s3 p := by
  show WP (bnd _ _) e s p = _
  repeat (first | rfl | refine WP.ext fun _ _ _ => ?_ | refine congrArg (And _) ?_ | rw [r_bnd] | rw [r_frz] | rw [r_ret])
theorem r_needT {kvs : List (List Int × Str)} {P : Unit → Ev → Sto → Prop} : WP (needT (.tab kvs)) e s P = P () e s := r_ok rfl
theorem r_get2 {a b c : E} : WP (evE O (.get2 a b c)) e s p = WP (evE O a) e s fun r e1 s1 => r.flat = true ∧ WP (needT r.d) e1 s1 fun _ e1 s1 => WP (evE O b) e1 s1 fun r2 e2 s2 => r2.flat = true ∧ WP (evE O c) e2 s2 fun r3 e3 s3 => r3.flat = true ∧ WP (lift (get2D r.d r2.d r3.d)) e3 s3 p := by
  show WP (bnd _ _) e s p = _
  repeat (first | rfl | refine WP.ext fun _ _ _ => ?_ | refine congrArg (And _) ?_ | rw [r_bnd] | rw [r_frz] | rw [r_ret])
theorem r_lrange {a : E} : WP (evE O (.lrange a)) e s p = WP (evE O a) e s fun r e1 s1 => WP (asInt r) e1 s1 fun k e2 s2 => k.natAbs ≤ line ∧ p (.new (.lst ((List.range k.toNat).map fun (i : Nat) => .int i))) e2 s2 := by
  show WP (bnd _ _) e s p = _
  rw [r_bnd]
  refine WP.ext fun r e1 s1 => ?_
  try rw [r_bnd]
  refine WP.ext fun k e2 s2 => ?_
  by_cases h : k.natAbs ≤ line
  · simp only [h, if_true, r_ret, true_and]
  · simp only [h, if_false, false_and]
    exact r_no rfl
theorem me_cl {l : List D} : meR .count (.lst l) = true := rfl
theorem me_js {l : Str} : meR .join (.str l) = true := rfl
theorem me_ss {l : Str} : meR .split (.str l) = true := rfl
theorem me_count {l : List D} {n : List Int} {k : Int} (h : intsOf l = some n) : meD .count (.lst l) (.int k) = some (.val (.int (n.count k : Nat))) := by simp only [meD, h, Option.map_some]
theorem bi_maxL {l : List D} {x : Int} {n : List Int} (h : intsOf l = some (x :: n)) : biD .max [.lst l] = some (.val (.int (maxI x n))) := by simp only [biD, h]
theorem bi_minL {l : List D} {x : Int} {n : List Int} (h : intsOf l = some (x :: n)) : biD .min [.lst l] = some (.val (.int (minI x n))) := by simp only [biD, h]
theorem bi_sorted {l : List D} {n : List Int} (h : intsOf l = some n) : biD .sorted [.lst l] = some (.new (.lst ((sortI n).map .int))) := by simp only [biD, h, Option.map_some]
def enM (d : D) : M (List D) := match d with
  | .tup ds => ret (List.zipWith (fun (i : Nat) x => .tup [.int i, x]) (List.range ds.length) ds)
  | .lst ds => ret (List.zipWith (fun (i : Nat) x => .tup [.int i, x]) (List.range ds.length) ds)
  | _ => badM
theorem en_lst {ds : List D} {P : List D → Ev → Sto → Prop} : WP (enM (.lst ds)) e s P = P (List.zipWith (fun (i : Nat) x => .tup [.int i, x]) (List.range ds.length) ds) e s := r_ok rfl
theorem en_tup {ds : List D} {P : List D → Ev → Sto → Prop} : WP (enM (.tup ds)) e s P = P (List.zipWith (fun (i : Nat) x => .tup [.int i, x]) (List.range ds.length) ds) e s := r_ok rfl
theorem ri_enum {x : E} {P : List D → Ev → Sto → Prop} : WP (evI O (.enum x)) e s P = WP (evE O x) e s fun r e1 s1 => r.flat = true ∧ WP (enM r.d) e1 s1 P := by
  show WP (bnd _ _) e s P = _
  repeat (first | rfl | refine WP.ext fun _ _ _ => ?_ | refine congrArg (And _) ?_ | rw [r_bnd] | rw [r_frz] | rw [r_ret])
def calM (O : Orc) (es : List E) (r : R) : M R := match r with
  | .val (.fn g) => if O.has g then bnd (evVs O es) fun ds => callM O g ds else badM
  | _ => badM
theorem r_calle {f : E} {es : List E} : WP (evE O (.calle f es)) e s p = WP (evE O f) e s fun r e1 s1 => WP (calM O es r) e1 s1 p := by
  show WP (bnd _ _) e s p = _
  repeat (first | rfl | refine WP.ext fun _ _ _ => ?_ | refine congrArg (And _) ?_ | rw [r_bnd] | rw [r_frz] | rw [r_ret])
theorem rc_fn {g : Nat} {es : List E} : WP (calM O es (.val (.fn g))) e s p = (O.has g = true ∧ WP (evVs O es) e s fun ds e1 s1 => WP (callM O g ds) e1 s1 p) := by
  show WP (if O.has g then bnd (evVs O es) fun ds => callM O g ds else badM) e s p = _
  by_cases h : O.has g = true
  · rw [if_pos h, r_bnd]; simp [h]
  · rw [if_neg h]
    have : (O.has g = true ∧ WP (evVs O es) e s fun ds e1 s1 => WP (callM O g ds) e1 s1 p) = False := by simp [h]
    rw [this]
    exact r_no rfl
theorem rx_expr {y : E} : WP (exec O (.expr y)) e s pf = WP (evE O y) e s fun _ e1 s1 => pf .nx e1 s1 := by
  show WP (bnd _ _) e s pf = _
  repeat (first | rfl | refine WP.ext fun _ _ _ => ?_ | refine congrArg (And _) ?_ | rw [r_bnd] | rw [r_frz] | rw [r_ret])
theorem rx_set {i : Nat} {y : E} : WP (exec O (.set i y)) e s pf = WP (evE O y) e s fun r e1 s1 => pf .nx (e1.set i (some r)) s1 := by
  show WP (bnd _ _) e s pf = _
  rw [r_bnd]
  refine WP.ext fun r e1 s1 => ?_
  exact r_ok rfl
theorem rx_frz {i : Nat} : WP (exec O (.frz i)) e s pf = varP e[i]? (fun _ => pf .nx e s) (fun o => o.flat = true ∧ pf .nx (e.set i (some (.val o.d))) s) := by
  show WP (bnd (getVar i) _) e s pf = _
  rw [r_bnd]
  rw [show (WP (getVar i) e s fun a e' s' => WP (ret Flow.nx) e' s' pf) = WP (getVar i) e s fun a e' s' => pf .nx e' s' from WP.ext fun _ _ _ => r_ret]
  exact r_var (O := O) (p := fun _ e1 s1 => pf .nx e1 s1)
theorem rx_ret {y : E} : WP (exec O (.ret y)) e s pf = WP (evE O y) e s fun r e1 s1 => pf (.rt r) e1 s1 := by
  show WP (bnd _ _) e s pf = _
  repeat (first | rfl | refine WP.ext fun _ _ _ => ?_ | refine congrArg (And _) ?_ | rw [r_bnd] | rw [r_frz] | rw [r_ret])
theorem rx_iff {q : E} {a b : List S} : WP (exec O (.iff q a b)) e s pf = WP (evE O q) e s fun r e1 s1 => WP (asBl r) e1 s1 fun k e2 s2 => if k = true then WP (execs O a) e2 s2 pf else WP (execs O b) e2 s2 pf := by
  show WP (bnd _ _) e s pf = _
  rw [r_bnd]
  refine WP.ext fun r e1 s1 => ?_
  try rw [r_bnd]
  refine WP.ext fun k e2 s2 => ?_
  cases k <;> rfl
theorem rx_mat {i : Nat} {n : Int} {a b : List S} : WP (exec O (.mat i n a b)) e s pf = WP (evE O (.var i)) e s fun r e1 s1 => WP (asInt r) e1 s1 fun k e2 s2 => if k = n then WP (execs O a) e2 s2 pf else WP (execs O b) e2 s2 pf := by
  show WP (bnd _ _) e s pf = _
  rw [r_bnd]
  refine WP.ext fun r e1 s1 => ?_
  try rw [r_bnd]
  refine WP.ext fun k e2 s2 => ?_
  by_cases h : k = n
  · rw [if_pos h, if_pos h]
  · rw [if_neg h, if_neg h]
def thenP (k : Prop) (pf : Flow → Ev → Sto → Prop) (fl : Flow) (e : Ev) (s : Sto) (u : Hide (k, pf, e, s) := ()) : Prop := match fl with
  | .nx => k
  | .bk => pf .bk e s
  | .ct => pf .ct e s
  | .rt r => pf (.rt r) e s
theorem then_nx {k : Prop} : thenP k pf .nx e s = k := rfl
theorem then_rt {k : Prop} {r : R} : thenP k pf (.rt r) e s = pf (.rt r) e s := rfl
theorem then_bk {k : Prop} : thenP k pf .bk e s = pf .bk e s := rfl
theorem then_ct {k : Prop} : thenP k pf .ct e s = pf .ct e s := rfl
theorem rx_nil : WP (execs O []) e s pf = pf .nx e s := r_ok rfl
theorem rx_cons {x : S} {xs : List S} : WP (execs O (x :: xs)) e s pf = WP (exec O x) e s fun fl e1 s1 => thenP (WP (execs O xs) e1 s1 pf) pf fl e1 s1 := by
  show WP (bnd _ _) e s pf = _
  rw [r_bnd]
  refine WP.ext fun fl e1 s1 => ?_
  cases fl <;> first | rfl | exact r_ret
theorem rx_asg {t : T} {y : E} : WP (exec O (.asg t y)) e s pf = WP (evE O y) e s fun r e1 s1 => r.flat = true ∧ WP (asgT t r.d) e1 s1 fun _ e2 s2 => pf .nx e2 s2 := by
  show WP (bnd _ _) e s pf = _
  repeat (first | rfl | refine WP.ext fun _ _ _ => ?_ | refine congrArg (And _) ?_ | rw [r_bnd] | rw [r_frz] | rw [r_ret])
theorem rt_name {i : Nat} {d : D} {P : Unit → Ev → Sto → Prop} : WP (asgT (.name i) d) e s P = P () (e.set i (some (.val d))) s := r_ok (by simp [asgT])
theorem rt_tup {ts : List T} {ds : List D} {P : Unit → Ev → Sto → Prop} : WP (asgT (.tup ts) (.tup ds)) e s P = WP (asgTs ts ds) e s P := by
  rw [show asgT (.tup ts) (.tup ds) = asgTs ts ds from by simp [asgT]]
theorem rt_lst {ts : List T} {ds : List D} {P : Unit → Ev → Sto → Prop} : WP (asgT (.tup ts) (.lst ds)) e s P = WP (asgTs ts ds) e s P := by
  rw [show asgT (.tup ts) (.lst ds) = asgTs ts ds from by simp [asgT]]
theorem rt_nil {P : Unit → Ev → Sto → Prop} : WP (asgTs [] []) e s P = P () e s := r_ok (by simp [asgTs, ret])
theorem rt_cons {t : T} {ts : List T} {d : D} {ds : List D} {P : Unit → Ev → Sto → Prop} : WP (asgTs (t :: ts) (d :: ds)) e s P = WP (asgT t d) e s fun _ e1 s1 => WP (asgTs ts ds) e1 s1 P := by
  rw [show asgTs (t :: ts) (d :: ds) = bnd (asgT t d) fun _ => asgTs ts ds from by simp [asgTs]]
  exact r_bnd
theorem rx_setix {a i y : E} : WP (exec O (.setix a i y)) e s pf = WP (evE O y) e s fun r e1 s1 => r.flat = true ∧ WP (asA a (evE O a)) e1 s1 fun x e2 s2 => WP (evE O i) e2 s2 fun r2 e3 s3 => WP (asInt r2) e3 s3 fun k e4 s4 => WP (change x (setO k r.d)) e4 s4 fun _ e5 s5 => pf .nx e5 s5 := by
  show WP (bnd _ _) e s pf = _
  repeat (first | rfl | refine WP.ext fun _ _ _ => ?_ | refine congrArg (And _) ?_ | rw [r_bnd] | rw [r_frz] | rw [r_ret])
theorem rx_app {a y : E} : WP (exec O (.app a y)) e s pf = WP (asA a (evE O a)) e s fun x e1 s1 => WP (needL x) e1 s1 fun _ e2 s2 => WP (evE O y) e2 s2 fun r e3 s3 => r.flat = true ∧ WP (change x (appO r.d)) e3 s3 fun _ e4 s4 => pf .nx e4 s4 := by
  show WP (bnd _ _) e s pf = _
  repeat (first | rfl | refine WP.ext fun _ _ _ => ?_ | refine congrArg (And _) ?_ | rw [r_bnd] | rw [r_frz] | rw [r_ret])
theorem rx_ext {a y : E} : WP (exec O (.ext a y)) e s pf = WP (asA a (evE O a)) e s fun x e1 s1 => WP (needL x) e1 s1 fun _ e2 s2 => WP (asA y (evE O y)) e2 s2 fun z e3 s3 => WP (deref z) e3 s3 fun d e4 s4 => WP (change x (extO d)) e4 s4 fun _ e5 s5 => pf .nx e5 s5 := by
  show WP (bnd _ _) e s pf = _
  repeat (first | rfl | refine WP.ext fun _ _ _ => ?_ | refine congrArg (And _) ?_ | rw [r_bnd] | rw [r_frz] | rw [r_ret])
theorem r_pop {a i : E} : WP (evE O (.pop a i)) e s p = WP (asA a (evE O a)) e s fun x e1 s1 => WP (needL x) e1 s1 fun _ e2 s2 => WP (evE O i) e2 s2 fun r e3 s3 => WP (asInt r) e3 s3 fun k e4 s4 => WP (change x (popO k)) e4 s4 p := by
  show WP (bnd _ _) e s p = _
  repeat (first | rfl | refine WP.ext fun _ _ _ => ?_ | refine congrArg (And _) ?_ | rw [r_bnd] | rw [r_frz] | rw [r_ret])
def lstP (d : D) (k : Prop) (u : Hide k := ()) : Prop := match d with
  | .lst _ => k
  | _ => False
theorem lstP_l {ds : List D} {k : Prop} : lstP (.lst ds) k = k := rfl
theorem r_needL {x : Ar} {P : Unit → Ev → Sto → Prop} : WP (needL x) e s P = WP (deref x) e s fun d e1 s1 => lstP d (P () e1 s1) := by
  show WP (bnd _ _) e s P = _
  rw [r_bnd]
  refine WP.ext fun d e1 s1 => ?_
  cases d <;> first | exact r_ok rfl | exact r_no rfl
def obP (x : Option (Ob × R)) (k : Ob → R → Prop) (u : Hide k := ()) : Prop := match x with
  | some (o, r) => k o r
  | none => False
theorem obP_s {o : Ob} {r : R} {k : Ob → R → Prop} : obP (some (o, r)) k = k o r := rfl
theorem r_chS {f : Ob → Option (Ob × R)} {i : Nat} : WP (change (.s i) f) e s p = varP e[i]? (fun _ => False) (fun o => obP (f o) fun o' r => p r (e.set i (some (.new o'))) s) := by
  unfold varP
  split
  · rename_i d h; exact r_no (by simp only [change, h])
  · rename_i o h
    cases hf : f o with
    | none =>
      refine (r_no (m := change (.s i) f) ?_).trans ?_
      · unfold change; dsimp only; rw [h]; dsimp only; rw [hf]
      · show False = obP (f o) _
        rw [hf]
        rfl
    | some q =>
      obtain ⟨o', r⟩ := q
      refine (r_ok (m := change (.s i) f) (a := r) (e' := e.set i (some (.new o'))) (s' := s) ?_).trans ?_
      · unfold change; dsimp only; rw [h]; dsimp only; rw [hf]
      · show _ = obP (f o) _
        rw [hf]
        rfl
  · rename_i h1 h2
    refine r_no ?_
    unfold change
    dsimp only
    split
    · exact (h2 _ (by assumption)).elim
    · rfl
theorem r_chR {f : Ob → Option (Ob × R)} {n : Nat} {o : Ob} (h : s[n]? = some o) : WP (change (.v (.ref n)) f) e s p = obP (f o) fun o' r => p r e (s.set n o') := by
  unfold obP
  split
  · rename_i o' r hf; exact r_ok (by simp only [change, h, hf])
  · rename_i hf; exact r_no (by simp only [change, h, hf])
theorem r_chN {f : Ob → Option (Ob × R)} {n : Nat} : WP (change (.v (.ref n)) f) e s p = refP s[n]? fun o => obP (f o) fun o' r => p r e (s.set n o') := by
  cases h : s[n]? with
  | none => exact r_no (by simp only [change, h])
  | some o => exact r_chR h
theorem rr_nil {P : List R → Ev → Sto → Prop} : WP (evRs O []) e s P = P [] e s := r_ok rfl
theorem rr_cons {x : E} {xs : List E} {P : List R → Ev → Sto → Prop} : WP (evRs O (x :: xs)) e s P = WP (evE O x) e s fun r e1 s1 => WP (heldR r (evRs O xs)) e1 s1 fun rs e2 s2 => P (r :: rs) e2 s2 := by
  show WP (bnd _ _) e s P = _
  repeat (first | rfl | refine WP.ext fun _ _ _ => ?_ | refine congrArg (And _) ?_ | rw [r_bnd] | rw [r_frz] | rw [r_ret])
theorem rh_v {d : D} {m : M α} : heldR (.val d) m = m := rfl
theorem rh_l {d : List D} {m : M α} : heldR (.new (.lst d)) m = m := rfl
theorem rx_par {is : List Nat} {es : List E} : WP (exec O (.par is es)) e s pf = WP (evRs O es) e s fun rs e1 s1 => rs.length = is.length ∧ pf .nx (sets is rs e1) s1 := by
  show WP (bnd _ _) e s pf = _
  rw [r_bnd]
  refine WP.ext fun rs e1 s1 => ?_
  by_cases h : rs.length = is.length
  · simp only [h, if_true, true_and]
    exact r_ok rfl
  · simp only [h, if_false, false_and]
    exact r_no rfl
theorem rx_pass : WP (exec O .pass) e s pf = pf .nx e s := r_ok rfl
theorem rx_for {t : T} {it : I} {b : List S} : WP (exec O (.for t it b)) e s pf = WP (evI O it) e s fun items e1 s1 => WP (forL (fun x => bnd (asgT t x) fun _ => execs O b) items) e1 s1 pf := by
  show WP (bnd _ _) e s pf = _
  rw [r_bnd]
end
end Mi
namespace Mi.Q
open PySem Mi
inductive WQ {α : Type} (X : Nat → Sto → Prop) (m : M α) (e : Ev) (s : Sto) (P : α → Ev → Sto → Prop) (u : Hide P := ()) : Prop where
  | ok (a : α) (e' : Ev) (s' : Sto) (h : m e s = .ok a e' s') (p : P a e' s') : WQ X m e s P u
  | exc (c : Nat) (e' : Ev) (s' : Sto) (h : m e s = .exc c e' s') (x : X c s') : WQ X m e s P u
section
variable {X : Nat → Sto → Prop} {α β : Type} {O : Orc} {e : Ev} {s : Sto} {P : α → Ev → Sto → Prop} {p : R → Ev → Sto → Prop} {pa : Ar → Ev → Sto → Prop} {pf : Flow → Ev → Sto → Prop}
theorem wq_of {m : M α} (h : WP m e s P) : WQ X m e s P := by
  obtain ⟨a, e', s', h1, h2⟩ := h
  exact .ok a e' s' h1 h2
theorem bnd_1 {m : M β} {f : β → M α} (h : WQ X (bnd m f) e s P) : WQ X m e s fun a e' s' => WQ X (f a) e' s' P := by
  cases hm : m e s with
  | ok a e1 s1 =>
    refine .ok a e1 s1 hm ?_
    cases h with
    | ok b e2 s2 h1 h2 => exact .ok b e2 s2 (by unfold bnd at h1; rw [hm] at h1; exact h1) h2
    | exc c e2 s2 h1 h2 => exact .exc c e2 s2 (by unfold bnd at h1; rw [hm] at h1; exact h1) h2
  | exc g e1 s1 =>
    cases h with
    | ok b e2 s2 h1 h2 => unfold bnd at h1; rw [hm] at h1; cases h1
    | exc c e2 s2 h1 h2 => unfold bnd at h1; rw [hm] at h1; cases h1; exact .exc _ _ _ hm h2
  | bad =>
    cases h with
    | ok b e2 s2 h1 h2 => unfold bnd at h1; rw [hm] at h1; cases h1
    | exc c e2 s2 h1 h2 => unfold bnd at h1; rw [hm] at h1; cases h1
theorem bnd_2 {m : M β} {f : β → M α} (h : WQ X m e s fun a e' s' => WQ X (f a) e' s' P) : WQ X (bnd m f) e s P := by
  cases h with
  | ok b e2 s2 h1 h2 =>
    cases h2 with
    | ok b e3 s3 h3 h4 => exact .ok b e3 s3 (by unfold bnd; rw [h1]; exact h3) h4
    | exc c e3 s3 h3 h4 => exact .exc c e3 s3 (by unfold bnd; rw [h1]; exact h3) h4
  | exc c e2 s2 h1 h2 => exact .exc c e2 s2 (by unfold bnd; rw [h1]; rfl) h2
theorem r_bnd {m : M β} {f : β → M α} : WQ X (bnd m f) e s P = WQ X m e s fun a e' s' => WQ X (f a) e' s' P := propext ⟨bnd_1, bnd_2⟩
theorem WQ.ext {m : M α} {P Q : α → Ev → Sto → Prop} (h : ∀ a e1 s1, P a e1 s1 = Q a e1 s1) : WQ X m e s P = WQ X m e s Q := by
  have : P = Q := funext fun a => funext fun e1 => funext fun s1 => h a e1 s1
  rw [this]
theorem ok_1 {m : M α} {a : α} {e' : Ev} {s' : Sto} (h : m e s = .ok a e' s') (q : WQ X m e s P) : P a e' s' := by
  cases q with
  | ok b e2 s2 h1 h2 => rw [h] at h1; cases h1; exact h2
  | exc c e2 s2 h1 h2 => rw [h] at h1; cases h1
theorem r_ok {m : M α} {a : α} {e' : Ev} {s' : Sto} (h : m e s = .ok a e' s') : WQ X m e s P = P a e' s' := propext ⟨ok_1 h, fun q => WQ.ok _ _ _ h q⟩
theorem exc_1 {m : M α} {c : Nat} {e' : Ev} {s' : Sto} (h : m e s = .exc c e' s') (q : WQ X m e s P) : X c s' := by
  cases q with
  | ok b e2 s2 h1 h2 => rw [h] at h1; cases h1
  | exc c e2 s2 h1 h2 => rw [h] at h1; cases h1; exact h2
theorem r_exc {m : M α} {c : Nat} {e' : Ev} {s' : Sto} (h : m e s = .exc c e' s') : WQ X m e s P = X c s' := propext ⟨exc_1 h, fun q => WQ.exc _ _ _ h q⟩
theorem no_1 {m : M α} (h : m e s = .bad) (q : WQ X m e s P) : False := by
  cases q with
  | ok b e2 s2 h1 h2 => rw [h] at h1; cases h1
  | exc c e2 s2 h1 h2 => rw [h] at h1; cases h1
theorem r_no {m : M α} (h : m e s = .bad) : WQ X m e s P = False := propext ⟨no_1 h, False.elim⟩
theorem r_ret {a : α} : WQ X (ret a) e s P = P a e s := r_ok rfl
theorem r_lift {o : Option α} : WQ X (lift o) e s P = (match o with | some a => P a e s | none => False) := by
  cases o with
  | some a => exact r_ok rfl
  | none => exact r_no rfl
theorem r_liftS {a : α} : WQ X (lift (some a)) e s P = P a e s := r_ok rfl
theorem r_frz {r : R} {P : D → Ev → Sto → Prop} : WQ X (frz r) e s P = (r.flat = true ∧ P r.d e s) := by
  cases h : r.flat with
  | true => rw [r_ok (m := frz r) (a := r.d) (e' := e) (s' := s) (by simp only [frz, h, if_true, ret])]; simp
  | false => rw [r_no (m := frz r) (by simp only [frz, h]; rfl)]; simp
theorem r_asBl {P : Bool → Ev → Sto → Prop} {b : Bool} : WQ X (asBl (.val (.bl b))) e s P = P b e s := r_ok rfl
theorem r_asInt {P : Int → Ev → Sto → Prop} {b : Int} : WQ X (asInt (.val (.int b))) e s P = P b e s := r_ok rfl
theorem r_var {i : Nat} : WQ X (evE O (.var i)) e s p = varP e[i]? (fun d => p (.val d) e s) (fun o => o.flat = true ∧ p (.val o.d) (e.set i (some (.val o.d))) s) := by
  show WQ X (getVar i) e s p = _
  unfold varP
  split
  · rename_i d h; exact r_ok (by unfold getVar; rw [h])
  · rename_i o h
    cases hf : o.flat with
    | true => rw [r_ok (m := getVar i) (by unfold getVar; rw [h]; simp only [hf, if_true]; rfl)]; exact propext ⟨fun z => ⟨hf, z⟩, And.right⟩
    | false => rw [r_no (m := getVar i) (by unfold getVar; rw [h]; simp only [hf]; rfl)]; exact propext ⟨False.elim, fun z => Bool.noConfusion (hf.symm.trans z.1)⟩
  · rename_i h1 h2
    refine r_no ?_
    unfold getVar
    split
    · exact (h1 _ (by assumption)).elim
    · exact (h2 _ (by assumption)).elim
    · rfl
theorem ra_var {i : Nat} {m : M R} : WQ X (asA (.var i) m) e s pa = varP e[i]? (fun d => pa (.v d) e s) (fun o => pa (.s i) e s) := by
  unfold varP
  split
  · rename_i d h; exact r_ok (by simp only [asA, h])
  · rename_i o h; exact r_ok (by simp only [asA, h])
  · rename_i h1 h2
    refine r_no ?_
    unfold asA
    dsimp only
    split
    · exact (h1 _ (by assumption)).elim
    · exact (h2 _ (by assumption)).elim
    · rfl
theorem ra_val {x : E} {m : M R} (hx : ∀ i, x ≠ .var i) : WQ X (asA x m) e s pa = WQ X m e s fun r e' s' => r.flat = true ∧ pa (.v r.d) e' s' := by
  have e1 : asA x m = Mi.bnd m fun r => Mi.bnd (frz r) fun d => Mi.ret (.v d) := by
    cases x <;> first | rfl | exact absurd rfl (hx _)
  rw [e1]
  repeat (first | rfl | refine WQ.ext fun _ _ _ => ?_ | refine congrArg (And _) ?_ | rw [r_bnd] | rw [r_frz] | rw [r_ret])
theorem ra_nop  {m : M R} : WQ X (asA (.nop ) m) e s pa = WQ X m e s fun r e' s' => r.flat = true ∧ pa (.v r.d) e' s' := ra_val (fun _ => E.noConfusion)
theorem ra_cst {d : D} {m : M R} : WQ X (asA (.cst d) m) e s pa = WQ X m e s fun r e' s' => r.flat = true ∧ pa (.v r.d) e' s' := ra_val (fun _ => E.noConfusion)
theorem ra_glob {g : Nat} {m : M R} : WQ X (asA (.glob g) m) e s pa = WQ X m e s fun r e' s' => r.flat = true ∧ pa (.v r.d) e' s' := ra_val (fun _ => E.noConfusion)
theorem ra_tup {es : List E} {m : M R} : WQ X (asA (.tup es) m) e s pa = WQ X m e s fun r e' s' => r.flat = true ∧ pa (.v r.d) e' s' := ra_val (fun _ => E.noConfusion)
theorem ra_lst {es : List E} {m : M R} : WQ X (asA (.lst es) m) e s pa = WQ X m e s fun r e' s' => r.flat = true ∧ pa (.v r.d) e' s' := ra_val (fun _ => E.noConfusion)
theorem ra_dic {kvs : List E} {m : M R} : WQ X (asA (.dic kvs) m) e s pa = WQ X m e s fun r e' s' => r.flat = true ∧ pa (.v r.d) e' s' := ra_val (fun _ => E.noConfusion)
theorem ra_bin {op : Operator} {a : E} {b : E} {m : M R} : WQ X (asA (.bin op a b) m) e s pa = WQ X m e s fun r e' s' => r.flat = true ∧ pa (.v r.d) e' s' := ra_val (fun _ => E.noConfusion)
theorem ra_neg {a : E} {m : M R} : WQ X (asA (.neg a) m) e s pa = WQ X m e s fun r e' s' => r.flat = true ∧ pa (.v r.d) e' s' := ra_val (fun _ => E.noConfusion)
theorem ra_not {a : E} {m : M R} : WQ X (asA (.not a) m) e s pa = WQ X m e s fun r e' s' => r.flat = true ∧ pa (.v r.d) e' s' := ra_val (fun _ => E.noConfusion)
theorem ra_and {a : E} {b : E} {m : M R} : WQ X (asA (.and a b) m) e s pa = WQ X m e s fun r e' s' => r.flat = true ∧ pa (.v r.d) e' s' := ra_val (fun _ => E.noConfusion)
theorem ra_or {a : E} {b : E} {m : M R} : WQ X (asA (.or a b) m) e s pa = WQ X m e s fun r e' s' => r.flat = true ∧ pa (.v r.d) e' s' := ra_val (fun _ => E.noConfusion)
theorem ra_ife {c : E} {a : E} {b : E} {m : M R} : WQ X (asA (.ife c a b) m) e s pa = WQ X m e s fun r e' s' => r.flat = true ∧ pa (.v r.d) e' s' := ra_val (fun _ => E.noConfusion)
theorem ra_cmp {op : CmpOp} {a : E} {b : E} {m : M R} : WQ X (asA (.cmp op a b) m) e s pa = WQ X m e s fun r e' s' => r.flat = true ∧ pa (.v r.d) e' s' := ra_val (fun _ => E.noConfusion)
theorem ra_chain {o1 : CmpOp} {o2 : CmpOp} {a : E} {b : E} {c : E} {m : M R} : WQ X (asA (.chain o1 o2 a b c) m) e s pa = WQ X m e s fun r e' s' => r.flat = true ∧ pa (.v r.d) e' s' := ra_val (fun _ => E.noConfusion)
theorem ra_ix {a : E} {b : E} {m : M R} : WQ X (asA (.ix a b) m) e s pa = WQ X m e s fun r e' s' => r.flat = true ∧ pa (.v r.d) e' s' := ra_val (fun _ => E.noConfusion)
theorem ra_sl {a : E} {lo : E} {hi : E} {m : M R} : WQ X (asA (.sl a lo hi) m) e s pa = WQ X m e s fun r e' s' => r.flat = true ∧ pa (.v r.d) e' s' := ra_val (fun _ => E.noConfusion)
theorem ra_me {k : Me} {o a : E} {m : M R} : WQ X (asA (.me k o a) m) e s pa = WQ X m e s fun r e' s' => r.flat = true ∧ pa (.v r.d) e' s' := ra_val (fun _ => E.noConfusion)
theorem ra_lrange {a : E} {m : M R} : WQ X (asA (.lrange a) m) e s pa = WQ X m e s fun r e' s' => r.flat = true ∧ pa (.v r.d) e' s' := ra_val (fun _ => E.noConfusion)
theorem ra_rev {a : E} {m : M R} : WQ X (asA (.rev a) m) e s pa = WQ X m e s fun r e' s' => r.flat = true ∧ pa (.v r.d) e' s' := ra_val (fun _ => E.noConfusion)
theorem ra_get2 {a b c : E} {m : M R} : WQ X (asA (.get2 a b c) m) e s pa = WQ X m e s fun r e' s' => r.flat = true ∧ pa (.v r.d) e' s' := ra_val (fun _ => E.noConfusion)
theorem ra_isi {a : E} {t : Ty} {m : M R} : WQ X (asA (.isi a t) m) e s pa = WQ X m e s fun r e' s' => r.flat = true ∧ pa (.v r.d) e' s' := ra_val (fun _ => E.noConfusion)
theorem ra_bi {b : Bi} {es : List E} {m : M R} : WQ X (asA (.bi b es) m) e s pa = WQ X m e s fun r e' s' => r.flat = true ∧ pa (.v r.d) e' s' := ra_val (fun _ => E.noConfusion)
theorem ra_call {g : Nat} {es : List E} {m : M R} : WQ X (asA (.call g es) m) e s pa = WQ X m e s fun r e' s' => r.flat = true ∧ pa (.v r.d) e' s' := ra_val (fun _ => E.noConfusion)
theorem ra_calle {f : E} {es : List E} {m : M R} : WQ X (asA (.calle f es) m) e s pa = WQ X m e s fun r e' s' => r.flat = true ∧ pa (.v r.d) e' s' := ra_val (fun _ => E.noConfusion)
theorem ra_pop {a : E} {i : E} {m : M R} : WQ X (asA (.pop a i) m) e s pa = WQ X m e s fun r e' s' => r.flat = true ∧ pa (.v r.d) e' s' := ra_val (fun _ => E.noConfusion)
theorem ra_alloc {a : E} {m : M R} : WQ X (asA (.alloc a) m) e s pa = WQ X m e s fun r e' s' => r.flat = true ∧ pa (.v r.d) e' s' := ra_val (fun _ => E.noConfusion)
theorem ra_comp {a : E} {tg : T} {it : I} {c : E} {own : List Nat} {m : M R} : WQ X (asA (.comp a tg it c own) m) e s pa = WQ X m e s fun r e' s' => r.flat = true ∧ pa (.v r.d) e' s' := ra_val (fun _ => E.noConfusion)
theorem ra_comp2 {a : E} {tg : T} {it : I} {c : E} {tg1 : T} {it1 : I} {c1 : E} {own : List Nat} {own1 : List Nat} {m : M R} : WQ X (asA (.comp2 a tg it c tg1 it1 c1 own own1) m) e s pa = WQ X m e s fun r e' s' => r.flat = true ∧ pa (.v r.d) e' s' := ra_val (fun _ => E.noConfusion)
theorem r_cst {d : D} : WQ X (evE O (.cst d)) e s p = p (.val d) e s := r_ok rfl
theorem r_glob {g : Nat} : WQ X (evE O (.glob g)) e s p = (match O.gl g with | some d => p (.val d) e s | none => False) := by
  show WQ X (Mi.lift ((O.gl g).map .val)) e s p = _
  rw [r_lift]
  cases O.gl g <;> rfl
theorem re_nil {P : List D → Ev → Sto → Prop} : WQ X (evVs O []) e s P = P [] e s := r_ok rfl
theorem re_cons {x : E} {xs : List E} {P : List D → Ev → Sto → Prop} : WQ X (evVs O (x :: xs)) e s P = WQ X (evE O x) e s fun r e1 s1 => r.flat = true ∧ WQ X (evVs O xs) e1 s1 fun ds e2 s2 => P (r.d :: ds) e2 s2 := by
  show WQ X (bnd _ _) e s P = _
  repeat (first | rfl | refine WQ.ext fun _ _ _ => ?_ | refine congrArg (And _) ?_ | rw [r_bnd] | rw [r_frz] | rw [r_ret])
theorem rsa_nil {P : List Ar → Ev → Sto → Prop} : WQ X (evAs O []) e s P = P [] e s := r_ok rfl
theorem rsa_cons {x : E} {xs : List E} {P : List Ar → Ev → Sto → Prop} : WQ X (evAs O (x :: xs)) e s P = WQ X (asA x (evE O x)) e s fun r e1 s1 => WQ X (evAs O xs) e1 s1 fun ds e2 s2 => P (r :: ds) e2 s2 := by
  show WQ X (bnd _ _) e s P = _
  repeat (first | rfl | refine WQ.ext fun _ _ _ => ?_ | refine congrArg (And _) ?_ | rw [r_bnd] | rw [r_frz] | rw [r_ret])
theorem r_tup {es : List E} : WQ X (evE O (.tup es)) e s p = WQ X (evVs O es) e s fun ds e1 s1 => ds.length ≤ line ∧ p (.val (.tup ds)) e1 s1 := by
  show WQ X (bnd _ _) e s p = _
  rw [r_bnd]
  refine WQ.ext fun ds e1 s1 => ?_
  by_cases h : ds.length ≤ line
  · simp only [h, if_true, r_ret, true_and]
  · simp only [h, if_false, false_and]
    exact r_no rfl
theorem r_lst {es : List E} : WQ X (evE O (.lst es)) e s p = WQ X (evVs O es) e s fun ds e1 s1 => ds.length ≤ line ∧ p (.new (.lst ds)) e1 s1 := by
  show WQ X (bnd _ _) e s p = _
  rw [r_bnd]
  refine WQ.ext fun ds e1 s1 => ?_
  by_cases h : ds.length ≤ line
  · simp only [h, if_true, r_ret, true_and]
  · simp only [h, if_false, false_and]
    exact r_no rfl
theorem r_bin {op : Operator} {a b : E} : WQ X (evE O (.bin op a b)) e s p = WQ X (asA a (evE O a)) e s fun x e1 s1 => WQ X (asA b (evE O b)) e1 s1 fun y e2 s2 => WQ X (prim2 (binD op) x y) e2 s2 p := by
  show WQ X (bnd _ _) e s p = _
  repeat (first | rfl | refine WQ.ext fun _ _ _ => ?_ | refine congrArg (And _) ?_ | rw [r_bnd] | rw [r_frz] | rw [r_ret])
theorem r_cmp {op : CmpOp} {a b : E} : WQ X (evE O (.cmp op a b)) e s p = WQ X (asA a (evE O a)) e s fun x e1 s1 => WQ X (asA b (evE O b)) e1 s1 fun y e2 s2 => WQ X (prim2 (fun x y => blR (cmpD op x y)) x y) e2 s2 p := by
  show WQ X (bnd _ _) e s p = _
  repeat (first | rfl | refine WQ.ext fun _ _ _ => ?_ | refine congrArg (And _) ?_ | rw [r_bnd] | rw [r_frz] | rw [r_ret])
theorem r_ix {a b : E} : WQ X (evE O (.ix a b)) e s p = WQ X (asA a (evE O a)) e s fun x e1 s1 => WQ X (asA b (evE O b)) e1 s1 fun y e2 s2 => WQ X (prim2 (fun x y => (ixD x y).map .val) x y) e2 s2 p := by
  show WQ X (bnd _ _) e s p = _
  repeat (first | rfl | refine WQ.ext fun _ _ _ => ?_ | refine congrArg (And _) ?_ | rw [r_bnd] | rw [r_frz] | rw [r_ret])
theorem r_neg {a : E} : WQ X (evE O (.neg a)) e s p = WQ X (asA a (evE O a)) e s fun x e1 s1 => WQ X (prim1 negD x) e1 s1 p := by
  show WQ X (bnd _ _) e s p = _
  repeat (first | rfl | refine WQ.ext fun _ _ _ => ?_ | refine congrArg (And _) ?_ | rw [r_bnd] | rw [r_frz] | rw [r_ret])
theorem r_isi {a : E} {t : Ty} : WQ X (evE O (.isi a t)) e s p = WQ X (asA a (evE O a)) e s fun x e1 s1 => WQ X (prim1 (fun x => blR (isiD x t)) x) e1 s1 p := by
  show WQ X (bnd _ _) e s p = _
  repeat (first | rfl | refine WQ.ext fun _ _ _ => ?_ | refine congrArg (And _) ?_ | rw [r_bnd] | rw [r_frz] | rw [r_ret])
theorem r_bi {b : Bi} {es : List E} : WQ X (evE O (.bi b es)) e s p = WQ X (evAs O es) e s fun xs e1 s1 => WQ X (primN (biD b) xs) e1 s1 p := by
  show WQ X (bnd _ _) e s p = _
  repeat (first | rfl | refine WQ.ext fun _ _ _ => ?_ | refine congrArg (And _) ?_ | rw [r_bnd] | rw [r_frz] | rw [r_ret])
theorem r_not {a : E} : WQ X (evE O (.not a)) e s p = WQ X (evE O a) e s fun r e1 s1 => WQ X (asBl r) e1 s1 fun k e2 s2 => p (.val (.bl (!k))) e2 s2 := by
  show WQ X (bnd _ _) e s p = _
  repeat (first | rfl | refine WQ.ext fun _ _ _ => ?_ | refine congrArg (And _) ?_ | rw [r_bnd] | rw [r_frz] | rw [r_ret])
theorem r_and {a b : E} : WQ X (evE O (.and a b)) e s p = WQ X (evE O a) e s fun r e1 s1 => WQ X (asBl r) e1 s1 fun k e2 s2 => if k = true then WQ X (evE O b) e2 s2 p else p (.val (.bl false)) e2 s2 := by
  show WQ X (bnd _ _) e s p = _
  rw [r_bnd]
  refine WQ.ext fun r e1 s1 => ?_
  try rw [r_bnd]
  refine WQ.ext fun k e2 s2 => ?_
  cases k <;> simp [r_ret]
theorem r_or {a b : E} : WQ X (evE O (.or a b)) e s p = WQ X (evE O a) e s fun r e1 s1 => WQ X (asBl r) e1 s1 fun k e2 s2 => if k = true then p (.val (.bl true)) e2 s2 else WQ X (evE O b) e2 s2 p := by
  show WQ X (bnd _ _) e s p = _
  rw [r_bnd]
  refine WQ.ext fun r e1 s1 => ?_
  try rw [r_bnd]
  refine WQ.ext fun k e2 s2 => ?_
  cases k <;> simp [r_ret]
theorem r_ife {c a b : E} : WQ X (evE O (.ife c a b)) e s p = WQ X (evE O c) e s fun r e1 s1 => WQ X (asBl r) e1 s1 fun k e2 s2 => if k = true then WQ X (evE O a) e2 s2 p else WQ X (evE O b) e2 s2 p := by
  show WQ X (bnd _ _) e s p = _
  rw [r_bnd]
  refine WQ.ext fun r e1 s1 => ?_
  try rw [r_bnd]
  refine WQ.ext fun k e2 s2 => ?_
  cases k <;> simp [r_ret]
theorem r_chain {o1 o2 : CmpOp} {a b c : E} : WQ X (evE O (.chain o1 o2 a b c)) e s p = WQ X (asA a (evE O a)) e s fun x e1 s1 => WQ X (asA b (evE O b)) e1 s1 fun y e2 s2 => WQ X (prim2 (fun x y => blR (cmpD o1 x y)) x y) e2 s2 fun r e3 s3 => WQ X (asBl r) e3 s3 fun k e4 s4 => if k = true then WQ X (asA c (evE O c)) e4 s4 (fun z e5 s5 => WQ X (prim2 (fun x y => blR (cmpD o2 x y)) y z) e5 s5 p) else p (.val (.bl false)) e4 s4 := by
  show WQ X (bnd _ _) e s p = _
  rw [r_bnd]
  refine WQ.ext fun x e1 s1 => ?_
  try rw [r_bnd]
  refine WQ.ext fun y e2 s2 => ?_
  try rw [r_bnd]
  refine WQ.ext fun r e3 s3 => ?_
  try rw [r_bnd]
  refine WQ.ext fun k e4 s4 => ?_
  cases k <;> simp [r_ret, r_bnd]
theorem r_none {m : M R} {P : Option Int → Ev → Sto → Prop} : WQ X (partOf .nop m) e s P = P none e s := r_ok rfl
theorem rp_cst {d : D} {m : M R} {P : Option Int → Ev → Sto → Prop} : WQ X (partOf (.cst d) m) e s P = WQ X m e s fun r e1 s1 => WQ X (asInt r) e1 s1 fun k e2 s2 => P (some k) e2 s2 := by
  show WQ X (bnd _ _) e s P = _
  repeat (first | rfl | refine WQ.ext fun _ _ _ => ?_ | refine congrArg (And _) ?_ | rw [r_bnd] | rw [r_frz] | rw [r_ret])
theorem rp_glob {g : Nat} {m : M R} {P : Option Int → Ev → Sto → Prop} : WQ X (partOf (.glob g) m) e s P = WQ X m e s fun r e1 s1 => WQ X (asInt r) e1 s1 fun k e2 s2 => P (some k) e2 s2 := by
  show WQ X (bnd _ _) e s P = _
  repeat (first | rfl | refine WQ.ext fun _ _ _ => ?_ | refine congrArg (And _) ?_ | rw [r_bnd] | rw [r_frz] | rw [r_ret])
theorem rp_bin {op : Operator} {a : E} {b : E} {m : M R} {P : Option Int → Ev → Sto → Prop} : WQ X (partOf (.bin op a b) m) e s P = WQ X m e s fun r e1 s1 => WQ X (asInt r) e1 s1 fun k e2 s2 => P (some k) e2 s2 := by
  show WQ X (bnd _ _) e s P = _
  repeat (first | rfl | refine WQ.ext fun _ _ _ => ?_ | refine congrArg (And _) ?_ | rw [r_bnd] | rw [r_frz] | rw [r_ret])
theorem rp_neg {a : E} {m : M R} {P : Option Int → Ev → Sto → Prop} : WQ X (partOf (.neg a) m) e s P = WQ X m e s fun r e1 s1 => WQ X (asInt r) e1 s1 fun k e2 s2 => P (some k) e2 s2 := by
  show WQ X (bnd _ _) e s P = _
  repeat (first | rfl | refine WQ.ext fun _ _ _ => ?_ | refine congrArg (And _) ?_ | rw [r_bnd] | rw [r_frz] | rw [r_ret])
theorem rp_ife {c : E} {a : E} {b : E} {m : M R} {P : Option Int → Ev → Sto → Prop} : WQ X (partOf (.ife c a b) m) e s P = WQ X m e s fun r e1 s1 => WQ X (asInt r) e1 s1 fun k e2 s2 => P (some k) e2 s2 := by
  show WQ X (bnd _ _) e s P = _
  repeat (first | rfl | refine WQ.ext fun _ _ _ => ?_ | refine congrArg (And _) ?_ | rw [r_bnd] | rw [r_frz] | rw [r_ret])
theorem rp_ix {a : E} {b : E} {m : M R} {P : Option Int → Ev → Sto → Prop} : WQ X (partOf (.ix a b) m) e s P = WQ X m e s fun r e1 s1 => WQ X (asInt r) e1 s1 fun k e2 s2 => P (some k) e2 s2 := by
  show WQ X (bnd _ _) e s P = _
  repeat (first | rfl | refine WQ.ext fun _ _ _ => ?_ | refine congrArg (And _) ?_ | rw [r_bnd] | rw [r_frz] | rw [r_ret])
theorem rp_bi {b : Bi} {es : List E} {m : M R} {P : Option Int → Ev → Sto → Prop} : WQ X (partOf (.bi b es) m) e s P = WQ X m e s fun r e1 s1 => WQ X (asInt r) e1 s1 fun k e2 s2 => P (some k) e2 s2 := by
  show WQ X (bnd _ _) e s P = _
  repeat (first | rfl | refine WQ.ext fun _ _ _ => ?_ | refine congrArg (And _) ?_ | rw [r_bnd] | rw [r_frz] | rw [r_ret])
theorem rp_call {g : Nat} {es : List E} {m : M R} {P : Option Int → Ev → Sto → Prop} : WQ X (partOf (.call g es) m) e s P = WQ X m e s fun r e1 s1 => WQ X (asInt r) e1 s1 fun k e2 s2 => P (some k) e2 s2 := by
  show WQ X (bnd _ _) e s P = _
  repeat (first | rfl | refine WQ.ext fun _ _ _ => ?_ | refine congrArg (And _) ?_ | rw [r_bnd] | rw [r_frz] | rw [r_ret])
theorem rp_var {i : Nat} {m : M R} {P : Option Int → Ev → Sto → Prop} : WQ X (partOf (.var i) m) e s P = WQ X m e s fun r e1 s1 => WQ X (asInt r) e1 s1 fun k e2 s2 => P (some k) e2 s2 := by
  show WQ X (bnd _ _) e s P = _
  repeat (first | rfl | refine WQ.ext fun _ _ _ => ?_ | refine congrArg (And _) ?_ | rw [r_bnd] | rw [r_frz] | rw [r_ret])
theorem r_sl {a lo hi : E} : WQ X (evE O (.sl a lo hi)) e s p = WQ X (asA a (evE O a)) e s fun x e1 s1 => WQ X (partOf lo (evE O lo)) e1 s1 fun l e2 s2 => WQ X (partOf hi (evE O hi)) e2 s2 fun h e3 s3 => WQ X (prim1 (fun x => slD x l h) x) e3 s3 p := by
  show WQ X (bnd _ _) e s p = _
  repeat (first | rfl | refine WQ.ext fun _ _ _ => ?_ | refine congrArg (And _) ?_ | rw [r_bnd] | rw [r_frz] | rw [r_ret])
theorem r_call {g : Nat} {es : List E} : WQ X (evE O (.call g es)) e s p = WQ X (evVs O es) e s fun ds e1 s1 => WQ X (callM O g ds) e1 s1 p := by
  show WQ X (bnd _ _) e s p = _
  repeat (first | rfl | refine WQ.ext fun _ _ _ => ?_ | refine congrArg (And _) ?_ | rw [r_bnd] | rw [r_frz] | rw [r_ret])
theorem r_callM {g : Nat} {ds : List D} {r : R} {s' : Sto} (h : O.call g ds s = .ok r s') : WQ X (callM O g ds) e s p = p r e s' := r_ok (by unfold callM; rw [h]; rfl)
theorem r_alloc {a : E} : WQ X (evE O (.alloc a)) e s p = WQ X (evE O a) e s fun r e1 s1 => WQ X (allocM r) e1 s1 p := by
  show WQ X (bnd _ _) e s p = _
  rw [r_bnd]
theorem r_allocM {o : Ob} : WQ X (allocM (.new o)) e s p = p (.val (.ref s.length)) e (s ++ [o]) := r_ok rfl
theorem r_prim1 {f : D → Option R} {x : Ar} : WQ X (prim1 f x) e s p = WQ X (deref x) e s fun d e1 s1 => WQ X (lift (f d)) e1 s1 p := r_bnd
theorem r_prim2 {f : D → D → Option R} {x y : Ar} : WQ X (prim2 f x y) e s p = WQ X (deref x) e s fun d e1 s1 => WQ X (deref y) e1 s1 fun d' e2 s2 => WQ X (lift (f d d')) e2 s2 p := by
  show WQ X (bnd _ _) e s p = _
  repeat (first | rfl | refine WQ.ext fun _ _ _ => ?_ | refine congrArg (And _) ?_ | rw [r_bnd] | rw [r_frz] | rw [r_ret])
theorem r_primN {f : List D → Option R} {xs : List Ar} : WQ X (primN f xs) e s p = WQ X (derefs xs) e s fun ds e1 s1 => WQ X (lift (f ds)) e1 s1 p := r_bnd
theorem rd_nil {P : List D → Ev → Sto → Prop} : WQ X (derefs []) e s P = P [] e s := r_ok rfl
theorem rd_cons {x : Ar} {xs : List Ar} {P : List D → Ev → Sto → Prop} : WQ X (derefs (x :: xs)) e s P = WQ X (deref x) e s fun d e1 s1 => WQ X (derefs xs) e1 s1 fun ds e2 s2 => P (d :: ds) e2 s2 := by
  show WQ X (bnd _ _) e s P = _
  repeat (first | rfl | refine WQ.ext fun _ _ _ => ?_ | refine congrArg (And _) ?_ | rw [r_bnd] | rw [r_frz] | rw [r_ret])
section
variable {P : D → Ev → Sto → Prop}
theorem rd_int {i : Int} : WQ X (deref (.v (.int i))) e s P = P (.int i) e s := r_ok rfl
theorem rd_bl {i : Bool} : WQ X (deref (.v (.bl i))) e s P = P (.bl i) e s := r_ok rfl
theorem rd_str {i : Str} : WQ X (deref (.v (.str i))) e s P = P (.str i) e s := r_ok rfl
theorem rd_non : WQ X (deref (.v .non)) e s P = P .non e s := r_ok rfl
theorem rd_tup {i : List D} : WQ X (deref (.v (.tup i))) e s P = P (.tup i) e s := r_ok rfl
theorem rd_lst {i : List D} : WQ X (deref (.v (.lst i))) e s P = P (.lst i) e s := r_ok rfl
theorem rd_dic {i j : List D} : WQ X (deref (.v (.dic i j))) e s P = P (.dic i j) e s := r_ok rfl
theorem rd_cls {i : Nat} : WQ X (deref (.v (.cls i))) e s P = P (.cls i) e s := r_ok rfl
theorem rd_scr {i : List Int} : WQ X (deref (.v (.scr i))) e s P = P (.scr i) e s := r_ok rfl
theorem rd_fn {i : Nat} : WQ X (deref (.v (.fn i))) e s P = P (.fn i) e s := r_ok rfl
theorem rd_ref {n : Nat} {o : Ob} (h : s[n]? = some o) (f : o.flat = true) : WQ X (deref (.v (.ref n))) e s P = P o.d e s := r_ok (by simp only [deref, h, f, if_true])
theorem rd_r {n : Nat} : WQ X (deref (.v (.ref n))) e s P = refP s[n]? fun o => P (if o.flat then o.d else .ref n) e s := by
  cases h : s[n]? with
  | none => exact r_no (by simp only [deref, h])
  | some o => exact r_ok (by simp only [deref, h])
theorem rd_s {i : Nat} : WQ X (deref (.s i)) e s P = varP e[i]? (fun d => P d e s) (fun o => o.flat = true ∧ P o.d e s) := by
  unfold varP
  split
  · rename_i d h; exact r_ok (by simp only [deref, h]; rfl)
  · rename_i o h
    cases hf : o.flat with
    | true => rw [r_ok (m := deref (.s i)) (a := o.d) (e' := e) (s' := s) (by simp only [deref, h, R.flat, R.d, hf, if_true])]; exact propext ⟨fun z => ⟨hf, z⟩, And.right⟩
    | false => rw [r_no (m := deref (.s i)) (by simp only [deref, h, R.flat, hf]; rfl)]; exact propext ⟨False.elim, fun z => Bool.noConfusion (hf.symm.trans z.1)⟩
  · rename_i h1 h2
    refine r_no ?_
    simp only [deref]
    split
    · rename_i r h
      cases r with
      | val d => exact (h1 _ h).elim
      | new o => exact (h2 _ h).elim
    · rfl
end
theorem rq_tup {ds : List D} {P : List D → Ev → Sto → Prop} : WQ X (seqM (.tup ds)) e s P = P ds e s := r_ok rfl
theorem rq_lst {ds : List D} {P : List D → Ev → Sto → Prop} : WQ X (seqM (.lst ds)) e s P = P ds e s := r_ok rfl
theorem ri_seq {x : E} {P : List D → Ev → Sto → Prop} : WQ X (evI O (.seq x)) e s P = WQ X (evE O x) e s fun r e1 s1 => r.flat = true ∧ WQ X (seqM r.d) e1 s1 P := by
  show WQ X (bnd _ _) e s P = _
  repeat (first | rfl | refine WQ.ext fun _ _ _ => ?_ | refine congrArg (And _) ?_ | rw [r_bnd] | rw [r_frz] | rw [r_ret])
theorem ri_range {x : E} {P : List D → Ev → Sto → Prop} : WQ X (evI O (.range x)) e s P = WQ X (evE O x) e s fun r e1 s1 => WQ X (asInt r) e1 s1 fun k e2 s2 => k.natAbs < 4611686018427387904 ∧ P ((List.range k.toNat).map fun (i : Nat) => .int i) e2 s2 := by
  show WQ X (bnd _ _) e s P = _
  rw [r_bnd]
  refine WQ.ext fun r e1 s1 => ?_
  try rw [r_bnd]
  refine WQ.ext fun k e2 s2 => ?_
  by_cases h : k.natAbs < 4611686018427387904
  · simp only [h, if_true, r_ret, true_and]
  · simp only [h, if_false, false_and]
    exact r_no rfl
theorem ri_range2 {x y : E} {P : List D → Ev → Sto → Prop} : WQ X (evI O (.range2 x y)) e s P = WQ X (evE O x) e s fun r e1 s1 => WQ X (asInt r) e1 s1 fun k e2 s2 => WQ X (evE O y) e2 s2 fun r e3 s3 => WQ X (asInt r) e3 s3 fun m e4 s4 => (k.natAbs < 4611686018427387904 ∧ m.natAbs < 4611686018427387904) ∧ P ((List.range (m - k).toNat).map fun (i : Nat) => .int (k + i)) e4 s4 := by
  show WQ X (bnd _ _) e s P = _
  rw [r_bnd]
  refine WQ.ext fun r e1 s1 => ?_
  try rw [r_bnd]
  refine WQ.ext fun k e2 s2 => ?_
  try rw [r_bnd]
  refine WQ.ext fun r e3 s3 => ?_
  try rw [r_bnd]
  refine WQ.ext fun m e4 s4 => ?_
  by_cases h : k.natAbs < 4611686018427387904 ∧ m.natAbs < 4611686018427387904
  · simp only [h, and_self, if_true, r_ret, true_and]
  · simp only [h, if_false, false_and]
    exact r_no rfl
theorem rz_tup {xs ys : List D} {P : List D → Ev → Sto → Prop} : WQ X (zipM (.tup xs) (.tup ys)) e s P = P (List.zipWith (fun x y => .tup [x, y]) xs ys) e s := r_ok rfl
theorem rz_lst {xs ys : List D} {P : List D → Ev → Sto → Prop} : WQ X (zipM (.lst xs) (.lst ys)) e s P = P (List.zipWith (fun x y => .tup [x, y]) xs ys) e s := r_ok rfl
theorem rz_tl {xs ys : List D} {P : List D → Ev → Sto → Prop} : WQ X (zipM (.tup xs) (.lst ys)) e s P = P (List.zipWith (fun x y => .tup [x, y]) xs ys) e s := r_ok rfl
theorem rz_lt {xs ys : List D} {P : List D → Ev → Sto → Prop} : WQ X (zipM (.lst xs) (.tup ys)) e s P = P (List.zipWith (fun x y => .tup [x, y]) xs ys) e s := r_ok rfl
theorem rz_ttt {xs ys zs : List D} {P : List D → Ev → Sto → Prop} : WQ X (zip3M (.tup xs) (.tup ys) (.tup zs)) e s P = P (zipL3 xs ys zs) e s := r_ok rfl
theorem rz_ttl {xs ys zs : List D} {P : List D → Ev → Sto → Prop} : WQ X (zip3M (.tup xs) (.tup ys) (.lst zs)) e s P = P (zipL3 xs ys zs) e s := r_ok rfl
theorem rz_lll {xs ys zs : List D} {P : List D → Ev → Sto → Prop} : WQ X (zip3M (.lst xs) (.lst ys) (.lst zs)) e s P = P (zipL3 xs ys zs) e s := r_ok rfl
theorem ri_zip3 {x y z : E} {P : List D → Ev → Sto → Prop} : WQ X (evI O (.zip3 x y z)) e s P = WQ X (evE O x) e s fun r e1 s1 => r.flat = true ∧ WQ X (evE O y) e1 s1 fun r2 e2 s2 => r2.flat = true ∧ WQ X (evE O z) e2 s2 fun r3 e3 s3 => r3.flat = true ∧ WQ X (zip3M r.d r2.d r3.d) e3 s3 P := by
  show WQ X (bnd _ _) e s P = _
  repeat (first | rfl | refine WQ.ext fun _ _ _ => ?_ | refine congrArg (And _) ?_ | rw [r_bnd] | rw [r_frz] | rw [r_ret])
theorem ri_zip {x y : E} {P : List D → Ev → Sto → Prop} : WQ X (evI O (.zip x y)) e s P = WQ X (evE O x) e s fun r e1 s1 => r.flat = true ∧ WQ X (evE O y) e1 s1 fun r2 e2 s2 => r2.flat = true ∧ WQ X (zipM r.d r2.d) e2 s2 P := by
  show WQ X (bnd _ _) e s P = _
  repeat (first | rfl | refine WQ.ext fun _ _ _ => ?_ | refine congrArg (And _) ?_ | rw [r_bnd] | rw [r_frz] | rw [r_ret])
theorem r_dic {kvs : List E} : WQ X (evE O (.dic kvs)) e s p = WQ X (evVs O kvs) e s fun ds e1 s1 => WQ X (lift (dicD ds)) e1 s1 p := by
  show WQ X (bnd _ _) e s p = _
  repeat (first | rfl | refine WQ.ext fun _ _ _ => ?_ | refine congrArg (And _) ?_ | rw [r_bnd] | rw [r_frz] | rw [r_ret])
theorem r_needM {m : Me} {x : Ar} {P : Unit → Ev → Sto → Prop} : WQ X (needM m x) e s P = WQ X (deref x) e s fun d e1 s1 => meR m d = true ∧ P () e1 s1 := by
  show WQ X (bnd _ _) e s P = _
  rw [r_bnd]
  refine WQ.ext fun d e1 s1 => ?_
  by_cases h : meR m d = true
  · rw [if_pos h, r_ret]; simp [h]
  · rw [if_neg h]
    have : (meR m d = true ∧ P () e1 s1) = False := by simp [h]
    rw [this]
    exact r_no rfl
theorem r_me {m : Me} {o a : E} : WQ X (evE O (.me m o a)) e s p = WQ X (asA o (evE O o)) e s fun x e1 s1 => WQ X (needM m x) e1 s1 fun _ e2 s2 => WQ X (asA a (evE O a)) e2 s2 fun y e3 s3 => WQ X (prim2 (meD m) x y) e3 s3 p := by
  show WQ X (bnd _ _) e s p = _
  repeat (first | rfl | refine WQ.ext fun _ _ _ => ?_ | refine congrArg (And _) ?_ | rw [r_bnd] | rw [r_frz] | rw [r_ret])
theorem r_needT {kvs : List (List Int × Str)} {P : Unit → Ev → Sto → Prop} : WQ X (needT (.tab kvs)) e s P = P () e s := r_ok rfl
theorem r_get2 {a b c : E} : WQ X (evE O (.get2 a b c)) e s p = WQ X (evE O a) e s fun r e1 s1 => r.flat = true ∧ WQ X (needT r.d) e1 s1 fun _ e1 s1 => WQ X (evE O b) e1 s1 fun r2 e2 s2 => r2.flat = true ∧ WQ X (evE O c) e2 s2 fun r3 e3 s3 => r3.flat = true ∧ WQ X (lift (get2D r.d r2.d r3.d)) e3 s3 p := by
  show WQ X (bnd _ _) e s p = _
  repeat (first | rfl | refine WQ.ext fun _ _ _ => ?_ | refine congrArg (And _) ?_ | rw [r_bnd] | rw [r_frz] | rw [r_ret])
theorem r_lrange {a : E} : WQ X (evE O (.lrange a)) e s p = WQ X (evE O a) e s fun r e1 s1 => WQ X (asInt r) e1 s1 fun k e2 s2 => k.natAbs ≤ line ∧ p (.new (.lst ((List.range k.toNat).map fun (i : Nat) => .int i))) e2 s2 := by
  show WQ X (bnd _ _) e s p = _
  rw [r_bnd]
  refine WQ.ext fun r e1 s1 => ?_
  try rw [r_bnd]
  refine WQ.ext fun k e2 s2 => ?_
  by_cases h : k.natAbs ≤ line
  · simp only [h, if_true, r_ret, true_and]
  · simp only [h, if_false, false_and]
    exact r_no rfl
theorem en_lst {ds : List D} {P : List D → Ev → Sto → Prop} : WQ X (enM (.lst ds)) e s P = P (List.zipWith (fun (i : Nat) x => .tup [.int i, x]) (List.range ds.length) ds) e s := r_ok rfl
theorem en_tup {ds : List D} {P : List D → Ev → Sto → Prop} : WQ X (enM (.tup ds)) e s P = P (List.zipWith (fun (i : Nat) x => .tup [.int i, x]) (List.range ds.length) ds) e s := r_ok rfl
theorem ri_enum {x : E} {P : List D → Ev → Sto → Prop} : WQ X (evI O (.enum x)) e s P = WQ X (evE O x) e s fun r e1 s1 => r.flat = true ∧ WQ X (enM r.d) e1 s1 P := by
  show WQ X (bnd _ _) e s P = _
  repeat (first | rfl | refine WQ.ext fun _ _ _ => ?_ | refine congrArg (And _) ?_ | rw [r_bnd] | rw [r_frz] | rw [r_ret])
theorem r_calle {f : E} {es : List E} : WQ X (evE O (.calle f es)) e s p = WQ X (evE O f) e s fun r e1 s1 => WQ X (calM O es r) e1 s1 p := by
  show WQ X (bnd _ _) e s p = _
  repeat (first | rfl | refine WQ.ext fun _ _ _ => ?_ | refine congrArg (And _) ?_ | rw [r_bnd] | rw [r_frz] | rw [r_ret])
theorem rc_fn {g : Nat} {es : List E} : WQ X (calM O es (.val (.fn g))) e s p = (O.has g = true ∧ WQ X (evVs O es) e s fun ds e1 s1 => WQ X (callM O g ds) e1 s1 p) := by
  show WQ X (if O.has g then bnd (evVs O es) fun ds => callM O g ds else badM) e s p = _
  by_cases h : O.has g = true
  · rw [if_pos h, r_bnd]; simp [h]
  · rw [if_neg h]
    have : (O.has g = true ∧ WQ X (evVs O es) e s fun ds e1 s1 => WQ X (callM O g ds) e1 s1 p) = False := by simp [h]
    rw [this]
    exact r_no rfl
theorem rx_expr {y : E} : WQ X (exec O (.expr y)) e s pf = WQ X (evE O y) e s fun _ e1 s1 => pf .nx e1 s1 := by
  show WQ X (bnd _ _) e s pf = _
  repeat (first | rfl | refine WQ.ext fun _ _ _ => ?_ | refine congrArg (And _) ?_ | rw [r_bnd] | rw [r_frz] | rw [r_ret])
theorem rx_set {i : Nat} {y : E} : WQ X (exec O (.set i y)) e s pf = WQ X (evE O y) e s fun r e1 s1 => pf .nx (e1.set i (some r)) s1 := by
  show WQ X (bnd _ _) e s pf = _
  rw [r_bnd]
  refine WQ.ext fun r e1 s1 => ?_
  exact r_ok rfl
theorem rx_frz {i : Nat} : WQ X (exec O (.frz i)) e s pf = varP e[i]? (fun _ => pf .nx e s) (fun o => o.flat = true ∧ pf .nx (e.set i (some (.val o.d))) s) := by
  show WQ X (bnd (getVar i) _) e s pf = _
  rw [r_bnd]
  rw [show (WQ X (getVar i) e s fun a e' s' => WQ X (ret Flow.nx) e' s' pf) = WQ X (getVar i) e s fun a e' s' => pf .nx e' s' from WQ.ext fun _ _ _ => r_ret]
  exact r_var (O := O) (p := fun _ e1 s1 => pf .nx e1 s1)
theorem rx_ret {y : E} : WQ X (exec O (.ret y)) e s pf = WQ X (evE O y) e s fun r e1 s1 => pf (.rt r) e1 s1 := by
  show WQ X (bnd _ _) e s pf = _
  repeat (first | rfl | refine WQ.ext fun _ _ _ => ?_ | refine congrArg (And _) ?_ | rw [r_bnd] | rw [r_frz] | rw [r_ret])
theorem rx_iff {q : E} {a b : List S} : WQ X (exec O (.iff q a b)) e s pf = WQ X (evE O q) e s fun r e1 s1 => WQ X (asBl r) e1 s1 fun k e2 s2 => if k = true then WQ X (execs O a) e2 s2 pf else WQ X (execs O b) e2 s2 pf := by
  show WQ X (bnd _ _) e s pf = _
  rw [r_bnd]
  refine WQ.ext fun r e1 s1 => ?_
  try rw [r_bnd]
  refine WQ.ext fun k e2 s2 => ?_
  cases k <;> rfl
theorem rx_mat {i : Nat} {n : Int} {a b : List S} : WQ X (exec O (.mat i n a b)) e s pf = WQ X (evE O (.var i)) e s fun r e1 s1 => WQ X (asInt r) e1 s1 fun k e2 s2 => if k = n then WQ X (execs O a) e2 s2 pf else WQ X (execs O b) e2 s2 pf := by
  show WQ X (bnd _ _) e s pf = _
  rw [r_bnd]
  refine WQ.ext fun r e1 s1 => ?_
  try rw [r_bnd]
  refine WQ.ext fun k e2 s2 => ?_
  by_cases h : k = n
  · rw [if_pos h, if_pos h]
  · rw [if_neg h, if_neg h]
theorem rx_nil : WQ X (execs O []) e s pf = pf .nx e s := r_ok rfl
theorem rx_cons {x : S} {xs : List S} : WQ X (execs O (x :: xs)) e s pf = WQ X (exec O x) e s fun fl e1 s1 => thenP (WQ X (execs O xs) e1 s1 pf) pf fl e1 s1 := by
  show WQ X (bnd _ _) e s pf = _
  rw [r_bnd]
  refine WQ.ext fun fl e1 s1 => ?_
  cases fl <;> first | rfl | exact r_ret
theorem rx_asg {t : T} {y : E} : WQ X (exec O (.asg t y)) e s pf = WQ X (evE O y) e s fun r e1 s1 => r.flat = true ∧ WQ X (asgT t r.d) e1 s1 fun _ e2 s2 => pf .nx e2 s2 := by
  show WQ X (bnd _ _) e s pf = _
  repeat (first | rfl | refine WQ.ext fun _ _ _ => ?_ | refine congrArg (And _) ?_ | rw [r_bnd] | rw [r_frz] | rw [r_ret])
theorem rt_name {i : Nat} {d : D} {P : Unit → Ev → Sto → Prop} : WQ X (asgT (.name i) d) e s P = P () (e.set i (some (.val d))) s := r_ok (by simp [asgT])
theorem rt_tup {ts : List T} {ds : List D} {P : Unit → Ev → Sto → Prop} : WQ X (asgT (.tup ts) (.tup ds)) e s P = WQ X (asgTs ts ds) e s P := by
  rw [show asgT (.tup ts) (.tup ds) = asgTs ts ds from by simp [asgT]]
theorem rt_lst {ts : List T} {ds : List D} {P : Unit → Ev → Sto → Prop} : WQ X (asgT (.tup ts) (.lst ds)) e s P = WQ X (asgTs ts ds) e s P := by
  rw [show asgT (.tup ts) (.lst ds) = asgTs ts ds from by simp [asgT]]
theorem rt_nil {P : Unit → Ev → Sto → Prop} : WQ X (asgTs [] []) e s P = P () e s := r_ok (by simp [asgTs, ret])
theorem rt_cons {t : T} {ts : List T} {d : D} {ds : List D} {P : Unit → Ev → Sto → Prop} : WQ X (asgTs (t :: ts) (d :: ds)) e s P = WQ X (asgT t d) e s fun _ e1 s1 => WQ X (asgTs ts ds) e1 s1 P := by
  rw [show asgTs (t :: ts) (d :: ds) = bnd (asgT t d) fun _ => asgTs ts ds from by simp [asgTs]]
  exact r_bnd
theorem rx_setix {a i y : E} : WQ X (exec O (.setix a i y)) e s pf = WQ X (evE O y) e s fun r e1 s1 => r.flat = true ∧ WQ X (asA a (evE O a)) e1 s1 fun x e2 s2 => WQ X (evE O i) e2 s2 fun r2 e3 s3 => WQ X (asInt r2) e3 s3 fun k e4 s4 => WQ X (change x (setO k r.d)) e4 s4 fun _ e5 s5 => pf .nx e5 s5 := by
  show WQ X (bnd _ _) e s pf = _
  repeat (first | rfl | refine WQ.ext fun _ _ _ => ?_ | refine congrArg (And _) ?_ | rw [r_bnd] | rw [r_frz] | rw [r_ret])
theorem rx_app {a y : E} : WQ X (exec O (.app a y)) e s pf = WQ X (asA a (evE O a)) e s fun x e1 s1 => WQ X (needL x) e1 s1 fun _ e2 s2 => WQ X (evE O y) e2 s2 fun r e3 s3 => r.flat = true ∧ WQ X (change x (appO r.d)) e3 s3 fun _ e4 s4 => pf .nx e4 s4 := by
  show WQ X (bnd _ _) e s pf = _
  repeat (first | rfl | refine WQ.ext fun _ _ _ => ?_ | refine congrArg (And _) ?_ | rw [r_bnd] | rw [r_frz] | rw [r_ret])
theorem rx_ext {a y : E} : WQ X (exec O (.ext a y)) e s pf = WQ X (asA a (evE O a)) e s fun x e1 s1 => WQ X (needL x) e1 s1 fun _ e2 s2 => WQ X (asA y (evE O y)) e2 s2 fun z e3 s3 => WQ X (deref z) e3 s3 fun d e4 s4 => WQ X (change x (extO d)) e4 s4 fun _ e5 s5 => pf .nx e5 s5 := by
  show WQ X (bnd _ _) e s pf = _
  repeat (first | rfl | refine WQ.ext fun _ _ _ => ?_ | refine congrArg (And _) ?_ | rw [r_bnd] | rw [r_frz] | rw [r_ret])
theorem r_pop {a i : E} : WQ X (evE O (.pop a i)) e s p = WQ X (asA a (evE O a)) e s fun x e1 s1 => WQ X (needL x) e1 s1 fun _ e2 s2 => WQ X (evE O i) e2 s2 fun r e3 s3 => WQ X (asInt r) e3 s3 fun k e4 s4 => WQ X (change x (popO k)) e4 s4 p := by
  show WQ X (bnd _ _) e s p = _
  repeat (first | rfl | refine WQ.ext fun _ _ _ => ?_ | refine congrArg (And _) ?_ | rw [r_bnd] | rw [r_frz] | rw [r_ret])
theorem r_needL {x : Ar} {P : Unit → Ev → Sto → Prop} : WQ X (needL x) e s P = WQ X (deref x) e s fun d e1 s1 => lstP d (P () e1 s1) := by
  show WQ X (bnd _ _) e s P = _
  rw [r_bnd]
  refine WQ.ext fun d e1 s1 => ?_
  cases d <;> first | exact r_ok rfl | exact r_no rfl
theorem r_chS {f : Ob → Option (Ob × R)} {i : Nat} : WQ X (change (.s i) f) e s p = varP e[i]? (fun _ => False) (fun o => obP (f o) fun o' r => p r (e.set i (some (.new o'))) s) := by
  unfold varP
  split
  · rename_i d h; exact r_no (by simp only [change, h])
  · rename_i o h
    cases hf : f o with
    | none =>
      refine (r_no (m := change (.s i) f) ?_).trans ?_
      · unfold change; dsimp only; rw [h]; dsimp only; rw [hf]
      · show False = obP (f o) _
        rw [hf]
        rfl
    | some q =>
      obtain ⟨o', r⟩ := q
      refine (r_ok (m := change (.s i) f) (a := r) (e' := e.set i (some (.new o'))) (s' := s) ?_).trans ?_
      · unfold change; dsimp only; rw [h]; dsimp only; rw [hf]
      · show _ = obP (f o) _
        rw [hf]
        rfl
  · rename_i h1 h2
    refine r_no ?_
    unfold change
    dsimp only
    split
    · exact (h2 _ (by assumption)).elim
    · rfl
theorem r_chR {f : Ob → Option (Ob × R)} {n : Nat} {o : Ob} (h : s[n]? = some o) : WQ X (change (.v (.ref n)) f) e s p = obP (f o) fun o' r => p r e (s.set n o') := by
  unfold obP
  split
  · rename_i o' r hf; exact r_ok (by simp only [change, h, hf])
  · rename_i hf; exact r_no (by simp only [change, h, hf])
theorem r_chN {f : Ob → Option (Ob × R)} {n : Nat} : WQ X (change (.v (.ref n)) f) e s p = refP s[n]? fun o => obP (f o) fun o' r => p r e (s.set n o') := by
  cases h : s[n]? with
  | none => exact r_no (by simp only [change, h])
  | some o => exact r_chR h
theorem rr_nil {P : List R → Ev → Sto → Prop} : WQ X (evRs O []) e s P = P [] e s := r_ok rfl
theorem rr_cons {x : E} {xs : List E} {P : List R → Ev → Sto → Prop} : WQ X (evRs O (x :: xs)) e s P = WQ X (evE O x) e s fun r e1 s1 => WQ X (heldR r (evRs O xs)) e1 s1 fun rs e2 s2 => P (r :: rs) e2 s2 := by
  show WQ X (bnd _ _) e s P = _
  repeat (first | rfl | refine WQ.ext fun _ _ _ => ?_ | refine congrArg (And _) ?_ | rw [r_bnd] | rw [r_frz] | rw [r_ret])
theorem rx_par {is : List Nat} {es : List E} : WQ X (exec O (.par is es)) e s pf = WQ X (evRs O es) e s fun rs e1 s1 => rs.length = is.length ∧ pf .nx (sets is rs e1) s1 := by
  show WQ X (bnd _ _) e s pf = _
  rw [r_bnd]
  refine WQ.ext fun rs e1 s1 => ?_
  by_cases h : rs.length = is.length
  · simp only [h, if_true, true_and]
    exact r_ok rfl
  · simp only [h, if_false, false_and]
    exact r_no rfl
theorem rx_pass : WQ X (exec O .pass) e s pf = pf .nx e s := r_ok rfl
theorem rx_for {t : T} {it : I} {b : List S} : WQ X (exec O (.for t it b)) e s pf = WQ X (evI O it) e s fun items e1 s1 => WQ X (forL (fun x => bnd (asgT t x) fun _ => execs O b) items) e1 s1 pf := by
  show WQ X (bnd _ _) e s pf = _
  rw [r_bnd]
theorem r_callX {g : Nat} {ds : List D} {c : Nat} {s' : Sto} (h : O.call g ds s = .exc c s') : WQ X (callM O g ds) e s p = X c s' := r_exc (e' := e) (by unfold callM; rw [h]; rfl)
theorem rx_raise {g : Nat} : WQ X (exec O (.raise g)) e s pf = X g s := r_exc (e' := e) rfl
theorem run_q {F : Fn} {ds : List D} {c : COut} (e : Ev) (hl : ds.length = F.np) (he : ds.map (fun d => some (.val d)) ++ List.replicate (F.nl - F.np) none = e) (h : WQ (fun k s' => c = .exc k s') (execs O F.body) e s fun fl _ s' => (∃ r, fl = .rt r ∧ c = .ok r s') ∨ (fl = .nx ∧ c = .ok (.val .non) s')) : F.run O ds s = c := by
  unfold Fn.run
  rw [if_pos hl, he]
  cases h with
  | ok fl e2 s2 h1 h2 =>
    rw [h1]
    rcases h2 with ⟨r, rfl, rfl⟩ | ⟨rfl, rfl⟩ <;> rfl
  | exc k e2 s2 h1 h2 => rw [h1]; exact h2.symm
end
end Mi.Q
namespace Mi
open PySem
theorem wipe_n {a : Option R} {l : Ev} : wipeE (a :: l) [] = a :: l := rfl
theorem wipe_c {a : Option R} {l : Ev} {v : Nat} {vs : List Nat} : wipeE (a :: l) (v :: vs) = (wipeE (a :: l) vs).set v none := rfl
end Mi
namespace Mi
open PySem
def F_is_integer : Fn := ⟨1, 1, [.ret (.and (.isi (.var 0) .int) (.not (.isi (.var 0) .bool)))]⟩
def F_is_sign (x_SIGNS : Nat) (x_is_integer : Nat) : Fn := ⟨1, 1, [.ret (.and (.call x_is_integer [.var 0]) (.cmp .In (.var 0) (.glob x_SIGNS)))]⟩
def F_are_signs (x_is_sign : Nat) : Fn := ⟨2, 3, [.ret (.and (.isi (.var 0) .tuple) (.and (.cmp .Eq (.bi .len [.var 0]) (.var 1)) (.bi .all [.comp (.call x_is_sign [.var 2]) (.name 2) (.seq (.var 0)) .nop [2]])))]⟩
def F_is_table (x_MOST_ROWS : Nat) (x_are_signs : Nat) : Fn := ⟨1, 2, [.iff (.or (.not (.isi (.var 0) .tuple)) (.not (.chain .LtE .LtE (.cst (.int 1)) (.bi .len [.var 0]) (.glob x_MOST_ROWS)))) [.ret (.cst (.bl false))] [], .ret (.bi .all [.comp (.call x_are_signs [.var 1, .bi .len [.var 0]]) (.name 1) (.seq (.var 0)) .nop [1]])]⟩
def F_law_cell : Fn := ⟨2, 2, [.ret (.ife (.cmp .Lt (.var 1) (.bi .len [.var 0])) (.ix (.var 0) (.var 1)) (.cst (.int 0)))]⟩
def F_law_pen : Fn := ⟨1, 1, [.ret (.lst [.bi .max [.cst (.int 0), .bin .Sub (.var 0) (.bin .Pow (.cst (.int 10)) (.cst (.int 18)))], .bin .Add (.bin .Mod (.var 0) (.cst (.int 2147483629))) (.cst (.int 1)), .cst (.int 0)])]⟩
def F_law_draw : Fn := ⟨2, 4, [.iff (.cmp .Gt (.ix (.var 0) (.cst (.int 0))) (.cst (.int 0))) [.set 2 (.bin .Mod (.ix (.var 0) (.cst (.int 0))) (.var 1)), .setix (.var 0) (.cst (.int 0)) (.bin .FloorDiv (.ix (.var 0) (.cst (.int 0))) (.var 1)), .ret (.var 2)] [], .setix (.var 0) (.cst (.int 2)) (.bin .Add (.ix (.var 0) (.cst (.int 2))) (.cst (.int 1))), .setix (.var 0) (.cst (.int 1)) (.bin .Mod (.bin .Add (.bin .Add (.bin .Mult (.ix (.var 0) (.cst (.int 1))) (.cst (.int 48271))) (.bin .Mult (.cst (.int 1009)) (.ix (.var 0) (.cst (.int 2))))) (.cst (.int 7))) (.cst (.int 2147483647))), .set 3 (.bin .Mod (.bin .Add (.bin .Add (.bin .Mult (.ix (.var 0) (.cst (.int 1))) (.ix (.var 0) (.cst (.int 1)))) (.bin .Mult (.cst (.int 69621)) (.ix (.var 0) (.cst (.int 1))))) (.cst (.int 11))) (.cst (.int 2147483629))), .set 3 (.bin .Mod (.bin .Add (.bin .Mult (.var 3) (.var 3)) (.bin .Mult (.cst (.int 40014)) (.var 3))) (.cst (.int 2147483587))), .ret (.bin .Mod (.bin .FloorDiv (.var 3) (.cst (.int 16))) (.var 1))]⟩
def F_law_pick (x_law_draw : Nat) : Fn := ⟨2, 2, [.ret (.ix (.var 1) (.call x_law_draw [.var 0, .bi .len [.var 1]]))]⟩
def F_law_same : Fn := ⟨2, 2, [.ret (.cmp .Eq (.bi .repr [.var 0]) (.bi .repr [.var 1]))]⟩
def F_law_signs (x_law_draw : Nat) : Fn := ⟨3, 4, [.ret (.bi .tuple [.comp (.ife (.cmp .Lt (.call x_law_draw [.var 0, .cst (.int 4)]) (.var 2)) (.cst (.int 0)) (.bin .Sub (.bin .Mult (.cst (.int 2)) (.call x_law_draw [.var 0, .cst (.int 2)])) (.cst (.int 1)))) (.name 3) (.range (.var 1)) .nop [3]])]⟩
def F_law_any_table (x_law_draw : Nat) (x_law_signs : Nat) : Fn := ⟨2, 4, [.set 2 (.call x_law_draw [.var 0, .cst (.int 4)]), .ret (.bi .tuple [.comp (.call x_law_signs [.var 0, .var 1, .var 2]) (.name 3) (.range (.var 1)) .nop [3]])]⟩
def F_law_grounded (x_law_any_table : Nat) : Fn := ⟨2, 4, [.set 2 (.call x_law_any_table [.var 0, .var 1]), .ret (.bi .tuple [.comp (.bin .Add (.bin .Add (.sl (.ix (.var 2) (.var 3)) .nop (.var 3)) (.tup [.neg (.cst (.int 1))])) (.sl (.ix (.var 2) (.var 3)) (.bin .Add (.var 3) (.cst (.int 1))) .nop)) (.name 3) (.range (.var 1)) .nop [3]])]⟩
def F_law_stepped (x_law_signs : Nat) (x_law_draw : Nat) : Fn := ⟨2, 4, [.set 2 (.lst []), .for (.name 3) (.range (.var 1)) [.app (.var 2) (.bin .Add (.bin .Add (.call x_law_signs [.var 0, .var 3, .cst (.int 1)]) (.tup [.bin .Sub (.bin .Mult (.cst (.int 2)) (.call x_law_draw [.var 0, .cst (.int 2)])) (.cst (.int 1))])) (.bin .Mult (.tup [.cst (.int 0)]) (.bin .Sub (.bin .Sub (.var 1) (.var 3)) (.cst (.int 1)))))], .ret (.bi .tuple [.var 2])]⟩
def F_law_circle (x_law_draw : Nat) : Fn := ⟨2, 6, [.set 3 (.comp (.alloc (.bin .Mult (.lst [.cst (.int 0)]) (.var 1))) (.name 2) (.range (.var 1)) .nop [2]), .for (.name 2) (.range (.var 1)) [.set 4 (.ix (.var 3) (.bin .Mod (.bin .Add (.var 2) (.cst (.int 1))) (.var 1))), .setix (.var 4) (.var 2) (.cst (.int 1))], .set 4 (.ix (.var 3) (.cst (.int 0))), .setix (.var 4) (.bin .Sub (.var 1) (.cst (.int 1))) (.ife (.cmp .Gt (.var 1) (.cst (.int 1))) (.neg (.cst (.int 1))) (.cst (.int 0))), .for (.name 5) (.range (.call x_law_draw [.var 0, .cst (.int 3)])) [.set 4 (.ix (.var 3) (.call x_law_draw [.var 0, .var 1])), .setix (.var 4) (.call x_law_draw [.var 0, .var 1]) (.bin .Sub (.bin .Mult (.cst (.int 2)) (.call x_law_draw [.var 0, .cst (.int 2)])) (.cst (.int 1)))], .ret (.bi .tuple [.comp (.bi .tuple [.bin .Add (.bin .Add (.sl (.var 4) .nop (.var 2)) (.lst [.neg (.cst (.int 1))])) (.sl (.var 4) (.bin .Add (.var 2) (.cst (.int 1))) .nop)]) (.tup [.name 2, .name 4]) (.enum (.var 3)) .nop [2, 4]])]⟩
def F_law_mixed_up (x_law_draw : Nat) : Fn := ⟨2, 7, [.par [2, 3] [.bi .list [.var 1], .lst []], .whl 4096 (.cmp .NotEq (.var 2) (.lst [])) [.asg (.tup [.name 4, .name 5]) (.tup [.pop (.var 2) (.call x_law_draw [.var 0, .bi .len [.var 2]]), .bin .Sub (.bin .Mult (.cst (.int 2)) (.call x_law_draw [.var 0, .cst (.int 2)])) (.cst (.int 1))]), .app (.var 3) (.bi .tuple [.comp (.bin .Mult (.var 5) (.var 6)) (.name 6) (.seq (.var 4)) .nop [6]])], .ret (.bi .tuple [.var 3])]⟩
def F_law_table_2 (x_law_draw : Nat) (x_law_any_table : Nat) (x_law_grounded : Nat) (x_law_stepped : Nat) (x_law_circle : Nat) (x_law_mixed_up : Nat) (x_law_pick : Nat) : Fn := ⟨2, 3, [.set 2 (.call x_law_draw [.var 0, .cst (.int 6)]), .iff (.cmp .Eq (.var 2) (.cst (.int 0))) [.ret (.call x_law_any_table [.var 0, .var 1])] [], .iff (.cmp .Eq (.var 2) (.cst (.int 1))) [.ret (.call x_law_grounded [.var 0, .var 1])] [], .iff (.cmp .Eq (.var 2) (.cst (.int 2))) [.ret (.call x_law_stepped [.var 0, .var 1])] [], .iff (.cmp .Eq (.var 2) (.cst (.int 3))) [.ret (.call x_law_circle [.var 0, .var 1])] [], .ret (.call x_law_mixed_up [.var 0, .calle (.call x_law_pick [.var 0, .lst [.glob x_law_grounded, .glob x_law_stepped, .glob x_law_circle]]) [.var 0, .var 1]])]⟩
def F_law_is_sign : Fn := ⟨1, 1, [.ret (.and (.isi (.var 0) .int) (.and (.not (.isi (.var 0) .bool)) (.chain .LtE .LtE (.neg (.cst (.int 1))) (.var 0) (.cst (.int 1)))))]⟩
def F_law_are_signs (x_law_is_sign : Nat) : Fn := ⟨2, 3, [.iff (.or (.not (.isi (.var 0) .tuple)) (.cmp .NotEq (.bi .len [.var 0]) (.var 1))) [.ret (.cst (.bl false))] [], .ret (.cmp .Eq (.comp (.cst (.int 1)) (.name 2) (.seq (.var 0)) (.not (.call x_law_is_sign [.var 2])) [2]) (.lst []))]⟩
def F_law_is_table (x_law_are_signs : Nat) : Fn := ⟨1, 2, [.iff (.or (.not (.isi (.var 0) .tuple)) (.not (.chain .LtE .LtE (.cst (.int 1)) (.bi .len [.var 0]) (.cst (.int 5))))) [.ret (.cst (.bl false))] [], .ret (.cmp .Eq (.comp (.cst (.int 1)) (.name 1) (.seq (.var 0)) (.not (.call x_law_are_signs [.var 1, .bi .len [.var 0]])) [1]) (.lst []))]⟩
def F_law_odd (x_law_pick : Nat) : Fn := ⟨1, 2, [.set 1 (.lst [.cst (.non), .cst (.bl true), .cst (.bl false), .cst (.int 0), .cst (.int 1), .neg (.cst (.int 1)), .cst (.int 2), .cst (.str ""), .cst (.str "+"), .tup [], .lst [], .dic [], .tup [.cst (.int 0)], .tup [.tup [.cst (.int 0)]], .lst [.lst [.cst (.int 0)]], .tup [.tup [.cst (.bl true)]], .tup [.tup [.cst (.int 2)]], .tup [.cst (.int 1), .cst (.int 0)]]), .frz 1, .ret (.call x_law_pick [.var 0, .bin .Add (.var 1) (.lst [.tup [.tup [.cst (.int 0), .cst (.int 1)], .tup [.cst (.int 1), .cst (.int 0)]], .tup [.tup [.cst (.int 0), .cst (.int 1)], .tup [.cst (.int 1)]], .tup [.lst [.cst (.int 0)]], .dic [.cst (.int 0), .tup [.tup [.cst (.int 0)]]], .tup [.tup [.cst (.non)]], .bin .Pow (.cst (.int 10)) (.cst (.int 12))])])]⟩
def F_law_bent (x_law_draw : Nat) (x_law_pick : Nat) (x_law_odd : Nat) (x_law_bent : Nat) : Fn := ⟨3, 6, [.iff (.and (.isi (.var 1) .int) (.cmp .Gt (.call x_law_draw [.var 0, .cst (.int 4)]) (.cst (.int 0)))) [.ret (.call x_law_pick [.var 0, .lst [.bin .Add (.var 1) (.cst (.int 1)), .bin .Sub (.var 1) (.cst (.int 1)), .cst (.int 2), .neg (.cst (.int 2)), .cmp .Eq (.var 1) (.cst (.int 1)), .bi .str [.var 1], .tup [.var 1], .bin .Sub (.cst (.int 0)) (.var 1)]])] [], .iff (.or (.not (.isi (.var 1) .tuple)) (.or (.cmp .Eq (.var 1) (.tup [])) (.or (.cmp .Eq (.var 2) (.cst (.int 0))) (.cmp .Eq (.call x_law_draw [.var 0, .cst (.int 8)]) (.cst (.int 0)))))) [.ret (.call x_law_odd [.var 0])] [], .par [3, 4] [.call x_law_draw [.var 0, .bi .len [.var 1]], .call x_law_draw [.var 0, .cst (.int 9)]], .frz 3, .frz 4, .iff (.cmp .Lt (.var 4) (.cst (.int 5))) [.set 5 (.lst [.bin .Add (.sl (.var 1) .nop (.var 3)) (.sl (.var 1) (.bin .Add (.var 3) (.cst (.int 1))) .nop), .bin .Add (.sl (.var 1) .nop (.bin .Add (.var 3) (.cst (.int 1)))) (.sl (.var 1) (.var 3) .nop), .bi .list [.var 1], .rev (.var 1)]), .app (.var 5) (.bin .Add (.var 1) (.sl (.var 1) (.var 3) (.bin .Add (.var 3) (.cst (.int 1))))), .ret (.ix (.var 5) (.var 4))] [], .ret (.bin .Add (.bin .Add (.sl (.var 1) .nop (.var 3)) (.tup [.call x_law_bent [.var 0, .ix (.var 1) (.var 3), .bin .Sub (.var 2) (.cst (.int 1))]])) (.sl (.var 1) (.bin .Add (.var 3) (.cst (.int 1))) .nop))]⟩
def F_need_table (x_is_table : Nat) (x_InvalidTableError : Nat) : Fn := ⟨1, 1, [.iff (.not (.call x_is_table [.var 0])) [.raise x_InvalidTableError] []]⟩
def F_is_push (x_need_table : Nat) (x_are_signs : Nat) : Fn := ⟨2, 2, [.expr (.call x_need_table [.var 0]), .ret (.call x_are_signs [.var 1, .bi .len [.var 0]])]⟩
def F_law_told_2 (x_is_push : Nat) (x_InvalidTableError : Nat) (x_InvalidPushError : Nat) : Fn := ⟨2, 3, [.tri [.ret (.call x_is_push [.var 0, .var 1])] x_InvalidTableError 2 (.ife (.and .ve (.not (.isx x_InvalidPushError))) (.str "refused") (.str "odd"))]⟩
def F_law_k02 (x_law_pen : Nat) (x_law_cell : Nat) (x_law_table : Nat) (x_law_draw : Nat) (x_law_signs : Nat) (x_law_bent : Nat) (x_law_is_table : Nat) (x_law_are_signs : Nat) (x_law_same : Nat) (x_law_told : Nat) : Fn := ⟨1, 7, [.for (.name 1) (.range (.bi .max [.cst (.int 1), .bi .min [.bi .len [.var 0], .cst (.int 3)]])) [.set 2 (.alloc (.call x_law_pen [.call x_law_cell [.var 0, .var 1]])), .for (.name 3) (.range (.cst (.int 16))) [.set 4 (.call x_law_table [.var 2, .bin .Add (.cst (.int 1)) (.call x_law_draw [.var 2, .cst (.int 5)])]), .frz 4, .set 5 (.call x_law_signs [.var 2, .bi .len [.var 4], .cst (.int 1)]), .frz 5, .iff (.cmp .Eq (.bin .Mod (.var 3) (.cst (.int 2))) (.cst (.int 1))) [.set 5 (.call x_law_bent [.var 2, .var 5, .cst (.int 1)]), .frz 5] [], .iff (.cmp .Eq (.bin .Mod (.var 3) (.cst (.int 5))) (.cst (.int 4))) [.set 4 (.call x_law_bent [.var 2, .var 4, .cst (.int 2)]), .frz 4] [], .set 6 (.cst (.str "refused")), .iff (.call x_law_is_table [.var 4]) [.set 6 (.call x_law_are_signs [.var 5, .bi .len [.var 4]]), .frz 6] [], .iff (.not (.call x_law_same [.call x_law_told [.var 4, .var 5], .var 6])) [.ret (.cst (.bl false))] []]], .ret (.cst (.bl true))]⟩
end Mi
namespace Mi
open PySem
structure IsF (T : Tb) (g : Nat) (F : Fn) : Prop where
  fn : T.fn g = some F
  gl : T.gl g = some (.fn g)
structure Lw (T : Tb) (d g : Nat) (C : (List D → Sto → COut) → Prop) : Prop where
  lv : Lv T d g C
  gl : T.gl g = some (.fn g)
  has : (T.fn g).isSome = true
theorem Lw.of {T : Tb} {d g : Nat} {F : Fn} {C : (List D → Sto → COut) → Prop} (h : IsF T g F) (k : ∀ j, d ≤ j → C (F.run (orc T j))) : Lw T (d + 1) g C := ⟨Lv.of h.fn k, h.gl, by rw [h.fn]; rfl⟩
theorem Lw.at {T : Tb} {d g k : Nat} {C : (List D → Sto → COut) → Prop} (h : Lw T d g C) (hk : d ≤ k) : C ((orc T k).call g) := h.lv k hk
theorem Lw.up {T : Tb} {d d' g : Nat} {C : (List D → Sto → COut) → Prop} (h : Lw T d g C) (hd : d ≤ d') : Lw T d' g C := ⟨fun k hk => h.lv k (Nat.le_trans hd hk), h.gl, h.has⟩
def rI (r : List Int) : D := .tup (r.map .int)
def tI (t : List (List Int)) : D := .tup (t.map rI)
def sg (x : Int) : Prop := x = -1 ∨ x = 0 ∨ x = 1
def Row (n : Nat) (r : List Int) : Prop := r.length = n ∧ ∀ x ∈ r, sg x
def Tab (n : Nat) (t : List (List Int)) : Prop := t.length = n ∧ ∀ r ∈ t, Row n r
def pen (a b c : Int) : Ob := .lst [.int a, .int b, .int c]
def PenAt (s : Sto) (n : Nat) : Prop := ∃ a b c, s[n]? = some (pen a b c) ∧ 0 ≤ a ∧ 0 ≤ b ∧ b < 2147483648
theorem run_eq {O : Orc} {F : Fn} {ds : List D} {s : Sto} {r : R} (e : Ev) (hl : ds.length = F.np) (he : ds.map (fun d => some (.val d)) ++ List.replicate (F.nl - F.np) none = e) (h : WP (execs O F.body) e s fun fl _ s' => (fl = .rt r ∨ (fl = .nx ∧ r = .val .non)) ∧ s' = s) : F.run O ds s = .ok r s := by
  obtain ⟨fl, e', s', h1, h2, rfl⟩ := h
  unfold Fn.run
  rw [if_pos hl, he, h1]
  rcases h2 with rfl | ⟨rfl, rfl⟩ <;> rfl
theorem run_ex {O : Orc} {F : Fn} {ds : List D} {s : Sto} {Q : R → Sto → Prop} (e : Ev) (hl : ds.length = F.np) (he : ds.map (fun d => some (.val d)) ++ List.replicate (F.nl - F.np) none = e) (h : WP (execs O F.body) e s fun fl _ s' => ∃ r, fl = .rt r ∧ Q r s') : ∃ r s', F.run O ds s = .ok r s' ∧ Q r s' := by
  obtain ⟨fl, e', s', h1, r, rfl, h2⟩ := h
  refine ⟨r, s', ?_, h2⟩
  unfold Fn.run
  rw [if_pos hl, he, h1]
theorem plains_int : ∀ {l : List Int}, plains (l.map .int) = true
  | [] => rfl
  | a :: l => by simp only [List.map_cons, plains, D.plain, plains_int, Bool.and_self]
theorem depths_int : ∀ {l : List Int}, depths (l.map .int) = 0
  | [] => rfl
  | a :: l => by simp only [List.map_cons, depths, D.depth, depths_int, Nat.max_self]
theorem cmp_ints {l : List Int} : (D.lst (l.map .int)).cmp = true := by simp [D.cmp, D.plain, D.depth, plains_int, depths_int]
theorem cmp_rI {l : List Int} : (D.tup (l.map .int)).cmp = true := by simp [D.cmp, D.plain, D.depth, plains_int, depths_int]
theorem eqv_any {x : Int} : ∀ {l : List Int}, ((l.map D.int).any fun z => eqv z (.int x)) = decide (x ∈ l)
  | [] => rfl
  | a :: l => by
    rw [List.map_cons, List.any_cons, eqv_any]
    simp only [eqv, List.mem_cons]
    by_cases h : a = x
    · subst h; simp
    · have h' : ¬ x = a := fun z => h z.symm
      simp [h, h']
theorem in_row {l : List Int} {x : Int} : cmpD .In (.int x) (.tup (l.map .int)) = some (decide (x ∈ l)) := by
  have h1 : (D.int x).cmp = true := rfl
  simp only [cmpD, h1, cmp_rI, Bool.and_self, if_true, eqv_any]
theorem in_signs {x : Int} : cmpD .In (.int x) (.tup [.int (-1), .int 0, .int 1]) = some (decide (x ∈ [(-1 : Int), 0, 1])) := in_row (l := [-1, 0, 1])
def signsD : D := .tup [.int (-1), .int 0, .int 1]
theorem sg_mul {x y : Int} (hx : sg x) (hy : sg y) : sg (x * y) := by
  rcases hx with rfl | rfl | rfl <;> rcases hy with rfl | rfl | rfl <;> simp [sg]
theorem pen_ix0 {a b c : Int} : ixD (.lst [.int a, .int b, .int c]) (.int 0) = some (.int a) := rfl
theorem pen_ix1 {a b c : Int} : ixD (.lst [.int a, .int b, .int c]) (.int 1) = some (.int b) := rfl
theorem pen_ix2 {a b c : Int} : ixD (.lst [.int a, .int b, .int c]) (.int 2) = some (.int c) := rfl
theorem pen_set0 {a b c : Int} {d : D} : setO 0 d (.lst [.int a, .int b, .int c]) = some (.lst [d, .int b, .int c], .val .non) := rfl
theorem pen_set1 {a b c : Int} {d : D} : setO 1 d (.lst [.int a, .int b, .int c]) = some (.lst [.int a, d, .int c], .val .non) := rfl
theorem pen_set2 {a b c : Int} {d : D} : setO 2 d (.lst [.int a, .int b, .int c]) = some (.lst [.int a, .int b, d], .val .non) := rfl
theorem mulR {i j : Int} (h : j.natAbs < 18446744073709551616) : mulOk i j = true := by simp [mulOk, h]
theorem mulL {i j : Int} (h : i.natAbs < 18446744073709551616) : mulOk i j = true := by simp [mulOk, h]
theorem fmod_lt {a m : Int} (h : 0 < m) : 0 ≤ a.fmod m ∧ a.fmod m < m := by
  rw [Int.fmod_eq_emod_of_nonneg a (by omega)]
  exact ⟨Int.emod_nonneg _ (by omega), Int.emod_lt_of_pos _ h⟩
def DrawC (C : List D → Sto → COut) : Prop := ∀ (s : Sto) (n : Nat) (m : Int), PenAt s n → 0 < m → m < 1073741824 → ∃ (d : Int) (o : Ob), C [.ref n, .int m] s = .ok (.val (.int d)) (s.set n o) ∧ 0 ≤ d ∧ d < m ∧ PenAt (s.set n o) n
section
variable {T : Tb} {d g : Nat}
theorem c_law_draw (h : IsF T g F_law_draw) : Lw T (d + 1) g DrawC := Lw.of h fun j _ s n m hp hm hm2 => by
  obtain ⟨a, b, c, hs, ha, hb, hb2⟩ := hp
  have hn : n < s.length := (List.getElem?_eq_some_iff.mp hs).1
  have hm0 : m ≠ 0 := by omega
  have hm3 : m ≠ 0 ∧ m.natAbs < 1073741824 := by omega
  have hr : ∀ o : Ob, (s.set n o)[n]? = some o := fun o => by simp [hn]
  have hss : ∀ o o' : Ob, (s.set n o).set n o' = s.set n o' := fun o o' => by simp
  by_cases h0 : 0 < a
  · have z : ∃ r s', F_law_draw.run (orc T j) [.ref n, .int m] s = .ok r s' ∧ (r = .val (.int (a.fmod m)) ∧ s' = s.set n (pen (a.fdiv m) b c)) := by
      refine run_ex [some (.val (.ref n)), some (.val (.int m)), none, none] rfl rfl ?_
      unfold F_law_draw
      rw [pen] at hs
      simp -dsimp only [wipe_n, wipe_c, ↓ra_nop, ↓ra_cst, ↓ra_glob, ↓ra_tup, ↓ra_lst, ↓ra_dic, ↓ra_bin, ↓ra_neg, ↓ra_not, ↓ra_and, ↓ra_or, ↓ra_ife, ↓ra_cmp, ↓ra_chain, ↓ra_ix, ↓ra_sl, ↓ra_rev, ↓ra_get2, ↓r_get2, ↓r_needT, ↓ra_isi, ↓ra_bi, ↓ra_call, ↓ra_calle, ↓ra_pop, ↓ra_alloc, ↓ra_comp, ↓ra_comp2, ↓ra_me, ↓ra_lrange, ↓r_dic, ↓r_needM, ↓r_me, ↓r_lrange, me_cl, me_js, me_ss, ↓r_cst, ↓r_glob, ↓re_nil, ↓re_cons, ↓rsa_nil, ↓rsa_cons, ↓r_tup, ↓r_lst, ↓r_bin, ↓r_cmp, ↓r_ix, ↓r_neg, ↓r_isi, ↓r_bi, ↓r_not, ↓r_and, ↓r_or, ↓r_ife, ↓r_chain, ↓r_none, ↓rp_cst, ↓rp_glob, ↓rp_bin, ↓rp_neg, ↓rp_ife, ↓rp_ix, ↓rp_bi, ↓rp_call, ↓rp_var, ↓r_sl, ↓r_call, ↓r_alloc, ↓r_allocM, ↓r_prim1, ↓r_prim2, ↓r_primN, ↓rd_nil, ↓rd_cons, ↓rd_int, ↓rd_bl, ↓rd_str, ↓rd_non, ↓rd_tup, ↓rd_lst, ↓rd_scr, ↓rd_dic, ↓rd_cls, ↓rd_fn, ↓rd_s, ↓rd_r, ↓r_chN, refP_s, ↓ri_seq, ↓rq_tup, ↓rq_lst, ↓r_var, ↓ra_var, ↓r_ret, ↓r_frz, ↓r_asBl, ↓r_asInt, ↓r_liftS, ↓ri_range, ↓ri_range2, ↓ri_zip, ↓ri_enum, ↓r_calle, ↓rc_fn, ↓en_lst, ↓en_tup, ↓rz_tup, ↓rz_lst, ↓rz_tl, ↓rz_lt, ↓ri_zip3, ↓rz_ttt, ↓rz_ttl, ↓rz_lll, ↓rx_expr, ↓rx_set, ↓rx_frz, ↓rx_ret, ↓rx_iff, ↓rx_mat, ↓then_nx, ↓then_rt, ↓then_bk, ↓then_ct, ↓rx_nil, ↓rx_cons, ↓rx_asg, ↓rt_name, ↓rt_tup, ↓rt_lst, ↓rt_nil, ↓rt_cons, ↓rx_setix, ↓rx_app, ↓rx_ext, ↓r_pop, ↓r_needL, ↓lstP_l, ↓obP_s, ↓r_chS, ↓rr_nil, ↓rr_cons, ↓rh_v, ↓rh_l, ↓rx_par, ↓rx_pass, ↓rx_for, ↓varP_v, ↓varP_n, bin_addI, bin_subI, cmp_lt, cmp_le, cmp_gt, cmp_ge, cmp_eqI, cmp_neI, cmp_eqB, cmp_eqS, cmp_neS, blR_s, bi_lenT, bi_lenL, bi_lenS, bi_tupT, bi_tupL, bi_lstT, bi_lstL, bi_max, bi_min, bi_intB, neg_i, isi_int, isi_tup, isi_lst, isi_dic, isi_str, isi_non, isi_bl, List.getElem?_cons_zero, List.getElem?_cons_succ, List.set_cons_zero, List.set_cons_succ, Option.map_some, R.flat, R.d, Ob.flat, Ob.d, true_and, and_true, eq_self, decide_eq_true_eq, reduceIte, Bool.true_and, Bool.false_and, Bool.and_false, Bool.and_true, Bool.false_eq_true, decide_true, decide_false, Bool.not_true, Bool.not_false, List.length_map, List.length_cons, List.length_nil, reduceCtorEq, and_self, true_or, or_true, or_false, false_or, or_self, hs, pen, pen_ix0, pen_ix1, pen_ix2, pen_set0, pen_set1, pen_set2, bin_modI hm0, bin_divI hm3, h0]
      exact ⟨_, rfl, rfl⟩
    obtain ⟨r, s', h1, rfl, rfl⟩ := z
    obtain ⟨q1, q2⟩ := fmod_lt (a := a) hm
    refine ⟨_, _, h1, q1, q2, _, _, _, hr _, ?_, hb, hb2⟩
    rw [Int.fdiv_eq_ediv_of_nonneg _ (by omega)]
    exact Int.ediv_nonneg ha (by omega)
  · have a0 : a = 0 := by omega
    subst a0
    rw [pen] at hs
    obtain ⟨u1, u2⟩ := fmod_lt (a := b * 48271 + 1009 * (c + 1) + 7) (m := 2147483647) (by omega)
    generalize hy : (b * 48271 + 1009 * (c + 1) + 7).fmod 2147483647 = y at u1 u2
    obtain ⟨w1, w2⟩ := fmod_lt (a := y * y + 69621 * y + 11) (m := 2147483629) (by omega)
    generalize hx : (y * y + 69621 * y + 11).fmod 2147483629 = x at w1 w2
    have z : ∃ r s', F_law_draw.run (orc T j) [.ref n, .int m] s = .ok r s' ∧ (r = .val (.int ((((x * x + 40014 * x).fmod 2147483587).fdiv 16).fmod m)) ∧ s' = s.set n (pen 0 y (c + 1))) := by
      refine run_ex [some (.val (.ref n)), some (.val (.int m)), none, none] rfl rfl ?_
      unfold F_law_draw
      have m1 : mulOk b 48271 = true := mulR (by decide)
      have m2 : mulOk 1009 (c + 1) = true := mulL (by decide)
      have m3 : mulOk y y = true := mulR (by omega)
      have m4 : mulOk 69621 y = true := mulL (by decide)
      have m5 : mulOk x x = true := mulR (by omega)
      have m6 : mulOk 40014 x = true := mulL (by decide)
      simp -dsimp only [wipe_n, wipe_c, ↓ra_nop, ↓ra_cst, ↓ra_glob, ↓ra_tup, ↓ra_lst, ↓ra_dic, ↓ra_bin, ↓ra_neg, ↓ra_not, ↓ra_and, ↓ra_or, ↓ra_ife, ↓ra_cmp, ↓ra_chain, ↓ra_ix, ↓ra_sl, ↓ra_rev, ↓ra_get2, ↓r_get2, ↓r_needT, ↓ra_isi, ↓ra_bi, ↓ra_call, ↓ra_calle, ↓ra_pop, ↓ra_alloc, ↓ra_comp, ↓ra_comp2, ↓ra_me, ↓ra_lrange, ↓r_dic, ↓r_needM, ↓r_me, ↓r_lrange, me_cl, me_js, me_ss, ↓r_cst, ↓r_glob, ↓re_nil, ↓re_cons, ↓rsa_nil, ↓rsa_cons, ↓r_tup, ↓r_lst, ↓r_bin, ↓r_cmp, ↓r_ix, ↓r_neg, ↓r_isi, ↓r_bi, ↓r_not, ↓r_and, ↓r_or, ↓r_ife, ↓r_chain, ↓r_none, ↓rp_cst, ↓rp_glob, ↓rp_bin, ↓rp_neg, ↓rp_ife, ↓rp_ix, ↓rp_bi, ↓rp_call, ↓rp_var, ↓r_sl, ↓r_call, ↓r_alloc, ↓r_allocM, ↓r_prim1, ↓r_prim2, ↓r_primN, ↓rd_nil, ↓rd_cons, ↓rd_int, ↓rd_bl, ↓rd_str, ↓rd_non, ↓rd_tup, ↓rd_lst, ↓rd_scr, ↓rd_dic, ↓rd_cls, ↓rd_fn, ↓rd_s, ↓rd_r, ↓r_chN, refP_s, ↓ri_seq, ↓rq_tup, ↓rq_lst, ↓r_var, ↓ra_var, ↓r_ret, ↓r_frz, ↓r_asBl, ↓r_asInt, ↓r_liftS, ↓ri_range, ↓ri_range2, ↓ri_zip, ↓ri_enum, ↓r_calle, ↓rc_fn, ↓en_lst, ↓en_tup, ↓rz_tup, ↓rz_lst, ↓rz_tl, ↓rz_lt, ↓ri_zip3, ↓rz_ttt, ↓rz_ttl, ↓rz_lll, ↓rx_expr, ↓rx_set, ↓rx_frz, ↓rx_ret, ↓rx_iff, ↓rx_mat, ↓then_nx, ↓then_rt, ↓then_bk, ↓then_ct, ↓rx_nil, ↓rx_cons, ↓rx_asg, ↓rt_name, ↓rt_tup, ↓rt_lst, ↓rt_nil, ↓rt_cons, ↓rx_setix, ↓rx_app, ↓rx_ext, ↓r_pop, ↓r_needL, ↓lstP_l, ↓obP_s, ↓r_chS, ↓rr_nil, ↓rr_cons, ↓rh_v, ↓rh_l, ↓rx_par, ↓rx_pass, ↓rx_for, ↓varP_v, ↓varP_n, bin_addI, bin_subI, cmp_lt, cmp_le, cmp_gt, cmp_ge, cmp_eqI, cmp_neI, cmp_eqB, cmp_eqS, cmp_neS, blR_s, bi_lenT, bi_lenL, bi_lenS, bi_tupT, bi_tupL, bi_lstT, bi_lstL, bi_max, bi_min, bi_intB, neg_i, isi_int, isi_tup, isi_lst, isi_dic, isi_str, isi_non, isi_bl, List.getElem?_cons_zero, List.getElem?_cons_succ, List.set_cons_zero, List.set_cons_succ, Option.map_some, R.flat, R.d, Ob.flat, Ob.d, true_and, and_true, eq_self, decide_eq_true_eq, reduceIte, Bool.true_and, Bool.false_and, Bool.and_false, Bool.and_true, Bool.false_eq_true, decide_true, decide_false, Bool.not_true, Bool.not_false, List.length_map, List.length_cons, List.length_nil, reduceCtorEq, and_self, true_or, or_true, or_false, false_or, or_self, hs, hr, hss, pen, pen_ix0, pen_ix1, pen_ix2, pen_set0, pen_set1, pen_set2, bin_modI hm0, bin_modI (j := 2147483647) (by decide), bin_modI (j := 2147483629) (by decide), bin_modI (j := 2147483587) (by decide), bin_divI (j := 16) (by decide), h0, bin_mulI m1, bin_mulI m2, bin_mulI m3, bin_mulI m4, bin_mulI m5, bin_mulI m6, hy, hx]
      exact ⟨_, rfl, rfl⟩
    obtain ⟨r, s', h1, rfl, rfl⟩ := z
    obtain ⟨q1, q2⟩ := fmod_lt (a := ((x * x + 40014 * x).fmod 2147483587).fdiv 16) hm
    exact ⟨_, _, h1, q1, q2, _, _, _, hr _, by omega, u1, by omega⟩
end
def Pn (n : Nat) (s s' : Sto) : Prop := PenAt s' n ∧ n < s.length ∧ ∃ o t, s' = s.set n o ++ t
theorem Pn.refl {n : Nat} {s : Sto} (h : PenAt s n) : Pn n s s := ⟨h, by
  obtain ⟨a, b, c, h1, _⟩ := h
  obtain ⟨h2, h3⟩ := List.getElem?_eq_some_iff.mp h1
  refine ⟨h2, pen a b c, [], ?_⟩
  rw [← h3]
  simp⟩
theorem Pn.trans {n : Nat} {s s' s'' : Sto} (h : Pn n s s') (h' : Pn n s' s'') : Pn n s s'' := ⟨h'.1, h.2.1, by
  obtain ⟨_, hl, o, t, rfl⟩ := h
  obtain ⟨_, _, o', t', rfl⟩ := h'
  refine ⟨o', t ++ t', ?_⟩
  rw [List.set_append_left _ _ (by simpa using hl), List.set_set, List.append_assoc]⟩
theorem Pn.other {n m : Nat} {s s' : Sto} (h : Pn n s s') (hm : m ≠ n) {o : Ob} (ho : s[m]? = some o) : s'[m]? = some o := by
  obtain ⟨_, hl, o', t, rfl⟩ := h
  have h1 := (List.getElem?_eq_some_iff.mp ho).1
  rw [List.getElem?_append_left (by simpa using h1), List.getElem?_set_ne (Ne.symm hm), ho]
theorem Pn.len {n : Nat} {s s' : Sto} (h : Pn n s s') : s.length ≤ s'.length := by
  obtain ⟨_, hl, o', t, rfl⟩ := h
  simp
theorem DrawC.gives {C : List D → Sto → COut} (h : DrawC C) {s : Sto} {n : Nat} {m : Int} (hp : PenAt s n) (h1 : 0 < m) (h2 : m < 1073741824) : ∃ (d : Int) (s' : Sto), C [.ref n, .int m] s = .ok (.val (.int d)) s' ∧ (0 ≤ d ∧ d < m) ∧ Pn n s s' := by
  obtain ⟨d, o, e1, a, b, c⟩ := h s n m hp h1 h2
  have hl : n < s.length := by obtain ⟨_, _, _, q, _⟩ := hp; exact (List.getElem?_eq_some_iff.mp q).1
  exact ⟨d, _, e1, ⟨a, b⟩, c, hl, o, [], by simp⟩
def SignsC (C : List D → Sto → COut) : Prop := ∀ (s : Sto) (n k : Nat) (q : Int), PenAt s n → k ≤ 1000 → ∃ r s', C [.ref n, .int k, .int q] s = .ok (.val (rI r)) s' ∧ Row k r ∧ Pn n s s'
theorem item_at {α : Type} {xs : List α} {d : Int} (h0 : 0 ≤ d) (h1 : d < xs.length) : ∃ x, xs[d.toNat]? = some x ∧ item xs d = some x := by
  have hl : d.toNat < xs.length := by omega
  refine ⟨xs[d.toNat], List.getElem?_eq_getElem hl, ?_⟩
  simp only [item, place, h0, h1, if_true, Option.bind_some]
  exact List.getElem?_eq_getElem hl
theorem item_nat {α : Type} {xs : List α} {i : Nat} {x : α} (h : xs[i]? = some x) : item xs (i : Int) = some x := by
  obtain ⟨h1, h2⟩ := List.getElem?_eq_some_iff.mp h
  obtain ⟨y, h3, h4⟩ := item_at (xs := xs) (d := i) (by omega) (by omega)
  rw [h4, ← h3]
  simpa using h
theorem rI_def {r : List Int} : rI r = .tup (r.map .int) := rfl
theorem tI_def {t : List (List Int)} : tI t = .tup (t.map rI) := rfl
def TabC (C : List D → Sto → COut) : Prop := ∀ (s : Sto) (n k : Nat), PenAt s n → 1 ≤ k → k ≤ 7 → ∃ t s', C [.ref n, .int k] s = .ok (.val (tI t)) s' ∧ Tab k t ∧ Pn n s s'
def AnyTabC (C : List D → Sto → COut) : Prop := ∀ (s : Sto) (n k : Nat), PenAt s n → k ≤ 7 → ∃ t s', C [.ref n, .int k] s = .ok (.val (tI t)) s' ∧ Tab k t ∧ Pn n s s'
structure PickC (C : List D → Sto → COut) : Prop where -- pickFun
  lst : ∀ (s : Sto) (n : Nat) (vs : List D), PenAt s n → vs ≠ [] → vs.length < 1000000 → ∃ (i : Nat) (d : D) (s' : Sto), vs[i]? = some d ∧ C [.ref n, .lst vs] s = .ok (.val d) s' ∧ Pn n s s'
  ref : ∀ (s : Sto) (n m : Nat) (vs : List D), PenAt s n → s[m]? = some (.lst vs) → m ≠ n → vs ≠ [] → vs.length < 1000000 → ∃ (i : Nat) (d : D) (s' : Sto), vs[i]? = some d ∧ C [.ref n, .ref m] s = .ok (.val d) s' ∧ Pn n s s'
instance pickFun {C : List D → Sto → COut} : CoeFun (PickC C) (fun _ => ∀ (s : Sto) (n : Nat) (vs : List D), PenAt s n → vs ≠ [] → vs.length < 1000000 → ∃ (i : Nat) (d : D) (s' : Sto), vs[i]? = some d ∧ C [.ref n, .lst vs] s = .ok (.val d) s' ∧ Pn n s s') := ⟨PickC.lst⟩
theorem cut_map {α : Type} {f : α → D} {l : List α} {a b : Option Int} : cut (l.map f) a b = ((l.drop (bound l.length 0 a)).take (bound l.length l.length b - bound l.length 0 a)).map f := by
  simp only [cut, List.length_map, List.map_take, List.map_drop]
theorem cut_to {α : Type} {f : α → D} {l : List α} {i : Nat} (h : i ≤ l.length) : cut (l.map f) none (some (i : Int)) = (l.take i).map f := by
  rw [cut_map]
  have h1 : ¬ ((i : Int) < 0) := by omega
  have h2 : min i l.length = i := by omega
  simp [bound, h1, h2]
theorem cut_from {α : Type} {f : α → D} {l : List α} {i : Nat} (h : i ≤ l.length) : cut (l.map f) (some (i : Int)) none = (l.drop i).map f := by
  rw [cut_map]
  have h1 : ¬ ((i : Int) < 0) := by omega
  have h2 : min i l.length = i := by omega
  simp only [bound, h1, if_false, Int.toNat_natCast, h2]
  rw [List.take_of_length_le (by simp)]
theorem rep_single {d : D} : ∀ {n : Nat}, rep n [d] = List.replicate n d
  | 0 => rfl
  | n + 1 => by
    have := rep_single (d := d) (n := n)
    simp only [rep, List.replicate_succ, List.flatten_cons] at this ⊢
    rw [this]
    rfl
theorem sg_coin {d : Int} (h : 0 ≤ d ∧ d < 2) : sg (2 * d - 1) := by
  have : d = 0 ∨ d = 1 := by omega
  rcases this with rfl | rfl
  · exact .inl rfl
  · exact .inr (.inr rfl)
theorem range_at {k : Nat} {i : Nat} {x : D} (h : ((List.range (k : Int).toNat).map fun (i : Nat) => D.int i)[i]? = some x) : x = .int i ∧ i < k := by
  simp only [List.getElem?_map, Option.map_eq_some_iff] at h
  obtain ⟨i', h1, rfl⟩ := h
  obtain ⟨h2, h3⟩ := List.getElem?_eq_some_iff.mp h1
  simp at h2 h3
  subst h3
  exact ⟨rfl, h2⟩
section
variable {T : Tb} {d g gd gs ga gg gt ge gp : Nat}
theorem c_law_signs (hd : Lw T d gd DrawC) (h : IsF T g (F_law_signs gd)) : Lw T (d + 1) g SignsC := Lw.of h fun j hj s n k q hp hk => by
  have dr := hd.at hj
  have z : ∃ r s', (F_law_signs gd).run (orc T j) [.ref n, .int k, .int q] s = .ok r s' ∧ ∃ l, r = .val (rI l) ∧ Row k l ∧ Pn n s s' := by
    refine run_ex [some (.val (.ref n)), some (.val (.int k)), some (.val (.int q)), none] rfl rfl ?_
    unfold F_law_signs
    simp -dsimp only [wipe_n, wipe_c, ↓ra_nop, ↓ra_cst, ↓ra_glob, ↓ra_tup, ↓ra_lst, ↓ra_dic, ↓ra_bin, ↓ra_neg, ↓ra_not, ↓ra_and, ↓ra_or, ↓ra_ife, ↓ra_cmp, ↓ra_chain, ↓ra_ix, ↓ra_sl, ↓ra_rev, ↓ra_get2, ↓r_get2, ↓r_needT, ↓ra_isi, ↓ra_bi, ↓ra_call, ↓ra_calle, ↓ra_pop, ↓ra_alloc, ↓ra_comp, ↓ra_comp2, ↓ra_me, ↓ra_lrange, ↓r_dic, ↓r_needM, ↓r_me, ↓r_lrange, me_cl, me_js, me_ss, ↓r_cst, ↓r_glob, ↓re_nil, ↓re_cons, ↓rsa_nil, ↓rsa_cons, ↓r_tup, ↓r_lst, ↓r_bin, ↓r_cmp, ↓r_ix, ↓r_neg, ↓r_isi, ↓r_bi, ↓r_not, ↓r_and, ↓r_or, ↓r_ife, ↓r_chain, ↓r_none, ↓rp_cst, ↓rp_glob, ↓rp_bin, ↓rp_neg, ↓rp_ife, ↓rp_ix, ↓rp_bi, ↓rp_call, ↓rp_var, ↓r_sl, ↓r_call, ↓r_alloc, ↓r_allocM, ↓r_prim1, ↓r_prim2, ↓r_primN, ↓rd_nil, ↓rd_cons, ↓rd_int, ↓rd_bl, ↓rd_str, ↓rd_non, ↓rd_tup, ↓rd_lst, ↓rd_scr, ↓rd_dic, ↓rd_cls, ↓rd_fn, ↓rd_s, ↓rd_r, ↓r_chN, refP_s, ↓ri_seq, ↓rq_tup, ↓rq_lst, ↓r_var, ↓ra_var, ↓r_ret, ↓r_frz, ↓r_asBl, ↓r_asInt, ↓r_liftS, ↓ri_range, ↓ri_range2, ↓ri_zip, ↓ri_enum, ↓r_calle, ↓rc_fn, ↓en_lst, ↓en_tup, ↓rz_tup, ↓rz_lst, ↓rz_tl, ↓rz_lt, ↓ri_zip3, ↓rz_ttt, ↓rz_ttl, ↓rz_lll, ↓rx_expr, ↓rx_set, ↓rx_frz, ↓rx_ret, ↓rx_iff, ↓rx_mat, ↓then_nx, ↓then_rt, ↓then_bk, ↓then_ct, ↓rx_nil, ↓rx_cons, ↓rx_asg, ↓rt_name, ↓rt_tup, ↓rt_lst, ↓rt_nil, ↓rt_cons, ↓rx_setix, ↓rx_app, ↓rx_ext, ↓r_pop, ↓r_needL, ↓lstP_l, ↓obP_s, ↓r_chS, ↓rr_nil, ↓rr_cons, ↓rh_v, ↓rh_l, ↓rx_par, ↓rx_pass, ↓rx_for, ↓varP_v, ↓varP_n, bin_addI, bin_subI, cmp_lt, cmp_le, cmp_gt, cmp_ge, cmp_eqI, cmp_neI, cmp_eqB, cmp_eqS, cmp_neS, blR_s, bi_lenT, bi_lenL, bi_lenS, bi_tupT, bi_tupL, bi_lstT, bi_lstL, bi_max, bi_min, bi_intB, neg_i, isi_int, isi_tup, isi_lst, isi_dic, isi_str, isi_non, isi_bl, List.getElem?_cons_zero, List.getElem?_cons_succ, List.set_cons_zero, List.set_cons_succ, Option.map_some, R.flat, R.d, Ob.flat, Ob.d, true_and, and_true, eq_self, decide_eq_true_eq, reduceIte, Bool.true_and, Bool.false_and, Bool.and_false, Bool.and_true, Bool.false_eq_true, decide_true, decide_false, Bool.not_true, Bool.not_false, List.length_map, List.length_cons, List.length_nil, reduceCtorEq, and_self, true_or, or_true, or_false, false_or, or_self]
    refine wv_comp ?_
    simp -dsimp only [wipe_n, wipe_c, ↓ra_nop, ↓ra_cst, ↓ra_glob, ↓ra_tup, ↓ra_lst, ↓ra_dic, ↓ra_bin, ↓ra_neg, ↓ra_not, ↓ra_and, ↓ra_or, ↓ra_ife, ↓ra_cmp, ↓ra_chain, ↓ra_ix, ↓ra_sl, ↓ra_rev, ↓ra_get2, ↓r_get2, ↓r_needT, ↓ra_isi, ↓ra_bi, ↓ra_call, ↓ra_calle, ↓ra_pop, ↓ra_alloc, ↓ra_comp, ↓ra_comp2, ↓ra_me, ↓ra_lrange, ↓r_dic, ↓r_needM, ↓r_me, ↓r_lrange, me_cl, me_js, me_ss, ↓r_cst, ↓r_glob, ↓re_nil, ↓re_cons, ↓rsa_nil, ↓rsa_cons, ↓r_tup, ↓r_lst, ↓r_bin, ↓r_cmp, ↓r_ix, ↓r_neg, ↓r_isi, ↓r_bi, ↓r_not, ↓r_and, ↓r_or, ↓r_ife, ↓r_chain, ↓r_none, ↓rp_cst, ↓rp_glob, ↓rp_bin, ↓rp_neg, ↓rp_ife, ↓rp_ix, ↓rp_bi, ↓rp_call, ↓rp_var, ↓r_sl, ↓r_call, ↓r_alloc, ↓r_allocM, ↓r_prim1, ↓r_prim2, ↓r_primN, ↓rd_nil, ↓rd_cons, ↓rd_int, ↓rd_bl, ↓rd_str, ↓rd_non, ↓rd_tup, ↓rd_lst, ↓rd_scr, ↓rd_dic, ↓rd_cls, ↓rd_fn, ↓rd_s, ↓rd_r, ↓r_chN, refP_s, ↓ri_seq, ↓rq_tup, ↓rq_lst, ↓r_var, ↓ra_var, ↓r_ret, ↓r_frz, ↓r_asBl, ↓r_asInt, ↓r_liftS, ↓ri_range, ↓ri_range2, ↓ri_zip, ↓ri_enum, ↓r_calle, ↓rc_fn, ↓en_lst, ↓en_tup, ↓rz_tup, ↓rz_lst, ↓rz_tl, ↓rz_lt, ↓ri_zip3, ↓rz_ttt, ↓rz_ttl, ↓rz_lll, ↓rx_expr, ↓rx_set, ↓rx_frz, ↓rx_ret, ↓rx_iff, ↓rx_mat, ↓then_nx, ↓then_rt, ↓then_bk, ↓then_ct, ↓rx_nil, ↓rx_cons, ↓rx_asg, ↓rt_name, ↓rt_tup, ↓rt_lst, ↓rt_nil, ↓rt_cons, ↓rx_setix, ↓rx_app, ↓rx_ext, ↓r_pop, ↓r_needL, ↓lstP_l, ↓obP_s, ↓r_chS, ↓rr_nil, ↓rr_cons, ↓rh_v, ↓rh_l, ↓rx_par, ↓rx_pass, ↓rx_for, ↓varP_v, ↓varP_n, bin_addI, bin_subI, cmp_lt, cmp_le, cmp_gt, cmp_ge, cmp_eqI, cmp_neI, cmp_eqB, cmp_eqS, cmp_neS, blR_s, bi_lenT, bi_lenL, bi_lenS, bi_tupT, bi_tupL, bi_lstT, bi_lstL, bi_max, bi_min, bi_intB, neg_i, isi_int, isi_tup, isi_lst, isi_dic, isi_str, isi_non, isi_bl, List.getElem?_cons_zero, List.getElem?_cons_succ, List.set_cons_zero, List.set_cons_succ, Option.map_some, R.flat, R.d, Ob.flat, Ob.d, true_and, and_true, eq_self, decide_eq_true_eq, reduceIte, Bool.true_and, Bool.false_and, Bool.and_false, Bool.and_true, Bool.false_eq_true, decide_true, decide_false, Bool.not_true, Bool.not_false, List.length_map, List.length_cons, List.length_nil, reduceCtorEq, and_self, true_or, or_true, or_false, false_or, or_self]
    refine ⟨by omega, rfl, by simp; show k ≤ 16777216; omega, fun i acc s2 => Pn n s s2 ∧ ∃ l : List Int, acc = l.map .int ∧ l.length = i ∧ ∀ x ∈ l, sg x, ⟨Pn.refl hp, [], rfl, rfl, fun x hx => by cases hx⟩, ?_, fun acc s2 ⟨h1, l, h2, h3, h4⟩ => ?_⟩
    · rintro i acc s2 x hx ⟨h1, l, h2, h3, h4⟩
      refine wt_all rfl ?_
      obtain ⟨d, s3, e1, ⟨d0, d1⟩, p1⟩ := dr.gives h1.1 (m := 4) (by omega) (by omega)
      simp -dsimp only [wipe_n, wipe_c, ↓ra_nop, ↓ra_cst, ↓ra_glob, ↓ra_tup, ↓ra_lst, ↓ra_dic, ↓ra_bin, ↓ra_neg, ↓ra_not, ↓ra_and, ↓ra_or, ↓ra_ife, ↓ra_cmp, ↓ra_chain, ↓ra_ix, ↓ra_sl, ↓ra_rev, ↓ra_get2, ↓r_get2, ↓r_needT, ↓ra_isi, ↓ra_bi, ↓ra_call, ↓ra_calle, ↓ra_pop, ↓ra_alloc, ↓ra_comp, ↓ra_comp2, ↓ra_me, ↓ra_lrange, ↓r_dic, ↓r_needM, ↓r_me, ↓r_lrange, me_cl, me_js, me_ss, ↓r_cst, ↓r_glob, ↓re_nil, ↓re_cons, ↓rsa_nil, ↓rsa_cons, ↓r_tup, ↓r_lst, ↓r_bin, ↓r_cmp, ↓r_ix, ↓r_neg, ↓r_isi, ↓r_bi, ↓r_not, ↓r_and, ↓r_or, ↓r_ife, ↓r_chain, ↓r_none, ↓rp_cst, ↓rp_glob, ↓rp_bin, ↓rp_neg, ↓rp_ife, ↓rp_ix, ↓rp_bi, ↓rp_call, ↓rp_var, ↓r_sl, ↓r_call, ↓r_alloc, ↓r_allocM, ↓r_prim1, ↓r_prim2, ↓r_primN, ↓rd_nil, ↓rd_cons, ↓rd_int, ↓rd_bl, ↓rd_str, ↓rd_non, ↓rd_tup, ↓rd_lst, ↓rd_scr, ↓rd_dic, ↓rd_cls, ↓rd_fn, ↓rd_s, ↓rd_r, ↓r_chN, refP_s, ↓ri_seq, ↓rq_tup, ↓rq_lst, ↓r_var, ↓ra_var, ↓r_ret, ↓r_frz, ↓r_asBl, ↓r_asInt, ↓r_liftS, ↓ri_range, ↓ri_range2, ↓ri_zip, ↓ri_enum, ↓r_calle, ↓rc_fn, ↓en_lst, ↓en_tup, ↓rz_tup, ↓rz_lst, ↓rz_tl, ↓rz_lt, ↓ri_zip3, ↓rz_ttt, ↓rz_ttl, ↓rz_lll, ↓rx_expr, ↓rx_set, ↓rx_frz, ↓rx_ret, ↓rx_iff, ↓rx_mat, ↓then_nx, ↓then_rt, ↓then_bk, ↓then_ct, ↓rx_nil, ↓rx_cons, ↓rx_asg, ↓rt_name, ↓rt_tup, ↓rt_lst, ↓rt_nil, ↓rt_cons, ↓rx_setix, ↓rx_app, ↓rx_ext, ↓r_pop, ↓r_needL, ↓lstP_l, ↓obP_s, ↓r_chS, ↓rr_nil, ↓rr_cons, ↓rh_v, ↓rh_l, ↓rx_par, ↓rx_pass, ↓rx_for, ↓varP_v, ↓varP_n, bin_addI, bin_subI, cmp_lt, cmp_le, cmp_gt, cmp_ge, cmp_eqI, cmp_neI, cmp_eqB, cmp_eqS, cmp_neS, blR_s, bi_lenT, bi_lenL, bi_lenS, bi_tupT, bi_tupL, bi_lstT, bi_lstL, bi_max, bi_min, bi_intB, neg_i, isi_int, isi_tup, isi_lst, isi_dic, isi_str, isi_non, isi_bl, List.getElem?_cons_zero, List.getElem?_cons_succ, List.set_cons_zero, List.set_cons_succ, Option.map_some, R.flat, R.d, Ob.flat, Ob.d, true_and, and_true, eq_self, decide_eq_true_eq, reduceIte, Bool.true_and, Bool.false_and, Bool.and_false, Bool.and_true, Bool.false_eq_true, decide_true, decide_false, Bool.not_true, Bool.not_false, List.length_map, List.length_cons, List.length_nil, reduceCtorEq, and_self, true_or, or_true, or_false, false_or, or_self, r_callM e1, wipeE]
      split
      · refine ⟨h1.trans p1, l ++ [0], by simp [h2], by simp [h3], fun x hx => ?_⟩
        rcases List.mem_append.mp hx with q | q
        · exact h4 x q
        · rw [List.mem_singleton.mp q]; exact .inr (.inl rfl)
      · obtain ⟨d', s4, e2, ⟨d0', d1'⟩, p2⟩ := dr.gives p1.1 (m := 2) (by omega) (by omega)
        have mo : mulOk 2 d' = true := mulL (by decide)
        simp -dsimp only [wipe_n, wipe_c, ↓ra_nop, ↓ra_cst, ↓ra_glob, ↓ra_tup, ↓ra_lst, ↓ra_dic, ↓ra_bin, ↓ra_neg, ↓ra_not, ↓ra_and, ↓ra_or, ↓ra_ife, ↓ra_cmp, ↓ra_chain, ↓ra_ix, ↓ra_sl, ↓ra_rev, ↓ra_get2, ↓r_get2, ↓r_needT, ↓ra_isi, ↓ra_bi, ↓ra_call, ↓ra_calle, ↓ra_pop, ↓ra_alloc, ↓ra_comp, ↓ra_comp2, ↓ra_me, ↓ra_lrange, ↓r_dic, ↓r_needM, ↓r_me, ↓r_lrange, me_cl, me_js, me_ss, ↓r_cst, ↓r_glob, ↓re_nil, ↓re_cons, ↓rsa_nil, ↓rsa_cons, ↓r_tup, ↓r_lst, ↓r_bin, ↓r_cmp, ↓r_ix, ↓r_neg, ↓r_isi, ↓r_bi, ↓r_not, ↓r_and, ↓r_or, ↓r_ife, ↓r_chain, ↓r_none, ↓rp_cst, ↓rp_glob, ↓rp_bin, ↓rp_neg, ↓rp_ife, ↓rp_ix, ↓rp_bi, ↓rp_call, ↓rp_var, ↓r_sl, ↓r_call, ↓r_alloc, ↓r_allocM, ↓r_prim1, ↓r_prim2, ↓r_primN, ↓rd_nil, ↓rd_cons, ↓rd_int, ↓rd_bl, ↓rd_str, ↓rd_non, ↓rd_tup, ↓rd_lst, ↓rd_scr, ↓rd_dic, ↓rd_cls, ↓rd_fn, ↓rd_s, ↓rd_r, ↓r_chN, refP_s, ↓ri_seq, ↓rq_tup, ↓rq_lst, ↓r_var, ↓ra_var, ↓r_ret, ↓r_frz, ↓r_asBl, ↓r_asInt, ↓r_liftS, ↓ri_range, ↓ri_range2, ↓ri_zip, ↓ri_enum, ↓r_calle, ↓rc_fn, ↓en_lst, ↓en_tup, ↓rz_tup, ↓rz_lst, ↓rz_tl, ↓rz_lt, ↓ri_zip3, ↓rz_ttt, ↓rz_ttl, ↓rz_lll, ↓rx_expr, ↓rx_set, ↓rx_frz, ↓rx_ret, ↓rx_iff, ↓rx_mat, ↓then_nx, ↓then_rt, ↓then_bk, ↓then_ct, ↓rx_nil, ↓rx_cons, ↓rx_asg, ↓rt_name, ↓rt_tup, ↓rt_lst, ↓rt_nil, ↓rt_cons, ↓rx_setix, ↓rx_app, ↓rx_ext, ↓r_pop, ↓r_needL, ↓lstP_l, ↓obP_s, ↓r_chS, ↓rr_nil, ↓rr_cons, ↓rh_v, ↓rh_l, ↓rx_par, ↓rx_pass, ↓rx_for, ↓varP_v, ↓varP_n, bin_addI, bin_subI, cmp_lt, cmp_le, cmp_gt, cmp_ge, cmp_eqI, cmp_neI, cmp_eqB, cmp_eqS, cmp_neS, blR_s, bi_lenT, bi_lenL, bi_lenS, bi_tupT, bi_tupL, bi_lstT, bi_lstL, bi_max, bi_min, bi_intB, neg_i, isi_int, isi_tup, isi_lst, isi_dic, isi_str, isi_non, isi_bl, List.getElem?_cons_zero, List.getElem?_cons_succ, List.set_cons_zero, List.set_cons_succ, Option.map_some, R.flat, R.d, Ob.flat, Ob.d, true_and, and_true, eq_self, decide_eq_true_eq, reduceIte, Bool.true_and, Bool.false_and, Bool.and_false, Bool.and_true, Bool.false_eq_true, decide_true, decide_false, Bool.not_true, Bool.not_false, List.length_map, List.length_cons, List.length_nil, reduceCtorEq, and_self, true_or, or_true, or_false, false_or, or_self, r_callM e2, wipeE, bin_mulI mo]
        refine ⟨(h1.trans p1).trans p2, l ++ [2 * d' - 1], by simp [h2], by simp [h3], fun x hx => ?_⟩
        rcases List.mem_append.mp hx with q | q
        · exact h4 x q
        · rw [List.mem_singleton.mp q]
          have : d' = 0 ∨ d' = 1 := by omega
          rcases this with rfl | rfl
          · exact .inl rfl
          · exact .inr (.inr rfl)
    · refine ⟨_, rfl, l, by rw [h2] <;> rfl, ⟨by simpa using h3, h4⟩, h1⟩
  obtain ⟨r, s', h1, l, rfl, h3, h4⟩ := z
  exact ⟨l, s', h1, h3, h4⟩
theorem c_law_pick (hd : Lw T d gd DrawC) (h : IsF T g (F_law_pick gd)) : Lw T (d + 1) g PickC := Lw.of h fun j hj => by
  refine ⟨fun s n vs hp hne hl => ?_, fun s n m vs hp hm hmn hne hl => ?_⟩
  · have dr := hd.at hj
    have h0 : 0 < vs.length := List.length_pos_iff.mpr hne
    obtain ⟨d, s3, e1, ⟨d0, d1⟩, p1⟩ := dr.gives hp (m := vs.length) (by omega) (by omega)
    obtain ⟨x, x1, x2⟩ := item_at d0 d1
    have z : ∃ r s', (F_law_pick gd).run (orc T j) [.ref n, .lst vs] s = .ok r s' ∧ r = .val x ∧ s' = s3 := by
      refine run_ex [some (.val (.ref n)), some (.val (.lst vs))] rfl rfl ?_
      unfold F_law_pick
      simp -dsimp only [wipe_n, wipe_c, ↓ra_nop, ↓ra_cst, ↓ra_glob, ↓ra_tup, ↓ra_lst, ↓ra_dic, ↓ra_bin, ↓ra_neg, ↓ra_not, ↓ra_and, ↓ra_or, ↓ra_ife, ↓ra_cmp, ↓ra_chain, ↓ra_ix, ↓ra_sl, ↓ra_rev, ↓ra_get2, ↓r_get2, ↓r_needT, ↓ra_isi, ↓ra_bi, ↓ra_call, ↓ra_calle, ↓ra_pop, ↓ra_alloc, ↓ra_comp, ↓ra_comp2, ↓ra_me, ↓ra_lrange, ↓r_dic, ↓r_needM, ↓r_me, ↓r_lrange, me_cl, me_js, me_ss, ↓r_cst, ↓r_glob, ↓re_nil, ↓re_cons, ↓rsa_nil, ↓rsa_cons, ↓r_tup, ↓r_lst, ↓r_bin, ↓r_cmp, ↓r_ix, ↓r_neg, ↓r_isi, ↓r_bi, ↓r_not, ↓r_and, ↓r_or, ↓r_ife, ↓r_chain, ↓r_none, ↓rp_cst, ↓rp_glob, ↓rp_bin, ↓rp_neg, ↓rp_ife, ↓rp_ix, ↓rp_bi, ↓rp_call, ↓rp_var, ↓r_sl, ↓r_call, ↓r_alloc, ↓r_allocM, ↓r_prim1, ↓r_prim2, ↓r_primN, ↓rd_nil, ↓rd_cons, ↓rd_int, ↓rd_bl, ↓rd_str, ↓rd_non, ↓rd_tup, ↓rd_lst, ↓rd_scr, ↓rd_dic, ↓rd_cls, ↓rd_fn, ↓rd_s, ↓rd_r, ↓r_chN, refP_s, ↓ri_seq, ↓rq_tup, ↓rq_lst, ↓r_var, ↓ra_var, ↓r_ret, ↓r_frz, ↓r_asBl, ↓r_asInt, ↓r_liftS, ↓ri_range, ↓ri_range2, ↓ri_zip, ↓ri_enum, ↓r_calle, ↓rc_fn, ↓en_lst, ↓en_tup, ↓rz_tup, ↓rz_lst, ↓rz_tl, ↓rz_lt, ↓ri_zip3, ↓rz_ttt, ↓rz_ttl, ↓rz_lll, ↓rx_expr, ↓rx_set, ↓rx_frz, ↓rx_ret, ↓rx_iff, ↓rx_mat, ↓then_nx, ↓then_rt, ↓then_bk, ↓then_ct, ↓rx_nil, ↓rx_cons, ↓rx_asg, ↓rt_name, ↓rt_tup, ↓rt_lst, ↓rt_nil, ↓rt_cons, ↓rx_setix, ↓rx_app, ↓rx_ext, ↓r_pop, ↓r_needL, ↓lstP_l, ↓obP_s, ↓r_chS, ↓rr_nil, ↓rr_cons, ↓rh_v, ↓rh_l, ↓rx_par, ↓rx_pass, ↓rx_for, ↓varP_v, ↓varP_n, bin_addI, bin_subI, cmp_lt, cmp_le, cmp_gt, cmp_ge, cmp_eqI, cmp_neI, cmp_eqB, cmp_eqS, cmp_neS, blR_s, bi_lenT, bi_lenL, bi_lenS, bi_tupT, bi_tupL, bi_lstT, bi_lstL, bi_max, bi_min, bi_intB, neg_i, isi_int, isi_tup, isi_lst, isi_dic, isi_str, isi_non, isi_bl, List.getElem?_cons_zero, List.getElem?_cons_succ, List.set_cons_zero, List.set_cons_succ, Option.map_some, R.flat, R.d, Ob.flat, Ob.d, true_and, and_true, eq_self, decide_eq_true_eq, reduceIte, Bool.true_and, Bool.false_and, Bool.and_false, Bool.and_true, Bool.false_eq_true, decide_true, decide_false, Bool.not_true, Bool.not_false, List.length_map, List.length_cons, List.length_nil, reduceCtorEq, and_self, true_or, or_true, or_false, false_or, or_self, r_callM e1, ix_l x2]
      exact ⟨_, rfl, rfl⟩
    obtain ⟨r, s', h1, rfl, rfl⟩ := z
    exact ⟨_, x, s', x1, h1, p1⟩
  · have dr := hd.at hj
    have h0 : 0 < vs.length := List.length_pos_iff.mpr hne
    obtain ⟨d, s3, e1, ⟨d0, d1⟩, p1⟩ := dr.gives hp (m := vs.length) (by omega) (by omega)
    obtain ⟨x, x1, x2⟩ := item_at d0 d1
    have hm3 := p1.other hmn hm
    have z : ∃ r s', (F_law_pick gd).run (orc T j) [.ref n, .ref m] s = .ok r s' ∧ r = .val x ∧ s' = s3 := by
      refine run_ex [some (.val (.ref n)), some (.val (.ref m))] rfl rfl ?_
      unfold F_law_pick
      simp -dsimp only [wipe_n, wipe_c, ↓ra_nop, ↓ra_cst, ↓ra_glob, ↓ra_tup, ↓ra_lst, ↓ra_dic, ↓ra_bin, ↓ra_neg, ↓ra_not, ↓ra_and, ↓ra_or, ↓ra_ife, ↓ra_cmp, ↓ra_chain, ↓ra_ix, ↓ra_sl, ↓ra_rev, ↓ra_get2, ↓r_get2, ↓r_needT, ↓ra_isi, ↓ra_bi, ↓ra_call, ↓ra_calle, ↓ra_pop, ↓ra_alloc, ↓ra_comp, ↓ra_comp2, ↓ra_me, ↓ra_lrange, ↓r_dic, ↓r_needM, ↓r_me, ↓r_lrange, me_cl, me_js, me_ss, ↓r_cst, ↓r_glob, ↓re_nil, ↓re_cons, ↓rsa_nil, ↓rsa_cons, ↓r_tup, ↓r_lst, ↓r_bin, ↓r_cmp, ↓r_ix, ↓r_neg, ↓r_isi, ↓r_bi, ↓r_not, ↓r_and, ↓r_or, ↓r_ife, ↓r_chain, ↓r_none, ↓rp_cst, ↓rp_glob, ↓rp_bin, ↓rp_neg, ↓rp_ife, ↓rp_ix, ↓rp_bi, ↓rp_call, ↓rp_var, ↓r_sl, ↓r_call, ↓r_alloc, ↓r_allocM, ↓r_prim1, ↓r_prim2, ↓r_primN, ↓rd_nil, ↓rd_cons, ↓rd_int, ↓rd_bl, ↓rd_str, ↓rd_non, ↓rd_tup, ↓rd_lst, ↓rd_scr, ↓rd_dic, ↓rd_cls, ↓rd_fn, ↓rd_s, ↓rd_r, ↓r_chN, refP_s, ↓ri_seq, ↓rq_tup, ↓rq_lst, ↓r_var, ↓ra_var, ↓r_ret, ↓r_frz, ↓r_asBl, ↓r_asInt, ↓r_liftS, ↓ri_range, ↓ri_range2, ↓ri_zip, ↓ri_enum, ↓r_calle, ↓rc_fn, ↓en_lst, ↓en_tup, ↓rz_tup, ↓rz_lst, ↓rz_tl, ↓rz_lt, ↓ri_zip3, ↓rz_ttt, ↓rz_ttl, ↓rz_lll, ↓rx_expr, ↓rx_set, ↓rx_frz, ↓rx_ret, ↓rx_iff, ↓rx_mat, ↓then_nx, ↓then_rt, ↓then_bk, ↓then_ct, ↓rx_nil, ↓rx_cons, ↓rx_asg, ↓rt_name, ↓rt_tup, ↓rt_lst, ↓rt_nil, ↓rt_cons, ↓rx_setix, ↓rx_app, ↓rx_ext, ↓r_pop, ↓r_needL, ↓lstP_l, ↓obP_s, ↓r_chS, ↓rr_nil, ↓rr_cons, ↓rh_v, ↓rh_l, ↓rx_par, ↓rx_pass, ↓rx_for, ↓varP_v, ↓varP_n, bin_addI, bin_subI, cmp_lt, cmp_le, cmp_gt, cmp_ge, cmp_eqI, cmp_neI, cmp_eqB, cmp_eqS, cmp_neS, blR_s, bi_lenT, bi_lenL, bi_lenS, bi_tupT, bi_tupL, bi_lstT, bi_lstL, bi_max, bi_min, bi_intB, neg_i, isi_int, isi_tup, isi_lst, isi_dic, isi_str, isi_non, isi_bl, List.getElem?_cons_zero, List.getElem?_cons_succ, List.set_cons_zero, List.set_cons_succ, Option.map_some, R.flat, R.d, Ob.flat, Ob.d, true_and, and_true, eq_self, decide_eq_true_eq, reduceIte, Bool.true_and, Bool.false_and, Bool.and_false, Bool.and_true, Bool.false_eq_true, decide_true, decide_false, Bool.not_true, Bool.not_false, List.length_map, List.length_cons, List.length_nil, reduceCtorEq, and_self, true_or, or_true, or_false, false_or, or_self, hm, r_callM e1, hm3, ix_l x2]
      exact ⟨_, rfl, rfl⟩
    obtain ⟨r, s', h1, rfl, rfl⟩ := z
    exact ⟨_, x, s', x1, h1, p1⟩
theorem c_law_any_table (hd : Lw T d gd DrawC) (hs : Lw T d gs SignsC) (h : IsF T g (F_law_any_table gd gs)) : Lw T (d + 1) g AnyTabC := Lw.of h fun j hj s n k hp hk => by
  have dr := hd.at hj
  have sn := hs.at hj
  have z : ∃ r s', (F_law_any_table gd gs).run (orc T j) [.ref n, .int k] s = .ok r s' ∧ ∃ t, r = .val (tI t) ∧ Tab k t ∧ Pn n s s' := by
    refine run_ex [some (.val (.ref n)), some (.val (.int k)), none, none] rfl rfl ?_
    unfold F_law_any_table
    obtain ⟨d, s3, e1, ⟨d0, d1⟩, p1⟩ := dr.gives hp (m := 4) (by omega) (by omega)
    simp -dsimp only [wipe_n, wipe_c, ↓ra_nop, ↓ra_cst, ↓ra_glob, ↓ra_tup, ↓ra_lst, ↓ra_dic, ↓ra_bin, ↓ra_neg, ↓ra_not, ↓ra_and, ↓ra_or, ↓ra_ife, ↓ra_cmp, ↓ra_chain, ↓ra_ix, ↓ra_sl, ↓ra_rev, ↓ra_get2, ↓r_get2, ↓r_needT, ↓ra_isi, ↓ra_bi, ↓ra_call, ↓ra_calle, ↓ra_pop, ↓ra_alloc, ↓ra_comp, ↓ra_comp2, ↓ra_me, ↓ra_lrange, ↓r_dic, ↓r_needM, ↓r_me, ↓r_lrange, me_cl, me_js, me_ss, ↓r_cst, ↓r_glob, ↓re_nil, ↓re_cons, ↓rsa_nil, ↓rsa_cons, ↓r_tup, ↓r_lst, ↓r_bin, ↓r_cmp, ↓r_ix, ↓r_neg, ↓r_isi, ↓r_bi, ↓r_not, ↓r_and, ↓r_or, ↓r_ife, ↓r_chain, ↓r_none, ↓rp_cst, ↓rp_glob, ↓rp_bin, ↓rp_neg, ↓rp_ife, ↓rp_ix, ↓rp_bi, ↓rp_call, ↓rp_var, ↓r_sl, ↓r_call, ↓r_alloc, ↓r_allocM, ↓r_prim1, ↓r_prim2, ↓r_primN, ↓rd_nil, ↓rd_cons, ↓rd_int, ↓rd_bl, ↓rd_str, ↓rd_non, ↓rd_tup, ↓rd_lst, ↓rd_scr, ↓rd_dic, ↓rd_cls, ↓rd_fn, ↓rd_s, ↓rd_r, ↓r_chN, refP_s, ↓ri_seq, ↓rq_tup, ↓rq_lst, ↓r_var, ↓ra_var, ↓r_ret, ↓r_frz, ↓r_asBl, ↓r_asInt, ↓r_liftS, ↓ri_range, ↓ri_range2, ↓ri_zip, ↓ri_enum, ↓r_calle, ↓rc_fn, ↓en_lst, ↓en_tup, ↓rz_tup, ↓rz_lst, ↓rz_tl, ↓rz_lt, ↓ri_zip3, ↓rz_ttt, ↓rz_ttl, ↓rz_lll, ↓rx_expr, ↓rx_set, ↓rx_frz, ↓rx_ret, ↓rx_iff, ↓rx_mat, ↓then_nx, ↓then_rt, ↓then_bk, ↓then_ct, ↓rx_nil, ↓rx_cons, ↓rx_asg, ↓rt_name, ↓rt_tup, ↓rt_lst, ↓rt_nil, ↓rt_cons, ↓rx_setix, ↓rx_app, ↓rx_ext, ↓r_pop, ↓r_needL, ↓lstP_l, ↓obP_s, ↓r_chS, ↓rr_nil, ↓rr_cons, ↓rh_v, ↓rh_l, ↓rx_par, ↓rx_pass, ↓rx_for, ↓varP_v, ↓varP_n, bin_addI, bin_subI, cmp_lt, cmp_le, cmp_gt, cmp_ge, cmp_eqI, cmp_neI, cmp_eqB, cmp_eqS, cmp_neS, blR_s, bi_lenT, bi_lenL, bi_lenS, bi_tupT, bi_tupL, bi_lstT, bi_lstL, bi_max, bi_min, bi_intB, neg_i, isi_int, isi_tup, isi_lst, isi_dic, isi_str, isi_non, isi_bl, List.getElem?_cons_zero, List.getElem?_cons_succ, List.set_cons_zero, List.set_cons_succ, Option.map_some, R.flat, R.d, Ob.flat, Ob.d, true_and, and_true, eq_self, decide_eq_true_eq, reduceIte, Bool.true_and, Bool.false_and, Bool.and_false, Bool.and_true, Bool.false_eq_true, decide_true, decide_false, Bool.not_true, Bool.not_false, List.length_map, List.length_cons, List.length_nil, reduceCtorEq, and_self, true_or, or_true, or_false, false_or, or_self, r_callM e1]
    refine wv_comp ?_
    simp -dsimp only [wipe_n, wipe_c, ↓ra_nop, ↓ra_cst, ↓ra_glob, ↓ra_tup, ↓ra_lst, ↓ra_dic, ↓ra_bin, ↓ra_neg, ↓ra_not, ↓ra_and, ↓ra_or, ↓ra_ife, ↓ra_cmp, ↓ra_chain, ↓ra_ix, ↓ra_sl, ↓ra_rev, ↓ra_get2, ↓r_get2, ↓r_needT, ↓ra_isi, ↓ra_bi, ↓ra_call, ↓ra_calle, ↓ra_pop, ↓ra_alloc, ↓ra_comp, ↓ra_comp2, ↓ra_me, ↓ra_lrange, ↓r_dic, ↓r_needM, ↓r_me, ↓r_lrange, me_cl, me_js, me_ss, ↓r_cst, ↓r_glob, ↓re_nil, ↓re_cons, ↓rsa_nil, ↓rsa_cons, ↓r_tup, ↓r_lst, ↓r_bin, ↓r_cmp, ↓r_ix, ↓r_neg, ↓r_isi, ↓r_bi, ↓r_not, ↓r_and, ↓r_or, ↓r_ife, ↓r_chain, ↓r_none, ↓rp_cst, ↓rp_glob, ↓rp_bin, ↓rp_neg, ↓rp_ife, ↓rp_ix, ↓rp_bi, ↓rp_call, ↓rp_var, ↓r_sl, ↓r_call, ↓r_alloc, ↓r_allocM, ↓r_prim1, ↓r_prim2, ↓r_primN, ↓rd_nil, ↓rd_cons, ↓rd_int, ↓rd_bl, ↓rd_str, ↓rd_non, ↓rd_tup, ↓rd_lst, ↓rd_scr, ↓rd_dic, ↓rd_cls, ↓rd_fn, ↓rd_s, ↓rd_r, ↓r_chN, refP_s, ↓ri_seq, ↓rq_tup, ↓rq_lst, ↓r_var, ↓ra_var, ↓r_ret, ↓r_frz, ↓r_asBl, ↓r_asInt, ↓r_liftS, ↓ri_range, ↓ri_range2, ↓ri_zip, ↓ri_enum, ↓r_calle, ↓rc_fn, ↓en_lst, ↓en_tup, ↓rz_tup, ↓rz_lst, ↓rz_tl, ↓rz_lt, ↓ri_zip3, ↓rz_ttt, ↓rz_ttl, ↓rz_lll, ↓rx_expr, ↓rx_set, ↓rx_frz, ↓rx_ret, ↓rx_iff, ↓rx_mat, ↓then_nx, ↓then_rt, ↓then_bk, ↓then_ct, ↓rx_nil, ↓rx_cons, ↓rx_asg, ↓rt_name, ↓rt_tup, ↓rt_lst, ↓rt_nil, ↓rt_cons, ↓rx_setix, ↓rx_app, ↓rx_ext, ↓r_pop, ↓r_needL, ↓lstP_l, ↓obP_s, ↓r_chS, ↓rr_nil, ↓rr_cons, ↓rh_v, ↓rh_l, ↓rx_par, ↓rx_pass, ↓rx_for, ↓varP_v, ↓varP_n, bin_addI, bin_subI, cmp_lt, cmp_le, cmp_gt, cmp_ge, cmp_eqI, cmp_neI, cmp_eqB, cmp_eqS, cmp_neS, blR_s, bi_lenT, bi_lenL, bi_lenS, bi_tupT, bi_tupL, bi_lstT, bi_lstL, bi_max, bi_min, bi_intB, neg_i, isi_int, isi_tup, isi_lst, isi_dic, isi_str, isi_non, isi_bl, List.getElem?_cons_zero, List.getElem?_cons_succ, List.set_cons_zero, List.set_cons_succ, Option.map_some, R.flat, R.d, Ob.flat, Ob.d, true_and, and_true, eq_self, decide_eq_true_eq, reduceIte, Bool.true_and, Bool.false_and, Bool.and_false, Bool.and_true, Bool.false_eq_true, decide_true, decide_false, Bool.not_true, Bool.not_false, List.length_map, List.length_cons, List.length_nil, reduceCtorEq, and_self, true_or, or_true, or_false, false_or, or_self]
    refine ⟨by omega, rfl, by simp; show k ≤ 16777216; omega, fun i acc s2 => Pn n s s2 ∧ ∃ t : List (List Int), acc = t.map rI ∧ t.length = i ∧ ∀ x ∈ t, Row k x, ⟨p1, [], rfl, rfl, fun x hx => by cases hx⟩, ?_, fun acc s2 ⟨h1, t, h2, h3, h4⟩ => ?_⟩
    · rintro i acc s2 x hx ⟨h1, t, h2, h3, h4⟩
      refine wt_all rfl ?_
      obtain ⟨r, s4, e2, hr, p2⟩ := sn s2 n k d h1.1 (by omega)
      simp -dsimp only [wipe_n, wipe_c, ↓ra_nop, ↓ra_cst, ↓ra_glob, ↓ra_tup, ↓ra_lst, ↓ra_dic, ↓ra_bin, ↓ra_neg, ↓ra_not, ↓ra_and, ↓ra_or, ↓ra_ife, ↓ra_cmp, ↓ra_chain, ↓ra_ix, ↓ra_sl, ↓ra_rev, ↓ra_get2, ↓r_get2, ↓r_needT, ↓ra_isi, ↓ra_bi, ↓ra_call, ↓ra_calle, ↓ra_pop, ↓ra_alloc, ↓ra_comp, ↓ra_comp2, ↓ra_me, ↓ra_lrange, ↓r_dic, ↓r_needM, ↓r_me, ↓r_lrange, me_cl, me_js, me_ss, ↓r_cst, ↓r_glob, ↓re_nil, ↓re_cons, ↓rsa_nil, ↓rsa_cons, ↓r_tup, ↓r_lst, ↓r_bin, ↓r_cmp, ↓r_ix, ↓r_neg, ↓r_isi, ↓r_bi, ↓r_not, ↓r_and, ↓r_or, ↓r_ife, ↓r_chain, ↓r_none, ↓rp_cst, ↓rp_glob, ↓rp_bin, ↓rp_neg, ↓rp_ife, ↓rp_ix, ↓rp_bi, ↓rp_call, ↓rp_var, ↓r_sl, ↓r_call, ↓r_alloc, ↓r_allocM, ↓r_prim1, ↓r_prim2, ↓r_primN, ↓rd_nil, ↓rd_cons, ↓rd_int, ↓rd_bl, ↓rd_str, ↓rd_non, ↓rd_tup, ↓rd_lst, ↓rd_scr, ↓rd_dic, ↓rd_cls, ↓rd_fn, ↓rd_s, ↓rd_r, ↓r_chN, refP_s, ↓ri_seq, ↓rq_tup, ↓rq_lst, ↓r_var, ↓ra_var, ↓r_ret, ↓r_frz, ↓r_asBl, ↓r_asInt, ↓r_liftS, ↓ri_range, ↓ri_range2, ↓ri_zip, ↓ri_enum, ↓r_calle, ↓rc_fn, ↓en_lst, ↓en_tup, ↓rz_tup, ↓rz_lst, ↓rz_tl, ↓rz_lt, ↓ri_zip3, ↓rz_ttt, ↓rz_ttl, ↓rz_lll, ↓rx_expr, ↓rx_set, ↓rx_frz, ↓rx_ret, ↓rx_iff, ↓rx_mat, ↓then_nx, ↓then_rt, ↓then_bk, ↓then_ct, ↓rx_nil, ↓rx_cons, ↓rx_asg, ↓rt_name, ↓rt_tup, ↓rt_lst, ↓rt_nil, ↓rt_cons, ↓rx_setix, ↓rx_app, ↓rx_ext, ↓r_pop, ↓r_needL, ↓lstP_l, ↓obP_s, ↓r_chS, ↓rr_nil, ↓rr_cons, ↓rh_v, ↓rh_l, ↓rx_par, ↓rx_pass, ↓rx_for, ↓varP_v, ↓varP_n, bin_addI, bin_subI, cmp_lt, cmp_le, cmp_gt, cmp_ge, cmp_eqI, cmp_neI, cmp_eqB, cmp_eqS, cmp_neS, blR_s, bi_lenT, bi_lenL, bi_lenS, bi_tupT, bi_tupL, bi_lstT, bi_lstL, bi_max, bi_min, bi_intB, neg_i, isi_int, isi_tup, isi_lst, isi_dic, isi_str, isi_non, isi_bl, List.getElem?_cons_zero, List.getElem?_cons_succ, List.set_cons_zero, List.set_cons_succ, Option.map_some, R.flat, R.d, Ob.flat, Ob.d, true_and, and_true, eq_self, decide_eq_true_eq, reduceIte, Bool.true_and, Bool.false_and, Bool.and_false, Bool.and_true, Bool.false_eq_true, decide_true, decide_false, Bool.not_true, Bool.not_false, List.length_map, List.length_cons, List.length_nil, reduceCtorEq, and_self, true_or, or_true, or_false, false_or, or_self, r_callM e2, wipeE, rI_def]
      refine ⟨h1.trans p2, t ++ [r], by simp [h2, rI], by simp [h3], fun x hx => ?_⟩
      rcases List.mem_append.mp hx with q | q
      · exact h4 x q
      · rw [List.mem_singleton.mp q]; exact hr
    · refine ⟨_, rfl, t, by rw [h2] <;> rfl, ⟨by simpa using h3, h4⟩, h1⟩
  obtain ⟨r, s', h1, t, rfl, h3, h4⟩ := z
  exact ⟨t, s', h1, h3, h4⟩
theorem c_law_grounded (ha : Lw T d ga AnyTabC) (h : IsF T g (F_law_grounded ga)) : Lw T (d + 1) g TabC := Lw.of h fun j hj s n k hp hk1 hk => by
  have an := ha.at hj
  have z : ∃ r s', (F_law_grounded ga).run (orc T j) [.ref n, .int k] s = .ok r s' ∧ ∃ t, r = .val (tI t) ∧ Tab k t ∧ Pn n s s' := by
    refine run_ex [some (.val (.ref n)), some (.val (.int k)), none, none] rfl rfl ?_
    unfold F_law_grounded
    obtain ⟨t, s3, e1, ht, p1⟩ := an s n k hp hk
    simp -dsimp only [wipe_n, wipe_c, ↓ra_nop, ↓ra_cst, ↓ra_glob, ↓ra_tup, ↓ra_lst, ↓ra_dic, ↓ra_bin, ↓ra_neg, ↓ra_not, ↓ra_and, ↓ra_or, ↓ra_ife, ↓ra_cmp, ↓ra_chain, ↓ra_ix, ↓ra_sl, ↓ra_rev, ↓ra_get2, ↓r_get2, ↓r_needT, ↓ra_isi, ↓ra_bi, ↓ra_call, ↓ra_calle, ↓ra_pop, ↓ra_alloc, ↓ra_comp, ↓ra_comp2, ↓ra_me, ↓ra_lrange, ↓r_dic, ↓r_needM, ↓r_me, ↓r_lrange, me_cl, me_js, me_ss, ↓r_cst, ↓r_glob, ↓re_nil, ↓re_cons, ↓rsa_nil, ↓rsa_cons, ↓r_tup, ↓r_lst, ↓r_bin, ↓r_cmp, ↓r_ix, ↓r_neg, ↓r_isi, ↓r_bi, ↓r_not, ↓r_and, ↓r_or, ↓r_ife, ↓r_chain, ↓r_none, ↓rp_cst, ↓rp_glob, ↓rp_bin, ↓rp_neg, ↓rp_ife, ↓rp_ix, ↓rp_bi, ↓rp_call, ↓rp_var, ↓r_sl, ↓r_call, ↓r_alloc, ↓r_allocM, ↓r_prim1, ↓r_prim2, ↓r_primN, ↓rd_nil, ↓rd_cons, ↓rd_int, ↓rd_bl, ↓rd_str, ↓rd_non, ↓rd_tup, ↓rd_lst, ↓rd_scr, ↓rd_dic, ↓rd_cls, ↓rd_fn, ↓rd_s, ↓rd_r, ↓r_chN, refP_s, ↓ri_seq, ↓rq_tup, ↓rq_lst, ↓r_var, ↓ra_var, ↓r_ret, ↓r_frz, ↓r_asBl, ↓r_asInt, ↓r_liftS, ↓ri_range, ↓ri_range2, ↓ri_zip, ↓ri_enum, ↓r_calle, ↓rc_fn, ↓en_lst, ↓en_tup, ↓rz_tup, ↓rz_lst, ↓rz_tl, ↓rz_lt, ↓ri_zip3, ↓rz_ttt, ↓rz_ttl, ↓rz_lll, ↓rx_expr, ↓rx_set, ↓rx_frz, ↓rx_ret, ↓rx_iff, ↓rx_mat, ↓then_nx, ↓then_rt, ↓then_bk, ↓then_ct, ↓rx_nil, ↓rx_cons, ↓rx_asg, ↓rt_name, ↓rt_tup, ↓rt_lst, ↓rt_nil, ↓rt_cons, ↓rx_setix, ↓rx_app, ↓rx_ext, ↓r_pop, ↓r_needL, ↓lstP_l, ↓obP_s, ↓r_chS, ↓rr_nil, ↓rr_cons, ↓rh_v, ↓rh_l, ↓rx_par, ↓rx_pass, ↓rx_for, ↓varP_v, ↓varP_n, bin_addI, bin_subI, cmp_lt, cmp_le, cmp_gt, cmp_ge, cmp_eqI, cmp_neI, cmp_eqB, cmp_eqS, cmp_neS, blR_s, bi_lenT, bi_lenL, bi_lenS, bi_tupT, bi_tupL, bi_lstT, bi_lstL, bi_max, bi_min, bi_intB, neg_i, isi_int, isi_tup, isi_lst, isi_dic, isi_str, isi_non, isi_bl, List.getElem?_cons_zero, List.getElem?_cons_succ, List.set_cons_zero, List.set_cons_succ, Option.map_some, R.flat, R.d, Ob.flat, Ob.d, true_and, and_true, eq_self, decide_eq_true_eq, reduceIte, Bool.true_and, Bool.false_and, Bool.and_false, Bool.and_true, Bool.false_eq_true, decide_true, decide_false, Bool.not_true, Bool.not_false, List.length_map, List.length_cons, List.length_nil, reduceCtorEq, and_self, true_or, or_true, or_false, false_or, or_self, r_callM e1, tI_def]
    refine wv_comp ?_
    simp -dsimp only [wipe_n, wipe_c, ↓ra_nop, ↓ra_cst, ↓ra_glob, ↓ra_tup, ↓ra_lst, ↓ra_dic, ↓ra_bin, ↓ra_neg, ↓ra_not, ↓ra_and, ↓ra_or, ↓ra_ife, ↓ra_cmp, ↓ra_chain, ↓ra_ix, ↓ra_sl, ↓ra_rev, ↓ra_get2, ↓r_get2, ↓r_needT, ↓ra_isi, ↓ra_bi, ↓ra_call, ↓ra_calle, ↓ra_pop, ↓ra_alloc, ↓ra_comp, ↓ra_comp2, ↓ra_me, ↓ra_lrange, ↓r_dic, ↓r_needM, ↓r_me, ↓r_lrange, me_cl, me_js, me_ss, ↓r_cst, ↓r_glob, ↓re_nil, ↓re_cons, ↓rsa_nil, ↓rsa_cons, ↓r_tup, ↓r_lst, ↓r_bin, ↓r_cmp, ↓r_ix, ↓r_neg, ↓r_isi, ↓r_bi, ↓r_not, ↓r_and, ↓r_or, ↓r_ife, ↓r_chain, ↓r_none, ↓rp_cst, ↓rp_glob, ↓rp_bin, ↓rp_neg, ↓rp_ife, ↓rp_ix, ↓rp_bi, ↓rp_call, ↓rp_var, ↓r_sl, ↓r_call, ↓r_alloc, ↓r_allocM, ↓r_prim1, ↓r_prim2, ↓r_primN, ↓rd_nil, ↓rd_cons, ↓rd_int, ↓rd_bl, ↓rd_str, ↓rd_non, ↓rd_tup, ↓rd_lst, ↓rd_scr, ↓rd_dic, ↓rd_cls, ↓rd_fn, ↓rd_s, ↓rd_r, ↓r_chN, refP_s, ↓ri_seq, ↓rq_tup, ↓rq_lst, ↓r_var, ↓ra_var, ↓r_ret, ↓r_frz, ↓r_asBl, ↓r_asInt, ↓r_liftS, ↓ri_range, ↓ri_range2, ↓ri_zip, ↓ri_enum, ↓r_calle, ↓rc_fn, ↓en_lst, ↓en_tup, ↓rz_tup, ↓rz_lst, ↓rz_tl, ↓rz_lt, ↓ri_zip3, ↓rz_ttt, ↓rz_ttl, ↓rz_lll, ↓rx_expr, ↓rx_set, ↓rx_frz, ↓rx_ret, ↓rx_iff, ↓rx_mat, ↓then_nx, ↓then_rt, ↓then_bk, ↓then_ct, ↓rx_nil, ↓rx_cons, ↓rx_asg, ↓rt_name, ↓rt_tup, ↓rt_lst, ↓rt_nil, ↓rt_cons, ↓rx_setix, ↓rx_app, ↓rx_ext, ↓r_pop, ↓r_needL, ↓lstP_l, ↓obP_s, ↓r_chS, ↓rr_nil, ↓rr_cons, ↓rh_v, ↓rh_l, ↓rx_par, ↓rx_pass, ↓rx_for, ↓varP_v, ↓varP_n, bin_addI, bin_subI, cmp_lt, cmp_le, cmp_gt, cmp_ge, cmp_eqI, cmp_neI, cmp_eqB, cmp_eqS, cmp_neS, blR_s, bi_lenT, bi_lenL, bi_lenS, bi_tupT, bi_tupL, bi_lstT, bi_lstL, bi_max, bi_min, bi_intB, neg_i, isi_int, isi_tup, isi_lst, isi_dic, isi_str, isi_non, isi_bl, List.getElem?_cons_zero, List.getElem?_cons_succ, List.set_cons_zero, List.set_cons_succ, Option.map_some, R.flat, R.d, Ob.flat, Ob.d, true_and, and_true, eq_self, decide_eq_true_eq, reduceIte, Bool.true_and, Bool.false_and, Bool.and_false, Bool.and_true, Bool.false_eq_true, decide_true, decide_false, Bool.not_true, Bool.not_false, List.length_map, List.length_cons, List.length_nil, reduceCtorEq, and_self, true_or, or_true, or_false, false_or, or_self]
    refine ⟨by omega, rfl, by simp; show k ≤ 16777216; omega, fun i acc s2 => s2 = s3 ∧ ∃ t : List (List Int), acc = t.map rI ∧ t.length = i ∧ ∀ x ∈ t, Row k x, ⟨rfl, [], rfl, rfl, fun x hx => by cases hx⟩, ?_, fun acc s2 ⟨h1, t, h2, h3, h4⟩ => ?_⟩
    · rintro i acc s2 x hx ⟨rfl, u, h2, h3, h4⟩
      refine wt_all rfl ?_
      simp only [List.getElem?_map, Option.map_eq_some_iff] at hx
      obtain ⟨i', hi', rfl⟩ := hx
      obtain ⟨hi2, hi3⟩ := List.getElem?_eq_some_iff.mp hi'
      simp at hi2 hi3
      subst hi3
      have hit : i < t.length := by rw [ht.1]; exact hi2
      have hrow := ht.2 t[i] (List.getElem_mem hit)
      have e2 : item (t.map rI) (i : Int) = some (.tup (t[i].map .int)) := item_nat (by rw [List.getElem?_map, List.getElem?_eq_getElem hit]; rfl)
      have hl : t[i].length = k := hrow.1
      have e3 : cut (t[i].map D.int) none (some (i : Int)) = (t[i].take i).map .int := cut_to (by omega)
      have e4 : cut (t[i].map D.int) (some ((i : Int) + 1)) none = (t[i].drop (i + 1)).map .int := cut_from (i := i + 1) (by omega)
      have b1 : ((t[i].take i).map D.int).length + [D.int (-1)].length ≤ line := by simp; show _ ≤ 16777216; omega
      have b2 : ((t[i].take i).map D.int ++ [D.int (-1)]).length + ((t[i].drop (i + 1)).map D.int).length ≤ line := by simp; show _ ≤ 16777216; omega
      have b3 : ([D.int (-1)] : List D).length ≤ line := by decide
      simp -dsimp only [wipe_n, wipe_c, ↓ra_nop, ↓ra_cst, ↓ra_glob, ↓ra_tup, ↓ra_lst, ↓ra_dic, ↓ra_bin, ↓ra_neg, ↓ra_not, ↓ra_and, ↓ra_or, ↓ra_ife, ↓ra_cmp, ↓ra_chain, ↓ra_ix, ↓ra_sl, ↓ra_rev, ↓ra_get2, ↓r_get2, ↓r_needT, ↓ra_isi, ↓ra_bi, ↓ra_call, ↓ra_calle, ↓ra_pop, ↓ra_alloc, ↓ra_comp, ↓ra_comp2, ↓ra_me, ↓ra_lrange, ↓r_dic, ↓r_needM, ↓r_me, ↓r_lrange, me_cl, me_js, me_ss, ↓r_cst, ↓r_glob, ↓re_nil, ↓re_cons, ↓rsa_nil, ↓rsa_cons, ↓r_tup, ↓r_lst, ↓r_bin, ↓r_cmp, ↓r_ix, ↓r_neg, ↓r_isi, ↓r_bi, ↓r_not, ↓r_and, ↓r_or, ↓r_ife, ↓r_chain, ↓r_none, ↓rp_cst, ↓rp_glob, ↓rp_bin, ↓rp_neg, ↓rp_ife, ↓rp_ix, ↓rp_bi, ↓rp_call, ↓rp_var, ↓r_sl, ↓r_call, ↓r_alloc, ↓r_allocM, ↓r_prim1, ↓r_prim2, ↓r_primN, ↓rd_nil, ↓rd_cons, ↓rd_int, ↓rd_bl, ↓rd_str, ↓rd_non, ↓rd_tup, ↓rd_lst, ↓rd_scr, ↓rd_dic, ↓rd_cls, ↓rd_fn, ↓rd_s, ↓rd_r, ↓r_chN, refP_s, ↓ri_seq, ↓rq_tup, ↓rq_lst, ↓r_var, ↓ra_var, ↓r_ret, ↓r_frz, ↓r_asBl, ↓r_asInt, ↓r_liftS, ↓ri_range, ↓ri_range2, ↓ri_zip, ↓ri_enum, ↓r_calle, ↓rc_fn, ↓en_lst, ↓en_tup, ↓rz_tup, ↓rz_lst, ↓rz_tl, ↓rz_lt, ↓ri_zip3, ↓rz_ttt, ↓rz_ttl, ↓rz_lll, ↓rx_expr, ↓rx_set, ↓rx_frz, ↓rx_ret, ↓rx_iff, ↓rx_mat, ↓then_nx, ↓then_rt, ↓then_bk, ↓then_ct, ↓rx_nil, ↓rx_cons, ↓rx_asg, ↓rt_name, ↓rt_tup, ↓rt_lst, ↓rt_nil, ↓rt_cons, ↓rx_setix, ↓rx_app, ↓rx_ext, ↓r_pop, ↓r_needL, ↓lstP_l, ↓obP_s, ↓r_chS, ↓rr_nil, ↓rr_cons, ↓rh_v, ↓rh_l, ↓rx_par, ↓rx_pass, ↓rx_for, ↓varP_v, ↓varP_n, bin_addI, bin_subI, cmp_lt, cmp_le, cmp_gt, cmp_ge, cmp_eqI, cmp_neI, cmp_eqB, cmp_eqS, cmp_neS, blR_s, bi_lenT, bi_lenL, bi_lenS, bi_tupT, bi_tupL, bi_lstT, bi_lstL, bi_max, bi_min, bi_intB, neg_i, isi_int, isi_tup, isi_lst, isi_dic, isi_str, isi_non, isi_bl, List.getElem?_cons_zero, List.getElem?_cons_succ, List.set_cons_zero, List.set_cons_succ, Option.map_some, R.flat, R.d, Ob.flat, Ob.d, true_and, and_true, eq_self, decide_eq_true_eq, reduceIte, Bool.true_and, Bool.false_and, Bool.and_false, Bool.and_true, Bool.false_eq_true, decide_true, decide_false, Bool.not_true, Bool.not_false, List.length_map, List.length_cons, List.length_nil, reduceCtorEq, and_self, true_or, or_true, or_false, false_or, or_self, ix_t e2, slD, e3, e4, wipeE, bin_addT b1, bin_addT b2]
      refine ⟨by decide, u ++ [t[i].take i ++ [-1] ++ t[i].drop (i + 1)], by simp [h2, rI], by simp [h3], fun x hx => ?_⟩
      rcases List.mem_append.mp hx with q | q
      · exact h4 x q
      · rw [List.mem_singleton.mp q]
        refine ⟨by simp [hl]; omega, fun y hy => ?_⟩
        simp only [List.mem_append, List.mem_singleton] at hy
        rcases hy with (hy | rfl) | hy
        · exact hrow.2 y (List.mem_of_mem_take hy)
        · exact .inl rfl
        · exact hrow.2 y (List.mem_of_mem_drop hy)
    · refine ⟨_, rfl, t, by rw [h2] <;> rfl, ⟨by simpa using h3, h4⟩, by rw [h1]; exact p1⟩
  obtain ⟨r, s', h1, t, rfl, h3, h4⟩ := z
  exact ⟨t, s', h1, h3, h4⟩
theorem c_law_stepped (hs : Lw T d gs SignsC) (hd : Lw T d gd DrawC) (h : IsF T g (F_law_stepped gs gd)) : Lw T (d + 1) g TabC := Lw.of h fun j hj s n k hp hk1 hk => by
  have dr := hd.at hj
  have sn := hs.at hj
  have z : ∃ r s', (F_law_stepped gs gd).run (orc T j) [.ref n, .int k] s = .ok r s' ∧ ∃ t, r = .val (tI t) ∧ Tab k t ∧ Pn n s s' := by
    refine run_ex [some (.val (.ref n)), some (.val (.int k)), none, none] rfl rfl ?_
    unfold F_law_stepped
    simp -dsimp only [wipe_n, wipe_c, ↓ra_nop, ↓ra_cst, ↓ra_glob, ↓ra_tup, ↓ra_lst, ↓ra_dic, ↓ra_bin, ↓ra_neg, ↓ra_not, ↓ra_and, ↓ra_or, ↓ra_ife, ↓ra_cmp, ↓ra_chain, ↓ra_ix, ↓ra_sl, ↓ra_rev, ↓ra_get2, ↓r_get2, ↓r_needT, ↓ra_isi, ↓ra_bi, ↓ra_call, ↓ra_calle, ↓ra_pop, ↓ra_alloc, ↓ra_comp, ↓ra_comp2, ↓ra_me, ↓ra_lrange, ↓r_dic, ↓r_needM, ↓r_me, ↓r_lrange, me_cl, me_js, me_ss, ↓r_cst, ↓r_glob, ↓re_nil, ↓re_cons, ↓rsa_nil, ↓rsa_cons, ↓r_tup, ↓r_lst, ↓r_bin, ↓r_cmp, ↓r_ix, ↓r_neg, ↓r_isi, ↓r_bi, ↓r_not, ↓r_and, ↓r_or, ↓r_ife, ↓r_chain, ↓r_none, ↓rp_cst, ↓rp_glob, ↓rp_bin, ↓rp_neg, ↓rp_ife, ↓rp_ix, ↓rp_bi, ↓rp_call, ↓rp_var, ↓r_sl, ↓r_call, ↓r_alloc, ↓r_allocM, ↓r_prim1, ↓r_prim2, ↓r_primN, ↓rd_nil, ↓rd_cons, ↓rd_int, ↓rd_bl, ↓rd_str, ↓rd_non, ↓rd_tup, ↓rd_lst, ↓rd_scr, ↓rd_dic, ↓rd_cls, ↓rd_fn, ↓rd_s, ↓rd_r, ↓r_chN, refP_s, ↓ri_seq, ↓rq_tup, ↓rq_lst, ↓r_var, ↓ra_var, ↓r_ret, ↓r_frz, ↓r_asBl, ↓r_asInt, ↓r_liftS, ↓ri_range, ↓ri_range2, ↓ri_zip, ↓ri_enum, ↓r_calle, ↓rc_fn, ↓en_lst, ↓en_tup, ↓rz_tup, ↓rz_lst, ↓rz_tl, ↓rz_lt, ↓ri_zip3, ↓rz_ttt, ↓rz_ttl, ↓rz_lll, ↓rx_expr, ↓rx_set, ↓rx_frz, ↓rx_ret, ↓rx_iff, ↓rx_mat, ↓then_nx, ↓then_rt, ↓then_bk, ↓then_ct, ↓rx_nil, ↓rx_cons, ↓rx_asg, ↓rt_name, ↓rt_tup, ↓rt_lst, ↓rt_nil, ↓rt_cons, ↓rx_setix, ↓rx_app, ↓rx_ext, ↓r_pop, ↓r_needL, ↓lstP_l, ↓obP_s, ↓r_chS, ↓rr_nil, ↓rr_cons, ↓rh_v, ↓rh_l, ↓rx_par, ↓rx_pass, ↓rx_for, ↓varP_v, ↓varP_n, bin_addI, bin_subI, cmp_lt, cmp_le, cmp_gt, cmp_ge, cmp_eqI, cmp_neI, cmp_eqB, cmp_eqS, cmp_neS, blR_s, bi_lenT, bi_lenL, bi_lenS, bi_tupT, bi_tupL, bi_lstT, bi_lstL, bi_max, bi_min, bi_intB, neg_i, isi_int, isi_tup, isi_lst, isi_dic, isi_str, isi_non, isi_bl, List.getElem?_cons_zero, List.getElem?_cons_succ, List.set_cons_zero, List.set_cons_succ, Option.map_some, R.flat, R.d, Ob.flat, Ob.d, true_and, and_true, eq_self, decide_eq_true_eq, reduceIte, Bool.true_and, Bool.false_and, Bool.and_false, Bool.and_true, Bool.false_eq_true, decide_true, decide_false, Bool.not_true, Bool.not_false, List.length_map, List.length_cons, List.length_nil, reduceCtorEq, and_self, true_or, or_true, or_false, false_or, or_self]
    refine ⟨by decide, by omega, ?_⟩
    refine wp_forL (fun i e s2 => ∃ (t : List (List Int)) (x : Option R), e = [some (.val (.ref n)), some (.val (.int k)), some (.new (.lst (t.map rI))), x] ∧ Pn n s s2 ∧ t.length = i ∧ ∀ x ∈ t, Row k x) ⟨[], none, rfl, Pn.refl hp, rfl, fun x hx => by cases hx⟩ ?_ ?_
    · rintro i x e1 s2 hx ⟨t, y, rfl, h1, h2, h3⟩
      obtain ⟨rfl, hi⟩ := range_at hx
      obtain ⟨r, s3, e1, hr, p1⟩ := sn s2 n i 1 h1.1 (by omega)
      obtain ⟨d, s4, e2, dd, p2⟩ := dr.gives p1.1 (m := 2) (by omega) (by omega)
      have mo : mulOk 2 d = true := mulL (by decide)
      have hrl : r.length = i := hr.1
      have b1 : (r.map D.int).length + [D.int (2 * d - 1)].length ≤ line := by simp; show _ ≤ 16777216; omega
      have m2 : binD .Mult (.tup [.int 0]) (.int ((k : Int) - i - 1)) = some (.val (.tup (List.replicate (k - i - 1) (.int 0)))) := by
        have q1 : ((k : Int) - i - 1).natAbs ≤ 1000 := by omega
        have q2 : ((k : Int) - i - 1).toNat = k - i - 1 := by omega
        simp only [binD, List.length_cons, List.length_nil, q1, and_true, q2, rep_single]
        rfl
      have b2 : (r.map D.int ++ [D.int (2 * d - 1)]).length + (List.replicate (k - i - 1) (D.int 0)).length ≤ line := by simp; show _ ≤ 16777216; omega
      have ap : ∀ d : D, appO d (.lst (t.map rI)) = some (.lst (t.map rI ++ [d]), .val .non) := fun d => by
        have : (t.map rI).length < line := by simp; show _ < 16777216; omega
        simp only [appO, this, if_true]
      simp -dsimp only [wipe_n, wipe_c, ↓ra_nop, ↓ra_cst, ↓ra_glob, ↓ra_tup, ↓ra_lst, ↓ra_dic, ↓ra_bin, ↓ra_neg, ↓ra_not, ↓ra_and, ↓ra_or, ↓ra_ife, ↓ra_cmp, ↓ra_chain, ↓ra_ix, ↓ra_sl, ↓ra_rev, ↓ra_get2, ↓r_get2, ↓r_needT, ↓ra_isi, ↓ra_bi, ↓ra_call, ↓ra_calle, ↓ra_pop, ↓ra_alloc, ↓ra_comp, ↓ra_comp2, ↓ra_me, ↓ra_lrange, ↓r_dic, ↓r_needM, ↓r_me, ↓r_lrange, me_cl, me_js, me_ss, ↓r_cst, ↓r_glob, ↓re_nil, ↓re_cons, ↓rsa_nil, ↓rsa_cons, ↓r_tup, ↓r_lst, ↓r_bin, ↓r_cmp, ↓r_ix, ↓r_neg, ↓r_isi, ↓r_bi, ↓r_not, ↓r_and, ↓r_or, ↓r_ife, ↓r_chain, ↓r_none, ↓rp_cst, ↓rp_glob, ↓rp_bin, ↓rp_neg, ↓rp_ife, ↓rp_ix, ↓rp_bi, ↓rp_call, ↓rp_var, ↓r_sl, ↓r_call, ↓r_alloc, ↓r_allocM, ↓r_prim1, ↓r_prim2, ↓r_primN, ↓rd_nil, ↓rd_cons, ↓rd_int, ↓rd_bl, ↓rd_str, ↓rd_non, ↓rd_tup, ↓rd_lst, ↓rd_scr, ↓rd_dic, ↓rd_cls, ↓rd_fn, ↓rd_s, ↓rd_r, ↓r_chN, refP_s, ↓ri_seq, ↓rq_tup, ↓rq_lst, ↓r_var, ↓ra_var, ↓r_ret, ↓r_frz, ↓r_asBl, ↓r_asInt, ↓r_liftS, ↓ri_range, ↓ri_range2, ↓ri_zip, ↓ri_enum, ↓r_calle, ↓rc_fn, ↓en_lst, ↓en_tup, ↓rz_tup, ↓rz_lst, ↓rz_tl, ↓rz_lt, ↓ri_zip3, ↓rz_ttt, ↓rz_ttl, ↓rz_lll, ↓rx_expr, ↓rx_set, ↓rx_frz, ↓rx_ret, ↓rx_iff, ↓rx_mat, ↓then_nx, ↓then_rt, ↓then_bk, ↓then_ct, ↓rx_nil, ↓rx_cons, ↓rx_asg, ↓rt_name, ↓rt_tup, ↓rt_lst, ↓rt_nil, ↓rt_cons, ↓rx_setix, ↓rx_app, ↓rx_ext, ↓r_pop, ↓r_needL, ↓lstP_l, ↓obP_s, ↓r_chS, ↓rr_nil, ↓rr_cons, ↓rh_v, ↓rh_l, ↓rx_par, ↓rx_pass, ↓rx_for, ↓varP_v, ↓varP_n, bin_addI, bin_subI, cmp_lt, cmp_le, cmp_gt, cmp_ge, cmp_eqI, cmp_neI, cmp_eqB, cmp_eqS, cmp_neS, blR_s, bi_lenT, bi_lenL, bi_lenS, bi_tupT, bi_tupL, bi_lstT, bi_lstL, bi_max, bi_min, bi_intB, neg_i, isi_int, isi_tup, isi_lst, isi_dic, isi_str, isi_non, isi_bl, List.getElem?_cons_zero, List.getElem?_cons_succ, List.set_cons_zero, List.set_cons_succ, Option.map_some, R.flat, R.d, Ob.flat, Ob.d, true_and, and_true, eq_self, decide_eq_true_eq, reduceIte, Bool.true_and, Bool.false_and, Bool.and_false, Bool.and_true, Bool.false_eq_true, decide_true, decide_false, Bool.not_true, Bool.not_false, List.length_map, List.length_cons, List.length_nil, reduceCtorEq, and_self, true_or, or_true, or_false, false_or, or_self, r_bnd, r_callM e1, r_callM e2, rI_def, bin_mulI mo, bin_addT b1, m2, bin_addT b2, ap]
      refine ⟨by decide, by decide, t ++ [r ++ [2 * d - 1] ++ List.replicate (k - i - 1) 0], some (.val (.int i)), by simp [rI], (h1.trans p1).trans p2, by simp [h2], fun x hx => ?_⟩
      rcases List.mem_append.mp hx with q | q
      · exact h3 x q
      · rw [List.mem_singleton.mp q]
        refine ⟨by simp [hrl]; omega, fun y hy => ?_⟩
        simp only [List.mem_append, List.mem_singleton] at hy
        rcases hy with (hy | rfl) | hy
        · exact hr.2 y hy
        · exact sg_coin dd
        · rw [(List.mem_replicate.mp hy).2]; exact .inr (.inl rfl)
    · rintro e1 s2 ⟨t, y, rfl, h1, h2, h3⟩
      simp -dsimp only [wipe_n, wipe_c, ↓ra_nop, ↓ra_cst, ↓ra_glob, ↓ra_tup, ↓ra_lst, ↓ra_dic, ↓ra_bin, ↓ra_neg, ↓ra_not, ↓ra_and, ↓ra_or, ↓ra_ife, ↓ra_cmp, ↓ra_chain, ↓ra_ix, ↓ra_sl, ↓ra_rev, ↓ra_get2, ↓r_get2, ↓r_needT, ↓ra_isi, ↓ra_bi, ↓ra_call, ↓ra_calle, ↓ra_pop, ↓ra_alloc, ↓ra_comp, ↓ra_comp2, ↓ra_me, ↓ra_lrange, ↓r_dic, ↓r_needM, ↓r_me, ↓r_lrange, me_cl, me_js, me_ss, ↓r_cst, ↓r_glob, ↓re_nil, ↓re_cons, ↓rsa_nil, ↓rsa_cons, ↓r_tup, ↓r_lst, ↓r_bin, ↓r_cmp, ↓r_ix, ↓r_neg, ↓r_isi, ↓r_bi, ↓r_not, ↓r_and, ↓r_or, ↓r_ife, ↓r_chain, ↓r_none, ↓rp_cst, ↓rp_glob, ↓rp_bin, ↓rp_neg, ↓rp_ife, ↓rp_ix, ↓rp_bi, ↓rp_call, ↓rp_var, ↓r_sl, ↓r_call, ↓r_alloc, ↓r_allocM, ↓r_prim1, ↓r_prim2, ↓r_primN, ↓rd_nil, ↓rd_cons, ↓rd_int, ↓rd_bl, ↓rd_str, ↓rd_non, ↓rd_tup, ↓rd_lst, ↓rd_scr, ↓rd_dic, ↓rd_cls, ↓rd_fn, ↓rd_s, ↓rd_r, ↓r_chN, refP_s, ↓ri_seq, ↓rq_tup, ↓rq_lst, ↓r_var, ↓ra_var, ↓r_ret, ↓r_frz, ↓r_asBl, ↓r_asInt, ↓r_liftS, ↓ri_range, ↓ri_range2, ↓ri_zip, ↓ri_enum, ↓r_calle, ↓rc_fn, ↓en_lst, ↓en_tup, ↓rz_tup, ↓rz_lst, ↓rz_tl, ↓rz_lt, ↓ri_zip3, ↓rz_ttt, ↓rz_ttl, ↓rz_lll, ↓rx_expr, ↓rx_set, ↓rx_frz, ↓rx_ret, ↓rx_iff, ↓rx_mat, ↓then_nx, ↓then_rt, ↓then_bk, ↓then_ct, ↓rx_nil, ↓rx_cons, ↓rx_asg, ↓rt_name, ↓rt_tup, ↓rt_lst, ↓rt_nil, ↓rt_cons, ↓rx_setix, ↓rx_app, ↓rx_ext, ↓r_pop, ↓r_needL, ↓lstP_l, ↓obP_s, ↓r_chS, ↓rr_nil, ↓rr_cons, ↓rh_v, ↓rh_l, ↓rx_par, ↓rx_pass, ↓rx_for, ↓varP_v, ↓varP_n, bin_addI, bin_subI, cmp_lt, cmp_le, cmp_gt, cmp_ge, cmp_eqI, cmp_neI, cmp_eqB, cmp_eqS, cmp_neS, blR_s, bi_lenT, bi_lenL, bi_lenS, bi_tupT, bi_tupL, bi_lstT, bi_lstL, bi_max, bi_min, bi_intB, neg_i, isi_int, isi_tup, isi_lst, isi_dic, isi_str, isi_non, isi_bl, List.getElem?_cons_zero, List.getElem?_cons_succ, List.set_cons_zero, List.set_cons_succ, Option.map_some, R.flat, R.d, Ob.flat, Ob.d, true_and, and_true, eq_self, decide_eq_true_eq, reduceIte, Bool.true_and, Bool.false_and, Bool.and_false, Bool.and_true, Bool.false_eq_true, decide_true, decide_false, Bool.not_true, Bool.not_false, List.length_map, List.length_cons, List.length_nil, reduceCtorEq, and_self, true_or, or_true, or_false, false_or, or_self]
      exact ⟨_, rfl, t, rfl, ⟨by simpa using h2, h3⟩, h1⟩
  obtain ⟨r, s', h1, t, rfl, h3, h4⟩ := z
  exact ⟨t, s', h1, h3, h4⟩
end
end Mi
namespace Mi
open PySem
mutual
def D.vl : D → Bool
  | .ref _ => false | .fn _ => false | .cls _ => false | .scr _ => false | .tab _ => false
  | .tup ds => decide (ds.length ≤ line) && vls ds
  | _ => true
def vls : List D → Bool
  | [] => true
  | d :: ds => d.vl && vls ds
end
theorem vls_iff : ∀ {ds : List D}, vls ds = true ↔ ∀ d ∈ ds, d.vl = true
  | [] => by simp [vls]
  | d :: ds => by simp [vls, vls_iff (ds := ds)]
theorem vl_tup {ds : List D} (h : (D.tup ds).vl = true) : ds.length ≤ line ∧ ∀ d ∈ ds, d.vl = true := by
  simp only [D.vl, Bool.and_eq_true, decide_eq_true_eq] at h
  exact ⟨h.1, vls_iff.mp h.2⟩
theorem vl_of {ds : List D} (h1 : ds.length ≤ line) (h2 : ∀ d ∈ ds, d.vl = true) : (D.tup ds).vl = true := by
  simp only [D.vl, Bool.and_eq_true, decide_eq_true_eq]
  exact ⟨h1, vls_iff.mpr h2⟩
theorem vl_rI {r : List Int} (h : r.length ≤ 1000) : (rI r).vl = true := vl_of (by simp; show _ ≤ 16777216; omega) fun d hd => by
  obtain ⟨x, _, rfl⟩ := List.mem_map.mp hd
  rfl
theorem Row.vl {n : Nat} {r : List Int} (h : Row n r) (hn : n ≤ 1000) : (rI r).vl = true := vl_rI (by rw [h.1]; exact hn)
theorem Tab.vl {n : Nat} {t : List (List Int)} (h : Tab n t) (hn : n ≤ 1000) : (tI t).vl = true := vl_of (by simp [h.1]; show _ ≤ 16777216; omega) fun d hd => by
  obtain ⟨x, hx, rfl⟩ := List.mem_map.mp hd
  exact (h.2 x hx).vl hn
theorem vl_nref {d : D} (h : d.vl = true) : ∀ m, d ≠ .ref m := fun m z => by subst z; cases h
theorem rd_vl {d : D} (h : d.vl = true) {e : Ev} {s : Sto} {P : D → Ev → Sto → Prop} : WP (deref (.v d)) e s P = P d e s := r_ok (deref_v (vl_nref h))
theorem Q.rd_vl {X : Nat → Sto → Prop} {d : D} (h : d.vl = true) {e : Ev} {s : Sto} {P : D → Ev → Sto → Prop} : Q.WQ X (deref (.v d)) e s P = P d e s := Q.r_ok (deref_v (vl_nref h))
def isI : D → Bool
  | .int _ => true
  | _ => false
def sgD : D → Bool
  | .int i => decide (i ∈ [(-1 : Int), 0, 1])
  | _ => false
def sgsD (n : Int) : D → Bool
  | .tup ds => decide ((ds.length : Int) = n) && ds.all sgD
  | _ => false
def tabD : D → Bool
  | .tup ds => decide (1 ≤ ds.length) && decide (ds.length ≤ 5) && ds.all (sgsD ds.length)
  | _ => false
theorem sgD_iff {d : D} : sgD d = true ↔ ∃ x, d = .int x ∧ sg x := by
  cases d <;> simp [sgD, sg]
theorem ints_of : ∀ {ds : List D}, (∀ d ∈ ds, sgD d = true) → ∃ r : List Int, ds = r.map .int ∧ ∀ x ∈ r, sg x
  | [], _ => ⟨[], rfl, fun x hx => by cases hx⟩
  | d :: ds, h => by
    obtain ⟨x, rfl, hx⟩ := sgD_iff.mp (h d (.head _))
    obtain ⟨r, rfl, hr⟩ := ints_of fun d hd => h d (.tail _ hd)
    refine ⟨x :: r, rfl, fun y hy => ?_⟩
    rcases List.mem_cons.mp hy with q | q
    · rw [q]; exact hx
    · exact hr y q
theorem sgsD_iff {n : Nat} {d : D} : sgsD n d = true ↔ ∃ r, d = rI r ∧ Row n r := by
  constructor
  · intro h
    cases d with
    | tup ds =>
      simp only [sgsD, Bool.and_eq_true, decide_eq_true_eq, List.all_eq_true] at h
      obtain ⟨r, rfl, hr⟩ := ints_of h.2
      exact ⟨r, rfl, by have := h.1; simp only [List.length_map] at this; omega, hr⟩
    | _ => cases h
  · rintro ⟨r, rfl, h1, h2⟩
    simp only [rI, sgsD, List.length_map, h1, decide_true, Bool.true_and, List.all_eq_true, List.mem_map]
    rintro d ⟨x, hx, rfl⟩
    exact sgD_iff.mpr ⟨x, rfl, h2 x hx⟩
theorem rows_of {n : Nat} : ∀ {ds : List D}, (∀ d ∈ ds, sgsD n d = true) → ∃ t : List (List Int), ds = t.map rI ∧ ∀ x ∈ t, Row n x
  | [], _ => ⟨[], rfl, fun x hx => by cases hx⟩
  | d :: ds, h => by
    obtain ⟨x, rfl, hx⟩ := sgsD_iff.mp (h d (.head _))
    obtain ⟨r, rfl, hr⟩ := rows_of fun d hd => h d (.tail _ hd)
    refine ⟨x :: r, rfl, fun y hy => ?_⟩
    rcases List.mem_cons.mp hy with q | q
    · rw [q]; exact hx
    · exact hr y q
theorem tabD_iff {d : D} : tabD d = true ↔ ∃ n t, d = tI t ∧ Tab n t ∧ 1 ≤ n ∧ n ≤ 5 := by
  constructor
  · intro h
    cases d with
    | tup ds =>
      simp only [tabD, Bool.and_eq_true, decide_eq_true_eq, List.all_eq_true] at h
      obtain ⟨t, e, ht⟩ := rows_of (n := ds.length) h.2
      exact ⟨ds.length, t, by rw [e]; rfl, ⟨by rw [e, List.length_map], ht⟩, h.1.1, h.1.2⟩
    | _ => cases h
  · rintro ⟨n, t, rfl, ⟨h1, h2⟩, h3, h4⟩
    simp only [tI, tabD, List.length_map, h1, Bool.and_eq_true, decide_eq_true_eq, List.all_eq_true, List.mem_map]
    refine ⟨⟨h3, h4⟩, ?_⟩
    rintro d ⟨x, hx, rfl⟩
    exact sgsD_iff.mpr ⟨x, rfl, h2 x hx⟩
theorem Tab.is {n : Nat} {t : List (List Int)} (h : Tab n t) (h1 : 1 ≤ n) (h5 : n ≤ 5) : tabD (tI t) = true := tabD_iff.mpr ⟨n, t, rfl, h, h1, h5⟩
theorem Row.is {n : Nat} {r : List Int} (h : Row n r) : sgsD n (rI r) = true := sgsD_iff.mpr ⟨r, rfl, h⟩
def IsIntegerC (C : List D → Sto → COut) : Prop := ∀ d s, d.vl = true → C [d] s = .ok (.val (.bl (isI d))) s
def IsSignC (C : List D → Sto → COut) : Prop := ∀ d s, d.vl = true → C [d] s = .ok (.val (.bl (sgD d))) s
def AreSignsC (C : List D → Sto → COut) : Prop := ∀ d (n : Int) s, d.vl = true → C [d, .int n] s = .ok (.val (.bl (sgsD n d))) s
def IsTableC (C : List D → Sto → COut) : Prop := ∀ d s, d.vl = true → C [d] s = .ok (.val (.bl (tabD d))) s
def NeedTableC (ie : Nat) (C : List D → Sto → COut) : Prop := ∀ d s, d.vl = true → C [d] s = if tabD d = true then .ok (.val .non) s else .exc ie s
def tlen : D → Int
  | .tup ds => ds.length
  | _ => 0
def IsPushC (ie : Nat) (C : List D → Sto → COut) : Prop := ∀ t p s, t.vl = true → p.vl = true → C [t, p] s = if tabD t = true then .ok (.val (.bl (sgsD (tlen t) p))) s else .exc ie s
def NeedPushC (ie ip : Nat) (C : List D → Sto → COut) : Prop := ∀ t p s, t.vl = true → p.vl = true → C [t, p] s = if tabD t = true then (if sgsD (tlen t) p = true then .ok (.val .non) s else .exc ip s) else .exc ie s
theorem NeedPushC.ok {ie ip : Nat} {C : List D → Sto → COut} (h : NeedPushC ie ip C) {n : Nat} {t : List (List Int)} {p : List Int} (s : Sto) (ht : Tab n t) (hp : Row n p) (h1 : 1 ≤ n) (h5 : n ≤ 5) : C [tI t, rI p] s = .ok (.val .non) s := by
  rw [h _ _ s (ht.vl (by omega)) (hp.vl (by omega)), if_pos (ht.is h1 h5)]
  have : sgsD (tlen (tI t)) (rI p) = true := by
    have e : tlen (tI t) = (n : Int) := by simp [tlen, tI, ht.1]
    rw [e]; exact hp.is
  rw [if_pos this]
theorem all_map {γ : Type} {f : γ → Bool} {l : List γ} : ((l.map f).all id) = l.all f := by simp [List.all_map, Function.comp_def]
section
variable {T : Tb} {d g xS xm gi gs gr gt gn gp ie ip : Nat}
theorem c_is_integer (h : IsF T g F_is_integer) : Lw T (d + 1) g IsIntegerC := Lw.of h fun j _ x s hv => run_eq [some (.val x)] rfl rfl (by
  unfold F_is_integer
  cases x <;> first | (cases hv; done) | (simp -dsimp only [wipe_n, wipe_c, ↓ra_nop, ↓ra_cst, ↓ra_glob, ↓ra_tup, ↓ra_lst, ↓ra_dic, ↓ra_bin, ↓ra_neg, ↓ra_not, ↓ra_and, ↓ra_or, ↓ra_ife, ↓ra_cmp, ↓ra_chain, ↓ra_ix, ↓ra_sl, ↓ra_rev, ↓ra_get2, ↓r_get2, ↓r_needT, ↓ra_isi, ↓ra_bi, ↓ra_call, ↓ra_calle, ↓ra_pop, ↓ra_alloc, ↓ra_comp, ↓ra_comp2, ↓ra_me, ↓ra_lrange, ↓r_dic, ↓r_needM, ↓r_me, ↓r_lrange, me_cl, me_js, me_ss, ↓r_cst, ↓r_glob, ↓re_nil, ↓re_cons, ↓rsa_nil, ↓rsa_cons, ↓r_tup, ↓r_lst, ↓r_bin, ↓r_cmp, ↓r_ix, ↓r_neg, ↓r_isi, ↓r_bi, ↓r_not, ↓r_and, ↓r_or, ↓r_ife, ↓r_chain, ↓r_none, ↓rp_cst, ↓rp_glob, ↓rp_bin, ↓rp_neg, ↓rp_ife, ↓rp_ix, ↓rp_bi, ↓rp_call, ↓rp_var, ↓r_sl, ↓r_call, ↓r_alloc, ↓r_allocM, ↓r_prim1, ↓r_prim2, ↓r_primN, ↓rd_nil, ↓rd_cons, ↓rd_int, ↓rd_bl, ↓rd_str, ↓rd_non, ↓rd_tup, ↓rd_lst, ↓rd_scr, ↓rd_dic, ↓rd_cls, ↓rd_fn, ↓rd_s, ↓rd_r, ↓r_chN, refP_s, ↓ri_seq, ↓rq_tup, ↓rq_lst, ↓r_var, ↓ra_var, ↓r_ret, ↓r_frz, ↓r_asBl, ↓r_asInt, ↓r_liftS, ↓ri_range, ↓ri_range2, ↓ri_zip, ↓ri_enum, ↓r_calle, ↓rc_fn, ↓en_lst, ↓en_tup, ↓rz_tup, ↓rz_lst, ↓rz_tl, ↓rz_lt, ↓ri_zip3, ↓rz_ttt, ↓rz_ttl, ↓rz_lll, ↓rx_expr, ↓rx_set, ↓rx_frz, ↓rx_ret, ↓rx_iff, ↓rx_mat, ↓then_nx, ↓then_rt, ↓then_bk, ↓then_ct, ↓rx_nil, ↓rx_cons, ↓rx_asg, ↓rt_name, ↓rt_tup, ↓rt_lst, ↓rt_nil, ↓rt_cons, ↓rx_setix, ↓rx_app, ↓rx_ext, ↓r_pop, ↓r_needL, ↓lstP_l, ↓obP_s, ↓r_chS, ↓rr_nil, ↓rr_cons, ↓rh_v, ↓rh_l, ↓rx_par, ↓rx_pass, ↓rx_for, ↓varP_v, ↓varP_n, bin_addI, bin_subI, cmp_lt, cmp_le, cmp_gt, cmp_ge, cmp_eqI, cmp_neI, cmp_eqB, cmp_eqS, cmp_neS, blR_s, bi_lenT, bi_lenL, bi_lenS, bi_tupT, bi_tupL, bi_lstT, bi_lstL, bi_max, bi_min, bi_intB, neg_i, isi_int, isi_tup, isi_lst, isi_dic, isi_str, isi_non, isi_bl, List.getElem?_cons_zero, List.getElem?_cons_succ, List.set_cons_zero, List.set_cons_succ, Option.map_some, R.flat, R.d, Ob.flat, Ob.d, true_and, and_true, eq_self, decide_eq_true_eq, reduceIte, Bool.true_and, Bool.false_and, Bool.and_false, Bool.and_true, Bool.false_eq_true, decide_true, decide_false, Bool.not_true, Bool.not_false, List.length_map, List.length_cons, List.length_nil, reduceCtorEq, and_self, true_or, or_true, or_false, false_or, or_self, isI]; done) | (simp -dsimp only [wipe_n, wipe_c, ↓ra_nop, ↓ra_cst, ↓ra_glob, ↓ra_tup, ↓ra_lst, ↓ra_dic, ↓ra_bin, ↓ra_neg, ↓ra_not, ↓ra_and, ↓ra_or, ↓ra_ife, ↓ra_cmp, ↓ra_chain, ↓ra_ix, ↓ra_sl, ↓ra_rev, ↓ra_get2, ↓r_get2, ↓r_needT, ↓ra_isi, ↓ra_bi, ↓ra_call, ↓ra_calle, ↓ra_pop, ↓ra_alloc, ↓ra_comp, ↓ra_comp2, ↓ra_me, ↓ra_lrange, ↓r_dic, ↓r_needM, ↓r_me, ↓r_lrange, me_cl, me_js, me_ss, ↓r_cst, ↓r_glob, ↓re_nil, ↓re_cons, ↓rsa_nil, ↓rsa_cons, ↓r_tup, ↓r_lst, ↓r_bin, ↓r_cmp, ↓r_ix, ↓r_neg, ↓r_isi, ↓r_bi, ↓r_not, ↓r_and, ↓r_or, ↓r_ife, ↓r_chain, ↓r_none, ↓rp_cst, ↓rp_glob, ↓rp_bin, ↓rp_neg, ↓rp_ife, ↓rp_ix, ↓rp_bi, ↓rp_call, ↓rp_var, ↓r_sl, ↓r_call, ↓r_alloc, ↓r_allocM, ↓r_prim1, ↓r_prim2, ↓r_primN, ↓rd_nil, ↓rd_cons, ↓rd_int, ↓rd_bl, ↓rd_str, ↓rd_non, ↓rd_tup, ↓rd_lst, ↓rd_scr, ↓rd_dic, ↓rd_cls, ↓rd_fn, ↓rd_s, ↓rd_r, ↓r_chN, refP_s, ↓ri_seq, ↓rq_tup, ↓rq_lst, ↓r_var, ↓ra_var, ↓r_ret, ↓r_frz, ↓r_asBl, ↓r_asInt, ↓r_liftS, ↓ri_range, ↓ri_range2, ↓ri_zip, ↓ri_enum, ↓r_calle, ↓rc_fn, ↓en_lst, ↓en_tup, ↓rz_tup, ↓rz_lst, ↓rz_tl, ↓rz_lt, ↓ri_zip3, ↓rz_ttt, ↓rz_ttl, ↓rz_lll, ↓rx_expr, ↓rx_set, ↓rx_frz, ↓rx_ret, ↓rx_iff, ↓rx_mat, ↓then_nx, ↓then_rt, ↓then_bk, ↓then_ct, ↓rx_nil, ↓rx_cons, ↓rx_asg, ↓rt_name, ↓rt_tup, ↓rt_lst, ↓rt_nil, ↓rt_cons, ↓rx_setix, ↓rx_app, ↓rx_ext, ↓r_pop, ↓r_needL, ↓lstP_l, ↓obP_s, ↓r_chS, ↓rr_nil, ↓rr_cons, ↓rh_v, ↓rh_l, ↓rx_par, ↓rx_pass, ↓rx_for, ↓varP_v, ↓varP_n, bin_addI, bin_subI, cmp_lt, cmp_le, cmp_gt, cmp_ge, cmp_eqI, cmp_neI, cmp_eqB, cmp_eqS, cmp_neS, blR_s, bi_lenT, bi_lenL, bi_lenS, bi_tupT, bi_tupL, bi_lstT, bi_lstL, bi_max, bi_min, bi_intB, neg_i, isi_int, isi_tup, isi_lst, isi_dic, isi_str, isi_non, isi_bl, List.getElem?_cons_zero, List.getElem?_cons_succ, List.set_cons_zero, List.set_cons_succ, Option.map_some, R.flat, R.d, Ob.flat, Ob.d, true_and, and_true, eq_self, decide_eq_true_eq, reduceIte, Bool.true_and, Bool.false_and, Bool.and_false, Bool.and_true, Bool.false_eq_true, decide_true, decide_false, Bool.not_true, Bool.not_false, List.length_map, List.length_cons, List.length_nil, reduceCtorEq, and_self, true_or, or_true, or_false, false_or, or_self, isI]; decide) | skip)
theorem c_is_sign (ha : T.gl xS = some signsD) (hi : Lw T d gi IsIntegerC) (h : IsF T g (F_is_sign xS gi)) : Lw T (d + 1) g IsSignC := Lw.of h fun j hj x s hv => run_eq [some (.val x)] rfl rfl (by
  have gl : ∀ g, (orc T j).gl g = T.gl g := fun g => by rw [orc_gl]
  have e1 := hi.at hj x s hv
  unfold F_is_sign
  cases x with
  | int i =>
    simp only [isI] at e1
    simp -dsimp only [wipe_n, wipe_c, ↓ra_nop, ↓ra_cst, ↓ra_glob, ↓ra_tup, ↓ra_lst, ↓ra_dic, ↓ra_bin, ↓ra_neg, ↓ra_not, ↓ra_and, ↓ra_or, ↓ra_ife, ↓ra_cmp, ↓ra_chain, ↓ra_ix, ↓ra_sl, ↓ra_rev, ↓ra_get2, ↓r_get2, ↓r_needT, ↓ra_isi, ↓ra_bi, ↓ra_call, ↓ra_calle, ↓ra_pop, ↓ra_alloc, ↓ra_comp, ↓ra_comp2, ↓ra_me, ↓ra_lrange, ↓r_dic, ↓r_needM, ↓r_me, ↓r_lrange, me_cl, me_js, me_ss, ↓r_cst, ↓r_glob, ↓re_nil, ↓re_cons, ↓rsa_nil, ↓rsa_cons, ↓r_tup, ↓r_lst, ↓r_bin, ↓r_cmp, ↓r_ix, ↓r_neg, ↓r_isi, ↓r_bi, ↓r_not, ↓r_and, ↓r_or, ↓r_ife, ↓r_chain, ↓r_none, ↓rp_cst, ↓rp_glob, ↓rp_bin, ↓rp_neg, ↓rp_ife, ↓rp_ix, ↓rp_bi, ↓rp_call, ↓rp_var, ↓r_sl, ↓r_call, ↓r_alloc, ↓r_allocM, ↓r_prim1, ↓r_prim2, ↓r_primN, ↓rd_nil, ↓rd_cons, ↓rd_int, ↓rd_bl, ↓rd_str, ↓rd_non, ↓rd_tup, ↓rd_lst, ↓rd_scr, ↓rd_dic, ↓rd_cls, ↓rd_fn, ↓rd_s, ↓rd_r, ↓r_chN, refP_s, ↓ri_seq, ↓rq_tup, ↓rq_lst, ↓r_var, ↓ra_var, ↓r_ret, ↓r_frz, ↓r_asBl, ↓r_asInt, ↓r_liftS, ↓ri_range, ↓ri_range2, ↓ri_zip, ↓ri_enum, ↓r_calle, ↓rc_fn, ↓en_lst, ↓en_tup, ↓rz_tup, ↓rz_lst, ↓rz_tl, ↓rz_lt, ↓ri_zip3, ↓rz_ttt, ↓rz_ttl, ↓rz_lll, ↓rx_expr, ↓rx_set, ↓rx_frz, ↓rx_ret, ↓rx_iff, ↓rx_mat, ↓then_nx, ↓then_rt, ↓then_bk, ↓then_ct, ↓rx_nil, ↓rx_cons, ↓rx_asg, ↓rt_name, ↓rt_tup, ↓rt_lst, ↓rt_nil, ↓rt_cons, ↓rx_setix, ↓rx_app, ↓rx_ext, ↓r_pop, ↓r_needL, ↓lstP_l, ↓obP_s, ↓r_chS, ↓rr_nil, ↓rr_cons, ↓rh_v, ↓rh_l, ↓rx_par, ↓rx_pass, ↓rx_for, ↓varP_v, ↓varP_n, bin_addI, bin_subI, cmp_lt, cmp_le, cmp_gt, cmp_ge, cmp_eqI, cmp_neI, cmp_eqB, cmp_eqS, cmp_neS, blR_s, bi_lenT, bi_lenL, bi_lenS, bi_tupT, bi_tupL, bi_lstT, bi_lstL, bi_max, bi_min, bi_intB, neg_i, isi_int, isi_tup, isi_lst, isi_dic, isi_str, isi_non, isi_bl, List.getElem?_cons_zero, List.getElem?_cons_succ, List.set_cons_zero, List.set_cons_succ, Option.map_some, R.flat, R.d, Ob.flat, Ob.d, true_and, and_true, eq_self, decide_eq_true_eq, reduceIte, Bool.true_and, Bool.false_and, Bool.and_false, Bool.and_true, Bool.false_eq_true, decide_true, decide_false, Bool.not_true, Bool.not_false, List.length_map, List.length_cons, List.length_nil, reduceCtorEq, and_self, true_or, or_true, or_false, false_or, or_self, r_callM e1, gl, ha, signsD, in_signs, sgD]
  | _ => first | (cases hv; done) | (simp only [isI] at e1; simp -dsimp only [wipe_n, wipe_c, ↓ra_nop, ↓ra_cst, ↓ra_glob, ↓ra_tup, ↓ra_lst, ↓ra_dic, ↓ra_bin, ↓ra_neg, ↓ra_not, ↓ra_and, ↓ra_or, ↓ra_ife, ↓ra_cmp, ↓ra_chain, ↓ra_ix, ↓ra_sl, ↓ra_rev, ↓ra_get2, ↓r_get2, ↓r_needT, ↓ra_isi, ↓ra_bi, ↓ra_call, ↓ra_calle, ↓ra_pop, ↓ra_alloc, ↓ra_comp, ↓ra_comp2, ↓ra_me, ↓ra_lrange, ↓r_dic, ↓r_needM, ↓r_me, ↓r_lrange, me_cl, me_js, me_ss, ↓r_cst, ↓r_glob, ↓re_nil, ↓re_cons, ↓rsa_nil, ↓rsa_cons, ↓r_tup, ↓r_lst, ↓r_bin, ↓r_cmp, ↓r_ix, ↓r_neg, ↓r_isi, ↓r_bi, ↓r_not, ↓r_and, ↓r_or, ↓r_ife, ↓r_chain, ↓r_none, ↓rp_cst, ↓rp_glob, ↓rp_bin, ↓rp_neg, ↓rp_ife, ↓rp_ix, ↓rp_bi, ↓rp_call, ↓rp_var, ↓r_sl, ↓r_call, ↓r_alloc, ↓r_allocM, ↓r_prim1, ↓r_prim2, ↓r_primN, ↓rd_nil, ↓rd_cons, ↓rd_int, ↓rd_bl, ↓rd_str, ↓rd_non, ↓rd_tup, ↓rd_lst, ↓rd_scr, ↓rd_dic, ↓rd_cls, ↓rd_fn, ↓rd_s, ↓rd_r, ↓r_chN, refP_s, ↓ri_seq, ↓rq_tup, ↓rq_lst, ↓r_var, ↓ra_var, ↓r_ret, ↓r_frz, ↓r_asBl, ↓r_asInt, ↓r_liftS, ↓ri_range, ↓ri_range2, ↓ri_zip, ↓ri_enum, ↓r_calle, ↓rc_fn, ↓en_lst, ↓en_tup, ↓rz_tup, ↓rz_lst, ↓rz_tl, ↓rz_lt, ↓ri_zip3, ↓rz_ttt, ↓rz_ttl, ↓rz_lll, ↓rx_expr, ↓rx_set, ↓rx_frz, ↓rx_ret, ↓rx_iff, ↓rx_mat, ↓then_nx, ↓then_rt, ↓then_bk, ↓then_ct, ↓rx_nil, ↓rx_cons, ↓rx_asg, ↓rt_name, ↓rt_tup, ↓rt_lst, ↓rt_nil, ↓rt_cons, ↓rx_setix, ↓rx_app, ↓rx_ext, ↓r_pop, ↓r_needL, ↓lstP_l, ↓obP_s, ↓r_chS, ↓rr_nil, ↓rr_cons, ↓rh_v, ↓rh_l, ↓rx_par, ↓rx_pass, ↓rx_for, ↓varP_v, ↓varP_n, bin_addI, bin_subI, cmp_lt, cmp_le, cmp_gt, cmp_ge, cmp_eqI, cmp_neI, cmp_eqB, cmp_eqS, cmp_neS, blR_s, bi_lenT, bi_lenL, bi_lenS, bi_tupT, bi_tupL, bi_lstT, bi_lstL, bi_max, bi_min, bi_intB, neg_i, isi_int, isi_tup, isi_lst, isi_dic, isi_str, isi_non, isi_bl, List.getElem?_cons_zero, List.getElem?_cons_succ, List.set_cons_zero, List.set_cons_succ, Option.map_some, R.flat, R.d, Ob.flat, Ob.d, true_and, and_true, eq_self, decide_eq_true_eq, reduceIte, Bool.true_and, Bool.false_and, Bool.and_false, Bool.and_true, Bool.false_eq_true, decide_true, decide_false, Bool.not_true, Bool.not_false, List.length_map, List.length_cons, List.length_nil, reduceCtorEq, and_self, true_or, or_true, or_false, false_or, or_self, r_callM e1, sgD]))
theorem c_are_signs (hs : Lw T d gs IsSignC) (h : IsF T g (F_are_signs gs)) : Lw T (d + 1) g AreSignsC := Lw.of h fun j hj x n s hv => run_eq [some (.val x), some (.val (.int n)), none] rfl rfl (by
  have e1 := hs.at hj
  unfold F_are_signs
  cases x with
  | tup ds =>
    obtain ⟨v1, v2⟩ := vl_tup hv
    by_cases hl : (ds.length : Int) = n
    · simp -dsimp only [wipe_n, wipe_c, ↓ra_nop, ↓ra_cst, ↓ra_glob, ↓ra_tup, ↓ra_lst, ↓ra_dic, ↓ra_bin, ↓ra_neg, ↓ra_not, ↓ra_and, ↓ra_or, ↓ra_ife, ↓ra_cmp, ↓ra_chain, ↓ra_ix, ↓ra_sl, ↓ra_rev, ↓ra_get2, ↓r_get2, ↓r_needT, ↓ra_isi, ↓ra_bi, ↓ra_call, ↓ra_calle, ↓ra_pop, ↓ra_alloc, ↓ra_comp, ↓ra_comp2, ↓ra_me, ↓ra_lrange, ↓r_dic, ↓r_needM, ↓r_me, ↓r_lrange, me_cl, me_js, me_ss, ↓r_cst, ↓r_glob, ↓re_nil, ↓re_cons, ↓rsa_nil, ↓rsa_cons, ↓r_tup, ↓r_lst, ↓r_bin, ↓r_cmp, ↓r_ix, ↓r_neg, ↓r_isi, ↓r_bi, ↓r_not, ↓r_and, ↓r_or, ↓r_ife, ↓r_chain, ↓r_none, ↓rp_cst, ↓rp_glob, ↓rp_bin, ↓rp_neg, ↓rp_ife, ↓rp_ix, ↓rp_bi, ↓rp_call, ↓rp_var, ↓r_sl, ↓r_call, ↓r_alloc, ↓r_allocM, ↓r_prim1, ↓r_prim2, ↓r_primN, ↓rd_nil, ↓rd_cons, ↓rd_int, ↓rd_bl, ↓rd_str, ↓rd_non, ↓rd_tup, ↓rd_lst, ↓rd_scr, ↓rd_dic, ↓rd_cls, ↓rd_fn, ↓rd_s, ↓rd_r, ↓r_chN, refP_s, ↓ri_seq, ↓rq_tup, ↓rq_lst, ↓r_var, ↓ra_var, ↓r_ret, ↓r_frz, ↓r_asBl, ↓r_asInt, ↓r_liftS, ↓ri_range, ↓ri_range2, ↓ri_zip, ↓ri_enum, ↓r_calle, ↓rc_fn, ↓en_lst, ↓en_tup, ↓rz_tup, ↓rz_lst, ↓rz_tl, ↓rz_lt, ↓ri_zip3, ↓rz_ttt, ↓rz_ttl, ↓rz_lll, ↓rx_expr, ↓rx_set, ↓rx_frz, ↓rx_ret, ↓rx_iff, ↓rx_mat, ↓then_nx, ↓then_rt, ↓then_bk, ↓then_ct, ↓rx_nil, ↓rx_cons, ↓rx_asg, ↓rt_name, ↓rt_tup, ↓rt_lst, ↓rt_nil, ↓rt_cons, ↓rx_setix, ↓rx_app, ↓rx_ext, ↓r_pop, ↓r_needL, ↓lstP_l, ↓obP_s, ↓r_chS, ↓rr_nil, ↓rr_cons, ↓rh_v, ↓rh_l, ↓rx_par, ↓rx_pass, ↓rx_for, ↓varP_v, ↓varP_n, bin_addI, bin_subI, cmp_lt, cmp_le, cmp_gt, cmp_ge, cmp_eqI, cmp_neI, cmp_eqB, cmp_eqS, cmp_neS, blR_s, bi_lenT, bi_lenL, bi_lenS, bi_tupT, bi_tupL, bi_lstT, bi_lstL, bi_max, bi_min, bi_intB, neg_i, isi_int, isi_tup, isi_lst, isi_dic, isi_str, isi_non, isi_bl, List.getElem?_cons_zero, List.getElem?_cons_succ, List.set_cons_zero, List.set_cons_succ, Option.map_some, R.flat, R.d, Ob.flat, Ob.d, true_and, and_true, eq_self, decide_eq_true_eq, reduceIte, Bool.true_and, Bool.false_and, Bool.and_false, Bool.and_true, Bool.false_eq_true, decide_true, decide_false, Bool.not_true, Bool.not_false, List.length_map, List.length_cons, List.length_nil, reduceCtorEq, and_self, true_or, or_true, or_false, false_or, or_self, isi_tup, hl]
      refine wv_compM ?_
      simp -dsimp only [wipe_n, wipe_c, ↓ra_nop, ↓ra_cst, ↓ra_glob, ↓ra_tup, ↓ra_lst, ↓ra_dic, ↓ra_bin, ↓ra_neg, ↓ra_not, ↓ra_and, ↓ra_or, ↓ra_ife, ↓ra_cmp, ↓ra_chain, ↓ra_ix, ↓ra_sl, ↓ra_rev, ↓ra_get2, ↓r_get2, ↓r_needT, ↓ra_isi, ↓ra_bi, ↓ra_call, ↓ra_calle, ↓ra_pop, ↓ra_alloc, ↓ra_comp, ↓ra_comp2, ↓ra_me, ↓ra_lrange, ↓r_dic, ↓r_needM, ↓r_me, ↓r_lrange, me_cl, me_js, me_ss, ↓r_cst, ↓r_glob, ↓re_nil, ↓re_cons, ↓rsa_nil, ↓rsa_cons, ↓r_tup, ↓r_lst, ↓r_bin, ↓r_cmp, ↓r_ix, ↓r_neg, ↓r_isi, ↓r_bi, ↓r_not, ↓r_and, ↓r_or, ↓r_ife, ↓r_chain, ↓r_none, ↓rp_cst, ↓rp_glob, ↓rp_bin, ↓rp_neg, ↓rp_ife, ↓rp_ix, ↓rp_bi, ↓rp_call, ↓rp_var, ↓r_sl, ↓r_call, ↓r_alloc, ↓r_allocM, ↓r_prim1, ↓r_prim2, ↓r_primN, ↓rd_nil, ↓rd_cons, ↓rd_int, ↓rd_bl, ↓rd_str, ↓rd_non, ↓rd_tup, ↓rd_lst, ↓rd_scr, ↓rd_dic, ↓rd_cls, ↓rd_fn, ↓rd_s, ↓rd_r, ↓r_chN, refP_s, ↓ri_seq, ↓rq_tup, ↓rq_lst, ↓r_var, ↓ra_var, ↓r_ret, ↓r_frz, ↓r_asBl, ↓r_asInt, ↓r_liftS, ↓ri_range, ↓ri_range2, ↓ri_zip, ↓ri_enum, ↓r_calle, ↓rc_fn, ↓en_lst, ↓en_tup, ↓rz_tup, ↓rz_lst, ↓rz_tl, ↓rz_lt, ↓ri_zip3, ↓rz_ttt, ↓rz_ttl, ↓rz_lll, ↓rx_expr, ↓rx_set, ↓rx_frz, ↓rx_ret, ↓rx_iff, ↓rx_mat, ↓then_nx, ↓then_rt, ↓then_bk, ↓then_ct, ↓rx_nil, ↓rx_cons, ↓rx_asg, ↓rt_name, ↓rt_tup, ↓rt_lst, ↓rt_nil, ↓rt_cons, ↓rx_setix, ↓rx_app, ↓rx_ext, ↓r_pop, ↓r_needL, ↓lstP_l, ↓obP_s, ↓r_chS, ↓rr_nil, ↓rr_cons, ↓rh_v, ↓rh_l, ↓rx_par, ↓rx_pass, ↓rx_for, ↓varP_v, ↓varP_n, bin_addI, bin_subI, cmp_lt, cmp_le, cmp_gt, cmp_ge, cmp_eqI, cmp_neI, cmp_eqB, cmp_eqS, cmp_neS, blR_s, bi_lenT, bi_lenL, bi_lenS, bi_tupT, bi_tupL, bi_lstT, bi_lstL, bi_max, bi_min, bi_intB, neg_i, isi_int, isi_tup, isi_lst, isi_dic, isi_str, isi_non, isi_bl, List.getElem?_cons_zero, List.getElem?_cons_succ, List.set_cons_zero, List.set_cons_succ, Option.map_some, R.flat, R.d, Ob.flat, Ob.d, true_and, and_true, eq_self, decide_eq_true_eq, reduceIte, Bool.true_and, Bool.false_and, Bool.and_false, Bool.and_true, Bool.false_eq_true, decide_true, decide_false, Bool.not_true, Bool.not_false, List.length_map, List.length_cons, List.length_nil, reduceCtorEq, and_self, true_or, or_true, or_false, false_or, or_self]
      refine ⟨rfl, v1, D, ds, id, fun d => some (.bl (sgD d)), by simp, fun x hx => wt_all rfl ?_, ?_⟩
      · simp -dsimp only [wipe_n, wipe_c, ↓ra_nop, ↓ra_cst, ↓ra_glob, ↓ra_tup, ↓ra_lst, ↓ra_dic, ↓ra_bin, ↓ra_neg, ↓ra_not, ↓ra_and, ↓ra_or, ↓ra_ife, ↓ra_cmp, ↓ra_chain, ↓ra_ix, ↓ra_sl, ↓ra_rev, ↓ra_get2, ↓r_get2, ↓r_needT, ↓ra_isi, ↓ra_bi, ↓ra_call, ↓ra_calle, ↓ra_pop, ↓ra_alloc, ↓ra_comp, ↓ra_comp2, ↓ra_me, ↓ra_lrange, ↓r_dic, ↓r_needM, ↓r_me, ↓r_lrange, me_cl, me_js, me_ss, ↓r_cst, ↓r_glob, ↓re_nil, ↓re_cons, ↓rsa_nil, ↓rsa_cons, ↓r_tup, ↓r_lst, ↓r_bin, ↓r_cmp, ↓r_ix, ↓r_neg, ↓r_isi, ↓r_bi, ↓r_not, ↓r_and, ↓r_or, ↓r_ife, ↓r_chain, ↓r_none, ↓rp_cst, ↓rp_glob, ↓rp_bin, ↓rp_neg, ↓rp_ife, ↓rp_ix, ↓rp_bi, ↓rp_call, ↓rp_var, ↓r_sl, ↓r_call, ↓r_alloc, ↓r_allocM, ↓r_prim1, ↓r_prim2, ↓r_primN, ↓rd_nil, ↓rd_cons, ↓rd_int, ↓rd_bl, ↓rd_str, ↓rd_non, ↓rd_tup, ↓rd_lst, ↓rd_scr, ↓rd_dic, ↓rd_cls, ↓rd_fn, ↓rd_s, ↓rd_r, ↓r_chN, refP_s, ↓ri_seq, ↓rq_tup, ↓rq_lst, ↓r_var, ↓ra_var, ↓r_ret, ↓r_frz, ↓r_asBl, ↓r_asInt, ↓r_liftS, ↓ri_range, ↓ri_range2, ↓ri_zip, ↓ri_enum, ↓r_calle, ↓rc_fn, ↓en_lst, ↓en_tup, ↓rz_tup, ↓rz_lst, ↓rz_tl, ↓rz_lt, ↓ri_zip3, ↓rz_ttt, ↓rz_ttl, ↓rz_lll, ↓rx_expr, ↓rx_set, ↓rx_frz, ↓rx_ret, ↓rx_iff, ↓rx_mat, ↓then_nx, ↓then_rt, ↓then_bk, ↓then_ct, ↓rx_nil, ↓rx_cons, ↓rx_asg, ↓rt_name, ↓rt_tup, ↓rt_lst, ↓rt_nil, ↓rt_cons, ↓rx_setix, ↓rx_app, ↓rx_ext, ↓r_pop, ↓r_needL, ↓lstP_l, ↓obP_s, ↓r_chS, ↓rr_nil, ↓rr_cons, ↓rh_v, ↓rh_l, ↓rx_par, ↓rx_pass, ↓rx_for, ↓varP_v, ↓varP_n, bin_addI, bin_subI, cmp_lt, cmp_le, cmp_gt, cmp_ge, cmp_eqI, cmp_neI, cmp_eqB, cmp_eqS, cmp_neS, blR_s, bi_lenT, bi_lenL, bi_lenS, bi_tupT, bi_tupL, bi_lstT, bi_lstL, bi_max, bi_min, bi_intB, neg_i, isi_int, isi_tup, isi_lst, isi_dic, isi_str, isi_non, isi_bl, List.getElem?_cons_zero, List.getElem?_cons_succ, List.set_cons_zero, List.set_cons_succ, Option.map_some, R.flat, R.d, Ob.flat, Ob.d, true_and, and_true, eq_self, decide_eq_true_eq, reduceIte, Bool.true_and, Bool.false_and, Bool.and_false, Bool.and_true, Bool.false_eq_true, decide_true, decide_false, Bool.not_true, Bool.not_false, List.length_map, List.length_cons, List.length_nil, reduceCtorEq, and_self, true_or, or_true, or_false, false_or, or_self, r_callM (e1 x s (v2 x hx)), wipeE, id]
      · rw [filterMap_some]
        simp -dsimp only [wipe_n, wipe_c, ↓ra_nop, ↓ra_cst, ↓ra_glob, ↓ra_tup, ↓ra_lst, ↓ra_dic, ↓ra_bin, ↓ra_neg, ↓ra_not, ↓ra_and, ↓ra_or, ↓ra_ife, ↓ra_cmp, ↓ra_chain, ↓ra_ix, ↓ra_sl, ↓ra_rev, ↓ra_get2, ↓r_get2, ↓r_needT, ↓ra_isi, ↓ra_bi, ↓ra_call, ↓ra_calle, ↓ra_pop, ↓ra_alloc, ↓ra_comp, ↓ra_comp2, ↓ra_me, ↓ra_lrange, ↓r_dic, ↓r_needM, ↓r_me, ↓r_lrange, me_cl, me_js, me_ss, ↓r_cst, ↓r_glob, ↓re_nil, ↓re_cons, ↓rsa_nil, ↓rsa_cons, ↓r_tup, ↓r_lst, ↓r_bin, ↓r_cmp, ↓r_ix, ↓r_neg, ↓r_isi, ↓r_bi, ↓r_not, ↓r_and, ↓r_or, ↓r_ife, ↓r_chain, ↓r_none, ↓rp_cst, ↓rp_glob, ↓rp_bin, ↓rp_neg, ↓rp_ife, ↓rp_ix, ↓rp_bi, ↓rp_call, ↓rp_var, ↓r_sl, ↓r_call, ↓r_alloc, ↓r_allocM, ↓r_prim1, ↓r_prim2, ↓r_primN, ↓rd_nil, ↓rd_cons, ↓rd_int, ↓rd_bl, ↓rd_str, ↓rd_non, ↓rd_tup, ↓rd_lst, ↓rd_scr, ↓rd_dic, ↓rd_cls, ↓rd_fn, ↓rd_s, ↓rd_r, ↓r_chN, refP_s, ↓ri_seq, ↓rq_tup, ↓rq_lst, ↓r_var, ↓ra_var, ↓r_ret, ↓r_frz, ↓r_asBl, ↓r_asInt, ↓r_liftS, ↓ri_range, ↓ri_range2, ↓ri_zip, ↓ri_enum, ↓r_calle, ↓rc_fn, ↓en_lst, ↓en_tup, ↓rz_tup, ↓rz_lst, ↓rz_tl, ↓rz_lt, ↓ri_zip3, ↓rz_ttt, ↓rz_ttl, ↓rz_lll, ↓rx_expr, ↓rx_set, ↓rx_frz, ↓rx_ret, ↓rx_iff, ↓rx_mat, ↓then_nx, ↓then_rt, ↓then_bk, ↓then_ct, ↓rx_nil, ↓rx_cons, ↓rx_asg, ↓rt_name, ↓rt_tup, ↓rt_lst, ↓rt_nil, ↓rt_cons, ↓rx_setix, ↓rx_app, ↓rx_ext, ↓r_pop, ↓r_needL, ↓lstP_l, ↓obP_s, ↓r_chS, ↓rr_nil, ↓rr_cons, ↓rh_v, ↓rh_l, ↓rx_par, ↓rx_pass, ↓rx_for, ↓varP_v, ↓varP_n, bin_addI, bin_subI, cmp_lt, cmp_le, cmp_gt, cmp_ge, cmp_eqI, cmp_neI, cmp_eqB, cmp_eqS, cmp_neS, blR_s, bi_lenT, bi_lenL, bi_lenS, bi_tupT, bi_tupL, bi_lstT, bi_lstL, bi_max, bi_min, bi_intB, neg_i, isi_int, isi_tup, isi_lst, isi_dic, isi_str, isi_non, isi_bl, List.getElem?_cons_zero, List.getElem?_cons_succ, List.set_cons_zero, List.set_cons_succ, Option.map_some, R.flat, R.d, Ob.flat, Ob.d, true_and, and_true, eq_self, decide_eq_true_eq, reduceIte, Bool.true_and, Bool.false_and, Bool.and_false, Bool.and_true, Bool.false_eq_true, decide_true, decide_false, Bool.not_true, Bool.not_false, List.length_map, List.length_cons, List.length_nil, reduceCtorEq, and_self, true_or, or_true, or_false, false_or, or_self, bi_all (bls_map (f := sgD)), all_map, sgsD, hl]
    · simp -dsimp only [wipe_n, wipe_c, ↓ra_nop, ↓ra_cst, ↓ra_glob, ↓ra_tup, ↓ra_lst, ↓ra_dic, ↓ra_bin, ↓ra_neg, ↓ra_not, ↓ra_and, ↓ra_or, ↓ra_ife, ↓ra_cmp, ↓ra_chain, ↓ra_ix, ↓ra_sl, ↓ra_rev, ↓ra_get2, ↓r_get2, ↓r_needT, ↓ra_isi, ↓ra_bi, ↓ra_call, ↓ra_calle, ↓ra_pop, ↓ra_alloc, ↓ra_comp, ↓ra_comp2, ↓ra_me, ↓ra_lrange, ↓r_dic, ↓r_needM, ↓r_me, ↓r_lrange, me_cl, me_js, me_ss, ↓r_cst, ↓r_glob, ↓re_nil, ↓re_cons, ↓rsa_nil, ↓rsa_cons, ↓r_tup, ↓r_lst, ↓r_bin, ↓r_cmp, ↓r_ix, ↓r_neg, ↓r_isi, ↓r_bi, ↓r_not, ↓r_and, ↓r_or, ↓r_ife, ↓r_chain, ↓r_none, ↓rp_cst, ↓rp_glob, ↓rp_bin, ↓rp_neg, ↓rp_ife, ↓rp_ix, ↓rp_bi, ↓rp_call, ↓rp_var, ↓r_sl, ↓r_call, ↓r_alloc, ↓r_allocM, ↓r_prim1, ↓r_prim2, ↓r_primN, ↓rd_nil, ↓rd_cons, ↓rd_int, ↓rd_bl, ↓rd_str, ↓rd_non, ↓rd_tup, ↓rd_lst, ↓rd_scr, ↓rd_dic, ↓rd_cls, ↓rd_fn, ↓rd_s, ↓rd_r, ↓r_chN, refP_s, ↓ri_seq, ↓rq_tup, ↓rq_lst, ↓r_var, ↓ra_var, ↓r_ret, ↓r_frz, ↓r_asBl, ↓r_asInt, ↓r_liftS, ↓ri_range, ↓ri_range2, ↓ri_zip, ↓ri_enum, ↓r_calle, ↓rc_fn, ↓en_lst, ↓en_tup, ↓rz_tup, ↓rz_lst, ↓rz_tl, ↓rz_lt, ↓ri_zip3, ↓rz_ttt, ↓rz_ttl, ↓rz_lll, ↓rx_expr, ↓rx_set, ↓rx_frz, ↓rx_ret, ↓rx_iff, ↓rx_mat, ↓then_nx, ↓then_rt, ↓then_bk, ↓then_ct, ↓rx_nil, ↓rx_cons, ↓rx_asg, ↓rt_name, ↓rt_tup, ↓rt_lst, ↓rt_nil, ↓rt_cons, ↓rx_setix, ↓rx_app, ↓rx_ext, ↓r_pop, ↓r_needL, ↓lstP_l, ↓obP_s, ↓r_chS, ↓rr_nil, ↓rr_cons, ↓rh_v, ↓rh_l, ↓rx_par, ↓rx_pass, ↓rx_for, ↓varP_v, ↓varP_n, bin_addI, bin_subI, cmp_lt, cmp_le, cmp_gt, cmp_ge, cmp_eqI, cmp_neI, cmp_eqB, cmp_eqS, cmp_neS, blR_s, bi_lenT, bi_lenL, bi_lenS, bi_tupT, bi_tupL, bi_lstT, bi_lstL, bi_max, bi_min, bi_intB, neg_i, isi_int, isi_tup, isi_lst, isi_dic, isi_str, isi_non, isi_bl, List.getElem?_cons_zero, List.getElem?_cons_succ, List.set_cons_zero, List.set_cons_succ, Option.map_some, R.flat, R.d, Ob.flat, Ob.d, true_and, and_true, eq_self, decide_eq_true_eq, reduceIte, Bool.true_and, Bool.false_and, Bool.and_false, Bool.and_true, Bool.false_eq_true, decide_true, decide_false, Bool.not_true, Bool.not_false, List.length_map, List.length_cons, List.length_nil, reduceCtorEq, and_self, true_or, or_true, or_false, false_or, or_self, isi_tup, hl, sgsD]
  | _ => first | (cases hv; done) | (simp -dsimp only [wipe_n, wipe_c, ↓ra_nop, ↓ra_cst, ↓ra_glob, ↓ra_tup, ↓ra_lst, ↓ra_dic, ↓ra_bin, ↓ra_neg, ↓ra_not, ↓ra_and, ↓ra_or, ↓ra_ife, ↓ra_cmp, ↓ra_chain, ↓ra_ix, ↓ra_sl, ↓ra_rev, ↓ra_get2, ↓r_get2, ↓r_needT, ↓ra_isi, ↓ra_bi, ↓ra_call, ↓ra_calle, ↓ra_pop, ↓ra_alloc, ↓ra_comp, ↓ra_comp2, ↓ra_me, ↓ra_lrange, ↓r_dic, ↓r_needM, ↓r_me, ↓r_lrange, me_cl, me_js, me_ss, ↓r_cst, ↓r_glob, ↓re_nil, ↓re_cons, ↓rsa_nil, ↓rsa_cons, ↓r_tup, ↓r_lst, ↓r_bin, ↓r_cmp, ↓r_ix, ↓r_neg, ↓r_isi, ↓r_bi, ↓r_not, ↓r_and, ↓r_or, ↓r_ife, ↓r_chain, ↓r_none, ↓rp_cst, ↓rp_glob, ↓rp_bin, ↓rp_neg, ↓rp_ife, ↓rp_ix, ↓rp_bi, ↓rp_call, ↓rp_var, ↓r_sl, ↓r_call, ↓r_alloc, ↓r_allocM, ↓r_prim1, ↓r_prim2, ↓r_primN, ↓rd_nil, ↓rd_cons, ↓rd_int, ↓rd_bl, ↓rd_str, ↓rd_non, ↓rd_tup, ↓rd_lst, ↓rd_scr, ↓rd_dic, ↓rd_cls, ↓rd_fn, ↓rd_s, ↓rd_r, ↓r_chN, refP_s, ↓ri_seq, ↓rq_tup, ↓rq_lst, ↓r_var, ↓ra_var, ↓r_ret, ↓r_frz, ↓r_asBl, ↓r_asInt, ↓r_liftS, ↓ri_range, ↓ri_range2, ↓ri_zip, ↓ri_enum, ↓r_calle, ↓rc_fn, ↓en_lst, ↓en_tup, ↓rz_tup, ↓rz_lst, ↓rz_tl, ↓rz_lt, ↓ri_zip3, ↓rz_ttt, ↓rz_ttl, ↓rz_lll, ↓rx_expr, ↓rx_set, ↓rx_frz, ↓rx_ret, ↓rx_iff, ↓rx_mat, ↓then_nx, ↓then_rt, ↓then_bk, ↓then_ct, ↓rx_nil, ↓rx_cons, ↓rx_asg, ↓rt_name, ↓rt_tup, ↓rt_lst, ↓rt_nil, ↓rt_cons, ↓rx_setix, ↓rx_app, ↓rx_ext, ↓r_pop, ↓r_needL, ↓lstP_l, ↓obP_s, ↓r_chS, ↓rr_nil, ↓rr_cons, ↓rh_v, ↓rh_l, ↓rx_par, ↓rx_pass, ↓rx_for, ↓varP_v, ↓varP_n, bin_addI, bin_subI, cmp_lt, cmp_le, cmp_gt, cmp_ge, cmp_eqI, cmp_neI, cmp_eqB, cmp_eqS, cmp_neS, blR_s, bi_lenT, bi_lenL, bi_lenS, bi_tupT, bi_tupL, bi_lstT, bi_lstL, bi_max, bi_min, bi_intB, neg_i, isi_int, isi_tup, isi_lst, isi_dic, isi_str, isi_non, isi_bl, List.getElem?_cons_zero, List.getElem?_cons_succ, List.set_cons_zero, List.set_cons_succ, Option.map_some, R.flat, R.d, Ob.flat, Ob.d, true_and, and_true, eq_self, decide_eq_true_eq, reduceIte, Bool.true_and, Bool.false_and, Bool.and_false, Bool.and_true, Bool.false_eq_true, decide_true, decide_false, Bool.not_true, Bool.not_false, List.length_map, List.length_cons, List.length_nil, reduceCtorEq, and_self, true_or, or_true, or_false, false_or, or_self, sgsD]; done) | (simp -dsimp only [wipe_n, wipe_c, ↓ra_nop, ↓ra_cst, ↓ra_glob, ↓ra_tup, ↓ra_lst, ↓ra_dic, ↓ra_bin, ↓ra_neg, ↓ra_not, ↓ra_and, ↓ra_or, ↓ra_ife, ↓ra_cmp, ↓ra_chain, ↓ra_ix, ↓ra_sl, ↓ra_rev, ↓ra_get2, ↓r_get2, ↓r_needT, ↓ra_isi, ↓ra_bi, ↓ra_call, ↓ra_calle, ↓ra_pop, ↓ra_alloc, ↓ra_comp, ↓ra_comp2, ↓ra_me, ↓ra_lrange, ↓r_dic, ↓r_needM, ↓r_me, ↓r_lrange, me_cl, me_js, me_ss, ↓r_cst, ↓r_glob, ↓re_nil, ↓re_cons, ↓rsa_nil, ↓rsa_cons, ↓r_tup, ↓r_lst, ↓r_bin, ↓r_cmp, ↓r_ix, ↓r_neg, ↓r_isi, ↓r_bi, ↓r_not, ↓r_and, ↓r_or, ↓r_ife, ↓r_chain, ↓r_none, ↓rp_cst, ↓rp_glob, ↓rp_bin, ↓rp_neg, ↓rp_ife, ↓rp_ix, ↓rp_bi, ↓rp_call, ↓rp_var, ↓r_sl, ↓r_call, ↓r_alloc, ↓r_allocM, ↓r_prim1, ↓r_prim2, ↓r_primN, ↓rd_nil, ↓rd_cons, ↓rd_int, ↓rd_bl, ↓rd_str, ↓rd_non, ↓rd_tup, ↓rd_lst, ↓rd_scr, ↓rd_dic, ↓rd_cls, ↓rd_fn, ↓rd_s, ↓rd_r, ↓r_chN, refP_s, ↓ri_seq, ↓rq_tup, ↓rq_lst, ↓r_var, ↓ra_var, ↓r_ret, ↓r_frz, ↓r_asBl, ↓r_asInt, ↓r_liftS, ↓ri_range, ↓ri_range2, ↓ri_zip, ↓ri_enum, ↓r_calle, ↓rc_fn, ↓en_lst, ↓en_tup, ↓rz_tup, ↓rz_lst, ↓rz_tl, ↓rz_lt, ↓ri_zip3, ↓rz_ttt, ↓rz_ttl, ↓rz_lll, ↓rx_expr, ↓rx_set, ↓rx_frz, ↓rx_ret, ↓rx_iff, ↓rx_mat, ↓then_nx, ↓then_rt, ↓then_bk, ↓then_ct, ↓rx_nil, ↓rx_cons, ↓rx_asg, ↓rt_name, ↓rt_tup, ↓rt_lst, ↓rt_nil, ↓rt_cons, ↓rx_setix, ↓rx_app, ↓rx_ext, ↓r_pop, ↓r_needL, ↓lstP_l, ↓obP_s, ↓r_chS, ↓rr_nil, ↓rr_cons, ↓rh_v, ↓rh_l, ↓rx_par, ↓rx_pass, ↓rx_for, ↓varP_v, ↓varP_n, bin_addI, bin_subI, cmp_lt, cmp_le, cmp_gt, cmp_ge, cmp_eqI, cmp_neI, cmp_eqB, cmp_eqS, cmp_neS, blR_s, bi_lenT, bi_lenL, bi_lenS, bi_tupT, bi_tupL, bi_lstT, bi_lstL, bi_max, bi_min, bi_intB, neg_i, isi_int, isi_tup, isi_lst, isi_dic, isi_str, isi_non, isi_bl, List.getElem?_cons_zero, List.getElem?_cons_succ, List.set_cons_zero, List.set_cons_succ, Option.map_some, R.flat, R.d, Ob.flat, Ob.d, true_and, and_true, eq_self, decide_eq_true_eq, reduceIte, Bool.true_and, Bool.false_and, Bool.and_false, Bool.and_true, Bool.false_eq_true, decide_true, decide_false, Bool.not_true, Bool.not_false, List.length_map, List.length_cons, List.length_nil, reduceCtorEq, and_self, true_or, or_true, or_false, false_or, or_self, sgsD]; decide))
theorem c_is_table (hm : T.gl xm = some (.int 5)) (hr : Lw T d gr AreSignsC) (h : IsF T g (F_is_table xm gr)) : Lw T (d + 1) g IsTableC := Lw.of h fun j hj x s hv => run_eq [some (.val x), none] rfl rfl (by
  have gl : ∀ g, (orc T j).gl g = T.gl g := fun g => by rw [orc_gl]
  have e1 := hr.at hj
  unfold F_is_table
  cases x with
  | tup ds =>
    obtain ⟨v1, v2⟩ := vl_tup hv
    by_cases h1 : 1 ≤ ds.length
    · have c1 : (1 : Int) ≤ ds.length := by omega
      by_cases h5 : ds.length ≤ 5
      · have c2 : (ds.length : Int) ≤ 5 := by omega
        simp -dsimp only [wipe_n, wipe_c, ↓ra_nop, ↓ra_cst, ↓ra_glob, ↓ra_tup, ↓ra_lst, ↓ra_dic, ↓ra_bin, ↓ra_neg, ↓ra_not, ↓ra_and, ↓ra_or, ↓ra_ife, ↓ra_cmp, ↓ra_chain, ↓ra_ix, ↓ra_sl, ↓ra_rev, ↓ra_get2, ↓r_get2, ↓r_needT, ↓ra_isi, ↓ra_bi, ↓ra_call, ↓ra_calle, ↓ra_pop, ↓ra_alloc, ↓ra_comp, ↓ra_comp2, ↓ra_me, ↓ra_lrange, ↓r_dic, ↓r_needM, ↓r_me, ↓r_lrange, me_cl, me_js, me_ss, ↓r_cst, ↓r_glob, ↓re_nil, ↓re_cons, ↓rsa_nil, ↓rsa_cons, ↓r_tup, ↓r_lst, ↓r_bin, ↓r_cmp, ↓r_ix, ↓r_neg, ↓r_isi, ↓r_bi, ↓r_not, ↓r_and, ↓r_or, ↓r_ife, ↓r_chain, ↓r_none, ↓rp_cst, ↓rp_glob, ↓rp_bin, ↓rp_neg, ↓rp_ife, ↓rp_ix, ↓rp_bi, ↓rp_call, ↓rp_var, ↓r_sl, ↓r_call, ↓r_alloc, ↓r_allocM, ↓r_prim1, ↓r_prim2, ↓r_primN, ↓rd_nil, ↓rd_cons, ↓rd_int, ↓rd_bl, ↓rd_str, ↓rd_non, ↓rd_tup, ↓rd_lst, ↓rd_scr, ↓rd_dic, ↓rd_cls, ↓rd_fn, ↓rd_s, ↓rd_r, ↓r_chN, refP_s, ↓ri_seq, ↓rq_tup, ↓rq_lst, ↓r_var, ↓ra_var, ↓r_ret, ↓r_frz, ↓r_asBl, ↓r_asInt, ↓r_liftS, ↓ri_range, ↓ri_range2, ↓ri_zip, ↓ri_enum, ↓r_calle, ↓rc_fn, ↓en_lst, ↓en_tup, ↓rz_tup, ↓rz_lst, ↓rz_tl, ↓rz_lt, ↓ri_zip3, ↓rz_ttt, ↓rz_ttl, ↓rz_lll, ↓rx_expr, ↓rx_set, ↓rx_frz, ↓rx_ret, ↓rx_iff, ↓rx_mat, ↓then_nx, ↓then_rt, ↓then_bk, ↓then_ct, ↓rx_nil, ↓rx_cons, ↓rx_asg, ↓rt_name, ↓rt_tup, ↓rt_lst, ↓rt_nil, ↓rt_cons, ↓rx_setix, ↓rx_app, ↓rx_ext, ↓r_pop, ↓r_needL, ↓lstP_l, ↓obP_s, ↓r_chS, ↓rr_nil, ↓rr_cons, ↓rh_v, ↓rh_l, ↓rx_par, ↓rx_pass, ↓rx_for, ↓varP_v, ↓varP_n, bin_addI, bin_subI, cmp_lt, cmp_le, cmp_gt, cmp_ge, cmp_eqI, cmp_neI, cmp_eqB, cmp_eqS, cmp_neS, blR_s, bi_lenT, bi_lenL, bi_lenS, bi_tupT, bi_tupL, bi_lstT, bi_lstL, bi_max, bi_min, bi_intB, neg_i, isi_int, isi_tup, isi_lst, isi_dic, isi_str, isi_non, isi_bl, List.getElem?_cons_zero, List.getElem?_cons_succ, List.set_cons_zero, List.set_cons_succ, Option.map_some, R.flat, R.d, Ob.flat, Ob.d, true_and, and_true, eq_self, decide_eq_true_eq, reduceIte, Bool.true_and, Bool.false_and, Bool.and_false, Bool.and_true, Bool.false_eq_true, decide_true, decide_false, Bool.not_true, Bool.not_false, List.length_map, List.length_cons, List.length_nil, reduceCtorEq, and_self, true_or, or_true, or_false, false_or, or_self, isi_tup, gl, hm, c1, c2]
        refine wv_compM ?_
        simp -dsimp only [wipe_n, wipe_c, ↓ra_nop, ↓ra_cst, ↓ra_glob, ↓ra_tup, ↓ra_lst, ↓ra_dic, ↓ra_bin, ↓ra_neg, ↓ra_not, ↓ra_and, ↓ra_or, ↓ra_ife, ↓ra_cmp, ↓ra_chain, ↓ra_ix, ↓ra_sl, ↓ra_rev, ↓ra_get2, ↓r_get2, ↓r_needT, ↓ra_isi, ↓ra_bi, ↓ra_call, ↓ra_calle, ↓ra_pop, ↓ra_alloc, ↓ra_comp, ↓ra_comp2, ↓ra_me, ↓ra_lrange, ↓r_dic, ↓r_needM, ↓r_me, ↓r_lrange, me_cl, me_js, me_ss, ↓r_cst, ↓r_glob, ↓re_nil, ↓re_cons, ↓rsa_nil, ↓rsa_cons, ↓r_tup, ↓r_lst, ↓r_bin, ↓r_cmp, ↓r_ix, ↓r_neg, ↓r_isi, ↓r_bi, ↓r_not, ↓r_and, ↓r_or, ↓r_ife, ↓r_chain, ↓r_none, ↓rp_cst, ↓rp_glob, ↓rp_bin, ↓rp_neg, ↓rp_ife, ↓rp_ix, ↓rp_bi, ↓rp_call, ↓rp_var, ↓r_sl, ↓r_call, ↓r_alloc, ↓r_allocM, ↓r_prim1, ↓r_prim2, ↓r_primN, ↓rd_nil, ↓rd_cons, ↓rd_int, ↓rd_bl, ↓rd_str, ↓rd_non, ↓rd_tup, ↓rd_lst, ↓rd_scr, ↓rd_dic, ↓rd_cls, ↓rd_fn, ↓rd_s, ↓rd_r, ↓r_chN, refP_s, ↓ri_seq, ↓rq_tup, ↓rq_lst, ↓r_var, ↓ra_var, ↓r_ret, ↓r_frz, ↓r_asBl, ↓r_asInt, ↓r_liftS, ↓ri_range, ↓ri_range2, ↓ri_zip, ↓ri_enum, ↓r_calle, ↓rc_fn, ↓en_lst, ↓en_tup, ↓rz_tup, ↓rz_lst, ↓rz_tl, ↓rz_lt, ↓ri_zip3, ↓rz_ttt, ↓rz_ttl, ↓rz_lll, ↓rx_expr, ↓rx_set, ↓rx_frz, ↓rx_ret, ↓rx_iff, ↓rx_mat, ↓then_nx, ↓then_rt, ↓then_bk, ↓then_ct, ↓rx_nil, ↓rx_cons, ↓rx_asg, ↓rt_name, ↓rt_tup, ↓rt_lst, ↓rt_nil, ↓rt_cons, ↓rx_setix, ↓rx_app, ↓rx_ext, ↓r_pop, ↓r_needL, ↓lstP_l, ↓obP_s, ↓r_chS, ↓rr_nil, ↓rr_cons, ↓rh_v, ↓rh_l, ↓rx_par, ↓rx_pass, ↓rx_for, ↓varP_v, ↓varP_n, bin_addI, bin_subI, cmp_lt, cmp_le, cmp_gt, cmp_ge, cmp_eqI, cmp_neI, cmp_eqB, cmp_eqS, cmp_neS, blR_s, bi_lenT, bi_lenL, bi_lenS, bi_tupT, bi_tupL, bi_lstT, bi_lstL, bi_max, bi_min, bi_intB, neg_i, isi_int, isi_tup, isi_lst, isi_dic, isi_str, isi_non, isi_bl, List.getElem?_cons_zero, List.getElem?_cons_succ, List.set_cons_zero, List.set_cons_succ, Option.map_some, R.flat, R.d, Ob.flat, Ob.d, true_and, and_true, eq_self, decide_eq_true_eq, reduceIte, Bool.true_and, Bool.false_and, Bool.and_false, Bool.and_true, Bool.false_eq_true, decide_true, decide_false, Bool.not_true, Bool.not_false, List.length_map, List.length_cons, List.length_nil, reduceCtorEq, and_self, true_or, or_true, or_false, false_or, or_self]
        refine ⟨rfl, v1, D, ds, id, fun d => some (.bl (sgsD ds.length d)), by simp, fun x hx => wt_all rfl ?_, ?_⟩
        · simp -dsimp only [wipe_n, wipe_c, ↓ra_nop, ↓ra_cst, ↓ra_glob, ↓ra_tup, ↓ra_lst, ↓ra_dic, ↓ra_bin, ↓ra_neg, ↓ra_not, ↓ra_and, ↓ra_or, ↓ra_ife, ↓ra_cmp, ↓ra_chain, ↓ra_ix, ↓ra_sl, ↓ra_rev, ↓ra_get2, ↓r_get2, ↓r_needT, ↓ra_isi, ↓ra_bi, ↓ra_call, ↓ra_calle, ↓ra_pop, ↓ra_alloc, ↓ra_comp, ↓ra_comp2, ↓ra_me, ↓ra_lrange, ↓r_dic, ↓r_needM, ↓r_me, ↓r_lrange, me_cl, me_js, me_ss, ↓r_cst, ↓r_glob, ↓re_nil, ↓re_cons, ↓rsa_nil, ↓rsa_cons, ↓r_tup, ↓r_lst, ↓r_bin, ↓r_cmp, ↓r_ix, ↓r_neg, ↓r_isi, ↓r_bi, ↓r_not, ↓r_and, ↓r_or, ↓r_ife, ↓r_chain, ↓r_none, ↓rp_cst, ↓rp_glob, ↓rp_bin, ↓rp_neg, ↓rp_ife, ↓rp_ix, ↓rp_bi, ↓rp_call, ↓rp_var, ↓r_sl, ↓r_call, ↓r_alloc, ↓r_allocM, ↓r_prim1, ↓r_prim2, ↓r_primN, ↓rd_nil, ↓rd_cons, ↓rd_int, ↓rd_bl, ↓rd_str, ↓rd_non, ↓rd_tup, ↓rd_lst, ↓rd_scr, ↓rd_dic, ↓rd_cls, ↓rd_fn, ↓rd_s, ↓rd_r, ↓r_chN, refP_s, ↓ri_seq, ↓rq_tup, ↓rq_lst, ↓r_var, ↓ra_var, ↓r_ret, ↓r_frz, ↓r_asBl, ↓r_asInt, ↓r_liftS, ↓ri_range, ↓ri_range2, ↓ri_zip, ↓ri_enum, ↓r_calle, ↓rc_fn, ↓en_lst, ↓en_tup, ↓rz_tup, ↓rz_lst, ↓rz_tl, ↓rz_lt, ↓ri_zip3, ↓rz_ttt, ↓rz_ttl, ↓rz_lll, ↓rx_expr, ↓rx_set, ↓rx_frz, ↓rx_ret, ↓rx_iff, ↓rx_mat, ↓then_nx, ↓then_rt, ↓then_bk, ↓then_ct, ↓rx_nil, ↓rx_cons, ↓rx_asg, ↓rt_name, ↓rt_tup, ↓rt_lst, ↓rt_nil, ↓rt_cons, ↓rx_setix, ↓rx_app, ↓rx_ext, ↓r_pop, ↓r_needL, ↓lstP_l, ↓obP_s, ↓r_chS, ↓rr_nil, ↓rr_cons, ↓rh_v, ↓rh_l, ↓rx_par, ↓rx_pass, ↓rx_for, ↓varP_v, ↓varP_n, bin_addI, bin_subI, cmp_lt, cmp_le, cmp_gt, cmp_ge, cmp_eqI, cmp_neI, cmp_eqB, cmp_eqS, cmp_neS, blR_s, bi_lenT, bi_lenL, bi_lenS, bi_tupT, bi_tupL, bi_lstT, bi_lstL, bi_max, bi_min, bi_intB, neg_i, isi_int, isi_tup, isi_lst, isi_dic, isi_str, isi_non, isi_bl, List.getElem?_cons_zero, List.getElem?_cons_succ, List.set_cons_zero, List.set_cons_succ, Option.map_some, R.flat, R.d, Ob.flat, Ob.d, true_and, and_true, eq_self, decide_eq_true_eq, reduceIte, Bool.true_and, Bool.false_and, Bool.and_false, Bool.and_true, Bool.false_eq_true, decide_true, decide_false, Bool.not_true, Bool.not_false, List.length_map, List.length_cons, List.length_nil, reduceCtorEq, and_self, true_or, or_true, or_false, false_or, or_self, r_callM (e1 x ds.length s (v2 x hx)), wipeE, id]
        · rw [filterMap_some]
          simp -dsimp only [wipe_n, wipe_c, ↓ra_nop, ↓ra_cst, ↓ra_glob, ↓ra_tup, ↓ra_lst, ↓ra_dic, ↓ra_bin, ↓ra_neg, ↓ra_not, ↓ra_and, ↓ra_or, ↓ra_ife, ↓ra_cmp, ↓ra_chain, ↓ra_ix, ↓ra_sl, ↓ra_rev, ↓ra_get2, ↓r_get2, ↓r_needT, ↓ra_isi, ↓ra_bi, ↓ra_call, ↓ra_calle, ↓ra_pop, ↓ra_alloc, ↓ra_comp, ↓ra_comp2, ↓ra_me, ↓ra_lrange, ↓r_dic, ↓r_needM, ↓r_me, ↓r_lrange, me_cl, me_js, me_ss, ↓r_cst, ↓r_glob, ↓re_nil, ↓re_cons, ↓rsa_nil, ↓rsa_cons, ↓r_tup, ↓r_lst, ↓r_bin, ↓r_cmp, ↓r_ix, ↓r_neg, ↓r_isi, ↓r_bi, ↓r_not, ↓r_and, ↓r_or, ↓r_ife, ↓r_chain, ↓r_none, ↓rp_cst, ↓rp_glob, ↓rp_bin, ↓rp_neg, ↓rp_ife, ↓rp_ix, ↓rp_bi, ↓rp_call, ↓rp_var, ↓r_sl, ↓r_call, ↓r_alloc, ↓r_allocM, ↓r_prim1, ↓r_prim2, ↓r_primN, ↓rd_nil, ↓rd_cons, ↓rd_int, ↓rd_bl, ↓rd_str, ↓rd_non, ↓rd_tup, ↓rd_lst, ↓rd_scr, ↓rd_dic, ↓rd_cls, ↓rd_fn, ↓rd_s, ↓rd_r, ↓r_chN, refP_s, ↓ri_seq, ↓rq_tup, ↓rq_lst, ↓r_var, ↓ra_var, ↓r_ret, ↓r_frz, ↓r_asBl, ↓r_asInt, ↓r_liftS, ↓ri_range, ↓ri_range2, ↓ri_zip, ↓ri_enum, ↓r_calle, ↓rc_fn, ↓en_lst, ↓en_tup, ↓rz_tup, ↓rz_lst, ↓rz_tl, ↓rz_lt, ↓ri_zip3, ↓rz_ttt, ↓rz_ttl, ↓rz_lll, ↓rx_expr, ↓rx_set, ↓rx_frz, ↓rx_ret, ↓rx_iff, ↓rx_mat, ↓then_nx, ↓then_rt, ↓then_bk, ↓then_ct, ↓rx_nil, ↓rx_cons, ↓rx_asg, ↓rt_name, ↓rt_tup, ↓rt_lst, ↓rt_nil, ↓rt_cons, ↓rx_setix, ↓rx_app, ↓rx_ext, ↓r_pop, ↓r_needL, ↓lstP_l, ↓obP_s, ↓r_chS, ↓rr_nil, ↓rr_cons, ↓rh_v, ↓rh_l, ↓rx_par, ↓rx_pass, ↓rx_for, ↓varP_v, ↓varP_n, bin_addI, bin_subI, cmp_lt, cmp_le, cmp_gt, cmp_ge, cmp_eqI, cmp_neI, cmp_eqB, cmp_eqS, cmp_neS, blR_s, bi_lenT, bi_lenL, bi_lenS, bi_tupT, bi_tupL, bi_lstT, bi_lstL, bi_max, bi_min, bi_intB, neg_i, isi_int, isi_tup, isi_lst, isi_dic, isi_str, isi_non, isi_bl, List.getElem?_cons_zero, List.getElem?_cons_succ, List.set_cons_zero, List.set_cons_succ, Option.map_some, R.flat, R.d, Ob.flat, Ob.d, true_and, and_true, eq_self, decide_eq_true_eq, reduceIte, Bool.true_and, Bool.false_and, Bool.and_false, Bool.and_true, Bool.false_eq_true, decide_true, decide_false, Bool.not_true, Bool.not_false, List.length_map, List.length_cons, List.length_nil, reduceCtorEq, and_self, true_or, or_true, or_false, false_or, or_self, bi_all (bls_map (f := sgsD ds.length)), all_map, tabD, h1, h5]
      · have c2 : ¬ (ds.length : Int) ≤ 5 := by omega
        simp -dsimp only [wipe_n, wipe_c, ↓ra_nop, ↓ra_cst, ↓ra_glob, ↓ra_tup, ↓ra_lst, ↓ra_dic, ↓ra_bin, ↓ra_neg, ↓ra_not, ↓ra_and, ↓ra_or, ↓ra_ife, ↓ra_cmp, ↓ra_chain, ↓ra_ix, ↓ra_sl, ↓ra_rev, ↓ra_get2, ↓r_get2, ↓r_needT, ↓ra_isi, ↓ra_bi, ↓ra_call, ↓ra_calle, ↓ra_pop, ↓ra_alloc, ↓ra_comp, ↓ra_comp2, ↓ra_me, ↓ra_lrange, ↓r_dic, ↓r_needM, ↓r_me, ↓r_lrange, me_cl, me_js, me_ss, ↓r_cst, ↓r_glob, ↓re_nil, ↓re_cons, ↓rsa_nil, ↓rsa_cons, ↓r_tup, ↓r_lst, ↓r_bin, ↓r_cmp, ↓r_ix, ↓r_neg, ↓r_isi, ↓r_bi, ↓r_not, ↓r_and, ↓r_or, ↓r_ife, ↓r_chain, ↓r_none, ↓rp_cst, ↓rp_glob, ↓rp_bin, ↓rp_neg, ↓rp_ife, ↓rp_ix, ↓rp_bi, ↓rp_call, ↓rp_var, ↓r_sl, ↓r_call, ↓r_alloc, ↓r_allocM, ↓r_prim1, ↓r_prim2, ↓r_primN, ↓rd_nil, ↓rd_cons, ↓rd_int, ↓rd_bl, ↓rd_str, ↓rd_non, ↓rd_tup, ↓rd_lst, ↓rd_scr, ↓rd_dic, ↓rd_cls, ↓rd_fn, ↓rd_s, ↓rd_r, ↓r_chN, refP_s, ↓ri_seq, ↓rq_tup, ↓rq_lst, ↓r_var, ↓ra_var, ↓r_ret, ↓r_frz, ↓r_asBl, ↓r_asInt, ↓r_liftS, ↓ri_range, ↓ri_range2, ↓ri_zip, ↓ri_enum, ↓r_calle, ↓rc_fn, ↓en_lst, ↓en_tup, ↓rz_tup, ↓rz_lst, ↓rz_tl, ↓rz_lt, ↓ri_zip3, ↓rz_ttt, ↓rz_ttl, ↓rz_lll, ↓rx_expr, ↓rx_set, ↓rx_frz, ↓rx_ret, ↓rx_iff, ↓rx_mat, ↓then_nx, ↓then_rt, ↓then_bk, ↓then_ct, ↓rx_nil, ↓rx_cons, ↓rx_asg, ↓rt_name, ↓rt_tup, ↓rt_lst, ↓rt_nil, ↓rt_cons, ↓rx_setix, ↓rx_app, ↓rx_ext, ↓r_pop, ↓r_needL, ↓lstP_l, ↓obP_s, ↓r_chS, ↓rr_nil, ↓rr_cons, ↓rh_v, ↓rh_l, ↓rx_par, ↓rx_pass, ↓rx_for, ↓varP_v, ↓varP_n, bin_addI, bin_subI, cmp_lt, cmp_le, cmp_gt, cmp_ge, cmp_eqI, cmp_neI, cmp_eqB, cmp_eqS, cmp_neS, blR_s, bi_lenT, bi_lenL, bi_lenS, bi_tupT, bi_tupL, bi_lstT, bi_lstL, bi_max, bi_min, bi_intB, neg_i, isi_int, isi_tup, isi_lst, isi_dic, isi_str, isi_non, isi_bl, List.getElem?_cons_zero, List.getElem?_cons_succ, List.set_cons_zero, List.set_cons_succ, Option.map_some, R.flat, R.d, Ob.flat, Ob.d, true_and, and_true, eq_self, decide_eq_true_eq, reduceIte, Bool.true_and, Bool.false_and, Bool.and_false, Bool.and_true, Bool.false_eq_true, decide_true, decide_false, Bool.not_true, Bool.not_false, List.length_map, List.length_cons, List.length_nil, reduceCtorEq, and_self, true_or, or_true, or_false, false_or, or_self, isi_tup, gl, hm, c1, c2, tabD, h1, h5]
    · have c1 : ¬ (1 : Int) ≤ ds.length := by omega
      simp -dsimp only [wipe_n, wipe_c, ↓ra_nop, ↓ra_cst, ↓ra_glob, ↓ra_tup, ↓ra_lst, ↓ra_dic, ↓ra_bin, ↓ra_neg, ↓ra_not, ↓ra_and, ↓ra_or, ↓ra_ife, ↓ra_cmp, ↓ra_chain, ↓ra_ix, ↓ra_sl, ↓ra_rev, ↓ra_get2, ↓r_get2, ↓r_needT, ↓ra_isi, ↓ra_bi, ↓ra_call, ↓ra_calle, ↓ra_pop, ↓ra_alloc, ↓ra_comp, ↓ra_comp2, ↓ra_me, ↓ra_lrange, ↓r_dic, ↓r_needM, ↓r_me, ↓r_lrange, me_cl, me_js, me_ss, ↓r_cst, ↓r_glob, ↓re_nil, ↓re_cons, ↓rsa_nil, ↓rsa_cons, ↓r_tup, ↓r_lst, ↓r_bin, ↓r_cmp, ↓r_ix, ↓r_neg, ↓r_isi, ↓r_bi, ↓r_not, ↓r_and, ↓r_or, ↓r_ife, ↓r_chain, ↓r_none, ↓rp_cst, ↓rp_glob, ↓rp_bin, ↓rp_neg, ↓rp_ife, ↓rp_ix, ↓rp_bi, ↓rp_call, ↓rp_var, ↓r_sl, ↓r_call, ↓r_alloc, ↓r_allocM, ↓r_prim1, ↓r_prim2, ↓r_primN, ↓rd_nil, ↓rd_cons, ↓rd_int, ↓rd_bl, ↓rd_str, ↓rd_non, ↓rd_tup, ↓rd_lst, ↓rd_scr, ↓rd_dic, ↓rd_cls, ↓rd_fn, ↓rd_s, ↓rd_r, ↓r_chN, refP_s, ↓ri_seq, ↓rq_tup, ↓rq_lst, ↓r_var, ↓ra_var, ↓r_ret, ↓r_frz, ↓r_asBl, ↓r_asInt, ↓r_liftS, ↓ri_range, ↓ri_range2, ↓ri_zip, ↓ri_enum, ↓r_calle, ↓rc_fn, ↓en_lst, ↓en_tup, ↓rz_tup, ↓rz_lst, ↓rz_tl, ↓rz_lt, ↓ri_zip3, ↓rz_ttt, ↓rz_ttl, ↓rz_lll, ↓rx_expr, ↓rx_set, ↓rx_frz, ↓rx_ret, ↓rx_iff, ↓rx_mat, ↓then_nx, ↓then_rt, ↓then_bk, ↓then_ct, ↓rx_nil, ↓rx_cons, ↓rx_asg, ↓rt_name, ↓rt_tup, ↓rt_lst, ↓rt_nil, ↓rt_cons, ↓rx_setix, ↓rx_app, ↓rx_ext, ↓r_pop, ↓r_needL, ↓lstP_l, ↓obP_s, ↓r_chS, ↓rr_nil, ↓rr_cons, ↓rh_v, ↓rh_l, ↓rx_par, ↓rx_pass, ↓rx_for, ↓varP_v, ↓varP_n, bin_addI, bin_subI, cmp_lt, cmp_le, cmp_gt, cmp_ge, cmp_eqI, cmp_neI, cmp_eqB, cmp_eqS, cmp_neS, blR_s, bi_lenT, bi_lenL, bi_lenS, bi_tupT, bi_tupL, bi_lstT, bi_lstL, bi_max, bi_min, bi_intB, neg_i, isi_int, isi_tup, isi_lst, isi_dic, isi_str, isi_non, isi_bl, List.getElem?_cons_zero, List.getElem?_cons_succ, List.set_cons_zero, List.set_cons_succ, Option.map_some, R.flat, R.d, Ob.flat, Ob.d, true_and, and_true, eq_self, decide_eq_true_eq, reduceIte, Bool.true_and, Bool.false_and, Bool.and_false, Bool.and_true, Bool.false_eq_true, decide_true, decide_false, Bool.not_true, Bool.not_false, List.length_map, List.length_cons, List.length_nil, reduceCtorEq, and_self, true_or, or_true, or_false, false_or, or_self, isi_tup, gl, hm, c1, tabD, h1]
  | _ => first | (cases hv; done) | (simp -dsimp only [wipe_n, wipe_c, ↓ra_nop, ↓ra_cst, ↓ra_glob, ↓ra_tup, ↓ra_lst, ↓ra_dic, ↓ra_bin, ↓ra_neg, ↓ra_not, ↓ra_and, ↓ra_or, ↓ra_ife, ↓ra_cmp, ↓ra_chain, ↓ra_ix, ↓ra_sl, ↓ra_rev, ↓ra_get2, ↓r_get2, ↓r_needT, ↓ra_isi, ↓ra_bi, ↓ra_call, ↓ra_calle, ↓ra_pop, ↓ra_alloc, ↓ra_comp, ↓ra_comp2, ↓ra_me, ↓ra_lrange, ↓r_dic, ↓r_needM, ↓r_me, ↓r_lrange, me_cl, me_js, me_ss, ↓r_cst, ↓r_glob, ↓re_nil, ↓re_cons, ↓rsa_nil, ↓rsa_cons, ↓r_tup, ↓r_lst, ↓r_bin, ↓r_cmp, ↓r_ix, ↓r_neg, ↓r_isi, ↓r_bi, ↓r_not, ↓r_and, ↓r_or, ↓r_ife, ↓r_chain, ↓r_none, ↓rp_cst, ↓rp_glob, ↓rp_bin, ↓rp_neg, ↓rp_ife, ↓rp_ix, ↓rp_bi, ↓rp_call, ↓rp_var, ↓r_sl, ↓r_call, ↓r_alloc, ↓r_allocM, ↓r_prim1, ↓r_prim2, ↓r_primN, ↓rd_nil, ↓rd_cons, ↓rd_int, ↓rd_bl, ↓rd_str, ↓rd_non, ↓rd_tup, ↓rd_lst, ↓rd_scr, ↓rd_dic, ↓rd_cls, ↓rd_fn, ↓rd_s, ↓rd_r, ↓r_chN, refP_s, ↓ri_seq, ↓rq_tup, ↓rq_lst, ↓r_var, ↓ra_var, ↓r_ret, ↓r_frz, ↓r_asBl, ↓r_asInt, ↓r_liftS, ↓ri_range, ↓ri_range2, ↓ri_zip, ↓ri_enum, ↓r_calle, ↓rc_fn, ↓en_lst, ↓en_tup, ↓rz_tup, ↓rz_lst, ↓rz_tl, ↓rz_lt, ↓ri_zip3, ↓rz_ttt, ↓rz_ttl, ↓rz_lll, ↓rx_expr, ↓rx_set, ↓rx_frz, ↓rx_ret, ↓rx_iff, ↓rx_mat, ↓then_nx, ↓then_rt, ↓then_bk, ↓then_ct, ↓rx_nil, ↓rx_cons, ↓rx_asg, ↓rt_name, ↓rt_tup, ↓rt_lst, ↓rt_nil, ↓rt_cons, ↓rx_setix, ↓rx_app, ↓rx_ext, ↓r_pop, ↓r_needL, ↓lstP_l, ↓obP_s, ↓r_chS, ↓rr_nil, ↓rr_cons, ↓rh_v, ↓rh_l, ↓rx_par, ↓rx_pass, ↓rx_for, ↓varP_v, ↓varP_n, bin_addI, bin_subI, cmp_lt, cmp_le, cmp_gt, cmp_ge, cmp_eqI, cmp_neI, cmp_eqB, cmp_eqS, cmp_neS, blR_s, bi_lenT, bi_lenL, bi_lenS, bi_tupT, bi_tupL, bi_lstT, bi_lstL, bi_max, bi_min, bi_intB, neg_i, isi_int, isi_tup, isi_lst, isi_dic, isi_str, isi_non, isi_bl, List.getElem?_cons_zero, List.getElem?_cons_succ, List.set_cons_zero, List.set_cons_succ, Option.map_some, R.flat, R.d, Ob.flat, Ob.d, true_and, and_true, eq_self, decide_eq_true_eq, reduceIte, Bool.true_and, Bool.false_and, Bool.and_false, Bool.and_true, Bool.false_eq_true, decide_true, decide_false, Bool.not_true, Bool.not_false, List.length_map, List.length_cons, List.length_nil, reduceCtorEq, and_self, true_or, or_true, or_false, false_or, or_self, tabD]; done) | (simp -dsimp only [wipe_n, wipe_c, ↓ra_nop, ↓ra_cst, ↓ra_glob, ↓ra_tup, ↓ra_lst, ↓ra_dic, ↓ra_bin, ↓ra_neg, ↓ra_not, ↓ra_and, ↓ra_or, ↓ra_ife, ↓ra_cmp, ↓ra_chain, ↓ra_ix, ↓ra_sl, ↓ra_rev, ↓ra_get2, ↓r_get2, ↓r_needT, ↓ra_isi, ↓ra_bi, ↓ra_call, ↓ra_calle, ↓ra_pop, ↓ra_alloc, ↓ra_comp, ↓ra_comp2, ↓ra_me, ↓ra_lrange, ↓r_dic, ↓r_needM, ↓r_me, ↓r_lrange, me_cl, me_js, me_ss, ↓r_cst, ↓r_glob, ↓re_nil, ↓re_cons, ↓rsa_nil, ↓rsa_cons, ↓r_tup, ↓r_lst, ↓r_bin, ↓r_cmp, ↓r_ix, ↓r_neg, ↓r_isi, ↓r_bi, ↓r_not, ↓r_and, ↓r_or, ↓r_ife, ↓r_chain, ↓r_none, ↓rp_cst, ↓rp_glob, ↓rp_bin, ↓rp_neg, ↓rp_ife, ↓rp_ix, ↓rp_bi, ↓rp_call, ↓rp_var, ↓r_sl, ↓r_call, ↓r_alloc, ↓r_allocM, ↓r_prim1, ↓r_prim2, ↓r_primN, ↓rd_nil, ↓rd_cons, ↓rd_int, ↓rd_bl, ↓rd_str, ↓rd_non, ↓rd_tup, ↓rd_lst, ↓rd_scr, ↓rd_dic, ↓rd_cls, ↓rd_fn, ↓rd_s, ↓rd_r, ↓r_chN, refP_s, ↓ri_seq, ↓rq_tup, ↓rq_lst, ↓r_var, ↓ra_var, ↓r_ret, ↓r_frz, ↓r_asBl, ↓r_asInt, ↓r_liftS, ↓ri_range, ↓ri_range2, ↓ri_zip, ↓ri_enum, ↓r_calle, ↓rc_fn, ↓en_lst, ↓en_tup, ↓rz_tup, ↓rz_lst, ↓rz_tl, ↓rz_lt, ↓ri_zip3, ↓rz_ttt, ↓rz_ttl, ↓rz_lll, ↓rx_expr, ↓rx_set, ↓rx_frz, ↓rx_ret, ↓rx_iff, ↓rx_mat, ↓then_nx, ↓then_rt, ↓then_bk, ↓then_ct, ↓rx_nil, ↓rx_cons, ↓rx_asg, ↓rt_name, ↓rt_tup, ↓rt_lst, ↓rt_nil, ↓rt_cons, ↓rx_setix, ↓rx_app, ↓rx_ext, ↓r_pop, ↓r_needL, ↓lstP_l, ↓obP_s, ↓r_chS, ↓rr_nil, ↓rr_cons, ↓rh_v, ↓rh_l, ↓rx_par, ↓rx_pass, ↓rx_for, ↓varP_v, ↓varP_n, bin_addI, bin_subI, cmp_lt, cmp_le, cmp_gt, cmp_ge, cmp_eqI, cmp_neI, cmp_eqB, cmp_eqS, cmp_neS, blR_s, bi_lenT, bi_lenL, bi_lenS, bi_tupT, bi_tupL, bi_lstT, bi_lstL, bi_max, bi_min, bi_intB, neg_i, isi_int, isi_tup, isi_lst, isi_dic, isi_str, isi_non, isi_bl, List.getElem?_cons_zero, List.getElem?_cons_succ, List.set_cons_zero, List.set_cons_succ, Option.map_some, R.flat, R.d, Ob.flat, Ob.d, true_and, and_true, eq_self, decide_eq_true_eq, reduceIte, Bool.true_and, Bool.false_and, Bool.and_false, Bool.and_true, Bool.false_eq_true, decide_true, decide_false, Bool.not_true, Bool.not_false, List.length_map, List.length_cons, List.length_nil, reduceCtorEq, and_self, true_or, or_true, or_false, false_or, or_self, tabD]; decide))
theorem c_need_table (ht : Lw T d gt IsTableC) (h : IsF T g (F_need_table gt ie)) : Lw T (d + 1) g (NeedTableC ie) := Lw.of h fun j hj x s hv => Q.run_q [some (.val x)] rfl rfl (by
  have e1 := ht.at hj x s hv
  unfold F_need_table
  cases q : tabD x <;> rw [q] at e1 <;> simp -dsimp only [wipe_n, wipe_c, ↓Q.ra_nop, ↓Q.ra_cst, ↓Q.ra_glob, ↓Q.ra_tup, ↓Q.ra_lst, ↓Q.ra_dic, ↓Q.ra_bin, ↓Q.ra_neg, ↓Q.ra_not, ↓Q.ra_and, ↓Q.ra_or, ↓Q.ra_ife, ↓Q.ra_cmp, ↓Q.ra_chain, ↓Q.ra_ix, ↓Q.ra_sl, ↓Q.ra_rev, ↓Q.ra_get2, ↓Q.r_get2, ↓Q.r_needT, ↓Q.ra_isi, ↓Q.ra_bi, ↓Q.ra_call, ↓Q.ra_calle, ↓Q.ra_pop, ↓Q.ra_alloc, ↓Q.ra_comp, ↓Q.ra_comp2, ↓Q.ra_me, ↓Q.ra_lrange, ↓Q.r_dic, ↓Q.r_needM, ↓Q.r_me, ↓Q.r_lrange, me_cl, me_js, me_ss, ↓Q.r_cst, ↓Q.r_glob, ↓Q.re_nil, ↓Q.re_cons, ↓Q.rsa_nil, ↓Q.rsa_cons, ↓Q.r_tup, ↓Q.r_lst, ↓Q.r_bin, ↓Q.r_cmp, ↓Q.r_ix, ↓Q.r_neg, ↓Q.r_isi, ↓Q.r_bi, ↓Q.r_not, ↓Q.r_and, ↓Q.r_or, ↓Q.r_ife, ↓Q.r_chain, ↓Q.r_none, ↓Q.rp_cst, ↓Q.rp_glob, ↓Q.rp_bin, ↓Q.rp_neg, ↓Q.rp_ife, ↓Q.rp_ix, ↓Q.rp_bi, ↓Q.rp_call, ↓Q.rp_var, ↓Q.r_sl, ↓Q.r_call, ↓Q.r_alloc, ↓Q.r_allocM, ↓Q.r_prim1, ↓Q.r_prim2, ↓Q.r_primN, ↓Q.rd_nil, ↓Q.rd_cons, ↓Q.rd_int, ↓Q.rd_bl, ↓Q.rd_str, ↓Q.rd_non, ↓Q.rd_tup, ↓Q.rd_lst, ↓Q.rd_scr, ↓Q.rd_dic, ↓Q.rd_cls, ↓Q.rd_fn, ↓Q.rd_s, ↓Q.rd_r, ↓Q.r_chN, refP_s, ↓Q.ri_seq, ↓Q.rq_tup, ↓Q.rq_lst, ↓Q.r_var, ↓Q.ra_var, ↓Q.r_ret, ↓Q.r_frz, ↓Q.r_asBl, ↓Q.r_asInt, ↓Q.r_liftS, ↓Q.ri_range, ↓Q.ri_range2, ↓Q.ri_zip, ↓Q.ri_enum, ↓Q.r_calle, ↓Q.rc_fn, ↓Q.en_lst, ↓Q.en_tup, ↓Q.rz_tup, ↓Q.rz_lst, ↓Q.rz_tl, ↓Q.rz_lt, ↓Q.ri_zip3, ↓Q.rz_ttt, ↓Q.rz_ttl, ↓Q.rz_lll, ↓Q.rx_expr, ↓Q.rx_set, ↓Q.rx_frz, ↓Q.rx_ret, ↓Q.rx_iff, ↓Q.rx_mat, ↓then_nx, ↓then_rt, ↓then_bk, ↓then_ct, ↓Q.rx_nil, ↓Q.rx_cons, ↓Q.rx_asg, ↓Q.rt_name, ↓Q.rt_tup, ↓Q.rt_lst, ↓Q.rt_nil, ↓Q.rt_cons, ↓Q.rx_setix, ↓Q.rx_app, ↓Q.rx_ext, ↓Q.r_pop, ↓Q.r_needL, ↓lstP_l, ↓obP_s, ↓Q.r_chS, ↓Q.rr_nil, ↓Q.rr_cons, ↓rh_v, ↓rh_l, ↓Q.rx_par, ↓Q.rx_pass, ↓Q.rx_for, ↓varP_v, ↓varP_n, bin_addI, bin_subI, cmp_lt, cmp_le, cmp_gt, cmp_ge, cmp_eqI, cmp_neI, cmp_eqB, cmp_eqS, cmp_neS, blR_s, bi_lenT, bi_lenL, bi_lenS, bi_tupT, bi_tupL, bi_lstT, bi_lstL, bi_max, bi_min, bi_intB, neg_i, isi_int, isi_tup, isi_lst, isi_dic, isi_str, isi_non, isi_bl, List.getElem?_cons_zero, List.getElem?_cons_succ, List.set_cons_zero, List.set_cons_succ, Option.map_some, R.flat, R.d, Ob.flat, Ob.d, true_and, and_true, eq_self, decide_eq_true_eq, reduceIte, Bool.true_and, Bool.false_and, Bool.and_false, Bool.and_true, Bool.false_eq_true, decide_true, decide_false, Bool.not_true, Bool.not_false, List.length_map, List.length_cons, List.length_nil, reduceCtorEq, and_self, true_or, or_true, or_false, false_or, or_self, ↓Q.rx_raise, Q.r_callM e1] <;> simp)
theorem tabD_tup {t : D} (h : tabD t = true) : ∃ ds, t = .tup ds ∧ ds.length ≤ 5 := by
  cases t with
  | tup ds =>
    simp only [tabD, Bool.and_eq_true, decide_eq_true_eq] at h
    exact ⟨ds, rfl, h.1.2⟩
  | _ => cases h
theorem c_is_push (hn : Lw T d gn (NeedTableC ie)) (hr : Lw T d gr AreSignsC) (h : IsF T g (F_is_push gn gr)) : Lw T (d + 1) g (IsPushC ie) := Lw.of h fun j hj t p s ht hp => Q.run_q [some (.val t), some (.val p)] rfl rfl (by
  have e1 := hn.at hj t s ht
  unfold F_is_push
  by_cases q : tabD t = true
  · rw [if_pos q] at e1
    obtain ⟨ds, rfl, _⟩ := tabD_tup q
    have e2 := hr.at hj p ds.length s hp
    simp -dsimp only [wipe_n, wipe_c, ↓Q.ra_nop, ↓Q.ra_cst, ↓Q.ra_glob, ↓Q.ra_tup, ↓Q.ra_lst, ↓Q.ra_dic, ↓Q.ra_bin, ↓Q.ra_neg, ↓Q.ra_not, ↓Q.ra_and, ↓Q.ra_or, ↓Q.ra_ife, ↓Q.ra_cmp, ↓Q.ra_chain, ↓Q.ra_ix, ↓Q.ra_sl, ↓Q.ra_rev, ↓Q.ra_get2, ↓Q.r_get2, ↓Q.r_needT, ↓Q.ra_isi, ↓Q.ra_bi, ↓Q.ra_call, ↓Q.ra_calle, ↓Q.ra_pop, ↓Q.ra_alloc, ↓Q.ra_comp, ↓Q.ra_comp2, ↓Q.ra_me, ↓Q.ra_lrange, ↓Q.r_dic, ↓Q.r_needM, ↓Q.r_me, ↓Q.r_lrange, me_cl, me_js, me_ss, ↓Q.r_cst, ↓Q.r_glob, ↓Q.re_nil, ↓Q.re_cons, ↓Q.rsa_nil, ↓Q.rsa_cons, ↓Q.r_tup, ↓Q.r_lst, ↓Q.r_bin, ↓Q.r_cmp, ↓Q.r_ix, ↓Q.r_neg, ↓Q.r_isi, ↓Q.r_bi, ↓Q.r_not, ↓Q.r_and, ↓Q.r_or, ↓Q.r_ife, ↓Q.r_chain, ↓Q.r_none, ↓Q.rp_cst, ↓Q.rp_glob, ↓Q.rp_bin, ↓Q.rp_neg, ↓Q.rp_ife, ↓Q.rp_ix, ↓Q.rp_bi, ↓Q.rp_call, ↓Q.rp_var, ↓Q.r_sl, ↓Q.r_call, ↓Q.r_alloc, ↓Q.r_allocM, ↓Q.r_prim1, ↓Q.r_prim2, ↓Q.r_primN, ↓Q.rd_nil, ↓Q.rd_cons, ↓Q.rd_int, ↓Q.rd_bl, ↓Q.rd_str, ↓Q.rd_non, ↓Q.rd_tup, ↓Q.rd_lst, ↓Q.rd_scr, ↓Q.rd_dic, ↓Q.rd_cls, ↓Q.rd_fn, ↓Q.rd_s, ↓Q.rd_r, ↓Q.r_chN, refP_s, ↓Q.ri_seq, ↓Q.rq_tup, ↓Q.rq_lst, ↓Q.r_var, ↓Q.ra_var, ↓Q.r_ret, ↓Q.r_frz, ↓Q.r_asBl, ↓Q.r_asInt, ↓Q.r_liftS, ↓Q.ri_range, ↓Q.ri_range2, ↓Q.ri_zip, ↓Q.ri_enum, ↓Q.r_calle, ↓Q.rc_fn, ↓Q.en_lst, ↓Q.en_tup, ↓Q.rz_tup, ↓Q.rz_lst, ↓Q.rz_tl, ↓Q.rz_lt, ↓Q.ri_zip3, ↓Q.rz_ttt, ↓Q.rz_ttl, ↓Q.rz_lll, ↓Q.rx_expr, ↓Q.rx_set, ↓Q.rx_frz, ↓Q.rx_ret, ↓Q.rx_iff, ↓Q.rx_mat, ↓then_nx, ↓then_rt, ↓then_bk, ↓then_ct, ↓Q.rx_nil, ↓Q.rx_cons, ↓Q.rx_asg, ↓Q.rt_name, ↓Q.rt_tup, ↓Q.rt_lst, ↓Q.rt_nil, ↓Q.rt_cons, ↓Q.rx_setix, ↓Q.rx_app, ↓Q.rx_ext, ↓Q.r_pop, ↓Q.r_needL, ↓lstP_l, ↓obP_s, ↓Q.r_chS, ↓Q.rr_nil, ↓Q.rr_cons, ↓rh_v, ↓rh_l, ↓Q.rx_par, ↓Q.rx_pass, ↓Q.rx_for, ↓varP_v, ↓varP_n, bin_addI, bin_subI, cmp_lt, cmp_le, cmp_gt, cmp_ge, cmp_eqI, cmp_neI, cmp_eqB, cmp_eqS, cmp_neS, blR_s, bi_lenT, bi_lenL, bi_lenS, bi_tupT, bi_tupL, bi_lstT, bi_lstL, bi_max, bi_min, bi_intB, neg_i, isi_int, isi_tup, isi_lst, isi_dic, isi_str, isi_non, isi_bl, List.getElem?_cons_zero, List.getElem?_cons_succ, List.set_cons_zero, List.set_cons_succ, Option.map_some, R.flat, R.d, Ob.flat, Ob.d, true_and, and_true, eq_self, decide_eq_true_eq, reduceIte, Bool.true_and, Bool.false_and, Bool.and_false, Bool.and_true, Bool.false_eq_true, decide_true, decide_false, Bool.not_true, Bool.not_false, List.length_map, List.length_cons, List.length_nil, reduceCtorEq, and_self, true_or, or_true, or_false, false_or, or_self, ↓Q.rx_raise, Q.r_callM e1, Q.r_callM e2]
    simp [q, tlen]
  · rw [if_neg q] at e1
    simp -dsimp only [wipe_n, wipe_c, ↓Q.ra_nop, ↓Q.ra_cst, ↓Q.ra_glob, ↓Q.ra_tup, ↓Q.ra_lst, ↓Q.ra_dic, ↓Q.ra_bin, ↓Q.ra_neg, ↓Q.ra_not, ↓Q.ra_and, ↓Q.ra_or, ↓Q.ra_ife, ↓Q.ra_cmp, ↓Q.ra_chain, ↓Q.ra_ix, ↓Q.ra_sl, ↓Q.ra_rev, ↓Q.ra_get2, ↓Q.r_get2, ↓Q.r_needT, ↓Q.ra_isi, ↓Q.ra_bi, ↓Q.ra_call, ↓Q.ra_calle, ↓Q.ra_pop, ↓Q.ra_alloc, ↓Q.ra_comp, ↓Q.ra_comp2, ↓Q.ra_me, ↓Q.ra_lrange, ↓Q.r_dic, ↓Q.r_needM, ↓Q.r_me, ↓Q.r_lrange, me_cl, me_js, me_ss, ↓Q.r_cst, ↓Q.r_glob, ↓Q.re_nil, ↓Q.re_cons, ↓Q.rsa_nil, ↓Q.rsa_cons, ↓Q.r_tup, ↓Q.r_lst, ↓Q.r_bin, ↓Q.r_cmp, ↓Q.r_ix, ↓Q.r_neg, ↓Q.r_isi, ↓Q.r_bi, ↓Q.r_not, ↓Q.r_and, ↓Q.r_or, ↓Q.r_ife, ↓Q.r_chain, ↓Q.r_none, ↓Q.rp_cst, ↓Q.rp_glob, ↓Q.rp_bin, ↓Q.rp_neg, ↓Q.rp_ife, ↓Q.rp_ix, ↓Q.rp_bi, ↓Q.rp_call, ↓Q.rp_var, ↓Q.r_sl, ↓Q.r_call, ↓Q.r_alloc, ↓Q.r_allocM, ↓Q.r_prim1, ↓Q.r_prim2, ↓Q.r_primN, ↓Q.rd_nil, ↓Q.rd_cons, ↓Q.rd_int, ↓Q.rd_bl, ↓Q.rd_str, ↓Q.rd_non, ↓Q.rd_tup, ↓Q.rd_lst, ↓Q.rd_scr, ↓Q.rd_dic, ↓Q.rd_cls, ↓Q.rd_fn, ↓Q.rd_s, ↓Q.rd_r, ↓Q.r_chN, refP_s, ↓Q.ri_seq, ↓Q.rq_tup, ↓Q.rq_lst, ↓Q.r_var, ↓Q.ra_var, ↓Q.r_ret, ↓Q.r_frz, ↓Q.r_asBl, ↓Q.r_asInt, ↓Q.r_liftS, ↓Q.ri_range, ↓Q.ri_range2, ↓Q.ri_zip, ↓Q.ri_enum, ↓Q.r_calle, ↓Q.rc_fn, ↓Q.en_lst, ↓Q.en_tup, ↓Q.rz_tup, ↓Q.rz_lst, ↓Q.rz_tl, ↓Q.rz_lt, ↓Q.ri_zip3, ↓Q.rz_ttt, ↓Q.rz_ttl, ↓Q.rz_lll, ↓Q.rx_expr, ↓Q.rx_set, ↓Q.rx_frz, ↓Q.rx_ret, ↓Q.rx_iff, ↓Q.rx_mat, ↓then_nx, ↓then_rt, ↓then_bk, ↓then_ct, ↓Q.rx_nil, ↓Q.rx_cons, ↓Q.rx_asg, ↓Q.rt_name, ↓Q.rt_tup, ↓Q.rt_lst, ↓Q.rt_nil, ↓Q.rt_cons, ↓Q.rx_setix, ↓Q.rx_app, ↓Q.rx_ext, ↓Q.r_pop, ↓Q.r_needL, ↓lstP_l, ↓obP_s, ↓Q.r_chS, ↓Q.rr_nil, ↓Q.rr_cons, ↓rh_v, ↓rh_l, ↓Q.rx_par, ↓Q.rx_pass, ↓Q.rx_for, ↓varP_v, ↓varP_n, bin_addI, bin_subI, cmp_lt, cmp_le, cmp_gt, cmp_ge, cmp_eqI, cmp_neI, cmp_eqB, cmp_eqS, cmp_neS, blR_s, bi_lenT, bi_lenL, bi_lenS, bi_tupT, bi_tupL, bi_lstT, bi_lstL, bi_max, bi_min, bi_intB, neg_i, isi_int, isi_tup, isi_lst, isi_dic, isi_str, isi_non, isi_bl, List.getElem?_cons_zero, List.getElem?_cons_succ, List.set_cons_zero, List.set_cons_succ, Option.map_some, R.flat, R.d, Ob.flat, Ob.d, true_and, and_true, eq_self, decide_eq_true_eq, reduceIte, Bool.true_and, Bool.false_and, Bool.and_false, Bool.and_true, Bool.false_eq_true, decide_true, decide_false, Bool.not_true, Bool.not_false, List.length_map, List.length_cons, List.length_nil, reduceCtorEq, and_self, true_or, or_true, or_false, false_or, or_self, ↓Q.rx_raise, Q.r_callX e1]
    simp [q])
end
end Mi
namespace Mi
open PySem
structure Wd (k n : Nat) (d : D) : Prop where
  sh : d.show = true
  pl : d.plain = true
  dp : d.depth ≤ k
  len : (d.py.shown).length ≤ n
theorem shows_all : ∀ {ds : List D}, (∀ d ∈ ds, d.show = true) → shows ds = true
  | [], _ => rfl
  | d :: ds, h => by simp only [shows, h d (.head _), shows_all fun x hx => h x (.tail _ hx), Bool.and_self]
theorem plains_all : ∀ {ds : List D}, (∀ d ∈ ds, d.plain = true) → plains ds = true
  | [], _ => rfl
  | d :: ds, h => by simp only [plains, h d (.head _), plains_all fun x hx => h x (.tail _ hx), Bool.and_self]
theorem depths_all {k : Nat} : ∀ {ds : List D}, (∀ d ∈ ds, d.depth ≤ k) → depths ds ≤ k
  | [], _ => Nat.zero_le _
  | d :: ds, h => by
    simp only [depths]
    exact Nat.max_le.mpr ⟨h d (.head _), depths_all fun x hx => h x (.tail _ hx)⟩
theorem pys_len : ∀ {ds : List D}, (PyData.shownAll (pys ds)).length = ds.length
  | [] => rfl
  | d :: ds => by simp only [pys, PyData.shownAll, List.length_cons, pys_len]
theorem pys_mem {n : Nat} : ∀ {ds : List D}, (∀ d ∈ ds, (d.py.shown).length ≤ n) → ∀ t ∈ PyData.shownAll (pys ds), t.length ≤ n
  | [], _, t, h => by cases h
  | d :: ds, h, t, ht => by
    simp only [pys, PyData.shownAll, List.mem_cons] at ht
    rcases ht with rfl | ht
    · exact h d (.head _)
    · exact pys_mem (fun x hx => h x (.tail _ hx)) t ht
theorem join_le {n : Nat} : ∀ {ts : List Str}, (∀ t ∈ ts, t.length ≤ n) → (Str.join ", " ts).length ≤ ts.length * (n + 2)
  | [], _ => Nat.zero_le _
  | [x], h => by
    have := h x (.head _)
    show x.length ≤ _
    simp
    omega
  | x :: y :: r, h => by
    have h1 := h x (.head _)
    have h2 := join_le (ts := y :: r) fun t ht => h t (.tail _ ht)
    show (x ++ ", " ++ Str.join ", " (y :: r)).length ≤ _
    rw [strLen_append, strLen_append]
    have e2 : ((", " : String) : Str).length = 2 := rfl
    simp only [List.length_cons, Nat.add_mul, Nat.one_mul] at h2 ⊢
    omega
theorem tupText_le {n : Nat} {ts : List Str} (h : ∀ t ∈ ts, t.length ≤ n) : (tupleText ts).length ≤ ts.length * (n + 2) + 3 := by
  have h1 := join_le h
  unfold tupleText
  rw [strLen_append, strLen_append]
  have e1 : (("(" : String) : Str).length = 1 := rfl
  by_cases q : (ts.length == 1) = true
  · rw [if_pos q]
    have e2 : ((",)" : String) : Str).length = 2 := rfl
    omega
  · rw [if_neg q]
    have e2 : ((")" : String) : Str).length = 1 := rfl
    omega
theorem textFrom_le {n : Nat} : ∀ {ts : List Str} {k : Nat} {acc : Str}, (∀ t ∈ ts, t.length ≤ n) → (textFrom k acc ts).length ≤ acc.length + ts.length * (n + 2)
  | [], _, _, _ => by simp [textFrom]
  | t :: ts, k, acc, h => by
    have h1 := h t (.head _)
    have h2 := textFrom_le (ts := ts) (k := k + 1) (acc := acc ++ (if k > 0 then ", " else "" : String) ++ t) fun t ht => h t (.tail _ ht)
    unfold textFrom
    rw [strLen_append, strLen_append] at h2
    simp only [List.length_cons, Nat.add_mul, Nat.one_mul]
    by_cases q : k > 0
    · rw [if_pos q] at h2 ⊢
      have e2 : ((", " : String) : Str).length = 2 := rfl
      omega
    · rw [if_neg q] at h2 ⊢
      have e2 : (("" : String) : Str).length = 0 := rfl
      omega
theorem lstText_le {n : Nat} {ts : List Str} (h : ∀ t ∈ ts, t.length ≤ n) : (listText ts).length ≤ ts.length * (n + 2) + 2 := by
  have h1 := textFrom_le (k := 0) (acc := ("[" : Str)) h
  unfold listText
  rw [strLen_append]
  have e1 : (("[" : String) : Str).length = 1 := rfl
  have e2 : (("]" : String) : Str).length = 1 := rfl
  omega
theorem Wd.tup {k n m : Nat} {ds : List D} (h : ∀ d ∈ ds, Wd k n d) (hl : ds.length ≤ m) : Wd (k + 1) (m * (n + 2) + 3) (.tup ds) := by
  refine ⟨by simp only [D.show]; exact shows_all fun d hd => (h d hd).sh, by simp only [D.plain]; exact plains_all fun d hd => (h d hd).pl, by simp only [D.depth]; have := depths_all fun d hd => (h d hd).dp; omega, ?_⟩
  simp only [D.py, PyData.shown]
  refine Nat.le_trans (tupText_le (n := n) (pys_mem fun d hd => (h d hd).len)) ?_
  rw [pys_len]
  have := Nat.mul_le_mul_right (n + 2) hl
  omega
theorem Wd.lst {k n m : Nat} {ds : List D} (h : ∀ d ∈ ds, Wd k n d) (hl : ds.length ≤ m) : Wd (k + 1) (m * (n + 2) + 3) (.lst ds) := by
  refine ⟨by simp only [D.show]; exact shows_all fun d hd => (h d hd).sh, by simp only [D.plain]; exact plains_all fun d hd => (h d hd).pl, by simp only [D.depth]; have := depths_all fun d hd => (h d hd).dp; omega, ?_⟩
  simp only [D.py, PyData.shown]
  refine Nat.le_trans (lstText_le (n := n) (pys_mem fun d hd => (h d hd).len)) ?_
  rw [pys_len]
  have := Nat.mul_le_mul_right (n + 2) hl
  omega
theorem Wd.mono {k n k' n' : Nat} {d : D} (h : Wd k n d) (hk : k ≤ k') (hn : n ≤ n') : Wd k' n' d := ⟨h.sh, h.pl, Nat.le_trans h.dp hk, Nat.le_trans h.len hn⟩
theorem Wd.sg {x : Int} (h : sg x) : Wd 0 2 (.int x) := by
  rcases h with rfl | rfl | rfl <;> exact ⟨by decide, rfl, Nat.le_refl _, by decide +kernel⟩
theorem Wd.row {n : Nat} {r : List Int} (h : Row n r) : Wd 1 (n * 4 + 3) (rI r) := Wd.tup (fun d hd => by
  obtain ⟨x, hx, rfl⟩ := List.mem_map.mp hd
  exact Wd.sg (h.2 x hx)) (by rw [List.length_map, h.1]; exact Nat.le_refl _)
theorem Wd.repr {k n : Nat} {d : D} (h : Wd k n d) (hk : k ≤ 60) (hn : n ≤ 16777216) : biD .repr [d] = some (.val (.str d.py.shown)) := by
  have h1 : decide (d.depth ≤ 60) = true := decide_eq_true (Nat.le_trans h.dp hk)
  have h2 : decide ((d.py.shown).length ≤ line) = true := decide_eq_true (Nat.le_trans h.len hn)
  simp only [biD, h.sh, h1, h2, Bool.and_self, if_true]
def SameC (C : List D → Sto → COut) : Prop := ∀ (k n : Nat) (d d' : D) s, Wd k n d → k ≤ 60 → n ≤ 16777216 → d = d' → (∀ m, d ≠ .ref m) → C [d, d'] s = .ok (.val (.bl true)) s
def CellC (C : List D → Sto → COut) : Prop := ∀ (ns : List Int) (k : Nat) s, C [.scr ns, .int k] s = .ok (.val (.int (ns.getD k 0))) s
def PenC (C : List D → Sto → COut) : Prop := ∀ (c : Int) s, ∃ a b, C [.int c] s = .ok (.new (pen a b 0)) s ∧ 0 ≤ a ∧ 0 ≤ b ∧ b < 2147483648
section
variable {T : Tb} {d g gp gb gf ga a gs gou gso gq ie ip : Nat}
theorem c_law_same  (h : IsF T g F_law_same) : Lw T (d + 1) g SameC := Lw.of h fun j hj k n d d' s w hk hn e nr => run_eq [some (.val d), some (.val d)] rfl (by rw [← e] <;> rfl) (by
  have w2 := w.repr hk hn
  have dr : ∀ {e : Ev} {s : Sto} {P : D → Ev → Sto → Prop}, WP (deref (.v d)) e s P = P d e s := r_ok (deref_v nr)
  unfold F_law_same
  simp -dsimp only [wipe_n, wipe_c, ↓ra_nop, ↓ra_cst, ↓ra_glob, ↓ra_tup, ↓ra_lst, ↓ra_dic, ↓ra_bin, ↓ra_neg, ↓ra_not, ↓ra_and, ↓ra_or, ↓ra_ife, ↓ra_cmp, ↓ra_chain, ↓ra_ix, ↓ra_sl, ↓ra_rev, ↓ra_get2, ↓r_get2, ↓r_needT, ↓ra_isi, ↓ra_bi, ↓ra_call, ↓ra_calle, ↓ra_pop, ↓ra_alloc, ↓ra_comp, ↓ra_comp2, ↓ra_me, ↓ra_lrange, ↓r_dic, ↓r_needM, ↓r_me, ↓r_lrange, me_cl, me_js, me_ss, ↓r_cst, ↓r_glob, ↓re_nil, ↓re_cons, ↓rsa_nil, ↓rsa_cons, ↓r_tup, ↓r_lst, ↓r_bin, ↓r_cmp, ↓r_ix, ↓r_neg, ↓r_isi, ↓r_bi, ↓r_not, ↓r_and, ↓r_or, ↓r_ife, ↓r_chain, ↓r_none, ↓rp_cst, ↓rp_glob, ↓rp_bin, ↓rp_neg, ↓rp_ife, ↓rp_ix, ↓rp_bi, ↓rp_call, ↓rp_var, ↓r_sl, ↓r_call, ↓r_alloc, ↓r_allocM, ↓r_prim1, ↓r_prim2, ↓r_primN, ↓rd_nil, ↓rd_cons, ↓rd_int, ↓rd_bl, ↓rd_str, ↓rd_non, ↓rd_tup, ↓rd_lst, ↓rd_scr, ↓rd_dic, ↓rd_cls, ↓rd_fn, ↓rd_s, ↓rd_r, ↓r_chN, refP_s, ↓ri_seq, ↓rq_tup, ↓rq_lst, ↓r_var, ↓ra_var, ↓r_ret, ↓r_frz, ↓r_asBl, ↓r_asInt, ↓r_liftS, ↓ri_range, ↓ri_range2, ↓ri_zip, ↓ri_enum, ↓r_calle, ↓rc_fn, ↓en_lst, ↓en_tup, ↓rz_tup, ↓rz_lst, ↓rz_tl, ↓rz_lt, ↓ri_zip3, ↓rz_ttt, ↓rz_ttl, ↓rz_lll, ↓rx_expr, ↓rx_set, ↓rx_frz, ↓rx_ret, ↓rx_iff, ↓rx_mat, ↓then_nx, ↓then_rt, ↓then_bk, ↓then_ct, ↓rx_nil, ↓rx_cons, ↓rx_asg, ↓rt_name, ↓rt_tup, ↓rt_lst, ↓rt_nil, ↓rt_cons, ↓rx_setix, ↓rx_app, ↓rx_ext, ↓r_pop, ↓r_needL, ↓lstP_l, ↓obP_s, ↓r_chS, ↓rr_nil, ↓rr_cons, ↓rh_v, ↓rh_l, ↓rx_par, ↓rx_pass, ↓rx_for, ↓varP_v, ↓varP_n, bin_addI, bin_subI, cmp_lt, cmp_le, cmp_gt, cmp_ge, cmp_eqI, cmp_neI, cmp_eqB, cmp_eqS, cmp_neS, blR_s, bi_lenT, bi_lenL, bi_lenS, bi_tupT, bi_tupL, bi_lstT, bi_lstL, bi_max, bi_min, bi_intB, neg_i, isi_int, isi_tup, isi_lst, isi_dic, isi_str, isi_non, isi_bl, List.getElem?_cons_zero, List.getElem?_cons_succ, List.set_cons_zero, List.set_cons_succ, Option.map_some, R.flat, R.d, Ob.flat, Ob.d, true_and, and_true, eq_self, decide_eq_true_eq, reduceIte, Bool.true_and, Bool.false_and, Bool.and_false, Bool.and_true, Bool.false_eq_true, decide_true, decide_false, Bool.not_true, Bool.not_false, List.length_map, List.length_cons, List.length_nil, reduceCtorEq, and_self, true_or, or_true, or_false, false_or, or_self, dr, w2]
  simp)
theorem c_law_cell  (h : IsF T g F_law_cell) : Lw T (d + 1) g CellC := Lw.of h fun j hj ns k s => run_eq [some (.val (.scr ns)), some (.val (.int k))] rfl rfl (by
  unfold F_law_cell
  by_cases hk : (k : Int) < ns.length
  · have hk' : k < ns.length := by omega
    have e1 : ixD (.scr ns) (.int k) = some (.int (ns.getD k 0)) := by
      show (item ns (k : Int)).map D.int = _
      rw [item_nat (List.getElem?_eq_getElem hk'), List.getD_eq_getElem?_getD, List.getElem?_eq_getElem hk']
      rfl
    simp -dsimp only [wipe_n, wipe_c, ↓ra_nop, ↓ra_cst, ↓ra_glob, ↓ra_tup, ↓ra_lst, ↓ra_dic, ↓ra_bin, ↓ra_neg, ↓ra_not, ↓ra_and, ↓ra_or, ↓ra_ife, ↓ra_cmp, ↓ra_chain, ↓ra_ix, ↓ra_sl, ↓ra_rev, ↓ra_get2, ↓r_get2, ↓r_needT, ↓ra_isi, ↓ra_bi, ↓ra_call, ↓ra_calle, ↓ra_pop, ↓ra_alloc, ↓ra_comp, ↓ra_comp2, ↓ra_me, ↓ra_lrange, ↓r_dic, ↓r_needM, ↓r_me, ↓r_lrange, me_cl, me_js, me_ss, ↓r_cst, ↓r_glob, ↓re_nil, ↓re_cons, ↓rsa_nil, ↓rsa_cons, ↓r_tup, ↓r_lst, ↓r_bin, ↓r_cmp, ↓r_ix, ↓r_neg, ↓r_isi, ↓r_bi, ↓r_not, ↓r_and, ↓r_or, ↓r_ife, ↓r_chain, ↓r_none, ↓rp_cst, ↓rp_glob, ↓rp_bin, ↓rp_neg, ↓rp_ife, ↓rp_ix, ↓rp_bi, ↓rp_call, ↓rp_var, ↓r_sl, ↓r_call, ↓r_alloc, ↓r_allocM, ↓r_prim1, ↓r_prim2, ↓r_primN, ↓rd_nil, ↓rd_cons, ↓rd_int, ↓rd_bl, ↓rd_str, ↓rd_non, ↓rd_tup, ↓rd_lst, ↓rd_scr, ↓rd_dic, ↓rd_cls, ↓rd_fn, ↓rd_s, ↓rd_r, ↓r_chN, refP_s, ↓ri_seq, ↓rq_tup, ↓rq_lst, ↓r_var, ↓ra_var, ↓r_ret, ↓r_frz, ↓r_asBl, ↓r_asInt, ↓r_liftS, ↓ri_range, ↓ri_range2, ↓ri_zip, ↓ri_enum, ↓r_calle, ↓rc_fn, ↓en_lst, ↓en_tup, ↓rz_tup, ↓rz_lst, ↓rz_tl, ↓rz_lt, ↓ri_zip3, ↓rz_ttt, ↓rz_ttl, ↓rz_lll, ↓rx_expr, ↓rx_set, ↓rx_frz, ↓rx_ret, ↓rx_iff, ↓rx_mat, ↓then_nx, ↓then_rt, ↓then_bk, ↓then_ct, ↓rx_nil, ↓rx_cons, ↓rx_asg, ↓rt_name, ↓rt_tup, ↓rt_lst, ↓rt_nil, ↓rt_cons, ↓rx_setix, ↓rx_app, ↓rx_ext, ↓r_pop, ↓r_needL, ↓lstP_l, ↓obP_s, ↓r_chS, ↓rr_nil, ↓rr_cons, ↓rh_v, ↓rh_l, ↓rx_par, ↓rx_pass, ↓rx_for, ↓varP_v, ↓varP_n, bin_addI, bin_subI, cmp_lt, cmp_le, cmp_gt, cmp_ge, cmp_eqI, cmp_neI, cmp_eqB, cmp_eqS, cmp_neS, blR_s, bi_lenT, bi_lenL, bi_lenS, bi_tupT, bi_tupL, bi_lstT, bi_lstL, bi_max, bi_min, bi_intB, neg_i, isi_int, isi_tup, isi_lst, isi_dic, isi_str, isi_non, isi_bl, List.getElem?_cons_zero, List.getElem?_cons_succ, List.set_cons_zero, List.set_cons_succ, Option.map_some, R.flat, R.d, Ob.flat, Ob.d, true_and, and_true, eq_self, decide_eq_true_eq, reduceIte, Bool.true_and, Bool.false_and, Bool.and_false, Bool.and_true, Bool.false_eq_true, decide_true, decide_false, Bool.not_true, Bool.not_false, List.length_map, List.length_cons, List.length_nil, reduceCtorEq, and_self, true_or, or_true, or_false, false_or, or_self, hk, e1]
  · have e2 : ns.getD k 0 = 0 := by rw [List.getD_eq_getElem?_getD, List.getElem?_eq_none (by omega)]; rfl
    simp -dsimp only [wipe_n, wipe_c, ↓ra_nop, ↓ra_cst, ↓ra_glob, ↓ra_tup, ↓ra_lst, ↓ra_dic, ↓ra_bin, ↓ra_neg, ↓ra_not, ↓ra_and, ↓ra_or, ↓ra_ife, ↓ra_cmp, ↓ra_chain, ↓ra_ix, ↓ra_sl, ↓ra_rev, ↓ra_get2, ↓r_get2, ↓r_needT, ↓ra_isi, ↓ra_bi, ↓ra_call, ↓ra_calle, ↓ra_pop, ↓ra_alloc, ↓ra_comp, ↓ra_comp2, ↓ra_me, ↓ra_lrange, ↓r_dic, ↓r_needM, ↓r_me, ↓r_lrange, me_cl, me_js, me_ss, ↓r_cst, ↓r_glob, ↓re_nil, ↓re_cons, ↓rsa_nil, ↓rsa_cons, ↓r_tup, ↓r_lst, ↓r_bin, ↓r_cmp, ↓r_ix, ↓r_neg, ↓r_isi, ↓r_bi, ↓r_not, ↓r_and, ↓r_or, ↓r_ife, ↓r_chain, ↓r_none, ↓rp_cst, ↓rp_glob, ↓rp_bin, ↓rp_neg, ↓rp_ife, ↓rp_ix, ↓rp_bi, ↓rp_call, ↓rp_var, ↓r_sl, ↓r_call, ↓r_alloc, ↓r_allocM, ↓r_prim1, ↓r_prim2, ↓r_primN, ↓rd_nil, ↓rd_cons, ↓rd_int, ↓rd_bl, ↓rd_str, ↓rd_non, ↓rd_tup, ↓rd_lst, ↓rd_scr, ↓rd_dic, ↓rd_cls, ↓rd_fn, ↓rd_s, ↓rd_r, ↓r_chN, refP_s, ↓ri_seq, ↓rq_tup, ↓rq_lst, ↓r_var, ↓ra_var, ↓r_ret, ↓r_frz, ↓r_asBl, ↓r_asInt, ↓r_liftS, ↓ri_range, ↓ri_range2, ↓ri_zip, ↓ri_enum, ↓r_calle, ↓rc_fn, ↓en_lst, ↓en_tup, ↓rz_tup, ↓rz_lst, ↓rz_tl, ↓rz_lt, ↓ri_zip3, ↓rz_ttt, ↓rz_ttl, ↓rz_lll, ↓rx_expr, ↓rx_set, ↓rx_frz, ↓rx_ret, ↓rx_iff, ↓rx_mat, ↓then_nx, ↓then_rt, ↓then_bk, ↓then_ct, ↓rx_nil, ↓rx_cons, ↓rx_asg, ↓rt_name, ↓rt_tup, ↓rt_lst, ↓rt_nil, ↓rt_cons, ↓rx_setix, ↓rx_app, ↓rx_ext, ↓r_pop, ↓r_needL, ↓lstP_l, ↓obP_s, ↓r_chS, ↓rr_nil, ↓rr_cons, ↓rh_v, ↓rh_l, ↓rx_par, ↓rx_pass, ↓rx_for, ↓varP_v, ↓varP_n, bin_addI, bin_subI, cmp_lt, cmp_le, cmp_gt, cmp_ge, cmp_eqI, cmp_neI, cmp_eqB, cmp_eqS, cmp_neS, blR_s, bi_lenT, bi_lenL, bi_lenS, bi_tupT, bi_tupL, bi_lstT, bi_lstL, bi_max, bi_min, bi_intB, neg_i, isi_int, isi_tup, isi_lst, isi_dic, isi_str, isi_non, isi_bl, List.getElem?_cons_zero, List.getElem?_cons_succ, List.set_cons_zero, List.set_cons_succ, Option.map_some, R.flat, R.d, Ob.flat, Ob.d, true_and, and_true, eq_self, decide_eq_true_eq, reduceIte, Bool.true_and, Bool.false_and, Bool.and_false, Bool.and_true, Bool.false_eq_true, decide_true, decide_false, Bool.not_true, Bool.not_false, List.length_map, List.length_cons, List.length_nil, reduceCtorEq, and_self, true_or, or_true, or_false, false_or, or_self, hk, e2])
theorem pow_1018 : binD .Pow (.int 10) (.int 18) = some (.val (.int 1000000000000000000)) := rfl
theorem c_law_pen  (h : IsF T g F_law_pen) : Lw T (d + 1) g PenC := Lw.of h fun j hj c s => by
  obtain ⟨u1, u2⟩ := fmod_lt (a := c) (m := 2147483629) (by omega)
  refine ⟨if c - 1000000000000000000 > 0 then c - 1000000000000000000 else 0, c.fmod 2147483629 + 1, run_eq [some (.val (.int c))] rfl rfl ?_, by split <;> omega, by omega, by omega⟩
  unfold F_law_pen
  simp -dsimp only [wipe_n, wipe_c, ↓ra_nop, ↓ra_cst, ↓ra_glob, ↓ra_tup, ↓ra_lst, ↓ra_dic, ↓ra_bin, ↓ra_neg, ↓ra_not, ↓ra_and, ↓ra_or, ↓ra_ife, ↓ra_cmp, ↓ra_chain, ↓ra_ix, ↓ra_sl, ↓ra_rev, ↓ra_get2, ↓r_get2, ↓r_needT, ↓ra_isi, ↓ra_bi, ↓ra_call, ↓ra_calle, ↓ra_pop, ↓ra_alloc, ↓ra_comp, ↓ra_comp2, ↓ra_me, ↓ra_lrange, ↓r_dic, ↓r_needM, ↓r_me, ↓r_lrange, me_cl, me_js, me_ss, ↓r_cst, ↓r_glob, ↓re_nil, ↓re_cons, ↓rsa_nil, ↓rsa_cons, ↓r_tup, ↓r_lst, ↓r_bin, ↓r_cmp, ↓r_ix, ↓r_neg, ↓r_isi, ↓r_bi, ↓r_not, ↓r_and, ↓r_or, ↓r_ife, ↓r_chain, ↓r_none, ↓rp_cst, ↓rp_glob, ↓rp_bin, ↓rp_neg, ↓rp_ife, ↓rp_ix, ↓rp_bi, ↓rp_call, ↓rp_var, ↓r_sl, ↓r_call, ↓r_alloc, ↓r_allocM, ↓r_prim1, ↓r_prim2, ↓r_primN, ↓rd_nil, ↓rd_cons, ↓rd_int, ↓rd_bl, ↓rd_str, ↓rd_non, ↓rd_tup, ↓rd_lst, ↓rd_scr, ↓rd_dic, ↓rd_cls, ↓rd_fn, ↓rd_s, ↓rd_r, ↓r_chN, refP_s, ↓ri_seq, ↓rq_tup, ↓rq_lst, ↓r_var, ↓ra_var, ↓r_ret, ↓r_frz, ↓r_asBl, ↓r_asInt, ↓r_liftS, ↓ri_range, ↓ri_range2, ↓ri_zip, ↓ri_enum, ↓r_calle, ↓rc_fn, ↓en_lst, ↓en_tup, ↓rz_tup, ↓rz_lst, ↓rz_tl, ↓rz_lt, ↓ri_zip3, ↓rz_ttt, ↓rz_ttl, ↓rz_lll, ↓rx_expr, ↓rx_set, ↓rx_frz, ↓rx_ret, ↓rx_iff, ↓rx_mat, ↓then_nx, ↓then_rt, ↓then_bk, ↓then_ct, ↓rx_nil, ↓rx_cons, ↓rx_asg, ↓rt_name, ↓rt_tup, ↓rt_lst, ↓rt_nil, ↓rt_cons, ↓rx_setix, ↓rx_app, ↓rx_ext, ↓r_pop, ↓r_needL, ↓lstP_l, ↓obP_s, ↓r_chS, ↓rr_nil, ↓rr_cons, ↓rh_v, ↓rh_l, ↓rx_par, ↓rx_pass, ↓rx_for, ↓varP_v, ↓varP_n, bin_addI, bin_subI, cmp_lt, cmp_le, cmp_gt, cmp_ge, cmp_eqI, cmp_neI, cmp_eqB, cmp_eqS, cmp_neS, blR_s, bi_lenT, bi_lenL, bi_lenS, bi_tupT, bi_tupL, bi_lstT, bi_lstL, bi_max, bi_min, bi_intB, neg_i, isi_int, isi_tup, isi_lst, isi_dic, isi_str, isi_non, isi_bl, List.getElem?_cons_zero, List.getElem?_cons_succ, List.set_cons_zero, List.set_cons_succ, Option.map_some, R.flat, R.d, Ob.flat, Ob.d, true_and, and_true, eq_self, decide_eq_true_eq, reduceIte, Bool.true_and, Bool.false_and, Bool.and_false, Bool.and_true, Bool.false_eq_true, decide_true, decide_false, Bool.not_true, Bool.not_false, List.length_map, List.length_cons, List.length_nil, reduceCtorEq, and_self, true_or, or_true, or_false, false_or, or_self, pow_1018, bin_modI (j := 2147483629) (by decide), pen]
  decide
end
theorem Wd.tab {n : Nat} {t : List (List Int)} (h : Tab n t) (hn : n ≤ 5) : Wd 2 128 (tI t) := Wd.tup (m := 5) (n := 23) (fun d hd => by
  obtain ⟨x, hx, rfl⟩ := List.mem_map.mp hd
  exact (Wd.row (h.2 x hx)).mono (Nat.le_refl _) (by omega)) (by rw [List.length_map, h.1]; exact hn)
theorem pen_new {s : Sto} {a b : Int} (ha : 0 ≤ a) (hb : 0 ≤ b) (hb2 : b < 2147483648) : PenAt (s ++ [pen a b 0]) s.length := ⟨a, b, 0, by simp, ha, hb, hb2⟩
def NeedMixC (ie ip im : Nat) (C : List D → Sto → COut) : Prop := ∀ t p x s, t.vl = true → p.vl = true → x.vl = true → C [t, p, x] s = if tabD t = true then (if sgsD (tlen t) p = true then (if sgsD (tlen t) x = true then .ok (.val .non) s else .exc im s) else .exc ip s) else .exc ie s
theorem NeedMixC.ok {ie ip im : Nat} {C : List D → Sto → COut} (h : NeedMixC ie ip im C) {n : Nat} {t : List (List Int)} {p x : List Int} (s : Sto) (ht : Tab n t) (hp : Row n p) (hx : Row n x) (h1 : 1 ≤ n) (h5 : n ≤ 5) : C [tI t, rI p, rI x] s = .ok (.val .non) s := by
  have e : tlen (tI t) = (n : Int) := by simp [tlen, tI, ht.1]
  rw [h _ _ _ s (ht.vl (by omega)) (hp.vl (by omega)) (hx.vl (by omega)), if_pos (ht.is h1 h5), e, if_pos hp.is, if_pos hx.is]
end Mi
namespace Mi
open PySem
def LawC (C : List D → Sto → COut) : Prop := ∀ ns : List Int, ns.length ≤ 63 → ∃ st, C [.scr ns] [] = .ok (.val (.bl true)) st
def lawBody (x_pen x_cell P : Nat) (rest : List S) : List S := [.for (.name 1) (.range (.bi .max [.cst (.int 1), .bi .min [.bi .len [.var 0], .cst (.int 3)]])) (.set P (.alloc (.call x_pen [.call x_cell [.var 0, .var 1]])) :: rest), .ret (.cst (.bl true))]
theorem law_skel {O : Orc} {F : Fn} {x_pen x_cell P : Nat} {rest : List S} (hb : F.body = lawBody x_pen x_cell P rest) (hp : F.np = 1) (hn : 2 ≤ F.nl) (ce : CellC (O.call x_cell)) (pn : PenC (O.call x_pen)) (I : List Int → Ev → Prop)
    (h0 : ∀ ns, I ns (some (.val (.scr ns)) :: List.replicate (F.nl - 1) none)) (h1 : ∀ ns e, I ns e → e[0]? = some (some (.val (.scr ns))) ∧ e.length = F.nl)
    (h2 : ∀ ns e s (i : Int) n, I ns e → PenAt s n → WP (execs O rest) ((e.set 1 (some (.val (.int i)))).set P (some (.val (.ref n)))) s fun fl e' s' => fl = .nx ∧ I ns e') : LawC (F.run O) := fun ns hns => by
  have z : ∃ r s', F.run O [.scr ns] [] = .ok r s' ∧ r = .val (.bl true) := by
    refine run_ex (some (.val (.scr ns)) :: List.replicate (F.nl - 1) none) (by rw [hp]; rfl) (by rw [hp]; rfl) ?_
    rw [hb]
    unfold lawBody
    simp -dsimp only [wipe_n, wipe_c, ↓ra_nop, ↓ra_cst, ↓ra_glob, ↓ra_tup, ↓ra_lst, ↓ra_dic, ↓ra_bin, ↓ra_neg, ↓ra_not, ↓ra_and, ↓ra_or, ↓ra_ife, ↓ra_cmp, ↓ra_chain, ↓ra_ix, ↓ra_sl, ↓ra_rev, ↓ra_get2, ↓r_get2, ↓r_needT, ↓ra_isi, ↓ra_bi, ↓ra_call, ↓ra_calle, ↓ra_pop, ↓ra_alloc, ↓ra_comp, ↓ra_comp2, ↓ra_me, ↓ra_lrange, ↓r_dic, ↓r_needM, ↓r_me, ↓r_lrange, me_cl, me_js, me_ss, ↓r_cst, ↓r_glob, ↓re_nil, ↓re_cons, ↓rsa_nil, ↓rsa_cons, ↓r_tup, ↓r_lst, ↓r_bin, ↓r_cmp, ↓r_ix, ↓r_neg, ↓r_isi, ↓r_bi, ↓r_not, ↓r_and, ↓r_or, ↓r_ife, ↓r_chain, ↓r_none, ↓rp_cst, ↓rp_glob, ↓rp_bin, ↓rp_neg, ↓rp_ife, ↓rp_ix, ↓rp_bi, ↓rp_call, ↓rp_var, ↓r_sl, ↓r_call, ↓r_alloc, ↓r_allocM, ↓r_prim1, ↓r_prim2, ↓r_primN, ↓rd_nil, ↓rd_cons, ↓rd_int, ↓rd_bl, ↓rd_str, ↓rd_non, ↓rd_tup, ↓rd_lst, ↓rd_scr, ↓rd_dic, ↓rd_cls, ↓rd_fn, ↓rd_s, ↓rd_r, ↓r_chN, refP_s, ↓ri_seq, ↓rq_tup, ↓rq_lst, ↓r_var, ↓ra_var, ↓r_ret, ↓r_frz, ↓r_asBl, ↓r_asInt, ↓r_liftS, ↓ri_range, ↓ri_range2, ↓ri_zip, ↓ri_enum, ↓r_calle, ↓rc_fn, ↓en_lst, ↓en_tup, ↓rz_tup, ↓rz_lst, ↓rz_tl, ↓rz_lt, ↓ri_zip3, ↓rz_ttt, ↓rz_ttl, ↓rz_lll, ↓rx_expr, ↓rx_set, ↓rx_frz, ↓rx_ret, ↓rx_iff, ↓rx_mat, ↓then_nx, ↓then_rt, ↓then_bk, ↓then_ct, ↓rx_nil, ↓rx_cons, ↓rx_asg, ↓rt_name, ↓rt_tup, ↓rt_lst, ↓rt_nil, ↓rt_cons, ↓rx_setix, ↓rx_app, ↓rx_ext, ↓r_pop, ↓r_needL, ↓lstP_l, ↓obP_s, ↓r_chS, ↓rr_nil, ↓rr_cons, ↓rh_v, ↓rh_l, ↓rx_par, ↓rx_pass, ↓rx_for, ↓varP_v, ↓varP_n, bin_addI, bin_subI, cmp_lt, cmp_le, cmp_gt, cmp_ge, cmp_eqI, cmp_neI, cmp_eqB, cmp_eqS, cmp_neS, blR_s, bi_lenT, bi_lenL, bi_lenS, bi_tupT, bi_tupL, bi_lstT, bi_lstL, bi_max, bi_min, bi_intB, neg_i, isi_int, isi_tup, isi_lst, isi_dic, isi_str, isi_non, isi_bl, List.getElem?_cons_zero, List.getElem?_cons_succ, List.set_cons_zero, List.set_cons_succ, Option.map_some, R.flat, R.d, Ob.flat, Ob.d, true_and, and_true, eq_self, decide_eq_true_eq, reduceIte, Bool.true_and, Bool.false_and, Bool.and_false, Bool.and_true, Bool.false_eq_true, decide_true, decide_false, Bool.not_true, Bool.not_false, List.length_map, List.length_cons, List.length_nil, reduceCtorEq, and_self, true_or, or_true, or_false, false_or, or_self]
    refine ⟨by split <;> split <;> omega, ?_⟩
    refine wp_forL (fun i e s => I ns e) (h0 ns) ?_ ?_
    · rintro i x e1 s hx hI
      simp only [List.getElem?_map, Option.map_eq_some_iff] at hx
      obtain ⟨i', _, rfl⟩ := hx
      obtain ⟨q1, q2⟩ := h1 ns e1 hI
      have e1' := ce ns i' s
      obtain ⟨u, v, e2, hu, hv, hv2⟩ := pn (ns.getD i' 0) s
      have p0 : PenAt (s ++ [pen u v 0]) s.length := pen_new hu hv hv2
      have g0 : (e1.set 1 (some (.val (.int (i' : Int)))))[0]? = some (some (.val (.scr ns))) := by rw [List.getElem?_set_ne (by decide)]; exact q1
      have g1 : (e1.set 1 (some (.val (.int (i' : Int)))))[1]? = some (some (.val (.int (i' : Int)))) := List.getElem?_set_self (by omega)
      simp -dsimp only [wipe_n, wipe_c, ↓ra_nop, ↓ra_cst, ↓ra_glob, ↓ra_tup, ↓ra_lst, ↓ra_dic, ↓ra_bin, ↓ra_neg, ↓ra_not, ↓ra_and, ↓ra_or, ↓ra_ife, ↓ra_cmp, ↓ra_chain, ↓ra_ix, ↓ra_sl, ↓ra_rev, ↓ra_get2, ↓r_get2, ↓r_needT, ↓ra_isi, ↓ra_bi, ↓ra_call, ↓ra_calle, ↓ra_pop, ↓ra_alloc, ↓ra_comp, ↓ra_comp2, ↓ra_me, ↓ra_lrange, ↓r_dic, ↓r_needM, ↓r_me, ↓r_lrange, me_cl, me_js, me_ss, ↓r_cst, ↓r_glob, ↓re_nil, ↓re_cons, ↓rsa_nil, ↓rsa_cons, ↓r_tup, ↓r_lst, ↓r_bin, ↓r_cmp, ↓r_ix, ↓r_neg, ↓r_isi, ↓r_bi, ↓r_not, ↓r_and, ↓r_or, ↓r_ife, ↓r_chain, ↓r_none, ↓rp_cst, ↓rp_glob, ↓rp_bin, ↓rp_neg, ↓rp_ife, ↓rp_ix, ↓rp_bi, ↓rp_call, ↓rp_var, ↓r_sl, ↓r_call, ↓r_alloc, ↓r_allocM, ↓r_prim1, ↓r_prim2, ↓r_primN, ↓rd_nil, ↓rd_cons, ↓rd_int, ↓rd_bl, ↓rd_str, ↓rd_non, ↓rd_tup, ↓rd_lst, ↓rd_scr, ↓rd_dic, ↓rd_cls, ↓rd_fn, ↓rd_s, ↓rd_r, ↓r_chN, refP_s, ↓ri_seq, ↓rq_tup, ↓rq_lst, ↓r_var, ↓ra_var, ↓r_ret, ↓r_frz, ↓r_asBl, ↓r_asInt, ↓r_liftS, ↓ri_range, ↓ri_range2, ↓ri_zip, ↓ri_enum, ↓r_calle, ↓rc_fn, ↓en_lst, ↓en_tup, ↓rz_tup, ↓rz_lst, ↓rz_tl, ↓rz_lt, ↓ri_zip3, ↓rz_ttt, ↓rz_ttl, ↓rz_lll, ↓rx_expr, ↓rx_set, ↓rx_frz, ↓rx_ret, ↓rx_iff, ↓rx_mat, ↓then_nx, ↓then_rt, ↓then_bk, ↓then_ct, ↓rx_nil, ↓rx_cons, ↓rx_asg, ↓rt_name, ↓rt_tup, ↓rt_lst, ↓rt_nil, ↓rt_cons, ↓rx_setix, ↓rx_app, ↓rx_ext, ↓r_pop, ↓r_needL, ↓lstP_l, ↓obP_s, ↓r_chS, ↓rr_nil, ↓rr_cons, ↓rh_v, ↓rh_l, ↓rx_par, ↓rx_pass, ↓rx_for, ↓varP_v, ↓varP_n, bin_addI, bin_subI, cmp_lt, cmp_le, cmp_gt, cmp_ge, cmp_eqI, cmp_neI, cmp_eqB, cmp_eqS, cmp_neS, blR_s, bi_lenT, bi_lenL, bi_lenS, bi_tupT, bi_tupL, bi_lstT, bi_lstL, bi_max, bi_min, bi_intB, neg_i, isi_int, isi_tup, isi_lst, isi_dic, isi_str, isi_non, isi_bl, List.getElem?_cons_zero, List.getElem?_cons_succ, List.set_cons_zero, List.set_cons_succ, Option.map_some, R.flat, R.d, Ob.flat, Ob.d, true_and, and_true, eq_self, decide_eq_true_eq, reduceIte, Bool.true_and, Bool.false_and, Bool.and_false, Bool.and_true, Bool.false_eq_true, decide_true, decide_false, Bool.not_true, Bool.not_false, List.length_map, List.length_cons, List.length_nil, reduceCtorEq, and_self, true_or, or_true, or_false, false_or, or_self, r_bnd, g0, g1, r_callM e1', r_callM e2, ↓r_allocM]
      exact (h2 ns e1 _ i' _ hI p0).mono fun fl e s' ⟨k1, k2⟩ => by subst k1; exact k2
    · rintro e1 s hI
      simp -dsimp only [wipe_n, wipe_c, ↓ra_nop, ↓ra_cst, ↓ra_glob, ↓ra_tup, ↓ra_lst, ↓ra_dic, ↓ra_bin, ↓ra_neg, ↓ra_not, ↓ra_and, ↓ra_or, ↓ra_ife, ↓ra_cmp, ↓ra_chain, ↓ra_ix, ↓ra_sl, ↓ra_rev, ↓ra_get2, ↓r_get2, ↓r_needT, ↓ra_isi, ↓ra_bi, ↓ra_call, ↓ra_calle, ↓ra_pop, ↓ra_alloc, ↓ra_comp, ↓ra_comp2, ↓ra_me, ↓ra_lrange, ↓r_dic, ↓r_needM, ↓r_me, ↓r_lrange, me_cl, me_js, me_ss, ↓r_cst, ↓r_glob, ↓re_nil, ↓re_cons, ↓rsa_nil, ↓rsa_cons, ↓r_tup, ↓r_lst, ↓r_bin, ↓r_cmp, ↓r_ix, ↓r_neg, ↓r_isi, ↓r_bi, ↓r_not, ↓r_and, ↓r_or, ↓r_ife, ↓r_chain, ↓r_none, ↓rp_cst, ↓rp_glob, ↓rp_bin, ↓rp_neg, ↓rp_ife, ↓rp_ix, ↓rp_bi, ↓rp_call, ↓rp_var, ↓r_sl, ↓r_call, ↓r_alloc, ↓r_allocM, ↓r_prim1, ↓r_prim2, ↓r_primN, ↓rd_nil, ↓rd_cons, ↓rd_int, ↓rd_bl, ↓rd_str, ↓rd_non, ↓rd_tup, ↓rd_lst, ↓rd_scr, ↓rd_dic, ↓rd_cls, ↓rd_fn, ↓rd_s, ↓rd_r, ↓r_chN, refP_s, ↓ri_seq, ↓rq_tup, ↓rq_lst, ↓r_var, ↓ra_var, ↓r_ret, ↓r_frz, ↓r_asBl, ↓r_asInt, ↓r_liftS, ↓ri_range, ↓ri_range2, ↓ri_zip, ↓ri_enum, ↓r_calle, ↓rc_fn, ↓en_lst, ↓en_tup, ↓rz_tup, ↓rz_lst, ↓rz_tl, ↓rz_lt, ↓ri_zip3, ↓rz_ttt, ↓rz_ttl, ↓rz_lll, ↓rx_expr, ↓rx_set, ↓rx_frz, ↓rx_ret, ↓rx_iff, ↓rx_mat, ↓then_nx, ↓then_rt, ↓then_bk, ↓then_ct, ↓rx_nil, ↓rx_cons, ↓rx_asg, ↓rt_name, ↓rt_tup, ↓rt_lst, ↓rt_nil, ↓rt_cons, ↓rx_setix, ↓rx_app, ↓rx_ext, ↓r_pop, ↓r_needL, ↓lstP_l, ↓obP_s, ↓r_chS, ↓rr_nil, ↓rr_cons, ↓rh_v, ↓rh_l, ↓rx_par, ↓rx_pass, ↓rx_for, ↓varP_v, ↓varP_n, bin_addI, bin_subI, cmp_lt, cmp_le, cmp_gt, cmp_ge, cmp_eqI, cmp_neI, cmp_eqB, cmp_eqS, cmp_neS, blR_s, bi_lenT, bi_lenL, bi_lenS, bi_tupT, bi_tupL, bi_lstT, bi_lstL, bi_max, bi_min, bi_intB, neg_i, isi_int, isi_tup, isi_lst, isi_dic, isi_str, isi_non, isi_bl, List.getElem?_cons_zero, List.getElem?_cons_succ, List.set_cons_zero, List.set_cons_succ, Option.map_some, R.flat, R.d, Ob.flat, Ob.d, true_and, and_true, eq_self, decide_eq_true_eq, reduceIte, Bool.true_and, Bool.false_and, Bool.and_false, Bool.and_true, Bool.false_eq_true, decide_true, decide_false, Bool.not_true, Bool.not_false, List.length_map, List.length_cons, List.length_nil, reduceCtorEq, and_self, true_or, or_true, or_false, false_or, or_self]
      exact ⟨_, rfl, rfl⟩
  obtain ⟨r, s', h3, rfl⟩ := z
  exact ⟨s', h3⟩
theorem wp_forM {O : Orc} {e : Ev} {s : Sto} {pf : Flow → Ev → Sto → Prop} {γ : Type} {l : List γ} {fd : γ → D} {f : D → M Flow} (J : List γ → Ev → Sto → Prop) (h0 : J [] e s)
    (step : ∀ pre x post e1 s1, l = pre ++ x :: post → J pre e1 s1 → WP (f (fd x)) e1 s1 fun fl e2 s2 => match fl with | .nx => J (pre ++ [x]) e2 s2 | .ct => J (pre ++ [x]) e2 s2 | .bk => pf .nx e2 s2 | .rt r => pf (.rt r) e2 s2)
    (fin : ∀ e1 s1, J l e1 s1 → pf .nx e1 s1) : WP (forL f (l.map fd)) e s pf := by
  refine wp_forL (fun i e s => J (l.take i) e s) h0 (fun i x e1 s1 hx hJ => ?_) (fun e1 s1 hJ => fin e1 s1 (by rw [List.length_map, List.take_length] at hJ; exact hJ))
  rw [List.getElem?_map, Option.map_eq_some_iff] at hx
  obtain ⟨c, hc, rfl⟩ := hx
  obtain ⟨hi, hc'⟩ := List.getElem?_eq_some_iff.mp hc
  have e2 : l.take (i + 1) = l.take i ++ [c] := by rw [List.take_succ, hc]; rfl
  have e3 : l = l.take i ++ c :: l.drop (i + 1) := by rw [← hc', ← List.drop_eq_getElem_cons hi, List.take_append_drop]
  rw [e2]
  exact step _ c _ e1 s1 e3 hJ
end Mi
namespace Mi
open PySem
def robj (r : List Int) : Ob := .lst (r.map .int)
def CirI (n : Nat) (s : Sto) (k : Nat) (s2 : Sto) : Prop := PenAt s2 n ∧ n < s.length ∧ ∃ o rows t, s2 = s.set n o ++ (rows.map robj ++ t) ∧ Tab k rows
theorem CirI.pn {n k : Nat} {s s2 : Sto} (h : CirI n s k s2) : Pn n s s2 := by
  obtain ⟨h1, h2, o, rows, t, h3, h4⟩ := h
  exact ⟨h1, h2, o, _, h3⟩
theorem CirI.draw {n k : Nat} {s s2 s3 : Sto} (h : CirI n s k s2) (p : Pn n s2 s3) : CirI n s k s3 := by
  obtain ⟨h1, h2, o, rows, t, rfl, h4⟩ := h
  obtain ⟨p1, p2, o', t', rfl⟩ := p
  refine ⟨p1, h2, o', rows, t ++ t', ?_, h4⟩
  rw [List.set_append_left _ _ (by simpa using h2), List.set_set]
  simp [List.append_assoc]
theorem CirI.get {n k : Nat} {s s2 : Sto} (h : CirI n s k s2) {i : Nat} (hi : i < k) : ∃ r, Row k r ∧ s2[s.length + i]? = some (robj r) := by
  obtain ⟨h1, h2, o, rows, t, rfl, h4⟩ := h
  have hl : i < rows.length := by rw [h4.1]; exact hi
  refine ⟨rows[i], h4.2 _ (List.getElem_mem hl), ?_⟩
  rw [List.getElem?_append_right (by simp), List.length_set, Nat.add_sub_cancel_left, List.getElem?_append_left (by simpa using hl), List.getElem?_map, List.getElem?_eq_getElem hl]
  rfl
theorem CirI.put {n k : Nat} {s s2 : Sto} (h : CirI n s k s2) {i : Nat} (hi : i < k) {r : List Int} (hr : Row k r) : CirI n s k (s2.set (s.length + i) (robj r)) := by
  obtain ⟨⟨a, b, c, q1, q2⟩, h2, o, rows, t, rfl, h4⟩ := h
  have hl : i < rows.length := by rw [h4.1]; exact hi
  refine ⟨⟨a, b, c, ?_, q2⟩, h2, o, rows.set i r, t, ?_, by rw [List.length_set]; exact h4.1, fun x hx => ?_⟩
  · rw [List.getElem?_set_ne (by omega)]; exact q1
  · rw [List.set_append_right _ _ (by simp), List.length_set, Nat.add_sub_cancel_left, List.set_append_left _ _ (by simpa using hl), List.map_set]
  · rcases List.mem_or_eq_of_mem_set hx with q | q
    · exact h4.2 x q
    · rw [q]; exact hr
theorem CirI.all {n k : Nat} {s s2 : Sto} (h : CirI n s k s2) : ∃ rows, Tab k rows ∧ ∀ (i : Nat) (hi : i < rows.length), s2[s.length + i]? = some (robj rows[i]) := by
  obtain ⟨h1, h2, o, rows, t, rfl, h4⟩ := h
  refine ⟨rows, h4, fun i hl => ?_⟩
  rw [List.getElem?_append_right (by simp), List.length_set, Nat.add_sub_cancel_left, List.getElem?_append_left (by simpa using hl), List.getElem?_map, List.getElem?_eq_getElem hl]
  rfl
theorem Row.set {k i : Nat} {r : List Int} {x : Int} (h : Row k r) (hx : sg x) : Row k (r.set i x) := ⟨by rw [List.length_set]; exact h.1, fun y hy => by
  rcases List.mem_or_eq_of_mem_set hy with q | q
  · exact h.2 y q
  · rw [q]; exact hx⟩
theorem Row.zeros {k : Nat} : Row k (List.replicate k 0) := ⟨by simp, fun x hx => by rw [(List.mem_replicate.mp hx).2]; exact .inr (.inl rfl)⟩
theorem set_row {k i : Nat} {r : List Int} {x : Int} (h : Row k r) (hi : i < k) : setO (i : Int) (.int x) (robj r) = some (robj (r.set i x), .val .non) := by
  have hp : place (r.map D.int).length (i : Int) = some i := by
    have h1 : (i : Int) < (r.map D.int).length := by rw [List.length_map, h.1]; omega
    simp only [place, h1, if_true, Int.toNat_natCast]
    simp
  simp only [setO, robj, hp, List.map_set]
theorem plains_rows : ∀ {l : List (List Int)}, plains (l.map rI) = true
  | [] => rfl
  | a :: l => by simp only [List.map_cons, plains, rI, D.plain, plains_int, plains_rows, Bool.and_self]
theorem depths_rows : ∀ {l : List (List Int)}, depths (l.map rI) ≤ 1
  | [] => by simp [depths]
  | a :: l => by
    have := depths_rows (l := l)
    simp only [List.map_cons, depths, rI, D.depth, depths_int]
    omega
theorem cmp_rows {l : List (List Int)} : (D.lst (l.map rI)).cmp = true := by
  have h := depths_rows (l := l)
  simp only [D.cmp, D.plain, plains_rows, D.depth, Bool.true_and]
  exact decide_eq_true (by omega)
theorem eqvs_nil {l : List D} : eqvs l [] = l.isEmpty := by cases l <;> simp [eqvs]
theorem ne_nil {l : List D} (h : (D.lst l).cmp = true) : cmpD .NotEq (.lst l) (.lst []) = some (!l.isEmpty) := by
  have h2 : (D.lst []).cmp = true := rfl
  simp only [cmpD, h, h2, Bool.and_self, if_true, eqv, eqvs_nil]
theorem pop_at {l : List D} {m : Nat} {x : D} (hl : l.length ≤ line) (h : l[m]? = some x) : popO (m : Int) (.lst l) = some (.lst (l.eraseIdx m), .val x) := by
  obtain ⟨h1, h2⟩ := List.getElem?_eq_some_iff.mp h
  have hp : place l.length (m : Int) = some m := by
    have q : (m : Int) < l.length := by omega
    simp only [place, q, if_true, Int.toNat_natCast]
    simp
  simp only [popO, hl, if_true, hp, h]
theorem erase_map {α β : Type} {f : α → β} : ∀ {l : List α} {i : Nat}, (l.map f).eraseIdx i = (l.eraseIdx i).map f
  | [], _ => rfl
  | _ :: _, 0 => rfl
  | a :: l, i + 1 => by simp only [List.map_cons, List.eraseIdx_cons_succ, erase_map (l := l)]
theorem app_l {l : List D} {d : D} (h : l.length < line) : appO d (.lst l) = some (.lst (l ++ [d]), .val .non) := by simp only [appO, h, if_true]
section
variable {T : Tb} {d g gp gb gf ga gi gc gg gd gm a gs gou gso gq ie ip : Nat}
theorem c_law_circle (hd : Lw T d gd DrawC) (h : IsF T g (F_law_circle gd)) : Lw T (d + 1) g TabC := Lw.of h fun j hj s n k hp hk1 hk => by
  have dr := hd.at hj
  have z : ∃ r s', (F_law_circle gd).run (orc T j) [.ref n, .int k] s = .ok r s' ∧ ∃ t, r = .val (tI t) ∧ Tab k t ∧ Pn n s s' := by
    refine run_ex [some (.val (.ref n)), some (.val (.int k)), none, none, none, none] rfl rfl ?_
    have hn : n < s.length := by obtain ⟨_, _, _, q, _⟩ := hp; exact (List.getElem?_eq_some_iff.mp q).1
    unfold F_law_circle
    refine ws_cons (wx_set ?_)
    refine wv_comp ?_
    simp -dsimp only [wipe_n, wipe_c, ↓ra_nop, ↓ra_cst, ↓ra_glob, ↓ra_tup, ↓ra_lst, ↓ra_dic, ↓ra_bin, ↓ra_neg, ↓ra_not, ↓ra_and, ↓ra_or, ↓ra_ife, ↓ra_cmp, ↓ra_chain, ↓ra_ix, ↓ra_sl, ↓ra_rev, ↓ra_get2, ↓r_get2, ↓r_needT, ↓ra_isi, ↓ra_bi, ↓ra_call, ↓ra_calle, ↓ra_pop, ↓ra_alloc, ↓ra_comp, ↓ra_comp2, ↓ra_me, ↓ra_lrange, ↓r_dic, ↓r_needM, ↓r_me, ↓r_lrange, me_cl, me_js, me_ss, ↓r_cst, ↓r_glob, ↓re_nil, ↓re_cons, ↓rsa_nil, ↓rsa_cons, ↓r_tup, ↓r_lst, ↓r_bin, ↓r_cmp, ↓r_ix, ↓r_neg, ↓r_isi, ↓r_bi, ↓r_not, ↓r_and, ↓r_or, ↓r_ife, ↓r_chain, ↓r_none, ↓rp_cst, ↓rp_glob, ↓rp_bin, ↓rp_neg, ↓rp_ife, ↓rp_ix, ↓rp_bi, ↓rp_call, ↓rp_var, ↓r_sl, ↓r_call, ↓r_alloc, ↓r_allocM, ↓r_prim1, ↓r_prim2, ↓r_primN, ↓rd_nil, ↓rd_cons, ↓rd_int, ↓rd_bl, ↓rd_str, ↓rd_non, ↓rd_tup, ↓rd_lst, ↓rd_scr, ↓rd_dic, ↓rd_cls, ↓rd_fn, ↓rd_s, ↓rd_r, ↓r_chN, refP_s, ↓ri_seq, ↓rq_tup, ↓rq_lst, ↓r_var, ↓ra_var, ↓r_ret, ↓r_frz, ↓r_asBl, ↓r_asInt, ↓r_liftS, ↓ri_range, ↓ri_range2, ↓ri_zip, ↓ri_enum, ↓r_calle, ↓rc_fn, ↓en_lst, ↓en_tup, ↓rz_tup, ↓rz_lst, ↓rz_tl, ↓rz_lt, ↓ri_zip3, ↓rz_ttt, ↓rz_ttl, ↓rz_lll, ↓rx_expr, ↓rx_set, ↓rx_frz, ↓rx_ret, ↓rx_iff, ↓rx_mat, ↓then_nx, ↓then_rt, ↓then_bk, ↓then_ct, ↓rx_nil, ↓rx_cons, ↓rx_asg, ↓rt_name, ↓rt_tup, ↓rt_lst, ↓rt_nil, ↓rt_cons, ↓rx_setix, ↓rx_app, ↓rx_ext, ↓r_pop, ↓r_needL, ↓lstP_l, ↓obP_s, ↓r_chS, ↓rr_nil, ↓rr_cons, ↓rh_v, ↓rh_l, ↓rx_par, ↓rx_pass, ↓rx_for, ↓varP_v, ↓varP_n, bin_addI, bin_subI, cmp_lt, cmp_le, cmp_gt, cmp_ge, cmp_eqI, cmp_neI, cmp_eqB, cmp_eqS, cmp_neS, blR_s, bi_lenT, bi_lenL, bi_lenS, bi_tupT, bi_tupL, bi_lstT, bi_lstL, bi_max, bi_min, bi_intB, neg_i, isi_int, isi_tup, isi_lst, isi_dic, isi_str, isi_non, isi_bl, List.getElem?_cons_zero, List.getElem?_cons_succ, List.set_cons_zero, List.set_cons_succ, Option.map_some, R.flat, R.d, Ob.flat, Ob.d, true_and, and_true, eq_self, decide_eq_true_eq, reduceIte, Bool.true_and, Bool.false_and, Bool.and_false, Bool.and_true, Bool.false_eq_true, decide_true, decide_false, Bool.not_true, Bool.not_false, List.length_map, List.length_cons, List.length_nil, reduceCtorEq, and_self, true_or, or_true, or_false, false_or, or_self]
    refine ⟨by omega, rfl, by simp; show k ≤ 16777216; omega, fun i acc s2 => acc = (List.range i).map (fun q => D.ref (s.length + q)) ∧ s2 = s ++ List.replicate i (robj (List.replicate k 0)), ⟨rfl, by simp⟩, ?_, fun acc s2 ⟨h1, h2⟩ => ?_⟩
    · rintro i acc s2 x hx ⟨rfl, rfl⟩
      refine wt_all rfl ?_
      have b1 : binD .Mult (.lst [.int 0]) (.int (k : Int)) = some (.new (robj (List.replicate k 0))) := by
        have q1 : ([D.int 0] : List D).length * (k : Int).toNat ≤ line ∧ (k : Int).natAbs ≤ line := ⟨by simp; show k ≤ 16777216; omega, by simp; show k ≤ 16777216; omega⟩
        show (if [D.int 0].length * (k : Int).toNat ≤ line ∧ (k : Int).natAbs ≤ line then some (R.new (.lst (rep (k : Int).toNat [.int 0]))) else none) = _
        rw [if_pos q1, rep_single, robj, List.map_replicate]
        rfl
      simp -dsimp only [wipe_n, wipe_c, ↓ra_nop, ↓ra_cst, ↓ra_glob, ↓ra_tup, ↓ra_lst, ↓ra_dic, ↓ra_bin, ↓ra_neg, ↓ra_not, ↓ra_and, ↓ra_or, ↓ra_ife, ↓ra_cmp, ↓ra_chain, ↓ra_ix, ↓ra_sl, ↓ra_rev, ↓ra_get2, ↓r_get2, ↓r_needT, ↓ra_isi, ↓ra_bi, ↓ra_call, ↓ra_calle, ↓ra_pop, ↓ra_alloc, ↓ra_comp, ↓ra_comp2, ↓ra_me, ↓ra_lrange, ↓r_dic, ↓r_needM, ↓r_me, ↓r_lrange, me_cl, me_js, me_ss, ↓r_cst, ↓r_glob, ↓re_nil, ↓re_cons, ↓rsa_nil, ↓rsa_cons, ↓r_tup, ↓r_lst, ↓r_bin, ↓r_cmp, ↓r_ix, ↓r_neg, ↓r_isi, ↓r_bi, ↓r_not, ↓r_and, ↓r_or, ↓r_ife, ↓r_chain, ↓r_none, ↓rp_cst, ↓rp_glob, ↓rp_bin, ↓rp_neg, ↓rp_ife, ↓rp_ix, ↓rp_bi, ↓rp_call, ↓rp_var, ↓r_sl, ↓r_call, ↓r_alloc, ↓r_allocM, ↓r_prim1, ↓r_prim2, ↓r_primN, ↓rd_nil, ↓rd_cons, ↓rd_int, ↓rd_bl, ↓rd_str, ↓rd_non, ↓rd_tup, ↓rd_lst, ↓rd_scr, ↓rd_dic, ↓rd_cls, ↓rd_fn, ↓rd_s, ↓rd_r, ↓r_chN, refP_s, ↓ri_seq, ↓rq_tup, ↓rq_lst, ↓r_var, ↓ra_var, ↓r_ret, ↓r_frz, ↓r_asBl, ↓r_asInt, ↓r_liftS, ↓ri_range, ↓ri_range2, ↓ri_zip, ↓ri_enum, ↓r_calle, ↓rc_fn, ↓en_lst, ↓en_tup, ↓rz_tup, ↓rz_lst, ↓rz_tl, ↓rz_lt, ↓ri_zip3, ↓rz_ttt, ↓rz_ttl, ↓rz_lll, ↓rx_expr, ↓rx_set, ↓rx_frz, ↓rx_ret, ↓rx_iff, ↓rx_mat, ↓then_nx, ↓then_rt, ↓then_bk, ↓then_ct, ↓rx_nil, ↓rx_cons, ↓rx_asg, ↓rt_name, ↓rt_tup, ↓rt_lst, ↓rt_nil, ↓rt_cons, ↓rx_setix, ↓rx_app, ↓rx_ext, ↓r_pop, ↓r_needL, ↓lstP_l, ↓obP_s, ↓r_chS, ↓rr_nil, ↓rr_cons, ↓rh_v, ↓rh_l, ↓rx_par, ↓rx_pass, ↓rx_for, ↓varP_v, ↓varP_n, bin_addI, bin_subI, cmp_lt, cmp_le, cmp_gt, cmp_ge, cmp_eqI, cmp_neI, cmp_eqB, cmp_eqS, cmp_neS, blR_s, bi_lenT, bi_lenL, bi_lenS, bi_tupT, bi_tupL, bi_lstT, bi_lstL, bi_max, bi_min, bi_intB, neg_i, isi_int, isi_tup, isi_lst, isi_dic, isi_str, isi_non, isi_bl, List.getElem?_cons_zero, List.getElem?_cons_succ, List.set_cons_zero, List.set_cons_succ, Option.map_some, R.flat, R.d, Ob.flat, Ob.d, true_and, and_true, eq_self, decide_eq_true_eq, reduceIte, Bool.true_and, Bool.false_and, Bool.and_false, Bool.and_true, Bool.false_eq_true, decide_true, decide_false, Bool.not_true, Bool.not_false, List.length_map, List.length_cons, List.length_nil, reduceCtorEq, and_self, true_or, or_true, or_false, false_or, or_self, wipeE, b1, ↓r_allocM]
      refine ⟨by decide, ?_, ?_⟩
      · rw [List.range_succ, List.map_append]
        simp
      · rw [List.replicate_succ', ← List.append_assoc]
    · have c0 : CirI n s k s2 := by
        subst h2
        obtain ⟨a, b, c, q1, q2⟩ := hp
        refine ⟨⟨a, b, c, ?_, q2⟩, hn, pen a b c, List.replicate k (List.replicate k 0), [], ?_, by simp, fun x hx => by rw [(List.mem_replicate.mp hx).2]; exact Row.zeros⟩
        · rw [List.getElem?_append_left hn]; exact q1
        · rw [List.map_replicate, List.append_nil]
          obtain ⟨h2, h3⟩ := List.getElem?_eq_some_iff.mp q1
          rw [← h3]
          simp
      simp only [List.length_range, Int.toNat_natCast] at h1
      subst h1
      have at_ : ∀ q : Nat, q < k → item ((List.range k).map (fun q => D.ref (s.length + q))) (q : Int) = some (.ref (s.length + q)) := fun q hq => item_nat (by rw [List.getElem?_map, List.getElem?_eq_getElem (by simpa using hq)]; simp)
      generalize hL : (List.range k).map (fun q => D.ref (s.length + q)) = L at at_ ⊢
      have hLl : L.length = k := by rw [← hL]; simp
      clear h2
      refine ⟨by omega, ?_⟩
      refine wp_forL (fun i e s3 => ∃ x y, e = [some (.val (.ref n)), some (.val (.int k)), x, some (.new (.lst L)), y, none] ∧ (∀ o, x ≠ some (.new o)) ∧ CirI n s k s3) ⟨none, none, rfl, fun o z => (by cases z), c0⟩ ?_ ?_
      · rintro i x e1 s3 hx ⟨x0, y0, rfl, hx0, c1⟩
        obtain ⟨rfl, hi⟩ := range_at hx
        have kz : (k : Int) ≠ 0 := by omega
        obtain ⟨m, hm, hmk⟩ : ∃ m : Nat, ((i : Int) + 1).fmod k = m ∧ m < k := by
          obtain ⟨q1, q2⟩ := fmod_lt (a := (i : Int) + 1) (m := (k : Int)) (by omega)
          exact ⟨(((i : Int) + 1).fmod k).toNat, by omega, by omega⟩
        obtain ⟨r, hr, hat⟩ := c1.get hmk
        simp -dsimp only [wipe_n, wipe_c, ↓ra_nop, ↓ra_cst, ↓ra_glob, ↓ra_tup, ↓ra_lst, ↓ra_dic, ↓ra_bin, ↓ra_neg, ↓ra_not, ↓ra_and, ↓ra_or, ↓ra_ife, ↓ra_cmp, ↓ra_chain, ↓ra_ix, ↓ra_sl, ↓ra_rev, ↓ra_get2, ↓r_get2, ↓r_needT, ↓ra_isi, ↓ra_bi, ↓ra_call, ↓ra_calle, ↓ra_pop, ↓ra_alloc, ↓ra_comp, ↓ra_comp2, ↓ra_me, ↓ra_lrange, ↓r_dic, ↓r_needM, ↓r_me, ↓r_lrange, me_cl, me_js, me_ss, ↓r_cst, ↓r_glob, ↓re_nil, ↓re_cons, ↓rsa_nil, ↓rsa_cons, ↓r_tup, ↓r_lst, ↓r_bin, ↓r_cmp, ↓r_ix, ↓r_neg, ↓r_isi, ↓r_bi, ↓r_not, ↓r_and, ↓r_or, ↓r_ife, ↓r_chain, ↓r_none, ↓rp_cst, ↓rp_glob, ↓rp_bin, ↓rp_neg, ↓rp_ife, ↓rp_ix, ↓rp_bi, ↓rp_call, ↓rp_var, ↓r_sl, ↓r_call, ↓r_alloc, ↓r_allocM, ↓r_prim1, ↓r_prim2, ↓r_primN, ↓rd_nil, ↓rd_cons, ↓rd_int, ↓rd_bl, ↓rd_str, ↓rd_non, ↓rd_tup, ↓rd_lst, ↓rd_scr, ↓rd_dic, ↓rd_cls, ↓rd_fn, ↓rd_s, ↓rd_r, ↓r_chN, refP_s, ↓ri_seq, ↓rq_tup, ↓rq_lst, ↓r_var, ↓ra_var, ↓r_ret, ↓r_frz, ↓r_asBl, ↓r_asInt, ↓r_liftS, ↓ri_range, ↓ri_range2, ↓ri_zip, ↓ri_enum, ↓r_calle, ↓rc_fn, ↓en_lst, ↓en_tup, ↓rz_tup, ↓rz_lst, ↓rz_tl, ↓rz_lt, ↓ri_zip3, ↓rz_ttt, ↓rz_ttl, ↓rz_lll, ↓rx_expr, ↓rx_set, ↓rx_frz, ↓rx_ret, ↓rx_iff, ↓rx_mat, ↓then_nx, ↓then_rt, ↓then_bk, ↓then_ct, ↓rx_nil, ↓rx_cons, ↓rx_asg, ↓rt_name, ↓rt_tup, ↓rt_lst, ↓rt_nil, ↓rt_cons, ↓rx_setix, ↓rx_app, ↓rx_ext, ↓r_pop, ↓r_needL, ↓lstP_l, ↓obP_s, ↓r_chS, ↓rr_nil, ↓rr_cons, ↓rh_v, ↓rh_l, ↓rx_par, ↓rx_pass, ↓rx_for, ↓varP_v, ↓varP_n, bin_addI, bin_subI, cmp_lt, cmp_le, cmp_gt, cmp_ge, cmp_eqI, cmp_neI, cmp_eqB, cmp_eqS, cmp_neS, blR_s, bi_lenT, bi_lenL, bi_lenS, bi_tupT, bi_tupL, bi_lstT, bi_lstL, bi_max, bi_min, bi_intB, neg_i, isi_int, isi_tup, isi_lst, isi_dic, isi_str, isi_non, isi_bl, List.getElem?_cons_zero, List.getElem?_cons_succ, List.set_cons_zero, List.set_cons_succ, Option.map_some, R.flat, R.d, Ob.flat, Ob.d, true_and, and_true, eq_self, decide_eq_true_eq, reduceIte, Bool.true_and, Bool.false_and, Bool.and_false, Bool.and_true, Bool.false_eq_true, decide_true, decide_false, Bool.not_true, Bool.not_false, List.length_map, List.length_cons, List.length_nil, reduceCtorEq, and_self, true_or, or_true, or_false, false_or, or_self, r_bnd, bin_modI kz, hm, ix_l (at_ m hmk), ↓r_chN, hat, set_row hr hi]
        exact ⟨_, _, rfl, fun o z => (by cases z), c1.put hmk (hr.set (.inr (.inr rfl)))⟩
      · rintro e1 s3 ⟨x0, y0, rfl, hx0, c1⟩
        obtain ⟨r, hr, hat⟩ := c1.get (show 0 < k by omega)
        rw [Nat.add_zero] at hat
        have at0 := at_ 0 (by omega)
        rw [Nat.add_zero] at at0
        have last : ∀ x : Int, sg x → ∃ r', Row k r' ∧ setO ((k : Int) - 1) (.int x) (robj r) = some (robj r', .val .non) := fun x hx => by
          have q : (k : Int) - 1 = ((k - 1 : Nat) : Int) := by omega
          rw [q]
          exact ⟨_, hr.set hx, set_row hr (by omega)⟩
        have rest : ∀ (s4 : Sto) (x0 y0 : Option R), CirI n s k s4 → (∀ o, x0 ≠ some (.new o)) → WP (execs (orc T j) [.for (.name 5) (.range (.call gd [.var 0, .cst (.int 3)])) [.set 4 (.ix (.var 3) (.call gd [.var 0, .var 1])), .setix (.var 4) (.call gd [.var 0, .var 1]) (.bin .Sub (.bin .Mult (.cst (.int 2)) (.call gd [.var 0, .cst (.int 2)])) (.cst (.int 1)))], .ret (.bi .tuple [.comp (.bi .tuple [.bin .Add (.bin .Add (.sl (.var 4) .nop (.var 2)) (.lst [.neg (.cst (.int 1))])) (.sl (.var 4) (.bin .Add (.var 2) (.cst (.int 1))) .nop)]) (.tup [.name 2, .name 4]) (.enum (.var 3)) .nop [2, 4]])])
            [some (.val (.ref n)), some (.val (.int k)), x0, some (.new (.lst L)), some (.val (.ref s.length)), none] s4 fun fl _ s' => ∃ r, fl = .rt r ∧ ∃ t, r = .val (tI t) ∧ Tab k t ∧ Pn n s s' := fun s4 x0 y0 c4 hx0 => by
          obtain ⟨d3, s5, e3, ⟨d0, d1⟩, p3⟩ := dr.gives c4.1 (m := 3) (by omega) (by omega)
          have c5 := c4.draw p3
          simp -dsimp only [wipe_n, wipe_c, ↓ra_nop, ↓ra_cst, ↓ra_glob, ↓ra_tup, ↓ra_lst, ↓ra_dic, ↓ra_bin, ↓ra_neg, ↓ra_not, ↓ra_and, ↓ra_or, ↓ra_ife, ↓ra_cmp, ↓ra_chain, ↓ra_ix, ↓ra_sl, ↓ra_rev, ↓ra_get2, ↓r_get2, ↓r_needT, ↓ra_isi, ↓ra_bi, ↓ra_call, ↓ra_calle, ↓ra_pop, ↓ra_alloc, ↓ra_comp, ↓ra_comp2, ↓ra_me, ↓ra_lrange, ↓r_dic, ↓r_needM, ↓r_me, ↓r_lrange, me_cl, me_js, me_ss, ↓r_cst, ↓r_glob, ↓re_nil, ↓re_cons, ↓rsa_nil, ↓rsa_cons, ↓r_tup, ↓r_lst, ↓r_bin, ↓r_cmp, ↓r_ix, ↓r_neg, ↓r_isi, ↓r_bi, ↓r_not, ↓r_and, ↓r_or, ↓r_ife, ↓r_chain, ↓r_none, ↓rp_cst, ↓rp_glob, ↓rp_bin, ↓rp_neg, ↓rp_ife, ↓rp_ix, ↓rp_bi, ↓rp_call, ↓rp_var, ↓r_sl, ↓r_call, ↓r_alloc, ↓r_allocM, ↓r_prim1, ↓r_prim2, ↓r_primN, ↓rd_nil, ↓rd_cons, ↓rd_int, ↓rd_bl, ↓rd_str, ↓rd_non, ↓rd_tup, ↓rd_lst, ↓rd_scr, ↓rd_dic, ↓rd_cls, ↓rd_fn, ↓rd_s, ↓rd_r, ↓r_chN, refP_s, ↓ri_seq, ↓rq_tup, ↓rq_lst, ↓r_var, ↓ra_var, ↓r_ret, ↓r_frz, ↓r_asBl, ↓r_asInt, ↓r_liftS, ↓ri_range, ↓ri_range2, ↓ri_zip, ↓ri_enum, ↓r_calle, ↓rc_fn, ↓en_lst, ↓en_tup, ↓rz_tup, ↓rz_lst, ↓rz_tl, ↓rz_lt, ↓ri_zip3, ↓rz_ttt, ↓rz_ttl, ↓rz_lll, ↓rx_expr, ↓rx_set, ↓rx_frz, ↓rx_ret, ↓rx_iff, ↓rx_mat, ↓then_nx, ↓then_rt, ↓then_bk, ↓then_ct, ↓rx_nil, ↓rx_cons, ↓rx_asg, ↓rt_name, ↓rt_tup, ↓rt_lst, ↓rt_nil, ↓rt_cons, ↓rx_setix, ↓rx_app, ↓rx_ext, ↓r_pop, ↓r_needL, ↓lstP_l, ↓obP_s, ↓r_chS, ↓rr_nil, ↓rr_cons, ↓rh_v, ↓rh_l, ↓rx_par, ↓rx_pass, ↓rx_for, ↓varP_v, ↓varP_n, bin_addI, bin_subI, cmp_lt, cmp_le, cmp_gt, cmp_ge, cmp_eqI, cmp_neI, cmp_eqB, cmp_eqS, cmp_neS, blR_s, bi_lenT, bi_lenL, bi_lenS, bi_tupT, bi_tupL, bi_lstT, bi_lstL, bi_max, bi_min, bi_intB, neg_i, isi_int, isi_tup, isi_lst, isi_dic, isi_str, isi_non, isi_bl, List.getElem?_cons_zero, List.getElem?_cons_succ, List.set_cons_zero, List.set_cons_succ, Option.map_some, R.flat, R.d, Ob.flat, Ob.d, true_and, and_true, eq_self, decide_eq_true_eq, reduceIte, Bool.true_and, Bool.false_and, Bool.and_false, Bool.and_true, Bool.false_eq_true, decide_true, decide_false, Bool.not_true, Bool.not_false, List.length_map, List.length_cons, List.length_nil, reduceCtorEq, and_self, true_or, or_true, or_false, false_or, or_self, r_callM e3]
          refine ⟨by omega, ?_⟩
          refine wp_forL (fun i e s3 => ∃ y z, e = [some (.val (.ref n)), some (.val (.int k)), x0, some (.new (.lst L)), some (.val y), z] ∧ CirI n s k s3) ⟨_, none, rfl, c5⟩ ?_ ?_
          · rintro i x e1 s6 hx ⟨y, z, rfl, c6⟩
            obtain ⟨u, s7, e7, ⟨u0, u1⟩, p7⟩ := dr.gives c6.1 (m := (k : Int)) (by omega) (by omega)
            obtain ⟨m, rfl⟩ : ∃ m : Nat, u = m := ⟨u.toNat, by omega⟩
            have c7 := c6.draw p7
            obtain ⟨w, s8, e8, ⟨w0, w1⟩, p8⟩ := dr.gives c7.1 (m := 2) (by omega) (by omega)
            have c8 := c7.draw p8
            obtain ⟨v, s9, e9, ⟨v0, v1⟩, p9⟩ := dr.gives c8.1 (m := (k : Int)) (by omega) (by omega)
            obtain ⟨q, rfl⟩ : ∃ m : Nat, v = m := ⟨v.toNat, by omega⟩
            have c9 := c8.draw p9
            obtain ⟨r, hr, hat⟩ := c9.get (show m < k by omega)
            have mo : mulOk 2 w = true := mulL (by decide)
            simp -dsimp only [wipe_n, wipe_c, ↓ra_nop, ↓ra_cst, ↓ra_glob, ↓ra_tup, ↓ra_lst, ↓ra_dic, ↓ra_bin, ↓ra_neg, ↓ra_not, ↓ra_and, ↓ra_or, ↓ra_ife, ↓ra_cmp, ↓ra_chain, ↓ra_ix, ↓ra_sl, ↓ra_rev, ↓ra_get2, ↓r_get2, ↓r_needT, ↓ra_isi, ↓ra_bi, ↓ra_call, ↓ra_calle, ↓ra_pop, ↓ra_alloc, ↓ra_comp, ↓ra_comp2, ↓ra_me, ↓ra_lrange, ↓r_dic, ↓r_needM, ↓r_me, ↓r_lrange, me_cl, me_js, me_ss, ↓r_cst, ↓r_glob, ↓re_nil, ↓re_cons, ↓rsa_nil, ↓rsa_cons, ↓r_tup, ↓r_lst, ↓r_bin, ↓r_cmp, ↓r_ix, ↓r_neg, ↓r_isi, ↓r_bi, ↓r_not, ↓r_and, ↓r_or, ↓r_ife, ↓r_chain, ↓r_none, ↓rp_cst, ↓rp_glob, ↓rp_bin, ↓rp_neg, ↓rp_ife, ↓rp_ix, ↓rp_bi, ↓rp_call, ↓rp_var, ↓r_sl, ↓r_call, ↓r_alloc, ↓r_allocM, ↓r_prim1, ↓r_prim2, ↓r_primN, ↓rd_nil, ↓rd_cons, ↓rd_int, ↓rd_bl, ↓rd_str, ↓rd_non, ↓rd_tup, ↓rd_lst, ↓rd_scr, ↓rd_dic, ↓rd_cls, ↓rd_fn, ↓rd_s, ↓rd_r, ↓r_chN, refP_s, ↓ri_seq, ↓rq_tup, ↓rq_lst, ↓r_var, ↓ra_var, ↓r_ret, ↓r_frz, ↓r_asBl, ↓r_asInt, ↓r_liftS, ↓ri_range, ↓ri_range2, ↓ri_zip, ↓ri_enum, ↓r_calle, ↓rc_fn, ↓en_lst, ↓en_tup, ↓rz_tup, ↓rz_lst, ↓rz_tl, ↓rz_lt, ↓ri_zip3, ↓rz_ttt, ↓rz_ttl, ↓rz_lll, ↓rx_expr, ↓rx_set, ↓rx_frz, ↓rx_ret, ↓rx_iff, ↓rx_mat, ↓then_nx, ↓then_rt, ↓then_bk, ↓then_ct, ↓rx_nil, ↓rx_cons, ↓rx_asg, ↓rt_name, ↓rt_tup, ↓rt_lst, ↓rt_nil, ↓rt_cons, ↓rx_setix, ↓rx_app, ↓rx_ext, ↓r_pop, ↓r_needL, ↓lstP_l, ↓obP_s, ↓r_chS, ↓rr_nil, ↓rr_cons, ↓rh_v, ↓rh_l, ↓rx_par, ↓rx_pass, ↓rx_for, ↓varP_v, ↓varP_n, bin_addI, bin_subI, cmp_lt, cmp_le, cmp_gt, cmp_ge, cmp_eqI, cmp_neI, cmp_eqB, cmp_eqS, cmp_neS, blR_s, bi_lenT, bi_lenL, bi_lenS, bi_tupT, bi_tupL, bi_lstT, bi_lstL, bi_max, bi_min, bi_intB, neg_i, isi_int, isi_tup, isi_lst, isi_dic, isi_str, isi_non, isi_bl, List.getElem?_cons_zero, List.getElem?_cons_succ, List.set_cons_zero, List.set_cons_succ, Option.map_some, R.flat, R.d, Ob.flat, Ob.d, true_and, and_true, eq_self, decide_eq_true_eq, reduceIte, Bool.true_and, Bool.false_and, Bool.and_false, Bool.and_true, Bool.false_eq_true, decide_true, decide_false, Bool.not_true, Bool.not_false, List.length_map, List.length_cons, List.length_nil, reduceCtorEq, and_self, true_or, or_true, or_false, false_or, or_self, r_bnd, r_callM e7, ix_l (at_ m (by omega)), r_callM e8, bin_mulI mo, r_callM e9, ↓r_chN, hat, refP_s, set_row hr (show q < k by omega)]
            exact ⟨_, _, rfl, c9.put (by omega) (hr.set (sg_coin ⟨w0, w1⟩))⟩
          · rintro e1 s6 ⟨y, z, rfl, c6⟩
            obtain ⟨rows, hrw, hat⟩ := c6.all
            have hno : noOwn [some (.val (.ref n)), some (.val (.int k)), x0, some (.new (.lst L)), some (.val y), z] [2, 4] = true := by
              cases x0 with
              | none => rfl
              | some x0 => cases x0 with
                | val d => rfl
                | new o => exact absurd rfl (hx0 o)
            simp -dsimp only [wipe_n, wipe_c, ↓ra_nop, ↓ra_cst, ↓ra_glob, ↓ra_tup, ↓ra_lst, ↓ra_dic, ↓ra_bin, ↓ra_neg, ↓ra_not, ↓ra_and, ↓ra_or, ↓ra_ife, ↓ra_cmp, ↓ra_chain, ↓ra_ix, ↓ra_sl, ↓ra_rev, ↓ra_get2, ↓r_get2, ↓r_needT, ↓ra_isi, ↓ra_bi, ↓ra_call, ↓ra_calle, ↓ra_pop, ↓ra_alloc, ↓ra_comp, ↓ra_comp2, ↓ra_me, ↓ra_lrange, ↓r_dic, ↓r_needM, ↓r_me, ↓r_lrange, me_cl, me_js, me_ss, ↓r_cst, ↓r_glob, ↓re_nil, ↓re_cons, ↓rsa_nil, ↓rsa_cons, ↓r_tup, ↓r_lst, ↓r_bin, ↓r_cmp, ↓r_ix, ↓r_neg, ↓r_isi, ↓r_bi, ↓r_not, ↓r_and, ↓r_or, ↓r_ife, ↓r_chain, ↓r_none, ↓rp_cst, ↓rp_glob, ↓rp_bin, ↓rp_neg, ↓rp_ife, ↓rp_ix, ↓rp_bi, ↓rp_call, ↓rp_var, ↓r_sl, ↓r_call, ↓r_alloc, ↓r_allocM, ↓r_prim1, ↓r_prim2, ↓r_primN, ↓rd_nil, ↓rd_cons, ↓rd_int, ↓rd_bl, ↓rd_str, ↓rd_non, ↓rd_tup, ↓rd_lst, ↓rd_scr, ↓rd_dic, ↓rd_cls, ↓rd_fn, ↓rd_s, ↓rd_r, ↓r_chN, refP_s, ↓ri_seq, ↓rq_tup, ↓rq_lst, ↓r_var, ↓ra_var, ↓r_ret, ↓r_frz, ↓r_asBl, ↓r_asInt, ↓r_liftS, ↓ri_range, ↓ri_range2, ↓ri_zip, ↓ri_enum, ↓r_calle, ↓rc_fn, ↓en_lst, ↓en_tup, ↓rz_tup, ↓rz_lst, ↓rz_tl, ↓rz_lt, ↓ri_zip3, ↓rz_ttt, ↓rz_ttl, ↓rz_lll, ↓rx_expr, ↓rx_set, ↓rx_frz, ↓rx_ret, ↓rx_iff, ↓rx_mat, ↓then_nx, ↓then_rt, ↓then_bk, ↓then_ct, ↓rx_nil, ↓rx_cons, ↓rx_asg, ↓rt_name, ↓rt_tup, ↓rt_lst, ↓rt_nil, ↓rt_cons, ↓rx_setix, ↓rx_app, ↓rx_ext, ↓r_pop, ↓r_needL, ↓lstP_l, ↓obP_s, ↓r_chS, ↓rr_nil, ↓rr_cons, ↓rh_v, ↓rh_l, ↓rx_par, ↓rx_pass, ↓rx_for, ↓varP_v, ↓varP_n, bin_addI, bin_subI, cmp_lt, cmp_le, cmp_gt, cmp_ge, cmp_eqI, cmp_neI, cmp_eqB, cmp_eqS, cmp_neS, blR_s, bi_lenT, bi_lenL, bi_lenS, bi_tupT, bi_tupL, bi_lstT, bi_lstL, bi_max, bi_min, bi_intB, neg_i, isi_int, isi_tup, isi_lst, isi_dic, isi_str, isi_non, isi_bl, List.getElem?_cons_zero, List.getElem?_cons_succ, List.set_cons_zero, List.set_cons_succ, Option.map_some, R.flat, R.d, Ob.flat, Ob.d, true_and, and_true, eq_self, decide_eq_true_eq, reduceIte, Bool.true_and, Bool.false_and, Bool.and_false, Bool.and_true, Bool.false_eq_true, decide_true, decide_false, Bool.not_true, Bool.not_false, List.length_map, List.length_cons, List.length_nil, reduceCtorEq, and_self, true_or, or_true, or_false, false_or, or_self]
            refine wv_compM ?_
            simp -dsimp only [wipe_n, wipe_c, ↓ra_nop, ↓ra_cst, ↓ra_glob, ↓ra_tup, ↓ra_lst, ↓ra_dic, ↓ra_bin, ↓ra_neg, ↓ra_not, ↓ra_and, ↓ra_or, ↓ra_ife, ↓ra_cmp, ↓ra_chain, ↓ra_ix, ↓ra_sl, ↓ra_rev, ↓ra_get2, ↓r_get2, ↓r_needT, ↓ra_isi, ↓ra_bi, ↓ra_call, ↓ra_calle, ↓ra_pop, ↓ra_alloc, ↓ra_comp, ↓ra_comp2, ↓ra_me, ↓ra_lrange, ↓r_dic, ↓r_needM, ↓r_me, ↓r_lrange, me_cl, me_js, me_ss, ↓r_cst, ↓r_glob, ↓re_nil, ↓re_cons, ↓rsa_nil, ↓rsa_cons, ↓r_tup, ↓r_lst, ↓r_bin, ↓r_cmp, ↓r_ix, ↓r_neg, ↓r_isi, ↓r_bi, ↓r_not, ↓r_and, ↓r_or, ↓r_ife, ↓r_chain, ↓r_none, ↓rp_cst, ↓rp_glob, ↓rp_bin, ↓rp_neg, ↓rp_ife, ↓rp_ix, ↓rp_bi, ↓rp_call, ↓rp_var, ↓r_sl, ↓r_call, ↓r_alloc, ↓r_allocM, ↓r_prim1, ↓r_prim2, ↓r_primN, ↓rd_nil, ↓rd_cons, ↓rd_int, ↓rd_bl, ↓rd_str, ↓rd_non, ↓rd_tup, ↓rd_lst, ↓rd_scr, ↓rd_dic, ↓rd_cls, ↓rd_fn, ↓rd_s, ↓rd_r, ↓r_chN, refP_s, ↓ri_seq, ↓rq_tup, ↓rq_lst, ↓r_var, ↓ra_var, ↓r_ret, ↓r_frz, ↓r_asBl, ↓r_asInt, ↓r_liftS, ↓ri_range, ↓ri_range2, ↓ri_zip, ↓ri_enum, ↓r_calle, ↓rc_fn, ↓en_lst, ↓en_tup, ↓rz_tup, ↓rz_lst, ↓rz_tl, ↓rz_lt, ↓ri_zip3, ↓rz_ttt, ↓rz_ttl, ↓rz_lll, ↓rx_expr, ↓rx_set, ↓rx_frz, ↓rx_ret, ↓rx_iff, ↓rx_mat, ↓then_nx, ↓then_rt, ↓then_bk, ↓then_ct, ↓rx_nil, ↓rx_cons, ↓rx_asg, ↓rt_name, ↓rt_tup, ↓rt_lst, ↓rt_nil, ↓rt_cons, ↓rx_setix, ↓rx_app, ↓rx_ext, ↓r_pop, ↓r_needL, ↓lstP_l, ↓obP_s, ↓r_chS, ↓rr_nil, ↓rr_cons, ↓rh_v, ↓rh_l, ↓rx_par, ↓rx_pass, ↓rx_for, ↓varP_v, ↓varP_n, bin_addI, bin_subI, cmp_lt, cmp_le, cmp_gt, cmp_ge, cmp_eqI, cmp_neI, cmp_eqB, cmp_eqS, cmp_neS, blR_s, bi_lenT, bi_lenL, bi_lenS, bi_tupT, bi_tupL, bi_lstT, bi_lstL, bi_max, bi_min, bi_intB, neg_i, isi_int, isi_tup, isi_lst, isi_dic, isi_str, isi_non, isi_bl, List.getElem?_cons_zero, List.getElem?_cons_succ, List.set_cons_zero, List.set_cons_succ, Option.map_some, R.flat, R.d, Ob.flat, Ob.d, true_and, and_true, eq_self, decide_eq_true_eq, reduceIte, Bool.true_and, Bool.false_and, Bool.and_false, Bool.and_true, Bool.false_eq_true, decide_true, decide_false, Bool.not_true, Bool.not_false, List.length_map, List.length_cons, List.length_nil, reduceCtorEq, and_self, true_or, or_true, or_false, false_or, or_self]
            have gd_ : ∀ i, i < k → rows.getD i [] = rows.getD i [] ∧ Row k (rows.getD i []) ∧ s6[s.length + i]? = some (robj (rows.getD i [])) := fun i hi => by
              have hl : i < rows.length := by rw [hrw.1]; exact hi
              have e : rows.getD i [] = rows[i] := by rw [List.getD_eq_getElem?_getD, List.getElem?_eq_getElem hl]; rfl
              rw [e]
              exact ⟨rfl, hrw.2 _ (List.getElem_mem hl), hat i hl⟩
            refine ⟨hno, by simp [hLl]; show _ ≤ 16777216; omega, Nat, List.range k, fun i => .tup [.int i, .ref (s.length + i)], fun i => some (rI ((rows.getD i []).take i ++ [-1] ++ (rows.getD i []).drop (i + 1))), ?_, fun i hi => wt_all rfl ?_, ?_⟩
            · rw [← hL]
              refine List.ext_getElem (by simp) fun i h1 h2 => ?_
              simp
            · have hi' := List.mem_range.mp hi
              obtain ⟨_, hr, ha⟩ := gd_ i hi'
              generalize hreq : rows.getD i [] = r at hr ha
              have hl : r.length = k := hr.1
              have q1 : cut (r.map D.int) none (some (i : Int)) = (r.take i).map .int := cut_to (by omega)
              have q2 : cut (r.map D.int) (some ((i : Int) + 1)) none = (r.drop (i + 1)).map .int := cut_from (i := i + 1) (by omega)
              have b1 : ((r.take i).map D.int).length + [D.int (-1)].length ≤ line := by simp; show _ ≤ 16777216; omega
              have b2 : ((r.take i).map D.int ++ [D.int (-1)]).length + ((r.drop (i + 1)).map D.int).length ≤ line := by simp; show _ ≤ 16777216; omega
              simp -dsimp only [wipe_n, wipe_c, ↓ra_nop, ↓ra_cst, ↓ra_glob, ↓ra_tup, ↓ra_lst, ↓ra_dic, ↓ra_bin, ↓ra_neg, ↓ra_not, ↓ra_and, ↓ra_or, ↓ra_ife, ↓ra_cmp, ↓ra_chain, ↓ra_ix, ↓ra_sl, ↓ra_rev, ↓ra_get2, ↓r_get2, ↓r_needT, ↓ra_isi, ↓ra_bi, ↓ra_call, ↓ra_calle, ↓ra_pop, ↓ra_alloc, ↓ra_comp, ↓ra_comp2, ↓ra_me, ↓ra_lrange, ↓r_dic, ↓r_needM, ↓r_me, ↓r_lrange, me_cl, me_js, me_ss, ↓r_cst, ↓r_glob, ↓re_nil, ↓re_cons, ↓rsa_nil, ↓rsa_cons, ↓r_tup, ↓r_lst, ↓r_bin, ↓r_cmp, ↓r_ix, ↓r_neg, ↓r_isi, ↓r_bi, ↓r_not, ↓r_and, ↓r_or, ↓r_ife, ↓r_chain, ↓r_none, ↓rp_cst, ↓rp_glob, ↓rp_bin, ↓rp_neg, ↓rp_ife, ↓rp_ix, ↓rp_bi, ↓rp_call, ↓rp_var, ↓r_sl, ↓r_call, ↓r_alloc, ↓r_allocM, ↓r_prim1, ↓r_prim2, ↓r_primN, ↓rd_nil, ↓rd_cons, ↓rd_int, ↓rd_bl, ↓rd_str, ↓rd_non, ↓rd_tup, ↓rd_lst, ↓rd_scr, ↓rd_dic, ↓rd_cls, ↓rd_fn, ↓rd_s, ↓rd_r, ↓r_chN, refP_s, ↓ri_seq, ↓rq_tup, ↓rq_lst, ↓r_var, ↓ra_var, ↓r_ret, ↓r_frz, ↓r_asBl, ↓r_asInt, ↓r_liftS, ↓ri_range, ↓ri_range2, ↓ri_zip, ↓ri_enum, ↓r_calle, ↓rc_fn, ↓en_lst, ↓en_tup, ↓rz_tup, ↓rz_lst, ↓rz_tl, ↓rz_lt, ↓ri_zip3, ↓rz_ttt, ↓rz_ttl, ↓rz_lll, ↓rx_expr, ↓rx_set, ↓rx_frz, ↓rx_ret, ↓rx_iff, ↓rx_mat, ↓then_nx, ↓then_rt, ↓then_bk, ↓then_ct, ↓rx_nil, ↓rx_cons, ↓rx_asg, ↓rt_name, ↓rt_tup, ↓rt_lst, ↓rt_nil, ↓rt_cons, ↓rx_setix, ↓rx_app, ↓rx_ext, ↓r_pop, ↓r_needL, ↓lstP_l, ↓obP_s, ↓r_chS, ↓rr_nil, ↓rr_cons, ↓rh_v, ↓rh_l, ↓rx_par, ↓rx_pass, ↓rx_for, ↓varP_v, ↓varP_n, bin_addI, bin_subI, cmp_lt, cmp_le, cmp_gt, cmp_ge, cmp_eqI, cmp_neI, cmp_eqB, cmp_eqS, cmp_neS, blR_s, bi_lenT, bi_lenL, bi_lenS, bi_tupT, bi_tupL, bi_lstT, bi_lstL, bi_max, bi_min, bi_intB, neg_i, isi_int, isi_tup, isi_lst, isi_dic, isi_str, isi_non, isi_bl, List.getElem?_cons_zero, List.getElem?_cons_succ, List.set_cons_zero, List.set_cons_succ, Option.map_some, R.flat, R.d, Ob.flat, Ob.d, true_and, and_true, eq_self, decide_eq_true_eq, reduceIte, Bool.true_and, Bool.false_and, Bool.and_false, Bool.and_true, Bool.false_eq_true, decide_true, decide_false, Bool.not_true, Bool.not_false, List.length_map, List.length_cons, List.length_nil, reduceCtorEq, and_self, true_or, or_true, or_false, false_or, or_self, ↓rd_r, ha, refP_s, robj, slD, q1, q2, neg_i, bin_addL b1, bin_addL b2]
              exact ⟨by decide, by rw [hreq]; simp [rI]⟩
            · rw [filterMap_some]
              refine ⟨_, rfl, (List.range k).map fun i => (rows.getD i []).take i ++ [-1] ++ (rows.getD i []).drop (i + 1), by simp [tI, Function.comp_def], ⟨by simp, fun x hx => ?_⟩, c6.pn⟩
              obtain ⟨i, hi, rfl⟩ := List.mem_map.mp hx
              have hi' := List.mem_range.mp hi
              obtain ⟨_, hr, _⟩ := gd_ i hi'
              generalize rows.getD i [] = r at hr ⊢
              have hl : r.length = k := hr.1
              refine ⟨by simp [hl]; omega, fun y hy => ?_⟩
              simp only [List.mem_append, List.mem_singleton] at hy
              rcases hy with (hy | rfl) | hy
              · exact hr.2 y (List.mem_of_mem_take hy)
              · exact .inl rfl
              · exact hr.2 y (List.mem_of_mem_drop hy)
        have at0' : ixD (.lst L) (.int 0) = some (.ref s.length) := ix_l at0
        have hx : ∀ o, x0 ≠ some (.new o) := hx0
        have put0 : ∀ x : Int, sg x → ∃ r', CirI n s k (s3.set s.length (robj r')) ∧ setO ((k : Int) - 1) (.int x) (robj r) = some (robj r', .val .non) := fun x hx => by
          obtain ⟨r', q1, q2⟩ := last x hx
          have := c1.put (show 0 < k by omega) q1
          rw [Nat.add_zero] at this
          exact ⟨r', this, q2⟩
        by_cases h1 : (k : Int) > 1
        · obtain ⟨r', q1, q2⟩ := put0 (-1) (.inl rfl)
          simp -dsimp only [wipe_n, wipe_c, ↓ra_nop, ↓ra_cst, ↓ra_glob, ↓ra_tup, ↓ra_lst, ↓ra_dic, ↓ra_bin, ↓ra_neg, ↓ra_not, ↓ra_and, ↓ra_or, ↓ra_ife, ↓ra_cmp, ↓ra_chain, ↓ra_ix, ↓ra_sl, ↓ra_rev, ↓ra_get2, ↓r_get2, ↓r_needT, ↓ra_isi, ↓ra_bi, ↓ra_call, ↓ra_calle, ↓ra_pop, ↓ra_alloc, ↓ra_comp, ↓ra_comp2, ↓ra_me, ↓ra_lrange, ↓r_dic, ↓r_needM, ↓r_me, ↓r_lrange, me_cl, me_js, me_ss, ↓r_cst, ↓r_glob, ↓re_nil, ↓re_cons, ↓rsa_nil, ↓rsa_cons, ↓r_tup, ↓r_lst, ↓r_bin, ↓r_cmp, ↓r_ix, ↓r_neg, ↓r_isi, ↓r_bi, ↓r_not, ↓r_and, ↓r_or, ↓r_ife, ↓r_chain, ↓r_none, ↓rp_cst, ↓rp_glob, ↓rp_bin, ↓rp_neg, ↓rp_ife, ↓rp_ix, ↓rp_bi, ↓rp_call, ↓rp_var, ↓r_sl, ↓r_call, ↓r_alloc, ↓r_allocM, ↓r_prim1, ↓r_prim2, ↓r_primN, ↓rd_nil, ↓rd_cons, ↓rd_int, ↓rd_bl, ↓rd_str, ↓rd_non, ↓rd_tup, ↓rd_lst, ↓rd_scr, ↓rd_dic, ↓rd_cls, ↓rd_fn, ↓rd_s, ↓rd_r, ↓r_chN, refP_s, ↓ri_seq, ↓rq_tup, ↓rq_lst, ↓r_var, ↓ra_var, ↓r_ret, ↓r_frz, ↓r_asBl, ↓r_asInt, ↓r_liftS, ↓ri_range, ↓ri_range2, ↓ri_zip, ↓ri_enum, ↓r_calle, ↓rc_fn, ↓en_lst, ↓en_tup, ↓rz_tup, ↓rz_lst, ↓rz_tl, ↓rz_lt, ↓ri_zip3, ↓rz_ttt, ↓rz_ttl, ↓rz_lll, ↓rx_expr, ↓rx_set, ↓rx_frz, ↓rx_ret, ↓rx_iff, ↓rx_mat, ↓then_nx, ↓then_rt, ↓then_bk, ↓then_ct, ↓rx_nil, ↓rx_cons, ↓rx_asg, ↓rt_name, ↓rt_tup, ↓rt_lst, ↓rt_nil, ↓rt_cons, ↓rx_setix, ↓rx_app, ↓rx_ext, ↓r_pop, ↓r_needL, ↓lstP_l, ↓obP_s, ↓r_chS, ↓rr_nil, ↓rr_cons, ↓rh_v, ↓rh_l, ↓rx_par, ↓rx_pass, ↓rx_for, ↓varP_v, ↓varP_n, bin_addI, bin_subI, cmp_lt, cmp_le, cmp_gt, cmp_ge, cmp_eqI, cmp_neI, cmp_eqB, cmp_eqS, cmp_neS, blR_s, bi_lenT, bi_lenL, bi_lenS, bi_tupT, bi_tupL, bi_lstT, bi_lstL, bi_max, bi_min, bi_intB, neg_i, isi_int, isi_tup, isi_lst, isi_dic, isi_str, isi_non, isi_bl, List.getElem?_cons_zero, List.getElem?_cons_succ, List.set_cons_zero, List.set_cons_succ, Option.map_some, R.flat, R.d, Ob.flat, Ob.d, true_and, and_true, eq_self, decide_eq_true_eq, reduceIte, Bool.true_and, Bool.false_and, Bool.and_false, Bool.and_true, Bool.false_eq_true, decide_true, decide_false, Bool.not_true, Bool.not_false, List.length_map, List.length_cons, List.length_nil, reduceCtorEq, and_self, true_or, or_true, or_false, false_or, or_self, at0', h1, neg_i, ↓r_chN, hat, refP_s, q2]
          have z := rest _ x0 none q1 hx
          simp -dsimp only [wipe_n, wipe_c, ↓ra_nop, ↓ra_cst, ↓ra_glob, ↓ra_tup, ↓ra_lst, ↓ra_dic, ↓ra_bin, ↓ra_neg, ↓ra_not, ↓ra_and, ↓ra_or, ↓ra_ife, ↓ra_cmp, ↓ra_chain, ↓ra_ix, ↓ra_sl, ↓ra_rev, ↓ra_get2, ↓r_get2, ↓r_needT, ↓ra_isi, ↓ra_bi, ↓ra_call, ↓ra_calle, ↓ra_pop, ↓ra_alloc, ↓ra_comp, ↓ra_comp2, ↓ra_me, ↓ra_lrange, ↓r_dic, ↓r_needM, ↓r_me, ↓r_lrange, me_cl, me_js, me_ss, ↓r_cst, ↓r_glob, ↓re_nil, ↓re_cons, ↓rsa_nil, ↓rsa_cons, ↓r_tup, ↓r_lst, ↓r_bin, ↓r_cmp, ↓r_ix, ↓r_neg, ↓r_isi, ↓r_bi, ↓r_not, ↓r_and, ↓r_or, ↓r_ife, ↓r_chain, ↓r_none, ↓rp_cst, ↓rp_glob, ↓rp_bin, ↓rp_neg, ↓rp_ife, ↓rp_ix, ↓rp_bi, ↓rp_call, ↓rp_var, ↓r_sl, ↓r_call, ↓r_alloc, ↓r_allocM, ↓r_prim1, ↓r_prim2, ↓r_primN, ↓rd_nil, ↓rd_cons, ↓rd_int, ↓rd_bl, ↓rd_str, ↓rd_non, ↓rd_tup, ↓rd_lst, ↓rd_scr, ↓rd_dic, ↓rd_cls, ↓rd_fn, ↓rd_s, ↓rd_r, ↓r_chN, refP_s, ↓ri_seq, ↓rq_tup, ↓rq_lst, ↓r_var, ↓ra_var, ↓r_ret, ↓r_frz, ↓r_asBl, ↓r_asInt, ↓r_liftS, ↓ri_range, ↓ri_range2, ↓ri_zip, ↓ri_enum, ↓r_calle, ↓rc_fn, ↓en_lst, ↓en_tup, ↓rz_tup, ↓rz_lst, ↓rz_tl, ↓rz_lt, ↓ri_zip3, ↓rz_ttt, ↓rz_ttl, ↓rz_lll, ↓rx_expr, ↓rx_set, ↓rx_frz, ↓rx_ret, ↓rx_iff, ↓rx_mat, ↓then_nx, ↓then_rt, ↓then_bk, ↓then_ct, ↓rx_nil, ↓rx_cons, ↓rx_asg, ↓rt_name, ↓rt_tup, ↓rt_lst, ↓rt_nil, ↓rt_cons, ↓rx_setix, ↓rx_app, ↓rx_ext, ↓r_pop, ↓r_needL, ↓lstP_l, ↓obP_s, ↓r_chS, ↓rr_nil, ↓rr_cons, ↓rh_v, ↓rh_l, ↓rx_par, ↓rx_pass, ↓rx_for, ↓varP_v, ↓varP_n, bin_addI, bin_subI, cmp_lt, cmp_le, cmp_gt, cmp_ge, cmp_eqI, cmp_neI, cmp_eqB, cmp_eqS, cmp_neS, blR_s, bi_lenT, bi_lenL, bi_lenS, bi_tupT, bi_tupL, bi_lstT, bi_lstL, bi_max, bi_min, bi_intB, neg_i, isi_int, isi_tup, isi_lst, isi_dic, isi_str, isi_non, isi_bl, List.getElem?_cons_zero, List.getElem?_cons_succ, List.set_cons_zero, List.set_cons_succ, Option.map_some, R.flat, R.d, Ob.flat, Ob.d, true_and, and_true, eq_self, decide_eq_true_eq, reduceIte, Bool.true_and, Bool.false_and, Bool.and_false, Bool.and_true, Bool.false_eq_true, decide_true, decide_false, Bool.not_true, Bool.not_false, List.length_map, List.length_cons, List.length_nil, reduceCtorEq, and_self, true_or, or_true, or_false, false_or, or_self] at z
          exact z
        · obtain ⟨r', q1, q2⟩ := put0 0 (.inr (.inl rfl))
          simp -dsimp only [wipe_n, wipe_c, ↓ra_nop, ↓ra_cst, ↓ra_glob, ↓ra_tup, ↓ra_lst, ↓ra_dic, ↓ra_bin, ↓ra_neg, ↓ra_not, ↓ra_and, ↓ra_or, ↓ra_ife, ↓ra_cmp, ↓ra_chain, ↓ra_ix, ↓ra_sl, ↓ra_rev, ↓ra_get2, ↓r_get2, ↓r_needT, ↓ra_isi, ↓ra_bi, ↓ra_call, ↓ra_calle, ↓ra_pop, ↓ra_alloc, ↓ra_comp, ↓ra_comp2, ↓ra_me, ↓ra_lrange, ↓r_dic, ↓r_needM, ↓r_me, ↓r_lrange, me_cl, me_js, me_ss, ↓r_cst, ↓r_glob, ↓re_nil, ↓re_cons, ↓rsa_nil, ↓rsa_cons, ↓r_tup, ↓r_lst, ↓r_bin, ↓r_cmp, ↓r_ix, ↓r_neg, ↓r_isi, ↓r_bi, ↓r_not, ↓r_and, ↓r_or, ↓r_ife, ↓r_chain, ↓r_none, ↓rp_cst, ↓rp_glob, ↓rp_bin, ↓rp_neg, ↓rp_ife, ↓rp_ix, ↓rp_bi, ↓rp_call, ↓rp_var, ↓r_sl, ↓r_call, ↓r_alloc, ↓r_allocM, ↓r_prim1, ↓r_prim2, ↓r_primN, ↓rd_nil, ↓rd_cons, ↓rd_int, ↓rd_bl, ↓rd_str, ↓rd_non, ↓rd_tup, ↓rd_lst, ↓rd_scr, ↓rd_dic, ↓rd_cls, ↓rd_fn, ↓rd_s, ↓rd_r, ↓r_chN, refP_s, ↓ri_seq, ↓rq_tup, ↓rq_lst, ↓r_var, ↓ra_var, ↓r_ret, ↓r_frz, ↓r_asBl, ↓r_asInt, ↓r_liftS, ↓ri_range, ↓ri_range2, ↓ri_zip, ↓ri_enum, ↓r_calle, ↓rc_fn, ↓en_lst, ↓en_tup, ↓rz_tup, ↓rz_lst, ↓rz_tl, ↓rz_lt, ↓ri_zip3, ↓rz_ttt, ↓rz_ttl, ↓rz_lll, ↓rx_expr, ↓rx_set, ↓rx_frz, ↓rx_ret, ↓rx_iff, ↓rx_mat, ↓then_nx, ↓then_rt, ↓then_bk, ↓then_ct, ↓rx_nil, ↓rx_cons, ↓rx_asg, ↓rt_name, ↓rt_tup, ↓rt_lst, ↓rt_nil, ↓rt_cons, ↓rx_setix, ↓rx_app, ↓rx_ext, ↓r_pop, ↓r_needL, ↓lstP_l, ↓obP_s, ↓r_chS, ↓rr_nil, ↓rr_cons, ↓rh_v, ↓rh_l, ↓rx_par, ↓rx_pass, ↓rx_for, ↓varP_v, ↓varP_n, bin_addI, bin_subI, cmp_lt, cmp_le, cmp_gt, cmp_ge, cmp_eqI, cmp_neI, cmp_eqB, cmp_eqS, cmp_neS, blR_s, bi_lenT, bi_lenL, bi_lenS, bi_tupT, bi_tupL, bi_lstT, bi_lstL, bi_max, bi_min, bi_intB, neg_i, isi_int, isi_tup, isi_lst, isi_dic, isi_str, isi_non, isi_bl, List.getElem?_cons_zero, List.getElem?_cons_succ, List.set_cons_zero, List.set_cons_succ, Option.map_some, R.flat, R.d, Ob.flat, Ob.d, true_and, and_true, eq_self, decide_eq_true_eq, reduceIte, Bool.true_and, Bool.false_and, Bool.and_false, Bool.and_true, Bool.false_eq_true, decide_true, decide_false, Bool.not_true, Bool.not_false, List.length_map, List.length_cons, List.length_nil, reduceCtorEq, and_self, true_or, or_true, or_false, false_or, or_self, at0', h1, ↓r_chN, hat, refP_s, q2]
          have z := rest _ x0 none q1 hx
          simp -dsimp only [wipe_n, wipe_c, ↓ra_nop, ↓ra_cst, ↓ra_glob, ↓ra_tup, ↓ra_lst, ↓ra_dic, ↓ra_bin, ↓ra_neg, ↓ra_not, ↓ra_and, ↓ra_or, ↓ra_ife, ↓ra_cmp, ↓ra_chain, ↓ra_ix, ↓ra_sl, ↓ra_rev, ↓ra_get2, ↓r_get2, ↓r_needT, ↓ra_isi, ↓ra_bi, ↓ra_call, ↓ra_calle, ↓ra_pop, ↓ra_alloc, ↓ra_comp, ↓ra_comp2, ↓ra_me, ↓ra_lrange, ↓r_dic, ↓r_needM, ↓r_me, ↓r_lrange, me_cl, me_js, me_ss, ↓r_cst, ↓r_glob, ↓re_nil, ↓re_cons, ↓rsa_nil, ↓rsa_cons, ↓r_tup, ↓r_lst, ↓r_bin, ↓r_cmp, ↓r_ix, ↓r_neg, ↓r_isi, ↓r_bi, ↓r_not, ↓r_and, ↓r_or, ↓r_ife, ↓r_chain, ↓r_none, ↓rp_cst, ↓rp_glob, ↓rp_bin, ↓rp_neg, ↓rp_ife, ↓rp_ix, ↓rp_bi, ↓rp_call, ↓rp_var, ↓r_sl, ↓r_call, ↓r_alloc, ↓r_allocM, ↓r_prim1, ↓r_prim2, ↓r_primN, ↓rd_nil, ↓rd_cons, ↓rd_int, ↓rd_bl, ↓rd_str, ↓rd_non, ↓rd_tup, ↓rd_lst, ↓rd_scr, ↓rd_dic, ↓rd_cls, ↓rd_fn, ↓rd_s, ↓rd_r, ↓r_chN, refP_s, ↓ri_seq, ↓rq_tup, ↓rq_lst, ↓r_var, ↓ra_var, ↓r_ret, ↓r_frz, ↓r_asBl, ↓r_asInt, ↓r_liftS, ↓ri_range, ↓ri_range2, ↓ri_zip, ↓ri_enum, ↓r_calle, ↓rc_fn, ↓en_lst, ↓en_tup, ↓rz_tup, ↓rz_lst, ↓rz_tl, ↓rz_lt, ↓ri_zip3, ↓rz_ttt, ↓rz_ttl, ↓rz_lll, ↓rx_expr, ↓rx_set, ↓rx_frz, ↓rx_ret, ↓rx_iff, ↓rx_mat, ↓then_nx, ↓then_rt, ↓then_bk, ↓then_ct, ↓rx_nil, ↓rx_cons, ↓rx_asg, ↓rt_name, ↓rt_tup, ↓rt_lst, ↓rt_nil, ↓rt_cons, ↓rx_setix, ↓rx_app, ↓rx_ext, ↓r_pop, ↓r_needL, ↓lstP_l, ↓obP_s, ↓r_chS, ↓rr_nil, ↓rr_cons, ↓rh_v, ↓rh_l, ↓rx_par, ↓rx_pass, ↓rx_for, ↓varP_v, ↓varP_n, bin_addI, bin_subI, cmp_lt, cmp_le, cmp_gt, cmp_ge, cmp_eqI, cmp_neI, cmp_eqB, cmp_eqS, cmp_neS, blR_s, bi_lenT, bi_lenL, bi_lenS, bi_tupT, bi_tupL, bi_lstT, bi_lstL, bi_max, bi_min, bi_intB, neg_i, isi_int, isi_tup, isi_lst, isi_dic, isi_str, isi_non, isi_bl, List.getElem?_cons_zero, List.getElem?_cons_succ, List.set_cons_zero, List.set_cons_succ, Option.map_some, R.flat, R.d, Ob.flat, Ob.d, true_and, and_true, eq_self, decide_eq_true_eq, reduceIte, Bool.true_and, Bool.false_and, Bool.and_false, Bool.and_true, Bool.false_eq_true, decide_true, decide_false, Bool.not_true, Bool.not_false, List.length_map, List.length_cons, List.length_nil, reduceCtorEq, and_self, true_or, or_true, or_false, false_or, or_self] at z
          exact z
  obtain ⟨r, s', h1, t, rfl, h3, h4⟩ := z
  exact ⟨t, s', h1, h3, h4⟩
def MixedUpC (C : List D → Sto → COut) : Prop := ∀ (s : Sto) (n k : Nat) (t : List (List Int)), PenAt s n → Tab k t → k ≤ 7 → ∃ t' s', C [.ref n, tI t] s = .ok (.val (tI t')) s' ∧ Tab k t' ∧ Pn n s s'
theorem c_law_mixed_up (hd : Lw T d gd DrawC) (h : IsF T g (F_law_mixed_up gd)) : Lw T (d + 1) g MixedUpC := Lw.of h fun j hj s n k t hp ht hk => by
  have dr := hd.at hj
  have z : ∃ r s', (F_law_mixed_up gd).run (orc T j) [.ref n, tI t] s = .ok r s' ∧ ∃ t', r = .val (tI t') ∧ Tab k t' ∧ Pn n s s' := by
    refine run_ex [some (.val (.ref n)), some (.val (tI t)), none, none, none, none, none] rfl rfl ?_
    unfold F_law_mixed_up
    simp -dsimp only [wipe_n, wipe_c, ↓ra_nop, ↓ra_cst, ↓ra_glob, ↓ra_tup, ↓ra_lst, ↓ra_dic, ↓ra_bin, ↓ra_neg, ↓ra_not, ↓ra_and, ↓ra_or, ↓ra_ife, ↓ra_cmp, ↓ra_chain, ↓ra_ix, ↓ra_sl, ↓ra_rev, ↓ra_get2, ↓r_get2, ↓r_needT, ↓ra_isi, ↓ra_bi, ↓ra_call, ↓ra_calle, ↓ra_pop, ↓ra_alloc, ↓ra_comp, ↓ra_comp2, ↓ra_me, ↓ra_lrange, ↓r_dic, ↓r_needM, ↓r_me, ↓r_lrange, me_cl, me_js, me_ss, ↓r_cst, ↓r_glob, ↓re_nil, ↓re_cons, ↓rsa_nil, ↓rsa_cons, ↓r_tup, ↓r_lst, ↓r_bin, ↓r_cmp, ↓r_ix, ↓r_neg, ↓r_isi, ↓r_bi, ↓r_not, ↓r_and, ↓r_or, ↓r_ife, ↓r_chain, ↓r_none, ↓rp_cst, ↓rp_glob, ↓rp_bin, ↓rp_neg, ↓rp_ife, ↓rp_ix, ↓rp_bi, ↓rp_call, ↓rp_var, ↓r_sl, ↓r_call, ↓r_alloc, ↓r_allocM, ↓r_prim1, ↓r_prim2, ↓r_primN, ↓rd_nil, ↓rd_cons, ↓rd_int, ↓rd_bl, ↓rd_str, ↓rd_non, ↓rd_tup, ↓rd_lst, ↓rd_scr, ↓rd_dic, ↓rd_cls, ↓rd_fn, ↓rd_s, ↓rd_r, ↓r_chN, refP_s, ↓ri_seq, ↓rq_tup, ↓rq_lst, ↓r_var, ↓ra_var, ↓r_ret, ↓r_frz, ↓r_asBl, ↓r_asInt, ↓r_liftS, ↓ri_range, ↓ri_range2, ↓ri_zip, ↓ri_enum, ↓r_calle, ↓rc_fn, ↓en_lst, ↓en_tup, ↓rz_tup, ↓rz_lst, ↓rz_tl, ↓rz_lt, ↓ri_zip3, ↓rz_ttt, ↓rz_ttl, ↓rz_lll, ↓rx_expr, ↓rx_set, ↓rx_frz, ↓rx_ret, ↓rx_iff, ↓rx_mat, ↓then_nx, ↓then_rt, ↓then_bk, ↓then_ct, ↓rx_nil, ↓rx_cons, ↓rx_asg, ↓rt_name, ↓rt_tup, ↓rt_lst, ↓rt_nil, ↓rt_cons, ↓rx_setix, ↓rx_app, ↓rx_ext, ↓r_pop, ↓r_needL, ↓lstP_l, ↓obP_s, ↓r_chS, ↓rr_nil, ↓rr_cons, ↓rh_v, ↓rh_l, ↓rx_par, ↓rx_pass, ↓rx_for, ↓varP_v, ↓varP_n, bin_addI, bin_subI, cmp_lt, cmp_le, cmp_gt, cmp_ge, cmp_eqI, cmp_neI, cmp_eqB, cmp_eqS, cmp_neS, blR_s, bi_lenT, bi_lenL, bi_lenS, bi_tupT, bi_tupL, bi_lstT, bi_lstL, bi_max, bi_min, bi_intB, neg_i, isi_int, isi_tup, isi_lst, isi_dic, isi_str, isi_non, isi_bl, List.getElem?_cons_zero, List.getElem?_cons_succ, List.set_cons_zero, List.set_cons_succ, Option.map_some, R.flat, R.d, Ob.flat, Ob.d, true_and, and_true, eq_self, decide_eq_true_eq, reduceIte, Bool.true_and, Bool.false_and, Bool.and_false, Bool.and_true, Bool.false_eq_true, decide_true, decide_false, Bool.not_true, Bool.not_false, List.length_map, List.length_cons, List.length_nil, reduceCtorEq, and_self, true_or, or_true, or_false, false_or, or_self, tI_def, sets]
    refine ⟨by decide, ?_⟩
    refine wx_whl ?_
    refine ⟨fun m e s2 => ∃ (l f : List (List Int)) (x y : Option R), e = [some (.val (.ref n)), some (.val (.tup (t.map rI))), some (.new (.lst (l.map rI))), some (.new (.lst (f.map rI))), x, y, none] ∧ l.length = m ∧ f.length + m = k ∧ (∀ r ∈ l, Row k r) ∧ (∀ r ∈ f, Row k r) ∧ Pn n s s2, k, by omega, ⟨t, [], none, none, rfl, ht.1, by simp, ht.2, fun r hr => (by cases hr), Pn.refl hp⟩, ?_⟩
    rintro m e1 s2 ⟨l, f, x, y, rfl, hl, hf, h1, h2, p1⟩
    have e1 : (l.map rI).isEmpty = l.isEmpty := by cases l <;> rfl
    simp -dsimp only [wipe_n, wipe_c, ↓ra_nop, ↓ra_cst, ↓ra_glob, ↓ra_tup, ↓ra_lst, ↓ra_dic, ↓ra_bin, ↓ra_neg, ↓ra_not, ↓ra_and, ↓ra_or, ↓ra_ife, ↓ra_cmp, ↓ra_chain, ↓ra_ix, ↓ra_sl, ↓ra_rev, ↓ra_get2, ↓r_get2, ↓r_needT, ↓ra_isi, ↓ra_bi, ↓ra_call, ↓ra_calle, ↓ra_pop, ↓ra_alloc, ↓ra_comp, ↓ra_comp2, ↓ra_me, ↓ra_lrange, ↓r_dic, ↓r_needM, ↓r_me, ↓r_lrange, me_cl, me_js, me_ss, ↓r_cst, ↓r_glob, ↓re_nil, ↓re_cons, ↓rsa_nil, ↓rsa_cons, ↓r_tup, ↓r_lst, ↓r_bin, ↓r_cmp, ↓r_ix, ↓r_neg, ↓r_isi, ↓r_bi, ↓r_not, ↓r_and, ↓r_or, ↓r_ife, ↓r_chain, ↓r_none, ↓rp_cst, ↓rp_glob, ↓rp_bin, ↓rp_neg, ↓rp_ife, ↓rp_ix, ↓rp_bi, ↓rp_call, ↓rp_var, ↓r_sl, ↓r_call, ↓r_alloc, ↓r_allocM, ↓r_prim1, ↓r_prim2, ↓r_primN, ↓rd_nil, ↓rd_cons, ↓rd_int, ↓rd_bl, ↓rd_str, ↓rd_non, ↓rd_tup, ↓rd_lst, ↓rd_scr, ↓rd_dic, ↓rd_cls, ↓rd_fn, ↓rd_s, ↓rd_r, ↓r_chN, refP_s, ↓ri_seq, ↓rq_tup, ↓rq_lst, ↓r_var, ↓ra_var, ↓r_ret, ↓r_frz, ↓r_asBl, ↓r_asInt, ↓r_liftS, ↓ri_range, ↓ri_range2, ↓ri_zip, ↓ri_enum, ↓r_calle, ↓rc_fn, ↓en_lst, ↓en_tup, ↓rz_tup, ↓rz_lst, ↓rz_tl, ↓rz_lt, ↓ri_zip3, ↓rz_ttt, ↓rz_ttl, ↓rz_lll, ↓rx_expr, ↓rx_set, ↓rx_frz, ↓rx_ret, ↓rx_iff, ↓rx_mat, ↓then_nx, ↓then_rt, ↓then_bk, ↓then_ct, ↓rx_nil, ↓rx_cons, ↓rx_asg, ↓rt_name, ↓rt_tup, ↓rt_lst, ↓rt_nil, ↓rt_cons, ↓rx_setix, ↓rx_app, ↓rx_ext, ↓r_pop, ↓r_needL, ↓lstP_l, ↓obP_s, ↓r_chS, ↓rr_nil, ↓rr_cons, ↓rh_v, ↓rh_l, ↓rx_par, ↓rx_pass, ↓rx_for, ↓varP_v, ↓varP_n, bin_addI, bin_subI, cmp_lt, cmp_le, cmp_gt, cmp_ge, cmp_eqI, cmp_neI, cmp_eqB, cmp_eqS, cmp_neS, blR_s, bi_lenT, bi_lenL, bi_lenS, bi_tupT, bi_tupL, bi_lstT, bi_lstL, bi_max, bi_min, bi_intB, neg_i, isi_int, isi_tup, isi_lst, isi_dic, isi_str, isi_non, isi_bl, List.getElem?_cons_zero, List.getElem?_cons_succ, List.set_cons_zero, List.set_cons_succ, Option.map_some, R.flat, R.d, Ob.flat, Ob.d, true_and, and_true, eq_self, decide_eq_true_eq, reduceIte, Bool.true_and, Bool.false_and, Bool.and_false, Bool.and_true, Bool.false_eq_true, decide_true, decide_false, Bool.not_true, Bool.not_false, List.length_map, List.length_cons, List.length_nil, reduceCtorEq, and_self, true_or, or_true, or_false, false_or, or_self, ne_nil cmp_rows, e1]
    refine ⟨by decide, _, rfl, fun hk => ?_, fun hk => ?_⟩
    · obtain ⟨m', rfl⟩ : ∃ m', m = m' + 1 := by
        cases l with
        | nil => simp at hk
        | cons a l => exact ⟨l.length, by simpa using hl.symm⟩
      refine ⟨by omega, ?_⟩
      obtain ⟨u, s4, e4, ⟨u0, u1⟩, p4⟩ := dr.gives p1.1 (m := (l.length : Int)) (by omega) (by omega)
      obtain ⟨i, rfl⟩ : ∃ i : Nat, u = i := ⟨u.toNat, by omega⟩
      obtain ⟨w, s5, e5, ⟨w0, w1⟩, p5⟩ := dr.gives p4.1 (m := 2) (by omega) (by omega)
      have mo : mulOk 2 w = true := mulL (by decide)
      have hi : i < l.length := by omega
      have hrow := h1 l[i] (List.getElem_mem hi)
      have e6 : popO (i : Int) (.lst (l.map rI)) = some (.lst ((l.eraseIdx i).map rI), .val (rI l[i])) := by
        rw [pop_at (x := rI l[i]) (by simp; show _ ≤ 16777216; omega) (by rw [List.getElem?_map, List.getElem?_eq_getElem hi]; rfl), erase_map]
      have e7 : ∀ d : D, appO d (.lst (f.map rI)) = some (.lst (f.map rI ++ [d]), .val .non) := fun d => app_l (by simp; show _ < 16777216; omega)
      simp -dsimp only [wipe_n, wipe_c, ↓ra_nop, ↓ra_cst, ↓ra_glob, ↓ra_tup, ↓ra_lst, ↓ra_dic, ↓ra_bin, ↓ra_neg, ↓ra_not, ↓ra_and, ↓ra_or, ↓ra_ife, ↓ra_cmp, ↓ra_chain, ↓ra_ix, ↓ra_sl, ↓ra_rev, ↓ra_get2, ↓r_get2, ↓r_needT, ↓ra_isi, ↓ra_bi, ↓ra_call, ↓ra_calle, ↓ra_pop, ↓ra_alloc, ↓ra_comp, ↓ra_comp2, ↓ra_me, ↓ra_lrange, ↓r_dic, ↓r_needM, ↓r_me, ↓r_lrange, me_cl, me_js, me_ss, ↓r_cst, ↓r_glob, ↓re_nil, ↓re_cons, ↓rsa_nil, ↓rsa_cons, ↓r_tup, ↓r_lst, ↓r_bin, ↓r_cmp, ↓r_ix, ↓r_neg, ↓r_isi, ↓r_bi, ↓r_not, ↓r_and, ↓r_or, ↓r_ife, ↓r_chain, ↓r_none, ↓rp_cst, ↓rp_glob, ↓rp_bin, ↓rp_neg, ↓rp_ife, ↓rp_ix, ↓rp_bi, ↓rp_call, ↓rp_var, ↓r_sl, ↓r_call, ↓r_alloc, ↓r_allocM, ↓r_prim1, ↓r_prim2, ↓r_primN, ↓rd_nil, ↓rd_cons, ↓rd_int, ↓rd_bl, ↓rd_str, ↓rd_non, ↓rd_tup, ↓rd_lst, ↓rd_scr, ↓rd_dic, ↓rd_cls, ↓rd_fn, ↓rd_s, ↓rd_r, ↓r_chN, refP_s, ↓ri_seq, ↓rq_tup, ↓rq_lst, ↓r_var, ↓ra_var, ↓r_ret, ↓r_frz, ↓r_asBl, ↓r_asInt, ↓r_liftS, ↓ri_range, ↓ri_range2, ↓ri_zip, ↓ri_enum, ↓r_calle, ↓rc_fn, ↓en_lst, ↓en_tup, ↓rz_tup, ↓rz_lst, ↓rz_tl, ↓rz_lt, ↓ri_zip3, ↓rz_ttt, ↓rz_ttl, ↓rz_lll, ↓rx_expr, ↓rx_set, ↓rx_frz, ↓rx_ret, ↓rx_iff, ↓rx_mat, ↓then_nx, ↓then_rt, ↓then_bk, ↓then_ct, ↓rx_nil, ↓rx_cons, ↓rx_asg, ↓rt_name, ↓rt_tup, ↓rt_lst, ↓rt_nil, ↓rt_cons, ↓rx_setix, ↓rx_app, ↓rx_ext, ↓r_pop, ↓r_needL, ↓lstP_l, ↓obP_s, ↓r_chS, ↓rr_nil, ↓rr_cons, ↓rh_v, ↓rh_l, ↓rx_par, ↓rx_pass, ↓rx_for, ↓varP_v, ↓varP_n, bin_addI, bin_subI, cmp_lt, cmp_le, cmp_gt, cmp_ge, cmp_eqI, cmp_neI, cmp_eqB, cmp_eqS, cmp_neS, blR_s, bi_lenT, bi_lenL, bi_lenS, bi_tupT, bi_tupL, bi_lstT, bi_lstL, bi_max, bi_min, bi_intB, neg_i, isi_int, isi_tup, isi_lst, isi_dic, isi_str, isi_non, isi_bl, List.getElem?_cons_zero, List.getElem?_cons_succ, List.set_cons_zero, List.set_cons_succ, Option.map_some, R.flat, R.d, Ob.flat, Ob.d, true_and, and_true, eq_self, decide_eq_true_eq, reduceIte, Bool.true_and, Bool.false_and, Bool.and_false, Bool.and_true, Bool.false_eq_true, decide_true, decide_false, Bool.not_true, Bool.not_false, List.length_map, List.length_cons, List.length_nil, reduceCtorEq, and_self, true_or, or_true, or_false, false_or, or_self, r_callM e4, e6, obP_s, r_callM e5, bin_mulI mo, rI_def]
      refine ⟨by decide, ?_⟩
      refine wv_compM ?_
      simp -dsimp only [wipe_n, wipe_c, ↓ra_nop, ↓ra_cst, ↓ra_glob, ↓ra_tup, ↓ra_lst, ↓ra_dic, ↓ra_bin, ↓ra_neg, ↓ra_not, ↓ra_and, ↓ra_or, ↓ra_ife, ↓ra_cmp, ↓ra_chain, ↓ra_ix, ↓ra_sl, ↓ra_rev, ↓ra_get2, ↓r_get2, ↓r_needT, ↓ra_isi, ↓ra_bi, ↓ra_call, ↓ra_calle, ↓ra_pop, ↓ra_alloc, ↓ra_comp, ↓ra_comp2, ↓ra_me, ↓ra_lrange, ↓r_dic, ↓r_needM, ↓r_me, ↓r_lrange, me_cl, me_js, me_ss, ↓r_cst, ↓r_glob, ↓re_nil, ↓re_cons, ↓rsa_nil, ↓rsa_cons, ↓r_tup, ↓r_lst, ↓r_bin, ↓r_cmp, ↓r_ix, ↓r_neg, ↓r_isi, ↓r_bi, ↓r_not, ↓r_and, ↓r_or, ↓r_ife, ↓r_chain, ↓r_none, ↓rp_cst, ↓rp_glob, ↓rp_bin, ↓rp_neg, ↓rp_ife, ↓rp_ix, ↓rp_bi, ↓rp_call, ↓rp_var, ↓r_sl, ↓r_call, ↓r_alloc, ↓r_allocM, ↓r_prim1, ↓r_prim2, ↓r_primN, ↓rd_nil, ↓rd_cons, ↓rd_int, ↓rd_bl, ↓rd_str, ↓rd_non, ↓rd_tup, ↓rd_lst, ↓rd_scr, ↓rd_dic, ↓rd_cls, ↓rd_fn, ↓rd_s, ↓rd_r, ↓r_chN, refP_s, ↓ri_seq, ↓rq_tup, ↓rq_lst, ↓r_var, ↓ra_var, ↓r_ret, ↓r_frz, ↓r_asBl, ↓r_asInt, ↓r_liftS, ↓ri_range, ↓ri_range2, ↓ri_zip, ↓ri_enum, ↓r_calle, ↓rc_fn, ↓en_lst, ↓en_tup, ↓rz_tup, ↓rz_lst, ↓rz_tl, ↓rz_lt, ↓ri_zip3, ↓rz_ttt, ↓rz_ttl, ↓rz_lll, ↓rx_expr, ↓rx_set, ↓rx_frz, ↓rx_ret, ↓rx_iff, ↓rx_mat, ↓then_nx, ↓then_rt, ↓then_bk, ↓then_ct, ↓rx_nil, ↓rx_cons, ↓rx_asg, ↓rt_name, ↓rt_tup, ↓rt_lst, ↓rt_nil, ↓rt_cons, ↓rx_setix, ↓rx_app, ↓rx_ext, ↓r_pop, ↓r_needL, ↓lstP_l, ↓obP_s, ↓r_chS, ↓rr_nil, ↓rr_cons, ↓rh_v, ↓rh_l, ↓rx_par, ↓rx_pass, ↓rx_for, ↓varP_v, ↓varP_n, bin_addI, bin_subI, cmp_lt, cmp_le, cmp_gt, cmp_ge, cmp_eqI, cmp_neI, cmp_eqB, cmp_eqS, cmp_neS, blR_s, bi_lenT, bi_lenL, bi_lenS, bi_tupT, bi_tupL, bi_lstT, bi_lstL, bi_max, bi_min, bi_intB, neg_i, isi_int, isi_tup, isi_lst, isi_dic, isi_str, isi_non, isi_bl, List.getElem?_cons_zero, List.getElem?_cons_succ, List.set_cons_zero, List.set_cons_succ, Option.map_some, R.flat, R.d, Ob.flat, Ob.d, true_and, and_true, eq_self, decide_eq_true_eq, reduceIte, Bool.true_and, Bool.false_and, Bool.and_false, Bool.and_true, Bool.false_eq_true, decide_true, decide_false, Bool.not_true, Bool.not_false, List.length_map, List.length_cons, List.length_nil, reduceCtorEq, and_self, true_or, or_true, or_false, false_or, or_self]
      refine ⟨rfl, by simp [hrow.1]; show _ ≤ 16777216; omega, Int, l[i], .int, fun x => some (.int ((2 * w - 1) * x)), rfl, fun x hx => wt_all rfl ?_, ?_⟩
      · have m2 : mulOk (2 * w - 1) x = true := mulL (by omega)
        simp -dsimp only [wipe_n, wipe_c, ↓ra_nop, ↓ra_cst, ↓ra_glob, ↓ra_tup, ↓ra_lst, ↓ra_dic, ↓ra_bin, ↓ra_neg, ↓ra_not, ↓ra_and, ↓ra_or, ↓ra_ife, ↓ra_cmp, ↓ra_chain, ↓ra_ix, ↓ra_sl, ↓ra_rev, ↓ra_get2, ↓r_get2, ↓r_needT, ↓ra_isi, ↓ra_bi, ↓ra_call, ↓ra_calle, ↓ra_pop, ↓ra_alloc, ↓ra_comp, ↓ra_comp2, ↓ra_me, ↓ra_lrange, ↓r_dic, ↓r_needM, ↓r_me, ↓r_lrange, me_cl, me_js, me_ss, ↓r_cst, ↓r_glob, ↓re_nil, ↓re_cons, ↓rsa_nil, ↓rsa_cons, ↓r_tup, ↓r_lst, ↓r_bin, ↓r_cmp, ↓r_ix, ↓r_neg, ↓r_isi, ↓r_bi, ↓r_not, ↓r_and, ↓r_or, ↓r_ife, ↓r_chain, ↓r_none, ↓rp_cst, ↓rp_glob, ↓rp_bin, ↓rp_neg, ↓rp_ife, ↓rp_ix, ↓rp_bi, ↓rp_call, ↓rp_var, ↓r_sl, ↓r_call, ↓r_alloc, ↓r_allocM, ↓r_prim1, ↓r_prim2, ↓r_primN, ↓rd_nil, ↓rd_cons, ↓rd_int, ↓rd_bl, ↓rd_str, ↓rd_non, ↓rd_tup, ↓rd_lst, ↓rd_scr, ↓rd_dic, ↓rd_cls, ↓rd_fn, ↓rd_s, ↓rd_r, ↓r_chN, refP_s, ↓ri_seq, ↓rq_tup, ↓rq_lst, ↓r_var, ↓ra_var, ↓r_ret, ↓r_frz, ↓r_asBl, ↓r_asInt, ↓r_liftS, ↓ri_range, ↓ri_range2, ↓ri_zip, ↓ri_enum, ↓r_calle, ↓rc_fn, ↓en_lst, ↓en_tup, ↓rz_tup, ↓rz_lst, ↓rz_tl, ↓rz_lt, ↓ri_zip3, ↓rz_ttt, ↓rz_ttl, ↓rz_lll, ↓rx_expr, ↓rx_set, ↓rx_frz, ↓rx_ret, ↓rx_iff, ↓rx_mat, ↓then_nx, ↓then_rt, ↓then_bk, ↓then_ct, ↓rx_nil, ↓rx_cons, ↓rx_asg, ↓rt_name, ↓rt_tup, ↓rt_lst, ↓rt_nil, ↓rt_cons, ↓rx_setix, ↓rx_app, ↓rx_ext, ↓r_pop, ↓r_needL, ↓lstP_l, ↓obP_s, ↓r_chS, ↓rr_nil, ↓rr_cons, ↓rh_v, ↓rh_l, ↓rx_par, ↓rx_pass, ↓rx_for, ↓varP_v, ↓varP_n, bin_addI, bin_subI, cmp_lt, cmp_le, cmp_gt, cmp_ge, cmp_eqI, cmp_neI, cmp_eqB, cmp_eqS, cmp_neS, blR_s, bi_lenT, bi_lenL, bi_lenS, bi_tupT, bi_tupL, bi_lstT, bi_lstL, bi_max, bi_min, bi_intB, neg_i, isi_int, isi_tup, isi_lst, isi_dic, isi_str, isi_non, isi_bl, List.getElem?_cons_zero, List.getElem?_cons_succ, List.set_cons_zero, List.set_cons_succ, Option.map_some, R.flat, R.d, Ob.flat, Ob.d, true_and, and_true, eq_self, decide_eq_true_eq, reduceIte, Bool.true_and, Bool.false_and, Bool.and_false, Bool.and_true, Bool.false_eq_true, decide_true, decide_false, Bool.not_true, Bool.not_false, List.length_map, List.length_cons, List.length_nil, reduceCtorEq, and_self, true_or, or_true, or_false, false_or, or_self, bin_mulI m2]
      · rw [filterMap_some]
        simp -dsimp only [wipe_n, wipe_c, ↓ra_nop, ↓ra_cst, ↓ra_glob, ↓ra_tup, ↓ra_lst, ↓ra_dic, ↓ra_bin, ↓ra_neg, ↓ra_not, ↓ra_and, ↓ra_or, ↓ra_ife, ↓ra_cmp, ↓ra_chain, ↓ra_ix, ↓ra_sl, ↓ra_rev, ↓ra_get2, ↓r_get2, ↓r_needT, ↓ra_isi, ↓ra_bi, ↓ra_call, ↓ra_calle, ↓ra_pop, ↓ra_alloc, ↓ra_comp, ↓ra_comp2, ↓ra_me, ↓ra_lrange, ↓r_dic, ↓r_needM, ↓r_me, ↓r_lrange, me_cl, me_js, me_ss, ↓r_cst, ↓r_glob, ↓re_nil, ↓re_cons, ↓rsa_nil, ↓rsa_cons, ↓r_tup, ↓r_lst, ↓r_bin, ↓r_cmp, ↓r_ix, ↓r_neg, ↓r_isi, ↓r_bi, ↓r_not, ↓r_and, ↓r_or, ↓r_ife, ↓r_chain, ↓r_none, ↓rp_cst, ↓rp_glob, ↓rp_bin, ↓rp_neg, ↓rp_ife, ↓rp_ix, ↓rp_bi, ↓rp_call, ↓rp_var, ↓r_sl, ↓r_call, ↓r_alloc, ↓r_allocM, ↓r_prim1, ↓r_prim2, ↓r_primN, ↓rd_nil, ↓rd_cons, ↓rd_int, ↓rd_bl, ↓rd_str, ↓rd_non, ↓rd_tup, ↓rd_lst, ↓rd_scr, ↓rd_dic, ↓rd_cls, ↓rd_fn, ↓rd_s, ↓rd_r, ↓r_chN, refP_s, ↓ri_seq, ↓rq_tup, ↓rq_lst, ↓r_var, ↓ra_var, ↓r_ret, ↓r_frz, ↓r_asBl, ↓r_asInt, ↓r_liftS, ↓ri_range, ↓ri_range2, ↓ri_zip, ↓ri_enum, ↓r_calle, ↓rc_fn, ↓en_lst, ↓en_tup, ↓rz_tup, ↓rz_lst, ↓rz_tl, ↓rz_lt, ↓ri_zip3, ↓rz_ttt, ↓rz_ttl, ↓rz_lll, ↓rx_expr, ↓rx_set, ↓rx_frz, ↓rx_ret, ↓rx_iff, ↓rx_mat, ↓then_nx, ↓then_rt, ↓then_bk, ↓then_ct, ↓rx_nil, ↓rx_cons, ↓rx_asg, ↓rt_name, ↓rt_tup, ↓rt_lst, ↓rt_nil, ↓rt_cons, ↓rx_setix, ↓rx_app, ↓rx_ext, ↓r_pop, ↓r_needL, ↓lstP_l, ↓obP_s, ↓r_chS, ↓rr_nil, ↓rr_cons, ↓rh_v, ↓rh_l, ↓rx_par, ↓rx_pass, ↓rx_for, ↓varP_v, ↓varP_n, bin_addI, bin_subI, cmp_lt, cmp_le, cmp_gt, cmp_ge, cmp_eqI, cmp_neI, cmp_eqB, cmp_eqS, cmp_neS, blR_s, bi_lenT, bi_lenL, bi_lenS, bi_tupT, bi_tupL, bi_lstT, bi_lstL, bi_max, bi_min, bi_intB, neg_i, isi_int, isi_tup, isi_lst, isi_dic, isi_str, isi_non, isi_bl, List.getElem?_cons_zero, List.getElem?_cons_succ, List.set_cons_zero, List.set_cons_succ, Option.map_some, R.flat, R.d, Ob.flat, Ob.d, true_and, and_true, eq_self, decide_eq_true_eq, reduceIte, Bool.true_and, Bool.false_and, Bool.and_false, Bool.and_true, Bool.false_eq_true, decide_true, decide_false, Bool.not_true, Bool.not_false, List.length_map, List.length_cons, List.length_nil, reduceCtorEq, and_self, true_or, or_true, or_false, false_or, or_self, e7]
        refine ⟨l.eraseIdx i, f ++ [l[i].map fun x => (2 * w - 1) * x], some (.val (.tup (l[i].map .int))), some (.val (.int (2 * w - 1))), by simp [rI], by rw [List.length_eraseIdx_of_lt hi]; omega, by simp; omega, fun r hr => h1 r (List.mem_of_mem_eraseIdx hr), fun r hr => ?_, (p1.trans p4).trans p5⟩
        rcases List.mem_append.mp hr with q | q
        · exact h2 r q
        · rw [List.mem_singleton.mp q]
          refine ⟨by simp [hrow.1], fun y hy => ?_⟩
          obtain ⟨z, hz, rfl⟩ := List.mem_map.mp hy
          exact sg_mul (sg_coin ⟨w0, w1⟩) (hrow.2 z hz)
    · have hl0 : l = [] := by cases l with | nil => rfl | cons a l => simp at hk
      subst hl0
      simp only [List.length_nil] at hl
      subst hl
      exact ⟨_, rfl, f, rfl, ⟨by omega, h2⟩, p1⟩
  obtain ⟨r, s', h1, t, rfl, h3, h4⟩ := z
  exact ⟨t, s', h1, h3, h4⟩
theorem c_law_table_2 (hd : Lw T d gd DrawC) (ha : Lw T d ga AnyTabC) (hg : Lw T d gg TabC) (hs : Lw T d gs TabC) (hc : Lw T d gc TabC) (hm : Lw T d gm MixedUpC) (hp : Lw T d gp PickC) (h : IsF T g (F_law_table_2 gd ga gg gs gc gm gp)) : Lw T (d + 1) g TabC := Lw.of h fun j hj s n k hpn hk1 hk => by
  have dr := hd.at hj
  have pk := hp.at hj
  have z : ∃ r s', (F_law_table_2 gd ga gg gs gc gm gp).run (orc T j) [.ref n, .int k] s = .ok r s' ∧ ∃ t', r = .val (tI t') ∧ Tab k t' ∧ Pn n s s' := by
    refine run_ex [some (.val (.ref n)), some (.val (.int k)), none] rfl rfl ?_
    obtain ⟨w, s3, e3, ⟨w0, w1⟩, p3⟩ := dr.gives hpn (m := 6) (by omega) (by omega)
    unfold F_law_table_2
    by_cases h0 : w = 0
    · obtain ⟨t, s4, e4, ht, p4⟩ := ha.at hj s3 n k p3.1 hk
      simp -dsimp only [wipe_n, wipe_c, ↓ra_nop, ↓ra_cst, ↓ra_glob, ↓ra_tup, ↓ra_lst, ↓ra_dic, ↓ra_bin, ↓ra_neg, ↓ra_not, ↓ra_and, ↓ra_or, ↓ra_ife, ↓ra_cmp, ↓ra_chain, ↓ra_ix, ↓ra_sl, ↓ra_rev, ↓ra_get2, ↓r_get2, ↓r_needT, ↓ra_isi, ↓ra_bi, ↓ra_call, ↓ra_calle, ↓ra_pop, ↓ra_alloc, ↓ra_comp, ↓ra_comp2, ↓ra_me, ↓ra_lrange, ↓r_dic, ↓r_needM, ↓r_me, ↓r_lrange, me_cl, me_js, me_ss, ↓r_cst, ↓r_glob, ↓re_nil, ↓re_cons, ↓rsa_nil, ↓rsa_cons, ↓r_tup, ↓r_lst, ↓r_bin, ↓r_cmp, ↓r_ix, ↓r_neg, ↓r_isi, ↓r_bi, ↓r_not, ↓r_and, ↓r_or, ↓r_ife, ↓r_chain, ↓r_none, ↓rp_cst, ↓rp_glob, ↓rp_bin, ↓rp_neg, ↓rp_ife, ↓rp_ix, ↓rp_bi, ↓rp_call, ↓rp_var, ↓r_sl, ↓r_call, ↓r_alloc, ↓r_allocM, ↓r_prim1, ↓r_prim2, ↓r_primN, ↓rd_nil, ↓rd_cons, ↓rd_int, ↓rd_bl, ↓rd_str, ↓rd_non, ↓rd_tup, ↓rd_lst, ↓rd_scr, ↓rd_dic, ↓rd_cls, ↓rd_fn, ↓rd_s, ↓rd_r, ↓r_chN, refP_s, ↓ri_seq, ↓rq_tup, ↓rq_lst, ↓r_var, ↓ra_var, ↓r_ret, ↓r_frz, ↓r_asBl, ↓r_asInt, ↓r_liftS, ↓ri_range, ↓ri_range2, ↓ri_zip, ↓ri_enum, ↓r_calle, ↓rc_fn, ↓en_lst, ↓en_tup, ↓rz_tup, ↓rz_lst, ↓rz_tl, ↓rz_lt, ↓ri_zip3, ↓rz_ttt, ↓rz_ttl, ↓rz_lll, ↓rx_expr, ↓rx_set, ↓rx_frz, ↓rx_ret, ↓rx_iff, ↓rx_mat, ↓then_nx, ↓then_rt, ↓then_bk, ↓then_ct, ↓rx_nil, ↓rx_cons, ↓rx_asg, ↓rt_name, ↓rt_tup, ↓rt_lst, ↓rt_nil, ↓rt_cons, ↓rx_setix, ↓rx_app, ↓rx_ext, ↓r_pop, ↓r_needL, ↓lstP_l, ↓obP_s, ↓r_chS, ↓rr_nil, ↓rr_cons, ↓rh_v, ↓rh_l, ↓rx_par, ↓rx_pass, ↓rx_for, ↓varP_v, ↓varP_n, bin_addI, bin_subI, cmp_lt, cmp_le, cmp_gt, cmp_ge, cmp_eqI, cmp_neI, cmp_eqB, cmp_eqS, cmp_neS, blR_s, bi_lenT, bi_lenL, bi_lenS, bi_tupT, bi_tupL, bi_lstT, bi_lstL, bi_max, bi_min, bi_intB, neg_i, isi_int, isi_tup, isi_lst, isi_dic, isi_str, isi_non, isi_bl, List.getElem?_cons_zero, List.getElem?_cons_succ, List.set_cons_zero, List.set_cons_succ, Option.map_some, R.flat, R.d, Ob.flat, Ob.d, true_and, and_true, eq_self, decide_eq_true_eq, reduceIte, Bool.true_and, Bool.false_and, Bool.and_false, Bool.and_true, Bool.false_eq_true, decide_true, decide_false, Bool.not_true, Bool.not_false, List.length_map, List.length_cons, List.length_nil, reduceCtorEq, and_self, true_or, or_true, or_false, false_or, or_self, r_callM e3, h0, r_callM e4]
      exact ⟨_, rfl, t, rfl, ht, p3.trans p4⟩
    by_cases h1 : w = 1
    · obtain ⟨t, s4, e4, ht, p4⟩ := hg.at hj s3 n k p3.1 hk1 hk
      simp -dsimp only [wipe_n, wipe_c, ↓ra_nop, ↓ra_cst, ↓ra_glob, ↓ra_tup, ↓ra_lst, ↓ra_dic, ↓ra_bin, ↓ra_neg, ↓ra_not, ↓ra_and, ↓ra_or, ↓ra_ife, ↓ra_cmp, ↓ra_chain, ↓ra_ix, ↓ra_sl, ↓ra_rev, ↓ra_get2, ↓r_get2, ↓r_needT, ↓ra_isi, ↓ra_bi, ↓ra_call, ↓ra_calle, ↓ra_pop, ↓ra_alloc, ↓ra_comp, ↓ra_comp2, ↓ra_me, ↓ra_lrange, ↓r_dic, ↓r_needM, ↓r_me, ↓r_lrange, me_cl, me_js, me_ss, ↓r_cst, ↓r_glob, ↓re_nil, ↓re_cons, ↓rsa_nil, ↓rsa_cons, ↓r_tup, ↓r_lst, ↓r_bin, ↓r_cmp, ↓r_ix, ↓r_neg, ↓r_isi, ↓r_bi, ↓r_not, ↓r_and, ↓r_or, ↓r_ife, ↓r_chain, ↓r_none, ↓rp_cst, ↓rp_glob, ↓rp_bin, ↓rp_neg, ↓rp_ife, ↓rp_ix, ↓rp_bi, ↓rp_call, ↓rp_var, ↓r_sl, ↓r_call, ↓r_alloc, ↓r_allocM, ↓r_prim1, ↓r_prim2, ↓r_primN, ↓rd_nil, ↓rd_cons, ↓rd_int, ↓rd_bl, ↓rd_str, ↓rd_non, ↓rd_tup, ↓rd_lst, ↓rd_scr, ↓rd_dic, ↓rd_cls, ↓rd_fn, ↓rd_s, ↓rd_r, ↓r_chN, refP_s, ↓ri_seq, ↓rq_tup, ↓rq_lst, ↓r_var, ↓ra_var, ↓r_ret, ↓r_frz, ↓r_asBl, ↓r_asInt, ↓r_liftS, ↓ri_range, ↓ri_range2, ↓ri_zip, ↓ri_enum, ↓r_calle, ↓rc_fn, ↓en_lst, ↓en_tup, ↓rz_tup, ↓rz_lst, ↓rz_tl, ↓rz_lt, ↓ri_zip3, ↓rz_ttt, ↓rz_ttl, ↓rz_lll, ↓rx_expr, ↓rx_set, ↓rx_frz, ↓rx_ret, ↓rx_iff, ↓rx_mat, ↓then_nx, ↓then_rt, ↓then_bk, ↓then_ct, ↓rx_nil, ↓rx_cons, ↓rx_asg, ↓rt_name, ↓rt_tup, ↓rt_lst, ↓rt_nil, ↓rt_cons, ↓rx_setix, ↓rx_app, ↓rx_ext, ↓r_pop, ↓r_needL, ↓lstP_l, ↓obP_s, ↓r_chS, ↓rr_nil, ↓rr_cons, ↓rh_v, ↓rh_l, ↓rx_par, ↓rx_pass, ↓rx_for, ↓varP_v, ↓varP_n, bin_addI, bin_subI, cmp_lt, cmp_le, cmp_gt, cmp_ge, cmp_eqI, cmp_neI, cmp_eqB, cmp_eqS, cmp_neS, blR_s, bi_lenT, bi_lenL, bi_lenS, bi_tupT, bi_tupL, bi_lstT, bi_lstL, bi_max, bi_min, bi_intB, neg_i, isi_int, isi_tup, isi_lst, isi_dic, isi_str, isi_non, isi_bl, List.getElem?_cons_zero, List.getElem?_cons_succ, List.set_cons_zero, List.set_cons_succ, Option.map_some, R.flat, R.d, Ob.flat, Ob.d, true_and, and_true, eq_self, decide_eq_true_eq, reduceIte, Bool.true_and, Bool.false_and, Bool.and_false, Bool.and_true, Bool.false_eq_true, decide_true, decide_false, Bool.not_true, Bool.not_false, List.length_map, List.length_cons, List.length_nil, reduceCtorEq, and_self, true_or, or_true, or_false, false_or, or_self, r_callM e3, h0, h1, r_callM e4]
      exact ⟨_, rfl, t, rfl, ht, p3.trans p4⟩
    by_cases h2 : w = 2
    · obtain ⟨t, s4, e4, ht, p4⟩ := hs.at hj s3 n k p3.1 hk1 hk
      simp -dsimp only [wipe_n, wipe_c, ↓ra_nop, ↓ra_cst, ↓ra_glob, ↓ra_tup, ↓ra_lst, ↓ra_dic, ↓ra_bin, ↓ra_neg, ↓ra_not, ↓ra_and, ↓ra_or, ↓ra_ife, ↓ra_cmp, ↓ra_chain, ↓ra_ix, ↓ra_sl, ↓ra_rev, ↓ra_get2, ↓r_get2, ↓r_needT, ↓ra_isi, ↓ra_bi, ↓ra_call, ↓ra_calle, ↓ra_pop, ↓ra_alloc, ↓ra_comp, ↓ra_comp2, ↓ra_me, ↓ra_lrange, ↓r_dic, ↓r_needM, ↓r_me, ↓r_lrange, me_cl, me_js, me_ss, ↓r_cst, ↓r_glob, ↓re_nil, ↓re_cons, ↓rsa_nil, ↓rsa_cons, ↓r_tup, ↓r_lst, ↓r_bin, ↓r_cmp, ↓r_ix, ↓r_neg, ↓r_isi, ↓r_bi, ↓r_not, ↓r_and, ↓r_or, ↓r_ife, ↓r_chain, ↓r_none, ↓rp_cst, ↓rp_glob, ↓rp_bin, ↓rp_neg, ↓rp_ife, ↓rp_ix, ↓rp_bi, ↓rp_call, ↓rp_var, ↓r_sl, ↓r_call, ↓r_alloc, ↓r_allocM, ↓r_prim1, ↓r_prim2, ↓r_primN, ↓rd_nil, ↓rd_cons, ↓rd_int, ↓rd_bl, ↓rd_str, ↓rd_non, ↓rd_tup, ↓rd_lst, ↓rd_scr, ↓rd_dic, ↓rd_cls, ↓rd_fn, ↓rd_s, ↓rd_r, ↓r_chN, refP_s, ↓ri_seq, ↓rq_tup, ↓rq_lst, ↓r_var, ↓ra_var, ↓r_ret, ↓r_frz, ↓r_asBl, ↓r_asInt, ↓r_liftS, ↓ri_range, ↓ri_range2, ↓ri_zip, ↓ri_enum, ↓r_calle, ↓rc_fn, ↓en_lst, ↓en_tup, ↓rz_tup, ↓rz_lst, ↓rz_tl, ↓rz_lt, ↓ri_zip3, ↓rz_ttt, ↓rz_ttl, ↓rz_lll, ↓rx_expr, ↓rx_set, ↓rx_frz, ↓rx_ret, ↓rx_iff, ↓rx_mat, ↓then_nx, ↓then_rt, ↓then_bk, ↓then_ct, ↓rx_nil, ↓rx_cons, ↓rx_asg, ↓rt_name, ↓rt_tup, ↓rt_lst, ↓rt_nil, ↓rt_cons, ↓rx_setix, ↓rx_app, ↓rx_ext, ↓r_pop, ↓r_needL, ↓lstP_l, ↓obP_s, ↓r_chS, ↓rr_nil, ↓rr_cons, ↓rh_v, ↓rh_l, ↓rx_par, ↓rx_pass, ↓rx_for, ↓varP_v, ↓varP_n, bin_addI, bin_subI, cmp_lt, cmp_le, cmp_gt, cmp_ge, cmp_eqI, cmp_neI, cmp_eqB, cmp_eqS, cmp_neS, blR_s, bi_lenT, bi_lenL, bi_lenS, bi_tupT, bi_tupL, bi_lstT, bi_lstL, bi_max, bi_min, bi_intB, neg_i, isi_int, isi_tup, isi_lst, isi_dic, isi_str, isi_non, isi_bl, List.getElem?_cons_zero, List.getElem?_cons_succ, List.set_cons_zero, List.set_cons_succ, Option.map_some, R.flat, R.d, Ob.flat, Ob.d, true_and, and_true, eq_self, decide_eq_true_eq, reduceIte, Bool.true_and, Bool.false_and, Bool.and_false, Bool.and_true, Bool.false_eq_true, decide_true, decide_false, Bool.not_true, Bool.not_false, List.length_map, List.length_cons, List.length_nil, reduceCtorEq, and_self, true_or, or_true, or_false, false_or, or_self, r_callM e3, h0, h1, h2, r_callM e4]
      exact ⟨_, rfl, t, rfl, ht, p3.trans p4⟩
    by_cases h3 : w = 3
    · obtain ⟨t, s4, e4, ht, p4⟩ := hc.at hj s3 n k p3.1 hk1 hk
      simp -dsimp only [wipe_n, wipe_c, ↓ra_nop, ↓ra_cst, ↓ra_glob, ↓ra_tup, ↓ra_lst, ↓ra_dic, ↓ra_bin, ↓ra_neg, ↓ra_not, ↓ra_and, ↓ra_or, ↓ra_ife, ↓ra_cmp, ↓ra_chain, ↓ra_ix, ↓ra_sl, ↓ra_rev, ↓ra_get2, ↓r_get2, ↓r_needT, ↓ra_isi, ↓ra_bi, ↓ra_call, ↓ra_calle, ↓ra_pop, ↓ra_alloc, ↓ra_comp, ↓ra_comp2, ↓ra_me, ↓ra_lrange, ↓r_dic, ↓r_needM, ↓r_me, ↓r_lrange, me_cl, me_js, me_ss, ↓r_cst, ↓r_glob, ↓re_nil, ↓re_cons, ↓rsa_nil, ↓rsa_cons, ↓r_tup, ↓r_lst, ↓r_bin, ↓r_cmp, ↓r_ix, ↓r_neg, ↓r_isi, ↓r_bi, ↓r_not, ↓r_and, ↓r_or, ↓r_ife, ↓r_chain, ↓r_none, ↓rp_cst, ↓rp_glob, ↓rp_bin, ↓rp_neg, ↓rp_ife, ↓rp_ix, ↓rp_bi, ↓rp_call, ↓rp_var, ↓r_sl, ↓r_call, ↓r_alloc, ↓r_allocM, ↓r_prim1, ↓r_prim2, ↓r_primN, ↓rd_nil, ↓rd_cons, ↓rd_int, ↓rd_bl, ↓rd_str, ↓rd_non, ↓rd_tup, ↓rd_lst, ↓rd_scr, ↓rd_dic, ↓rd_cls, ↓rd_fn, ↓rd_s, ↓rd_r, ↓r_chN, refP_s, ↓ri_seq, ↓rq_tup, ↓rq_lst, ↓r_var, ↓ra_var, ↓r_ret, ↓r_frz, ↓r_asBl, ↓r_asInt, ↓r_liftS, ↓ri_range, ↓ri_range2, ↓ri_zip, ↓ri_enum, ↓r_calle, ↓rc_fn, ↓en_lst, ↓en_tup, ↓rz_tup, ↓rz_lst, ↓rz_tl, ↓rz_lt, ↓ri_zip3, ↓rz_ttt, ↓rz_ttl, ↓rz_lll, ↓rx_expr, ↓rx_set, ↓rx_frz, ↓rx_ret, ↓rx_iff, ↓rx_mat, ↓then_nx, ↓then_rt, ↓then_bk, ↓then_ct, ↓rx_nil, ↓rx_cons, ↓rx_asg, ↓rt_name, ↓rt_tup, ↓rt_lst, ↓rt_nil, ↓rt_cons, ↓rx_setix, ↓rx_app, ↓rx_ext, ↓r_pop, ↓r_needL, ↓lstP_l, ↓obP_s, ↓r_chS, ↓rr_nil, ↓rr_cons, ↓rh_v, ↓rh_l, ↓rx_par, ↓rx_pass, ↓rx_for, ↓varP_v, ↓varP_n, bin_addI, bin_subI, cmp_lt, cmp_le, cmp_gt, cmp_ge, cmp_eqI, cmp_neI, cmp_eqB, cmp_eqS, cmp_neS, blR_s, bi_lenT, bi_lenL, bi_lenS, bi_tupT, bi_tupL, bi_lstT, bi_lstL, bi_max, bi_min, bi_intB, neg_i, isi_int, isi_tup, isi_lst, isi_dic, isi_str, isi_non, isi_bl, List.getElem?_cons_zero, List.getElem?_cons_succ, List.set_cons_zero, List.set_cons_succ, Option.map_some, R.flat, R.d, Ob.flat, Ob.d, true_and, and_true, eq_self, decide_eq_true_eq, reduceIte, Bool.true_and, Bool.false_and, Bool.and_false, Bool.and_true, Bool.false_eq_true, decide_true, decide_false, Bool.not_true, Bool.not_false, List.length_map, List.length_cons, List.length_nil, reduceCtorEq, and_self, true_or, or_true, or_false, false_or, or_self, r_callM e3, h0, h1, h2, h3, r_callM e4]
      exact ⟨_, rfl, t, rfl, ht, p3.trans p4⟩
    · obtain ⟨i, x, s4, e0, e4, p4⟩ := pk s3 n [.fn gg, .fn gs, .fn gc] p3.1 (by simp) (by simp)
      have hq : ∃ q, x = .fn q ∧ TabC ((orc T j).call q) ∧ (orc T j).has q = true := by
        match i, e0 with
        | 0, e0 => cases e0; exact ⟨_, rfl, hg.at hj, by rw [orc_has]; exact hg.has⟩
        | 1, e0 => cases e0; exact ⟨_, rfl, hs.at hj, by rw [orc_has]; exact hs.has⟩
        | 2, e0 => cases e0; exact ⟨_, rfl, hc.at hj, by rw [orc_has]; exact hc.has⟩
        | i + 3, e0 => simp at e0
      obtain ⟨q, rfl, tc, th⟩ := hq
      obtain ⟨t, s5, e5, ht, p5⟩ := tc s4 n k p4.1 hk1 hk
      obtain ⟨t', s6, e6, ht', p6⟩ := hm.at hj s5 n k t p5.1 ht hk
      have gl : ∀ g, (orc T j).gl g = T.gl g := fun g => by rw [orc_gl]
      simp -dsimp only [wipe_n, wipe_c, ↓ra_nop, ↓ra_cst, ↓ra_glob, ↓ra_tup, ↓ra_lst, ↓ra_dic, ↓ra_bin, ↓ra_neg, ↓ra_not, ↓ra_and, ↓ra_or, ↓ra_ife, ↓ra_cmp, ↓ra_chain, ↓ra_ix, ↓ra_sl, ↓ra_rev, ↓ra_get2, ↓r_get2, ↓r_needT, ↓ra_isi, ↓ra_bi, ↓ra_call, ↓ra_calle, ↓ra_pop, ↓ra_alloc, ↓ra_comp, ↓ra_comp2, ↓ra_me, ↓ra_lrange, ↓r_dic, ↓r_needM, ↓r_me, ↓r_lrange, me_cl, me_js, me_ss, ↓r_cst, ↓r_glob, ↓re_nil, ↓re_cons, ↓rsa_nil, ↓rsa_cons, ↓r_tup, ↓r_lst, ↓r_bin, ↓r_cmp, ↓r_ix, ↓r_neg, ↓r_isi, ↓r_bi, ↓r_not, ↓r_and, ↓r_or, ↓r_ife, ↓r_chain, ↓r_none, ↓rp_cst, ↓rp_glob, ↓rp_bin, ↓rp_neg, ↓rp_ife, ↓rp_ix, ↓rp_bi, ↓rp_call, ↓rp_var, ↓r_sl, ↓r_call, ↓r_alloc, ↓r_allocM, ↓r_prim1, ↓r_prim2, ↓r_primN, ↓rd_nil, ↓rd_cons, ↓rd_int, ↓rd_bl, ↓rd_str, ↓rd_non, ↓rd_tup, ↓rd_lst, ↓rd_scr, ↓rd_dic, ↓rd_cls, ↓rd_fn, ↓rd_s, ↓rd_r, ↓r_chN, refP_s, ↓ri_seq, ↓rq_tup, ↓rq_lst, ↓r_var, ↓ra_var, ↓r_ret, ↓r_frz, ↓r_asBl, ↓r_asInt, ↓r_liftS, ↓ri_range, ↓ri_range2, ↓ri_zip, ↓ri_enum, ↓r_calle, ↓rc_fn, ↓en_lst, ↓en_tup, ↓rz_tup, ↓rz_lst, ↓rz_tl, ↓rz_lt, ↓ri_zip3, ↓rz_ttt, ↓rz_ttl, ↓rz_lll, ↓rx_expr, ↓rx_set, ↓rx_frz, ↓rx_ret, ↓rx_iff, ↓rx_mat, ↓then_nx, ↓then_rt, ↓then_bk, ↓then_ct, ↓rx_nil, ↓rx_cons, ↓rx_asg, ↓rt_name, ↓rt_tup, ↓rt_lst, ↓rt_nil, ↓rt_cons, ↓rx_setix, ↓rx_app, ↓rx_ext, ↓r_pop, ↓r_needL, ↓lstP_l, ↓obP_s, ↓r_chS, ↓rr_nil, ↓rr_cons, ↓rh_v, ↓rh_l, ↓rx_par, ↓rx_pass, ↓rx_for, ↓varP_v, ↓varP_n, bin_addI, bin_subI, cmp_lt, cmp_le, cmp_gt, cmp_ge, cmp_eqI, cmp_neI, cmp_eqB, cmp_eqS, cmp_neS, blR_s, bi_lenT, bi_lenL, bi_lenS, bi_tupT, bi_tupL, bi_lstT, bi_lstL, bi_max, bi_min, bi_intB, neg_i, isi_int, isi_tup, isi_lst, isi_dic, isi_str, isi_non, isi_bl, List.getElem?_cons_zero, List.getElem?_cons_succ, List.set_cons_zero, List.set_cons_succ, Option.map_some, R.flat, R.d, Ob.flat, Ob.d, true_and, and_true, eq_self, decide_eq_true_eq, reduceIte, Bool.true_and, Bool.false_and, Bool.and_false, Bool.and_true, Bool.false_eq_true, decide_true, decide_false, Bool.not_true, Bool.not_false, List.length_map, List.length_cons, List.length_nil, reduceCtorEq, and_self, true_or, or_true, or_false, false_or, or_self, r_callM e3, h0, h1, h2, h3, gl, hg.gl, hs.gl, hc.gl, r_callM e4, th, r_callM e5, r_callM e6]
      exact ⟨by decide, _, rfl, t', rfl, ht', ((p3.trans p4).trans p5).trans p6⟩
  obtain ⟨r, s', h1, t, rfl, h3, h4⟩ := z
  exact ⟨t, s', h1, h3, h4⟩
end
end Mi
namespace Mi
open PySem
section
variable {T : Tb} {d g gp gb gf ga gi gc gg gd gm gn gr a xS gs gou gso gq ie ip io : Nat}
def tri (q : Nat × Nat × Int) : D := .tup [.int q.1, .int q.2.1, .int q.2.2]
end
end Mi
namespace Mi
open PySem
theorem count_one : ∀ {l : List Int} {x : Int}, l.Nodup → x ∈ l → l.count x = 1
  | [], x, _, h => by cases h
  | a :: l, x, nd, h => by
    obtain ⟨h1, h2⟩ := List.nodup_cons.mp nd
    rw [List.count_cons]
    by_cases e : a = x
    · subst e
      rw [List.count_eq_zero.mpr h1]
      simp
    · have h3 : x ∈ l := by
        rcases List.mem_cons.mp h with z | z
        · exact absurd z.symm e
        · exact z
      rw [count_one h2 h3]
      simp [e]
theorem nodup_lt : ∀ (n : Nat) {l : List Nat}, l.Nodup → (∀ x ∈ l, x < n) → l.length ≤ n
  | 0, l, _, h => by
    cases l with
    | nil => simp
    | cons a l => exact absurd (h a (.head _)) (by omega)
  | n + 1, l, nd, h => by
    by_cases hm : n ∈ l
    · have h1 := nodup_lt n (l := l.erase n) (nd.erase n) fun x hx => by
        have := (nd.mem_erase_iff).mp hx
        have := h x this.2
        omega
      rw [List.length_erase_of_mem hm] at h1
      omega
    · have := nodup_lt n nd fun x hx => by
        have h1 := h x hx
        have h2 : x ≠ n := fun z => hm (z ▸ hx)
        omega
      omega
def numD (n : Int) : D → Bool
  | .int i => decide (0 ≤ i ∧ i < n)
  | _ => false
def factD (n : Int) : D → Bool
  | .tup [a, b] => numD n a && sgD b
  | _ => false
def fD (f : Nat × Int) : D := .tup [.int (f.1 : Int), .int f.2]
def fI (fs : List (Nat × Int)) : D := .tup (fs.map fD)
def once (l : List Int) : Bool := l.all fun x => decide (l.count x = 1)
def fst2 : D → Int
  | .tup (.int i :: _) => i
  | _ => 0
def factsD (n : Int) : D → Bool
  | .tup ds => ds.all (factD n) && once (ds.map fst2)
  | _ => false
def Facts (n : Nat) (fs : List (Nat × Int)) : Prop := (∀ f ∈ fs, f.1 < n ∧ sg f.2) ∧ (fs.map Prod.fst).Nodup
theorem Facts.is {n : Nat} {fs : List (Nat × Int)} (h : Facts n fs) : factsD n (fI fs) = true := by
  simp only [fI, factsD, Bool.and_eq_true, List.all_eq_true, List.mem_map]
  refine ⟨?_, ?_⟩
  · rintro d ⟨f, hf, rfl⟩
    obtain ⟨h1, h2⟩ := h.1 f hf
    simp only [fD, factD, numD, Bool.and_eq_true, decide_eq_true_eq]
    exact ⟨⟨by omega, by omega⟩, sgD_iff.mpr ⟨_, rfl, h2⟩⟩
  · have e : (fs.map fD).map fst2 = (fs.map Prod.fst).map (fun (u : Nat) => (u : Int)) := by
      rw [List.map_map, List.map_map]
      rfl
    rw [e]
    have nd : ((fs.map Prod.fst).map (fun (u : Nat) => (u : Int))).Nodup := by
      refine List.Pairwise.map _ (fun a b hab z => hab ?_) h.2
      omega
    simp only [once, List.all_eq_true, decide_eq_true_eq]
    intro x hx
    exact count_one nd hx
theorem Facts.vl {n : Nat} {fs : List (Nat × Int)} (h : Facts n fs) (hl : fs.length ≤ 1000) : (fI fs).vl = true := vl_of (by simp; show _ ≤ 16777216; omega) fun d hd => by
  obtain ⟨f, _, rfl⟩ := List.mem_map.mp hd
  exact vl_of (by show 2 ≤ 16777216; omega) fun d hd => by
    simp only [List.mem_cons, List.not_mem_nil, or_false] at hd
    rcases hd with rfl | rfl <;> rfl
theorem Facts.len {n : Nat} {fs : List (Nat × Int)} (h : Facts n fs) : fs.length ≤ n := by
  have := nodup_lt n h.2 fun x hx => by
    obtain ⟨f, hf, rfl⟩ := List.mem_map.mp hx
    exact (h.1 f hf).1
  simpa using this
def NeedFactsC (ie ip ff : Nat) (C : List D → Sto → COut) : Prop := ∀ t p f s, t.vl = true → p.vl = true → f.vl = true → C [t, p, f] s = if tabD t = true then (if sgsD (tlen t) p = true then (if factsD (tlen t) f = true then .ok (.val .non) s else .exc ff s) else .exc ip s) else .exc ie s
theorem NeedFactsC.ok {ie ip ff : Nat} {C : List D → Sto → COut} (h : NeedFactsC ie ip ff C) {n : Nat} {t : List (List Int)} {p : List Int} {fs : List (Nat × Int)} (s : Sto) (ht : Tab n t) (hp : Row n p) (hf : Facts n fs) (h1 : 1 ≤ n) (h5 : n ≤ 5) : C [tI t, rI p, fI fs] s = .ok (.val .non) s := by
  have e : tlen (tI t) = (n : Int) := by simp [tlen, tI, ht.1]
  rw [h _ _ _ s (ht.vl (by omega)) (hp.vl (by omega)) (hf.vl (by have := hf.len; omega)), if_pos (ht.is h1 h5), if_pos (by rw [e]; exact hp.is), if_pos (by rw [e]; exact hf.is)]
theorem Wd.dig {i : Nat} (h : i ≤ 9) : Wd 0 2 (.int (i : Int)) := by
  have : i = 0 ∨ i = 1 ∨ i = 2 ∨ i = 3 ∨ i = 4 ∨ i = 5 ∨ i = 6 ∨ i = 7 ∨ i = 8 ∨ i = 9 := by omega
  rcases this with rfl | rfl | rfl | rfl | rfl | rfl | rfl | rfl | rfl | rfl <;> exact ⟨by decide, rfl, Nat.le_refl _, by decide +kernel⟩
theorem Wd.facts {fs : List (Nat × Int)} {n : Nat} (h : ∀ f ∈ fs, f.1 < n ∧ Mi.sg f.2) (hn : n ≤ 9) (hl : fs.length ≤ 9) : Wd 2 (9 * 13 + 3) (fI fs) := Wd.tup (n := 11) (fun d hd => by
  obtain ⟨f, hf, rfl⟩ := List.mem_map.mp hd
  obtain ⟨h1, h2⟩ := h f hf
  refine Wd.tup (k := 0) (n := 2) (m := 2) (fun d hd => ?_) (by simp)
  simp only [List.mem_cons, List.not_mem_nil, or_false] at hd
  rcases hd with rfl | rfl
  · exact Wd.dig (by omega)
  · exact Wd.sg h2) (by rw [List.length_map]; exact hl)
section
variable {T : Tb} {d g gi gs gn gf gq go ga gd gp ie ip ff : Nat}
theorem wp_at {O : Orc} {pf : Flow → Ev → Sto → Prop} (I : Ev → Sto → Prop) : ∀ (k : Nat) {xs : List S} {e : Ev} {s : Sto} (h1 : WP (execs O (xs.take k)) e s fun fl e1 s1 => fl = .nx ∧ I e1 s1) (h2 : ∀ e1 s1, I e1 s1 → WP (execs O (xs.drop k)) e1 s1 pf), WP (execs O xs) e s pf
  | 0, xs, e, s, h1, h2 => by
    rw [List.take_zero, rx_nil] at h1
    exact h2 _ _ h1.2
  | k + 1, [], e, s, h1, h2 => by
    rw [List.take_nil, rx_nil] at h1
    exact h2 _ _ h1.2
  | k + 1, x :: xs, e, s, h1, h2 => by
    rw [List.take_succ_cons, rx_cons] at h1
    rw [rx_cons]
    refine h1.mono fun fl e1 s1 h => ?_
    cases fl with
    | nx => exact wp_at I k h h2
    | rt r => exact absurd h.1 (by simp)
    | bk => exact absurd h.1 (by simp)
    | ct => exact absurd h.1 (by simp)
end
end Mi
namespace Mi
open PySem
def NeedQuestC (ie ip iu : Nat) (C : List D → Sto → COut) : Prop := ∀ t p u s, t.vl = true → p.vl = true → u.vl = true → C [t, p, u] s = if tabD t = true then (if sgsD (tlen t) p = true then (if numD (tlen t) u = true then .ok (.val .non) s else .exc iu s) else .exc ip s) else .exc ie s
theorem NeedQuestC.ok {ie ip iu : Nat} {C : List D → Sto → COut} (h : NeedQuestC ie ip iu C) {n u : Nat} {t : List (List Int)} {p : List Int} (s : Sto) (ht : Tab n t) (hp : Row n p) (hu : u < n) (h5 : n ≤ 5) : C [tI t, rI p, .int u] s = .ok (.val .non) s := by
  have e : tlen (tI t) = (n : Int) := by simp [tlen, tI, ht.1]
  rw [h _ _ _ s (ht.vl (by omega)) (hp.vl (by omega)) rfl, if_pos (ht.is (by omega) h5), if_pos (by rw [e]; exact hp.is), if_pos (by rw [e]; simp only [numD, decide_eq_true_eq]; omega)]
end Mi
namespace Mi
open PySem
end Mi
namespace Mi
open PySem
mutual
def D.sm : D → Bool
  | .int i => decide (i.natAbs < 18446744073709551616)
  | .tup ds => smL ds
  | _ => true
def smL : List D → Bool
  | [] => true
  | d :: ds => d.sm && smL ds
end
end Mi
namespace Mi
open PySem
theorem Wd.small {x : Int} (h : x.natAbs ≤ 9) : Wd 0 2 (.int x) := by
  have : x = -9 ∨ x = -8 ∨ x = -7 ∨ x = -6 ∨ x = -5 ∨ x = -4 ∨ x = -3 ∨ x = -2 ∨ x = -1 ∨ x = 0 ∨ x = 1 ∨ x = 2 ∨ x = 3 ∨ x = 4 ∨ x = 5 ∨ x = 6 ∨ x = 7 ∨ x = 8 ∨ x = 9 := by omega
  rcases this with rfl | rfl | rfl | rfl | rfl | rfl | rfl | rfl | rfl | rfl | rfl | rfl | rfl | rfl | rfl | rfl | rfl | rfl | rfl <;> exact ⟨by decide, rfl, Nat.le_refl _, by decide +kernel⟩
theorem Wd.ints {l : List Int} {m : Nat} (h : ∀ x ∈ l, x.natAbs ≤ 9) (hl : l.length ≤ m) : Wd 1 (m * 4 + 3) (rI l) := Wd.tup (fun d hd => by
  obtain ⟨x, hx, rfl⟩ := List.mem_map.mp hd
  exact Wd.small (h x hx)) (by rw [List.length_map]; exact hl)
end Mi
namespace Mi
open PySem
end Mi
namespace Mi
open PySem
end Mi
namespace Mi
open PySem
end Mi
namespace Mi
open PySem
mutual
def D.od (B L : Nat) : D → Bool
  | .non => true | .bl _ => true
  | .int i => decide (i.natAbs ≤ B)
  | .str s => PyData.strOk s && decide (s.length ≤ 128)
  | .tup ds => decide (ds.length ≤ L) && ods B L ds
  | .lst ds => decide (ds.length ≤ L) && ods B L ds
  | .dic ks vs => decide (ks.length ≤ L) && decide (vs.length = ks.length) && ks.all isI && ods B L ks && ods B L vs
  | _ => false
def ods (B L : Nat) : List D → Bool
  | [] => true
  | d :: ds => d.od B L && ods B L ds
end
theorem ods_iff {B L : Nat} : ∀ {ds : List D}, ods B L ds = true ↔ ∀ d ∈ ds, d.od B L = true
  | [] => by simp [ods]
  | d :: ds => by simp [ods, ods_iff (ds := ds)]
theorem depths_iff {n : Nat} : ∀ {ds : List D}, depths ds ≤ n ↔ ∀ d ∈ ds, d.depth ≤ n
  | [] => by simp [depths]
  | d :: ds => by simp [depths, depths_iff (ds := ds), Nat.max_le]
mutual
theorem od_mono {B L B' L' : Nat} (hB : B ≤ B') (hL : L ≤ L') : ∀ {d : D}, d.od B L = true → d.od B' L' = true
  | .non, _ => rfl
  | .bl _, _ => rfl
  | .int i, h => by simp only [D.od, decide_eq_true_eq] at h ⊢; omega
  | .str s, h => h
  | .tup ds, h => by
    simp only [D.od, Bool.and_eq_true, decide_eq_true_eq] at h ⊢
    exact ⟨by omega, ods_mono hB hL h.2⟩
  | .lst ds, h => by
    simp only [D.od, Bool.and_eq_true, decide_eq_true_eq] at h ⊢
    exact ⟨by omega, ods_mono hB hL h.2⟩
  | .dic ks vs, h => by
    simp only [D.od, Bool.and_eq_true, decide_eq_true_eq] at h ⊢
    exact ⟨⟨⟨⟨by omega, h.1.1.1.2⟩, h.1.1.2⟩, ods_mono hB hL h.1.2⟩, ods_mono hB hL h.2⟩
  | .ref _, h => by cases h
  | .fn _, h => by cases h
  | .cls _, h => by cases h
  | .scr _, h => by cases h
  | .tab _, h => by cases h
theorem ods_mono {B L B' L' : Nat} (hB : B ≤ B') (hL : L ≤ L') : ∀ {ds : List D}, ods B L ds = true → ods B' L' ds = true
  | [], _ => rfl
  | d :: ds, h => by
    simp only [ods, Bool.and_eq_true] at h ⊢
    exact ⟨od_mono hB hL h.1, ods_mono hB hL h.2⟩
end
structure Od (n B L : Nat) (d : D) : Prop where
  ok : d.od B L = true
  dp : d.depth ≤ n
theorem Od.mono {n B L n' B' L' : Nat} {d : D} (h : Od n B L d) (hn : n ≤ n') (hB : B ≤ B') (hL : L ≤ L') : Od n' B' L' d := ⟨od_mono hB hL h.ok, Nat.le_trans h.dp hn⟩
theorem Od.tup {n B L : Nat} {ds : List D} (h : ∀ d ∈ ds, Od n B L d) (hl : ds.length ≤ L) : Od (n + 1) B L (.tup ds) := by
  refine ⟨?_, ?_⟩
  · simp only [D.od, Bool.and_eq_true, decide_eq_true_eq]
    exact ⟨hl, ods_iff.mpr fun d hd => (h d hd).ok⟩
  · simp only [D.depth]
    have := depths_iff.mpr fun d hd => (h d hd).dp
    omega
theorem Od.lst {n B L : Nat} {ds : List D} (h : ∀ d ∈ ds, Od n B L d) (hl : ds.length ≤ L) : Od (n + 1) B L (.lst ds) := by
  refine ⟨?_, ?_⟩
  · simp only [D.od, Bool.and_eq_true, decide_eq_true_eq]
    exact ⟨hl, ods_iff.mpr fun d hd => (h d hd).ok⟩
  · simp only [D.depth]
    have := depths_iff.mpr fun d hd => (h d hd).dp
    omega
theorem Od.of_tup {n B L : Nat} {ds : List D} (h : Od n B L (.tup ds)) : ∃ m, n = m + 1 ∧ ds.length ≤ L ∧ ∀ d ∈ ds, Od m B L d := by
  obtain ⟨h1, h2⟩ := h
  simp only [D.od, Bool.and_eq_true, decide_eq_true_eq] at h1
  simp only [D.depth] at h2
  refine ⟨n - 1, by omega, h1.1, fun d hd => ⟨ods_iff.mp h1.2 d hd, ?_⟩⟩
  exact (depths_iff (n := n - 1)).mp (by omega) d hd
theorem Od.int {n B L : Nat} {i : Int} (h : i.natAbs ≤ B) : Od n B L (.int i) := ⟨by simpa only [D.od, decide_eq_true_eq] using h, Nat.zero_le _⟩
theorem Od.bl {n B L : Nat} {b : Bool} : Od n B L (.bl b) := ⟨rfl, Nat.zero_le _⟩
theorem Od.non {n B L : Nat} : Od n B L .non := ⟨rfl, Nat.zero_le _⟩
mutual
theorem od_vl {B L : Nat} (hL : L ≤ line) : ∀ {d : D}, d.od B L = true → d.vl = true
  | .non, _ => rfl
  | .bl _, _ => rfl
  | .int i, h => rfl
  | .str s, h => rfl
  | .tup ds, h => by
    simp only [D.od, Bool.and_eq_true, decide_eq_true_eq] at h
    simp only [D.vl, Bool.and_eq_true, decide_eq_true_eq]
    exact ⟨by omega, ods_vl hL h.2⟩
  | .lst ds, h => rfl
  | .dic ks vs, h => rfl
  | .ref _, h => by cases h
  | .fn _, h => by cases h
  | .cls _, h => by cases h
  | .scr _, h => by cases h
  | .tab _, h => by cases h
theorem ods_vl {B L : Nat} (hL : L ≤ line) : ∀ {ds : List D}, ods B L ds = true → vls ds = true
  | [], _ => rfl
  | d :: ds, h => by
    simp only [ods, Bool.and_eq_true] at h
    simp only [vls, Bool.and_eq_true]
    exact ⟨od_vl hL h.1, ods_vl hL h.2⟩
end
theorem Od.vl {n B L : Nat} {d : D} (h : Od n B L d) (hL : L ≤ line) : d.vl = true := od_vl hL h.ok
theorem Od.row {n k B L : Nat} {r : List Int} (h : Row k r) (hB : 1 ≤ B) (hL : k ≤ L) : Od (n + 1) B L (rI r) := Od.tup (fun d hd => by
  obtain ⟨x, hx, rfl⟩ := List.mem_map.mp hd
  exact Od.int (by rcases h.2 x hx with rfl | rfl | rfl <;> simp <;> omega)) (by rw [List.length_map, h.1]; exact hL)
theorem Od.tab {n k B L : Nat} {t : List (List Int)} (h : Tab k t) (hB : 1 ≤ B) (hL : k ≤ L) : Od (n + 2) B L (tI t) := Od.tup (fun d hd => by
  obtain ⟨x, hx, rfl⟩ := List.mem_map.mp hd
  exact Od.row (h.2 x hx) hB hL) (by rw [List.length_map, h.1]; exact hL)
theorem od_all {n B L : Nat} {ds : List D} (h : ods B L ds = true) (h2 : depths ds ≤ n) : ∀ d ∈ ds, Od n B L d := fun d hd => ⟨ods_iff.mp h d hd, depths_iff.mp h2 d hd⟩
mutual
def D.wtD : D → Nat
  | .non => 4 | .bl _ => 5
  | .int i => (toString i).length
  | .str s => (reprText s).length
  | .tup ds => wtL ds + 3
  | .lst ds => wtL ds + 3
  | .dic ks vs => wtL ks + wtL vs + 3
  | _ => 4
def wtL : List D → Nat
  | [] => 0
  | d :: ds => d.wtD + 2 + wtL ds
end
theorem wtL_append : ∀ {a b : List D}, wtL (a ++ b) = wtL a + wtL b
  | [], b => by simp [wtL]
  | d :: a, b => by simp only [List.cons_append, wtL, wtL_append (a := a)]; omega
theorem wtL_take {k : Nat} {a : List D} : wtL (a.take k) + wtL (a.drop k) = wtL a := by rw [← wtL_append, List.take_append_drop]
theorem wtL_rev : ∀ {a : List D}, wtL a.reverse = wtL a
  | [] => rfl
  | d :: a => by rw [List.reverse_cons, wtL_append, wtL_rev]; simp only [wtL]; omega
theorem join_sum : ∀ ts : List Str, (Str.join ", " ts).length ≤ (ts.map fun t => t.length + 2).sum
  | [] => Nat.zero_le _
  | [x] => by show x.length ≤ _; simp
  | x :: y :: r => by
    have h2 := join_sum (y :: r)
    show (x ++ ", " ++ Str.join ", " (y :: r)).length ≤ _
    rw [strLen_append, strLen_append]
    have e2 : ((", " : String) : Str).length = 2 := rfl
    simp only [List.map_cons, List.sum_cons] at h2 ⊢
    omega
theorem tupText_sum (ts : List Str) : (tupleText ts).length ≤ (ts.map fun t => t.length + 2).sum + 3 := by
  have h1 := join_sum ts
  unfold tupleText
  rw [strLen_append, strLen_append]
  have e1 : (("(" : String) : Str).length = 1 := rfl
  by_cases q : (ts.length == 1) = true
  · rw [if_pos q]
    have e2 : ((",)" : String) : Str).length = 2 := rfl
    omega
  · rw [if_neg q]
    have e2 : ((")" : String) : Str).length = 1 := rfl
    omega
theorem textFrom_sum : ∀ (ts : List Str) {k : Nat} {acc : Str}, (textFrom k acc ts).length ≤ acc.length + (ts.map fun t => t.length + 2).sum
  | [], _, _ => by simp [textFrom]
  | t :: ts, k, acc => by
    have h2 := textFrom_sum ts (k := k + 1) (acc := acc ++ (if k > 0 then ", " else "" : String) ++ t)
    unfold textFrom
    rw [strLen_append, strLen_append] at h2
    simp only [List.map_cons, List.sum_cons]
    by_cases q : k > 0
    · rw [if_pos q] at h2 ⊢
      have e2 : ((", " : String) : Str).length = 2 := rfl
      omega
    · rw [if_neg q] at h2 ⊢
      have e2 : (("" : String) : Str).length = 0 := rfl
      omega
theorem lstText_sum (ts : List Str) : (listText ts).length ≤ (ts.map fun t => t.length + 2).sum + 2 := by
  have h1 := textFrom_sum ts (k := 0) (acc := ("[" : Str))
  unfold listText
  rw [strLen_append]
  have e1 : (("[" : String) : Str).length = 1 := rfl
  have e2 : (("]" : String) : Str).length = 1 := rfl
  omega
theorem dicText_sum (ts : List Str) : (dictText ts).length ≤ (ts.map fun t => t.length + 2).sum + 3 := by
  have h1 := join_sum ts
  unfold dictText
  rw [strLen_append, strLen_append]
  have e1 : (("{" : String) : Str).length = 1 := rfl
  have e2 : (("}" : String) : Str).length = 1 := rfl
  omega
theorem kv_sum : ∀ a b : List PyData, ((PyData.shownKv (a.zip b)).map fun t => t.length + 2).sum ≤ ((PyData.shownAll a).map fun t => t.length + 2).sum + ((PyData.shownAll b).map fun t => t.length + 2).sum
  | [], b => by simp [PyData.shownKv]
  | x :: a, [] => by simp [PyData.shownKv]
  | x :: a, y :: b => by
    have := kv_sum a b
    simp only [List.zip_cons_cons, PyData.shownKv, PyData.shownAll, List.map_cons, List.sum_cons, strLen_append]
    have e2 : ((": " : String) : Str).length = 2 := rfl
    omega
mutual
theorem shown_wt : ∀ d : D, d.py.shown.length ≤ d.wtD
  | .non => by simp only [D.py, PyData.shown]; decide +kernel
  | .bl b => by cases b <;> (simp only [D.py, PyData.shown]; decide +kernel)
  | .int i => by
    simp only [D.py, PyData.shown, D.wtD]
    rw [ofString_length]
    exact Nat.le_refl _
  | .str s => by simp only [D.py, PyData.shown, D.wtD]; exact Nat.le_refl _
  | .tup ds => by
    have h1 := tupText_sum (PyData.shownAll (pys ds))
    have h2 := shown_wts ds
    simp only [D.py, PyData.shown, D.wtD]
    omega
  | .lst ds => by
    have h1 := lstText_sum (PyData.shownAll (pys ds))
    have h2 := shown_wts ds
    simp only [D.py, PyData.shown, D.wtD]
    omega
  | .dic ks vs => by
    have h1 := dicText_sum (PyData.shownKv ((pys ks).zip (pys vs)))
    have h2 := shown_wts ks
    have h3 := shown_wts vs
    have h4 := kv_sum (pys ks) (pys vs)
    simp only [D.py, PyData.shown, D.wtD]
    omega
  | .ref _ => by simp only [D.py, PyData.shown, D.wtD]; decide +kernel
  | .fn _ => by simp only [D.py, PyData.shown, D.wtD]; decide +kernel
  | .cls _ => by simp only [D.py, PyData.shown, D.wtD]; decide +kernel
  | .scr _ => by simp only [D.py, PyData.shown, D.wtD]; decide +kernel
  | .tab _ => by simp only [D.py, PyData.shown, D.wtD]; decide +kernel
theorem shown_wts : ∀ ds : List D, ((PyData.shownAll (pys ds)).map fun t => t.length + 2).sum ≤ wtL ds
  | [] => Nat.le_refl _
  | d :: ds => by
    have h1 := shown_wt d
    have h2 := shown_wts ds
    simp only [pys, PyData.shownAll, List.map_cons, List.sum_cons, wtL]
    omega
end
theorem wtL_sub {k : Nat} {a : List D} : wtL (a.take k) ≤ wtL a ∧ wtL (a.drop k) ≤ wtL a := by
  have := wtL_take (k := k) (a := a)
  omega
theorem wtL_at {a : List D} {k : Nat} {y : D} (h : a[k]? = some y) : wtL a = wtL (a.take k) + (y.wtD + 2) + wtL (a.drop (k + 1)) := by
  obtain ⟨h1, h2⟩ := List.getElem?_eq_some_iff.mp h
  have e : a.drop k = y :: a.drop (k + 1) := by rw [← h2]; exact List.drop_eq_getElem_cons h1
  have := wtL_take (k := k) (a := a)
  rw [e] at this
  simp only [wtL] at this
  omega
theorem log_lt {i : Int} {k : Nat} (h : i.natAbs < 2 ^ k) (hk : 0 < k) : i.natAbs.log2 < k := by
  by_cases h0 : i.natAbs = 0
  · rw [h0]; simpa using hk
  · exact (Nat.log2_lt h0).mpr h
theorem wt_int {i : Int} (h : i.natAbs < 2 ^ 101) : (D.int i).wtD ≤ 102 := by
  have := int_text_length_le (a := i) (k := 101) (by decide) (log_lt h (by decide))
  simp only [D.wtD]
  omega
theorem strOk_of (s : String) : PyData.strOk (.ofString s) = true := by
  rw [Str.ofString_eq_toList]
  simp only [PyData.strOk, List.all_toArray, List.all_eq_true, List.mem_map, decide_eq_true_eq]
  rintro x ⟨c, _, rfl⟩
  have := c.valid
  rcases this with h | h
  · show c.val.toNat < _
    have : c.val.toNat < 0xd800 := h
    omega
  · exact h.2
theorem wt_str {s : Str} (h : PyData.strOk s = true) : (D.str s).wtD ≤ 10 * s.length + 2 := by
  simp only [D.wtD]
  refine StrLaws.reprText_len s fun c hc => ?_
  have : c < 0x110000 := by
    have h' : s.cps.all (· < 0x110000) = true := h
    rw [Array.all_eq_true_iff_forall_mem] at h'
    simpa using h' c (by simpa using hc)
  exact Nat.lt_of_lt_of_le this (by decide)
mutual
theorem od_show {B L : Nat} (hB : B < 2 ^ 102) : ∀ {d : D}, d.od B L = true → d.show = true
  | .non, _ => rfl
  | .bl _, _ => rfl
  | .int i, h => by
    simp only [D.od, decide_eq_true_eq] at h
    simp only [D.show, decide_eq_true_eq]
    have := log_lt (i := i) (k := 102) (by omega) (by decide)
    omega
  | .str s, h => rfl
  | .tup ds, h => by
    simp only [D.od, Bool.and_eq_true, decide_eq_true_eq] at h
    simpa only [D.show] using ods_show hB h.2
  | .lst ds, h => by
    simp only [D.od, Bool.and_eq_true, decide_eq_true_eq] at h
    simpa only [D.show] using ods_show hB h.2
  | .dic ks vs, h => by
    simp only [D.od, Bool.and_eq_true, decide_eq_true_eq] at h
    simp only [D.show, Bool.and_eq_true]
    exact ⟨ods_show hB h.1.2, ods_show hB h.2⟩
  | .ref _, h => by cases h
  | .fn _, h => by cases h
  | .cls _, h => by cases h
  | .scr _, h => by cases h
  | .tab _, h => by cases h
theorem ods_show {B L : Nat} (hB : B < 2 ^ 102) : ∀ {ds : List D}, ods B L ds = true → shows ds = true
  | [], _ => rfl
  | d :: ds, h => by
    simp only [ods, Bool.and_eq_true] at h
    simp only [shows, Bool.and_eq_true]
    exact ⟨od_show hB h.1, ods_show hB h.2⟩
end
theorem Od.repr {n B L : Nat} {d : D} (h : Od n B L d) (hn : n ≤ 60) (hB : B < 2 ^ 102) (hw : d.wtD ≤ 16777216) : biD .repr [d] = some (.val (.str d.py.shown)) := by
  have h1 : decide (d.depth ≤ 60) = true := decide_eq_true (Nat.le_trans h.dp hn)
  have h2 : decide ((d.py.shown).length ≤ line) = true := decide_eq_true (Nat.le_trans (shown_wt d) hw)
  simp only [biD, od_show hB h.ok, h1, h2, Bool.and_self, if_true]
theorem ones_ints {γ : Type} {f : γ → Bool} : ∀ {l : List γ}, (l.filterMap fun d => if f d = true then none else some (D.int 1)) = ((l.filter fun d => !f d).map fun _ => (1 : Int)).map .int
  | [] => rfl
  | a :: l => by
    rw [List.filterMap_cons, List.filter_cons, ones_ints (l := l)]
    cases f a <;> rfl
theorem ones_eq {γ : Type} {f : γ → Bool} {l : List γ} : cmpD .Eq (.lst (l.filterMap fun d => if f d = true then none else some (D.int 1))) (.lst []) = some (l.all f) := by
  rw [ones_ints]
  have h1 : (D.lst (((l.filter fun d => !f d).map fun _ => (1 : Int)).map .int)).cmp = true := cmp_ints
  have h2 : (D.lst []).cmp = true := rfl
  simp only [cmpD, h1, h2, Bool.and_self, if_true]
  congr 1
  induction l with
  | nil => rfl
  | cons a l ih =>
    rw [List.filter_cons, List.all_cons]
    cases f a with
    | true => simpa using ih cmp_ints
    | false => rfl
theorem dic_0 : dicD [] = some (.new (.dic [] [])) := rfl
theorem dic_1 {i : Int} {v : D} : dicD [.int i, v] = some (.new (.dic [.int i] [v])) := rfl
theorem wtD_all {k : Nat} {l : List D} (h : l.all (fun d => decide (d.wtD ≤ k)) = true) {d : D} (hd : d ∈ l) : d.wtD ≤ k := of_decide_eq_true (List.all_eq_true.mp h d hd)
def OddC (C : List D → Sto → COut) : Prop := ∀ (s : Sto) (n : Nat), PenAt s n → ∃ d s', C [.ref n] s = .ok (.val d) s' ∧ (Od 3 1000000000000 7 d ∧ d.wtD ≤ 60) ∧ Pn n s s'
theorem pow_1012 : binD .Pow (.int 10) (.int 12) = some (.val (.int 1000000000000)) := rfl
section
variable {T : Tb} {d g gd gp gs gr go : Nat}
theorem c_law_is_sign (h : IsF T g F_law_is_sign) : Lw T (d + 1) g IsSignC := Lw.of h fun j _ x s hv => run_eq [some (.val x)] rfl rfl (by
  unfold F_law_is_sign
  cases x with
  | int i =>
    simp -dsimp only [wipe_n, wipe_c, ↓ra_nop, ↓ra_cst, ↓ra_glob, ↓ra_tup, ↓ra_lst, ↓ra_dic, ↓ra_bin, ↓ra_neg, ↓ra_not, ↓ra_and, ↓ra_or, ↓ra_ife, ↓ra_cmp, ↓ra_chain, ↓ra_ix, ↓ra_sl, ↓ra_rev, ↓ra_get2, ↓r_get2, ↓r_needT, ↓ra_isi, ↓ra_bi, ↓ra_call, ↓ra_calle, ↓ra_pop, ↓ra_alloc, ↓ra_comp, ↓ra_comp2, ↓ra_me, ↓ra_lrange, ↓r_dic, ↓r_needM, ↓r_me, ↓r_lrange, me_cl, me_js, me_ss, ↓r_cst, ↓r_glob, ↓re_nil, ↓re_cons, ↓rsa_nil, ↓rsa_cons, ↓r_tup, ↓r_lst, ↓r_bin, ↓r_cmp, ↓r_ix, ↓r_neg, ↓r_isi, ↓r_bi, ↓r_not, ↓r_and, ↓r_or, ↓r_ife, ↓r_chain, ↓r_none, ↓rp_cst, ↓rp_glob, ↓rp_bin, ↓rp_neg, ↓rp_ife, ↓rp_ix, ↓rp_bi, ↓rp_call, ↓rp_var, ↓r_sl, ↓r_call, ↓r_alloc, ↓r_allocM, ↓r_prim1, ↓r_prim2, ↓r_primN, ↓rd_nil, ↓rd_cons, ↓rd_int, ↓rd_bl, ↓rd_str, ↓rd_non, ↓rd_tup, ↓rd_lst, ↓rd_scr, ↓rd_dic, ↓rd_cls, ↓rd_fn, ↓rd_s, ↓rd_r, ↓r_chN, refP_s, ↓ri_seq, ↓rq_tup, ↓rq_lst, ↓r_var, ↓ra_var, ↓r_ret, ↓r_frz, ↓r_asBl, ↓r_asInt, ↓r_liftS, ↓ri_range, ↓ri_range2, ↓ri_zip, ↓ri_enum, ↓r_calle, ↓rc_fn, ↓en_lst, ↓en_tup, ↓rz_tup, ↓rz_lst, ↓rz_tl, ↓rz_lt, ↓ri_zip3, ↓rz_ttt, ↓rz_ttl, ↓rz_lll, ↓rx_expr, ↓rx_set, ↓rx_frz, ↓rx_ret, ↓rx_iff, ↓rx_mat, ↓then_nx, ↓then_rt, ↓then_bk, ↓then_ct, ↓rx_nil, ↓rx_cons, ↓rx_asg, ↓rt_name, ↓rt_tup, ↓rt_lst, ↓rt_nil, ↓rt_cons, ↓rx_setix, ↓rx_app, ↓rx_ext, ↓r_pop, ↓r_needL, ↓lstP_l, ↓obP_s, ↓r_chS, ↓rr_nil, ↓rr_cons, ↓rh_v, ↓rh_l, ↓rx_par, ↓rx_pass, ↓rx_for, ↓varP_v, ↓varP_n, bin_addI, bin_subI, cmp_lt, cmp_le, cmp_gt, cmp_ge, cmp_eqI, cmp_neI, cmp_eqB, cmp_eqS, cmp_neS, blR_s, bi_lenT, bi_lenL, bi_lenS, bi_tupT, bi_tupL, bi_lstT, bi_lstL, bi_max, bi_min, bi_intB, neg_i, isi_int, isi_tup, isi_lst, isi_dic, isi_str, isi_non, isi_bl, List.getElem?_cons_zero, List.getElem?_cons_succ, List.set_cons_zero, List.set_cons_succ, Option.map_some, R.flat, R.d, Ob.flat, Ob.d, true_and, and_true, eq_self, decide_eq_true_eq, reduceIte, Bool.true_and, Bool.false_and, Bool.and_false, Bool.and_true, Bool.false_eq_true, decide_true, decide_false, Bool.not_true, Bool.not_false, List.length_map, List.length_cons, List.length_nil, reduceCtorEq, and_self, true_or, or_true, or_false, false_or, or_self, sgD]
    by_cases h1 : -1 ≤ i
    · by_cases h2 : i ≤ 1
      · have : i = -1 ∨ i = 0 ∨ i = 1 := by omega
        rcases this with rfl | rfl | rfl <;> simp
      · simp [h1, h2]
        omega
    · simp [h1]
      omega
  | _ => first | (cases hv; done) | (simp -dsimp only [wipe_n, wipe_c, ↓ra_nop, ↓ra_cst, ↓ra_glob, ↓ra_tup, ↓ra_lst, ↓ra_dic, ↓ra_bin, ↓ra_neg, ↓ra_not, ↓ra_and, ↓ra_or, ↓ra_ife, ↓ra_cmp, ↓ra_chain, ↓ra_ix, ↓ra_sl, ↓ra_rev, ↓ra_get2, ↓r_get2, ↓r_needT, ↓ra_isi, ↓ra_bi, ↓ra_call, ↓ra_calle, ↓ra_pop, ↓ra_alloc, ↓ra_comp, ↓ra_comp2, ↓ra_me, ↓ra_lrange, ↓r_dic, ↓r_needM, ↓r_me, ↓r_lrange, me_cl, me_js, me_ss, ↓r_cst, ↓r_glob, ↓re_nil, ↓re_cons, ↓rsa_nil, ↓rsa_cons, ↓r_tup, ↓r_lst, ↓r_bin, ↓r_cmp, ↓r_ix, ↓r_neg, ↓r_isi, ↓r_bi, ↓r_not, ↓r_and, ↓r_or, ↓r_ife, ↓r_chain, ↓r_none, ↓rp_cst, ↓rp_glob, ↓rp_bin, ↓rp_neg, ↓rp_ife, ↓rp_ix, ↓rp_bi, ↓rp_call, ↓rp_var, ↓r_sl, ↓r_call, ↓r_alloc, ↓r_allocM, ↓r_prim1, ↓r_prim2, ↓r_primN, ↓rd_nil, ↓rd_cons, ↓rd_int, ↓rd_bl, ↓rd_str, ↓rd_non, ↓rd_tup, ↓rd_lst, ↓rd_scr, ↓rd_dic, ↓rd_cls, ↓rd_fn, ↓rd_s, ↓rd_r, ↓r_chN, refP_s, ↓ri_seq, ↓rq_tup, ↓rq_lst, ↓r_var, ↓ra_var, ↓r_ret, ↓r_frz, ↓r_asBl, ↓r_asInt, ↓r_liftS, ↓ri_range, ↓ri_range2, ↓ri_zip, ↓ri_enum, ↓r_calle, ↓rc_fn, ↓en_lst, ↓en_tup, ↓rz_tup, ↓rz_lst, ↓rz_tl, ↓rz_lt, ↓ri_zip3, ↓rz_ttt, ↓rz_ttl, ↓rz_lll, ↓rx_expr, ↓rx_set, ↓rx_frz, ↓rx_ret, ↓rx_iff, ↓rx_mat, ↓then_nx, ↓then_rt, ↓then_bk, ↓then_ct, ↓rx_nil, ↓rx_cons, ↓rx_asg, ↓rt_name, ↓rt_tup, ↓rt_lst, ↓rt_nil, ↓rt_cons, ↓rx_setix, ↓rx_app, ↓rx_ext, ↓r_pop, ↓r_needL, ↓lstP_l, ↓obP_s, ↓r_chS, ↓rr_nil, ↓rr_cons, ↓rh_v, ↓rh_l, ↓rx_par, ↓rx_pass, ↓rx_for, ↓varP_v, ↓varP_n, bin_addI, bin_subI, cmp_lt, cmp_le, cmp_gt, cmp_ge, cmp_eqI, cmp_neI, cmp_eqB, cmp_eqS, cmp_neS, blR_s, bi_lenT, bi_lenL, bi_lenS, bi_tupT, bi_tupL, bi_lstT, bi_lstL, bi_max, bi_min, bi_intB, neg_i, isi_int, isi_tup, isi_lst, isi_dic, isi_str, isi_non, isi_bl, List.getElem?_cons_zero, List.getElem?_cons_succ, List.set_cons_zero, List.set_cons_succ, Option.map_some, R.flat, R.d, Ob.flat, Ob.d, true_and, and_true, eq_self, decide_eq_true_eq, reduceIte, Bool.true_and, Bool.false_and, Bool.and_false, Bool.and_true, Bool.false_eq_true, decide_true, decide_false, Bool.not_true, Bool.not_false, List.length_map, List.length_cons, List.length_nil, reduceCtorEq, and_self, true_or, or_true, or_false, false_or, or_self, sgD]; done) | (simp -dsimp only [wipe_n, wipe_c, ↓ra_nop, ↓ra_cst, ↓ra_glob, ↓ra_tup, ↓ra_lst, ↓ra_dic, ↓ra_bin, ↓ra_neg, ↓ra_not, ↓ra_and, ↓ra_or, ↓ra_ife, ↓ra_cmp, ↓ra_chain, ↓ra_ix, ↓ra_sl, ↓ra_rev, ↓ra_get2, ↓r_get2, ↓r_needT, ↓ra_isi, ↓ra_bi, ↓ra_call, ↓ra_calle, ↓ra_pop, ↓ra_alloc, ↓ra_comp, ↓ra_comp2, ↓ra_me, ↓ra_lrange, ↓r_dic, ↓r_needM, ↓r_me, ↓r_lrange, me_cl, me_js, me_ss, ↓r_cst, ↓r_glob, ↓re_nil, ↓re_cons, ↓rsa_nil, ↓rsa_cons, ↓r_tup, ↓r_lst, ↓r_bin, ↓r_cmp, ↓r_ix, ↓r_neg, ↓r_isi, ↓r_bi, ↓r_not, ↓r_and, ↓r_or, ↓r_ife, ↓r_chain, ↓r_none, ↓rp_cst, ↓rp_glob, ↓rp_bin, ↓rp_neg, ↓rp_ife, ↓rp_ix, ↓rp_bi, ↓rp_call, ↓rp_var, ↓r_sl, ↓r_call, ↓r_alloc, ↓r_allocM, ↓r_prim1, ↓r_prim2, ↓r_primN, ↓rd_nil, ↓rd_cons, ↓rd_int, ↓rd_bl, ↓rd_str, ↓rd_non, ↓rd_tup, ↓rd_lst, ↓rd_scr, ↓rd_dic, ↓rd_cls, ↓rd_fn, ↓rd_s, ↓rd_r, ↓r_chN, refP_s, ↓ri_seq, ↓rq_tup, ↓rq_lst, ↓r_var, ↓ra_var, ↓r_ret, ↓r_frz, ↓r_asBl, ↓r_asInt, ↓r_liftS, ↓ri_range, ↓ri_range2, ↓ri_zip, ↓ri_enum, ↓r_calle, ↓rc_fn, ↓en_lst, ↓en_tup, ↓rz_tup, ↓rz_lst, ↓rz_tl, ↓rz_lt, ↓ri_zip3, ↓rz_ttt, ↓rz_ttl, ↓rz_lll, ↓rx_expr, ↓rx_set, ↓rx_frz, ↓rx_ret, ↓rx_iff, ↓rx_mat, ↓then_nx, ↓then_rt, ↓then_bk, ↓then_ct, ↓rx_nil, ↓rx_cons, ↓rx_asg, ↓rt_name, ↓rt_tup, ↓rt_lst, ↓rt_nil, ↓rt_cons, ↓rx_setix, ↓rx_app, ↓rx_ext, ↓r_pop, ↓r_needL, ↓lstP_l, ↓obP_s, ↓r_chS, ↓rr_nil, ↓rr_cons, ↓rh_v, ↓rh_l, ↓rx_par, ↓rx_pass, ↓rx_for, ↓varP_v, ↓varP_n, bin_addI, bin_subI, cmp_lt, cmp_le, cmp_gt, cmp_ge, cmp_eqI, cmp_neI, cmp_eqB, cmp_eqS, cmp_neS, blR_s, bi_lenT, bi_lenL, bi_lenS, bi_tupT, bi_tupL, bi_lstT, bi_lstL, bi_max, bi_min, bi_intB, neg_i, isi_int, isi_tup, isi_lst, isi_dic, isi_str, isi_non, isi_bl, List.getElem?_cons_zero, List.getElem?_cons_succ, List.set_cons_zero, List.set_cons_succ, Option.map_some, R.flat, R.d, Ob.flat, Ob.d, true_and, and_true, eq_self, decide_eq_true_eq, reduceIte, Bool.true_and, Bool.false_and, Bool.and_false, Bool.and_true, Bool.false_eq_true, decide_true, decide_false, Bool.not_true, Bool.not_false, List.length_map, List.length_cons, List.length_nil, reduceCtorEq, and_self, true_or, or_true, or_false, false_or, or_self, sgD]; decide))
theorem c_law_are_signs (hs : Lw T d gs IsSignC) (h : IsF T g (F_law_are_signs gs)) : Lw T (d + 1) g AreSignsC := Lw.of h fun j hj x n s hv => run_eq [some (.val x), some (.val (.int n)), none] rfl rfl (by
  have e1 := hs.at hj
  unfold F_law_are_signs
  cases x with
  | tup ds =>
    obtain ⟨v1, v2⟩ := vl_tup hv
    by_cases hl : (ds.length : Int) = n
    · simp -dsimp only [wipe_n, wipe_c, ↓ra_nop, ↓ra_cst, ↓ra_glob, ↓ra_tup, ↓ra_lst, ↓ra_dic, ↓ra_bin, ↓ra_neg, ↓ra_not, ↓ra_and, ↓ra_or, ↓ra_ife, ↓ra_cmp, ↓ra_chain, ↓ra_ix, ↓ra_sl, ↓ra_rev, ↓ra_get2, ↓r_get2, ↓r_needT, ↓ra_isi, ↓ra_bi, ↓ra_call, ↓ra_calle, ↓ra_pop, ↓ra_alloc, ↓ra_comp, ↓ra_comp2, ↓ra_me, ↓ra_lrange, ↓r_dic, ↓r_needM, ↓r_me, ↓r_lrange, me_cl, me_js, me_ss, ↓r_cst, ↓r_glob, ↓re_nil, ↓re_cons, ↓rsa_nil, ↓rsa_cons, ↓r_tup, ↓r_lst, ↓r_bin, ↓r_cmp, ↓r_ix, ↓r_neg, ↓r_isi, ↓r_bi, ↓r_not, ↓r_and, ↓r_or, ↓r_ife, ↓r_chain, ↓r_none, ↓rp_cst, ↓rp_glob, ↓rp_bin, ↓rp_neg, ↓rp_ife, ↓rp_ix, ↓rp_bi, ↓rp_call, ↓rp_var, ↓r_sl, ↓r_call, ↓r_alloc, ↓r_allocM, ↓r_prim1, ↓r_prim2, ↓r_primN, ↓rd_nil, ↓rd_cons, ↓rd_int, ↓rd_bl, ↓rd_str, ↓rd_non, ↓rd_tup, ↓rd_lst, ↓rd_scr, ↓rd_dic, ↓rd_cls, ↓rd_fn, ↓rd_s, ↓rd_r, ↓r_chN, refP_s, ↓ri_seq, ↓rq_tup, ↓rq_lst, ↓r_var, ↓ra_var, ↓r_ret, ↓r_frz, ↓r_asBl, ↓r_asInt, ↓r_liftS, ↓ri_range, ↓ri_range2, ↓ri_zip, ↓ri_enum, ↓r_calle, ↓rc_fn, ↓en_lst, ↓en_tup, ↓rz_tup, ↓rz_lst, ↓rz_tl, ↓rz_lt, ↓ri_zip3, ↓rz_ttt, ↓rz_ttl, ↓rz_lll, ↓rx_expr, ↓rx_set, ↓rx_frz, ↓rx_ret, ↓rx_iff, ↓rx_mat, ↓then_nx, ↓then_rt, ↓then_bk, ↓then_ct, ↓rx_nil, ↓rx_cons, ↓rx_asg, ↓rt_name, ↓rt_tup, ↓rt_lst, ↓rt_nil, ↓rt_cons, ↓rx_setix, ↓rx_app, ↓rx_ext, ↓r_pop, ↓r_needL, ↓lstP_l, ↓obP_s, ↓r_chS, ↓rr_nil, ↓rr_cons, ↓rh_v, ↓rh_l, ↓rx_par, ↓rx_pass, ↓rx_for, ↓varP_v, ↓varP_n, bin_addI, bin_subI, cmp_lt, cmp_le, cmp_gt, cmp_ge, cmp_eqI, cmp_neI, cmp_eqB, cmp_eqS, cmp_neS, blR_s, bi_lenT, bi_lenL, bi_lenS, bi_tupT, bi_tupL, bi_lstT, bi_lstL, bi_max, bi_min, bi_intB, neg_i, isi_int, isi_tup, isi_lst, isi_dic, isi_str, isi_non, isi_bl, List.getElem?_cons_zero, List.getElem?_cons_succ, List.set_cons_zero, List.set_cons_succ, Option.map_some, R.flat, R.d, Ob.flat, Ob.d, true_and, and_true, eq_self, decide_eq_true_eq, reduceIte, Bool.true_and, Bool.false_and, Bool.and_false, Bool.and_true, Bool.false_eq_true, decide_true, decide_false, Bool.not_true, Bool.not_false, List.length_map, List.length_cons, List.length_nil, reduceCtorEq, and_self, true_or, or_true, or_false, false_or, or_self, isi_tup, hl]
      refine wv_compM ?_
      simp -dsimp only [wipe_n, wipe_c, ↓ra_nop, ↓ra_cst, ↓ra_glob, ↓ra_tup, ↓ra_lst, ↓ra_dic, ↓ra_bin, ↓ra_neg, ↓ra_not, ↓ra_and, ↓ra_or, ↓ra_ife, ↓ra_cmp, ↓ra_chain, ↓ra_ix, ↓ra_sl, ↓ra_rev, ↓ra_get2, ↓r_get2, ↓r_needT, ↓ra_isi, ↓ra_bi, ↓ra_call, ↓ra_calle, ↓ra_pop, ↓ra_alloc, ↓ra_comp, ↓ra_comp2, ↓ra_me, ↓ra_lrange, ↓r_dic, ↓r_needM, ↓r_me, ↓r_lrange, me_cl, me_js, me_ss, ↓r_cst, ↓r_glob, ↓re_nil, ↓re_cons, ↓rsa_nil, ↓rsa_cons, ↓r_tup, ↓r_lst, ↓r_bin, ↓r_cmp, ↓r_ix, ↓r_neg, ↓r_isi, ↓r_bi, ↓r_not, ↓r_and, ↓r_or, ↓r_ife, ↓r_chain, ↓r_none, ↓rp_cst, ↓rp_glob, ↓rp_bin, ↓rp_neg, ↓rp_ife, ↓rp_ix, ↓rp_bi, ↓rp_call, ↓rp_var, ↓r_sl, ↓r_call, ↓r_alloc, ↓r_allocM, ↓r_prim1, ↓r_prim2, ↓r_primN, ↓rd_nil, ↓rd_cons, ↓rd_int, ↓rd_bl, ↓rd_str, ↓rd_non, ↓rd_tup, ↓rd_lst, ↓rd_scr, ↓rd_dic, ↓rd_cls, ↓rd_fn, ↓rd_s, ↓rd_r, ↓r_chN, refP_s, ↓ri_seq, ↓rq_tup, ↓rq_lst, ↓r_var, ↓ra_var, ↓r_ret, ↓r_frz, ↓r_asBl, ↓r_asInt, ↓r_liftS, ↓ri_range, ↓ri_range2, ↓ri_zip, ↓ri_enum, ↓r_calle, ↓rc_fn, ↓en_lst, ↓en_tup, ↓rz_tup, ↓rz_lst, ↓rz_tl, ↓rz_lt, ↓ri_zip3, ↓rz_ttt, ↓rz_ttl, ↓rz_lll, ↓rx_expr, ↓rx_set, ↓rx_frz, ↓rx_ret, ↓rx_iff, ↓rx_mat, ↓then_nx, ↓then_rt, ↓then_bk, ↓then_ct, ↓rx_nil, ↓rx_cons, ↓rx_asg, ↓rt_name, ↓rt_tup, ↓rt_lst, ↓rt_nil, ↓rt_cons, ↓rx_setix, ↓rx_app, ↓rx_ext, ↓r_pop, ↓r_needL, ↓lstP_l, ↓obP_s, ↓r_chS, ↓rr_nil, ↓rr_cons, ↓rh_v, ↓rh_l, ↓rx_par, ↓rx_pass, ↓rx_for, ↓varP_v, ↓varP_n, bin_addI, bin_subI, cmp_lt, cmp_le, cmp_gt, cmp_ge, cmp_eqI, cmp_neI, cmp_eqB, cmp_eqS, cmp_neS, blR_s, bi_lenT, bi_lenL, bi_lenS, bi_tupT, bi_tupL, bi_lstT, bi_lstL, bi_max, bi_min, bi_intB, neg_i, isi_int, isi_tup, isi_lst, isi_dic, isi_str, isi_non, isi_bl, List.getElem?_cons_zero, List.getElem?_cons_succ, List.set_cons_zero, List.set_cons_succ, Option.map_some, R.flat, R.d, Ob.flat, Ob.d, true_and, and_true, eq_self, decide_eq_true_eq, reduceIte, Bool.true_and, Bool.false_and, Bool.and_false, Bool.and_true, Bool.false_eq_true, decide_true, decide_false, Bool.not_true, Bool.not_false, List.length_map, List.length_cons, List.length_nil, reduceCtorEq, and_self, true_or, or_true, or_false, false_or, or_self]
      refine ⟨rfl, v1, D, ds, id, fun d => if sgD d = true then none else some (.int 1), by simp, fun x hx => wt_if E.noConfusion rfl ?_, ?_⟩
      · simp -dsimp only [wipe_n, wipe_c, ↓ra_nop, ↓ra_cst, ↓ra_glob, ↓ra_tup, ↓ra_lst, ↓ra_dic, ↓ra_bin, ↓ra_neg, ↓ra_not, ↓ra_and, ↓ra_or, ↓ra_ife, ↓ra_cmp, ↓ra_chain, ↓ra_ix, ↓ra_sl, ↓ra_rev, ↓ra_get2, ↓r_get2, ↓r_needT, ↓ra_isi, ↓ra_bi, ↓ra_call, ↓ra_calle, ↓ra_pop, ↓ra_alloc, ↓ra_comp, ↓ra_comp2, ↓ra_me, ↓ra_lrange, ↓r_dic, ↓r_needM, ↓r_me, ↓r_lrange, me_cl, me_js, me_ss, ↓r_cst, ↓r_glob, ↓re_nil, ↓re_cons, ↓rsa_nil, ↓rsa_cons, ↓r_tup, ↓r_lst, ↓r_bin, ↓r_cmp, ↓r_ix, ↓r_neg, ↓r_isi, ↓r_bi, ↓r_not, ↓r_and, ↓r_or, ↓r_ife, ↓r_chain, ↓r_none, ↓rp_cst, ↓rp_glob, ↓rp_bin, ↓rp_neg, ↓rp_ife, ↓rp_ix, ↓rp_bi, ↓rp_call, ↓rp_var, ↓r_sl, ↓r_call, ↓r_alloc, ↓r_allocM, ↓r_prim1, ↓r_prim2, ↓r_primN, ↓rd_nil, ↓rd_cons, ↓rd_int, ↓rd_bl, ↓rd_str, ↓rd_non, ↓rd_tup, ↓rd_lst, ↓rd_scr, ↓rd_dic, ↓rd_cls, ↓rd_fn, ↓rd_s, ↓rd_r, ↓r_chN, refP_s, ↓ri_seq, ↓rq_tup, ↓rq_lst, ↓r_var, ↓ra_var, ↓r_ret, ↓r_frz, ↓r_asBl, ↓r_asInt, ↓r_liftS, ↓ri_range, ↓ri_range2, ↓ri_zip, ↓ri_enum, ↓r_calle, ↓rc_fn, ↓en_lst, ↓en_tup, ↓rz_tup, ↓rz_lst, ↓rz_tl, ↓rz_lt, ↓ri_zip3, ↓rz_ttt, ↓rz_ttl, ↓rz_lll, ↓rx_expr, ↓rx_set, ↓rx_frz, ↓rx_ret, ↓rx_iff, ↓rx_mat, ↓then_nx, ↓then_rt, ↓then_bk, ↓then_ct, ↓rx_nil, ↓rx_cons, ↓rx_asg, ↓rt_name, ↓rt_tup, ↓rt_lst, ↓rt_nil, ↓rt_cons, ↓rx_setix, ↓rx_app, ↓rx_ext, ↓r_pop, ↓r_needL, ↓lstP_l, ↓obP_s, ↓r_chS, ↓rr_nil, ↓rr_cons, ↓rh_v, ↓rh_l, ↓rx_par, ↓rx_pass, ↓rx_for, ↓varP_v, ↓varP_n, bin_addI, bin_subI, cmp_lt, cmp_le, cmp_gt, cmp_ge, cmp_eqI, cmp_neI, cmp_eqB, cmp_eqS, cmp_neS, blR_s, bi_lenT, bi_lenL, bi_lenS, bi_tupT, bi_tupL, bi_lstT, bi_lstL, bi_max, bi_min, bi_intB, neg_i, isi_int, isi_tup, isi_lst, isi_dic, isi_str, isi_non, isi_bl, List.getElem?_cons_zero, List.getElem?_cons_succ, List.set_cons_zero, List.set_cons_succ, Option.map_some, R.flat, R.d, Ob.flat, Ob.d, true_and, and_true, eq_self, decide_eq_true_eq, reduceIte, Bool.true_and, Bool.false_and, Bool.and_false, Bool.and_true, Bool.false_eq_true, decide_true, decide_false, Bool.not_true, Bool.not_false, List.length_map, List.length_cons, List.length_nil, reduceCtorEq, and_self, true_or, or_true, or_false, false_or, or_self, r_callM (e1 x s (v2 x hx)), wipeE, id]
        exact ⟨_, rfl, fun q => by simp at q; simp [q], fun q => by simp at q; simp [q]⟩
      · simp -dsimp only [wipe_n, wipe_c, ↓ra_nop, ↓ra_cst, ↓ra_glob, ↓ra_tup, ↓ra_lst, ↓ra_dic, ↓ra_bin, ↓ra_neg, ↓ra_not, ↓ra_and, ↓ra_or, ↓ra_ife, ↓ra_cmp, ↓ra_chain, ↓ra_ix, ↓ra_sl, ↓ra_rev, ↓ra_get2, ↓r_get2, ↓r_needT, ↓ra_isi, ↓ra_bi, ↓ra_call, ↓ra_calle, ↓ra_pop, ↓ra_alloc, ↓ra_comp, ↓ra_comp2, ↓ra_me, ↓ra_lrange, ↓r_dic, ↓r_needM, ↓r_me, ↓r_lrange, me_cl, me_js, me_ss, ↓r_cst, ↓r_glob, ↓re_nil, ↓re_cons, ↓rsa_nil, ↓rsa_cons, ↓r_tup, ↓r_lst, ↓r_bin, ↓r_cmp, ↓r_ix, ↓r_neg, ↓r_isi, ↓r_bi, ↓r_not, ↓r_and, ↓r_or, ↓r_ife, ↓r_chain, ↓r_none, ↓rp_cst, ↓rp_glob, ↓rp_bin, ↓rp_neg, ↓rp_ife, ↓rp_ix, ↓rp_bi, ↓rp_call, ↓rp_var, ↓r_sl, ↓r_call, ↓r_alloc, ↓r_allocM, ↓r_prim1, ↓r_prim2, ↓r_primN, ↓rd_nil, ↓rd_cons, ↓rd_int, ↓rd_bl, ↓rd_str, ↓rd_non, ↓rd_tup, ↓rd_lst, ↓rd_scr, ↓rd_dic, ↓rd_cls, ↓rd_fn, ↓rd_s, ↓rd_r, ↓r_chN, refP_s, ↓ri_seq, ↓rq_tup, ↓rq_lst, ↓r_var, ↓ra_var, ↓r_ret, ↓r_frz, ↓r_asBl, ↓r_asInt, ↓r_liftS, ↓ri_range, ↓ri_range2, ↓ri_zip, ↓ri_enum, ↓r_calle, ↓rc_fn, ↓en_lst, ↓en_tup, ↓rz_tup, ↓rz_lst, ↓rz_tl, ↓rz_lt, ↓ri_zip3, ↓rz_ttt, ↓rz_ttl, ↓rz_lll, ↓rx_expr, ↓rx_set, ↓rx_frz, ↓rx_ret, ↓rx_iff, ↓rx_mat, ↓then_nx, ↓then_rt, ↓then_bk, ↓then_ct, ↓rx_nil, ↓rx_cons, ↓rx_asg, ↓rt_name, ↓rt_tup, ↓rt_lst, ↓rt_nil, ↓rt_cons, ↓rx_setix, ↓rx_app, ↓rx_ext, ↓r_pop, ↓r_needL, ↓lstP_l, ↓obP_s, ↓r_chS, ↓rr_nil, ↓rr_cons, ↓rh_v, ↓rh_l, ↓rx_par, ↓rx_pass, ↓rx_for, ↓varP_v, ↓varP_n, bin_addI, bin_subI, cmp_lt, cmp_le, cmp_gt, cmp_ge, cmp_eqI, cmp_neI, cmp_eqB, cmp_eqS, cmp_neS, blR_s, bi_lenT, bi_lenL, bi_lenS, bi_tupT, bi_tupL, bi_lstT, bi_lstL, bi_max, bi_min, bi_intB, neg_i, isi_int, isi_tup, isi_lst, isi_dic, isi_str, isi_non, isi_bl, List.getElem?_cons_zero, List.getElem?_cons_succ, List.set_cons_zero, List.set_cons_succ, Option.map_some, R.flat, R.d, Ob.flat, Ob.d, true_and, and_true, eq_self, decide_eq_true_eq, reduceIte, Bool.true_and, Bool.false_and, Bool.and_false, Bool.and_true, Bool.false_eq_true, decide_true, decide_false, Bool.not_true, Bool.not_false, List.length_map, List.length_cons, List.length_nil, reduceCtorEq, and_self, true_or, or_true, or_false, false_or, or_self, ones_eq, sgsD, hl]
        exact Nat.zero_le _
    · simp -dsimp only [wipe_n, wipe_c, ↓ra_nop, ↓ra_cst, ↓ra_glob, ↓ra_tup, ↓ra_lst, ↓ra_dic, ↓ra_bin, ↓ra_neg, ↓ra_not, ↓ra_and, ↓ra_or, ↓ra_ife, ↓ra_cmp, ↓ra_chain, ↓ra_ix, ↓ra_sl, ↓ra_rev, ↓ra_get2, ↓r_get2, ↓r_needT, ↓ra_isi, ↓ra_bi, ↓ra_call, ↓ra_calle, ↓ra_pop, ↓ra_alloc, ↓ra_comp, ↓ra_comp2, ↓ra_me, ↓ra_lrange, ↓r_dic, ↓r_needM, ↓r_me, ↓r_lrange, me_cl, me_js, me_ss, ↓r_cst, ↓r_glob, ↓re_nil, ↓re_cons, ↓rsa_nil, ↓rsa_cons, ↓r_tup, ↓r_lst, ↓r_bin, ↓r_cmp, ↓r_ix, ↓r_neg, ↓r_isi, ↓r_bi, ↓r_not, ↓r_and, ↓r_or, ↓r_ife, ↓r_chain, ↓r_none, ↓rp_cst, ↓rp_glob, ↓rp_bin, ↓rp_neg, ↓rp_ife, ↓rp_ix, ↓rp_bi, ↓rp_call, ↓rp_var, ↓r_sl, ↓r_call, ↓r_alloc, ↓r_allocM, ↓r_prim1, ↓r_prim2, ↓r_primN, ↓rd_nil, ↓rd_cons, ↓rd_int, ↓rd_bl, ↓rd_str, ↓rd_non, ↓rd_tup, ↓rd_lst, ↓rd_scr, ↓rd_dic, ↓rd_cls, ↓rd_fn, ↓rd_s, ↓rd_r, ↓r_chN, refP_s, ↓ri_seq, ↓rq_tup, ↓rq_lst, ↓r_var, ↓ra_var, ↓r_ret, ↓r_frz, ↓r_asBl, ↓r_asInt, ↓r_liftS, ↓ri_range, ↓ri_range2, ↓ri_zip, ↓ri_enum, ↓r_calle, ↓rc_fn, ↓en_lst, ↓en_tup, ↓rz_tup, ↓rz_lst, ↓rz_tl, ↓rz_lt, ↓ri_zip3, ↓rz_ttt, ↓rz_ttl, ↓rz_lll, ↓rx_expr, ↓rx_set, ↓rx_frz, ↓rx_ret, ↓rx_iff, ↓rx_mat, ↓then_nx, ↓then_rt, ↓then_bk, ↓then_ct, ↓rx_nil, ↓rx_cons, ↓rx_asg, ↓rt_name, ↓rt_tup, ↓rt_lst, ↓rt_nil, ↓rt_cons, ↓rx_setix, ↓rx_app, ↓rx_ext, ↓r_pop, ↓r_needL, ↓lstP_l, ↓obP_s, ↓r_chS, ↓rr_nil, ↓rr_cons, ↓rh_v, ↓rh_l, ↓rx_par, ↓rx_pass, ↓rx_for, ↓varP_v, ↓varP_n, bin_addI, bin_subI, cmp_lt, cmp_le, cmp_gt, cmp_ge, cmp_eqI, cmp_neI, cmp_eqB, cmp_eqS, cmp_neS, blR_s, bi_lenT, bi_lenL, bi_lenS, bi_tupT, bi_tupL, bi_lstT, bi_lstL, bi_max, bi_min, bi_intB, neg_i, isi_int, isi_tup, isi_lst, isi_dic, isi_str, isi_non, isi_bl, List.getElem?_cons_zero, List.getElem?_cons_succ, List.set_cons_zero, List.set_cons_succ, Option.map_some, R.flat, R.d, Ob.flat, Ob.d, true_and, and_true, eq_self, decide_eq_true_eq, reduceIte, Bool.true_and, Bool.false_and, Bool.and_false, Bool.and_true, Bool.false_eq_true, decide_true, decide_false, Bool.not_true, Bool.not_false, List.length_map, List.length_cons, List.length_nil, reduceCtorEq, and_self, true_or, or_true, or_false, false_or, or_self, isi_tup, hl, sgsD]
  | _ => first | (cases hv; done) | (simp -dsimp only [wipe_n, wipe_c, ↓ra_nop, ↓ra_cst, ↓ra_glob, ↓ra_tup, ↓ra_lst, ↓ra_dic, ↓ra_bin, ↓ra_neg, ↓ra_not, ↓ra_and, ↓ra_or, ↓ra_ife, ↓ra_cmp, ↓ra_chain, ↓ra_ix, ↓ra_sl, ↓ra_rev, ↓ra_get2, ↓r_get2, ↓r_needT, ↓ra_isi, ↓ra_bi, ↓ra_call, ↓ra_calle, ↓ra_pop, ↓ra_alloc, ↓ra_comp, ↓ra_comp2, ↓ra_me, ↓ra_lrange, ↓r_dic, ↓r_needM, ↓r_me, ↓r_lrange, me_cl, me_js, me_ss, ↓r_cst, ↓r_glob, ↓re_nil, ↓re_cons, ↓rsa_nil, ↓rsa_cons, ↓r_tup, ↓r_lst, ↓r_bin, ↓r_cmp, ↓r_ix, ↓r_neg, ↓r_isi, ↓r_bi, ↓r_not, ↓r_and, ↓r_or, ↓r_ife, ↓r_chain, ↓r_none, ↓rp_cst, ↓rp_glob, ↓rp_bin, ↓rp_neg, ↓rp_ife, ↓rp_ix, ↓rp_bi, ↓rp_call, ↓rp_var, ↓r_sl, ↓r_call, ↓r_alloc, ↓r_allocM, ↓r_prim1, ↓r_prim2, ↓r_primN, ↓rd_nil, ↓rd_cons, ↓rd_int, ↓rd_bl, ↓rd_str, ↓rd_non, ↓rd_tup, ↓rd_lst, ↓rd_scr, ↓rd_dic, ↓rd_cls, ↓rd_fn, ↓rd_s, ↓rd_r, ↓r_chN, refP_s, ↓ri_seq, ↓rq_tup, ↓rq_lst, ↓r_var, ↓ra_var, ↓r_ret, ↓r_frz, ↓r_asBl, ↓r_asInt, ↓r_liftS, ↓ri_range, ↓ri_range2, ↓ri_zip, ↓ri_enum, ↓r_calle, ↓rc_fn, ↓en_lst, ↓en_tup, ↓rz_tup, ↓rz_lst, ↓rz_tl, ↓rz_lt, ↓ri_zip3, ↓rz_ttt, ↓rz_ttl, ↓rz_lll, ↓rx_expr, ↓rx_set, ↓rx_frz, ↓rx_ret, ↓rx_iff, ↓rx_mat, ↓then_nx, ↓then_rt, ↓then_bk, ↓then_ct, ↓rx_nil, ↓rx_cons, ↓rx_asg, ↓rt_name, ↓rt_tup, ↓rt_lst, ↓rt_nil, ↓rt_cons, ↓rx_setix, ↓rx_app, ↓rx_ext, ↓r_pop, ↓r_needL, ↓lstP_l, ↓obP_s, ↓r_chS, ↓rr_nil, ↓rr_cons, ↓rh_v, ↓rh_l, ↓rx_par, ↓rx_pass, ↓rx_for, ↓varP_v, ↓varP_n, bin_addI, bin_subI, cmp_lt, cmp_le, cmp_gt, cmp_ge, cmp_eqI, cmp_neI, cmp_eqB, cmp_eqS, cmp_neS, blR_s, bi_lenT, bi_lenL, bi_lenS, bi_tupT, bi_tupL, bi_lstT, bi_lstL, bi_max, bi_min, bi_intB, neg_i, isi_int, isi_tup, isi_lst, isi_dic, isi_str, isi_non, isi_bl, List.getElem?_cons_zero, List.getElem?_cons_succ, List.set_cons_zero, List.set_cons_succ, Option.map_some, R.flat, R.d, Ob.flat, Ob.d, true_and, and_true, eq_self, decide_eq_true_eq, reduceIte, Bool.true_and, Bool.false_and, Bool.and_false, Bool.and_true, Bool.false_eq_true, decide_true, decide_false, Bool.not_true, Bool.not_false, List.length_map, List.length_cons, List.length_nil, reduceCtorEq, and_self, true_or, or_true, or_false, false_or, or_self, sgsD]; done) | (simp -dsimp only [wipe_n, wipe_c, ↓ra_nop, ↓ra_cst, ↓ra_glob, ↓ra_tup, ↓ra_lst, ↓ra_dic, ↓ra_bin, ↓ra_neg, ↓ra_not, ↓ra_and, ↓ra_or, ↓ra_ife, ↓ra_cmp, ↓ra_chain, ↓ra_ix, ↓ra_sl, ↓ra_rev, ↓ra_get2, ↓r_get2, ↓r_needT, ↓ra_isi, ↓ra_bi, ↓ra_call, ↓ra_calle, ↓ra_pop, ↓ra_alloc, ↓ra_comp, ↓ra_comp2, ↓ra_me, ↓ra_lrange, ↓r_dic, ↓r_needM, ↓r_me, ↓r_lrange, me_cl, me_js, me_ss, ↓r_cst, ↓r_glob, ↓re_nil, ↓re_cons, ↓rsa_nil, ↓rsa_cons, ↓r_tup, ↓r_lst, ↓r_bin, ↓r_cmp, ↓r_ix, ↓r_neg, ↓r_isi, ↓r_bi, ↓r_not, ↓r_and, ↓r_or, ↓r_ife, ↓r_chain, ↓r_none, ↓rp_cst, ↓rp_glob, ↓rp_bin, ↓rp_neg, ↓rp_ife, ↓rp_ix, ↓rp_bi, ↓rp_call, ↓rp_var, ↓r_sl, ↓r_call, ↓r_alloc, ↓r_allocM, ↓r_prim1, ↓r_prim2, ↓r_primN, ↓rd_nil, ↓rd_cons, ↓rd_int, ↓rd_bl, ↓rd_str, ↓rd_non, ↓rd_tup, ↓rd_lst, ↓rd_scr, ↓rd_dic, ↓rd_cls, ↓rd_fn, ↓rd_s, ↓rd_r, ↓r_chN, refP_s, ↓ri_seq, ↓rq_tup, ↓rq_lst, ↓r_var, ↓ra_var, ↓r_ret, ↓r_frz, ↓r_asBl, ↓r_asInt, ↓r_liftS, ↓ri_range, ↓ri_range2, ↓ri_zip, ↓ri_enum, ↓r_calle, ↓rc_fn, ↓en_lst, ↓en_tup, ↓rz_tup, ↓rz_lst, ↓rz_tl, ↓rz_lt, ↓ri_zip3, ↓rz_ttt, ↓rz_ttl, ↓rz_lll, ↓rx_expr, ↓rx_set, ↓rx_frz, ↓rx_ret, ↓rx_iff, ↓rx_mat, ↓then_nx, ↓then_rt, ↓then_bk, ↓then_ct, ↓rx_nil, ↓rx_cons, ↓rx_asg, ↓rt_name, ↓rt_tup, ↓rt_lst, ↓rt_nil, ↓rt_cons, ↓rx_setix, ↓rx_app, ↓rx_ext, ↓r_pop, ↓r_needL, ↓lstP_l, ↓obP_s, ↓r_chS, ↓rr_nil, ↓rr_cons, ↓rh_v, ↓rh_l, ↓rx_par, ↓rx_pass, ↓rx_for, ↓varP_v, ↓varP_n, bin_addI, bin_subI, cmp_lt, cmp_le, cmp_gt, cmp_ge, cmp_eqI, cmp_neI, cmp_eqB, cmp_eqS, cmp_neS, blR_s, bi_lenT, bi_lenL, bi_lenS, bi_tupT, bi_tupL, bi_lstT, bi_lstL, bi_max, bi_min, bi_intB, neg_i, isi_int, isi_tup, isi_lst, isi_dic, isi_str, isi_non, isi_bl, List.getElem?_cons_zero, List.getElem?_cons_succ, List.set_cons_zero, List.set_cons_succ, Option.map_some, R.flat, R.d, Ob.flat, Ob.d, true_and, and_true, eq_self, decide_eq_true_eq, reduceIte, Bool.true_and, Bool.false_and, Bool.and_false, Bool.and_true, Bool.false_eq_true, decide_true, decide_false, Bool.not_true, Bool.not_false, List.length_map, List.length_cons, List.length_nil, reduceCtorEq, and_self, true_or, or_true, or_false, false_or, or_self, sgsD]; decide))
theorem c_law_is_table (hr : Lw T d gr AreSignsC) (h : IsF T g (F_law_is_table gr)) : Lw T (d + 1) g IsTableC := Lw.of h fun j hj x s hv => run_eq [some (.val x), none] rfl rfl (by
  have e1 := hr.at hj
  unfold F_law_is_table
  cases x with
  | tup ds =>
    obtain ⟨v1, v2⟩ := vl_tup hv
    by_cases h1 : 1 ≤ ds.length
    · have c1 : (1 : Int) ≤ ds.length := by omega
      by_cases h5 : ds.length ≤ 5
      · have c2 : (ds.length : Int) ≤ 5 := by omega
        simp -dsimp only [wipe_n, wipe_c, ↓ra_nop, ↓ra_cst, ↓ra_glob, ↓ra_tup, ↓ra_lst, ↓ra_dic, ↓ra_bin, ↓ra_neg, ↓ra_not, ↓ra_and, ↓ra_or, ↓ra_ife, ↓ra_cmp, ↓ra_chain, ↓ra_ix, ↓ra_sl, ↓ra_rev, ↓ra_get2, ↓r_get2, ↓r_needT, ↓ra_isi, ↓ra_bi, ↓ra_call, ↓ra_calle, ↓ra_pop, ↓ra_alloc, ↓ra_comp, ↓ra_comp2, ↓ra_me, ↓ra_lrange, ↓r_dic, ↓r_needM, ↓r_me, ↓r_lrange, me_cl, me_js, me_ss, ↓r_cst, ↓r_glob, ↓re_nil, ↓re_cons, ↓rsa_nil, ↓rsa_cons, ↓r_tup, ↓r_lst, ↓r_bin, ↓r_cmp, ↓r_ix, ↓r_neg, ↓r_isi, ↓r_bi, ↓r_not, ↓r_and, ↓r_or, ↓r_ife, ↓r_chain, ↓r_none, ↓rp_cst, ↓rp_glob, ↓rp_bin, ↓rp_neg, ↓rp_ife, ↓rp_ix, ↓rp_bi, ↓rp_call, ↓rp_var, ↓r_sl, ↓r_call, ↓r_alloc, ↓r_allocM, ↓r_prim1, ↓r_prim2, ↓r_primN, ↓rd_nil, ↓rd_cons, ↓rd_int, ↓rd_bl, ↓rd_str, ↓rd_non, ↓rd_tup, ↓rd_lst, ↓rd_scr, ↓rd_dic, ↓rd_cls, ↓rd_fn, ↓rd_s, ↓rd_r, ↓r_chN, refP_s, ↓ri_seq, ↓rq_tup, ↓rq_lst, ↓r_var, ↓ra_var, ↓r_ret, ↓r_frz, ↓r_asBl, ↓r_asInt, ↓r_liftS, ↓ri_range, ↓ri_range2, ↓ri_zip, ↓ri_enum, ↓r_calle, ↓rc_fn, ↓en_lst, ↓en_tup, ↓rz_tup, ↓rz_lst, ↓rz_tl, ↓rz_lt, ↓ri_zip3, ↓rz_ttt, ↓rz_ttl, ↓rz_lll, ↓rx_expr, ↓rx_set, ↓rx_frz, ↓rx_ret, ↓rx_iff, ↓rx_mat, ↓then_nx, ↓then_rt, ↓then_bk, ↓then_ct, ↓rx_nil, ↓rx_cons, ↓rx_asg, ↓rt_name, ↓rt_tup, ↓rt_lst, ↓rt_nil, ↓rt_cons, ↓rx_setix, ↓rx_app, ↓rx_ext, ↓r_pop, ↓r_needL, ↓lstP_l, ↓obP_s, ↓r_chS, ↓rr_nil, ↓rr_cons, ↓rh_v, ↓rh_l, ↓rx_par, ↓rx_pass, ↓rx_for, ↓varP_v, ↓varP_n, bin_addI, bin_subI, cmp_lt, cmp_le, cmp_gt, cmp_ge, cmp_eqI, cmp_neI, cmp_eqB, cmp_eqS, cmp_neS, blR_s, bi_lenT, bi_lenL, bi_lenS, bi_tupT, bi_tupL, bi_lstT, bi_lstL, bi_max, bi_min, bi_intB, neg_i, isi_int, isi_tup, isi_lst, isi_dic, isi_str, isi_non, isi_bl, List.getElem?_cons_zero, List.getElem?_cons_succ, List.set_cons_zero, List.set_cons_succ, Option.map_some, R.flat, R.d, Ob.flat, Ob.d, true_and, and_true, eq_self, decide_eq_true_eq, reduceIte, Bool.true_and, Bool.false_and, Bool.and_false, Bool.and_true, Bool.false_eq_true, decide_true, decide_false, Bool.not_true, Bool.not_false, List.length_map, List.length_cons, List.length_nil, reduceCtorEq, and_self, true_or, or_true, or_false, false_or, or_self, isi_tup, c1, c2]
        refine wv_compM ?_
        simp -dsimp only [wipe_n, wipe_c, ↓ra_nop, ↓ra_cst, ↓ra_glob, ↓ra_tup, ↓ra_lst, ↓ra_dic, ↓ra_bin, ↓ra_neg, ↓ra_not, ↓ra_and, ↓ra_or, ↓ra_ife, ↓ra_cmp, ↓ra_chain, ↓ra_ix, ↓ra_sl, ↓ra_rev, ↓ra_get2, ↓r_get2, ↓r_needT, ↓ra_isi, ↓ra_bi, ↓ra_call, ↓ra_calle, ↓ra_pop, ↓ra_alloc, ↓ra_comp, ↓ra_comp2, ↓ra_me, ↓ra_lrange, ↓r_dic, ↓r_needM, ↓r_me, ↓r_lrange, me_cl, me_js, me_ss, ↓r_cst, ↓r_glob, ↓re_nil, ↓re_cons, ↓rsa_nil, ↓rsa_cons, ↓r_tup, ↓r_lst, ↓r_bin, ↓r_cmp, ↓r_ix, ↓r_neg, ↓r_isi, ↓r_bi, ↓r_not, ↓r_and, ↓r_or, ↓r_ife, ↓r_chain, ↓r_none, ↓rp_cst, ↓rp_glob, ↓rp_bin, ↓rp_neg, ↓rp_ife, ↓rp_ix, ↓rp_bi, ↓rp_call, ↓rp_var, ↓r_sl, ↓r_call, ↓r_alloc, ↓r_allocM, ↓r_prim1, ↓r_prim2, ↓r_primN, ↓rd_nil, ↓rd_cons, ↓rd_int, ↓rd_bl, ↓rd_str, ↓rd_non, ↓rd_tup, ↓rd_lst, ↓rd_scr, ↓rd_dic, ↓rd_cls, ↓rd_fn, ↓rd_s, ↓rd_r, ↓r_chN, refP_s, ↓ri_seq, ↓rq_tup, ↓rq_lst, ↓r_var, ↓ra_var, ↓r_ret, ↓r_frz, ↓r_asBl, ↓r_asInt, ↓r_liftS, ↓ri_range, ↓ri_range2, ↓ri_zip, ↓ri_enum, ↓r_calle, ↓rc_fn, ↓en_lst, ↓en_tup, ↓rz_tup, ↓rz_lst, ↓rz_tl, ↓rz_lt, ↓ri_zip3, ↓rz_ttt, ↓rz_ttl, ↓rz_lll, ↓rx_expr, ↓rx_set, ↓rx_frz, ↓rx_ret, ↓rx_iff, ↓rx_mat, ↓then_nx, ↓then_rt, ↓then_bk, ↓then_ct, ↓rx_nil, ↓rx_cons, ↓rx_asg, ↓rt_name, ↓rt_tup, ↓rt_lst, ↓rt_nil, ↓rt_cons, ↓rx_setix, ↓rx_app, ↓rx_ext, ↓r_pop, ↓r_needL, ↓lstP_l, ↓obP_s, ↓r_chS, ↓rr_nil, ↓rr_cons, ↓rh_v, ↓rh_l, ↓rx_par, ↓rx_pass, ↓rx_for, ↓varP_v, ↓varP_n, bin_addI, bin_subI, cmp_lt, cmp_le, cmp_gt, cmp_ge, cmp_eqI, cmp_neI, cmp_eqB, cmp_eqS, cmp_neS, blR_s, bi_lenT, bi_lenL, bi_lenS, bi_tupT, bi_tupL, bi_lstT, bi_lstL, bi_max, bi_min, bi_intB, neg_i, isi_int, isi_tup, isi_lst, isi_dic, isi_str, isi_non, isi_bl, List.getElem?_cons_zero, List.getElem?_cons_succ, List.set_cons_zero, List.set_cons_succ, Option.map_some, R.flat, R.d, Ob.flat, Ob.d, true_and, and_true, eq_self, decide_eq_true_eq, reduceIte, Bool.true_and, Bool.false_and, Bool.and_false, Bool.and_true, Bool.false_eq_true, decide_true, decide_false, Bool.not_true, Bool.not_false, List.length_map, List.length_cons, List.length_nil, reduceCtorEq, and_self, true_or, or_true, or_false, false_or, or_self]
        refine ⟨rfl, v1, D, ds, id, fun d => if sgsD ds.length d = true then none else some (.int 1), by simp, fun x hx => wt_if E.noConfusion rfl ?_, ?_⟩
        · simp -dsimp only [wipe_n, wipe_c, ↓ra_nop, ↓ra_cst, ↓ra_glob, ↓ra_tup, ↓ra_lst, ↓ra_dic, ↓ra_bin, ↓ra_neg, ↓ra_not, ↓ra_and, ↓ra_or, ↓ra_ife, ↓ra_cmp, ↓ra_chain, ↓ra_ix, ↓ra_sl, ↓ra_rev, ↓ra_get2, ↓r_get2, ↓r_needT, ↓ra_isi, ↓ra_bi, ↓ra_call, ↓ra_calle, ↓ra_pop, ↓ra_alloc, ↓ra_comp, ↓ra_comp2, ↓ra_me, ↓ra_lrange, ↓r_dic, ↓r_needM, ↓r_me, ↓r_lrange, me_cl, me_js, me_ss, ↓r_cst, ↓r_glob, ↓re_nil, ↓re_cons, ↓rsa_nil, ↓rsa_cons, ↓r_tup, ↓r_lst, ↓r_bin, ↓r_cmp, ↓r_ix, ↓r_neg, ↓r_isi, ↓r_bi, ↓r_not, ↓r_and, ↓r_or, ↓r_ife, ↓r_chain, ↓r_none, ↓rp_cst, ↓rp_glob, ↓rp_bin, ↓rp_neg, ↓rp_ife, ↓rp_ix, ↓rp_bi, ↓rp_call, ↓rp_var, ↓r_sl, ↓r_call, ↓r_alloc, ↓r_allocM, ↓r_prim1, ↓r_prim2, ↓r_primN, ↓rd_nil, ↓rd_cons, ↓rd_int, ↓rd_bl, ↓rd_str, ↓rd_non, ↓rd_tup, ↓rd_lst, ↓rd_scr, ↓rd_dic, ↓rd_cls, ↓rd_fn, ↓rd_s, ↓rd_r, ↓r_chN, refP_s, ↓ri_seq, ↓rq_tup, ↓rq_lst, ↓r_var, ↓ra_var, ↓r_ret, ↓r_frz, ↓r_asBl, ↓r_asInt, ↓r_liftS, ↓ri_range, ↓ri_range2, ↓ri_zip, ↓ri_enum, ↓r_calle, ↓rc_fn, ↓en_lst, ↓en_tup, ↓rz_tup, ↓rz_lst, ↓rz_tl, ↓rz_lt, ↓ri_zip3, ↓rz_ttt, ↓rz_ttl, ↓rz_lll, ↓rx_expr, ↓rx_set, ↓rx_frz, ↓rx_ret, ↓rx_iff, ↓rx_mat, ↓then_nx, ↓then_rt, ↓then_bk, ↓then_ct, ↓rx_nil, ↓rx_cons, ↓rx_asg, ↓rt_name, ↓rt_tup, ↓rt_lst, ↓rt_nil, ↓rt_cons, ↓rx_setix, ↓rx_app, ↓rx_ext, ↓r_pop, ↓r_needL, ↓lstP_l, ↓obP_s, ↓r_chS, ↓rr_nil, ↓rr_cons, ↓rh_v, ↓rh_l, ↓rx_par, ↓rx_pass, ↓rx_for, ↓varP_v, ↓varP_n, bin_addI, bin_subI, cmp_lt, cmp_le, cmp_gt, cmp_ge, cmp_eqI, cmp_neI, cmp_eqB, cmp_eqS, cmp_neS, blR_s, bi_lenT, bi_lenL, bi_lenS, bi_tupT, bi_tupL, bi_lstT, bi_lstL, bi_max, bi_min, bi_intB, neg_i, isi_int, isi_tup, isi_lst, isi_dic, isi_str, isi_non, isi_bl, List.getElem?_cons_zero, List.getElem?_cons_succ, List.set_cons_zero, List.set_cons_succ, Option.map_some, R.flat, R.d, Ob.flat, Ob.d, true_and, and_true, eq_self, decide_eq_true_eq, reduceIte, Bool.true_and, Bool.false_and, Bool.and_false, Bool.and_true, Bool.false_eq_true, decide_true, decide_false, Bool.not_true, Bool.not_false, List.length_map, List.length_cons, List.length_nil, reduceCtorEq, and_self, true_or, or_true, or_false, false_or, or_self, r_callM (e1 x ds.length s (v2 x hx)), wipeE, id]
          exact ⟨_, rfl, fun q => by simp at q; simp [q], fun q => by simp at q; simp [q]⟩
        · simp -dsimp only [wipe_n, wipe_c, ↓ra_nop, ↓ra_cst, ↓ra_glob, ↓ra_tup, ↓ra_lst, ↓ra_dic, ↓ra_bin, ↓ra_neg, ↓ra_not, ↓ra_and, ↓ra_or, ↓ra_ife, ↓ra_cmp, ↓ra_chain, ↓ra_ix, ↓ra_sl, ↓ra_rev, ↓ra_get2, ↓r_get2, ↓r_needT, ↓ra_isi, ↓ra_bi, ↓ra_call, ↓ra_calle, ↓ra_pop, ↓ra_alloc, ↓ra_comp, ↓ra_comp2, ↓ra_me, ↓ra_lrange, ↓r_dic, ↓r_needM, ↓r_me, ↓r_lrange, me_cl, me_js, me_ss, ↓r_cst, ↓r_glob, ↓re_nil, ↓re_cons, ↓rsa_nil, ↓rsa_cons, ↓r_tup, ↓r_lst, ↓r_bin, ↓r_cmp, ↓r_ix, ↓r_neg, ↓r_isi, ↓r_bi, ↓r_not, ↓r_and, ↓r_or, ↓r_ife, ↓r_chain, ↓r_none, ↓rp_cst, ↓rp_glob, ↓rp_bin, ↓rp_neg, ↓rp_ife, ↓rp_ix, ↓rp_bi, ↓rp_call, ↓rp_var, ↓r_sl, ↓r_call, ↓r_alloc, ↓r_allocM, ↓r_prim1, ↓r_prim2, ↓r_primN, ↓rd_nil, ↓rd_cons, ↓rd_int, ↓rd_bl, ↓rd_str, ↓rd_non, ↓rd_tup, ↓rd_lst, ↓rd_scr, ↓rd_dic, ↓rd_cls, ↓rd_fn, ↓rd_s, ↓rd_r, ↓r_chN, refP_s, ↓ri_seq, ↓rq_tup, ↓rq_lst, ↓r_var, ↓ra_var, ↓r_ret, ↓r_frz, ↓r_asBl, ↓r_asInt, ↓r_liftS, ↓ri_range, ↓ri_range2, ↓ri_zip, ↓ri_enum, ↓r_calle, ↓rc_fn, ↓en_lst, ↓en_tup, ↓rz_tup, ↓rz_lst, ↓rz_tl, ↓rz_lt, ↓ri_zip3, ↓rz_ttt, ↓rz_ttl, ↓rz_lll, ↓rx_expr, ↓rx_set, ↓rx_frz, ↓rx_ret, ↓rx_iff, ↓rx_mat, ↓then_nx, ↓then_rt, ↓then_bk, ↓then_ct, ↓rx_nil, ↓rx_cons, ↓rx_asg, ↓rt_name, ↓rt_tup, ↓rt_lst, ↓rt_nil, ↓rt_cons, ↓rx_setix, ↓rx_app, ↓rx_ext, ↓r_pop, ↓r_needL, ↓lstP_l, ↓obP_s, ↓r_chS, ↓rr_nil, ↓rr_cons, ↓rh_v, ↓rh_l, ↓rx_par, ↓rx_pass, ↓rx_for, ↓varP_v, ↓varP_n, bin_addI, bin_subI, cmp_lt, cmp_le, cmp_gt, cmp_ge, cmp_eqI, cmp_neI, cmp_eqB, cmp_eqS, cmp_neS, blR_s, bi_lenT, bi_lenL, bi_lenS, bi_tupT, bi_tupL, bi_lstT, bi_lstL, bi_max, bi_min, bi_intB, neg_i, isi_int, isi_tup, isi_lst, isi_dic, isi_str, isi_non, isi_bl, List.getElem?_cons_zero, List.getElem?_cons_succ, List.set_cons_zero, List.set_cons_succ, Option.map_some, R.flat, R.d, Ob.flat, Ob.d, true_and, and_true, eq_self, decide_eq_true_eq, reduceIte, Bool.true_and, Bool.false_and, Bool.and_false, Bool.and_true, Bool.false_eq_true, decide_true, decide_false, Bool.not_true, Bool.not_false, List.length_map, List.length_cons, List.length_nil, reduceCtorEq, and_self, true_or, or_true, or_false, false_or, or_self, ones_eq, tabD, h1, h5]
          exact Nat.zero_le _
      · have c2 : ¬ (ds.length : Int) ≤ 5 := by omega
        simp -dsimp only [wipe_n, wipe_c, ↓ra_nop, ↓ra_cst, ↓ra_glob, ↓ra_tup, ↓ra_lst, ↓ra_dic, ↓ra_bin, ↓ra_neg, ↓ra_not, ↓ra_and, ↓ra_or, ↓ra_ife, ↓ra_cmp, ↓ra_chain, ↓ra_ix, ↓ra_sl, ↓ra_rev, ↓ra_get2, ↓r_get2, ↓r_needT, ↓ra_isi, ↓ra_bi, ↓ra_call, ↓ra_calle, ↓ra_pop, ↓ra_alloc, ↓ra_comp, ↓ra_comp2, ↓ra_me, ↓ra_lrange, ↓r_dic, ↓r_needM, ↓r_me, ↓r_lrange, me_cl, me_js, me_ss, ↓r_cst, ↓r_glob, ↓re_nil, ↓re_cons, ↓rsa_nil, ↓rsa_cons, ↓r_tup, ↓r_lst, ↓r_bin, ↓r_cmp, ↓r_ix, ↓r_neg, ↓r_isi, ↓r_bi, ↓r_not, ↓r_and, ↓r_or, ↓r_ife, ↓r_chain, ↓r_none, ↓rp_cst, ↓rp_glob, ↓rp_bin, ↓rp_neg, ↓rp_ife, ↓rp_ix, ↓rp_bi, ↓rp_call, ↓rp_var, ↓r_sl, ↓r_call, ↓r_alloc, ↓r_allocM, ↓r_prim1, ↓r_prim2, ↓r_primN, ↓rd_nil, ↓rd_cons, ↓rd_int, ↓rd_bl, ↓rd_str, ↓rd_non, ↓rd_tup, ↓rd_lst, ↓rd_scr, ↓rd_dic, ↓rd_cls, ↓rd_fn, ↓rd_s, ↓rd_r, ↓r_chN, refP_s, ↓ri_seq, ↓rq_tup, ↓rq_lst, ↓r_var, ↓ra_var, ↓r_ret, ↓r_frz, ↓r_asBl, ↓r_asInt, ↓r_liftS, ↓ri_range, ↓ri_range2, ↓ri_zip, ↓ri_enum, ↓r_calle, ↓rc_fn, ↓en_lst, ↓en_tup, ↓rz_tup, ↓rz_lst, ↓rz_tl, ↓rz_lt, ↓ri_zip3, ↓rz_ttt, ↓rz_ttl, ↓rz_lll, ↓rx_expr, ↓rx_set, ↓rx_frz, ↓rx_ret, ↓rx_iff, ↓rx_mat, ↓then_nx, ↓then_rt, ↓then_bk, ↓then_ct, ↓rx_nil, ↓rx_cons, ↓rx_asg, ↓rt_name, ↓rt_tup, ↓rt_lst, ↓rt_nil, ↓rt_cons, ↓rx_setix, ↓rx_app, ↓rx_ext, ↓r_pop, ↓r_needL, ↓lstP_l, ↓obP_s, ↓r_chS, ↓rr_nil, ↓rr_cons, ↓rh_v, ↓rh_l, ↓rx_par, ↓rx_pass, ↓rx_for, ↓varP_v, ↓varP_n, bin_addI, bin_subI, cmp_lt, cmp_le, cmp_gt, cmp_ge, cmp_eqI, cmp_neI, cmp_eqB, cmp_eqS, cmp_neS, blR_s, bi_lenT, bi_lenL, bi_lenS, bi_tupT, bi_tupL, bi_lstT, bi_lstL, bi_max, bi_min, bi_intB, neg_i, isi_int, isi_tup, isi_lst, isi_dic, isi_str, isi_non, isi_bl, List.getElem?_cons_zero, List.getElem?_cons_succ, List.set_cons_zero, List.set_cons_succ, Option.map_some, R.flat, R.d, Ob.flat, Ob.d, true_and, and_true, eq_self, decide_eq_true_eq, reduceIte, Bool.true_and, Bool.false_and, Bool.and_false, Bool.and_true, Bool.false_eq_true, decide_true, decide_false, Bool.not_true, Bool.not_false, List.length_map, List.length_cons, List.length_nil, reduceCtorEq, and_self, true_or, or_true, or_false, false_or, or_self, isi_tup, c1, c2, tabD, h1, h5]
    · have c1 : ¬ (1 : Int) ≤ ds.length := by omega
      simp -dsimp only [wipe_n, wipe_c, ↓ra_nop, ↓ra_cst, ↓ra_glob, ↓ra_tup, ↓ra_lst, ↓ra_dic, ↓ra_bin, ↓ra_neg, ↓ra_not, ↓ra_and, ↓ra_or, ↓ra_ife, ↓ra_cmp, ↓ra_chain, ↓ra_ix, ↓ra_sl, ↓ra_rev, ↓ra_get2, ↓r_get2, ↓r_needT, ↓ra_isi, ↓ra_bi, ↓ra_call, ↓ra_calle, ↓ra_pop, ↓ra_alloc, ↓ra_comp, ↓ra_comp2, ↓ra_me, ↓ra_lrange, ↓r_dic, ↓r_needM, ↓r_me, ↓r_lrange, me_cl, me_js, me_ss, ↓r_cst, ↓r_glob, ↓re_nil, ↓re_cons, ↓rsa_nil, ↓rsa_cons, ↓r_tup, ↓r_lst, ↓r_bin, ↓r_cmp, ↓r_ix, ↓r_neg, ↓r_isi, ↓r_bi, ↓r_not, ↓r_and, ↓r_or, ↓r_ife, ↓r_chain, ↓r_none, ↓rp_cst, ↓rp_glob, ↓rp_bin, ↓rp_neg, ↓rp_ife, ↓rp_ix, ↓rp_bi, ↓rp_call, ↓rp_var, ↓r_sl, ↓r_call, ↓r_alloc, ↓r_allocM, ↓r_prim1, ↓r_prim2, ↓r_primN, ↓rd_nil, ↓rd_cons, ↓rd_int, ↓rd_bl, ↓rd_str, ↓rd_non, ↓rd_tup, ↓rd_lst, ↓rd_scr, ↓rd_dic, ↓rd_cls, ↓rd_fn, ↓rd_s, ↓rd_r, ↓r_chN, refP_s, ↓ri_seq, ↓rq_tup, ↓rq_lst, ↓r_var, ↓ra_var, ↓r_ret, ↓r_frz, ↓r_asBl, ↓r_asInt, ↓r_liftS, ↓ri_range, ↓ri_range2, ↓ri_zip, ↓ri_enum, ↓r_calle, ↓rc_fn, ↓en_lst, ↓en_tup, ↓rz_tup, ↓rz_lst, ↓rz_tl, ↓rz_lt, ↓ri_zip3, ↓rz_ttt, ↓rz_ttl, ↓rz_lll, ↓rx_expr, ↓rx_set, ↓rx_frz, ↓rx_ret, ↓rx_iff, ↓rx_mat, ↓then_nx, ↓then_rt, ↓then_bk, ↓then_ct, ↓rx_nil, ↓rx_cons, ↓rx_asg, ↓rt_name, ↓rt_tup, ↓rt_lst, ↓rt_nil, ↓rt_cons, ↓rx_setix, ↓rx_app, ↓rx_ext, ↓r_pop, ↓r_needL, ↓lstP_l, ↓obP_s, ↓r_chS, ↓rr_nil, ↓rr_cons, ↓rh_v, ↓rh_l, ↓rx_par, ↓rx_pass, ↓rx_for, ↓varP_v, ↓varP_n, bin_addI, bin_subI, cmp_lt, cmp_le, cmp_gt, cmp_ge, cmp_eqI, cmp_neI, cmp_eqB, cmp_eqS, cmp_neS, blR_s, bi_lenT, bi_lenL, bi_lenS, bi_tupT, bi_tupL, bi_lstT, bi_lstL, bi_max, bi_min, bi_intB, neg_i, isi_int, isi_tup, isi_lst, isi_dic, isi_str, isi_non, isi_bl, List.getElem?_cons_zero, List.getElem?_cons_succ, List.set_cons_zero, List.set_cons_succ, Option.map_some, R.flat, R.d, Ob.flat, Ob.d, true_and, and_true, eq_self, decide_eq_true_eq, reduceIte, Bool.true_and, Bool.false_and, Bool.and_false, Bool.and_true, Bool.false_eq_true, decide_true, decide_false, Bool.not_true, Bool.not_false, List.length_map, List.length_cons, List.length_nil, reduceCtorEq, and_self, true_or, or_true, or_false, false_or, or_self, isi_tup, c1, tabD, h1]
  | _ => first | (cases hv; done) | (simp -dsimp only [wipe_n, wipe_c, ↓ra_nop, ↓ra_cst, ↓ra_glob, ↓ra_tup, ↓ra_lst, ↓ra_dic, ↓ra_bin, ↓ra_neg, ↓ra_not, ↓ra_and, ↓ra_or, ↓ra_ife, ↓ra_cmp, ↓ra_chain, ↓ra_ix, ↓ra_sl, ↓ra_rev, ↓ra_get2, ↓r_get2, ↓r_needT, ↓ra_isi, ↓ra_bi, ↓ra_call, ↓ra_calle, ↓ra_pop, ↓ra_alloc, ↓ra_comp, ↓ra_comp2, ↓ra_me, ↓ra_lrange, ↓r_dic, ↓r_needM, ↓r_me, ↓r_lrange, me_cl, me_js, me_ss, ↓r_cst, ↓r_glob, ↓re_nil, ↓re_cons, ↓rsa_nil, ↓rsa_cons, ↓r_tup, ↓r_lst, ↓r_bin, ↓r_cmp, ↓r_ix, ↓r_neg, ↓r_isi, ↓r_bi, ↓r_not, ↓r_and, ↓r_or, ↓r_ife, ↓r_chain, ↓r_none, ↓rp_cst, ↓rp_glob, ↓rp_bin, ↓rp_neg, ↓rp_ife, ↓rp_ix, ↓rp_bi, ↓rp_call, ↓rp_var, ↓r_sl, ↓r_call, ↓r_alloc, ↓r_allocM, ↓r_prim1, ↓r_prim2, ↓r_primN, ↓rd_nil, ↓rd_cons, ↓rd_int, ↓rd_bl, ↓rd_str, ↓rd_non, ↓rd_tup, ↓rd_lst, ↓rd_scr, ↓rd_dic, ↓rd_cls, ↓rd_fn, ↓rd_s, ↓rd_r, ↓r_chN, refP_s, ↓ri_seq, ↓rq_tup, ↓rq_lst, ↓r_var, ↓ra_var, ↓r_ret, ↓r_frz, ↓r_asBl, ↓r_asInt, ↓r_liftS, ↓ri_range, ↓ri_range2, ↓ri_zip, ↓ri_enum, ↓r_calle, ↓rc_fn, ↓en_lst, ↓en_tup, ↓rz_tup, ↓rz_lst, ↓rz_tl, ↓rz_lt, ↓ri_zip3, ↓rz_ttt, ↓rz_ttl, ↓rz_lll, ↓rx_expr, ↓rx_set, ↓rx_frz, ↓rx_ret, ↓rx_iff, ↓rx_mat, ↓then_nx, ↓then_rt, ↓then_bk, ↓then_ct, ↓rx_nil, ↓rx_cons, ↓rx_asg, ↓rt_name, ↓rt_tup, ↓rt_lst, ↓rt_nil, ↓rt_cons, ↓rx_setix, ↓rx_app, ↓rx_ext, ↓r_pop, ↓r_needL, ↓lstP_l, ↓obP_s, ↓r_chS, ↓rr_nil, ↓rr_cons, ↓rh_v, ↓rh_l, ↓rx_par, ↓rx_pass, ↓rx_for, ↓varP_v, ↓varP_n, bin_addI, bin_subI, cmp_lt, cmp_le, cmp_gt, cmp_ge, cmp_eqI, cmp_neI, cmp_eqB, cmp_eqS, cmp_neS, blR_s, bi_lenT, bi_lenL, bi_lenS, bi_tupT, bi_tupL, bi_lstT, bi_lstL, bi_max, bi_min, bi_intB, neg_i, isi_int, isi_tup, isi_lst, isi_dic, isi_str, isi_non, isi_bl, List.getElem?_cons_zero, List.getElem?_cons_succ, List.set_cons_zero, List.set_cons_succ, Option.map_some, R.flat, R.d, Ob.flat, Ob.d, true_and, and_true, eq_self, decide_eq_true_eq, reduceIte, Bool.true_and, Bool.false_and, Bool.and_false, Bool.and_true, Bool.false_eq_true, decide_true, decide_false, Bool.not_true, Bool.not_false, List.length_map, List.length_cons, List.length_nil, reduceCtorEq, and_self, true_or, or_true, or_false, false_or, or_self, tabD]; done) | (simp -dsimp only [wipe_n, wipe_c, ↓ra_nop, ↓ra_cst, ↓ra_glob, ↓ra_tup, ↓ra_lst, ↓ra_dic, ↓ra_bin, ↓ra_neg, ↓ra_not, ↓ra_and, ↓ra_or, ↓ra_ife, ↓ra_cmp, ↓ra_chain, ↓ra_ix, ↓ra_sl, ↓ra_rev, ↓ra_get2, ↓r_get2, ↓r_needT, ↓ra_isi, ↓ra_bi, ↓ra_call, ↓ra_calle, ↓ra_pop, ↓ra_alloc, ↓ra_comp, ↓ra_comp2, ↓ra_me, ↓ra_lrange, ↓r_dic, ↓r_needM, ↓r_me, ↓r_lrange, me_cl, me_js, me_ss, ↓r_cst, ↓r_glob, ↓re_nil, ↓re_cons, ↓rsa_nil, ↓rsa_cons, ↓r_tup, ↓r_lst, ↓r_bin, ↓r_cmp, ↓r_ix, ↓r_neg, ↓r_isi, ↓r_bi, ↓r_not, ↓r_and, ↓r_or, ↓r_ife, ↓r_chain, ↓r_none, ↓rp_cst, ↓rp_glob, ↓rp_bin, ↓rp_neg, ↓rp_ife, ↓rp_ix, ↓rp_bi, ↓rp_call, ↓rp_var, ↓r_sl, ↓r_call, ↓r_alloc, ↓r_allocM, ↓r_prim1, ↓r_prim2, ↓r_primN, ↓rd_nil, ↓rd_cons, ↓rd_int, ↓rd_bl, ↓rd_str, ↓rd_non, ↓rd_tup, ↓rd_lst, ↓rd_scr, ↓rd_dic, ↓rd_cls, ↓rd_fn, ↓rd_s, ↓rd_r, ↓r_chN, refP_s, ↓ri_seq, ↓rq_tup, ↓rq_lst, ↓r_var, ↓ra_var, ↓r_ret, ↓r_frz, ↓r_asBl, ↓r_asInt, ↓r_liftS, ↓ri_range, ↓ri_range2, ↓ri_zip, ↓ri_enum, ↓r_calle, ↓rc_fn, ↓en_lst, ↓en_tup, ↓rz_tup, ↓rz_lst, ↓rz_tl, ↓rz_lt, ↓ri_zip3, ↓rz_ttt, ↓rz_ttl, ↓rz_lll, ↓rx_expr, ↓rx_set, ↓rx_frz, ↓rx_ret, ↓rx_iff, ↓rx_mat, ↓then_nx, ↓then_rt, ↓then_bk, ↓then_ct, ↓rx_nil, ↓rx_cons, ↓rx_asg, ↓rt_name, ↓rt_tup, ↓rt_lst, ↓rt_nil, ↓rt_cons, ↓rx_setix, ↓rx_app, ↓rx_ext, ↓r_pop, ↓r_needL, ↓lstP_l, ↓obP_s, ↓r_chS, ↓rr_nil, ↓rr_cons, ↓rh_v, ↓rh_l, ↓rx_par, ↓rx_pass, ↓rx_for, ↓varP_v, ↓varP_n, bin_addI, bin_subI, cmp_lt, cmp_le, cmp_gt, cmp_ge, cmp_eqI, cmp_neI, cmp_eqB, cmp_eqS, cmp_neS, blR_s, bi_lenT, bi_lenL, bi_lenS, bi_tupT, bi_tupL, bi_lstT, bi_lstL, bi_max, bi_min, bi_intB, neg_i, isi_int, isi_tup, isi_lst, isi_dic, isi_str, isi_non, isi_bl, List.getElem?_cons_zero, List.getElem?_cons_succ, List.set_cons_zero, List.set_cons_succ, Option.map_some, R.flat, R.d, Ob.flat, Ob.d, true_and, and_true, eq_self, decide_eq_true_eq, reduceIte, Bool.true_and, Bool.false_and, Bool.and_false, Bool.and_true, Bool.false_eq_true, decide_true, decide_false, Bool.not_true, Bool.not_false, List.length_map, List.length_cons, List.length_nil, reduceCtorEq, and_self, true_or, or_true, or_false, false_or, or_self, tabD]; decide))
theorem c_law_odd (hp : Lw T d gp PickC) (h : IsF T g (F_law_odd gp)) : Lw T (d + 1) g OddC := Lw.of h fun j hj s n hpn => by
  have z : ∃ r s', (F_law_odd gp).run (orc T j) [.ref n] s = .ok r s' ∧ ∃ d, r = .val d ∧ (Od 3 1000000000000 7 d ∧ d.wtD ≤ 60) ∧ Pn n s s' := by
    refine run_ex [some (.val (.ref n)), none] rfl rfl ?_
    obtain ⟨i, d, s3, e0, e1, p1⟩ := hp.at hj s n ([.non, .bl true, .bl false, .int 0, .int 1, .int (-1), .int 2, .str (.ofString ""), .str (.ofString "+"), .tup [], .lst [], .dic [] [], .tup [.int 0], .tup [.tup [.int 0]], .lst [.lst [.int 0]], .tup [.tup [.bl true]], .tup [.tup [.int 2]], .tup [.int 1, .int 0]] ++ [.tup [.tup [.int 0, .int 1], .tup [.int 1, .int 0]], .tup [.tup [.int 0, .int 1], .tup [.int 1]], .tup [.lst [.int 0]], .dic [.int 0] [.tup [.tup [.int 0]]], .tup [.tup [.non]], .int 1000000000000]) hpn (by simp) (by simp)
    unfold F_law_odd
    have b1 : ([.non, .bl true, .bl false, .int 0, .int 1, .int (-1), .int 2, .str (.ofString ""), .str (.ofString "+"), .tup [], .lst [], .dic [] [], .tup [.int 0], .tup [.tup [.int 0]], .lst [.lst [.int 0]], .tup [.tup [.bl true]], .tup [.tup [.int 2]], .tup [.int 1, .int 0]] : List D).length + ([.tup [.tup [.int 0, .int 1], .tup [.int 1, .int 0]], .tup [.tup [.int 0, .int 1], .tup [.int 1]], .tup [.lst [.int 0]], .dic [.int 0] [.tup [.tup [.int 0]]], .tup [.tup [.non]], .int 1000000000000] : List D).length ≤ line := by decide
    simp -dsimp only [wipe_n, wipe_c, ↓ra_nop, ↓ra_cst, ↓ra_glob, ↓ra_tup, ↓ra_lst, ↓ra_dic, ↓ra_bin, ↓ra_neg, ↓ra_not, ↓ra_and, ↓ra_or, ↓ra_ife, ↓ra_cmp, ↓ra_chain, ↓ra_ix, ↓ra_sl, ↓ra_rev, ↓ra_get2, ↓r_get2, ↓r_needT, ↓ra_isi, ↓ra_bi, ↓ra_call, ↓ra_calle, ↓ra_pop, ↓ra_alloc, ↓ra_comp, ↓ra_comp2, ↓ra_me, ↓ra_lrange, ↓r_dic, ↓r_needM, ↓r_me, ↓r_lrange, me_cl, me_js, me_ss, ↓r_cst, ↓r_glob, ↓re_nil, ↓re_cons, ↓rsa_nil, ↓rsa_cons, ↓r_tup, ↓r_lst, ↓r_bin, ↓r_cmp, ↓r_ix, ↓r_neg, ↓r_isi, ↓r_bi, ↓r_not, ↓r_and, ↓r_or, ↓r_ife, ↓r_chain, ↓r_none, ↓rp_cst, ↓rp_glob, ↓rp_bin, ↓rp_neg, ↓rp_ife, ↓rp_ix, ↓rp_bi, ↓rp_call, ↓rp_var, ↓r_sl, ↓r_call, ↓r_alloc, ↓r_allocM, ↓r_prim1, ↓r_prim2, ↓r_primN, ↓rd_nil, ↓rd_cons, ↓rd_int, ↓rd_bl, ↓rd_str, ↓rd_non, ↓rd_tup, ↓rd_lst, ↓rd_scr, ↓rd_dic, ↓rd_cls, ↓rd_fn, ↓rd_s, ↓rd_r, ↓r_chN, refP_s, ↓ri_seq, ↓rq_tup, ↓rq_lst, ↓r_var, ↓ra_var, ↓r_ret, ↓r_frz, ↓r_asBl, ↓r_asInt, ↓r_liftS, ↓ri_range, ↓ri_range2, ↓ri_zip, ↓ri_enum, ↓r_calle, ↓rc_fn, ↓en_lst, ↓en_tup, ↓rz_tup, ↓rz_lst, ↓rz_tl, ↓rz_lt, ↓ri_zip3, ↓rz_ttt, ↓rz_ttl, ↓rz_lll, ↓rx_expr, ↓rx_set, ↓rx_frz, ↓rx_ret, ↓rx_iff, ↓rx_mat, ↓then_nx, ↓then_rt, ↓then_bk, ↓then_ct, ↓rx_nil, ↓rx_cons, ↓rx_asg, ↓rt_name, ↓rt_tup, ↓rt_lst, ↓rt_nil, ↓rt_cons, ↓rx_setix, ↓rx_app, ↓rx_ext, ↓r_pop, ↓r_needL, ↓lstP_l, ↓obP_s, ↓r_chS, ↓rr_nil, ↓rr_cons, ↓rh_v, ↓rh_l, ↓rx_par, ↓rx_pass, ↓rx_for, ↓varP_v, ↓varP_n, bin_addI, bin_subI, cmp_lt, cmp_le, cmp_gt, cmp_ge, cmp_eqI, cmp_neI, cmp_eqB, cmp_eqS, cmp_neS, blR_s, bi_lenT, bi_lenL, bi_lenS, bi_tupT, bi_tupL, bi_lstT, bi_lstL, bi_max, bi_min, bi_intB, neg_i, isi_int, isi_tup, isi_lst, isi_dic, isi_str, isi_non, isi_bl, List.getElem?_cons_zero, List.getElem?_cons_succ, List.set_cons_zero, List.set_cons_succ, Option.map_some, R.flat, R.d, Ob.flat, Ob.d, true_and, and_true, eq_self, decide_eq_true_eq, reduceIte, Bool.true_and, Bool.false_and, Bool.and_false, Bool.and_true, Bool.false_eq_true, decide_true, decide_false, Bool.not_true, Bool.not_false, List.length_map, List.length_cons, List.length_nil, reduceCtorEq, and_self, true_or, or_true, or_false, false_or, or_self, pow_1012, dic_0, dic_1, bin_addL b1, r_callM e1]
    repeat refine ⟨by decide, ?_⟩
    exact ⟨_, rfl, d, rfl, ⟨od_all (by decide +kernel) (by decide +kernel) d (List.mem_of_getElem? e0), wtD_all (by decide +kernel) (List.mem_of_getElem? e0)⟩, p1⟩
  obtain ⟨r, s', h1, d, rfl, h3, h4⟩ := z
  exact ⟨d, s', h1, h3, h4⟩
end
def Bent (C : List D → Sto → COut) (q : Nat) : Prop := ∀ (s : Sto) (n m B L : Nat) (d : D), PenAt s n → Od m B L d → 1000000000000 ≤ B → B < 2 ^ 100 → 7 ≤ L → L ≤ 1000 → ∃ d' s', C [.ref n, d, .int q] s = .ok (.val d') s' ∧ (Od (m + 3) (B + 1) (L + 1) d' ∧ d'.wtD ≤ 2 * d.wtD + 1100) ∧ Pn n s s'
def BentC (C : List D → Sto → COut) : Prop := ∀ q, q ≤ 8 → Bent C q
theorem r_rev {O : Orc} {e : Ev} {s : Sto} {p : R → Ev → Sto → Prop} {a : E} : WP (evE O (.rev a)) e s p = WP (asA a (evE O a)) e s fun x e1 s1 => WP (prim1 revD x) e1 s1 p := by
  show WP (bnd _ _) e s p = _
  rw [r_bnd]
theorem rev_t {l : List D} : revD (.tup l) = some (.val (.tup l.reverse)) := rfl
theorem add_bi {b : Bool} {j : Int} : binD .Add (.bl b) (.int j) = some (.val (.int ((if b = true then (1 : Int) else 0) + j))) := rfl
theorem sub_bi {b : Bool} {j : Int} : binD .Sub (.bl b) (.int j) = some (.val (.int ((if b = true then (1 : Int) else 0) - j))) := rfl
theorem sub_ib {b : Bool} {j : Int} : binD .Sub (.int j) (.bl b) = some (.val (.int (j - if b = true then (1 : Int) else 0))) := rfl
theorem eq_bi {b : Bool} {j : Int} : cmpD .Eq (.bl b) (.int j) = some ((if b = true then (1 : Int) else 0) == j) := rfl
theorem str_b {b : Bool} : biD .str [.bl b] = some (.val (.str (.ofString (if b = true then "True" else "False")))) := rfl
theorem str_int {i : Int} {B : Nat} (h : i.natAbs ≤ B) (hB : B < 2 ^ 100) : biD .str [.int i] = some (.val (.str (toString i))) ∧ ∀ n L, Od n B L (.str (toString i)) := by
  have h1 : i.natAbs < 2 ^ 100 := by omega
  have h2 : i.natAbs.log2 < 100 := by
    by_cases h0 : i.natAbs = 0
    · rw [h0]; decide
    · exact (Nat.log2_lt h0).mpr h1
  refine ⟨by simp only [biD, show i.natAbs.log2 < 1920 by omega, if_true], fun n L => ⟨?_, Nat.zero_le _⟩⟩
  simp only [D.od, Bool.and_eq_true, decide_eq_true_eq]
  refine ⟨strOk_of _, ?_⟩
  · rw [ofString_length]
    have := int_text_length_le (k := 100) (by decide) h2
    omega
theorem cut_t {ds : List D} {a : Nat} (h : a ≤ ds.length) : cut ds none (some (a : Int)) = ds.take a := by simpa using cut_to (f := id) (l := ds) h
theorem cut_d {ds : List D} {a : Nat} (h : a ≤ ds.length) : cut ds (some (a : Int)) none = ds.drop a := by simpa using cut_from (f := id) (l := ds) h
theorem cut_1 {ds : List D} {a : Nat} (h : a < ds.length) : cut ds (some (a : Int)) (some ((a : Int) + 1)) = (ds.drop a).take 1 := by
  unfold cut
  have h1 : ¬ ((a : Int) < 0) := by omega
  have h2 : ¬ ((a : Int) + 1 < 0) := by omega
  have h3 : min a ds.length = a := by omega
  have h4 : ((a : Int) + 1).toNat = a + 1 := by omega
  have h5 : min (a + 1) ds.length = a + 1 := by omega
  simp only [bound, h1, h2, if_false, Int.toNat_natCast, h3, h4, h5]
  congr 1
  omega
theorem eq_nilT {ds : List D} : cmpD .Eq (.tup ds) (.tup []) = some ds.isEmpty := by
  have h2 : (D.tup []).cmp = true := rfl
  simp only [cmpD, h2, Bool.and_true, nilEq]
  cases h : (D.tup ds).cmp with
  | true =>
    simp only [if_true]
    cases ds <;> rfl
  | false => simp
section
variable {O : Orc} {gd gp go g : Nat}
theorem bent_body {q : Nat} (dr : DrawC (O.call gd)) (pk : PickC (O.call gp)) (od : OddC (O.call go)) (hr : ∀ q', q = q' + 1 → Bent (O.call g) q') : Bent ((F_law_bent gd gp go g).run O) q := by
  intro s n m B L d hpn hd hB hB2 hL hL2
  have hodd : ∀ s1, Pn n s s1 → ∃ d' s', O.call go [.ref n] s1 = .ok (.val d') s' ∧ (Od (m + 3) (B + 1) (L + 1) d' ∧ d'.wtD ≤ 2 * d.wtD + 1100) ∧ Pn n s s' := fun s1 p1 => by
    obtain ⟨d, s', e, h1, h2⟩ := od s1 n p1.1
    exact ⟨d, s', e, ⟨h1.1.mono (by omega) (by omega) (by omega), by have := h1.2; omega⟩, p1.trans h2⟩
  have z : ∃ r s', (F_law_bent gd gp go g).run O [.ref n, d, .int q] s = .ok r s' ∧ ∃ d', r = .val d' ∧ (Od (m + 3) (B + 1) (L + 1) d' ∧ d'.wtD ≤ 2 * d.wtD + 1100) ∧ Pn n s s' := by
    refine run_ex [some (.val (.ref n)), some (.val d), some (.val (.int q)), none, none, none] rfl rfl ?_
    obtain ⟨u, s1, e1, ⟨u0, u1⟩, p1⟩ := dr.gives hpn (m := 4) (by omega) (by omega)
    obtain ⟨do0, so0, eo0, ho0, po0⟩ := hodd s (.refl hpn)
    obtain ⟨do1, so1, eo1, ho1, po1⟩ := hodd s1 p1
    unfold F_law_bent
    cases d with
    | int i =>
      have hi : i.natAbs ≤ B := by simpa only [D.od, decide_eq_true_eq] using hd.ok
      by_cases hu : 0 < u
      · obtain ⟨t1, t2⟩ := str_int hi hB2
        obtain ⟨k, x, s2, x1, e2, p2⟩ := pk s1 n [.int (i + 1), .int (i - 1), .int 2, .int (-2), .bl (decide (i = 1)), .str (toString i), .tup [.int i], .int (0 - i)] p1.1 (by simp) (by simp)
        simp -dsimp only [wipe_n, wipe_c, ↓ra_nop, ↓ra_cst, ↓ra_glob, ↓ra_tup, ↓ra_lst, ↓ra_dic, ↓ra_bin, ↓ra_neg, ↓ra_not, ↓ra_and, ↓ra_or, ↓ra_ife, ↓ra_cmp, ↓ra_chain, ↓ra_ix, ↓ra_sl, ↓ra_rev, ↓ra_get2, ↓r_get2, ↓r_needT, ↓ra_isi, ↓ra_bi, ↓ra_call, ↓ra_calle, ↓ra_pop, ↓ra_alloc, ↓ra_comp, ↓ra_comp2, ↓ra_me, ↓ra_lrange, ↓r_dic, ↓r_needM, ↓r_me, ↓r_lrange, me_cl, me_js, me_ss, ↓r_cst, ↓r_glob, ↓re_nil, ↓re_cons, ↓rsa_nil, ↓rsa_cons, ↓r_tup, ↓r_lst, ↓r_bin, ↓r_cmp, ↓r_ix, ↓r_neg, ↓r_isi, ↓r_bi, ↓r_not, ↓r_and, ↓r_or, ↓r_ife, ↓r_chain, ↓r_none, ↓rp_cst, ↓rp_glob, ↓rp_bin, ↓rp_neg, ↓rp_ife, ↓rp_ix, ↓rp_bi, ↓rp_call, ↓rp_var, ↓r_sl, ↓r_call, ↓r_alloc, ↓r_allocM, ↓r_prim1, ↓r_prim2, ↓r_primN, ↓rd_nil, ↓rd_cons, ↓rd_int, ↓rd_bl, ↓rd_str, ↓rd_non, ↓rd_tup, ↓rd_lst, ↓rd_scr, ↓rd_dic, ↓rd_cls, ↓rd_fn, ↓rd_s, ↓rd_r, ↓r_chN, refP_s, ↓ri_seq, ↓rq_tup, ↓rq_lst, ↓r_var, ↓ra_var, ↓r_ret, ↓r_frz, ↓r_asBl, ↓r_asInt, ↓r_liftS, ↓ri_range, ↓ri_range2, ↓ri_zip, ↓ri_enum, ↓r_calle, ↓rc_fn, ↓en_lst, ↓en_tup, ↓rz_tup, ↓rz_lst, ↓rz_tl, ↓rz_lt, ↓ri_zip3, ↓rz_ttt, ↓rz_ttl, ↓rz_lll, ↓rx_expr, ↓rx_set, ↓rx_frz, ↓rx_ret, ↓rx_iff, ↓rx_mat, ↓then_nx, ↓then_rt, ↓then_bk, ↓then_ct, ↓rx_nil, ↓rx_cons, ↓rx_asg, ↓rt_name, ↓rt_tup, ↓rt_lst, ↓rt_nil, ↓rt_cons, ↓rx_setix, ↓rx_app, ↓rx_ext, ↓r_pop, ↓r_needL, ↓lstP_l, ↓obP_s, ↓r_chS, ↓rr_nil, ↓rr_cons, ↓rh_v, ↓rh_l, ↓rx_par, ↓rx_pass, ↓rx_for, ↓varP_v, ↓varP_n, bin_addI, bin_subI, cmp_lt, cmp_le, cmp_gt, cmp_ge, cmp_eqI, cmp_neI, cmp_eqB, cmp_eqS, cmp_neS, blR_s, bi_lenT, bi_lenL, bi_lenS, bi_tupT, bi_tupL, bi_lstT, bi_lstL, bi_max, bi_min, bi_intB, neg_i, isi_int, isi_tup, isi_lst, isi_dic, isi_str, isi_non, isi_bl, List.getElem?_cons_zero, List.getElem?_cons_succ, List.set_cons_zero, List.set_cons_succ, Option.map_some, R.flat, R.d, Ob.flat, Ob.d, true_and, and_true, eq_self, decide_eq_true_eq, reduceIte, Bool.true_and, Bool.false_and, Bool.and_false, Bool.and_true, Bool.false_eq_true, decide_true, decide_false, Bool.not_true, Bool.not_false, List.length_map, List.length_cons, List.length_nil, reduceCtorEq, and_self, true_or, or_true, or_false, false_or, or_self, r_callM e1, hu, t1, r_callM e2]
        refine ⟨by decide, by decide, _, rfl, x, rfl, ⟨?_, ?_⟩, p1.trans p2⟩
        rotate_left
        · have hx := List.mem_of_getElem? x1
          simp only [List.mem_cons, List.not_mem_nil, or_false] at hx
          have q1 := wt_int (i := i) (by omega)
          have q2 := wt_int (i := i + 1) (by omega)
          have q3 := wt_int (i := i - 1) (by omega)
          have q4 := wt_int (i := 2) (by decide)
          have q5 := wt_int (i := -2) (by decide)
          have q6 := wt_int (i := 0 - i) (by omega)
          have q7 := wt_str (strOk_of (toString i))
          have q8 : (Str.ofString (toString i)).length ≤ 102 := by
            rw [ofString_length]
            simpa only [D.wtD] using q1
          have q9 : (D.bl (decide (i = 1))).wtD = 5 := rfl
          have q10 : (D.tup [D.int i]).wtD = (D.int i).wtD + 2 + 0 + 3 := rfl
          rcases hx with rfl | rfl | rfl | rfl | rfl | rfl | rfl | rfl <;> omega
        have hx := List.mem_of_getElem? x1
        simp only [List.mem_cons, List.not_mem_nil, or_false] at hx
        rcases hx with rfl | rfl | rfl | rfl | rfl | rfl | rfl | rfl
        · exact .int (by omega)
        · exact .int (by omega)
        · exact .int (by omega)
        · exact .int (by omega)
        · exact .bl
        · exact (t2 m L).mono (by omega) (by omega) (by omega)
        · exact (Od.tup (n := m) (B := B) (L := L) (fun d hd => by rw [List.mem_singleton.mp hd]; exact .int hi) (by simp; omega)).mono (by omega) (by omega) (by omega)
        · exact .int (by omega)
      · simp -dsimp only [wipe_n, wipe_c, ↓ra_nop, ↓ra_cst, ↓ra_glob, ↓ra_tup, ↓ra_lst, ↓ra_dic, ↓ra_bin, ↓ra_neg, ↓ra_not, ↓ra_and, ↓ra_or, ↓ra_ife, ↓ra_cmp, ↓ra_chain, ↓ra_ix, ↓ra_sl, ↓ra_rev, ↓ra_get2, ↓r_get2, ↓r_needT, ↓ra_isi, ↓ra_bi, ↓ra_call, ↓ra_calle, ↓ra_pop, ↓ra_alloc, ↓ra_comp, ↓ra_comp2, ↓ra_me, ↓ra_lrange, ↓r_dic, ↓r_needM, ↓r_me, ↓r_lrange, me_cl, me_js, me_ss, ↓r_cst, ↓r_glob, ↓re_nil, ↓re_cons, ↓rsa_nil, ↓rsa_cons, ↓r_tup, ↓r_lst, ↓r_bin, ↓r_cmp, ↓r_ix, ↓r_neg, ↓r_isi, ↓r_bi, ↓r_not, ↓r_and, ↓r_or, ↓r_ife, ↓r_chain, ↓r_none, ↓rp_cst, ↓rp_glob, ↓rp_bin, ↓rp_neg, ↓rp_ife, ↓rp_ix, ↓rp_bi, ↓rp_call, ↓rp_var, ↓r_sl, ↓r_call, ↓r_alloc, ↓r_allocM, ↓r_prim1, ↓r_prim2, ↓r_primN, ↓rd_nil, ↓rd_cons, ↓rd_int, ↓rd_bl, ↓rd_str, ↓rd_non, ↓rd_tup, ↓rd_lst, ↓rd_scr, ↓rd_dic, ↓rd_cls, ↓rd_fn, ↓rd_s, ↓rd_r, ↓r_chN, refP_s, ↓ri_seq, ↓rq_tup, ↓rq_lst, ↓r_var, ↓ra_var, ↓r_ret, ↓r_frz, ↓r_asBl, ↓r_asInt, ↓r_liftS, ↓ri_range, ↓ri_range2, ↓ri_zip, ↓ri_enum, ↓r_calle, ↓rc_fn, ↓en_lst, ↓en_tup, ↓rz_tup, ↓rz_lst, ↓rz_tl, ↓rz_lt, ↓ri_zip3, ↓rz_ttt, ↓rz_ttl, ↓rz_lll, ↓rx_expr, ↓rx_set, ↓rx_frz, ↓rx_ret, ↓rx_iff, ↓rx_mat, ↓then_nx, ↓then_rt, ↓then_bk, ↓then_ct, ↓rx_nil, ↓rx_cons, ↓rx_asg, ↓rt_name, ↓rt_tup, ↓rt_lst, ↓rt_nil, ↓rt_cons, ↓rx_setix, ↓rx_app, ↓rx_ext, ↓r_pop, ↓r_needL, ↓lstP_l, ↓obP_s, ↓r_chS, ↓rr_nil, ↓rr_cons, ↓rh_v, ↓rh_l, ↓rx_par, ↓rx_pass, ↓rx_for, ↓varP_v, ↓varP_n, bin_addI, bin_subI, cmp_lt, cmp_le, cmp_gt, cmp_ge, cmp_eqI, cmp_neI, cmp_eqB, cmp_eqS, cmp_neS, blR_s, bi_lenT, bi_lenL, bi_lenS, bi_tupT, bi_tupL, bi_lstT, bi_lstL, bi_max, bi_min, bi_intB, neg_i, isi_int, isi_tup, isi_lst, isi_dic, isi_str, isi_non, isi_bl, List.getElem?_cons_zero, List.getElem?_cons_succ, List.set_cons_zero, List.set_cons_succ, Option.map_some, R.flat, R.d, Ob.flat, Ob.d, true_and, and_true, eq_self, decide_eq_true_eq, reduceIte, Bool.true_and, Bool.false_and, Bool.and_false, Bool.and_true, Bool.false_eq_true, decide_true, decide_false, Bool.not_true, Bool.not_false, List.length_map, List.length_cons, List.length_nil, reduceCtorEq, and_self, true_or, or_true, or_false, false_or, or_self, r_callM e1, hu, r_callM eo1]
        exact ⟨_, rfl, do1, rfl, ho1, po1⟩
    | bl b =>
      by_cases hu : 0 < u
      · obtain ⟨k, x, s2, x1, e2, p2⟩ := pk s1 n [.int ((if b = true then (1 : Int) else 0) + 1), .int ((if b = true then (1 : Int) else 0) - 1), .int 2, .int (-2), .bl ((if b = true then (1 : Int) else 0) == 1), .str (.ofString (if b = true then "True" else "False")), .tup [.bl b], .int (0 - if b = true then (1 : Int) else 0)] p1.1 (by simp) (by simp)
        simp -dsimp only [wipe_n, wipe_c, ↓ra_nop, ↓ra_cst, ↓ra_glob, ↓ra_tup, ↓ra_lst, ↓ra_dic, ↓ra_bin, ↓ra_neg, ↓ra_not, ↓ra_and, ↓ra_or, ↓ra_ife, ↓ra_cmp, ↓ra_chain, ↓ra_ix, ↓ra_sl, ↓ra_rev, ↓ra_get2, ↓r_get2, ↓r_needT, ↓ra_isi, ↓ra_bi, ↓ra_call, ↓ra_calle, ↓ra_pop, ↓ra_alloc, ↓ra_comp, ↓ra_comp2, ↓ra_me, ↓ra_lrange, ↓r_dic, ↓r_needM, ↓r_me, ↓r_lrange, me_cl, me_js, me_ss, ↓r_cst, ↓r_glob, ↓re_nil, ↓re_cons, ↓rsa_nil, ↓rsa_cons, ↓r_tup, ↓r_lst, ↓r_bin, ↓r_cmp, ↓r_ix, ↓r_neg, ↓r_isi, ↓r_bi, ↓r_not, ↓r_and, ↓r_or, ↓r_ife, ↓r_chain, ↓r_none, ↓rp_cst, ↓rp_glob, ↓rp_bin, ↓rp_neg, ↓rp_ife, ↓rp_ix, ↓rp_bi, ↓rp_call, ↓rp_var, ↓r_sl, ↓r_call, ↓r_alloc, ↓r_allocM, ↓r_prim1, ↓r_prim2, ↓r_primN, ↓rd_nil, ↓rd_cons, ↓rd_int, ↓rd_bl, ↓rd_str, ↓rd_non, ↓rd_tup, ↓rd_lst, ↓rd_scr, ↓rd_dic, ↓rd_cls, ↓rd_fn, ↓rd_s, ↓rd_r, ↓r_chN, refP_s, ↓ri_seq, ↓rq_tup, ↓rq_lst, ↓r_var, ↓ra_var, ↓r_ret, ↓r_frz, ↓r_asBl, ↓r_asInt, ↓r_liftS, ↓ri_range, ↓ri_range2, ↓ri_zip, ↓ri_enum, ↓r_calle, ↓rc_fn, ↓en_lst, ↓en_tup, ↓rz_tup, ↓rz_lst, ↓rz_tl, ↓rz_lt, ↓ri_zip3, ↓rz_ttt, ↓rz_ttl, ↓rz_lll, ↓rx_expr, ↓rx_set, ↓rx_frz, ↓rx_ret, ↓rx_iff, ↓rx_mat, ↓then_nx, ↓then_rt, ↓then_bk, ↓then_ct, ↓rx_nil, ↓rx_cons, ↓rx_asg, ↓rt_name, ↓rt_tup, ↓rt_lst, ↓rt_nil, ↓rt_cons, ↓rx_setix, ↓rx_app, ↓rx_ext, ↓r_pop, ↓r_needL, ↓lstP_l, ↓obP_s, ↓r_chS, ↓rr_nil, ↓rr_cons, ↓rh_v, ↓rh_l, ↓rx_par, ↓rx_pass, ↓rx_for, ↓varP_v, ↓varP_n, bin_addI, bin_subI, cmp_lt, cmp_le, cmp_gt, cmp_ge, cmp_eqI, cmp_neI, cmp_eqB, cmp_eqS, cmp_neS, blR_s, bi_lenT, bi_lenL, bi_lenS, bi_tupT, bi_tupL, bi_lstT, bi_lstL, bi_max, bi_min, bi_intB, neg_i, isi_int, isi_tup, isi_lst, isi_dic, isi_str, isi_non, isi_bl, List.getElem?_cons_zero, List.getElem?_cons_succ, List.set_cons_zero, List.set_cons_succ, Option.map_some, R.flat, R.d, Ob.flat, Ob.d, true_and, and_true, eq_self, decide_eq_true_eq, reduceIte, Bool.true_and, Bool.false_and, Bool.and_false, Bool.and_true, Bool.false_eq_true, decide_true, decide_false, Bool.not_true, Bool.not_false, List.length_map, List.length_cons, List.length_nil, reduceCtorEq, and_self, true_or, or_true, or_false, false_or, or_self, r_callM e1, hu, add_bi, sub_bi, sub_ib, eq_bi, str_b, r_callM e2]
        refine ⟨by decide, by decide, _, rfl, x, rfl, ⟨?_, ?_⟩, p1.trans p2⟩
        rotate_left
        · have hx := List.mem_of_getElem? x1
          refine Nat.le_trans ?_ (Nat.le_add_left 1100 _)
          revert hx
          cases b <;> exact fun hx => wtD_all (by decide +kernel) hx
        have hx := List.mem_of_getElem? x1
        simp only [List.mem_cons, List.not_mem_nil, or_false] at hx
        rcases hx with rfl | rfl | rfl | rfl | rfl | rfl | rfl | rfl
        · exact .int (by split <;> omega)
        · exact .int (by split <;> omega)
        · exact .int (by omega)
        · exact .int (by omega)
        · exact .bl
        · cases b <;> exact ⟨by simp only [D.od, strOk_of, Bool.true_and]; decide +kernel, Nat.zero_le _⟩
        · exact (Od.tup (n := m) (B := B) (L := L) (fun d hd => by rw [List.mem_singleton.mp hd]; exact .bl) (by simp; omega)).mono (by omega) (by omega) (by omega)
        · exact .int (by split <;> omega)
      · simp -dsimp only [wipe_n, wipe_c, ↓ra_nop, ↓ra_cst, ↓ra_glob, ↓ra_tup, ↓ra_lst, ↓ra_dic, ↓ra_bin, ↓ra_neg, ↓ra_not, ↓ra_and, ↓ra_or, ↓ra_ife, ↓ra_cmp, ↓ra_chain, ↓ra_ix, ↓ra_sl, ↓ra_rev, ↓ra_get2, ↓r_get2, ↓r_needT, ↓ra_isi, ↓ra_bi, ↓ra_call, ↓ra_calle, ↓ra_pop, ↓ra_alloc, ↓ra_comp, ↓ra_comp2, ↓ra_me, ↓ra_lrange, ↓r_dic, ↓r_needM, ↓r_me, ↓r_lrange, me_cl, me_js, me_ss, ↓r_cst, ↓r_glob, ↓re_nil, ↓re_cons, ↓rsa_nil, ↓rsa_cons, ↓r_tup, ↓r_lst, ↓r_bin, ↓r_cmp, ↓r_ix, ↓r_neg, ↓r_isi, ↓r_bi, ↓r_not, ↓r_and, ↓r_or, ↓r_ife, ↓r_chain, ↓r_none, ↓rp_cst, ↓rp_glob, ↓rp_bin, ↓rp_neg, ↓rp_ife, ↓rp_ix, ↓rp_bi, ↓rp_call, ↓rp_var, ↓r_sl, ↓r_call, ↓r_alloc, ↓r_allocM, ↓r_prim1, ↓r_prim2, ↓r_primN, ↓rd_nil, ↓rd_cons, ↓rd_int, ↓rd_bl, ↓rd_str, ↓rd_non, ↓rd_tup, ↓rd_lst, ↓rd_scr, ↓rd_dic, ↓rd_cls, ↓rd_fn, ↓rd_s, ↓rd_r, ↓r_chN, refP_s, ↓ri_seq, ↓rq_tup, ↓rq_lst, ↓r_var, ↓ra_var, ↓r_ret, ↓r_frz, ↓r_asBl, ↓r_asInt, ↓r_liftS, ↓ri_range, ↓ri_range2, ↓ri_zip, ↓ri_enum, ↓r_calle, ↓rc_fn, ↓en_lst, ↓en_tup, ↓rz_tup, ↓rz_lst, ↓rz_tl, ↓rz_lt, ↓ri_zip3, ↓rz_ttt, ↓rz_ttl, ↓rz_lll, ↓rx_expr, ↓rx_set, ↓rx_frz, ↓rx_ret, ↓rx_iff, ↓rx_mat, ↓then_nx, ↓then_rt, ↓then_bk, ↓then_ct, ↓rx_nil, ↓rx_cons, ↓rx_asg, ↓rt_name, ↓rt_tup, ↓rt_lst, ↓rt_nil, ↓rt_cons, ↓rx_setix, ↓rx_app, ↓rx_ext, ↓r_pop, ↓r_needL, ↓lstP_l, ↓obP_s, ↓r_chS, ↓rr_nil, ↓rr_cons, ↓rh_v, ↓rh_l, ↓rx_par, ↓rx_pass, ↓rx_for, ↓varP_v, ↓varP_n, bin_addI, bin_subI, cmp_lt, cmp_le, cmp_gt, cmp_ge, cmp_eqI, cmp_neI, cmp_eqB, cmp_eqS, cmp_neS, blR_s, bi_lenT, bi_lenL, bi_lenS, bi_tupT, bi_tupL, bi_lstT, bi_lstL, bi_max, bi_min, bi_intB, neg_i, isi_int, isi_tup, isi_lst, isi_dic, isi_str, isi_non, isi_bl, List.getElem?_cons_zero, List.getElem?_cons_succ, List.set_cons_zero, List.set_cons_succ, Option.map_some, R.flat, R.d, Ob.flat, Ob.d, true_and, and_true, eq_self, decide_eq_true_eq, reduceIte, Bool.true_and, Bool.false_and, Bool.and_false, Bool.and_true, Bool.false_eq_true, decide_true, decide_false, Bool.not_true, Bool.not_false, List.length_map, List.length_cons, List.length_nil, reduceCtorEq, and_self, true_or, or_true, or_false, false_or, or_self, r_callM e1, hu, r_callM eo1]
        exact ⟨_, rfl, do1, rfl, ho1, po1⟩
    | tup ds =>
      obtain ⟨k, rfl, hl, hds⟩ := hd.of_tup
      by_cases he : ds = []
      · subst he
        simp -dsimp only [wipe_n, wipe_c, ↓ra_nop, ↓ra_cst, ↓ra_glob, ↓ra_tup, ↓ra_lst, ↓ra_dic, ↓ra_bin, ↓ra_neg, ↓ra_not, ↓ra_and, ↓ra_or, ↓ra_ife, ↓ra_cmp, ↓ra_chain, ↓ra_ix, ↓ra_sl, ↓ra_rev, ↓ra_get2, ↓r_get2, ↓r_needT, ↓ra_isi, ↓ra_bi, ↓ra_call, ↓ra_calle, ↓ra_pop, ↓ra_alloc, ↓ra_comp, ↓ra_comp2, ↓ra_me, ↓ra_lrange, ↓r_dic, ↓r_needM, ↓r_me, ↓r_lrange, me_cl, me_js, me_ss, ↓r_cst, ↓r_glob, ↓re_nil, ↓re_cons, ↓rsa_nil, ↓rsa_cons, ↓r_tup, ↓r_lst, ↓r_bin, ↓r_cmp, ↓r_ix, ↓r_neg, ↓r_isi, ↓r_bi, ↓r_not, ↓r_and, ↓r_or, ↓r_ife, ↓r_chain, ↓r_none, ↓rp_cst, ↓rp_glob, ↓rp_bin, ↓rp_neg, ↓rp_ife, ↓rp_ix, ↓rp_bi, ↓rp_call, ↓rp_var, ↓r_sl, ↓r_call, ↓r_alloc, ↓r_allocM, ↓r_prim1, ↓r_prim2, ↓r_primN, ↓rd_nil, ↓rd_cons, ↓rd_int, ↓rd_bl, ↓rd_str, ↓rd_non, ↓rd_tup, ↓rd_lst, ↓rd_scr, ↓rd_dic, ↓rd_cls, ↓rd_fn, ↓rd_s, ↓rd_r, ↓r_chN, refP_s, ↓ri_seq, ↓rq_tup, ↓rq_lst, ↓r_var, ↓ra_var, ↓r_ret, ↓r_frz, ↓r_asBl, ↓r_asInt, ↓r_liftS, ↓ri_range, ↓ri_range2, ↓ri_zip, ↓ri_enum, ↓r_calle, ↓rc_fn, ↓en_lst, ↓en_tup, ↓rz_tup, ↓rz_lst, ↓rz_tl, ↓rz_lt, ↓ri_zip3, ↓rz_ttt, ↓rz_ttl, ↓rz_lll, ↓rx_expr, ↓rx_set, ↓rx_frz, ↓rx_ret, ↓rx_iff, ↓rx_mat, ↓then_nx, ↓then_rt, ↓then_bk, ↓then_ct, ↓rx_nil, ↓rx_cons, ↓rx_asg, ↓rt_name, ↓rt_tup, ↓rt_lst, ↓rt_nil, ↓rt_cons, ↓rx_setix, ↓rx_app, ↓rx_ext, ↓r_pop, ↓r_needL, ↓lstP_l, ↓obP_s, ↓r_chS, ↓rr_nil, ↓rr_cons, ↓rh_v, ↓rh_l, ↓rx_par, ↓rx_pass, ↓rx_for, ↓varP_v, ↓varP_n, bin_addI, bin_subI, cmp_lt, cmp_le, cmp_gt, cmp_ge, cmp_eqI, cmp_neI, cmp_eqB, cmp_eqS, cmp_neS, blR_s, bi_lenT, bi_lenL, bi_lenS, bi_tupT, bi_tupL, bi_lstT, bi_lstL, bi_max, bi_min, bi_intB, neg_i, isi_int, isi_tup, isi_lst, isi_dic, isi_str, isi_non, isi_bl, List.getElem?_cons_zero, List.getElem?_cons_succ, List.set_cons_zero, List.set_cons_succ, Option.map_some, R.flat, R.d, Ob.flat, Ob.d, true_and, and_true, eq_self, decide_eq_true_eq, reduceIte, Bool.true_and, Bool.false_and, Bool.and_false, Bool.and_true, Bool.false_eq_true, decide_true, decide_false, Bool.not_true, Bool.not_false, List.length_map, List.length_cons, List.length_nil, reduceCtorEq, and_self, true_or, or_true, or_false, false_or, or_self, isi_tup, eq_nilT, List.isEmpty_nil, r_callM eo0]
        exact ⟨by decide, _, rfl, do0, rfl, ho0, po0⟩
      have he' : ds.isEmpty = false := by cases ds with | nil => exact absurd rfl he | cons _ _ => rfl
      have hpos : 0 < ds.length := List.length_pos_iff.mpr he
      by_cases hq : q = 0
      · subst hq
        simp -dsimp only [wipe_n, wipe_c, ↓ra_nop, ↓ra_cst, ↓ra_glob, ↓ra_tup, ↓ra_lst, ↓ra_dic, ↓ra_bin, ↓ra_neg, ↓ra_not, ↓ra_and, ↓ra_or, ↓ra_ife, ↓ra_cmp, ↓ra_chain, ↓ra_ix, ↓ra_sl, ↓ra_rev, ↓ra_get2, ↓r_get2, ↓r_needT, ↓ra_isi, ↓ra_bi, ↓ra_call, ↓ra_calle, ↓ra_pop, ↓ra_alloc, ↓ra_comp, ↓ra_comp2, ↓ra_me, ↓ra_lrange, ↓r_dic, ↓r_needM, ↓r_me, ↓r_lrange, me_cl, me_js, me_ss, ↓r_cst, ↓r_glob, ↓re_nil, ↓re_cons, ↓rsa_nil, ↓rsa_cons, ↓r_tup, ↓r_lst, ↓r_bin, ↓r_cmp, ↓r_ix, ↓r_neg, ↓r_isi, ↓r_bi, ↓r_not, ↓r_and, ↓r_or, ↓r_ife, ↓r_chain, ↓r_none, ↓rp_cst, ↓rp_glob, ↓rp_bin, ↓rp_neg, ↓rp_ife, ↓rp_ix, ↓rp_bi, ↓rp_call, ↓rp_var, ↓r_sl, ↓r_call, ↓r_alloc, ↓r_allocM, ↓r_prim1, ↓r_prim2, ↓r_primN, ↓rd_nil, ↓rd_cons, ↓rd_int, ↓rd_bl, ↓rd_str, ↓rd_non, ↓rd_tup, ↓rd_lst, ↓rd_scr, ↓rd_dic, ↓rd_cls, ↓rd_fn, ↓rd_s, ↓rd_r, ↓r_chN, refP_s, ↓ri_seq, ↓rq_tup, ↓rq_lst, ↓r_var, ↓ra_var, ↓r_ret, ↓r_frz, ↓r_asBl, ↓r_asInt, ↓r_liftS, ↓ri_range, ↓ri_range2, ↓ri_zip, ↓ri_enum, ↓r_calle, ↓rc_fn, ↓en_lst, ↓en_tup, ↓rz_tup, ↓rz_lst, ↓rz_tl, ↓rz_lt, ↓ri_zip3, ↓rz_ttt, ↓rz_ttl, ↓rz_lll, ↓rx_expr, ↓rx_set, ↓rx_frz, ↓rx_ret, ↓rx_iff, ↓rx_mat, ↓then_nx, ↓then_rt, ↓then_bk, ↓then_ct, ↓rx_nil, ↓rx_cons, ↓rx_asg, ↓rt_name, ↓rt_tup, ↓rt_lst, ↓rt_nil, ↓rt_cons, ↓rx_setix, ↓rx_app, ↓rx_ext, ↓r_pop, ↓r_needL, ↓lstP_l, ↓obP_s, ↓r_chS, ↓rr_nil, ↓rr_cons, ↓rh_v, ↓rh_l, ↓rx_par, ↓rx_pass, ↓rx_for, ↓varP_v, ↓varP_n, bin_addI, bin_subI, cmp_lt, cmp_le, cmp_gt, cmp_ge, cmp_eqI, cmp_neI, cmp_eqB, cmp_eqS, cmp_neS, blR_s, bi_lenT, bi_lenL, bi_lenS, bi_tupT, bi_tupL, bi_lstT, bi_lstL, bi_max, bi_min, bi_intB, neg_i, isi_int, isi_tup, isi_lst, isi_dic, isi_str, isi_non, isi_bl, List.getElem?_cons_zero, List.getElem?_cons_succ, List.set_cons_zero, List.set_cons_succ, Option.map_some, R.flat, R.d, Ob.flat, Ob.d, true_and, and_true, eq_self, decide_eq_true_eq, reduceIte, Bool.true_and, Bool.false_and, Bool.and_false, Bool.and_true, Bool.false_eq_true, decide_true, decide_false, Bool.not_true, Bool.not_false, List.length_map, List.length_cons, List.length_nil, reduceCtorEq, and_self, true_or, or_true, or_false, false_or, or_self, isi_tup, eq_nilT, he', Int.natCast_zero, Int.ofNat_zero, r_callM eo0]
        exact ⟨by decide, _, rfl, do0, rfl, ho0, po0⟩
      obtain ⟨q', rfl⟩ : ∃ q', q = q' + 1 := ⟨q - 1, by omega⟩
      have hq' : ¬ ((q' + 1 : Nat) : Int) = 0 := by omega
      obtain ⟨v, s2, e2, ⟨v0, v1⟩, p2⟩ := dr.gives hpn (m := 8) (by omega) (by omega)
      by_cases hv : v = 0
      · obtain ⟨do2, so2, eo2, ho2, po2⟩ := hodd s2 p2
        simp -dsimp only [wipe_n, wipe_c, ↓ra_nop, ↓ra_cst, ↓ra_glob, ↓ra_tup, ↓ra_lst, ↓ra_dic, ↓ra_bin, ↓ra_neg, ↓ra_not, ↓ra_and, ↓ra_or, ↓ra_ife, ↓ra_cmp, ↓ra_chain, ↓ra_ix, ↓ra_sl, ↓ra_rev, ↓ra_get2, ↓r_get2, ↓r_needT, ↓ra_isi, ↓ra_bi, ↓ra_call, ↓ra_calle, ↓ra_pop, ↓ra_alloc, ↓ra_comp, ↓ra_comp2, ↓ra_me, ↓ra_lrange, ↓r_dic, ↓r_needM, ↓r_me, ↓r_lrange, me_cl, me_js, me_ss, ↓r_cst, ↓r_glob, ↓re_nil, ↓re_cons, ↓rsa_nil, ↓rsa_cons, ↓r_tup, ↓r_lst, ↓r_bin, ↓r_cmp, ↓r_ix, ↓r_neg, ↓r_isi, ↓r_bi, ↓r_not, ↓r_and, ↓r_or, ↓r_ife, ↓r_chain, ↓r_none, ↓rp_cst, ↓rp_glob, ↓rp_bin, ↓rp_neg, ↓rp_ife, ↓rp_ix, ↓rp_bi, ↓rp_call, ↓rp_var, ↓r_sl, ↓r_call, ↓r_alloc, ↓r_allocM, ↓r_prim1, ↓r_prim2, ↓r_primN, ↓rd_nil, ↓rd_cons, ↓rd_int, ↓rd_bl, ↓rd_str, ↓rd_non, ↓rd_tup, ↓rd_lst, ↓rd_scr, ↓rd_dic, ↓rd_cls, ↓rd_fn, ↓rd_s, ↓rd_r, ↓r_chN, refP_s, ↓ri_seq, ↓rq_tup, ↓rq_lst, ↓r_var, ↓ra_var, ↓r_ret, ↓r_frz, ↓r_asBl, ↓r_asInt, ↓r_liftS, ↓ri_range, ↓ri_range2, ↓ri_zip, ↓ri_enum, ↓r_calle, ↓rc_fn, ↓en_lst, ↓en_tup, ↓rz_tup, ↓rz_lst, ↓rz_tl, ↓rz_lt, ↓ri_zip3, ↓rz_ttt, ↓rz_ttl, ↓rz_lll, ↓rx_expr, ↓rx_set, ↓rx_frz, ↓rx_ret, ↓rx_iff, ↓rx_mat, ↓then_nx, ↓then_rt, ↓then_bk, ↓then_ct, ↓rx_nil, ↓rx_cons, ↓rx_asg, ↓rt_name, ↓rt_tup, ↓rt_lst, ↓rt_nil, ↓rt_cons, ↓rx_setix, ↓rx_app, ↓rx_ext, ↓r_pop, ↓r_needL, ↓lstP_l, ↓obP_s, ↓r_chS, ↓rr_nil, ↓rr_cons, ↓rh_v, ↓rh_l, ↓rx_par, ↓rx_pass, ↓rx_for, ↓varP_v, ↓varP_n, bin_addI, bin_subI, cmp_lt, cmp_le, cmp_gt, cmp_ge, cmp_eqI, cmp_neI, cmp_eqB, cmp_eqS, cmp_neS, blR_s, bi_lenT, bi_lenL, bi_lenS, bi_tupT, bi_tupL, bi_lstT, bi_lstL, bi_max, bi_min, bi_intB, neg_i, isi_int, isi_tup, isi_lst, isi_dic, isi_str, isi_non, isi_bl, List.getElem?_cons_zero, List.getElem?_cons_succ, List.set_cons_zero, List.set_cons_succ, Option.map_some, R.flat, R.d, Ob.flat, Ob.d, true_and, and_true, eq_self, decide_eq_true_eq, reduceIte, Bool.true_and, Bool.false_and, Bool.and_false, Bool.and_true, Bool.false_eq_true, decide_true, decide_false, Bool.not_true, Bool.not_false, List.length_map, List.length_cons, List.length_nil, reduceCtorEq, and_self, true_or, or_true, or_false, false_or, or_self, isi_tup, eq_nilT, he', hq', r_callM e2, hv, r_callM eo2]
        exact ⟨by decide, _, rfl, do2, rfl, ho2, po2⟩
      obtain ⟨a', s3, e3, ⟨a0, a1⟩, p3⟩ := dr.gives p2.1 (m := ds.length) (by omega) (by omega)
      obtain ⟨a, rfl⟩ : ∃ a : Nat, a' = a := ⟨a'.toNat, by omega⟩
      obtain ⟨w, s4, e4, ⟨w0, w1⟩, p4⟩ := dr.gives p3.1 (m := 9) (by omega) (by omega)
      have p04 := (p2.trans p3).trans p4
      have ha : a < ds.length := by omega
      have ea : (a : Int) + 1 = ((a + 1 : Nat) : Int) := by omega
      have c1 := cut_t (ds := ds) (a := a) (by omega)
      have c2 := cut_d (ds := ds) (a := a + 1) (by omega)
      have c3 := cut_t (ds := ds) (a := a + 1) (by omega)
      have c4 := cut_d (ds := ds) (a := a) (by omega)
      have c5 := cut_1 (ds := ds) (a := a) ha
      rw [ea] at c5
      have tk : ∀ x ∈ ds.take a, Od k B L x := fun x hx => hds x (List.mem_of_mem_take hx)
      have tk1 : ∀ x ∈ ds.take (a + 1), Od k B L x := fun x hx => hds x (List.mem_of_mem_take hx)
      have dk : ∀ x ∈ ds.drop a, Od k B L x := fun x hx => hds x (List.mem_of_mem_drop hx)
      have dk1 : ∀ x ∈ ds.drop (a + 1), Od k B L x := fun x hx => hds x (List.mem_of_mem_drop hx)
      have ln : line = 16777216 := rfl
      by_cases hw : w < 5
      · have b1 : (ds.take a).length + (ds.drop (a + 1)).length ≤ line := by simp; omega
        have b2 : (ds.take (a + 1)).length + (ds.drop a).length ≤ line := by simp; omega
        have b3 : ds.length + ((ds.drop a).take 1).length ≤ line := by simp; omega
        have ap : ∀ x y z w d : D, appO d (.lst [x, y, z, w]) = some (.lst ([x, y, z, w] ++ [d]), .val .non) := fun x y z w d => app_l (by show 4 < 16777216; omega)
        obtain ⟨x, x1, x2⟩ := item_at (xs := [D.tup (ds.take a ++ ds.drop (a + 1)), .tup (ds.take (a + 1) ++ ds.drop a), .lst ds, .tup ds.reverse, .tup (ds ++ (ds.drop a).take 1)]) (d := w) w0 (by simp; omega)
        simp -dsimp only [wipe_n, wipe_c, ↓ra_nop, ↓ra_cst, ↓ra_glob, ↓ra_tup, ↓ra_lst, ↓ra_dic, ↓ra_bin, ↓ra_neg, ↓ra_not, ↓ra_and, ↓ra_or, ↓ra_ife, ↓ra_cmp, ↓ra_chain, ↓ra_ix, ↓ra_sl, ↓ra_rev, ↓ra_get2, ↓r_get2, ↓r_needT, ↓ra_isi, ↓ra_bi, ↓ra_call, ↓ra_calle, ↓ra_pop, ↓ra_alloc, ↓ra_comp, ↓ra_comp2, ↓ra_me, ↓ra_lrange, ↓r_dic, ↓r_needM, ↓r_me, ↓r_lrange, me_cl, me_js, me_ss, ↓r_cst, ↓r_glob, ↓re_nil, ↓re_cons, ↓rsa_nil, ↓rsa_cons, ↓r_tup, ↓r_lst, ↓r_bin, ↓r_cmp, ↓r_ix, ↓r_neg, ↓r_isi, ↓r_bi, ↓r_not, ↓r_and, ↓r_or, ↓r_ife, ↓r_chain, ↓r_none, ↓rp_cst, ↓rp_glob, ↓rp_bin, ↓rp_neg, ↓rp_ife, ↓rp_ix, ↓rp_bi, ↓rp_call, ↓rp_var, ↓r_sl, ↓r_call, ↓r_alloc, ↓r_allocM, ↓r_prim1, ↓r_prim2, ↓r_primN, ↓rd_nil, ↓rd_cons, ↓rd_int, ↓rd_bl, ↓rd_str, ↓rd_non, ↓rd_tup, ↓rd_lst, ↓rd_scr, ↓rd_dic, ↓rd_cls, ↓rd_fn, ↓rd_s, ↓rd_r, ↓r_chN, refP_s, ↓ri_seq, ↓rq_tup, ↓rq_lst, ↓r_var, ↓ra_var, ↓r_ret, ↓r_frz, ↓r_asBl, ↓r_asInt, ↓r_liftS, ↓ri_range, ↓ri_range2, ↓ri_zip, ↓ri_enum, ↓r_calle, ↓rc_fn, ↓en_lst, ↓en_tup, ↓rz_tup, ↓rz_lst, ↓rz_tl, ↓rz_lt, ↓ri_zip3, ↓rz_ttt, ↓rz_ttl, ↓rz_lll, ↓rx_expr, ↓rx_set, ↓rx_frz, ↓rx_ret, ↓rx_iff, ↓rx_mat, ↓then_nx, ↓then_rt, ↓then_bk, ↓then_ct, ↓rx_nil, ↓rx_cons, ↓rx_asg, ↓rt_name, ↓rt_tup, ↓rt_lst, ↓rt_nil, ↓rt_cons, ↓rx_setix, ↓rx_app, ↓rx_ext, ↓r_pop, ↓r_needL, ↓lstP_l, ↓obP_s, ↓r_chS, ↓rr_nil, ↓rr_cons, ↓rh_v, ↓rh_l, ↓rx_par, ↓rx_pass, ↓rx_for, ↓varP_v, ↓varP_n, bin_addI, bin_subI, cmp_lt, cmp_le, cmp_gt, cmp_ge, cmp_eqI, cmp_neI, cmp_eqB, cmp_eqS, cmp_neS, blR_s, bi_lenT, bi_lenL, bi_lenS, bi_tupT, bi_tupL, bi_lstT, bi_lstL, bi_max, bi_min, bi_intB, neg_i, isi_int, isi_tup, isi_lst, isi_dic, isi_str, isi_non, isi_bl, List.getElem?_cons_zero, List.getElem?_cons_succ, List.set_cons_zero, List.set_cons_succ, Option.map_some, R.flat, R.d, Ob.flat, Ob.d, true_and, and_true, eq_self, decide_eq_true_eq, reduceIte, Bool.true_and, Bool.false_and, Bool.and_false, Bool.and_true, Bool.false_eq_true, decide_true, decide_false, Bool.not_true, Bool.not_false, List.length_map, List.length_cons, List.length_nil, reduceCtorEq, and_self, true_or, or_true, or_false, false_or, or_self, isi_tup, eq_nilT, he', hq', r_callM e2, hv, r_callM e3, r_callM e4, sets, hw, slD, ea, c1, c2, c3, c4, c5, bin_addT b1, bin_addT b2, bin_addT b3, ↓r_rev, rev_t, ap, List.cons_append, List.nil_append, ix_l x2]
        refine ⟨by decide, by decide, _, rfl, x, rfl, ⟨?_, ?_⟩, p04⟩
        rotate_left
        · have hx := List.mem_of_getElem? x1
          simp only [List.mem_cons, List.not_mem_nil, or_false] at hx
          obtain ⟨y, y1, _⟩ := item_at (xs := ds) (d := (a : Int)) (by omega) (by omega)
          rw [Int.toNat_natCast] at y1
          have q1 := wtL_at y1
          have q2 := wtL_sub (k := a) (a := ds)
          have q3 := wtL_sub (k := a + 1) (a := ds)
          have q4 := wtL_sub (k := 1) (a := ds.drop a)
          have q5 := wtL_rev (a := ds)
          rcases hx with rfl | rfl | rfl | rfl | rfl <;> simp only [D.wtD, wtL_append] <;> omega
        have hx := List.mem_of_getElem? x1
        have up : ∀ d : D, Od (k + 1) B (L + 1) d → Od (k + 1 + 3) (B + 1) (L + 1) d := fun d h => h.mono (by omega) (by omega) (by omega)
        have dw : ∀ d ∈ ds, Od k B (L + 1) d := fun d h => (hds d h).mono (by omega) (by omega) (by omega)
        simp only [List.mem_cons, List.not_mem_nil, or_false] at hx
        rcases hx with rfl | rfl | rfl | rfl | rfl
        · exact up _ (.tup (fun d h => by
            rcases List.mem_append.mp h with q | q
            · exact dw d (List.mem_of_mem_take q)
            · exact dw d (List.mem_of_mem_drop q)) (by simp; omega))
        · exact up _ (.tup (fun d h => by
            rcases List.mem_append.mp h with q | q
            · exact dw d (List.mem_of_mem_take q)
            · exact dw d (List.mem_of_mem_drop q)) (by simp; omega))
        · exact up _ (.lst dw (by omega))
        · exact up _ (.tup (fun d h => dw d (List.mem_reverse.mp h)) (by simp; omega))
        · exact up _ (.tup (fun d h => by
            rcases List.mem_append.mp h with q | q
            · exact dw d q
            · exact dw d (List.mem_of_mem_drop (List.mem_of_mem_take q))) (by simp; omega))
      · obtain ⟨y, y1, y2⟩ := item_at (xs := ds) (d := (a : Int)) (by omega) (by omega)
        obtain ⟨d', s5, e5, h5, p5⟩ := hr q' rfl s4 n k B L y p4.1 (hds y (List.mem_of_getElem? y1)) hB hB2 hL hL2
        have eq : ((q' + 1 : Nat) : Int) - 1 = q' := by omega
        have b1 : (ds.take a).length + ([d'] : List D).length ≤ line := by simp; omega
        have b2 : (ds.take a ++ [d']).length + (ds.drop (a + 1)).length ≤ line := by simp; omega
        simp -dsimp only [wipe_n, wipe_c, ↓ra_nop, ↓ra_cst, ↓ra_glob, ↓ra_tup, ↓ra_lst, ↓ra_dic, ↓ra_bin, ↓ra_neg, ↓ra_not, ↓ra_and, ↓ra_or, ↓ra_ife, ↓ra_cmp, ↓ra_chain, ↓ra_ix, ↓ra_sl, ↓ra_rev, ↓ra_get2, ↓r_get2, ↓r_needT, ↓ra_isi, ↓ra_bi, ↓ra_call, ↓ra_calle, ↓ra_pop, ↓ra_alloc, ↓ra_comp, ↓ra_comp2, ↓ra_me, ↓ra_lrange, ↓r_dic, ↓r_needM, ↓r_me, ↓r_lrange, me_cl, me_js, me_ss, ↓r_cst, ↓r_glob, ↓re_nil, ↓re_cons, ↓rsa_nil, ↓rsa_cons, ↓r_tup, ↓r_lst, ↓r_bin, ↓r_cmp, ↓r_ix, ↓r_neg, ↓r_isi, ↓r_bi, ↓r_not, ↓r_and, ↓r_or, ↓r_ife, ↓r_chain, ↓r_none, ↓rp_cst, ↓rp_glob, ↓rp_bin, ↓rp_neg, ↓rp_ife, ↓rp_ix, ↓rp_bi, ↓rp_call, ↓rp_var, ↓r_sl, ↓r_call, ↓r_alloc, ↓r_allocM, ↓r_prim1, ↓r_prim2, ↓r_primN, ↓rd_nil, ↓rd_cons, ↓rd_int, ↓rd_bl, ↓rd_str, ↓rd_non, ↓rd_tup, ↓rd_lst, ↓rd_scr, ↓rd_dic, ↓rd_cls, ↓rd_fn, ↓rd_s, ↓rd_r, ↓r_chN, refP_s, ↓ri_seq, ↓rq_tup, ↓rq_lst, ↓r_var, ↓ra_var, ↓r_ret, ↓r_frz, ↓r_asBl, ↓r_asInt, ↓r_liftS, ↓ri_range, ↓ri_range2, ↓ri_zip, ↓ri_enum, ↓r_calle, ↓rc_fn, ↓en_lst, ↓en_tup, ↓rz_tup, ↓rz_lst, ↓rz_tl, ↓rz_lt, ↓ri_zip3, ↓rz_ttt, ↓rz_ttl, ↓rz_lll, ↓rx_expr, ↓rx_set, ↓rx_frz, ↓rx_ret, ↓rx_iff, ↓rx_mat, ↓then_nx, ↓then_rt, ↓then_bk, ↓then_ct, ↓rx_nil, ↓rx_cons, ↓rx_asg, ↓rt_name, ↓rt_tup, ↓rt_lst, ↓rt_nil, ↓rt_cons, ↓rx_setix, ↓rx_app, ↓rx_ext, ↓r_pop, ↓r_needL, ↓lstP_l, ↓obP_s, ↓r_chS, ↓rr_nil, ↓rr_cons, ↓rh_v, ↓rh_l, ↓rx_par, ↓rx_pass, ↓rx_for, ↓varP_v, ↓varP_n, bin_addI, bin_subI, cmp_lt, cmp_le, cmp_gt, cmp_ge, cmp_eqI, cmp_neI, cmp_eqB, cmp_eqS, cmp_neS, blR_s, bi_lenT, bi_lenL, bi_lenS, bi_tupT, bi_tupL, bi_lstT, bi_lstL, bi_max, bi_min, bi_intB, neg_i, isi_int, isi_tup, isi_lst, isi_dic, isi_str, isi_non, isi_bl, List.getElem?_cons_zero, List.getElem?_cons_succ, List.set_cons_zero, List.set_cons_succ, Option.map_some, R.flat, R.d, Ob.flat, Ob.d, true_and, and_true, eq_self, decide_eq_true_eq, reduceIte, Bool.true_and, Bool.false_and, Bool.and_false, Bool.and_true, Bool.false_eq_true, decide_true, decide_false, Bool.not_true, Bool.not_false, List.length_map, List.length_cons, List.length_nil, reduceCtorEq, and_self, true_or, or_true, or_false, false_or, or_self, isi_tup, eq_nilT, he', hq', r_callM e2, hv, r_callM e3, r_callM e4, sets, hw, slD, ea, c1, c2, ix_t y2, eq, r_callM e5, bin_addT b1, bin_addT b2]
        refine ⟨by decide, by decide, _, rfl, _, rfl, ⟨?_, ?_⟩, p04.trans p5⟩
        rotate_left
        · have q1 := wtL_at (a := ds) (k := a) (y := y) (by simpa using y1)
          have q2 := h5.2
          simp only [D.wtD, wtL_append, wtL]
          omega
        have dw : ∀ d ∈ ds, Od (k + 3) (B + 1) (L + 1) d := fun d h => (hds d h).mono (by omega) (by omega) (by omega)
        refine Od.tup (n := k + 3) (fun d h => ?_) (by simp; omega)
        rcases List.mem_append.mp h with q | q
        · rcases List.mem_append.mp q with q | q
          · exact dw d (List.mem_of_mem_take q)
          · rw [List.mem_singleton.mp q]; exact h5.1
        · exact dw d (List.mem_of_mem_drop q)
    | non =>
      simp -dsimp only [wipe_n, wipe_c, ↓ra_nop, ↓ra_cst, ↓ra_glob, ↓ra_tup, ↓ra_lst, ↓ra_dic, ↓ra_bin, ↓ra_neg, ↓ra_not, ↓ra_and, ↓ra_or, ↓ra_ife, ↓ra_cmp, ↓ra_chain, ↓ra_ix, ↓ra_sl, ↓ra_rev, ↓ra_get2, ↓r_get2, ↓r_needT, ↓ra_isi, ↓ra_bi, ↓ra_call, ↓ra_calle, ↓ra_pop, ↓ra_alloc, ↓ra_comp, ↓ra_comp2, ↓ra_me, ↓ra_lrange, ↓r_dic, ↓r_needM, ↓r_me, ↓r_lrange, me_cl, me_js, me_ss, ↓r_cst, ↓r_glob, ↓re_nil, ↓re_cons, ↓rsa_nil, ↓rsa_cons, ↓r_tup, ↓r_lst, ↓r_bin, ↓r_cmp, ↓r_ix, ↓r_neg, ↓r_isi, ↓r_bi, ↓r_not, ↓r_and, ↓r_or, ↓r_ife, ↓r_chain, ↓r_none, ↓rp_cst, ↓rp_glob, ↓rp_bin, ↓rp_neg, ↓rp_ife, ↓rp_ix, ↓rp_bi, ↓rp_call, ↓rp_var, ↓r_sl, ↓r_call, ↓r_alloc, ↓r_allocM, ↓r_prim1, ↓r_prim2, ↓r_primN, ↓rd_nil, ↓rd_cons, ↓rd_int, ↓rd_bl, ↓rd_str, ↓rd_non, ↓rd_tup, ↓rd_lst, ↓rd_scr, ↓rd_dic, ↓rd_cls, ↓rd_fn, ↓rd_s, ↓rd_r, ↓r_chN, refP_s, ↓ri_seq, ↓rq_tup, ↓rq_lst, ↓r_var, ↓ra_var, ↓r_ret, ↓r_frz, ↓r_asBl, ↓r_asInt, ↓r_liftS, ↓ri_range, ↓ri_range2, ↓ri_zip, ↓ri_enum, ↓r_calle, ↓rc_fn, ↓en_lst, ↓en_tup, ↓rz_tup, ↓rz_lst, ↓rz_tl, ↓rz_lt, ↓ri_zip3, ↓rz_ttt, ↓rz_ttl, ↓rz_lll, ↓rx_expr, ↓rx_set, ↓rx_frz, ↓rx_ret, ↓rx_iff, ↓rx_mat, ↓then_nx, ↓then_rt, ↓then_bk, ↓then_ct, ↓rx_nil, ↓rx_cons, ↓rx_asg, ↓rt_name, ↓rt_tup, ↓rt_lst, ↓rt_nil, ↓rt_cons, ↓rx_setix, ↓rx_app, ↓rx_ext, ↓r_pop, ↓r_needL, ↓lstP_l, ↓obP_s, ↓r_chS, ↓rr_nil, ↓rr_cons, ↓rh_v, ↓rh_l, ↓rx_par, ↓rx_pass, ↓rx_for, ↓varP_v, ↓varP_n, bin_addI, bin_subI, cmp_lt, cmp_le, cmp_gt, cmp_ge, cmp_eqI, cmp_neI, cmp_eqB, cmp_eqS, cmp_neS, blR_s, bi_lenT, bi_lenL, bi_lenS, bi_tupT, bi_tupL, bi_lstT, bi_lstL, bi_max, bi_min, bi_intB, neg_i, isi_int, isi_tup, isi_lst, isi_dic, isi_str, isi_non, isi_bl, List.getElem?_cons_zero, List.getElem?_cons_succ, List.set_cons_zero, List.set_cons_succ, Option.map_some, R.flat, R.d, Ob.flat, Ob.d, true_and, and_true, eq_self, decide_eq_true_eq, reduceIte, Bool.true_and, Bool.false_and, Bool.and_false, Bool.and_true, Bool.false_eq_true, decide_true, decide_false, Bool.not_true, Bool.not_false, List.length_map, List.length_cons, List.length_nil, reduceCtorEq, and_self, true_or, or_true, or_false, false_or, or_self, r_callM eo0]
      exact ⟨_, rfl, do0, rfl, ho0, po0⟩
    | str x =>
      simp -dsimp only [wipe_n, wipe_c, ↓ra_nop, ↓ra_cst, ↓ra_glob, ↓ra_tup, ↓ra_lst, ↓ra_dic, ↓ra_bin, ↓ra_neg, ↓ra_not, ↓ra_and, ↓ra_or, ↓ra_ife, ↓ra_cmp, ↓ra_chain, ↓ra_ix, ↓ra_sl, ↓ra_rev, ↓ra_get2, ↓r_get2, ↓r_needT, ↓ra_isi, ↓ra_bi, ↓ra_call, ↓ra_calle, ↓ra_pop, ↓ra_alloc, ↓ra_comp, ↓ra_comp2, ↓ra_me, ↓ra_lrange, ↓r_dic, ↓r_needM, ↓r_me, ↓r_lrange, me_cl, me_js, me_ss, ↓r_cst, ↓r_glob, ↓re_nil, ↓re_cons, ↓rsa_nil, ↓rsa_cons, ↓r_tup, ↓r_lst, ↓r_bin, ↓r_cmp, ↓r_ix, ↓r_neg, ↓r_isi, ↓r_bi, ↓r_not, ↓r_and, ↓r_or, ↓r_ife, ↓r_chain, ↓r_none, ↓rp_cst, ↓rp_glob, ↓rp_bin, ↓rp_neg, ↓rp_ife, ↓rp_ix, ↓rp_bi, ↓rp_call, ↓rp_var, ↓r_sl, ↓r_call, ↓r_alloc, ↓r_allocM, ↓r_prim1, ↓r_prim2, ↓r_primN, ↓rd_nil, ↓rd_cons, ↓rd_int, ↓rd_bl, ↓rd_str, ↓rd_non, ↓rd_tup, ↓rd_lst, ↓rd_scr, ↓rd_dic, ↓rd_cls, ↓rd_fn, ↓rd_s, ↓rd_r, ↓r_chN, refP_s, ↓ri_seq, ↓rq_tup, ↓rq_lst, ↓r_var, ↓ra_var, ↓r_ret, ↓r_frz, ↓r_asBl, ↓r_asInt, ↓r_liftS, ↓ri_range, ↓ri_range2, ↓ri_zip, ↓ri_enum, ↓r_calle, ↓rc_fn, ↓en_lst, ↓en_tup, ↓rz_tup, ↓rz_lst, ↓rz_tl, ↓rz_lt, ↓ri_zip3, ↓rz_ttt, ↓rz_ttl, ↓rz_lll, ↓rx_expr, ↓rx_set, ↓rx_frz, ↓rx_ret, ↓rx_iff, ↓rx_mat, ↓then_nx, ↓then_rt, ↓then_bk, ↓then_ct, ↓rx_nil, ↓rx_cons, ↓rx_asg, ↓rt_name, ↓rt_tup, ↓rt_lst, ↓rt_nil, ↓rt_cons, ↓rx_setix, ↓rx_app, ↓rx_ext, ↓r_pop, ↓r_needL, ↓lstP_l, ↓obP_s, ↓r_chS, ↓rr_nil, ↓rr_cons, ↓rh_v, ↓rh_l, ↓rx_par, ↓rx_pass, ↓rx_for, ↓varP_v, ↓varP_n, bin_addI, bin_subI, cmp_lt, cmp_le, cmp_gt, cmp_ge, cmp_eqI, cmp_neI, cmp_eqB, cmp_eqS, cmp_neS, blR_s, bi_lenT, bi_lenL, bi_lenS, bi_tupT, bi_tupL, bi_lstT, bi_lstL, bi_max, bi_min, bi_intB, neg_i, isi_int, isi_tup, isi_lst, isi_dic, isi_str, isi_non, isi_bl, List.getElem?_cons_zero, List.getElem?_cons_succ, List.set_cons_zero, List.set_cons_succ, Option.map_some, R.flat, R.d, Ob.flat, Ob.d, true_and, and_true, eq_self, decide_eq_true_eq, reduceIte, Bool.true_and, Bool.false_and, Bool.and_false, Bool.and_true, Bool.false_eq_true, decide_true, decide_false, Bool.not_true, Bool.not_false, List.length_map, List.length_cons, List.length_nil, reduceCtorEq, and_self, true_or, or_true, or_false, false_or, or_self, r_callM eo0]
      exact ⟨_, rfl, do0, rfl, ho0, po0⟩
    | lst ds =>
      simp -dsimp only [wipe_n, wipe_c, ↓ra_nop, ↓ra_cst, ↓ra_glob, ↓ra_tup, ↓ra_lst, ↓ra_dic, ↓ra_bin, ↓ra_neg, ↓ra_not, ↓ra_and, ↓ra_or, ↓ra_ife, ↓ra_cmp, ↓ra_chain, ↓ra_ix, ↓ra_sl, ↓ra_rev, ↓ra_get2, ↓r_get2, ↓r_needT, ↓ra_isi, ↓ra_bi, ↓ra_call, ↓ra_calle, ↓ra_pop, ↓ra_alloc, ↓ra_comp, ↓ra_comp2, ↓ra_me, ↓ra_lrange, ↓r_dic, ↓r_needM, ↓r_me, ↓r_lrange, me_cl, me_js, me_ss, ↓r_cst, ↓r_glob, ↓re_nil, ↓re_cons, ↓rsa_nil, ↓rsa_cons, ↓r_tup, ↓r_lst, ↓r_bin, ↓r_cmp, ↓r_ix, ↓r_neg, ↓r_isi, ↓r_bi, ↓r_not, ↓r_and, ↓r_or, ↓r_ife, ↓r_chain, ↓r_none, ↓rp_cst, ↓rp_glob, ↓rp_bin, ↓rp_neg, ↓rp_ife, ↓rp_ix, ↓rp_bi, ↓rp_call, ↓rp_var, ↓r_sl, ↓r_call, ↓r_alloc, ↓r_allocM, ↓r_prim1, ↓r_prim2, ↓r_primN, ↓rd_nil, ↓rd_cons, ↓rd_int, ↓rd_bl, ↓rd_str, ↓rd_non, ↓rd_tup, ↓rd_lst, ↓rd_scr, ↓rd_dic, ↓rd_cls, ↓rd_fn, ↓rd_s, ↓rd_r, ↓r_chN, refP_s, ↓ri_seq, ↓rq_tup, ↓rq_lst, ↓r_var, ↓ra_var, ↓r_ret, ↓r_frz, ↓r_asBl, ↓r_asInt, ↓r_liftS, ↓ri_range, ↓ri_range2, ↓ri_zip, ↓ri_enum, ↓r_calle, ↓rc_fn, ↓en_lst, ↓en_tup, ↓rz_tup, ↓rz_lst, ↓rz_tl, ↓rz_lt, ↓ri_zip3, ↓rz_ttt, ↓rz_ttl, ↓rz_lll, ↓rx_expr, ↓rx_set, ↓rx_frz, ↓rx_ret, ↓rx_iff, ↓rx_mat, ↓then_nx, ↓then_rt, ↓then_bk, ↓then_ct, ↓rx_nil, ↓rx_cons, ↓rx_asg, ↓rt_name, ↓rt_tup, ↓rt_lst, ↓rt_nil, ↓rt_cons, ↓rx_setix, ↓rx_app, ↓rx_ext, ↓r_pop, ↓r_needL, ↓lstP_l, ↓obP_s, ↓r_chS, ↓rr_nil, ↓rr_cons, ↓rh_v, ↓rh_l, ↓rx_par, ↓rx_pass, ↓rx_for, ↓varP_v, ↓varP_n, bin_addI, bin_subI, cmp_lt, cmp_le, cmp_gt, cmp_ge, cmp_eqI, cmp_neI, cmp_eqB, cmp_eqS, cmp_neS, blR_s, bi_lenT, bi_lenL, bi_lenS, bi_tupT, bi_tupL, bi_lstT, bi_lstL, bi_max, bi_min, bi_intB, neg_i, isi_int, isi_tup, isi_lst, isi_dic, isi_str, isi_non, isi_bl, List.getElem?_cons_zero, List.getElem?_cons_succ, List.set_cons_zero, List.set_cons_succ, Option.map_some, R.flat, R.d, Ob.flat, Ob.d, true_and, and_true, eq_self, decide_eq_true_eq, reduceIte, Bool.true_and, Bool.false_and, Bool.and_false, Bool.and_true, Bool.false_eq_true, decide_true, decide_false, Bool.not_true, Bool.not_false, List.length_map, List.length_cons, List.length_nil, reduceCtorEq, and_self, true_or, or_true, or_false, false_or, or_self, r_callM eo0]
      exact ⟨_, rfl, do0, rfl, ho0, po0⟩
    | dic ks vs =>
      simp -dsimp only [wipe_n, wipe_c, ↓ra_nop, ↓ra_cst, ↓ra_glob, ↓ra_tup, ↓ra_lst, ↓ra_dic, ↓ra_bin, ↓ra_neg, ↓ra_not, ↓ra_and, ↓ra_or, ↓ra_ife, ↓ra_cmp, ↓ra_chain, ↓ra_ix, ↓ra_sl, ↓ra_rev, ↓ra_get2, ↓r_get2, ↓r_needT, ↓ra_isi, ↓ra_bi, ↓ra_call, ↓ra_calle, ↓ra_pop, ↓ra_alloc, ↓ra_comp, ↓ra_comp2, ↓ra_me, ↓ra_lrange, ↓r_dic, ↓r_needM, ↓r_me, ↓r_lrange, me_cl, me_js, me_ss, ↓r_cst, ↓r_glob, ↓re_nil, ↓re_cons, ↓rsa_nil, ↓rsa_cons, ↓r_tup, ↓r_lst, ↓r_bin, ↓r_cmp, ↓r_ix, ↓r_neg, ↓r_isi, ↓r_bi, ↓r_not, ↓r_and, ↓r_or, ↓r_ife, ↓r_chain, ↓r_none, ↓rp_cst, ↓rp_glob, ↓rp_bin, ↓rp_neg, ↓rp_ife, ↓rp_ix, ↓rp_bi, ↓rp_call, ↓rp_var, ↓r_sl, ↓r_call, ↓r_alloc, ↓r_allocM, ↓r_prim1, ↓r_prim2, ↓r_primN, ↓rd_nil, ↓rd_cons, ↓rd_int, ↓rd_bl, ↓rd_str, ↓rd_non, ↓rd_tup, ↓rd_lst, ↓rd_scr, ↓rd_dic, ↓rd_cls, ↓rd_fn, ↓rd_s, ↓rd_r, ↓r_chN, refP_s, ↓ri_seq, ↓rq_tup, ↓rq_lst, ↓r_var, ↓ra_var, ↓r_ret, ↓r_frz, ↓r_asBl, ↓r_asInt, ↓r_liftS, ↓ri_range, ↓ri_range2, ↓ri_zip, ↓ri_enum, ↓r_calle, ↓rc_fn, ↓en_lst, ↓en_tup, ↓rz_tup, ↓rz_lst, ↓rz_tl, ↓rz_lt, ↓ri_zip3, ↓rz_ttt, ↓rz_ttl, ↓rz_lll, ↓rx_expr, ↓rx_set, ↓rx_frz, ↓rx_ret, ↓rx_iff, ↓rx_mat, ↓then_nx, ↓then_rt, ↓then_bk, ↓then_ct, ↓rx_nil, ↓rx_cons, ↓rx_asg, ↓rt_name, ↓rt_tup, ↓rt_lst, ↓rt_nil, ↓rt_cons, ↓rx_setix, ↓rx_app, ↓rx_ext, ↓r_pop, ↓r_needL, ↓lstP_l, ↓obP_s, ↓r_chS, ↓rr_nil, ↓rr_cons, ↓rh_v, ↓rh_l, ↓rx_par, ↓rx_pass, ↓rx_for, ↓varP_v, ↓varP_n, bin_addI, bin_subI, cmp_lt, cmp_le, cmp_gt, cmp_ge, cmp_eqI, cmp_neI, cmp_eqB, cmp_eqS, cmp_neS, blR_s, bi_lenT, bi_lenL, bi_lenS, bi_tupT, bi_tupL, bi_lstT, bi_lstL, bi_max, bi_min, bi_intB, neg_i, isi_int, isi_tup, isi_lst, isi_dic, isi_str, isi_non, isi_bl, List.getElem?_cons_zero, List.getElem?_cons_succ, List.set_cons_zero, List.set_cons_succ, Option.map_some, R.flat, R.d, Ob.flat, Ob.d, true_and, and_true, eq_self, decide_eq_true_eq, reduceIte, Bool.true_and, Bool.false_and, Bool.and_false, Bool.and_true, Bool.false_eq_true, decide_true, decide_false, Bool.not_true, Bool.not_false, List.length_map, List.length_cons, List.length_nil, reduceCtorEq, and_self, true_or, or_true, or_false, false_or, or_self, r_callM eo0]
      exact ⟨_, rfl, do0, rfl, ho0, po0⟩
    | _ => cases hd.ok
  obtain ⟨r, s', h1, d, rfl, h3, h4⟩ := z
  exact ⟨d, s', h1, h3, h4⟩
end
section
variable {T : Tb} {d g gd gp gs gr go : Nat}
theorem c_law_bent (hd : Lw T d gd DrawC) (hp : Lw T d gp PickC) (ho : Lw T d go OddC) (h : IsF T g (F_law_bent gd gp go g)) : Lw T (d + 9) g BentC := by
  have lv : ∀ q, Lv T (d + q + 1) g fun C => Bent C q := fun q => by
    induction q with
    | zero => exact Lv.of h.fn fun j hj => bent_body (hd.at (by omega)) (hp.at (by omega)) (ho.at (by omega)) (fun q' e => by omega)
    | succ q ih => exact Lv.of h.fn fun j hj => bent_body (hd.at (by omega)) (hp.at (by omega)) (ho.at (by omega)) (fun q' e => by
        have : q' = q := by omega
        subst this
        exact ih j (by omega))
  exact ⟨fun k hk q hq => lv q k (by omega), h.gl, by rw [h.fn]; rfl⟩
end
end Mi
namespace Mi
open PySem
theorem Wd.bl {k n : Nat} {b : Bool} (hn : 5 ≤ n) : Wd k n (.bl b) := ⟨rfl, rfl, Nat.zero_le _, Nat.le_trans (by cases b <;> decide +kernel) hn⟩
theorem wtL_map {α : Type} {f : α → D} {w : Nat} : ∀ {l : List α}, (∀ x ∈ l, (f x).wtD ≤ w) → wtL (l.map f) ≤ l.length * (w + 2)
  | [], _ => Nat.zero_le _
  | a :: l, h => by
    have h1 := h a (.head _)
    have h2 := wtL_map (l := l) fun x hx => h x (.tail _ hx)
    simp only [List.map_cons, wtL, List.length_cons, Nat.add_mul, Nat.one_mul]
    omega
theorem wtL_le {w : Nat} {l : List D} (h : ∀ x ∈ l, x.wtD ≤ w) : wtL l ≤ l.length * (w + 2) := by
  have := wtL_map (f := id) (l := l) h
  simpa using this
def IntsB (k : Nat) (l : List Int) : Prop := l.length ≤ 5 ∧ ∀ x ∈ l, x.natAbs ≤ k
theorem IntsB.mono {k k' : Nat} {l : List Int} (h : IntsB k l) (hk : k ≤ k') : IntsB k' l := ⟨h.1, fun x hx => Nat.le_trans (h.2 x hx) hk⟩
def Ow (n w : Nat) (d : D) : Prop := Od n 1000000000001 8 d ∧ d.wtD ≤ w
theorem Ow.mono {n w n' w' : Nat} {d : D} (h : Ow n w d) (hn : n ≤ n') (hw : w ≤ w') : Ow n' w' d := ⟨h.1.mono hn (Nat.le_refl _) (Nat.le_refl _), Nat.le_trans h.2 hw⟩
theorem Ow.tup {n w : Nat} {ds : List D} (h : ∀ d ∈ ds, Ow n w d) (hl : ds.length ≤ 8) : Ow (n + 1) (8 * (w + 2) + 3) (.tup ds) := ⟨Od.tup (fun d hd => (h d hd).1) hl, by
  have h1 := wtL_le fun d hd => (h d hd).2
  have h2 := Nat.mul_le_mul_right (w + 2) hl
  simp only [D.wtD]
  omega⟩
theorem Ow.lst {n w : Nat} {ds : List D} (h : ∀ d ∈ ds, Ow n w d) (hl : ds.length ≤ 8) : Ow (n + 1) (8 * (w + 2) + 3) (.lst ds) := ⟨Od.lst (fun d hd => (h d hd).1) hl, by
  have h1 := wtL_le fun d hd => (h d hd).2
  have h2 := Nat.mul_le_mul_right (w + 2) hl
  simp only [D.wtD]
  omega⟩
theorem Ow.int {i : Int} (h : i.natAbs ≤ 1000000000001) : Ow 0 102 (.int i) := ⟨.int h, wt_int (by omega)⟩
theorem Ow.ints {k : Nat} {l : List Int} (h : IntsB k l) (hk : k ≤ 1000000000001) : Ow 1 835 (rI l) := Ow.tup (fun d hd => by
  obtain ⟨x, hx, rfl⟩ := List.mem_map.mp hd
  exact .int (Nat.le_trans (h.2 x hx) hk)) (by rw [List.length_map]; have := h.1; omega)
theorem Ow.rows {k : Nat} {l : List (List Int)} (h : ∀ r ∈ l, IntsB k r) (hl : l.length ≤ 5) (hk : k ≤ 1000000000001) : Ow 2 6699 (tI l) := Ow.tup (fun d hd => by
  obtain ⟨x, hx, rfl⟩ := List.mem_map.mp hd
  exact .ints (h x hx) hk) (by rw [List.length_map]; omega)
end Mi
namespace Mi
open PySem
def ToldC (C : List D → Sto → COut) : Prop := ∀ t p s, t.vl = true → p.vl = true → C [t, p] s = .ok (.val (if tabD t = true then .bl (sgsD (tlen t) p) else .str (.ofString "refused"))) s
section
variable {T : Tb} {d g gp ie ip : Nat}
theorem c_law_told_2 (hp : Lw T d gp (IsPushC ie)) (hs : T.sub ie ie = some true ∧ T.sub ie ip = some false) (h : IsF T g (F_law_told_2 gp ie ip)) : Lw T (d + 1) g ToldC := Lw.of h fun j hj t p s ht hp' => by
  have e1 := hp.at hj t p s ht hp'
  have osub : (orc T j).sub = T.sub := orc_sub T j
  have body : Q.WQ (fun k s' => k = ie ∧ s' = s ∧ tabD t = false) (execs (orc T j) [.ret (.call gp [.var 0, .var 1])]) [some (.val t), some (.val p), none] s fun fl _ s' => fl = .rt (.val (.bl (sgsD (tlen t) p))) ∧ s' = s ∧ tabD t = true := by
    by_cases q : tabD t = true
    · rw [if_pos q] at e1
      simp -dsimp only [wipe_n, wipe_c, ↓Q.ra_nop, ↓Q.ra_cst, ↓Q.ra_glob, ↓Q.ra_tup, ↓Q.ra_lst, ↓Q.ra_dic, ↓Q.ra_bin, ↓Q.ra_neg, ↓Q.ra_not, ↓Q.ra_and, ↓Q.ra_or, ↓Q.ra_ife, ↓Q.ra_cmp, ↓Q.ra_chain, ↓Q.ra_ix, ↓Q.ra_sl, ↓Q.ra_rev, ↓Q.ra_get2, ↓Q.r_get2, ↓Q.r_needT, ↓Q.ra_isi, ↓Q.ra_bi, ↓Q.ra_call, ↓Q.ra_calle, ↓Q.ra_pop, ↓Q.ra_alloc, ↓Q.ra_comp, ↓Q.ra_comp2, ↓Q.ra_me, ↓Q.ra_lrange, ↓Q.r_dic, ↓Q.r_needM, ↓Q.r_me, ↓Q.r_lrange, me_cl, me_js, me_ss, ↓Q.r_cst, ↓Q.r_glob, ↓Q.re_nil, ↓Q.re_cons, ↓Q.rsa_nil, ↓Q.rsa_cons, ↓Q.r_tup, ↓Q.r_lst, ↓Q.r_bin, ↓Q.r_cmp, ↓Q.r_ix, ↓Q.r_neg, ↓Q.r_isi, ↓Q.r_bi, ↓Q.r_not, ↓Q.r_and, ↓Q.r_or, ↓Q.r_ife, ↓Q.r_chain, ↓Q.r_none, ↓Q.rp_cst, ↓Q.rp_glob, ↓Q.rp_bin, ↓Q.rp_neg, ↓Q.rp_ife, ↓Q.rp_ix, ↓Q.rp_bi, ↓Q.rp_call, ↓Q.rp_var, ↓Q.r_sl, ↓Q.r_call, ↓Q.r_alloc, ↓Q.r_allocM, ↓Q.r_prim1, ↓Q.r_prim2, ↓Q.r_primN, ↓Q.rd_nil, ↓Q.rd_cons, ↓Q.rd_int, ↓Q.rd_bl, ↓Q.rd_str, ↓Q.rd_non, ↓Q.rd_tup, ↓Q.rd_lst, ↓Q.rd_scr, ↓Q.rd_dic, ↓Q.rd_cls, ↓Q.rd_fn, ↓Q.rd_s, ↓Q.rd_r, ↓Q.r_chN, refP_s, ↓Q.ri_seq, ↓Q.rq_tup, ↓Q.rq_lst, ↓Q.r_var, ↓Q.ra_var, ↓Q.r_ret, ↓Q.r_frz, ↓Q.r_asBl, ↓Q.r_asInt, ↓Q.r_liftS, ↓Q.ri_range, ↓Q.ri_range2, ↓Q.ri_zip, ↓Q.ri_enum, ↓Q.r_calle, ↓Q.rc_fn, ↓Q.en_lst, ↓Q.en_tup, ↓Q.rz_tup, ↓Q.rz_lst, ↓Q.rz_tl, ↓Q.rz_lt, ↓Q.ri_zip3, ↓Q.rz_ttt, ↓Q.rz_ttl, ↓Q.rz_lll, ↓Q.rx_expr, ↓Q.rx_set, ↓Q.rx_frz, ↓Q.rx_ret, ↓Q.rx_iff, ↓Q.rx_mat, ↓then_nx, ↓then_rt, ↓then_bk, ↓then_ct, ↓Q.rx_nil, ↓Q.rx_cons, ↓Q.rx_asg, ↓Q.rt_name, ↓Q.rt_tup, ↓Q.rt_lst, ↓Q.rt_nil, ↓Q.rt_cons, ↓Q.rx_setix, ↓Q.rx_app, ↓Q.rx_ext, ↓Q.r_pop, ↓Q.r_needL, ↓lstP_l, ↓obP_s, ↓Q.r_chS, ↓Q.rr_nil, ↓Q.rr_cons, ↓rh_v, ↓rh_l, ↓Q.rx_par, ↓Q.rx_pass, ↓Q.rx_for, ↓varP_v, ↓varP_n, bin_addI, bin_subI, cmp_lt, cmp_le, cmp_gt, cmp_ge, cmp_eqI, cmp_neI, cmp_eqB, cmp_eqS, cmp_neS, blR_s, bi_lenT, bi_lenL, bi_lenS, bi_tupT, bi_tupL, bi_lstT, bi_lstL, bi_max, bi_min, bi_intB, neg_i, isi_int, isi_tup, isi_lst, isi_dic, isi_str, isi_non, isi_bl, List.getElem?_cons_zero, List.getElem?_cons_succ, List.set_cons_zero, List.set_cons_succ, Option.map_some, R.flat, R.d, Ob.flat, Ob.d, true_and, and_true, eq_self, decide_eq_true_eq, reduceIte, Bool.true_and, Bool.false_and, Bool.and_false, Bool.and_true, Bool.false_eq_true, decide_true, decide_false, Bool.not_true, Bool.not_false, List.length_map, List.length_cons, List.length_nil, reduceCtorEq, and_self, true_or, or_true, or_false, false_or, or_self, ↓Q.rx_raise, Q.r_callM e1]
      simp [q]
    · rw [if_neg q] at e1
      simp -dsimp only [wipe_n, wipe_c, ↓Q.ra_nop, ↓Q.ra_cst, ↓Q.ra_glob, ↓Q.ra_tup, ↓Q.ra_lst, ↓Q.ra_dic, ↓Q.ra_bin, ↓Q.ra_neg, ↓Q.ra_not, ↓Q.ra_and, ↓Q.ra_or, ↓Q.ra_ife, ↓Q.ra_cmp, ↓Q.ra_chain, ↓Q.ra_ix, ↓Q.ra_sl, ↓Q.ra_rev, ↓Q.ra_get2, ↓Q.r_get2, ↓Q.r_needT, ↓Q.ra_isi, ↓Q.ra_bi, ↓Q.ra_call, ↓Q.ra_calle, ↓Q.ra_pop, ↓Q.ra_alloc, ↓Q.ra_comp, ↓Q.ra_comp2, ↓Q.ra_me, ↓Q.ra_lrange, ↓Q.r_dic, ↓Q.r_needM, ↓Q.r_me, ↓Q.r_lrange, me_cl, me_js, me_ss, ↓Q.r_cst, ↓Q.r_glob, ↓Q.re_nil, ↓Q.re_cons, ↓Q.rsa_nil, ↓Q.rsa_cons, ↓Q.r_tup, ↓Q.r_lst, ↓Q.r_bin, ↓Q.r_cmp, ↓Q.r_ix, ↓Q.r_neg, ↓Q.r_isi, ↓Q.r_bi, ↓Q.r_not, ↓Q.r_and, ↓Q.r_or, ↓Q.r_ife, ↓Q.r_chain, ↓Q.r_none, ↓Q.rp_cst, ↓Q.rp_glob, ↓Q.rp_bin, ↓Q.rp_neg, ↓Q.rp_ife, ↓Q.rp_ix, ↓Q.rp_bi, ↓Q.rp_call, ↓Q.rp_var, ↓Q.r_sl, ↓Q.r_call, ↓Q.r_alloc, ↓Q.r_allocM, ↓Q.r_prim1, ↓Q.r_prim2, ↓Q.r_primN, ↓Q.rd_nil, ↓Q.rd_cons, ↓Q.rd_int, ↓Q.rd_bl, ↓Q.rd_str, ↓Q.rd_non, ↓Q.rd_tup, ↓Q.rd_lst, ↓Q.rd_scr, ↓Q.rd_dic, ↓Q.rd_cls, ↓Q.rd_fn, ↓Q.rd_s, ↓Q.rd_r, ↓Q.r_chN, refP_s, ↓Q.ri_seq, ↓Q.rq_tup, ↓Q.rq_lst, ↓Q.r_var, ↓Q.ra_var, ↓Q.r_ret, ↓Q.r_frz, ↓Q.r_asBl, ↓Q.r_asInt, ↓Q.r_liftS, ↓Q.ri_range, ↓Q.ri_range2, ↓Q.ri_zip, ↓Q.ri_enum, ↓Q.r_calle, ↓Q.rc_fn, ↓Q.en_lst, ↓Q.en_tup, ↓Q.rz_tup, ↓Q.rz_lst, ↓Q.rz_tl, ↓Q.rz_lt, ↓Q.ri_zip3, ↓Q.rz_ttt, ↓Q.rz_ttl, ↓Q.rz_lll, ↓Q.rx_expr, ↓Q.rx_set, ↓Q.rx_frz, ↓Q.rx_ret, ↓Q.rx_iff, ↓Q.rx_mat, ↓then_nx, ↓then_rt, ↓then_bk, ↓then_ct, ↓Q.rx_nil, ↓Q.rx_cons, ↓Q.rx_asg, ↓Q.rt_name, ↓Q.rt_tup, ↓Q.rt_lst, ↓Q.rt_nil, ↓Q.rt_cons, ↓Q.rx_setix, ↓Q.rx_app, ↓Q.rx_ext, ↓Q.r_pop, ↓Q.r_needL, ↓lstP_l, ↓obP_s, ↓Q.r_chS, ↓Q.rr_nil, ↓Q.rr_cons, ↓rh_v, ↓rh_l, ↓Q.rx_par, ↓Q.rx_pass, ↓Q.rx_for, ↓varP_v, ↓varP_n, bin_addI, bin_subI, cmp_lt, cmp_le, cmp_gt, cmp_ge, cmp_eqI, cmp_neI, cmp_eqB, cmp_eqS, cmp_neS, blR_s, bi_lenT, bi_lenL, bi_lenS, bi_tupT, bi_tupL, bi_lstT, bi_lstL, bi_max, bi_min, bi_intB, neg_i, isi_int, isi_tup, isi_lst, isi_dic, isi_str, isi_non, isi_bl, List.getElem?_cons_zero, List.getElem?_cons_succ, List.set_cons_zero, List.set_cons_succ, Option.map_some, R.flat, R.d, Ob.flat, Ob.d, true_and, and_true, eq_self, decide_eq_true_eq, reduceIte, Bool.true_and, Bool.false_and, Bool.and_false, Bool.and_true, Bool.false_eq_true, decide_true, decide_false, Bool.not_true, Bool.not_false, List.length_map, List.length_cons, List.length_nil, reduceCtorEq, and_self, true_or, or_true, or_false, false_or, or_self, ↓Q.rx_raise, Q.r_callX e1]
      simp [q]
  unfold Fn.run
  rw [if_pos (show [t, p].length = (F_law_told_2 gp ie ip).np from rfl)]
  cases body with
  | ok fl e' s' h1 h2 =>
    obtain ⟨rfl, rfl, q⟩ := h2
    have key : execs (orc T j) (F_law_told_2 gp ie ip).body [some (.val t), some (.val p), none] s' = .ok (.rt (.val (.bl (sgsD (tlen t) p)))) e' s' := by
      show bnd (tryM (orc T j).sub ie 2 _ (execs (orc T j) [.ret (.call gp [.var 0, .var 1])])) _ _ _ = _
      unfold bnd tryM
      rw [h1]
      rfl
    have he : (List.map (fun d => some (R.val d)) [t, p] ++ List.replicate ((F_law_told_2 gp ie ip).nl - (F_law_told_2 gp ie ip).np) none) = [some (.val t), some (.val p), none] := rfl
    rw [he, key, if_pos q]
  | exc k e' s' h1 h2 =>
    obtain ⟨rfl, rfl, q⟩ := h2
    have key : execs (orc T j) (F_law_told_2 gp k ip).body [some (.val t), some (.val p), none] s' = .ok (.rt (.val (.str (.ofString "refused")))) (e'.set 2 none) s' := by
      show bnd (tryM (orc T j).sub k 2 (.ife (.and .ve (.not (.isx ip))) (.str (.ofString "refused")) (.str (.ofString "odd"))) (execs (orc T j) [.ret (.call gp [.var 0, .var 1])])) _ _ _ = _
      unfold bnd tryM
      rw [h1]
      simp only [osub, hs.1, cev, cbv, hs.2, Option.map_some, Bool.not_false, Out.bind]
      rfl
    have he : (List.map (fun d => some (R.val d)) [t, p] ++ List.replicate ((F_law_told_2 gp k ip).nl - (F_law_told_2 gp k ip).np) none) = [some (.val t), some (.val p), none] := rfl
    rw [he, key, if_neg (by simp [q])]
end
end Mi
namespace Mi
open PySem
section
variable {T : Tb} {d g : Nat}
theorem c_law_k02 {x_pen x_cell x_table x_draw x_signs x_bent x_is x_are x_same x_told : Nat} (hpe : Lw T d x_pen PenC) (hce : Lw T d x_cell CellC) (htb : Lw T d x_table TabC) (hdr : Lw T d x_draw DrawC) (hsg : Lw T d x_signs SignsC) (hbe : Lw T d x_bent BentC) (his : Lw T d x_is IsTableC) (har : Lw T d x_are AreSignsC) (hsm : Lw T d x_same SameC) (hto : Lw T d x_told ToldC)
    (h : IsF T g (F_law_k02 x_pen x_cell x_table x_draw x_signs x_bent x_is x_are x_same x_told)) : Lw T (d + 1) g LawC := Lw.of h fun j hj => by
  have tb := htb.at hj
  have dr := hdr.at hj
  have sn := hsg.at hj
  have be := hbe.at hj
  have is := his.at hj
  have ar := har.at hj
  have sm := hsm.at hj
  have to := hto.at hj
  refine law_skel (P := 2) (x_pen := x_pen) (x_cell := x_cell) rfl rfl (by show 2 ≤ 7; omega) (hce.at hj) (hpe.at hj) (fun ns e => ∃ a1 a2 a3 a4 a5 a6, e = [some (.val (.scr ns)), a1, a2, a3, a4, a5, a6]) (fun ns => ⟨_, _, _, _, _, _, rfl⟩) ?_ ?_
  · rintro ns e ⟨a1, a2, a3, a4, a5, a6, rfl⟩
    exact ⟨rfl, rfl⟩
  · rintro ns e s i n0 ⟨a1, a2, a3, a4, a5, a6, rfl⟩ p0
    simp only [List.set_cons_zero, List.set_cons_succ]
    simp -dsimp only [wipe_n, wipe_c, ↓ra_nop, ↓ra_cst, ↓ra_glob, ↓ra_tup, ↓ra_lst, ↓ra_dic, ↓ra_bin, ↓ra_neg, ↓ra_not, ↓ra_and, ↓ra_or, ↓ra_ife, ↓ra_cmp, ↓ra_chain, ↓ra_ix, ↓ra_sl, ↓ra_rev, ↓ra_get2, ↓r_get2, ↓r_needT, ↓ra_isi, ↓ra_bi, ↓ra_call, ↓ra_calle, ↓ra_pop, ↓ra_alloc, ↓ra_comp, ↓ra_comp2, ↓ra_me, ↓ra_lrange, ↓r_dic, ↓r_needM, ↓r_me, ↓r_lrange, me_cl, me_js, me_ss, ↓r_cst, ↓r_glob, ↓re_nil, ↓re_cons, ↓rsa_nil, ↓rsa_cons, ↓r_tup, ↓r_lst, ↓r_bin, ↓r_cmp, ↓r_ix, ↓r_neg, ↓r_isi, ↓r_bi, ↓r_not, ↓r_and, ↓r_or, ↓r_ife, ↓r_chain, ↓r_none, ↓rp_cst, ↓rp_glob, ↓rp_bin, ↓rp_neg, ↓rp_ife, ↓rp_ix, ↓rp_bi, ↓rp_call, ↓rp_var, ↓r_sl, ↓r_call, ↓r_alloc, ↓r_allocM, ↓r_prim1, ↓r_prim2, ↓r_primN, ↓rd_nil, ↓rd_cons, ↓rd_int, ↓rd_bl, ↓rd_str, ↓rd_non, ↓rd_tup, ↓rd_lst, ↓rd_scr, ↓rd_dic, ↓rd_cls, ↓rd_fn, ↓rd_s, ↓rd_r, ↓r_chN, refP_s, ↓ri_seq, ↓rq_tup, ↓rq_lst, ↓r_var, ↓ra_var, ↓r_ret, ↓r_frz, ↓r_asBl, ↓r_asInt, ↓r_liftS, ↓ri_range, ↓ri_range2, ↓ri_zip, ↓ri_enum, ↓r_calle, ↓rc_fn, ↓en_lst, ↓en_tup, ↓rz_tup, ↓rz_lst, ↓rz_tl, ↓rz_lt, ↓ri_zip3, ↓rz_ttt, ↓rz_ttl, ↓rz_lll, ↓rx_expr, ↓rx_set, ↓rx_frz, ↓rx_ret, ↓rx_iff, ↓rx_mat, ↓then_nx, ↓then_rt, ↓then_bk, ↓then_ct, ↓rx_nil, ↓rx_cons, ↓rx_asg, ↓rt_name, ↓rt_tup, ↓rt_lst, ↓rt_nil, ↓rt_cons, ↓rx_setix, ↓rx_app, ↓rx_ext, ↓r_pop, ↓r_needL, ↓lstP_l, ↓obP_s, ↓r_chS, ↓rr_nil, ↓rr_cons, ↓rh_v, ↓rh_l, ↓rx_par, ↓rx_pass, ↓rx_for, ↓varP_v, ↓varP_n, bin_addI, bin_subI, cmp_lt, cmp_le, cmp_gt, cmp_ge, cmp_eqI, cmp_neI, cmp_eqB, cmp_eqS, cmp_neS, blR_s, bi_lenT, bi_lenL, bi_lenS, bi_tupT, bi_tupL, bi_lstT, bi_lstL, bi_max, bi_min, bi_intB, neg_i, isi_int, isi_tup, isi_lst, isi_dic, isi_str, isi_non, isi_bl, List.getElem?_cons_zero, List.getElem?_cons_succ, List.set_cons_zero, List.set_cons_succ, Option.map_some, R.flat, R.d, Ob.flat, Ob.d, true_and, and_true, eq_self, decide_eq_true_eq, reduceIte, Bool.true_and, Bool.false_and, Bool.and_false, Bool.and_true, Bool.false_eq_true, decide_true, decide_false, Bool.not_true, Bool.not_false, List.length_map, List.length_cons, List.length_nil, reduceCtorEq, and_self, true_or, or_true, or_false, false_or, or_self]
    refine ⟨by decide, ?_⟩
    refine wp_forM (O := orc T j) (γ := Nat) (fun pre e s' => ∃ a1 a3 a4 a5 a6, e = [some (.val (.scr ns)), a1, some (.val (.ref n0)), a3, a4, a5, a6] ∧ PenAt s' n0) ⟨_, _, _, _, _, rfl, p0⟩ ?_ ?_
    · rintro pre lap post e2 s2 hm ⟨a1, a3, a4, a5, a6, rfl, p2⟩
      obtain ⟨u, s3, e3, ⟨u0, u1⟩, p3⟩ := dr.gives p2 (m := 5) (by omega) (by omega)
      obtain ⟨k, rfl⟩ : ∃ k : Nat, u = k := ⟨u.toNat, by omega⟩
      obtain ⟨t, s4, e4, ht, p4⟩ := tb s3 n0 (1 + k) p3.1 (by omega) (by omega)
      have ek : (1 : Int) + k = ((1 + k : Nat) : Int) := by omega
      obtain ⟨r, s5, e5, hr, p5⟩ := sn s4 n0 (1 + k) 1 p4.1 (by omega)
      have m1 : binD .Mod (.int lap) (.int 2) = some (.val (.int (((lap % 2 : Nat) : Int)))) := by
        rw [bin_modI (by decide), Int.fmod_eq_emod_of_nonneg _ (by decide)]; congr 3
      have m2 : binD .Mod (.int lap) (.int 5) = some (.val (.int (((lap % 5 : Nat) : Int)))) := by
        rw [bin_modI (by decide), Int.fmod_eq_emod_of_nonneg _ (by decide)]; congr 3
      have lt_ := ht.1
      rw [r_bnd, rt_name]
      refine wp_at (fun e s' => ∃ tv rv a6, e = [some (.val (.scr ns)), a1, some (.val (.ref n0)), some (.val (.int lap)), some (.val tv), some (.val rv), a6] ∧ Od 5 1000000000001 8 tv ∧ Od 4 1000000000001 8 rv ∧ PenAt s' n0) 6 ?_ ?_
      · simp only [List.take_succ_cons, List.take_zero]
        have ot := Od.tab (n := 0) (B := 1000000000000) (L := 7) ht (by omega) (by omega)
        have orr := Od.row (n := 0) (B := 1000000000000) (L := 7) hr (by omega) (by omega)
        obtain ⟨d1, s6, e6, ⟨h6, _⟩, p6⟩ := be 1 (by omega) s5 n0 _ _ _ _ p5.1 orr (by omega) (by omega) (by omega) (by omega)
        have e6' : (orc T j).call x_bent [.ref n0, rI r, .int 1] s5 = .ok (.val d1) s6 := e6
        obtain ⟨d2, s7, e7, ⟨h7, _⟩, p7⟩ := be 2 (by omega) s6 n0 _ _ _ _ p6.1 ot (by omega) (by omega) (by omega) (by omega)
        have e7' : (orc T j).call x_bent [.ref n0, tI t, .int 2] s6 = .ok (.val d2) s7 := e7
        obtain ⟨d3, s8, e8, ⟨h8, _⟩, p8⟩ := be 2 (by omega) s5 n0 _ _ _ _ p5.1 ot (by omega) (by omega) (by omega) (by omega)
        have e8' : (orc T j).call x_bent [.ref n0, tI t, .int 2] s5 = .ok (.val d3) s8 := e8
        have ot' := ot.mono (n' := 5) (B' := 1000000000001) (L' := 8) (by omega) (by omega) (by omega)
        have orr' := orr.mono (n' := 4) (B' := 1000000000001) (L' := 8) (by omega) (by omega) (by omega)
        have rt : ∀ {e : Ev} {s : Sto} {P : D → Ev → Sto → Prop}, WP (deref (.v (tI t))) e s P = P (.tup (t.map rI)) e s := rd_vl (ht.vl (by omega))
        by_cases q1 : ((lap % 2 : Nat) : Int) = 1
        · by_cases q2 : ((lap % 5 : Nat) : Int) = 4
          · simp -dsimp only [wipe_n, wipe_c, ↓ra_nop, ↓ra_cst, ↓ra_glob, ↓ra_tup, ↓ra_lst, ↓ra_dic, ↓ra_bin, ↓ra_neg, ↓ra_not, ↓ra_and, ↓ra_or, ↓ra_ife, ↓ra_cmp, ↓ra_chain, ↓ra_ix, ↓ra_sl, ↓ra_rev, ↓ra_get2, ↓r_get2, ↓r_needT, ↓ra_isi, ↓ra_bi, ↓ra_call, ↓ra_calle, ↓ra_pop, ↓ra_alloc, ↓ra_comp, ↓ra_comp2, ↓ra_me, ↓ra_lrange, ↓r_dic, ↓r_needM, ↓r_me, ↓r_lrange, me_cl, me_js, me_ss, ↓r_cst, ↓r_glob, ↓re_nil, ↓re_cons, ↓rsa_nil, ↓rsa_cons, ↓r_tup, ↓r_lst, ↓r_bin, ↓r_cmp, ↓r_ix, ↓r_neg, ↓r_isi, ↓r_bi, ↓r_not, ↓r_and, ↓r_or, ↓r_ife, ↓r_chain, ↓r_none, ↓rp_cst, ↓rp_glob, ↓rp_bin, ↓rp_neg, ↓rp_ife, ↓rp_ix, ↓rp_bi, ↓rp_call, ↓rp_var, ↓r_sl, ↓r_call, ↓r_alloc, ↓r_allocM, ↓r_prim1, ↓r_prim2, ↓r_primN, ↓rd_nil, ↓rd_cons, ↓rd_int, ↓rd_bl, ↓rd_str, ↓rd_non, ↓rd_tup, ↓rd_lst, ↓rd_scr, ↓rd_dic, ↓rd_cls, ↓rd_fn, ↓rd_s, ↓rd_r, ↓r_chN, refP_s, ↓ri_seq, ↓rq_tup, ↓rq_lst, ↓r_var, ↓ra_var, ↓r_ret, ↓r_frz, ↓r_asBl, ↓r_asInt, ↓r_liftS, ↓ri_range, ↓ri_range2, ↓ri_zip, ↓ri_enum, ↓r_calle, ↓rc_fn, ↓en_lst, ↓en_tup, ↓rz_tup, ↓rz_lst, ↓rz_tl, ↓rz_lt, ↓ri_zip3, ↓rz_ttt, ↓rz_ttl, ↓rz_lll, ↓rx_expr, ↓rx_set, ↓rx_frz, ↓rx_ret, ↓rx_iff, ↓rx_mat, ↓then_nx, ↓then_rt, ↓then_bk, ↓then_ct, ↓rx_nil, ↓rx_cons, ↓rx_asg, ↓rt_name, ↓rt_tup, ↓rt_lst, ↓rt_nil, ↓rt_cons, ↓rx_setix, ↓rx_app, ↓rx_ext, ↓r_pop, ↓r_needL, ↓lstP_l, ↓obP_s, ↓r_chS, ↓rr_nil, ↓rr_cons, ↓rh_v, ↓rh_l, ↓rx_par, ↓rx_pass, ↓rx_for, ↓varP_v, ↓varP_n, bin_addI, bin_subI, cmp_lt, cmp_le, cmp_gt, cmp_ge, cmp_eqI, cmp_neI, cmp_eqB, cmp_eqS, cmp_neS, blR_s, bi_lenT, bi_lenL, bi_lenS, bi_tupT, bi_tupL, bi_lstT, bi_lstL, bi_max, bi_min, bi_intB, neg_i, isi_int, isi_tup, isi_lst, isi_dic, isi_str, isi_non, isi_bl, List.getElem?_cons_zero, List.getElem?_cons_succ, List.set_cons_zero, List.set_cons_succ, Option.map_some, R.flat, R.d, Ob.flat, Ob.d, true_and, and_true, eq_self, decide_eq_true_eq, reduceIte, Bool.true_and, Bool.false_and, Bool.and_false, Bool.and_true, Bool.false_eq_true, decide_true, decide_false, Bool.not_true, Bool.not_false, List.length_map, List.length_cons, List.length_nil, reduceCtorEq, and_self, true_or, or_true, or_false, false_or, or_self, r_bnd, r_callM e3, ek, r_callM e4, rt, lt_, r_callM e5, m1, m2, q1, q2, r_callM e6', r_callM e7']
            exact ⟨_, _, a6, rfl, h7, h6, p7.1⟩
          · simp -dsimp only [wipe_n, wipe_c, ↓ra_nop, ↓ra_cst, ↓ra_glob, ↓ra_tup, ↓ra_lst, ↓ra_dic, ↓ra_bin, ↓ra_neg, ↓ra_not, ↓ra_and, ↓ra_or, ↓ra_ife, ↓ra_cmp, ↓ra_chain, ↓ra_ix, ↓ra_sl, ↓ra_rev, ↓ra_get2, ↓r_get2, ↓r_needT, ↓ra_isi, ↓ra_bi, ↓ra_call, ↓ra_calle, ↓ra_pop, ↓ra_alloc, ↓ra_comp, ↓ra_comp2, ↓ra_me, ↓ra_lrange, ↓r_dic, ↓r_needM, ↓r_me, ↓r_lrange, me_cl, me_js, me_ss, ↓r_cst, ↓r_glob, ↓re_nil, ↓re_cons, ↓rsa_nil, ↓rsa_cons, ↓r_tup, ↓r_lst, ↓r_bin, ↓r_cmp, ↓r_ix, ↓r_neg, ↓r_isi, ↓r_bi, ↓r_not, ↓r_and, ↓r_or, ↓r_ife, ↓r_chain, ↓r_none, ↓rp_cst, ↓rp_glob, ↓rp_bin, ↓rp_neg, ↓rp_ife, ↓rp_ix, ↓rp_bi, ↓rp_call, ↓rp_var, ↓r_sl, ↓r_call, ↓r_alloc, ↓r_allocM, ↓r_prim1, ↓r_prim2, ↓r_primN, ↓rd_nil, ↓rd_cons, ↓rd_int, ↓rd_bl, ↓rd_str, ↓rd_non, ↓rd_tup, ↓rd_lst, ↓rd_scr, ↓rd_dic, ↓rd_cls, ↓rd_fn, ↓rd_s, ↓rd_r, ↓r_chN, refP_s, ↓ri_seq, ↓rq_tup, ↓rq_lst, ↓r_var, ↓ra_var, ↓r_ret, ↓r_frz, ↓r_asBl, ↓r_asInt, ↓r_liftS, ↓ri_range, ↓ri_range2, ↓ri_zip, ↓ri_enum, ↓r_calle, ↓rc_fn, ↓en_lst, ↓en_tup, ↓rz_tup, ↓rz_lst, ↓rz_tl, ↓rz_lt, ↓ri_zip3, ↓rz_ttt, ↓rz_ttl, ↓rz_lll, ↓rx_expr, ↓rx_set, ↓rx_frz, ↓rx_ret, ↓rx_iff, ↓rx_mat, ↓then_nx, ↓then_rt, ↓then_bk, ↓then_ct, ↓rx_nil, ↓rx_cons, ↓rx_asg, ↓rt_name, ↓rt_tup, ↓rt_lst, ↓rt_nil, ↓rt_cons, ↓rx_setix, ↓rx_app, ↓rx_ext, ↓r_pop, ↓r_needL, ↓lstP_l, ↓obP_s, ↓r_chS, ↓rr_nil, ↓rr_cons, ↓rh_v, ↓rh_l, ↓rx_par, ↓rx_pass, ↓rx_for, ↓varP_v, ↓varP_n, bin_addI, bin_subI, cmp_lt, cmp_le, cmp_gt, cmp_ge, cmp_eqI, cmp_neI, cmp_eqB, cmp_eqS, cmp_neS, blR_s, bi_lenT, bi_lenL, bi_lenS, bi_tupT, bi_tupL, bi_lstT, bi_lstL, bi_max, bi_min, bi_intB, neg_i, isi_int, isi_tup, isi_lst, isi_dic, isi_str, isi_non, isi_bl, List.getElem?_cons_zero, List.getElem?_cons_succ, List.set_cons_zero, List.set_cons_succ, Option.map_some, R.flat, R.d, Ob.flat, Ob.d, true_and, and_true, eq_self, decide_eq_true_eq, reduceIte, Bool.true_and, Bool.false_and, Bool.and_false, Bool.and_true, Bool.false_eq_true, decide_true, decide_false, Bool.not_true, Bool.not_false, List.length_map, List.length_cons, List.length_nil, reduceCtorEq, and_self, true_or, or_true, or_false, false_or, or_self, r_bnd, r_callM e3, ek, r_callM e4, rt, lt_, r_callM e5, m1, m2, q1, q2, r_callM e6']
            exact ⟨_, _, a6, rfl, ot', h6, p6.1⟩
        · by_cases q2 : ((lap % 5 : Nat) : Int) = 4
          · simp -dsimp only [wipe_n, wipe_c, ↓ra_nop, ↓ra_cst, ↓ra_glob, ↓ra_tup, ↓ra_lst, ↓ra_dic, ↓ra_bin, ↓ra_neg, ↓ra_not, ↓ra_and, ↓ra_or, ↓ra_ife, ↓ra_cmp, ↓ra_chain, ↓ra_ix, ↓ra_sl, ↓ra_rev, ↓ra_get2, ↓r_get2, ↓r_needT, ↓ra_isi, ↓ra_bi, ↓ra_call, ↓ra_calle, ↓ra_pop, ↓ra_alloc, ↓ra_comp, ↓ra_comp2, ↓ra_me, ↓ra_lrange, ↓r_dic, ↓r_needM, ↓r_me, ↓r_lrange, me_cl, me_js, me_ss, ↓r_cst, ↓r_glob, ↓re_nil, ↓re_cons, ↓rsa_nil, ↓rsa_cons, ↓r_tup, ↓r_lst, ↓r_bin, ↓r_cmp, ↓r_ix, ↓r_neg, ↓r_isi, ↓r_bi, ↓r_not, ↓r_and, ↓r_or, ↓r_ife, ↓r_chain, ↓r_none, ↓rp_cst, ↓rp_glob, ↓rp_bin, ↓rp_neg, ↓rp_ife, ↓rp_ix, ↓rp_bi, ↓rp_call, ↓rp_var, ↓r_sl, ↓r_call, ↓r_alloc, ↓r_allocM, ↓r_prim1, ↓r_prim2, ↓r_primN, ↓rd_nil, ↓rd_cons, ↓rd_int, ↓rd_bl, ↓rd_str, ↓rd_non, ↓rd_tup, ↓rd_lst, ↓rd_scr, ↓rd_dic, ↓rd_cls, ↓rd_fn, ↓rd_s, ↓rd_r, ↓r_chN, refP_s, ↓ri_seq, ↓rq_tup, ↓rq_lst, ↓r_var, ↓ra_var, ↓r_ret, ↓r_frz, ↓r_asBl, ↓r_asInt, ↓r_liftS, ↓ri_range, ↓ri_range2, ↓ri_zip, ↓ri_enum, ↓r_calle, ↓rc_fn, ↓en_lst, ↓en_tup, ↓rz_tup, ↓rz_lst, ↓rz_tl, ↓rz_lt, ↓ri_zip3, ↓rz_ttt, ↓rz_ttl, ↓rz_lll, ↓rx_expr, ↓rx_set, ↓rx_frz, ↓rx_ret, ↓rx_iff, ↓rx_mat, ↓then_nx, ↓then_rt, ↓then_bk, ↓then_ct, ↓rx_nil, ↓rx_cons, ↓rx_asg, ↓rt_name, ↓rt_tup, ↓rt_lst, ↓rt_nil, ↓rt_cons, ↓rx_setix, ↓rx_app, ↓rx_ext, ↓r_pop, ↓r_needL, ↓lstP_l, ↓obP_s, ↓r_chS, ↓rr_nil, ↓rr_cons, ↓rh_v, ↓rh_l, ↓rx_par, ↓rx_pass, ↓rx_for, ↓varP_v, ↓varP_n, bin_addI, bin_subI, cmp_lt, cmp_le, cmp_gt, cmp_ge, cmp_eqI, cmp_neI, cmp_eqB, cmp_eqS, cmp_neS, blR_s, bi_lenT, bi_lenL, bi_lenS, bi_tupT, bi_tupL, bi_lstT, bi_lstL, bi_max, bi_min, bi_intB, neg_i, isi_int, isi_tup, isi_lst, isi_dic, isi_str, isi_non, isi_bl, List.getElem?_cons_zero, List.getElem?_cons_succ, List.set_cons_zero, List.set_cons_succ, Option.map_some, R.flat, R.d, Ob.flat, Ob.d, true_and, and_true, eq_self, decide_eq_true_eq, reduceIte, Bool.true_and, Bool.false_and, Bool.and_false, Bool.and_true, Bool.false_eq_true, decide_true, decide_false, Bool.not_true, Bool.not_false, List.length_map, List.length_cons, List.length_nil, reduceCtorEq, and_self, true_or, or_true, or_false, false_or, or_self, r_bnd, r_callM e3, ek, r_callM e4, rt, lt_, r_callM e5, m1, m2, q1, q2, r_callM e8']
            exact ⟨_, _, a6, rfl, h8, orr', p8.1⟩
          · simp -dsimp only [wipe_n, wipe_c, ↓ra_nop, ↓ra_cst, ↓ra_glob, ↓ra_tup, ↓ra_lst, ↓ra_dic, ↓ra_bin, ↓ra_neg, ↓ra_not, ↓ra_and, ↓ra_or, ↓ra_ife, ↓ra_cmp, ↓ra_chain, ↓ra_ix, ↓ra_sl, ↓ra_rev, ↓ra_get2, ↓r_get2, ↓r_needT, ↓ra_isi, ↓ra_bi, ↓ra_call, ↓ra_calle, ↓ra_pop, ↓ra_alloc, ↓ra_comp, ↓ra_comp2, ↓ra_me, ↓ra_lrange, ↓r_dic, ↓r_needM, ↓r_me, ↓r_lrange, me_cl, me_js, me_ss, ↓r_cst, ↓r_glob, ↓re_nil, ↓re_cons, ↓rsa_nil, ↓rsa_cons, ↓r_tup, ↓r_lst, ↓r_bin, ↓r_cmp, ↓r_ix, ↓r_neg, ↓r_isi, ↓r_bi, ↓r_not, ↓r_and, ↓r_or, ↓r_ife, ↓r_chain, ↓r_none, ↓rp_cst, ↓rp_glob, ↓rp_bin, ↓rp_neg, ↓rp_ife, ↓rp_ix, ↓rp_bi, ↓rp_call, ↓rp_var, ↓r_sl, ↓r_call, ↓r_alloc, ↓r_allocM, ↓r_prim1, ↓r_prim2, ↓r_primN, ↓rd_nil, ↓rd_cons, ↓rd_int, ↓rd_bl, ↓rd_str, ↓rd_non, ↓rd_tup, ↓rd_lst, ↓rd_scr, ↓rd_dic, ↓rd_cls, ↓rd_fn, ↓rd_s, ↓rd_r, ↓r_chN, refP_s, ↓ri_seq, ↓rq_tup, ↓rq_lst, ↓r_var, ↓ra_var, ↓r_ret, ↓r_frz, ↓r_asBl, ↓r_asInt, ↓r_liftS, ↓ri_range, ↓ri_range2, ↓ri_zip, ↓ri_enum, ↓r_calle, ↓rc_fn, ↓en_lst, ↓en_tup, ↓rz_tup, ↓rz_lst, ↓rz_tl, ↓rz_lt, ↓ri_zip3, ↓rz_ttt, ↓rz_ttl, ↓rz_lll, ↓rx_expr, ↓rx_set, ↓rx_frz, ↓rx_ret, ↓rx_iff, ↓rx_mat, ↓then_nx, ↓then_rt, ↓then_bk, ↓then_ct, ↓rx_nil, ↓rx_cons, ↓rx_asg, ↓rt_name, ↓rt_tup, ↓rt_lst, ↓rt_nil, ↓rt_cons, ↓rx_setix, ↓rx_app, ↓rx_ext, ↓r_pop, ↓r_needL, ↓lstP_l, ↓obP_s, ↓r_chS, ↓rr_nil, ↓rr_cons, ↓rh_v, ↓rh_l, ↓rx_par, ↓rx_pass, ↓rx_for, ↓varP_v, ↓varP_n, bin_addI, bin_subI, cmp_lt, cmp_le, cmp_gt, cmp_ge, cmp_eqI, cmp_neI, cmp_eqB, cmp_eqS, cmp_neS, blR_s, bi_lenT, bi_lenL, bi_lenS, bi_tupT, bi_tupL, bi_lstT, bi_lstL, bi_max, bi_min, bi_intB, neg_i, isi_int, isi_tup, isi_lst, isi_dic, isi_str, isi_non, isi_bl, List.getElem?_cons_zero, List.getElem?_cons_succ, List.set_cons_zero, List.set_cons_succ, Option.map_some, R.flat, R.d, Ob.flat, Ob.d, true_and, and_true, eq_self, decide_eq_true_eq, reduceIte, Bool.true_and, Bool.false_and, Bool.and_false, Bool.and_true, Bool.false_eq_true, decide_true, decide_false, Bool.not_true, Bool.not_false, List.length_map, List.length_cons, List.length_nil, reduceCtorEq, and_self, true_or, or_true, or_false, false_or, or_self, r_bnd, r_callM e3, ek, r_callM e4, rt, lt_, r_callM e5, m1, m2, q1, q2]
            exact ⟨_, _, a6, rfl, ot', orr', p5.1⟩
      · rintro e6 s6 ⟨tv, rv, a6, rfl, h1, h2, p6⟩
        simp only [List.drop_succ_cons, List.drop_zero]
        have v1 := h1.vl (by show 8 ≤ 16777216; omega)
        have v2 := h2.vl (by show 8 ≤ 16777216; omega)
        have e7 := is tv s6 v1
        have e8 := to tv rv s6 v1 v2
        cases q : tabD tv with
        | true =>
          rw [q] at e7
          rw [if_pos q] at e8
          obtain ⟨ds, rfl, _⟩ := tabD_tup q
          have e9 := ar rv ds.length s6 v2
          simp only [tlen] at e8
          have e10 := sm 0 5 _ _ s6 (Wd.bl (b := sgsD ds.length rv) (Nat.le_refl _)) (by omega) (by omega) rfl (fun m => D.noConfusion)
          simp -dsimp only [wipe_n, wipe_c, ↓ra_nop, ↓ra_cst, ↓ra_glob, ↓ra_tup, ↓ra_lst, ↓ra_dic, ↓ra_bin, ↓ra_neg, ↓ra_not, ↓ra_and, ↓ra_or, ↓ra_ife, ↓ra_cmp, ↓ra_chain, ↓ra_ix, ↓ra_sl, ↓ra_rev, ↓ra_get2, ↓r_get2, ↓r_needT, ↓ra_isi, ↓ra_bi, ↓ra_call, ↓ra_calle, ↓ra_pop, ↓ra_alloc, ↓ra_comp, ↓ra_comp2, ↓ra_me, ↓ra_lrange, ↓r_dic, ↓r_needM, ↓r_me, ↓r_lrange, me_cl, me_js, me_ss, ↓r_cst, ↓r_glob, ↓re_nil, ↓re_cons, ↓rsa_nil, ↓rsa_cons, ↓r_tup, ↓r_lst, ↓r_bin, ↓r_cmp, ↓r_ix, ↓r_neg, ↓r_isi, ↓r_bi, ↓r_not, ↓r_and, ↓r_or, ↓r_ife, ↓r_chain, ↓r_none, ↓rp_cst, ↓rp_glob, ↓rp_bin, ↓rp_neg, ↓rp_ife, ↓rp_ix, ↓rp_bi, ↓rp_call, ↓rp_var, ↓r_sl, ↓r_call, ↓r_alloc, ↓r_allocM, ↓r_prim1, ↓r_prim2, ↓r_primN, ↓rd_nil, ↓rd_cons, ↓rd_int, ↓rd_bl, ↓rd_str, ↓rd_non, ↓rd_tup, ↓rd_lst, ↓rd_scr, ↓rd_dic, ↓rd_cls, ↓rd_fn, ↓rd_s, ↓rd_r, ↓r_chN, refP_s, ↓ri_seq, ↓rq_tup, ↓rq_lst, ↓r_var, ↓ra_var, ↓r_ret, ↓r_frz, ↓r_asBl, ↓r_asInt, ↓r_liftS, ↓ri_range, ↓ri_range2, ↓ri_zip, ↓ri_enum, ↓r_calle, ↓rc_fn, ↓en_lst, ↓en_tup, ↓rz_tup, ↓rz_lst, ↓rz_tl, ↓rz_lt, ↓ri_zip3, ↓rz_ttt, ↓rz_ttl, ↓rz_lll, ↓rx_expr, ↓rx_set, ↓rx_frz, ↓rx_ret, ↓rx_iff, ↓rx_mat, ↓then_nx, ↓then_rt, ↓then_bk, ↓then_ct, ↓rx_nil, ↓rx_cons, ↓rx_asg, ↓rt_name, ↓rt_tup, ↓rt_lst, ↓rt_nil, ↓rt_cons, ↓rx_setix, ↓rx_app, ↓rx_ext, ↓r_pop, ↓r_needL, ↓lstP_l, ↓obP_s, ↓r_chS, ↓rr_nil, ↓rr_cons, ↓rh_v, ↓rh_l, ↓rx_par, ↓rx_pass, ↓rx_for, ↓varP_v, ↓varP_n, bin_addI, bin_subI, cmp_lt, cmp_le, cmp_gt, cmp_ge, cmp_eqI, cmp_neI, cmp_eqB, cmp_eqS, cmp_neS, blR_s, bi_lenT, bi_lenL, bi_lenS, bi_tupT, bi_tupL, bi_lstT, bi_lstL, bi_max, bi_min, bi_intB, neg_i, isi_int, isi_tup, isi_lst, isi_dic, isi_str, isi_non, isi_bl, List.getElem?_cons_zero, List.getElem?_cons_succ, List.set_cons_zero, List.set_cons_succ, Option.map_some, R.flat, R.d, Ob.flat, Ob.d, true_and, and_true, eq_self, decide_eq_true_eq, reduceIte, Bool.true_and, Bool.false_and, Bool.and_false, Bool.and_true, Bool.false_eq_true, decide_true, decide_false, Bool.not_true, Bool.not_false, List.length_map, List.length_cons, List.length_nil, reduceCtorEq, and_self, true_or, or_true, or_false, false_or, or_self, r_callM e7, r_callM e9, r_callM e8, r_callM e10]
          exact ⟨_, _, _, _, _, rfl, p6⟩
        | false =>
          rw [q] at e7
          rw [if_neg (by simp [q])] at e8
          have w : Wd 0 10 (.str (.ofString "refused")) := ⟨rfl, by decide +kernel, Nat.le_refl _, by decide +kernel⟩
          have e10 := sm 0 10 _ _ s6 w (by omega) (by omega) rfl (fun m => D.noConfusion)
          simp -dsimp only [wipe_n, wipe_c, ↓ra_nop, ↓ra_cst, ↓ra_glob, ↓ra_tup, ↓ra_lst, ↓ra_dic, ↓ra_bin, ↓ra_neg, ↓ra_not, ↓ra_and, ↓ra_or, ↓ra_ife, ↓ra_cmp, ↓ra_chain, ↓ra_ix, ↓ra_sl, ↓ra_rev, ↓ra_get2, ↓r_get2, ↓r_needT, ↓ra_isi, ↓ra_bi, ↓ra_call, ↓ra_calle, ↓ra_pop, ↓ra_alloc, ↓ra_comp, ↓ra_comp2, ↓ra_me, ↓ra_lrange, ↓r_dic, ↓r_needM, ↓r_me, ↓r_lrange, me_cl, me_js, me_ss, ↓r_cst, ↓r_glob, ↓re_nil, ↓re_cons, ↓rsa_nil, ↓rsa_cons, ↓r_tup, ↓r_lst, ↓r_bin, ↓r_cmp, ↓r_ix, ↓r_neg, ↓r_isi, ↓r_bi, ↓r_not, ↓r_and, ↓r_or, ↓r_ife, ↓r_chain, ↓r_none, ↓rp_cst, ↓rp_glob, ↓rp_bin, ↓rp_neg, ↓rp_ife, ↓rp_ix, ↓rp_bi, ↓rp_call, ↓rp_var, ↓r_sl, ↓r_call, ↓r_alloc, ↓r_allocM, ↓r_prim1, ↓r_prim2, ↓r_primN, ↓rd_nil, ↓rd_cons, ↓rd_int, ↓rd_bl, ↓rd_str, ↓rd_non, ↓rd_tup, ↓rd_lst, ↓rd_scr, ↓rd_dic, ↓rd_cls, ↓rd_fn, ↓rd_s, ↓rd_r, ↓r_chN, refP_s, ↓ri_seq, ↓rq_tup, ↓rq_lst, ↓r_var, ↓ra_var, ↓r_ret, ↓r_frz, ↓r_asBl, ↓r_asInt, ↓r_liftS, ↓ri_range, ↓ri_range2, ↓ri_zip, ↓ri_enum, ↓r_calle, ↓rc_fn, ↓en_lst, ↓en_tup, ↓rz_tup, ↓rz_lst, ↓rz_tl, ↓rz_lt, ↓ri_zip3, ↓rz_ttt, ↓rz_ttl, ↓rz_lll, ↓rx_expr, ↓rx_set, ↓rx_frz, ↓rx_ret, ↓rx_iff, ↓rx_mat, ↓then_nx, ↓then_rt, ↓then_bk, ↓then_ct, ↓rx_nil, ↓rx_cons, ↓rx_asg, ↓rt_name, ↓rt_tup, ↓rt_lst, ↓rt_nil, ↓rt_cons, ↓rx_setix, ↓rx_app, ↓rx_ext, ↓r_pop, ↓r_needL, ↓lstP_l, ↓obP_s, ↓r_chS, ↓rr_nil, ↓rr_cons, ↓rh_v, ↓rh_l, ↓rx_par, ↓rx_pass, ↓rx_for, ↓varP_v, ↓varP_n, bin_addI, bin_subI, cmp_lt, cmp_le, cmp_gt, cmp_ge, cmp_eqI, cmp_neI, cmp_eqB, cmp_eqS, cmp_neS, blR_s, bi_lenT, bi_lenL, bi_lenS, bi_tupT, bi_tupL, bi_lstT, bi_lstL, bi_max, bi_min, bi_intB, neg_i, isi_int, isi_tup, isi_lst, isi_dic, isi_str, isi_non, isi_bl, List.getElem?_cons_zero, List.getElem?_cons_succ, List.set_cons_zero, List.set_cons_succ, Option.map_some, R.flat, R.d, Ob.flat, Ob.d, true_and, and_true, eq_self, decide_eq_true_eq, reduceIte, Bool.true_and, Bool.false_and, Bool.and_false, Bool.and_true, Bool.false_eq_true, decide_true, decide_false, Bool.not_true, Bool.not_false, List.length_map, List.length_cons, List.length_nil, reduceCtorEq, and_self, true_or, or_true, or_false, false_or, or_self, r_callM e7, r_callM e8, r_callM e10]
          exact ⟨_, _, _, _, _, rfl, p6⟩
    · rintro e2 s2 ⟨a1, a3, a4, a5, a6, rfl, p2⟩
      simp -dsimp only [wipe_n, wipe_c, ↓ra_nop, ↓ra_cst, ↓ra_glob, ↓ra_tup, ↓ra_lst, ↓ra_dic, ↓ra_bin, ↓ra_neg, ↓ra_not, ↓ra_and, ↓ra_or, ↓ra_ife, ↓ra_cmp, ↓ra_chain, ↓ra_ix, ↓ra_sl, ↓ra_rev, ↓ra_get2, ↓r_get2, ↓r_needT, ↓ra_isi, ↓ra_bi, ↓ra_call, ↓ra_calle, ↓ra_pop, ↓ra_alloc, ↓ra_comp, ↓ra_comp2, ↓ra_me, ↓ra_lrange, ↓r_dic, ↓r_needM, ↓r_me, ↓r_lrange, me_cl, me_js, me_ss, ↓r_cst, ↓r_glob, ↓re_nil, ↓re_cons, ↓rsa_nil, ↓rsa_cons, ↓r_tup, ↓r_lst, ↓r_bin, ↓r_cmp, ↓r_ix, ↓r_neg, ↓r_isi, ↓r_bi, ↓r_not, ↓r_and, ↓r_or, ↓r_ife, ↓r_chain, ↓r_none, ↓rp_cst, ↓rp_glob, ↓rp_bin, ↓rp_neg, ↓rp_ife, ↓rp_ix, ↓rp_bi, ↓rp_call, ↓rp_var, ↓r_sl, ↓r_call, ↓r_alloc, ↓r_allocM, ↓r_prim1, ↓r_prim2, ↓r_primN, ↓rd_nil, ↓rd_cons, ↓rd_int, ↓rd_bl, ↓rd_str, ↓rd_non, ↓rd_tup, ↓rd_lst, ↓rd_scr, ↓rd_dic, ↓rd_cls, ↓rd_fn, ↓rd_s, ↓rd_r, ↓r_chN, refP_s, ↓ri_seq, ↓rq_tup, ↓rq_lst, ↓r_var, ↓ra_var, ↓r_ret, ↓r_frz, ↓r_asBl, ↓r_asInt, ↓r_liftS, ↓ri_range, ↓ri_range2, ↓ri_zip, ↓ri_enum, ↓r_calle, ↓rc_fn, ↓en_lst, ↓en_tup, ↓rz_tup, ↓rz_lst, ↓rz_tl, ↓rz_lt, ↓ri_zip3, ↓rz_ttt, ↓rz_ttl, ↓rz_lll, ↓rx_expr, ↓rx_set, ↓rx_frz, ↓rx_ret, ↓rx_iff, ↓rx_mat, ↓then_nx, ↓then_rt, ↓then_bk, ↓then_ct, ↓rx_nil, ↓rx_cons, ↓rx_asg, ↓rt_name, ↓rt_tup, ↓rt_lst, ↓rt_nil, ↓rt_cons, ↓rx_setix, ↓rx_app, ↓rx_ext, ↓r_pop, ↓r_needL, ↓lstP_l, ↓obP_s, ↓r_chS, ↓rr_nil, ↓rr_cons, ↓rh_v, ↓rh_l, ↓rx_par, ↓rx_pass, ↓rx_for, ↓varP_v, ↓varP_n, bin_addI, bin_subI, cmp_lt, cmp_le, cmp_gt, cmp_ge, cmp_eqI, cmp_neI, cmp_eqB, cmp_eqS, cmp_neS, blR_s, bi_lenT, bi_lenL, bi_lenS, bi_tupT, bi_tupL, bi_lstT, bi_lstL, bi_max, bi_min, bi_intB, neg_i, isi_int, isi_tup, isi_lst, isi_dic, isi_str, isi_non, isi_bl, List.getElem?_cons_zero, List.getElem?_cons_succ, List.set_cons_zero, List.set_cons_succ, Option.map_some, R.flat, R.d, Ob.flat, Ob.d, true_and, and_true, eq_self, decide_eq_true_eq, reduceIte, Bool.true_and, Bool.false_and, Bool.and_false, Bool.and_true, Bool.false_eq_true, decide_true, decide_false, Bool.not_true, Bool.not_false, List.length_map, List.length_cons, List.length_nil, reduceCtorEq, and_self, true_or, or_true, or_false, false_or, or_self]
      exact ⟨_, _, _, _, _, _, rfl⟩
end
end Mi
namespace Tx
open Mi
def es : List Ent := [⟨"WayError", .clx⟩, ⟨"InvalidTableError", .clx⟩, ⟨"InvalidPushError", .clx⟩, ⟨"SIGNS", .cst (.tup [.int (-1), .int 0, .int 1])⟩, ⟨"MOST_ROWS", .cst (.int 5)⟩, ⟨"is_integer", .fn (F_is_integer) []⟩, ⟨"is_sign", .fn (F_is_sign 3 5) []⟩, ⟨"are_signs", .fn (F_are_signs 6) ["entry"]⟩, ⟨"is_table", .fn (F_is_table 4 7) ["row"]⟩, ⟨"need_table", .fn (F_need_table 8 1) []⟩, ⟨"is_push", .fn (F_is_push 9 7) []⟩, ⟨"_law_cell", .fn (F_law_cell) []⟩, ⟨"_law_pen", .fn (F_law_pen) []⟩, ⟨"_law_draw", .fn (F_law_draw) []⟩, ⟨"_law_pick", .fn (F_law_pick 13) []⟩, ⟨"_law_same", .fn (F_law_same) []⟩, ⟨"_law_signs", .fn (F_law_signs 13) ["_law_k"]⟩, ⟨"_law_any_table", .fn (F_law_any_table 13 16) ["_law_row"]⟩, ⟨"_law_grounded", .fn (F_law_grounded 17) ["_law_k"]⟩, ⟨"_law_stepped", .fn (F_law_stepped 16 13) []⟩, ⟨"_law_circle", .fn (F_law_circle 13) []⟩, ⟨"_law_mixed_up", .fn (F_law_mixed_up 13) ["_law_entry"]⟩, ⟨"_law_table", .fn (F_law_table_2 13 17 18 19 20 21 14) []⟩, ⟨"_law_is_sign", .fn (F_law_is_sign) []⟩, ⟨"_law_are_signs", .fn (F_law_are_signs 23) ["_law_one"]⟩, ⟨"_law_is_table", .fn (F_law_is_table 24) ["_law_row"]⟩, ⟨"_law_odd", .fn (F_law_odd 14) []⟩, ⟨"_law_bent", .fn (F_law_bent 13 14 26 27) []⟩, ⟨"_law_told", .fn (F_law_told_2 10 1 2) []⟩, ⟨"law", .fn (F_law_k02 12 11 22 13 16 27 25 24 15 28) []⟩]
end Tx
namespace Tx
open PySem PySem.Spec PyProof.Rows
abbrev R : PySem.W.OpenRow := PySem.W.OpenLaw.row PySem.Challenge.rw_whichway_k02_pushes_recognized
abbrev qv : Program := PySem.W.view R.prog [32]
def loose : List PySem.Str := [.ofString "WayError", .ofString "InvalidTableError", .ofString "InvalidPushError", .ofString "SIGNS", .ofString "MOST_ROWS", .ofString "is_integer", .ofString "is_sign", .ofString "are_signs", .ofString "is_table", .ofString "need_table", .ofString "is_push", .ofString "_law_cell", .ofString "_law_pen", .ofString "_law_draw", .ofString "_law_pick", .ofString "_law_same", .ofString "_law_signs", .ofString "_law_any_table", .ofString "_law_grounded", .ofString "_law_stepped", .ofString "_law_circle", .ofString "_law_mixed_up", .ofString "_law_table", .ofString "_law_is_sign", .ofString "_law_are_signs", .ofString "_law_is_table", .ofString "_law_odd", .ofString "_law_bent", .ofString "_law_told"]
theorem run (w : World) : HandSHeadRun.RunEq R qv (Mi.hookM 3 es) (Mi.obM 3 es) 6000 loose w := by
  intro os
  kernel_rfl
end Tx
namespace Tx
open Mi
theorem spec0 : Lw (tbOf es) 13 29 LawC := by
  have t5 := c_is_integer (T := tbOf es) (g := 5) (d := 0)  (⟨rfl, rfl⟩ : IsF (tbOf es) 5 (F_is_integer))
  have t11 := c_law_cell (T := tbOf es) (g := 11) (d := 0)  (⟨rfl, rfl⟩ : IsF (tbOf es) 11 (F_law_cell))
  have t12 := c_law_pen (T := tbOf es) (g := 12) (d := 0)  (⟨rfl, rfl⟩ : IsF (tbOf es) 12 (F_law_pen))
  have t13 := c_law_draw (T := tbOf es) (g := 13) (d := 0)  (⟨rfl, rfl⟩ : IsF (tbOf es) 13 (F_law_draw))
  have t15 := c_law_same (T := tbOf es) (g := 15) (d := 0)  (⟨rfl, rfl⟩ : IsF (tbOf es) 15 (F_law_same))
  have t23 := c_law_is_sign (T := tbOf es) (g := 23) (d := 0)  (⟨rfl, rfl⟩ : IsF (tbOf es) 23 (F_law_is_sign))
  have t6 := c_is_sign (T := tbOf es) (g := 6) (d := 1) rfl (t5.up (by decide)) (⟨rfl, rfl⟩ : IsF (tbOf es) 6 (F_is_sign 3 5))
  have t14 := c_law_pick (T := tbOf es) (g := 14) (d := 1) (t13.up (by decide)) (⟨rfl, rfl⟩ : IsF (tbOf es) 14 (F_law_pick 13))
  have t16 := c_law_signs (T := tbOf es) (g := 16) (d := 1) (t13.up (by decide)) (⟨rfl, rfl⟩ : IsF (tbOf es) 16 (F_law_signs 13))
  have t20 := c_law_circle (T := tbOf es) (g := 20) (d := 1) (t13.up (by decide)) (⟨rfl, rfl⟩ : IsF (tbOf es) 20 (F_law_circle 13))
  have t21 := c_law_mixed_up (T := tbOf es) (g := 21) (d := 1) (t13.up (by decide)) (⟨rfl, rfl⟩ : IsF (tbOf es) 21 (F_law_mixed_up 13))
  have t24 := c_law_are_signs (T := tbOf es) (g := 24) (d := 1) (t23.up (by decide)) (⟨rfl, rfl⟩ : IsF (tbOf es) 24 (F_law_are_signs 23))
  have t7 := c_are_signs (T := tbOf es) (g := 7) (d := 2) (t6.up (by decide)) (⟨rfl, rfl⟩ : IsF (tbOf es) 7 (F_are_signs 6))
  have t17 := c_law_any_table (T := tbOf es) (g := 17) (d := 2) (t13.up (by decide)) (t16.up (by decide)) (⟨rfl, rfl⟩ : IsF (tbOf es) 17 (F_law_any_table 13 16))
  have t19 := c_law_stepped (T := tbOf es) (g := 19) (d := 2) (t16.up (by decide)) (t13.up (by decide)) (⟨rfl, rfl⟩ : IsF (tbOf es) 19 (F_law_stepped 16 13))
  have t25 := c_law_is_table (T := tbOf es) (g := 25) (d := 2) (t24.up (by decide)) (⟨rfl, rfl⟩ : IsF (tbOf es) 25 (F_law_is_table 24))
  have t26 := c_law_odd (T := tbOf es) (g := 26) (d := 2) (t14.up (by decide)) (⟨rfl, rfl⟩ : IsF (tbOf es) 26 (F_law_odd 14))
  have t8 := c_is_table (T := tbOf es) (g := 8) (d := 3) rfl (t7.up (by decide)) (⟨rfl, rfl⟩ : IsF (tbOf es) 8 (F_is_table 4 7))
  have t18 := c_law_grounded (T := tbOf es) (g := 18) (d := 3) (t17.up (by decide)) (⟨rfl, rfl⟩ : IsF (tbOf es) 18 (F_law_grounded 17))
  have t9 := c_need_table (T := tbOf es) (g := 9) (d := 4) (t8.up (by decide)) (⟨rfl, rfl⟩ : IsF (tbOf es) 9 (F_need_table 8 1))
  have t22 := c_law_table_2 (T := tbOf es) (g := 22) (d := 4) (t13.up (by decide)) (t17.up (by decide)) (t18.up (by decide)) (t19.up (by decide)) (t20.up (by decide)) (t21.up (by decide)) (t14.up (by decide)) (⟨rfl, rfl⟩ : IsF (tbOf es) 22 (F_law_table_2 13 17 18 19 20 21 14))
  have t10 := c_is_push (T := tbOf es) (g := 10) (d := 5) (t9.up (by decide)) (t7.up (by decide)) (⟨rfl, rfl⟩ : IsF (tbOf es) 10 (F_is_push 9 7))
  have t28 := c_law_told_2 (T := tbOf es) (g := 28) (d := 6) (t10.up (by decide)) (by decide +kernel) (⟨rfl, rfl⟩ : IsF (tbOf es) 28 (F_law_told_2 10 1 2))
  have t27 := c_law_bent (T := tbOf es) (g := 27) (d := 3) (t13.up (by decide)) (t14.up (by decide)) (t26.up (by decide)) (⟨rfl, rfl⟩ : IsF (tbOf es) 27 (F_law_bent 13 14 26 27))
  have t29 := c_law_k02 (T := tbOf es) (g := 29) (d := 12) (t12.up (by decide)) (t11.up (by decide)) (t22.up (by decide)) (t13.up (by decide)) (t16.up (by decide)) (t27.up (by decide)) (t25.up (by decide)) (t24.up (by decide)) (t15.up (by decide)) (t28.up (by decide)) (⟨rfl, rfl⟩ : IsF (tbOf es) 29 (F_law_k02 12 11 22 13 16 27 25 24 15 28))
  exact t29
theorem spec (ns : List Int) (h : ns.length ≤ 63) : ∃ st, (Mi.orc (Mi.tbOf es) 13).call 29 [.scr ns] [] = .ok (.val (.bl true)) st := spec0.at (Nat.le_refl _) ns h
end Tx
open PySem PySem.W PySem.Calls PyProof.Rows
theorem PySem.Challenge.cw_whichway_k02_pushes_recognized_holds : PySem.Challenge.rw_whichway_k02_pushes_recognized.Holds := by
  w_on; o_law
  refine HandSHeadRun.head_any (r := OpenLaw.row PySem.Challenge.rw_whichway_k02_pushes_recognized) (q := Tx.qv) (H := Mi.hookM 3 Tx.es) (ob := Mi.obM 3 Tx.es) (M := 6000) (loose := Tx.loose) (kwd := []) (Mi.obM_eq 3 Tx.es) (by kernel_rfl) (fun s => by kernel_rfl) Tx.run (by rfl) (by rfl) (by rfl) (by rfl) (by first | assumption | decide +kernel) (by decide +kernel) ⟨rfl, rfl, rfl, rfl, rfl, by decide +kernel⟩ ?hw ?hc
  case hw => w_witness2
  case hc => exact Mi.walkM (l := PySem.Challenge.rw_whichway_k02_pushes_recognized) (n := 63) (k := 13) (g := 29) rfl (by decide) rfl ⟨rfl, by decide, by decide⟩ rfl Tx.spec
