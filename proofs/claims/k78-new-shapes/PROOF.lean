import PyProof.Rows.All
import HandS.TupMul
import PySem.Str
import HandS.ForMost
import HandS.Star
import HandS.IsInst
import HandS.TupAny
import HandS.Wide
import HandS.Style
import HandS.DictComp
import HandS.Conv
import HandS.RevTup
import KE.LtData
import KE.SortData
import HandS.SortInts
import KE.DataMinMax
import HandS.TupLen
import HandS.Flow
import KE.GoesEnum
import HandS.Zip
import HandS.WideMore
import HandS.Small
import HandS.More
import HandS.Words
import HandS.Defaults
import HandS.Head0
import HandS.Head1
import HandS.Head2
import HandS.HeadEnd
import HandS.HeadHook1
import HandS.HeadHook2
import HandS.HeadHook4
import PySem.Challenge.RW_chainsback_k78_new_shapes
set_option Elab.async false
section
set_option Elab.async false
set_option linter.all false
set_option maxRecDepth 100000
set_option maxHeartbeats 4000000
set_option autoImplicit false
/-! Z: tuple * int where the int is one or less. -/
namespace Z
open PySem PySem.Spec PyProof.Rows L2
theorem tup_mul0 (l : Addr) (items : Array Value) (n : Nat) (dd : Option Addr) (sl : Array (Option Value)) (x : Int) (u : Tok) (c0 : (decide (x < -(2 ^ 63)) || decide (x ≥ 2 ^ 63)) = false) (c1 : (items.isEmpty || x == 1) = false) (c2 : (decide (x ≤ 0) || items.isEmpty) = true) :
    Meets (Builtin.«tuple.__mul__» ⟨[.ref l, .int x u], []⟩) (fun _ R s => s.heap.get? l = some { cls := .type "tuple", dict := dd, data := .seq items n, slots := sl } ∧
      R (.ok (.ret (Value.ref s.heap.objs.size))) { s with heap := s.heap.push { cls := Value.type "tuple", data := Data.seq #[] }, toks := s.toks }) :=
  .of_wp fun prog w A R s h => by
    obtain ⟨hp, g, d, tk, os⟩ := s
    obtain ⟨hl, h⟩ := h
    have f1 := AutoSeq1.idx_int
    wp_walk using wpAny_loadPart' hl
    repeat (first
      | (refine wpAny_ite_false (decide_eq_false (by rw [c0]; exact Bool.false_ne_true)) ?_; wp_walk using wpAny_loadPart' hl)
      | (refine wpAny_ite_false (decide_eq_false (by rw [c1]; exact Bool.false_ne_true)) ?_; wp_walk using wpAny_loadPart' hl)
      | (refine wpAny_ite_true (decide_eq_true (by rw [c2])) ?_; wp_walk using wpAny_loadPart' hl))
    exact ⟨_, rfl, h⟩
theorem tup_mul1 (l : Addr) (items : Array Value) (n : Nat) (dd : Option Addr) (sl : Array (Option Value)) (x : Int) (u : Tok) (c0 : (decide (x < -(2 ^ 63)) || decide (x ≥ 2 ^ 63)) = false) (c1 : (items.isEmpty || x == 1) = true) :
    Meets (Builtin.«tuple.__mul__» ⟨[.ref l, .int x u], []⟩) (fun _ R s => s.heap.get? l = some { cls := .type "tuple", dict := dd, data := .seq items n, slots := sl } ∧
      R (.ok (.ret (Value.ref l))) { s with heap := s.heap, toks := s.toks }) :=
  .of_wp fun prog w A R s h => by
    obtain ⟨hp, g, d, tk, os⟩ := s
    obtain ⟨hl, h⟩ := h
    have f1 := AutoSeq1.idx_int
    wp_walk using wpAny_loadPart' hl
    repeat (first
      | (refine wpAny_ite_false (decide_eq_false (by rw [c0]; exact Bool.false_ne_true)) ?_; wp_walk using wpAny_loadPart' hl)
      | (refine wpAny_ite_true (decide_eq_true (by rw [c1])) ?_; wp_walk using wpAny_loadPart' hl))
    exact ⟨_, rfl, h⟩
section
variable {X : Cx}
def rRepS (K : PySem.W.Frag) : R2 := fun x y H Q => ∃ l k xs, x = .ref l ∧ y = .int k ∧ SqT K H l xs ∧ -1000 ≤ k ∧ k ≤ 1000 ∧ (xs = [] ∨ k ≤ 1) ∧ ((xs = [] ∨ k = 1) → Q (.ref l) H) ∧ (xs ≠ [] → k ≤ 0 → ∀ p, H p = none → Q (.ref p) (upd H p (.tup [])))
theorem op_repS : OpR X (binaryOp .Mult) (rRepS X.K) := by
  intro pins s σ H x y v u Q I rx ry h
  obtain ⟨l, k, xs, rfl, rfl, hT, h1, h2, h3, q1, q0⟩ := h
  cases rx
  obtain ⟨t, rfl⟩ := ry
  obtain ⟨its, r, ⟨⟨cls, dd, data, sl⟩, ho, hc, n, hd⟩, hs⟩ := I.tuple hT
  simp only at hc hd
  subst hc hd
  have hle : its.length = xs.length := r.length.symm
  have c0 : (decide (k < -(2 ^ 63)) || decide (k ≥ 2 ^ 63)) = false := by
    rw [decide_eq_false (by omega), decide_eq_false (by omega)] <;> rfl
  by_cases hcase : xs = [] ∨ k = 1
  · have c1 : (its.toArray.isEmpty || k == 1) = true := by
      rcases hcase with e | e
      · rw [e] at hle
        rw [List.eq_nil_of_length_eq_zero hle]
        rfl
      · rw [e]
        simp
    refine wpAny_binaryOp_repeat_ref (T := "tuple") (U := "int") (by decide) ⟨_, ho, rfl⟩ (fun s' => typeIs_int s' k t) noFill_tuple_mul F.fills_int_mul F.slot_int_rmul repeat_tuple F.slot_int_index.lookup
      (call_meets F.slot_int_rmul (typeIs_int s k t) F.entry_int_rmul (F.args_int_rmul_2 _ _) (int_rmul_tuple k t l its.toArray n dd sl)
        ⟨ho, rfl, ⟨_, ho, rfl⟩, call_meets F.slot_tuple_mul ⟨_, ho, rfl⟩ F.entry_tuple_mul (F.args_tuple_mul_2 _ _) (tup_mul1 l its.toArray n dd sl k t c0 c1) ⟨ho, ?_⟩⟩)
    exact ⟨.ref l, H, I, rfl, q1 hcase⟩
  · have hx : xs ≠ [] := fun e => hcase (.inl e)
    have hk : k ≤ 0 := by
      have : k ≠ 1 := fun e => hcase (.inr e)
      rcases h3 with e | e
      · exact absurd e hx
      · omega
    have hn : its ≠ [] := fun e => hx (by
      rw [e] at hle
      exact List.eq_nil_of_length_eq_zero hle.symm)
    have hi : its.toArray.isEmpty = false := by
      cases its with
      | nil => exact absurd rfl hn
      | cons a b => rfl
    have c1 : (its.toArray.isEmpty || k == 1) = false := by
      rw [hi, Bool.false_or]
      exact beq_eq_false_iff_ne.mpr (by omega)
    have c2 : (decide (k ≤ 0) || its.toArray.isEmpty) = true := by
      rw [decide_eq_true hk, Bool.true_or]
    refine wpAny_binaryOp_repeat_ref (T := "tuple") (U := "int") (by decide) ⟨_, ho, rfl⟩ (fun s' => typeIs_int s' k t) noFill_tuple_mul F.fills_int_mul F.slot_int_rmul repeat_tuple F.slot_int_index.lookup
      (call_meets F.slot_int_rmul (typeIs_int s k t) F.entry_int_rmul (F.args_int_rmul_2 _ _) (int_rmul_tuple k t l its.toArray n dd sl)
        ⟨ho, rfl, ⟨_, ho, rfl⟩, call_meets F.slot_tuple_mul ⟨_, ho, rfl⟩ F.entry_tuple_mul (F.args_tuple_mul_2 _ _) (tup_mul0 l its.toArray n dd sl k t c0 c1 c2) ⟨ho, ?_⟩⟩)
    refine ⟨.ref s.heap.objs.size, _, I.laid (t' := s.toks) (o := .tup []) (fun b ob q => Heap.get?_push_of_some _ q) (Nat.le_refl _) ?_, rfl, q0 hx hk _ (I.hok.fresh (Nat.le_refl _))⟩
    exact ⟨by simp, [], .nil, IsTup.new _ _⟩
end
end Z

end

section
/-! Z: data, the code of a def as a term, and what it computes. No model in sight. -/
namespace Z
open PySem

/-- data, as trees; loc: a list that is still changed, by its number -/
inductive D where
  | non | bl (b : Bool) | int (i : Int) | str (x : Str)
  | tup (xs : List D) | lst (xs : List D) | dct (t : Bool) (ks vs : List D) | loc (n : Nat)
  /-- a list of ints that is only read: the script -/
  | lsi (ns : List Int)
  deriving Inhabited

/-- what is changed: a list; a dict (t: its keys are tuples), its keys and values in turn -/
inductive Ob where
  | l (xs : List D) | d (t : Bool) (ks vs : List D)
  deriving Inhabited
abbrev Hy := List Ob
abbrev Sl := List (Option D)

inductive R (α : Type) where
  | ok (a : α) (h : Hy)
  | exc (x : D) (h : Hy)
  | no
  deriving Inhabited
namespace R
def bind {α β : Type} : R α → (α → Hy → R β) → R β
  | .ok a h, f => f a h
  | .exc x h, _ => .exc x h
  | .no, _ => .no
def op {α : Type} (o : Option α) (h : Hy) : R α := match o with
  | some a => .ok a h
  | none => .no
end R

/-! ### == and < -/
def b2i : Bool → Int
  | true => 1
  | false => 0
mutual
def D.eqv : D → D → Bool
  | .non, .non => true
  | .bl a, .bl b => a == b
  | .bl a, .int j => b2i a == j
  | .int i, .int j => i == j
  | .int i, .bl b => i == b2i b
  | .str x, .str y => decide (x = y)
  | .tup xs, .tup ys => D.eqvs xs ys
  | .lst xs, .lst ys => D.eqvs xs ys
  | _, _ => false
def D.eqvs : List D → List D → Bool
  | [], [] => true
  | x :: xs, y :: ys => D.eqv x y && D.eqvs xs ys
  | _, _ => false
end
/-- how long a list gets at most -/
def lim : Nat := 1000000
mutual
/-- no dict, nothing that is still changed; at most so deep -/
def D.flat : Nat → D → Bool
  | _, .str x => x.cps.all (· < 0x110000)
  | _, .dct _ _ _ => false
  | _, .loc _ => false
  | _, .lsi _ => false
  | 0, .tup _ => false
  | 0, .lst _ => false
  | n + 1, .tup xs => D.flats n xs
  | n + 1, .lst xs => D.flats n xs
  | _, _ => true
def D.flats : Nat → List D → Bool
  | _, [] => true
  | n, x :: xs => D.flat n x && D.flats n xs
end
mutual
/-- the two can be compared by <, place by place -/
def D.alike : D → D → Bool
  | .non, .non => true
  | .bl _, .bl _ => true
  | .int _, .int _ => true
  | .str _, .str _ => true
  | .tup xs, .tup ys => D.alikes xs ys
  | .lst xs, .lst ys => D.alikes xs ys
  | _, _ => false
def D.alikes : List D → List D → Bool
  | x :: xs, y :: ys => D.alike x y && D.alikes xs ys
  | _, _ => true
end
mutual
/-- <, of alike ones -/
def D.lt : D → D → Bool
  | .bl a, .bl b => decide (b2i a < b2i b)
  | .int i, .int j => decide (i < j)
  | .str x, .str y => decide (x.cps.toList < y.cps.toList)
  | .tup xs, .tup ys => D.lts xs ys
  | .lst xs, .lst ys => D.lts xs ys
  | _, _ => false
def D.lts : List D → List D → Bool
  | [], [] => false
  | [], _ :: _ => true
  | _ :: _, [] => false
  | x :: xs, y :: ys => if D.eqv x y then D.lts xs ys else D.lt x y
end

/-! ### places and stretches -/
def sIx (n d : Nat) : Option Int → Nat
  | none => d
  | some v => if v < 0 then (v + (n : Int)).toNat else min v.toNat n
def ixN (n : Nat) (i : Int) : Option Nat := if 0 ≤ i then (if i < n then some i.toNat else none) else if -(n : Int) ≤ i then some (i + n).toNat else none
def cut {α : Type} (xs : List α) (lo hi : Option Int) : List α := (xs.drop (sIx xs.length 0 lo)).take (sIx xs.length xs.length hi - sIx xs.length 0 lo)
def at? {α : Type} (xs : List α) (i : Int) : Option α := (ixN xs.length i).bind fun j => xs[j]?

/-! ### the code -/
inductive Cmp where | eq | ne | lt | le | gt | ge | is | isN | inn | nin
  deriving DecidableEq, Repr
inductive Bo where | add | sub | mul | fdiv | mod | pow
  deriving DecidableEq, Repr
/-- the built-ins that are called by name -/
inductive Bi where
  | len | sum | sum2 | max1 | max2 | min1 | min2 | any | all | tuple | list | sorted | int | isInt | isBool | isTup | isStr | isDict | isList | set | dict0 | repr
  deriving DecidableEq, Repr
/-- targets -/
inductive G where
  | nm (i : Nat) | tup (gs : List G)

mutual
inductive E where
  | var (i : Nat) | cst (d : D) | gl (x : Nat) (d : D)
  | bin (o : Bo) (a b : E) | neg (a : E) | nt (a : E) | an (a b : E) | orr (a b : E)
  | cmp (c : Cmp) (a b : E) | chain (c c' : Cmp) (a b e : E) | ife (c a b : E)
  | tup (es : Es) | lst (es : Es) | ix (a i : E)
  | slo (a lo : E) | shi (a hi : E) | slh (a lo hi : E) | rev (a : E)
  | call (f : Nat) (es : Es) | bi (b : Bi) (es : Es) | bis (b : Bi) (s : I)
  | lc (elt : E) (g : G) (s : I) (ifs : Es) (own : List Nat)
  | lc2 (elt : E) (g : G) (s : I) (ifs : Es) (g' : G) (s' : I) (ifs' : Es) (own own' : List Nat)
  /-- what is made here will be changed -/
  | mk (e : E)
  /-- dict(e): of a dict, of a list of pairs -/
  | dcp (e : E)
  | dnew (t : Bool) | disp (kvs : Es) | dgetD (d k x : E) | dc (k v : E) (g : G) (s : I) (ifs : Es) (own : List Nat)
inductive Es where
  | nil | cons (e : E) (es : Es) | star (e : E) (es : Es)
/-- what is walked -/
inductive I where
  | it (e : E) | r1 (b : E) | r2 (a b : E) | r3 (a b c : E) | zip (a b : E) | zip3 (a b c : E) | enum (a : E) | enumzip (a b : E) | items (d : E) | vals (d : E)
end
mutual
inductive S where
  | asg (g : G) (e : E)
  /-- name = a new list that will be changed -/
  | new (i : Nat) (e : E)
  /-- name = a new dict that will be changed -/
  | newd (i : Nat) (e : E)
  /-- a, b = e, f: two names; whether each is a list that will be changed -/
  | par (i j : Nat) (m n : Bool) (a b : E)
  | par3 (i j l : Nat) (a b c : E)
  | aug (i : Nat) (o : Bo) (e : E)
  | seti (o k e : E) | augi (o k : E) (b : Bo) (e : E)
  | app (o e : E) | ext (o e : E) | ex (e : E)
  | ret (e : E) | retN | ife (c : E) (a b : Ss) | for_ (g : G) (s : I) (b : Ss) | whil (c : E) (b : Ss) | brk | cnt | rais (e : E) | pas
inductive Ss where
  | nil | cons (s : S) (r : Ss)
end

/-! ### what it computes -/
inductive Fl where
  | nx (sl : Sl) | rt (d : D) | bk (sl : Sl) | ct (sl : Sl)
/-- the defs by number: what each hands back -/
abbrev Fn := List D → Hy → R D
abbrev Ga := Nat → Option Fn

def wipe (sl : Sl) : List Nat → Sl
  | [] => sl
  | v :: vs => (wipe sl vs).set v none

mutual
/-- the places that a target sets -/
def G.idx : G → List Nat
  | .nm i => [i]
  | .tup gs => G.idxs gs
def G.idxs : List G → List Nat
  | [] => []
  | g :: gs => G.idx g ++ G.idxs gs
end
mutual
def G.put (d : D) (sl : Sl) : G → Option Sl
  | .nm i => if i < sl.length then some (sl.set i (some d)) else none
  | .tup gs => match d with
    | .tup xs => G.puts xs sl gs
    | _ => none
def G.puts : List D → Sl → List G → Option Sl
  | [], sl, [] => some sl
  | x :: xs, sl, g :: gs => match G.put x sl g with
    | some sl' => G.puts xs sl' gs
    | none => none
  | _, _, _ => none
end

def Ob.val : Ob → D
  | .l xs => .lst xs
  | .d t ks vs => .dct t ks vs
/-- read through -/
def deref (h : Hy) : D → Option D
  | .loc n => (h[n]?).map Ob.val
  | d => some d
/-- what a list that is read holds: a list, or one that is still changed -/
def seqOf (h : Hy) : D → Option (List D)
  | .lst xs => some xs
  | .tup xs => some xs
  | .loc n => match h[n]? with
    | some (.l xs) => some xs
    | _ => none
  | _ => none
def lstOf (h : Hy) : D → Option (List D)
  | .lst xs => some xs
  | .loc n => match h[n]? with
    | some (.l xs) => some xs
    | _ => none
  | _ => none
def dctOf (h : Hy) : D → Option (Bool × List D × List D)
  | .dct t ks vs => some (t, ks, vs)
  | .loc n => match h[n]? with
    | some (.d t ks vs) => some (t, ks, vs)
    | _ => none
  | _ => none

/-- what may be a key: ints and texts; tuples of them -/
def keyB : Bool → D → Bool
  | false, .int _ => true
  | false, .str _ => true
  | true, .tup ks => ks.all fun k => match k with
    | .int _ => true
    | .str _ => true
    | _ => false
  | _, _ => false
/-- in its place, or at the end -/
def dput (x v : D) (ks vs : List D) : List D × List D := if ks.any (fun k => D.eqv k x) then (ks, List.zipWith (fun k w => if D.eqv k x then v else w) ks vs) else (ks ++ [x], vs ++ [v])
def dlook (x : D) : List D → List D → Option D
  | k :: ks, v :: vs => if D.eqv k x then some v else dlook x ks vs
  | _, _ => none

def mkT (xs : List D) (h : Hy) : R D := if xs.length ≤ lim then .ok (.tup xs) h else .no
def mkL (xs : List D) (h : Hy) : R D := if xs.length ≤ lim then .ok (.lst xs) h else .no
def Bo.ap (o : Bo) (h : Hy) (x y : D) : R D := match o, x, y with
  | .add, .int i, .int j => .ok (.int (i + j)) h
  | .sub, .int i, .int j => .ok (.int (i - j)) h
  | .mul, .int i, .int j => if (i.natAbs < 18446744073709551616 || j.natAbs < 18446744073709551616) then .ok (.int (i * j)) h else .no
  | .fdiv, .int i, .int j => if 0 < j && j.natAbs < 2 ^ 256 then .ok (.int (i / j)) h else .no
  | .mod, .int i, .int j => if 0 < j then .ok (.int (i % j)) h else .no
  | .pow, .int i, .int j => if 0 ≤ j && j ≤ 1000 && i.natAbs < 18446744073709551616 then .ok (.int (i ^ j.toNat)) h else .no
  | .add, .tup xs, .tup ys => mkT (xs ++ ys) h
  | .add, x, y => (match lstOf h x, lstOf h y with
    | some xs, some ys => mkL (xs ++ ys) h
    | _, _ => .no)
  | .mul, .tup xs, .int k => if -1000 ≤ k && k ≤ 1000 && xs.length ≤ 1000 then .ok (.tup (List.replicate k.toNat xs).flatten) h else .no
  | .mul, .lst xs, .int k => if xs.length * k.toNat ≤ lim && k < 1000000 && -1000000 < k then .ok (.lst (List.replicate k.toNat xs).flatten) h else .no
  | _, _, _ => .no

def D.isNon : D → Bool
  | .non => true
  | _ => false
/-- whether a value is among others -/
def D.mem (x : D) (xs : List D) : Bool := xs.any fun y => D.eqv y x
def D.depthOk (d : D) : Bool := D.flat 20 d
def Cmp.ap (c : Cmp) (h : Hy) (x y : D) : R Bool := match c with
  | .is => (match y with | .non => .ok x.isNon h | _ => .no)
  | .isN => (match y with | .non => .ok (!x.isNon) h | _ => .no)
  | .lt => if x.depthOk && y.depthOk && D.alike x y && !x.isNon then .ok (D.lt x y) h else .no
  | .gt => (match x, y with | .int i, .int j => .ok (decide (j < i)) h | _, _ => .no)
  | .le => (match x, y with | .int i, .int j => .ok (decide (i ≤ j)) h | _, _ => .no)
  | .ge => (match x, y with | .int i, .int j => .ok (decide (j ≤ i)) h | _, _ => .no)
  | .eq => (match deref h x, deref h y with | some a, some b => if a.depthOk && b.depthOk then .ok (D.eqv a b) h else .no | _, _ => .no)
  | .ne => (match deref h x, deref h y with | some a, some b => if a.depthOk && b.depthOk then .ok (!D.eqv a b) h else .no | _, _ => .no)
  | .inn => (match x, y with
    | .str a, .str b => (match a.cps.toList with | [c] => .ok (decide (c ∈ b.cps.toList)) h | _ => .no)
    | x, y => match dctOf h y with
      | some (t, ks, vs) => if keyB t x then .ok (dlook x ks vs).isSome h else .no
      | none => match seqOf h y with | some ys => if x.depthOk && D.flats 19 ys then .ok (D.mem x ys) h else .no | none => .no)
  | .nin => (match x, y with
    | .str a, .str b => (match a.cps.toList with | [c] => .ok (!decide (c ∈ b.cps.toList)) h | _ => .no)
    | x, y => match dctOf h y with
      | some (t, ks, vs) => if keyB t x then .ok (!(dlook x ks vs).isSome) h else .no
      | none => match seqOf h y with | some ys => if x.depthOk && D.flats 19 ys then .ok (!D.mem x ys) h else .no | none => .no)

def intsOf : List D → Option (List Int)
  | [] => some []
  | .int i :: r => (intsOf r).map (i :: ·)
  | _ => none
def strsOf : List D → Option (List Str)
  | [] => some []
  | .str x :: r => (strsOf r).map (x :: ·)
  | _ => none
/-- the truth of ints and truth values -/
def blsOf : List D → Option (List Bool)
  | [] => some []
  | .bl b :: r => (blsOf r).map (b :: ·)
  | .int i :: r => (blsOf r).map ((i != 0) :: ·)
  | _ => none
/-- the first greatest, the first least, by < -/
def D.maxs (x : D) : List D → D
  | [] => x
  | y :: ys => if D.lt x y then D.maxs y ys else D.maxs x ys
def D.mins (x : D) : List D → D
  | [] => x
  | y :: ys => if D.lt y x then D.mins y ys else D.mins x ys
def D.insr (x : D) : List D → List D
  | [] => [x]
  | y :: ys => if D.lt y x then y :: D.insr x ys else x :: y :: ys
/-- ascending, equal ones as they stood -/
def D.sort (xs : List D) : List D := xs.foldr D.insr []
/-- tuples with an item at least, or neither tuples nor None; all can be compared -/
def D.sortable (xs : List D) : Bool := D.flats 20 xs && (xs.all fun x => xs.all fun y => D.alike x y) && ((xs.all fun x => match x with
  | .tup (_ :: _) => true
  | _ => false) || xs.all fun x => match x with
  | .non => false
  | .tup _ => false
  | _ => true)
def D.maxOf : List D → Option D
  | [] => none
  | x :: xs => if D.sortable (x :: xs) then (match D.maxs x xs with
    | .lst _ => none
    | d => some d) else none
def D.minOf : List D → Option D
  | [] => none
  | x :: xs => if D.sortable (x :: xs) then (match D.mins x xs with
    | .lst _ => none
    | d => some d) else none
def maxI (x : Int) : List Int → Int
  | [] => x
  | y :: ys => maxI (if x < y then y else x) ys
def minI (x : Int) : List Int → Int
  | [] => x
  | y :: ys => minI (if y < x then y else x) ys

def Bi.ap (b : Bi) (h : Hy) (xs : List D) : R D := match b, xs with
  | .len, [.str x] => if x.length ≤ lim then .ok (.int x.length) h else .no
  | .len, [.lsi ns] => .ok (.int ns.length) h
  | .len, [d] => (match dctOf h d with
    | some (_, ks, _) => .ok (.int ks.length) h
    | none => R.op ((seqOf h d).map fun ys => .int ys.length) h)
  | .sum, [d] => R.op ((lstOf h d).bind fun ys => (intsOf ys).map fun ns => .int ns.sum) h
  | .max1, [d] => (match (lstOf h d).bind intsOf with
    | some [] => .no
    | some (y :: r) => .ok (.int (maxI y r)) h
    | none => R.op ((seqOf h d).bind D.maxOf) h)
  | .min1, [d] => (match (lstOf h d).bind intsOf with
    | some [] => .no
    | some (y :: r) => .ok (.int (minI y r)) h
    | none => R.op ((seqOf h d).bind D.minOf) h)
  | .max2, [.int i, .int j] => .ok (.int (if j > i then j else i)) h
  | .min2, [.int i, .int j] => .ok (.int (if j < i then j else i)) h
  | .any, [d] => R.op ((lstOf h d).bind fun ys => (blsOf ys).map fun bs => .bl (bs.any id)) h
  | .all, [d] => R.op ((lstOf h d).bind fun ys => (blsOf ys).map fun bs => .bl (bs.all id)) h
  | .tuple, [d] => R.op ((seqOf h d).map fun ys => .tup ys) h
  | .list, [.dct false ks _] => .ok (.lst ks) h
  | .list, [d] => R.op ((seqOf h d).map fun ys => .lst ys) h
  | .int, [.int i] => .ok (.int i) h
  | .sorted, [.dct false ks _] => if ((strsOf ks).isSome || (intsOf ks).isSome) && decide (ks.length < 64) then .ok (.lst (D.sort ks)) h else .no
  | .sorted, [d] => R.op ((lstOf h d).bind fun ys => if D.sortable ys then some (.lst (D.sort ys)) else none) h
  | .isInt, [.int _] => .ok (.bl true) h
  | .isInt, [.bl _] => .ok (.bl true) h
  | .isInt, [.loc _] => .no
  | .isInt, [.lsi _] => .no
  | .isInt, [_] => .ok (.bl false) h
  | .isBool, [.bl _] => .ok (.bl true) h
  | .isBool, [.loc _] => .no
  | .isBool, [.lsi _] => .no
  | .isBool, [_] => .ok (.bl false) h
  | .isTup, [.tup _] => .ok (.bl true) h
  | .isTup, [.loc _] => .no
  | .isTup, [.lsi _] => .no
  | .isTup, [_] => .ok (.bl false) h
  | .isStr, [.str _] => .ok (.bl true) h
  | .isStr, [.loc _] => .no
  | .isStr, [.lsi _] => .no
  | .isStr, [_] => .ok (.bl false) h
  | .isDict, [.dct _ _ _] => .ok (.bl true) h
  | .isDict, [.loc _] => .no
  | .isDict, [.lsi _] => .no
  | .isDict, [_] => .ok (.bl false) h
  | _, _ => .no

def truth (h : Hy) : D → Option Bool
  | .bl b => some b
  | .non => some false
  | .int i => some (i != 0)
  | _ => none

def pairsOf : List D → Option (List (D × D))
  | [] => some []
  | k :: v :: r => (pairsOf r).map ((k, v) :: ·)
  | _ => none
/-- a display: keys and values in turn -/
def dispOf (xs : List D) : Option D := (pairsOf xs).bind fun ps => if (ps.all fun p => keyB false p.1) && decide (ps.length ≤ 15) then some (.dct false (ps.foldl (fun a p => dput p.1 p.2 a.1 a.2) ([], [])).1 (ps.foldl (fun a p => dput p.1 p.2 a.1 a.2) ([], [])).2) else none
def tupPairs : List D → Option (List (D × D))
  | [] => some []
  | .tup [k, v] :: r => (tupPairs r).map ((k, v) :: ·)
  | _ => none
/-- dict(pairs) -/
def dictOf (xs : List D) : Option D := (tupPairs xs).bind fun ps => if (ps.all fun p => keyB false p.1) then some (.dct false (ps.foldl (fun a p => dput p.1 p.2 a.1 a.2) ([], [])).1 (ps.foldl (fun a p => dput p.1 p.2 a.1 a.2) ([], [])).2) else none
def dcpOf (h : Hy) (x : D) : R D := match dctOf h x with
  | some (false, ks, vs) => .ok (.dct false ks vs) h
  | some (true, _, _) => .no
  | none => R.op ((lstOf h x).bind dictOf) h
/-- what makes a dict -/
def isNd : E → Bool
  | .dc _ _ _ _ _ _ => true
  | .dnew _ => true
  | .disp _ => true
  | .dcp _ => true
  | _ => false
def mkOf (nd : Bool) (h : Hy) (x : D) : R D := match nd, x with
  | false, .lst xs => .ok (.loc h.length) (h ++ [.l xs])
  | true, .dct t ks vs => .ok (.loc h.length) (h ++ [.d t ks vs])
  | _, _ => .no
/-- a dict comprehension's turns -/
def dcGo (f : D → Hy → R (Option (D × D))) : List D → List D → List D → Hy → R (List D × List D)
  | [], ks, vs, h => .ok (ks, vs) h
  | x :: xs, ks, vs, h => match f x h with
    | .ok (some (y, z)) h' => if keyB false y && decide (ks.length < lim) then dcGo f xs (dput y z ks vs).1 (dput y z ks vs).2 h' else .no
    | .ok none h' => dcGo f xs ks vs h'
    | .exc _ _ => .no
    | .no => .no
def ixOf (h : Hy) (a i : D) : R D := match a, i with
  | .str x, .int k => if x.length ≤ lim then R.op ((at? x.cps.toList k).map fun c => .str ⟨#[c]⟩) h else .no
  | .lsi ns, .int k => R.op ((at? ns k).map .int) h
  | a, y => match dctOf h a with
    | some (t, ks, vs) => if keyB t y then R.op (dlook y ks vs) h else .no
    | none => match y with
      | .int k => R.op ((seqOf h a).bind fun xs => at? xs k) h
      | _ => .no
def slOf (h : Hy) (a : D) (lo hi : Option Int) : R D := match a with
  | .tup xs => .ok (.tup (cut xs lo hi)) h
  | a => R.op ((seqOf h a).map fun xs => .lst (cut xs lo hi)) h
def revOf (h : Hy) (a : D) : R D := match a with
  | .tup xs => .ok (.tup xs.reverse) h
  | a => R.op ((seqOf h a).map fun xs => .lst xs.reverse) h
def intOf : D → Option Int
  | .int i => some i
  | _ => none

/-- from lo on, n numbers, by steps of c -/
def upFrom (lo c : Int) : Nat → List D
  | 0 => []
  | n + 1 => .int lo :: upFrom (lo + c) c n
/-- how many -/
def rgN (a b c : Int) : Nat := (if c > 0 then (if a < b then (b - a - 1) / c + 1 else 0) else (if a > b then (a - b - 1) / (-c) + 1 else 0)).toNat
def zipD : List D → List D → List D
  | x :: xs, y :: ys => .tup [x, y] :: zipD xs ys
  | _, _ => []
def zipD3 : List D → List D → List D → List D
  | x :: xs, y :: ys, z :: zs => .tup [x, y, z] :: zipD3 xs ys zs
  | _, _, _ => []
def enumD (i : Int) : List D → List D
  | [] => []
  | x :: xs => .tup [.int i, x] :: enumD (i + 1) xs

/-- a comprehension's turns, one behind another; none: the item isn't taken -/
def lcGo (f : D → Hy → R (Option D)) : List D → List D → Hy → R (List D)
  | [], acc, h => .ok acc h
  | x :: xs, acc, h => match f x h with
    | .ok (some d) h' => lcGo f xs (acc ++ [d]) h'
    | .ok none h' => lcGo f xs acc h'
    | .exc _ _ => .no
    | .no => .no
/-- as lcGo, each turn bringing a list -/
def lcGo2 (f : D → Hy → R (List D)) : List D → List D → Hy → R (List D)
  | [], acc, h => .ok acc h
  | x :: xs, acc, h => match f x h with
    | .ok ds h' => lcGo2 f xs (acc ++ ds) h'
    | .exc _ _ => .no
    | .no => .no
/-- a for's turns -/
def forGo (f : D → Sl → Hy → R Fl) : List D → Sl → Hy → R Fl
  | [], sl, h => .ok (.nx sl) h
  | x :: xs, sl, h => match f x sl h with
    | .ok (.nx sl') h' => forGo f xs sl' h'
    | .ok (.ct sl') h' => forGo f xs sl' h'
    | .ok (.bk sl') h' => .ok (.nx sl') h'
    | .ok (.rt d) h' => .ok (.rt d) h'
    | .exc e h' => .exc e h'
    | .no => .no
def whGo (c : Sl → Hy → R Bool) (f : Sl → Hy → R Fl) : Nat → Sl → Hy → R Fl
  | 0, _, _ => .no
  | n + 1, sl, h => match c sl h with
    | .ok true h => (match f sl h with
      | .ok (.nx sl') h' => whGo c f n sl' h'
      | .ok (.ct sl') h' => whGo c f n sl' h'
      | .ok (.bk sl') h' => .ok (.nx sl') h'
      | .ok (.rt d) h' => .ok (.rt d) h'
      | .exc e h' => .exc e h'
      | .no => .no)
    | .ok false h => .ok (.nx sl) h
    | .exc e h' => .exc e h'
    | .no => .no

def isL (h : Hy) (n : Nat) : Bool := match h[n]? with
  | some (.l _) => true
  | _ => false
/-- the lists that a def has made and hands back stand still from then on -/
def D.fz (h : Hy) (n : Nat) : Nat → D → Option D
  | 0, _ => none
  | k + 1, d => match d with
    | .loc m => if m < n then some (.loc m) else match h[m]? with
      | some (.l xs) => (xs.mapM (D.fz h n k)).map .lst
      | some (.d t ks vs) => (vs.mapM (D.fz h n k)).map (.dct t ks)
      | none => none
    | .tup xs => (xs.mapM (D.fz h n k)).map .tup
    | .lst xs => (xs.mapM (D.fz h n k)).map .lst
    | .dct t ks vs => (vs.mapM (D.fz h n k)).map (.dct t ks)
    | d => some d
mutual
/-- nothing that is still changed, but what is numbered below n -/
def D.old (n : Nat) : D → Bool
  | .loc m => decide (m < n)
  | .tup xs => D.olds n xs
  | .lst xs => D.olds n xs
  | .dct _ ks vs => D.olds n ks && D.olds n vs
  | _ => true
def D.olds (n : Nat) : List D → Bool
  | [] => true
  | x :: xs => D.old n x && D.olds n xs
end
def Ob.old (n : Nat) : Ob → Bool
  | .l xs => D.olds n xs
  | .d _ ks vs => D.olds n ks && D.olds n vs
/-- a def's end -/
def leave (n : Nat) (d : D) (h : Hy) : R D :=
  if h.length = n then .ok d h
  else if (h.take n).all (Ob.old n) then (match D.fz h n 40 d with
    | some d' => .ok d' (h.take n)
    | none => .no)
  else .no

mutual
def E.den (Γ : Ga) (sl : Sl) (h : Hy) : E → R D
  | .var i => R.op (sl[i]?.bind id) h
  | .cst d => .ok d h
  | .gl _ d => .ok d h
  | .bin o a b => (a.den Γ sl h).bind fun x h => (b.den Γ sl h).bind fun y h => o.ap h x y
  | .neg a => (a.den Γ sl h).bind fun x h => R.op ((intOf x).map fun i => .int (-i)) h
  | .nt a => (a.den Γ sl h).bind fun x h => R.op ((truth h x).map fun b => .bl (!b)) h
  | .an a b => (a.den Γ sl h).bind fun x h => match x with
    | .bl true => b.den Γ sl h
    | .bl false => .ok (.bl false) h
    | _ => .no
  | .orr a b => (a.den Γ sl h).bind fun x h => match x with
    | .bl true => .ok (.bl true) h
    | .bl false => b.den Γ sl h
    | _ => .no
  | .cmp c a b => (a.den Γ sl h).bind fun x h => (b.den Γ sl h).bind fun y h => (c.ap h x y).bind fun k h => .ok (.bl k) h
  | .chain c c' a b e => (a.den Γ sl h).bind fun x h => (b.den Γ sl h).bind fun y h => (c.ap h x y).bind fun k h => match k with
    | true => (e.den Γ sl h).bind fun z h => (c'.ap h y z).bind fun k h => .ok (.bl k) h
    | false => .ok (.bl false) h
  | .ife c a b => (c.den Γ sl h).bind fun x h => match truth h x with
    | some true => a.den Γ sl h
    | some false => b.den Γ sl h
    | none => .no
  | .tup es => (es.den Γ sl h).bind fun xs h => mkT xs h
  | .lst es => (es.den Γ sl h).bind fun xs h => mkL xs h
  | .ix a i => (a.den Γ sl h).bind fun x h => (i.den Γ sl h).bind fun y h => ixOf h x y
  | .slo a lo => (a.den Γ sl h).bind fun x h => (lo.den Γ sl h).bind fun y h => match y with
    | .int i => slOf h x (some i) none
    | _ => .no
  | .shi a hi => (a.den Γ sl h).bind fun x h => (hi.den Γ sl h).bind fun y h => match y with
    | .int i => slOf h x none (some i)
    | _ => .no
  | .slh a lo hi => (a.den Γ sl h).bind fun x h => (lo.den Γ sl h).bind fun y h => (hi.den Γ sl h).bind fun z h => match y, z with
    | .int i, .int j => slOf h x (some i) (some j)
    | _, _ => .no
  | .rev a => (a.den Γ sl h).bind fun x h => revOf h x
  | .call f es => (es.den Γ sl h).bind fun xs h => match Γ f with
    | some g => g xs h
    | none => .no
  | .bi b es => (es.den Γ sl h).bind fun xs h => b.ap h xs
  | .bis b s => (s.den Γ sl h).bind fun xs h => b.ap h [.lst xs]
  | .lc elt g s ifs own => (s.den Γ sl h).bind fun xs h =>
      (lcGo (fun x h => match g.put x (wipe sl own) with
        | some sl' => (ifs.tests Γ sl' h).bind fun k h => match k with
          | true => (elt.den Γ sl' h).bind fun d h => .ok (some d) h
          | false => .ok none h
        | none => .no) xs [] h).bind fun ds h => mkL ds h
  | .lc2 elt g s ifs g' s' ifs' own own' => (s.den Γ sl h).bind fun xs h =>
      (lcGo2 (fun x h => match g.put x (wipe sl own) with
        | some sl' => (ifs.tests Γ sl' h).bind fun k h => match k with
          | true => (s'.den Γ sl' h).bind fun ys h => lcGo (fun y h => match g'.put y (wipe sl' own') with
            | some sl'' => (ifs'.tests Γ sl'' h).bind fun k h => match k with
              | true => (elt.den Γ sl'' h).bind fun d h => .ok (some d) h
              | false => .ok none h
            | none => .no) ys [] h
          | false => .ok [] h
        | none => .no) xs [] h).bind fun ds h => mkL ds h
  | .mk e => (e.den Γ sl h).bind fun x h => mkOf (isNd e) h x
  | .dcp e => (e.den Γ sl h).bind fun x h => dcpOf h x
  | .dnew t => .ok (.dct t [] []) h
  | .disp kvs => (kvs.den Γ sl h).bind fun xs h => R.op (dispOf xs) h
  | .dgetD d k e => (d.den Γ sl h).bind fun x h => if (dctOf h x).isNone then .no else (k.den Γ sl h).bind fun y h => (e.den Γ sl h).bind fun z h => match dctOf h x with
    | some (t, ks, vs) => if keyB t y then .ok ((dlook y ks vs).getD z) h else .no
    | _ => .no
  | .dc k v g s ifs own => (s.den Γ sl h).bind fun xs h =>
      (dcGo (fun x h => match g.put x (wipe sl own) with
        | some sl' => (ifs.tests Γ sl' h).bind fun c h => match c with
          | true => (k.den Γ sl' h).bind fun y h => (v.den Γ sl' h).bind fun z h => .ok (some (y, z)) h
          | false => .ok none h
        | none => .no) xs [] [] h).bind fun p h => .ok (.dct false p.1 p.2) h
def Es.den (Γ : Ga) (sl : Sl) (h : Hy) : Es → R (List D)
  | .nil => .ok [] h
  | .cons e es => (e.den Γ sl h).bind fun x h => (es.den Γ sl h).bind fun xs h => .ok (x :: xs) h
  | .star e es => (e.den Γ sl h).bind fun x h => (es.den Γ sl h).bind fun xs h' => match seqOf h x with
    | some ys => .ok (ys ++ xs) h'
    | none => .no
def Es.tests (Γ : Ga) (sl : Sl) (h : Hy) : Es → R Bool
  | .nil => .ok true h
  | .cons e es => (e.den Γ sl h).bind fun x h => match truth h x with
    | some true => es.tests Γ sl h
    | some false => .ok false h
    | none => .no
  | .star _ _ => .no
def I.den (Γ : Ga) (sl : Sl) (h : Hy) : I → R (List D)
  | .it e => (e.den Γ sl h).bind fun x h => match x with
    | .str z => .ok (z.cps.toList.map fun c => .str ⟨#[c]⟩) h
    | .lst xs => .ok xs h
    | .tup xs => .ok xs h
    | .dct false ks _ => .ok ks h
    | _ => .no
  | .r1 b => (b.den Γ sl h).bind fun x h => match x with
    | .int j => if j < 1000000 ∧ -1000000 < j then .ok (upFrom 0 1 j.toNat) h else .no
    | _ => .no
  | .r2 a b => (a.den Γ sl h).bind fun x h => (b.den Γ sl h).bind fun y h => match x, y with
    | .int i, .int j => if (-1000000 < i ∧ i < 1000000) ∧ -1000000 < j ∧ j < 1000000 then .ok (upFrom i 1 (j - i).toNat) h else .no
    | _, _ => .no
  | .r3 a b c => (a.den Γ sl h).bind fun x h => (b.den Γ sl h).bind fun y h => (c.den Γ sl h).bind fun z h => match x, y, z with
    | .int i, .int j, .int k => if (-1000000 < i ∧ i < 1000000) ∧ (-1000000 < j ∧ j < 1000000) ∧ (-1000000 < k ∧ k < 1000000) ∧ k ≠ 0
      then .ok (upFrom i k (rgN i j k)) h else .no
    | _, _, _ => .no
  | .zip a b => (a.den Γ sl h).bind fun x h => (b.den Γ sl h).bind fun y h => match x, y with
    | .lst xs, .lst ys => .ok (zipD xs ys) h
    | .tup xs, .tup ys => .ok (zipD xs ys) h
    | _, _ => .no
  | .zip3 a b c => (a.den Γ sl h).bind fun x h => (b.den Γ sl h).bind fun y h => (c.den Γ sl h).bind fun z h => match seqOf h x, seqOf h y, seqOf h z with
    | some xs, some ys, some zs => .ok (zipD3 xs ys zs) h
    | _, _, _ => .no
  | .enum a => (a.den Γ sl h).bind fun x h => match x with
    | .lst xs => .ok (enumD 0 xs) h
    | .tup xs => .ok (enumD 0 xs) h
    | _ => .no
  | .enumzip a b => (a.den Γ sl h).bind fun x h => (b.den Γ sl h).bind fun y h => match x, y with
    | .lst xs, .lst ys => .ok (enumD 0 (zipD xs ys)) h
    | .tup xs, .tup ys => .ok (enumD 0 (zipD xs ys)) h
    | _, _ => .no
  | .items d => (d.den Γ sl h).bind fun x h => match x with
    | .dct false ks vs => .ok (zipD ks vs) h
    | _ => .no
  | .vals d => (d.den Γ sl h).bind fun x h => match x with
    | .dct false _ vs => .ok vs h
    | _ => .no
end

def put1 (sl : Sl) (i : Nat) (d : D) : Option Sl := if i < sl.length then some (sl.set i (some d)) else none
/-- a list that will be changed is laid -/
def lay (m : Bool) (d : D) (h : Hy) : Option (D × Hy) := match m with
  | false => some (d, h)
  | true => match d with
    | .lst xs => some (.loc h.length, h ++ [.l xs])
    | _ => none
def nxt (o : Option Sl) (h : Hy) : R Fl := match o with
  | some sl => .ok (.nx sl) h
  | none => .no
/-- o[k] = x -/
def setiGo (x y z : D) (sl : Sl) (h : Hy) : R Fl := match y, z with
    | .loc n, z => (match h[n]?, z with
      | some (.l xs), .int i => (match ixN xs.length i with
        | some j => .ok (.nx sl) (h.set n (.l (xs.set j x)))
        | none => .no)
      | some (.d t ks vs), z => if keyB t z && decide (ks.length < lim) then .ok (.nx sl) (h.set n (.d t (dput z x ks vs).1 (dput z x ks vs).2)) else .no
      | _, _ => .no)
    | _, _ => .no
def fuel : Nat := 100000

mutual
def S.den (Γ : Ga) (sl : Sl) (h : Hy) : S → R Fl
  | .asg g e => (e.den Γ sl h).bind fun x h => nxt (g.put x sl) h
  | .new i e => (e.den Γ sl h).bind fun x h => match lay true x h with
    | some (d, h') => nxt (put1 sl i d) h'
    | none => .no
  | .newd i e => (e.den Γ sl h).bind fun x h => match x with
    | .dct t ks vs => nxt (put1 sl i (.loc h.length)) (h ++ [.d t ks vs])
    | _ => .no
  | .par i j m n a b => (a.den Γ sl h).bind fun x h => match lay m x h with
    | some (x', h') => (b.den Γ sl h').bind fun y h => match lay n y h with
      | some (y', h') => nxt ((put1 sl i x').bind fun sl' => put1 sl' j y') h'
      | none => .no
    | none => .no
  | .par3 i j l a b c => (a.den Γ sl h).bind fun x h => (b.den Γ sl h).bind fun y h => (c.den Γ sl h).bind fun z h => nxt (((put1 sl i x).bind fun sl' => put1 sl' j y).bind fun sl' => put1 sl' l z) h
  | .aug i o e => match sl[i]?.bind id with
    | some (.int x) => (e.den Γ sl h).bind fun y h => match y with
      | .int y => (o.ap h (.int x) (.int y)).bind fun z h => nxt (put1 sl i z) h
      | _ => .no
    | _ => .no
  | .seti o k e => (e.den Γ sl h).bind fun x h => (o.den Γ sl h).bind fun y h => (k.den Γ sl h).bind fun z h => setiGo x y z sl h
  | .augi o k b e => (o.den Γ sl h).bind fun y h => (k.den Γ sl h).bind fun z h => match y, z with
    | .loc n, .int i => (match h[n]? with
      | some (.l xs) => (match at? xs i with
        | some old => (e.den Γ sl h).bind fun x h => (b.ap h old x).bind fun new h => (match h[n]? with
          | some (.l xs') => (match ixN xs'.length i with
            | some j => .ok (.nx sl) (h.set n (.l (xs'.set j new)))
            | none => .no)
          | _ => .no)
        | none => .no)
      | _ => .no)
    | _, _ => .no
  | .app o e => (o.den Γ sl h).bind fun y h => match y with
    | .loc n => if isL h n = false then .no else (e.den Γ sl h).bind fun x h => (match h[n]? with
      | some (.l xs) => if xs.length < 1000000 then .ok (.nx sl) (h.set n (.l (xs ++ [x]))) else .no
      | _ => .no)
    | _ => .no
  | .ext o e => (o.den Γ sl h).bind fun y h => match y with
    | .loc n => if isL h n = false then .no else (e.den Γ sl h).bind fun x h => (match h[n]?, lstOf h x with
      | some (.l xs), some ys => if xs.length + ys.length < 1000000 then .ok (.nx sl) (h.set n (.l (xs ++ ys))) else .no
      | _, _ => .no)
    | _ => .no
  | .ex e => (e.den Γ sl h).bind fun _ h => .ok (.nx sl) h
  | .ret e => (e.den Γ sl h).bind fun x h => .ok (.rt x) h
  | .retN => .ok (.rt .non) h
  | .ife c a b => (c.den Γ sl h).bind fun x h => match truth h x with
    | some true => a.den Γ sl h
    | some false => b.den Γ sl h
    | none => .no
  | .for_ g s b => (s.den Γ sl h).bind fun xs h => forGo (fun x sl h => match g.put x sl with
      | some sl' => b.den Γ sl' h
      | none => .no) xs sl h
  | .whil c b => whGo (fun sl h => (c.den Γ sl h).bind fun x h => R.op (truth h x) h) (fun sl h => b.den Γ sl h) fuel sl h
  | .brk => .ok (.bk sl) h
  | .cnt => .ok (.ct sl) h
  | .rais e => (e.den Γ sl h).bind fun x h => .exc x h
  | .pas => .ok (.nx sl) h
def Ss.den (Γ : Ga) (sl : Sl) (h : Hy) : Ss → R Fl
  | .nil => .ok (.nx sl) h
  | .cons s r => (s.den Γ sl h).bind fun f h => match f with
    | .nx sl' => r.den Γ sl' h
    | f => .ok f h
end

/-- a def: how many parameters, how many names, its body -/
structure Df where
  many : Nat
  names : Nat
  body : Ss
def Df.start (f : Df) (xs : List D) : Sl := xs.map some ++ List.replicate (f.names - xs.length) none
def Df.den (Γ : Ga) (f : Df) : Fn := fun xs h =>
  if xs.length = f.many then
    (f.body.den Γ (f.start xs) h).bind fun r h' => match r with
      | .rt d => leave h.length d h'
      | .nx _ => leave h.length .non h'
      | _ => .no
  else .no
/-- the defs, calls so deep -/
def ga (codes : List Df) : Nat → Ga
  | 0 => fun _ => none
  | n + 1 => fun f => (codes[f]?).map (Df.den (ga codes n))
end Z

end

section
set_option Elab.async false
set_option linter.all false
set_option maxRecDepth 100000
set_option autoImplicit false
/-! Z: how data stand in the layer's abstract heap. -/
namespace Z
open PySem PySem.Spec PyProof.Rows L2

/-- where the lists stand that are still changed, by their numbers; g: what else no datum may lean on -/
structure Ms where
  l : List Addr
  g : List Addr
def Ms.bad (m : Ms) (a : Addr) : Prop := a ∈ m.l ∨ a ∈ m.g
def kD : Key → D
  | .inl i => .int i
  | .inr x => .str x
def tD (k : List Key) : D := .tup (k.map kD)
/-- a dict's object: its keys (ints and texts; tuples of them), its values -/
def DHo (t : Bool) (u : HO) (ks : List D) (ws : List V) : Prop := match t with
  | false => ∃ kvs, u = .dK kvs ∧ ks = kvs.map (fun p => kD p.1) ∧ ws = kvs.map (·.2)
  | true => ∃ kvs, u = .dT kvs ∧ ks = kvs.map (fun p => tD p.1) ∧ ws = kvs.map (·.2)
mutual
def Rep (m : Ms) (H : Hp) : D → V → Prop
  | .non, v => v = .non
  | .bl b, v => v = .bl b
  | .int i, v => v = .int i
  | .str x, v => v = .str x
  | .tup xs, v => ∃ a vs, v = .ref a ∧ ¬ m.bad a ∧ H a = some (.tup vs) ∧ Reps m H xs vs
  | .lst xs, v => ∃ a vs, v = .ref a ∧ ¬ m.bad a ∧ H a = some (.lst vs) ∧ Reps m H xs vs
  | .dct t ks ds, v => ∃ a o u ws, v = .ref a ∧ ¬ m.bad a ∧ H a = some (.frz o u) ∧ DHo t u ks ws ∧ Reps m H ds ws
  | .loc n, v => ∃ a, v = .ref a ∧ m.l[n]? = some a
  | .lsi ns, v => ∃ a o, v = .ref a ∧ ¬ m.bad a ∧ H a = some (.frz o (.lst (ns.map V.int)))
def Reps (m : Ms) (H : Hp) : List D → List V → Prop
  | [], vs => vs = []
  | x :: xs, vs => ∃ v r, vs = v :: r ∧ Rep m H x v ∧ Reps m H xs r
end
def ObRep (m : Ms) (H : Hp) : Ob → Addr → Prop
  | .l xs, a => ∃ vs, H a = some (.lst vs) ∧ Reps m H xs vs
  | .d t ks ds, a => ∃ u ws, H a = some u ∧ DHo t u ks ws ∧ Reps m H ds ws
structure HRep (m : Ms) (H : Hp) (h : Hy) : Prop where
  nd : m.l.Nodup
  len : m.l.length = h.length
  ob : ∀ (n : Nat) (o : Ob) (a : Addr), h[n]? = some o → m.l[n]? = some a → ObRep m H o a
  dj : ∀ a ∈ m.g, a ∉ m.l ∧ ∃ o, H a = some o
structure SRep (m : Ms) (H : Hp) (sl : Sl) (σ : L2.St) : Prop where
  len : sl.length = σ.length
  val : ∀ (i : Nat) (d : D), sl[i]? = some (some d) → ∃ v, σ[i]? = some (some v) ∧ Rep m H d v
structure Ext (m m' : Ms) (H H' : Hp) : Prop where
  g : m'.g = m.g
  pre : m.l <+: m'.l
  new : ∀ a ∈ m'.l, a ∈ m.l ∨ H a = none
  keep : ∀ a o, H a = some o → a ∉ m.l → H' a = some o

theorem Ext.refl {m : Ms} {H : Hp} : Ext m m H H := ⟨rfl, List.prefix_refl m.l, fun _ h => .inl h, fun _ _ h _ => h⟩
theorem HRep.there {m : Ms} {H : Hp} {h : Hy} (r : HRep m H h) {a : Addr} (ha : m.bad a) : ∃ o, H a = some o := by
  rcases ha with ha | ha
  · obtain ⟨n, hn, e⟩ := List.getElem_of_mem ha
    have h1 : m.l[n]? = some a := by rw [List.getElem?_eq_getElem hn, e]
    have h2 : n < h.length := r.len ▸ hn
    have q := r.ob n h[n] a (List.getElem?_eq_getElem h2) h1
    cases ho : h[n] with
    | l xs => rw [ho] at q; obtain ⟨vs, q, _⟩ := q; exact ⟨_, q⟩
    | d t ks vs => rw [ho] at q; obtain ⟨u, ws, q, _⟩ := q; exact ⟨_, q⟩
  · exact (r.dj a ha).2
theorem Ext.trans {m m1 m2 : Ms} {H H1 H2 : Hp} (a : Ext m m1 H H1) (b : Ext m1 m2 H1 H2) : Ext m m2 H H2 := by
  refine ⟨b.g.trans a.g, a.pre.trans b.pre, fun x hx => ?_, fun x o hx hm => ?_⟩
  · rcases b.new x hx with h | h
    · exact a.new x h
    · by_cases hm : x ∈ m.l
      · exact .inl hm
      · refine .inr ?_
        cases e : H x with
        | none => rfl
        | some o => rw [a.keep x o e hm] at h; cases h
  · refine b.keep x o (a.keep x o hx hm) fun h1 => ?_
    rcases a.new x h1 with h | h
    · exact hm h
    · rw [hx] at h; cases h
section
variable {m m' : Ms} {H H' : Hp}
theorem Ext.nin (x : Ext m m' H H') {a : Addr} {o : HO} (h : H a = some o) (hm : ¬ m.bad a) : ¬ m'.bad a := fun h1 => by
  rcases h1 with h1 | h1
  · rcases x.new a h1 with h2 | h2
    · exact hm (.inl h2)
    · rw [h] at h2; cases h2
  · exact hm (.inr (x.g ▸ h1))
theorem prefix_get {α : Type} {l l' : List α} (h : l <+: l') {n : Nat} {a : α} (e : l[n]? = some a) : l'[n]? = some a := by
  obtain ⟨t, rfl⟩ := h
  have hn : n < l.length := (List.getElem?_eq_some_iff.mp e).1
  rw [List.getElem?_append_left hn]; exact e
mutual
theorem Rep.ext (x : Ext m m' H H') : ∀ (d : D) (v : V), Rep m H d v → Rep m' H' d v
  | .non, _, h => h
  | .bl _, _, h => h
  | .int _, _, h => h
  | .str _, _, h => h
  | .tup xs, v, h => by
    obtain ⟨a, vs, e, hm, ha, hr⟩ := h
    exact ⟨a, vs, e, x.nin ha hm, x.keep a _ ha (fun z => hm (.inl z)), Reps.ext x xs vs hr⟩
  | .lst xs, v, h => by
    obtain ⟨a, vs, e, hm, ha, hr⟩ := h
    exact ⟨a, vs, e, x.nin ha hm, x.keep a _ ha (fun z => hm (.inl z)), Reps.ext x xs vs hr⟩
  | .dct t ks ds, v, h => by
    obtain ⟨a, o, u, ws, e, hm, ha, hd, hr⟩ := h
    exact ⟨a, o, u, ws, e, x.nin ha hm, x.keep a _ ha (fun z => hm (.inl z)), hd, Reps.ext x ds ws hr⟩
  | .loc n, v, h => by
    obtain ⟨a, e, ha⟩ := h
    exact ⟨a, e, prefix_get x.pre ha⟩
  | .lsi ns, v, h => by
    obtain ⟨a, o, e, hm, ha⟩ := h
    exact ⟨a, o, e, x.nin ha hm, x.keep a _ ha (fun z => hm (.inl z))⟩
theorem Reps.ext (x : Ext m m' H H') : ∀ (ds : List D) (vs : List V), Reps m H ds vs → Reps m' H' ds vs
  | [], _, h => h
  | d :: ds, vs, h => by
    obtain ⟨v, r, e, h1, h2⟩ := h
    exact ⟨v, r, e, Rep.ext x d v h1, Reps.ext x ds r h2⟩
end
theorem SRep.ext {sl : Sl} {σ : L2.St} (r : SRep m H sl σ) (x : Ext m m' H H') : SRep m' H' sl σ :=
  ⟨r.len, fun i d e => let ⟨v, h1, h2⟩ := r.val i d e; ⟨v, h1, Rep.ext x d v h2⟩⟩
end

/-! ### sequences -/
section
variable {m : Ms} {H : Hp}
theorem Reps.length : ∀ {ds : List D} {vs : List V}, Reps m H ds vs → vs.length = ds.length
  | [], _, h => by rw [h] <;> rfl
  | d :: ds, _, h => by
    obtain ⟨v, r, rfl, _, h2⟩ := h
    rw [List.length_cons, List.length_cons, Reps.length h2]
theorem Reps.get : ∀ {ds : List D} {vs : List V} {i : Nat} {d : D}, Reps m H ds vs → ds[i]? = some d → ∃ v, vs[i]? = some v ∧ Rep m H d v
  | [], _, _, _, _, e => by simp at e
  | d :: ds, _, 0, x, h, e => by
    obtain ⟨v, r, rfl, h1, _⟩ := h
    have e' : d = x := by simpa using e
    subst e'
    exact ⟨v, rfl, h1⟩
  | d :: ds, _, i + 1, x, h, e => by
    obtain ⟨v, r, rfl, _, h2⟩ := h
    obtain ⟨u, a, b⟩ := Reps.get (i := i) h2 (by simpa using e)
    exact ⟨u, by simpa using a, b⟩
theorem Reps.get' {ds : List D} {vs : List V} {i : Nat} {v : V} (h : Reps m H ds vs) (e : vs[i]? = some v) : ∃ d, ds[i]? = some d ∧ Rep m H d v := by
  have hi : i < vs.length := (List.getElem?_eq_some_iff.mp e).1
  rw [h.length] at hi
  obtain ⟨u, a, b⟩ := h.get (List.getElem?_eq_getElem hi)
  rw [e] at a; cases a
  exact ⟨_, List.getElem?_eq_getElem hi, b⟩
theorem Reps.append : ∀ {xs ys : List D} {us ws : List V}, Reps m H xs us → Reps m H ys ws → Reps m H (xs ++ ys) (us ++ ws)
  | [], _, _, _, h, h' => by rw [h]; exact h'
  | x :: xs, _, _, _, h, h' => by
    obtain ⟨v, r, rfl, h1, h2⟩ := h
    exact ⟨v, r ++ _, rfl, h1, Reps.append h2 h'⟩
theorem Reps.take : ∀ {xs : List D} {us : List V} (n : Nat), Reps m H xs us → Reps m H (xs.take n) (us.take n)
  | _, _, 0, _ => rfl
  | [], _, n + 1, h => by rw [h] <;> rfl
  | x :: xs, _, n + 1, h => by
    obtain ⟨v, r, rfl, h1, h2⟩ := h
    exact ⟨v, r.take n, rfl, h1, Reps.take n h2⟩
theorem Reps.drop : ∀ {xs : List D} {us : List V} (n : Nat), Reps m H xs us → Reps m H (xs.drop n) (us.drop n)
  | _, _, 0, h => h
  | [], _, n + 1, h => by rw [h] <;> rfl
  | x :: xs, _, n + 1, h => by
    obtain ⟨v, r, rfl, h1, h2⟩ := h
    exact Reps.drop n h2
theorem Reps.set : ∀ {xs : List D} {us : List V} {d : D} {v : V} (n : Nat), Reps m H xs us → Rep m H d v → Reps m H (xs.set n d) (us.set n v)
  | [], _, _, _, n, h, _ => by rw [h] <;> rfl
  | x :: xs, _, _, _, 0, h, r => by
    obtain ⟨v, u, rfl, h1, h2⟩ := h
    exact ⟨_, u, rfl, r, h2⟩
  | x :: xs, _, _, _, n + 1, h, r => by
    obtain ⟨v, u, rfl, h1, h2⟩ := h
    exact ⟨v, _, rfl, h1, Reps.set n h2 r⟩
theorem Reps.reverse : ∀ {xs : List D} {us : List V}, Reps m H xs us → Reps m H xs.reverse us.reverse
  | [], _, h => by rw [h] <;> rfl
  | x :: xs, _, h => by
    obtain ⟨v, u, rfl, h1, h2⟩ := h
    rw [List.reverse_cons, List.reverse_cons]
    exact (Reps.reverse h2).append ⟨v, [], rfl, h1, rfl⟩
theorem Reps.rep {xs : List D} {us : List V} (h : Reps m H xs us) : ∀ k : Nat, Reps m H (List.replicate k xs).flatten (List.replicate k us).flatten
  | 0 => rfl
  | k + 1 => by
    rw [List.replicate_succ, List.replicate_succ, List.flatten_cons, List.flatten_cons]
    exact h.append (Reps.rep h k)
theorem sIx_eq : @sIx = @HT.sIx := by
  funext n d o
  cases o <;> rfl
theorem ixN_eq : @Z.ixN = @L2.ixN := rfl
theorem Reps.cut {xs : List D} {us : List V} (h : Reps m H xs us) (lo hi : Option Int) : Reps m H (Z.cut xs lo hi) (cutV us lo hi) := by
  unfold Z.cut cutV
  rw [h.length, sIx_eq]
  exact (h.drop _).take _
end
/-- as Ext, where more may have been marked as not to be leant on, and what is marked may have changed -/
structure Up (m m' : Ms) (H H' : Hp) : Prop where
  pre : m.l <+: m'.l
  bad : ∀ a, m'.bad a → m.bad a ∨ H a = none
  keep : ∀ a o, H a = some o → ¬ m.bad a → H' a = some o
section
variable {m m' m2 : Ms} {H H' H2 : Hp}
theorem Ext.up (x : Ext m m' H H') : Up m m' H H' := ⟨x.pre, fun a h => by
  rcases h with h | h
  · rcases x.new a h with h | h
    · exact .inl (.inl h)
    · exact .inr h
  · exact .inl (.inr (x.g ▸ h)), fun a o e n => x.keep a o e fun z => n (.inl z)⟩
theorem Up.refl : Up m m H H := Ext.refl.up
theorem Ext.back' (x : Ext m m' H H') {a : Addr} (h : H' a = none) : a ∈ m.l ∨ H a = none := by
  by_cases hm : a ∈ m.l
  · exact .inl hm
  · refine .inr ?_
    cases e : H a with
    | none => rfl
    | some o => rw [x.keep a o e hm] at h; cases h
theorem Up.back (x : Up m m' H H') {a : Addr} (h : H' a = none) : m.bad a ∨ H a = none := by
  by_cases hm : m.bad a
  · exact .inl hm
  · refine .inr ?_
    cases e : H a with
    | none => rfl
    | some o => rw [x.keep a o e hm] at h; cases h
theorem Up.nin (x : Up m m' H H') {a : Addr} {o : HO} (h : H a = some o) (hm : ¬ m.bad a) : ¬ m'.bad a := fun h1 => by
  rcases x.bad a h1 with h2 | h2
  · exact hm h2
  · rw [h] at h2; cases h2
theorem Up.trans (x : Up m m' H H') (y : Up m' m2 H' H2) : Up m m2 H H2 := by
  refine ⟨x.pre.trans y.pre, fun a h => ?_, fun a o e n => y.keep a o (x.keep a o e n) (x.nin e n)⟩
  rcases y.bad a h with h | h
  · exact x.bad a h
  · exact x.back h
mutual
theorem Rep.up (x : Up m m' H H') : ∀ (d : D) (v : V), Rep m H d v → Rep m' H' d v
  | .non, _, h => h
  | .bl _, _, h => h
  | .int _, _, h => h
  | .str _, _, h => h
  | .tup xs, v, h => by
    obtain ⟨a, vs, e, hm, ha, hr⟩ := h
    exact ⟨a, vs, e, x.nin ha hm, x.keep a _ ha hm, Reps.up x xs vs hr⟩
  | .lst xs, v, h => by
    obtain ⟨a, vs, e, hm, ha, hr⟩ := h
    exact ⟨a, vs, e, x.nin ha hm, x.keep a _ ha hm, Reps.up x xs vs hr⟩
  | .dct t ks ds, v, h => by
    obtain ⟨a, o, u, ws, e, hm, ha, hd, hr⟩ := h
    exact ⟨a, o, u, ws, e, x.nin ha hm, x.keep a _ ha hm, hd, Reps.up x ds ws hr⟩
  | .loc n, v, h => by
    obtain ⟨a, e, ha⟩ := h
    exact ⟨a, e, prefix_get x.pre ha⟩
  | .lsi ns, v, h => by
    obtain ⟨a, o, e, hm, ha⟩ := h
    exact ⟨a, o, e, x.nin ha hm, x.keep a _ ha hm⟩
theorem Reps.up (x : Up m m' H H') : ∀ (ds : List D) (vs : List V), Reps m H ds vs → Reps m' H' ds vs
  | [], _, h => h
  | d :: ds, vs, h => by
    obtain ⟨v, r, e, h1, h2⟩ := h
    exact ⟨v, r, e, Rep.up x d v h1, Reps.up x ds r h2⟩
end
theorem SRep.up {sl : Sl} {σ : L2.St} (r : SRep m H sl σ) (x : Up m m' H H') : SRep m' H' sl σ :=
  ⟨r.len, fun i d e => let ⟨v, h1, h2⟩ := r.val i d e; ⟨v, h1, Rep.up x d v h2⟩⟩
mutual
theorem Rep.less (hl : m'.l = m.l) (hg : ∀ a ∈ m'.g, a ∈ m.g) : ∀ (d : D) (v : V), Rep m H d v → Rep m' H d v
  | .non, _, h => h
  | .bl _, _, h => h
  | .int _, _, h => h
  | .str _, _, h => h
  | .tup xs, v, h => by
    obtain ⟨a, vs, e, hm, ha, hr⟩ := h
    exact ⟨a, vs, e, fun z => hm (by rcases z with z | z; exact .inl (hl ▸ z); exact .inr (hg a z)), ha, Reps.less hl hg xs vs hr⟩
  | .lst xs, v, h => by
    obtain ⟨a, vs, e, hm, ha, hr⟩ := h
    exact ⟨a, vs, e, fun z => hm (by rcases z with z | z; exact .inl (hl ▸ z); exact .inr (hg a z)), ha, Reps.less hl hg xs vs hr⟩
  | .dct t ks ds, v, h => by
    obtain ⟨a, o, u, ws, e, hm, ha, hd, hr⟩ := h
    exact ⟨a, o, u, ws, e, fun z => hm (by rcases z with z | z; exact .inl (hl ▸ z); exact .inr (hg a z)), ha, hd, Reps.less hl hg ds ws hr⟩
  | .loc n, v, h => by
    obtain ⟨a, e, ha⟩ := h
    exact ⟨a, e, hl ▸ ha⟩
  | .lsi ns, v, h => by
    obtain ⟨a, o, e, hm, ha⟩ := h
    exact ⟨a, o, e, fun z => hm (by rcases z with z | z; exact .inl (hl ▸ z); exact .inr (hg a z)), ha⟩
theorem Reps.less (hl : m'.l = m.l) (hg : ∀ a ∈ m'.g, a ∈ m.g) : ∀ (ds : List D) (vs : List V), Reps m H ds vs → Reps m' H ds vs
  | [], _, h => h
  | d :: ds, vs, h => by
    obtain ⟨v, r, e, h1, h2⟩ := h
    exact ⟨v, r, e, Rep.less hl hg d v h1, Reps.less hl hg ds r h2⟩
end
theorem HRep.less {h : Hy} (r : HRep m H h) (hl : m'.l = m.l) (hg : ∀ a ∈ m'.g, a ∈ m.g) : HRep m' H h :=
  ⟨hl ▸ r.nd, hl ▸ r.len, fun n o a h1 h2 => by
    have q := r.ob n o a h1 (hl ▸ h2)
    cases o with
    | l xs => obtain ⟨vs, e, q⟩ := q; exact ⟨vs, e, Reps.less hl hg xs vs q⟩
    | d t ks vs => obtain ⟨u, ws, e, hd, q⟩ := q; exact ⟨u, ws, e, hd, Reps.less hl hg vs ws q⟩, fun a ha => ⟨hl ▸ (r.dj a (hg a ha)).1, (r.dj a (hg a ha)).2⟩⟩
end

abbrev Ms.mark (m : Ms) (p : Addr) : Ms := ⟨m.l, p :: m.g⟩
theorem mark_inj {a b : Ms} {p : Addr} (h : Ms.mark a p = Ms.mark b p) : a = b := by
  cases a; cases b
  simpa [Ms.mark] using h
end Z

end

section
set_option Elab.async false
set_option linter.all false
set_option maxRecDepth 100000
set_option autoImplicit false
/-! Z: operators, comparisons over the layer. -/
namespace Z
open PySem PySem.Spec PyProof.Rows L2

theorem R.bind_ok {α β : Type} {r : R α} {f : α → Hy → R β} {b : β} {h' : Hy} (e : r.bind f = .ok b h') : ∃ a h1, r = .ok a h1 ∧ f a h1 = .ok b h' := by
  cases r with
  | ok a h => exact ⟨a, h, rfl, e⟩
  | exc x h => cases e
  | no => cases e
theorem R.op_ok {α : Type} {o : Option α} {h : Hy} {a : α} {h' : Hy} (e : R.op o h = .ok a h') : o = some a ∧ h' = h := by
  cases o with
  | none => cases e
  | some b => cases e; exact ⟨rfl, rfl⟩

theorem _root_.L2.PE.mono {X : Cx} {e : Expr} {t t' : TE} (h : PE X e t) (w : ∀ σ H Q, t' σ H Q → t σ H Q) : PE X e t' := ⟨fun pins s σ H Q I q => h.run pins s σ H Q I (w _ _ _ q)⟩
theorem _root_.L2.PT.mono {X : Cx} {e : Expr} {t t' : TT} (h : PT X e t) (w : ∀ σ H Q, t' σ H Q → t σ H Q) : PT X e t' := ⟨fun pins s σ H Q I q => h.run pins s σ H Q I (w _ _ _ q)⟩
theorem _root_.L2.PA.mono {X : Cx} {es : List Expr} {t t' : TA} (h : PA X es t) (w : ∀ σ H Q, t' σ H Q → t σ H Q) : PA X es t' := ⟨fun pos pins s σ H Q I q => h.run pos pins s σ H Q I (w _ _ _ q)⟩

/-! ### new things -/
section
variable {m : Ms} {H : Hp} {h : Hy} {p : Addr} {o : HO}
theorem HRep.nin (r : HRep m H h) (hp : H p = none) : ¬ m.bad p := fun hm => by
  obtain ⟨o, e⟩ := r.there hm
  rw [hp] at e; cases e
theorem Ext.laid (hp : H p = none) : Ext m m H (upd H p o) :=
  ⟨rfl, List.prefix_refl m.l, fun _ h => .inl h, fun a u e _ => by rw [upd_ne (ne_of_none e hp)]; exact e⟩
theorem ObRep.ext {m' : Ms} {H' : Hp} (x : Ext m m' H H') (same : ∀ a o, a ∈ m.l → H a = some o → H' a = some o) {ob : Ob} {a : Addr} (ha : a ∈ m.l) (r : ObRep m H ob a) : ObRep m' H' ob a := by
  cases ob with
  | l xs => obtain ⟨vs, e, q⟩ := r; exact ⟨vs, same a _ ha e, Reps.ext x xs vs q⟩
  | d t ks vs => obtain ⟨u, ws, e, hd, q⟩ := r; exact ⟨u, ws, same a _ ha e, hd, Reps.ext x vs ws q⟩
theorem HRep.laid (r : HRep m H h) (hp : H p = none) : HRep m (upd H p o) h :=
  ⟨r.nd, r.len, fun n ob a h1 h2 => (r.ob n ob a h1 h2).ext (Ext.laid hp) (fun b u _ e => by rw [upd_ne (ne_of_none e hp)]; exact e) (List.mem_of_getElem? h2), fun a ha => ⟨(r.dj a ha).1, let ⟨o, e⟩ := (r.dj a ha).2; ⟨o, by rw [upd_ne (ne_of_none e hp)]; exact e⟩⟩⟩
/-- the new list at p is marked -/
theorem HRep.mark {o : HO} (r : HRep m H h) (hp : H p = none) : HRep (m.mark p) (upd H p o) h := by
  have kp : ∀ a o', H a = some o' → upd H p o a = some o' := fun a o' e => by rw [upd_ne (ne_of_none e hp)]; exact e
  have u : Up m (m.mark p) H (upd H p o) := ⟨List.prefix_refl _, fun a h => by
    rcases h with h | h
    · exact .inl (.inl h)
    · rcases List.mem_cons.mp h with z | z
      · exact .inr (z ▸ hp)
      · exact .inl (.inr z), fun a o' e _ => kp a o' e⟩
  refine ⟨r.nd, r.len, fun n ob a h1 h2 => ?_, fun a ha => ?_⟩
  · have q := r.ob n ob a h1 h2
    cases ob with
    | l xs => obtain ⟨vs, e, q⟩ := q; exact ⟨vs, kp a _ e, Reps.up u xs vs q⟩
    | d t ks vs => obtain ⟨w, ws, e, hd, q⟩ := q; exact ⟨w, ws, kp a _ e, hd, Reps.up u vs ws q⟩
  · rcases List.mem_cons.mp ha with z | z
    · subst z
      exact ⟨fun q => r.nin hp (.inl q), o, upd_same⟩
    · obtain ⟨k1, o', k2⟩ := r.dj a z
      exact ⟨k1, o', kp a _ k2⟩
theorem Rep.tupNew {xs : List D} {vs : List V} (r : HRep m H h) (hp : H p = none) (q : Reps m H xs vs) : Rep m (upd H p (.tup vs)) (.tup xs) (.ref p) :=
  ⟨p, vs, rfl, r.nin hp, upd_same, Reps.ext (Ext.laid hp) xs vs q⟩
theorem Rep.lstNew {xs : List D} {vs : List V} (r : HRep m H h) (hp : H p = none) (q : Reps m H xs vs) : Rep m (upd H p (.lst vs)) (.lst xs) (.ref p) :=
  ⟨p, vs, rfl, r.nin hp, upd_same, Reps.ext (Ext.laid hp) xs vs q⟩
end

/-! ### what is read -/
section
variable {m : Ms} {H : Hp} {h : Hy}
theorem lst_of {K : PySem.W.Frag} (r : HRep m H h) {d : D} {v : V} {xs : List D} (q : Rep m H d v) (e : lstOf h d = some xs) : ∃ a vs, v = .ref a ∧ H a = some (.lst vs) ∧ Reps m H xs vs := by
  unfold lstOf at e
  split at e
  · cases e
    obtain ⟨a, vs, rfl, _, h1, h2⟩ := q
    exact ⟨a, vs, rfl, h1, h2⟩
  · rename_i n
    split at e
    · cases e
      rename_i hn
      obtain ⟨a, rfl, ha⟩ := q
      obtain ⟨vs, h1, h2⟩ := r.ob n _ a hn ha
      exact ⟨a, vs, rfl, h1, h2⟩
    · cases e
  · cases e
theorem reps_lsi {m : Ms} {H : Hp} : ∀ ns : List Int, Reps m H (ns.map D.int) (ns.map V.int)
  | [] => rfl
  | n :: ns => ⟨_, _, rfl, rfl, reps_lsi ns⟩
theorem seq_of {K : PySem.W.Frag} (r : HRep m H h) {d : D} {v : V} {xs : List D} (q : Rep m H d v) (e : seqOf h d = some xs) : ∃ a vs, v = .ref a ∧ (SqL K H a vs ∨ SqT K H a vs) ∧ Reps m H xs vs := by
  unfold seqOf at e
  split at e
  · cases e
    obtain ⟨a, vs, rfl, _, h1, h2⟩ := q
    exact ⟨a, vs, rfl, .inl (SqL.of h1), h2⟩
  · cases e
    obtain ⟨a, vs, rfl, _, h1, h2⟩ := q
    exact ⟨a, vs, rfl, .inr (SqT.of h1), h2⟩
  · rename_i n
    split at e
    · cases e
      rename_i hn
      obtain ⟨a, rfl, ha⟩ := q
      obtain ⟨vs, h1, h2⟩ := r.ob n _ a hn ha
      exact ⟨a, vs, rfl, .inl (SqL.of h1), h2⟩
    · cases e
  · cases e
end

/-! ### as the library's own data -/
mutual
def toPy : D → PyData
  | .non => .none
  | .bl b => .bool b
  | .int i => .int i
  | .str x => .str x
  | .tup xs => .tuple (toPys xs)
  | .lst xs => .list (toPys xs)
  | .dct _ _ _ => .none
  | .loc _ => .none
  | .lsi _ => .none
def toPys : List D → List PyData
  | [] => []
  | x :: xs => toPy x :: toPys xs
end
section
variable {m : Ms} {H : Hp} {K : PySem.W.Frag}
mutual
theorem dp_of : ∀ (n : Nat) (d : D) (v : V), Rep m H d v → D.flat n d = true → Dp K H v (toPy d)
  | _, .non, v, r, _ => by cases r; exact .non
  | _, .bl _, v, r, _ => by cases r; exact .bl _
  | _, .int _, v, r, _ => by cases r; exact .int _
  | _, .str _, v, r, _ => by cases r; exact .str _
  | 0, .tup xs, v, r, f => by simp [D.flat] at f
  | 0, .lst xs, v, r, f => by simp [D.flat] at f
  | n + 1, .tup xs, v, r, f => by
    obtain ⟨a, vs, rfl, _, h1, h2⟩ := r
    rw [D.flat] at f
    rw [toPy]
    exact .tup (SqT.of h1) (dps_of n xs vs h2 f)
  | n + 1, .lst xs, v, r, f => by
    obtain ⟨a, vs, rfl, _, h1, h2⟩ := r
    rw [D.flat] at f
    rw [toPy]
    exact .lst (SqL.of h1) (dps_of n xs vs h2 f)
  | n, .dct _ _ _, v, r, f => by cases n <;> simp [D.flat] at f
  | n, .loc _, v, r, f => by cases n <;> simp [D.flat] at f
  | n, .lsi _, v, r, f => by cases n <;> simp [D.flat] at f
theorem dps_of : ∀ (n : Nat) (ds : List D) (vs : List V), Reps m H ds vs → D.flats n ds = true → DpAll K H vs (toPys ds)
  | _, [], vs, r, _ => by rw [r, toPys]; exact .nil
  | n, d :: ds, vs, r, f => by
    obtain ⟨v, u, rfl, h1, h2⟩ := r
    rw [D.flats, Bool.and_eq_true] at f
    rw [toPys]
    exact .cons (dp_of n d v h1 f.1) (dps_of n ds u h2 f.2)
end
mutual
theorem eqv_py : ∀ (a b : D) (n k : Nat), D.flat n a = true → D.flat k b = true → PyData.eqv (toPy a) (toPy b) = D.eqv a b
  | .dct _ _ _, _, n, k, f, _ => by cases n <;> simp [D.flat] at f
  | .loc _, _, n, k, f, _ => by cases n <;> simp [D.flat] at f
  | .lsi _, _, n, k, f, _ => by cases n <;> simp [D.flat] at f
  | a, .dct _ _ _, n, k, _, g => by cases k <;> simp [D.flat] at g
  | a, .loc _, n, k, _, g => by cases k <;> simp [D.flat] at g
  | .non, .non, _, _, _, _ | .non, .bl _, _, _, _, _ | .non, .int _, _, _, _, _ | .non, .str _, _, _, _, _ | .non, .tup _, _, _, _, _ | .non, .lst _, _, _, _, _ => by simp [toPy, PyData.eqv, D.eqv]
  | .bl a, .bl b, _, _, _, _ => by simp [toPy, PyData.eqv, D.eqv]
  | .bl a, .int i, _, _, _, _ => by cases a <;> simp [toPy, PyData.eqv, D.eqv, b2i]
  | .bl _, .non, _, _, _, _ | .bl _, .str _, _, _, _, _ | .bl _, .tup _, _, _, _, _ | .bl _, .lst _, _, _, _, _ => by simp [toPy, PyData.eqv, D.eqv]
  | .int i, .bl b, _, _, _, _ => by cases b <;> simp [toPy, PyData.eqv, D.eqv, b2i]
  | .int _, .int _, _, _, _, _ => by simp [toPy, PyData.eqv, D.eqv]
  | .int _, .non, _, _, _, _ | .int _, .str _, _, _, _, _ | .int _, .tup _, _, _, _, _ | .int _, .lst _, _, _, _, _ => by simp [toPy, PyData.eqv, D.eqv]
  | .str x, .str y, _, _, _, _ => by
    simp only [toPy, PyData.eqv, D.eqv]
    exact Bool.beq_eq_decide_eq x y
  | .str _, .non, _, _, _, _ | .str _, .bl _, _, _, _, _ | .str _, .int _, _, _, _, _ | .str _, .tup _, _, _, _, _ | .str _, .lst _, _, _, _, _ => by simp [toPy, PyData.eqv, D.eqv]
  | .tup xs, .tup ys, n, k, f, g => by
    cases n with
    | zero => simp [D.flat] at f
    | succ n =>
      cases k with
      | zero => simp [D.flat] at g
      | succ k =>
        rw [D.flat] at f g
        simp only [toPy, PyData.eqv, D.eqv]
        exact eqvs_py xs ys n k f g
  | .tup _, .non, _, _, _, _ | .tup _, .bl _, _, _, _, _ | .tup _, .int _, _, _, _, _ | .tup _, .str _, _, _, _, _ | .tup _, .lst _, _, _, _, _ => by simp [toPy, PyData.eqv, D.eqv]
  | .lst xs, .lst ys, n, k, f, g => by
    cases n with
    | zero => simp [D.flat] at f
    | succ n =>
      cases k with
      | zero => simp [D.flat] at g
      | succ k =>
        rw [D.flat] at f g
        simp only [toPy, PyData.eqv, D.eqv]
        exact eqvs_py xs ys n k f g
  | .lst _, .non, _, _, _, _ | .lst _, .bl _, _, _, _, _ | .lst _, .int _, _, _, _, _ | .lst _, .str _, _, _, _, _ | .lst _, .tup _, _, _, _, _ => by simp [toPy, PyData.eqv, D.eqv]
theorem eqvs_py : ∀ (a b : List D) (n k : Nat), D.flats n a = true → D.flats k b = true → PyData.eqvAll (toPys a) (toPys b) = D.eqvs a b
  | [], [], _, _, _, _ => by simp [toPys, PyData.eqvAll, D.eqvs]
  | [], _ :: _, _, _, _, _ => by simp [toPys, PyData.eqvAll, D.eqvs]
  | _ :: _, [], _, _, _, _ => by simp [toPys, PyData.eqvAll, D.eqvs]
  | x :: xs, y :: ys, n, k, f, g => by
    rw [D.flats, Bool.and_eq_true] at f g
    simp only [toPys, PyData.eqvAll, D.eqvs]
    rw [eqv_py x y n k f.1 g.1, eqvs_py xs ys n k f.2 g.2]
end
mutual
theorem lay_of : ∀ (n : Nat) (d : D), D.flat n d = true → (toPy d).canLay0 = true ∧ (toPy d).depth ≤ n + 1
  | _, .non, _ => ⟨rfl, by simp [toPy, PyData.depth]⟩
  | _, .bl _, _ => ⟨rfl, by simp [toPy, PyData.depth]⟩
  | _, .int _, _ => ⟨rfl, by simp [toPy, PyData.depth]⟩
  | n, .str x, f => ⟨by simpa [D.flat, toPy, PyData.canLay0, PyData.strOk] using f, by simp [toPy, PyData.depth]⟩
  | 0, .tup _, f => by simp [D.flat] at f
  | 0, .lst _, f => by simp [D.flat] at f
  | n + 1, .tup xs, f => by
    rw [D.flat] at f
    have q := lays_of n xs f
    exact ⟨by simpa [toPy, PyData.canLay0] using q.1, by simp only [toPy, PyData.depth]; omega⟩
  | n + 1, .lst xs, f => by
    rw [D.flat] at f
    have q := lays_of n xs f
    exact ⟨by simpa [toPy, PyData.canLay0] using q.1, by simp only [toPy, PyData.depth]; omega⟩
  | n, .dct _ _ _, f => by cases n <;> simp [D.flat] at f
  | n, .loc _, f => by cases n <;> simp [D.flat] at f
theorem lays_of : ∀ (n : Nat) (ds : List D), D.flats n ds = true → PyData.canLayAll0 (toPys ds) = true ∧ PyData.depthAll (toPys ds) ≤ n + 1
  | n, [], _ => ⟨rfl, by simp [toPys, PyData.depthAll]⟩
  | n, d :: ds, f => by
    rw [D.flats, Bool.and_eq_true] at f
    have q := lay_of n d f.1
    have q2 := lays_of n ds f.2
    refine ⟨by simp [toPys, PyData.canLayAll0, q.1, q2.1], ?_⟩
    simp only [toPys, PyData.depthAll]
    omega
end
theorem shaped_of {d : D} (f : d.depthOk = true) : SeqAt.shaped (toPy d) = true := by
  have q := lay_of 20 d f
  unfold SeqAt.shaped
  rw [q.1]
  simp only [Bool.true_and, decide_eq_true_eq]
  omega
end

/-! ### T: what a part computes -/
/-- a new list: it was not there, and nothing that is still changed leans on it -/
def Fresh (fr : Bool) (H : Hp) (d : D) (v : V) (m' : Ms) (H' : Hp) (h' : Hy) : Prop := fr = true → (∃ xs, d = .lst xs) → ∃ p, v = .ref p ∧ H p = none ∧ HRep (m'.mark p) H' h'
def T (fr : Bool) (dn : Sl → Hy → R D) : TE := fun σ H Q => ∃ m sl h d h', HRep m H h ∧ SRep m H sl σ ∧ dn sl h = .ok d h' ∧
  ∀ v m' H', Ext m m' H H' → HRep m' H' h' → Rep m' H' d v → Fresh fr H d v m' H' h' → Q v H'
def Ts (dn : Sl → Hy → R (List D)) : TA := fun σ H Q => ∃ m sl h ds h', HRep m H h ∧ SRep m H sl σ ∧ dn sl h = .ok ds h' ∧
  ∀ vs m' H', Ext m m' H H' → HRep m' H' h' → Reps m' H' ds vs → Q vs H'
/-- as a test -/
def TB (dn : Sl → Hy → R Bool) : TT := fun σ H Q => ∃ m sl h k h', HRep m H h ∧ SRep m H sl σ ∧ dn sl h = .ok k h' ∧
  ∀ m' H', Ext m m' H H' → HRep m' H' h' → Q k H'
section
variable {σ : L2.St} {H : Hp} {m : Ms} {sl : Sl} {h h' : Hy} {d : D}
theorem T.to {fr : Bool} {dn : Sl → Hy → R D} {Q : VK} (hr : HRep m H h) (sr : SRep m H sl σ) (e : dn sl h = .ok d h')
    (q : ∀ v m' H', Ext m m' H H' → HRep m' H' h' → SRep m' H' sl σ → Rep m' H' d v → Fresh fr H d v m' H' h' → Q v H') : T fr dn σ H Q :=
  ⟨m, sl, h, d, h', hr, sr, e, fun v m' H' x hr' rv f => q v m' H' x hr' (sr.ext x) rv f⟩
theorem Ts.to {ds : List D} {dn : Sl → Hy → R (List D)} {Q : List V → Hp → Prop} (hr : HRep m H h) (sr : SRep m H sl σ) (e : dn sl h = .ok ds h')
    (q : ∀ vs m' H', Ext m m' H H' → HRep m' H' h' → SRep m' H' sl σ → Reps m' H' ds vs → Q vs H') : Ts dn σ H Q :=
  ⟨m, sl, h, ds, h', hr, sr, e, fun v m' H' x hr' rv => q v m' H' x hr' (sr.ext x) rv⟩
theorem TB.to {k : Bool} {dn : Sl → Hy → R Bool} {Q : Bool → Hp → Prop} (hr : HRep m H h) (sr : SRep m H sl σ) (e : dn sl h = .ok k h')
    (q : ∀ m' H', Ext m m' H H' → HRep m' H' h' → SRep m' H' sl σ → Q k H') : TB dn σ H Q :=
  ⟨m, sl, h, k, h', hr, sr, e, fun m' H' x hr' => q m' H' x hr' (sr.ext x)⟩
end
theorem T.weak {dn : Sl → Hy → R D} {σ : L2.St} {H : Hp} {Q : VK} (t : T false dn σ H Q) : T true dn σ H Q := by
  obtain ⟨m, sl, h, d, h', a, b, c, q⟩ := t
  exact ⟨m, sl, h, d, h', a, b, c, fun v m' H' x r rv _ => q v m' H' x r rv fun z => nomatch z⟩

/-! ### operators -/
def bop : Bo → Operator
  | .add => .Add | .sub => .Sub | .mul => .Mult | .fdiv => .FloorDiv | .mod => .Mod | .pow => .Pow
/-- what an operator is asked, by data -/
def rBo (o : Bo) : R2 := fun x y H Q => ∃ m h a b d h', HRep m H h ∧ Rep m H a x ∧ Rep m H b y ∧ o.ap h a b = .ok d h' ∧
  ∀ v m' H', Ext m m' H H' → HRep m' H' h' → Rep m' H' d v → Fresh true H d v m' H' h' → Q v H'
theorem lim_le {n : Nat} (h : n ≤ lim) : n ≤ sizeLine := by
  rw [sizeLine_eq]
  have : lim = 1000000 := rfl
  omega
theorem mkT_ok {xs : List D} {h h' : Hy} {d : D} (e : mkT xs h = .ok d h') : xs.length ≤ lim ∧ d = .tup xs ∧ h' = h := by
  unfold mkT at e
  split at e
  · cases e; exact ⟨by assumption, rfl, rfl⟩
  · cases e
theorem mkL_ok {xs : List D} {h h' : Hy} {d : D} (e : mkL xs h = .ok d h') : xs.length ≤ lim ∧ d = .lst xs ∧ h' = h := by
  unfold mkL at e
  split at e
  · cases e; exact ⟨by assumption, rfl, rfl⟩
  · cases e
theorem fresh_no {H : Hp} {d : D} {v : V} {m' : Ms} {H' : Hp} {h' : Hy} : Fresh false H d v m' H' h' := fun z => nomatch z
theorem fresh_at {fr : Bool} {H : Hp} {p : Addr} {d : D} {m' : Ms} {H' : Hp} {h' : Hy} (hp : H p = none) (mk : HRep (m'.mark p) H' h') : Fresh fr H d (.ref p) m' H' h' := fun _ _ => ⟨p, rfl, hp, mk⟩
theorem fresh_int {fr : Bool} {H : Hp} {i : Int} {v : V} {m' : Ms} {H' : Hp} {h' : Hy} : Fresh fr H (.int i) v m' H' h' := fun _ ⟨_, z⟩ => nomatch z
theorem fresh_bl {fr : Bool} {H : Hp} {i : Bool} {v : V} {m' : Ms} {H' : Hp} {h' : Hy} : Fresh fr H (.bl i) v m' H' h' := fun _ ⟨_, z⟩ => nomatch z
theorem fresh_tup {fr : Bool} {H : Hp} {xs : List D} {v : V} {m' : Ms} {H' : Hp} {h' : Hy} : Fresh fr H (.tup xs) v m' H' h' := fun _ ⟨_, z⟩ => nomatch z
theorem pow64 : (18446744073709551616 : Nat) = 2 ^ 64 := by decide
section
variable {X : Cx}
theorem bo_ok (o : Bo) : OpR X (binaryOp (bop o)) (rBo o) := by
  intro pins s σ H x y v u Q I rx ry hq
  obtain ⟨m, h, a, b, d, h', hr, ra, rb, e, q⟩ := hq
  have fin : ∀ {k : Int}, d = .int k → h' = h → Q (.int k) H := fun {k} e1 e2 => by
    subst e1 e2
    exact q _ m H Ext.refl hr rfl fresh_int
  cases a with
  | int i =>
    cases ra
    cases b with
    | int j =>
      cases rb
      cases o with
      | add => cases e; exact op_add pins s σ H _ _ v u Q I rx ry ⟨i, j, rfl, rfl, fin rfl rfl⟩
      | sub => cases e; exact op_sub pins s σ H _ _ v u Q I rx ry ⟨i, j, rfl, rfl, fin rfl rfl⟩
      | mul =>
        simp only [Bo.ap] at e
        split at e
        · rename_i hc
          cases e
          refine op_mul pins s σ H _ _ v u Q I rx ry ⟨i, j, rfl, rfl, ?_, fin rfl rfl⟩
          simp only [Bool.or_eq_true, decide_eq_true_eq] at hc
          rcases hc with hc | hc
          · exact .inl ⟨by omega, by omega⟩
          · exact .inr ⟨by omega, by omega⟩
        · cases e
      | fdiv =>
        simp only [Bo.ap] at e
        split at e
        · rename_i hc
          cases e
          simp only [Bool.and_eq_true, decide_eq_true_eq] at hc
          exact op_fdivW pins s σ H _ _ v u Q I rx ry ⟨i, j, rfl, rfl, wide_div hc.1 hc.2 (by omega) (by omega), fin rfl rfl⟩
        · cases e
      | mod =>
        simp only [Bo.ap] at e
        split at e
        · rename_i hc
          cases e
          exact op_mod pins s σ H _ _ v u Q I rx ry ⟨i, j, rfl, rfl, hc, fin rfl rfl⟩
        · cases e
      | pow =>
        simp only [Bo.ap] at e
        split at e
        · rename_i hc
          cases e
          simp only [Bool.and_eq_true, decide_eq_true_eq] at hc
          exact op_pow pins s σ H _ _ v u Q I rx ry ⟨i, j, rfl, rfl, ⟨hc.1.1, by omega, by omega⟩, fin rfl rfl⟩
        · cases e
    | _ => cases o <;> simp [Bo.ap, lstOf] at e
  | tup xs =>
    obtain ⟨a1, vs, rfl, hm1, h1, r1⟩ := ra
    cases b with
    | tup ys =>
      obtain ⟨b1, ws, rfl, hm2, h2, r2⟩ := rb
      cases o with
      | add =>
        obtain ⟨hl, rfl, rfl⟩ := mkT_ok e
        rw [List.length_append] at hl
        refine op_catA pins s σ H _ _ v u Q I rx ry ⟨a1, b1, vs, ws, rfl, rfl, SqT.of h1, SqT.of h2, by rw [r1.length, r2.length]; exact lim_le hl, fun e0 => ?_, fun e0 e1 => ?_, fun _ _ p hp => ?_⟩
        · refine q _ m H Ext.refl hr ?_ fresh_tup
          have : xs = [] := by
            have := r1.length; rw [e0] at this
            exact List.eq_nil_of_length_eq_zero this.symm
          rw [this]
          exact ⟨b1, ws, rfl, hm2, h2, r2⟩
        · refine q _ m H Ext.refl hr ?_ fresh_tup
          have : ys = [] := by
            have := r2.length; rw [e1] at this
            exact List.eq_nil_of_length_eq_zero this.symm
          rw [this, List.append_nil]
          exact ⟨a1, vs, rfl, hm1, h1, r1⟩
        · exact q _ m _ (Ext.laid hp) (hr.laid hp) (Rep.tupNew hr hp (r1.append r2)) fresh_tup
      | _ => cases e
    | int k =>
      cases rb
      cases o with
      | mul =>
        simp only [Bo.ap] at e
        split at e
        · rename_i hc
          cases e
          simp only [Bool.and_eq_true, decide_eq_true_eq] at hc
          by_cases hs : xs = [] ∨ k ≤ 1
          · refine op_repS pins s σ H _ _ v u Q I rx ry ⟨a1, k, vs, rfl, rfl, SqT.of h1, hc.1.1, hc.1.2, ?_, fun h0 => ?_, fun h0 hk p hp => ?_⟩
            · exact hs.imp_left fun z => by
                have := r1.length
                rw [z] at this
                exact List.eq_nil_of_length_eq_zero this
            · have e1 : (List.replicate k.toNat xs).flatten = xs := by
                rcases h0 with z | z
                · have := r1.length
                  rw [z] at this
                  have e2 : xs = [] := List.eq_nil_of_length_eq_zero this.symm
                  rw [e2]
                  simp
                · rw [z]
                  simp
              refine q _ m _ Ext.refl hr ?_ fresh_tup
              rw [e1]
              exact ⟨a1, vs, rfl, hm1, h1, r1⟩
            · have e1 : (List.replicate k.toNat xs).flatten = [] := by
                rw [Int.toNat_of_nonpos hk]
                rfl
              refine q _ m _ (Ext.laid hp) (hr.laid hp) ?_ fresh_tup
              rw [e1]
              exact Rep.tupNew (vs := []) hr hp rfl
          refine op_repT pins s σ H _ _ v u Q I rx ry ⟨a1, k, vs, rfl, rfl, SqT.of h1, fun z => ?_, ?_, hc.1.2, by rw [r1.length]; exact hc.2, fun p hp => q _ m _ (Ext.laid hp) (hr.laid hp) (Rep.tupNew hr hp (r1.rep _)) fresh_tup⟩
          · have := r1.length
            rw [z] at this
            exact hs (.inl (List.eq_nil_of_length_eq_zero this.symm))
          · exact Classical.byContradiction fun z => hs (.inr (by omega))
        · cases e
      | _ => simp [Bo.ap, lstOf] at e
    | _ => cases o <;> simp [Bo.ap, lstOf] at e
  | lst xs =>
    cases o with
    | add =>
      simp only [Bo.ap] at e
      split at e
      · rename_i e1 e2
        obtain ⟨a1, vs, rfl, h1, r1⟩ := lst_of (K := X.K) hr ra e1
        obtain ⟨b1, ws, rfl, h2, r2⟩ := lst_of (K := X.K) hr rb e2
        obtain ⟨hl, rfl, rfl⟩ := mkL_ok e
        rw [List.length_append] at hl
        exact op_cat pins s σ H _ _ v u Q I rx ry ⟨a1, b1, vs, ws, rfl, rfl, h1, h2, by rw [r1.length, r2.length]; exact lim_le hl, fun p hp => q _ m _ (Ext.laid hp) (hr.laid hp) (Rep.lstNew hr hp (r1.append r2)) (fresh_at hp (hr.mark hp))⟩
      · cases e
    | mul =>
      cases b with
      | int k =>
        cases rb
        simp only [Bo.ap] at e
        split at e
        · rename_i hc
          cases e
          simp only [Bool.and_eq_true, decide_eq_true_eq] at hc
          obtain ⟨a1, vs, rfl, hm1, h1, r1⟩ := ra
          exact op_rep pins s σ H _ _ v u Q I rx ry ⟨a1, k, vs, rfl, rfl, h1, by omega, by omega, by rw [r1.length]; exact lim_le hc.1.1, fun p hp => q _ m _ (Ext.laid hp) (hr.laid hp) (Rep.lstNew hr hp (r1.rep _)) (fresh_at hp (hr.mark hp))⟩
        · cases e
      | _ => simp [Bo.ap] at e
    | _ => cases b <;> simp [Bo.ap] at e
  | loc n =>
    cases o with
    | add =>
      simp only [Bo.ap] at e
      split at e
      · rename_i e1 e2
        obtain ⟨a1, vs, rfl, h1, r1⟩ := lst_of (K := X.K) hr ra e1
        obtain ⟨b1, ws, rfl, h2, r2⟩ := lst_of (K := X.K) hr rb e2
        obtain ⟨hl, rfl, rfl⟩ := mkL_ok e
        rw [List.length_append] at hl
        exact op_cat pins s σ H _ _ v u Q I rx ry ⟨a1, b1, vs, ws, rfl, rfl, h1, h2, by rw [r1.length, r2.length]; exact lim_le hl, fun p hp => q _ m _ (Ext.laid hp) (hr.laid hp) (Rep.lstNew hr hp (r1.append r2)) (fresh_at hp (hr.mark hp))⟩
      · cases e
    | _ => cases b <;> simp [Bo.ap] at e
  | _ => cases o <;> cases b <;> simp [Bo.ap, lstOf] at e
end
end Z

end

section
set_option Elab.async false
set_option linter.all false
set_option maxRecDepth 100000
set_option autoImplicit false
/-! Z: dicts: their keys, what they hold. -/
namespace Z
open PySem PySem.Spec PyProof.Rows L2
/-! ### keys -/
theorem kD_eqv (a b : Key) : D.eqv (kD a) (kD b) = decide (a = b) := by
  cases a <;> cases b <;> simp [kD, D.eqv] <;> first | exact Bool.beq_eq_decide_eq _ _ | skip
theorem kDs_eqv : ∀ (a b : List Key), D.eqvs (a.map kD) (b.map kD) = decide (a = b)
  | [], [] => rfl
  | [], _ :: _ => rfl
  | _ :: _, [] => rfl
  | x :: xs, y :: ys => by
    simp only [List.map_cons, D.eqvs, kD_eqv, kDs_eqv xs ys]
    by_cases h1 : x = y <;> by_cases h2 : xs = ys <;> simp [h1, h2]
theorem tD_eqv (a b : List Key) : D.eqv (tD a) (tD b) = decide (a = b) := by
  unfold tD
  simp only [D.eqv]
  exact kDs_eqv a b
theorem key_of_f {z : D} (h : keyB false z = true) : ∃ k, z = kD k := by
  cases z <;> simp [keyB] at h
  · exact ⟨.inl _, rfl⟩
  · exact ⟨.inr _, rfl⟩
theorem keys_of : ∀ {ks : List D}, (ks.all fun k => match k with
    | .int _ => true
    | .str _ => true
    | _ => false) = true → ∃ k : List Key, ks = k.map kD
  | [], _ => ⟨[], rfl⟩
  | x :: xs, h => by
    rw [List.all_cons, Bool.and_eq_true] at h
    obtain ⟨r, rfl⟩ := keys_of h.2
    obtain ⟨k, rfl⟩ : ∃ k, x = kD k := by
      have h1 := h.1
      cases x <;> first | exact ⟨.inl _, rfl⟩ | exact ⟨.inr _, rfl⟩ | cases h1
    exact ⟨k :: r, rfl⟩
theorem key_of_t {z : D} (h : keyB true z = true) : ∃ k, z = tD k := by
  cases z with
  | tup ks =>
    obtain ⟨k, rfl⟩ := keys_of (show (ks.all _) = true from h)
    exact ⟨k, rfl⟩
  | _ => simp [keyB] at h
theorem rep_kD {m : Ms} {H : Hp} {k : Key} {v : V} (r : Rep m H (kD k) v) : v = kV k := by
  cases k <;> exact r
theorem reps_kD {m : Ms} {H : Hp} : ∀ {ks : List Key} {vs : List V}, Reps m H (ks.map kD) vs → vs = ks.map kV
  | [], vs, r => r
  | k :: ks, vs, r => by
    obtain ⟨v, u, rfl, h1, h2⟩ := r
    rw [rep_kD h1, reps_kD h2]
    rfl
theorem rep_kV {m : Ms} {H : Hp} (k : Key) : Rep m H (kD k) (kV k) := by
  cases k <;> rfl
theorem reps_keys {m : Ms} {H : Hp} : ∀ kvs : List (Key × V), Reps m H (kvs.map fun p => kD p.1) (kvs.map fun p => kV p.1)
  | [] => rfl
  | kv :: kvs => ⟨_, _, rfl, rep_kV kv.1, reps_keys kvs⟩
section
variable {κ : Type} [DecidableEq κ] {f : κ → D} (hf : ∀ a b, D.eqv (f a) (f b) = decide (a = b))
include hf
theorem any_keys (k : κ) : ∀ kvs : List (κ × V), ((kvs.map fun p => f p.1).any fun x => D.eqv x (f k)) = kvs.any fun kv => decide (kv.1 = k)
  | [] => rfl
  | p :: r => by rw [List.map_cons, List.any_cons, List.any_cons, any_keys k r, hf]
theorem put_rep {m : Ms} {H : Hp} {k : κ} {x : D} {v : V} (rx : Rep m H x v) : ∀ {kvs : List (κ × V)} {vs : List D}, Reps m H vs (kvs.map (·.2)) →
    (dput (f k) x (kvs.map fun p => f p.1) vs).1 = (putK kvs k v).map (fun p => f p.1) ∧ Reps m H (dput (f k) x (kvs.map fun p => f p.1) vs).2 ((putK kvs k v).map (·.2)) := by
  intro kvs vs r
  unfold dput putK
  rw [any_keys hf]
  by_cases hc : (kvs.any fun kv => decide (kv.1 = k)) = true
  · rw [if_pos hc, if_pos hc]
    refine ⟨?_, ?_⟩
    · rw [List.map_map]
      refine List.map_congr_left fun p _ => ?_
      show f p.1 = f (if p.1 = k then (p.1, v) else p).1
      split <;> rfl
    · clear hc
      induction kvs generalizing vs with
      | nil =>
        have : vs = [] := by
          cases vs with
          | nil => rfl
          | cons d ds => obtain ⟨_, _, e, _⟩ := r; cases e
        subst this
        rfl
      | cons p kvs ih =>
        cases vs with
        | nil => cases r
        | cons d ds =>
          obtain ⟨w, u, e, h1, h2⟩ := r
          cases e
          refine ⟨_, _, rfl, ?_, ih h2⟩
          show Rep m H (if D.eqv (f p.1) (f k) = true then x else d) (if p.1 = k then (p.1, v) else p).2
          rw [hf]
          by_cases hp : p.1 = k
          · rw [if_pos hp, if_pos (decide_eq_true hp)]; exact rx
          · rw [if_neg hp, if_neg (by simp [hp])]; exact h1
  · rw [if_neg hc, if_neg hc]
    refine ⟨by rw [List.map_append]; rfl, ?_⟩
    rw [List.map_append]
    exact r.append ⟨v, [], rfl, rx, rfl⟩
theorem look_rep {m : Ms} {H : Hp} {k : κ} : ∀ {kvs : List (κ × V)} {vs : List D}, Reps m H vs (kvs.map (·.2)) →
    (∀ d, dlook (f k) (kvs.map fun p => f p.1) vs = some d → ∃ v, valV kvs k = some v ∧ Rep m H d v) ∧ (dlook (f k) (kvs.map fun p => f p.1) vs = none → valV kvs k = none)
  | [], vs, r => by
    have : vs = [] := by
      cases vs with
      | nil => rfl
      | cons d ds => obtain ⟨_, _, e, _⟩ := r; cases e
    subst this
    exact ⟨fun d e => by simp [dlook] at e, fun _ => rfl⟩
  | p :: kvs, vs, r => by
    cases vs with
    | nil => cases r
    | cons d ds =>
      obtain ⟨w, u, e, h1, h2⟩ := r
      cases e
      have ih := look_rep (k := k) h2
      simp only [List.map_cons, dlook, hf]
      by_cases hp : p.1 = k
      · rw [if_pos (decide_eq_true hp), valV_pos hp]
        exact ⟨fun d' e => by cases e; exact ⟨_, rfl, h1⟩, fun e => by cases e⟩
      · rw [if_neg (by simp [hp]), valV_neg hp]
        exact ih
end
section
variable {m : Ms} {H : Hp} {h : Hy}
/-- a dict that is read: where it stands -/
theorem dct_of {d : D} {v : V} {t : Bool} {ks vs : List D} (hr : HRep m H h) (r : Rep m H d v) (e : dctOf h d = some (t, ks, vs)) : ∃ a u ws, v = .ref a ∧ Rd H a u ∧ DHo t u ks ws ∧ Reps m H vs ws := by
  cases d with
  | dct t' ks' vs' =>
    cases e
    obtain ⟨a, o, u, ws, rfl, _, ha, hd, hv⟩ := r
    exact ⟨a, u, ws, rfl, .inr ⟨o, ha⟩, hd, hv⟩
  | loc n =>
    simp only [dctOf] at e
    obtain ⟨a, rfl, ha⟩ := r
    split at e
    · rename_i t ks' vs' ho
      cases e
      obtain ⟨u, ws, k1, k2, k3⟩ := hr.ob n _ a ho ha
      exact ⟨a, u, ws, rfl, .inl k1, k2, k3⟩
    · cases e
  | _ => cases e
/-- what is looked up -/
theorem dlook_get {t : Bool} {a : Addr} {u : HO} {ks vs : List D} {ws : List V} {z : D} {y : V} (k1 : Rd H a u) (k2 : DHo t u ks ws) (k3 : Reps m H vs ws) (hk : keyB t z = true) (rz : Rep m H z y) :
    ∃ o, DGet H a y o ∧ (∀ d, dlook z ks vs = some d → ∃ v, o = some v ∧ Rep m H d v) ∧ (dlook z ks vs = none → o = none) := by
  cases t with
  | false =>
    obtain ⟨kvs, rfl, rfl, rfl⟩ := k2
    obtain ⟨k, rfl⟩ := key_of_f hk
    cases rep_kD rz
    exact ⟨_, .inl ⟨kvs, k, k1, rfl, rfl⟩, look_rep kD_eqv k3⟩
  | true =>
    obtain ⟨kvs, rfl, rfl, rfl⟩ := k2
    obtain ⟨k, rfl⟩ := key_of_t hk
    obtain ⟨b, us, rfl, _, hb, hu⟩ := rz
    cases reps_kD hu
    exact ⟨_, .inr ⟨kvs, k, b, k1, rfl, hb, rfl⟩, look_rep tD_eqv k3⟩
theorem dlook_some {t : Bool} {a : Addr} {u : HO} {ks vs : List D} {ws : List V} {z : D} {y : V} (k1 : Rd H a u) (k2 : DHo t u ks ws) (k3 : Reps m H vs ws) (hk : keyB t z = true) (rz : Rep m H z y) :
    ∃ o, DGet H a y o ∧ o.isSome = (dlook z ks vs).isSome := by
  obtain ⟨o, g, h1, h2⟩ := dlook_get k1 k2 k3 hk rz
  refine ⟨o, g, ?_⟩
  cases e : dlook z ks vs with
  | none => rw [h2 e]; rfl
  | some d => obtain ⟨v, h3, _⟩ := h1 d e; rw [h3]; rfl
end
end Z

end

section
set_option Elab.async false
set_option linter.all false
set_option maxRecDepth 100000
set_option autoImplicit false
/-! Z: comparisons over the layer. -/
namespace Z
open PySem PySem.Spec PyProof.Rows L2

mutual
theorem alike_py : ∀ (a b : D) (n k : Nat), D.flat n a = true → D.flat k b = true → PySem.W.alike (toPy a) (toPy b) = D.alike a b
  | .dct _ _ _, _, n, k, f, _ => by cases n <;> simp [D.flat] at f
  | .loc _, _, n, k, f, _ => by cases n <;> simp [D.flat] at f
  | .lsi _, _, n, k, f, _ => by cases n <;> simp [D.flat] at f
  | a, .dct _ _ _, n, k, _, g => by cases k <;> simp [D.flat] at g
  | a, .loc _, n, k, _, g => by cases k <;> simp [D.flat] at g
  | .tup xs, .tup ys, n, k, f, g => by
    cases n with
    | zero => simp [D.flat] at f
    | succ n =>
      cases k with
      | zero => simp [D.flat] at g
      | succ k =>
        rw [D.flat] at f g
        simp only [toPy, PySem.W.alike, D.alike]
        exact alikes_py xs ys n k f g
  | .lst xs, .lst ys, n, k, f, g => by
    cases n with
    | zero => simp [D.flat] at f
    | succ n =>
      cases k with
      | zero => simp [D.flat] at g
      | succ k =>
        rw [D.flat] at f g
        simp only [toPy, PySem.W.alike, D.alike]
        exact alikes_py xs ys n k f g
  | .non, .non, _, _, _, _ | .non, .bl _, _, _, _, _ | .non, .int _, _, _, _, _ | .non, .str _, _, _, _, _ | .non, .tup _, _, _, _, _ | .non, .lst _, _, _, _, _ => by simp [toPy, PySem.W.alike, D.alike]
  | .bl _, .non, _, _, _, _ | .bl _, .bl _, _, _, _, _ | .bl _, .int _, _, _, _, _ | .bl _, .str _, _, _, _, _ | .bl _, .tup _, _, _, _, _ | .bl _, .lst _, _, _, _, _ => by simp [toPy, PySem.W.alike, D.alike]
  | .int _, .non, _, _, _, _ | .int _, .bl _, _, _, _, _ | .int _, .int _, _, _, _, _ | .int _, .str _, _, _, _, _ | .int _, .tup _, _, _, _, _ | .int _, .lst _, _, _, _, _ => by simp [toPy, PySem.W.alike, D.alike]
  | .str _, .non, _, _, _, _ | .str _, .bl _, _, _, _, _ | .str _, .int _, _, _, _, _ | .str _, .str _, _, _, _, _ | .str _, .tup _, _, _, _, _ | .str _, .lst _, _, _, _, _ => by simp [toPy, PySem.W.alike, D.alike]
  | .tup _, .non, _, _, _, _ | .tup _, .bl _, _, _, _, _ | .tup _, .int _, _, _, _, _ | .tup _, .str _, _, _, _, _ | .tup _, .lst _, _, _, _, _ => by simp [toPy, PySem.W.alike, D.alike]
  | .lst _, .non, _, _, _, _ | .lst _, .bl _, _, _, _, _ | .lst _, .int _, _, _, _, _ | .lst _, .str _, _, _, _, _ | .lst _, .tup _, _, _, _, _ => by simp [toPy, PySem.W.alike, D.alike]
theorem alikes_py : ∀ (a b : List D) (n k : Nat), D.flats n a = true → D.flats k b = true → PySem.W.alikeAll (toPys a) (toPys b) = D.alikes a b
  | [], [], _, _, _, _ => by simp [toPys, PySem.W.alikeAll, D.alikes]
  | [], _ :: _, _, _, _, _ => by simp [toPys, PySem.W.alikeAll, D.alikes]
  | _ :: _, [], _, _, _, _ => by simp [toPys, PySem.W.alikeAll, D.alikes]
  | x :: xs, y :: ys, n, k, f, g => by
    rw [D.flats, Bool.and_eq_true] at f g
    simp only [toPys, PySem.W.alikeAll, D.alikes]
    rw [alike_py x y n k f.1 g.1, alikes_py xs ys n k f.2 g.2]
end
mutual
theorem lt_py : ∀ (a b : D) (n k : Nat), D.flat n a = true → D.flat k b = true → D.alike a b = true → a.isNon = false → PySem.W.dataLt (toPy a) (toPy b) = D.lt a b
  | .dct _ _ _, _, n, k, f, _, _, _ => by cases n <;> simp [D.flat] at f
  | .loc _, _, n, k, f, _, _, _ => by cases n <;> simp [D.flat] at f
  | .lsi _, _, n, k, f, _, _, _ => by cases n <;> simp [D.flat] at f
  | .non, _, _, _, _, _, _, h => by simp [D.isNon] at h
  | .bl a, b, n, k, f, g, e, _ => by
    cases b with
    | bl b =>
      simp only [toPy, D.lt]
      rw [PySem.W.dataLt_bool]
      cases a <;> cases b <;> rfl
    | _ => simp [D.alike] at e
  | .int a, b, n, k, f, g, e, _ => by
    cases b with
    | int b => simp only [toPy, D.lt]; exact PySem.W.dataLt_int a b
    | _ => simp [D.alike] at e
  | .str a, b, n, k, f, g, e, _ => by
    cases b with
    | str b => simp only [toPy, D.lt]; exact PySem.W.dataLt_str a b
    | _ => simp [D.alike] at e
  | .tup xs, b, n, k, f, g, e, _ => by
    cases b with
    | tup ys =>
      cases n with
      | zero => simp [D.flat] at f
      | succ n =>
        cases k with
        | zero => simp [D.flat] at g
        | succ k =>
          rw [D.flat] at f g
          rw [D.alike] at e
          simp only [toPy, D.lt]
          rw [PySem.W.dataLt_tuple]
          exact lts_py xs ys n k f g e
    | _ => simp [D.alike] at e
  | .lst xs, b, n, k, f, g, e, _ => by
    cases b with
    | lst ys =>
      cases n with
      | zero => simp [D.flat] at f
      | succ n =>
        cases k with
        | zero => simp [D.flat] at g
        | succ k =>
          rw [D.flat] at f g
          rw [D.alike] at e
          simp only [toPy, D.lt]
          rw [PySem.W.dataLt_list]
          exact lts_py xs ys n k f g e
    | _ => simp [D.alike] at e
theorem lts_py : ∀ (a b : List D) (n k : Nat), D.flats n a = true → D.flats k b = true → D.alikes a b = true → PyProof.Rows.lexLt PyProof.Rows.itemOrd (PySem.W.keyToksAll (toPys a)) (PySem.W.keyToksAll (toPys b)) = D.lts a b
  | [], [], _, _, _, _, _ => by simp only [toPys, D.lts]; decide
  | [], y :: ys, _, _, _, _, _ => by
    simp only [toPys, D.lts]
    rw [PySem.W.toks_all_cons, PySem.W.keyToksAll, PySem.W.lex_atom (by decide)]
    decide
  | x :: xs, [], _, _, _, _, _ => by
    simp only [toPys, D.lts]
    rw [PySem.W.toks_all_cons, PySem.W.keyToksAll, PySem.W.lex_atom (by decide)]
    decide
  | x :: xs, y :: ys, n, k, f, g, e => by
    rw [D.flats, Bool.and_eq_true] at f g
    rw [D.alikes, Bool.and_eq_true] at e
    have al : PySem.W.alike (toPy x) (toPy y) = true := by rw [alike_py x y n k f.1 g.1]; exact e.1
    have eq := eqv_py x y n k f.1 g.1
    simp only [toPys, D.lts]
    cases h : D.eqv x y with
    | true =>
      rw [h] at eq
      rw [PySem.W.dataLt_all_yes al eq]
      exact lts_py xs ys n k f.2 g.2 e.2
    | false =>
      rw [h] at eq
      rw [PySem.W.dataLt_all_no al eq]
      have nn : x.isNon = false := by
        cases x with
        | non => cases y <;> simp [D.alike, D.eqv] at e h
        | _ => rfl
      exact lt_py x y n k f.1 g.1 e.1 nn
end

/-- a value as it is read through -/
theorem dp_deref {m : Ms} {H : Hp} {h : Hy} {K : PySem.W.Frag} {d d' : D} {v : V} (hr : HRep m H h) (r : Rep m H d v) (e : deref h d = some d') (f : d'.depthOk = true) : Dp K H v (toPy d') := by
  cases d with
  | loc n =>
    simp only [deref] at e
    cases ho : h[n]? with
    | none => rw [ho] at e; cases e
    | some o =>
      rw [ho] at e
      obtain ⟨a, rfl, ha⟩ := r
      have q := hr.ob n o a ho ha
      cases o with
      | l xs =>
        cases e
        obtain ⟨vs, h1, h2⟩ := q
        show Dp K H (.ref a) (toPy (.lst xs))
        rw [toPy]
        have f' : D.flat 20 (.lst xs) = true := f
        rw [D.flat] at f'
        exact .lst (SqL.of h1) (dps_of _ xs vs h2 f')
      | d t ks vs =>
        cases e
        simp [Ob.val, D.depthOk, D.flat] at f
  | _ => cases e; exact dp_of 20 _ _ r f

def cop : Cmp → CmpOp
  | .eq => .Eq | .ne => .NotEq | .lt => .Lt | .le => .LtE | .gt => .Gt | .ge => .GtE | .is => .Is | .isN => .IsNot | .inn => .In | .nin => .NotIn
def rCm (c : Cmp) : R2 := fun x y H Q => ∃ m h a b k h', HRep m H h ∧ Rep m H a x ∧ Rep m H b y ∧ c.ap h a b = .ok k h' ∧ Q (.bl k) H
theorem cmp_h {c : Cmp} {h h' : Hy} {a b : D} {k : Bool} (e : c.ap h a b = .ok k h') : h' = h := by
  cases c <;> simp only [Cmp.ap] at e <;> (repeat' split at e) <;> cases e <;> rfl
theorem isNon_of {m : Ms} {H : Hp} {a : D} {x : V} (r : Rep m H a x) : a.isNon = decide (x = .non) := by
  cases a with
  | non => cases r; rfl
  | bl b => cases r; rfl
  | int i => cases r; rfl
  | str z => cases r; rfl
  | tup xs => obtain ⟨_, _, rfl, _⟩ := r; rfl
  | lst xs => obtain ⟨_, _, rfl, _⟩ := r; rfl
  | dct t ks vs => obtain ⟨_, _, _, _, rfl, _⟩ := r; rfl
  | loc n => obtain ⟨_, rfl, _⟩ := r; rfl
  | lsi n => obtain ⟨_, _, rfl, _⟩ := r; rfl
theorem any_py : ∀ (ys : List D) (x : D) (n k : Nat), D.flats n ys = true → D.flat k x = true → ((toPys ys).any fun z => PyData.eqv z (toPy x)) = D.mem x ys
  | [], _, _, _, _, _ => rfl
  | y :: ys, x, n, k, f, g => by
    rw [D.flats, Bool.and_eq_true] at f
    have ih := any_py ys x n k f.2 g
    unfold D.mem at ih ⊢
    rw [toPys, List.any_cons, List.any_cons, eqv_py y x n k f.1 g, ih]
theorem depth_py {ys : List D} (f : D.flats 19 ys = true) : (PyData.list (toPys ys)).canLay0 = true ∧ (PyData.tuple (toPys ys)).canLay0 = true := by
  have q := (lays_of 19 ys f).1
  exact ⟨by simpa [PyData.canLay0] using q, by simpa [PyData.canLay0] using q⟩
/-- what is asked of in, not in, deep -/
theorem in_deep {X : Cx} {pins : List (Addr × Obj)} {s : Shared} {σ : L2.St} {H : Hp} {x y : V} {v u : Value} {m : Ms} {h : Hy} {a b : D} {ys : List D} (hu : X.A.units + 65 < cLine) (I : L2.Inv X pins σ H s) (rx : L2.RelV x v) (ry : L2.RelV y u)
    (hr : HRep m H h) (ra : Rep m H a x) (rb : Rep m H b y) (e : seqOf h b = some ys) (f : a.depthOk = true) (g : D.flats 19 ys = true) :
    (∀ Q : Value → Shared → Prop, Q (.bool (D.mem a ys)) s → wpAny (model X.prog X.w) X.A (compareOp .In v u) Q X.xe s) ∧ (∀ Q : Value → Shared → Prop, Q (.bool (!D.mem a ys)) s → wpAny (model X.prog X.w) X.A (compareOp .NotIn v u) Q X.xe s) := by
  obtain ⟨p, vs, rfl, hs, rv⟩ := seq_of (K := X.K) hr rb e
  obtain ⟨as, r1⟩ := Dp.reads I (toPy a) x v (dp_of 20 a x ra f) rx
  have sa := shaped_of f
  have da := dps_of (K := X.K) 19 ys vs rv g
  have ea := any_py ys a 19 20 g f
  rcases hs with hs | hs
  · obtain ⟨bs, r2⟩ := Dp.reads I (.list (toPys ys)) (.ref p) u (.lst hs da) ry
    exact ⟨fun Q q => SeqAt.in_list_reads r2 r1 (depth_py g).1 (SeqAt.canLay_of_shaped sa) (room_in_shaped sa hu) (by rw [ea]; exact q),
      fun Q q => SeqAt.notIn_list_reads r2 r1 (depth_py g).1 (SeqAt.canLay_of_shaped sa) (room_in_shaped sa hu) (by rw [ea]; exact q)⟩
  · obtain ⟨bs, r2⟩ := Dp.reads I (.tuple (toPys ys)) (.ref p) u (.tup hs da) ry
    exact ⟨fun Q q => SeqAt.in_tuple_reads r2 r1 (depth_py g).2 (SeqAt.canLay_of_shaped sa) (room_in_shaped sa hu) (by rw [ea]; exact q),
      fun Q q => SeqAt.notIn_tuple_reads r2 r1 (depth_py g).2 (SeqAt.canLay_of_shaped sa) (room_in_shaped sa hu) (by rw [ea]; exact q)⟩
theorem str_one {a : Str} {c : Nat} (e : a.cps.toList = [c]) : a = ⟨#[c]⟩ := by
  cases a with
  | mk cps =>
    have : cps = #[c] := Array.toList_inj.mp (by simpa using e)
    rw [this]
theorem cmp_ok {X : Cx} (hu : X.A.units + 65 < cLine) (c : Cmp) : OpR X (compareOp (cop c)) (rCm c) := by
  intro pins s σ H x y v u Q I rx ry hq
  obtain ⟨m, h, a, b, k, h', hr, ra, rb, e, q⟩ := hq
  cases c with
  | eq =>
    simp only [Cmp.ap] at e
    split at e
    · rename_i a' b' e1 e2
      split at e
      · rename_i hc
        rw [Bool.and_eq_true] at hc
        cases e
        refine op_eqD (by omega) pins s σ H x y v u Q I rx ry ⟨_, _, dp_deref hr ra e1 hc.1, dp_deref hr rb e2 hc.2, shaped_of hc.1, shaped_of hc.2, ?_⟩
        rw [eqv_py a' b' 20 20 hc.1 hc.2]
        exact q
      · cases e
    · cases e
  | ne =>
    simp only [Cmp.ap] at e
    split at e
    · rename_i a' b' e1 e2
      split at e
      · rename_i hc
        rw [Bool.and_eq_true] at hc
        cases e
        refine op_neD (by omega) pins s σ H x y v u Q I rx ry ⟨_, _, dp_deref hr ra e1 hc.1, dp_deref hr rb e2 hc.2, shaped_of hc.1, shaped_of hc.2, ?_⟩
        rw [eqv_py a' b' 20 20 hc.1 hc.2]
        exact q
      · cases e
    · cases e
  | lt =>
    simp only [Cmp.ap] at e
    split at e
    · rename_i hc
      simp only [Bool.and_eq_true, Bool.not_eq_true'] at hc
      obtain ⟨⟨⟨f1, f2⟩, al⟩, nn⟩ := hc
      cases e
      obtain ⟨as, r1⟩ := Dp.reads I (toPy a) x v (dp_of 20 a x ra f1) rx
      obtain ⟨bs, r2⟩ := Dp.reads I (toPy b) y u (dp_of 20 b y rb f2) ry
      have dl := (lay_of 20 a f1).2
      have mn : min (toPy a).depth (toPy b).depth ≤ (toPy a).depth := Nat.min_le_left _ _
      refine PySem.W.rcLt_alike (toPy a) (toPy b) X.A s v u as bs r1 r2 (by rw [alike_py a b 20 20 f1 f2]; exact al) (fun z => ?_) (by omega) X.prog X.w X.xe _ ?_
      · cases a <;> first | (simp [D.isNon] at nn; done) | (simp [toPy] at z; done) | (simp [D.depthOk, D.flat] at f1)
      · rw [lt_py a b 20 20 f1 f2 al nn]
        exact ⟨.bl _, H, I, rfl, q⟩
    · cases e
  | gt =>
    simp only [Cmp.ap] at e
    split at e
    · cases e; cases ra; cases rb
      exact op_gt pins s σ H _ _ v u Q I rx ry ⟨_, _, rfl, rfl, q⟩
    · cases e
  | le =>
    simp only [Cmp.ap] at e
    split at e
    · cases e; cases ra; cases rb
      exact op_le pins s σ H _ _ v u Q I rx ry ⟨_, _, rfl, rfl, q⟩
    · cases e
  | ge =>
    simp only [Cmp.ap] at e
    split at e
    · cases e; cases ra; cases rb
      exact op_ge pins s σ H _ _ v u Q I rx ry ⟨_, _, rfl, rfl, q⟩
    · cases e
  | is =>
    simp only [Cmp.ap] at e
    split at e
    · cases e; cases rb
      exact op_isN pins s σ H _ _ v u Q I rx ry ⟨rfl, by rw [← isNon_of ra]; exact q⟩
    · cases e
  | isN =>
    simp only [Cmp.ap] at e
    split at e
    · cases e; cases rb
      exact op_notN pins s σ H _ _ v u Q I rx ry ⟨rfl, by rw [← isNon_of ra]; exact q⟩
    · cases e
  | inn =>
    simp only [Cmp.ap] at e
    split at e
    · rename_i z w' 
      cases ra; cases rb
      split at e
      · rename_i c' hc
        cases e
        exact op_in_sign pins s σ H _ _ v u Q I rx ry ⟨c', _, by rw [str_one hc], rfl, q⟩
      · cases e
    · split at e
      · rename_i ed
        split at e
        · rename_i hk
          cases e
          obtain ⟨p, uo, ws, rfl, k1, k2, k3⟩ := dct_of hr rb ed
          cases ry
          obtain ⟨o, g, eo⟩ := dlook_some k1 k2 k3 hk ra
          exact d_in (by omega) I g rx fun s' I' => ⟨.bl _, H, I', rfl, by rw [eo]; exact q⟩
        · cases e
      · split at e
        · rename_i e1
          split at e
          · rename_i hc
            rw [Bool.and_eq_true] at hc
            cases e
            exact (in_deep hu I rx ry hr ra rb e1 hc.1 hc.2).1 _ ⟨.bl _, H, I, rfl, q⟩
          · cases e
        · cases e
  | nin =>
    simp only [Cmp.ap] at e
    split at e
    · rename_i z w'
      cases ra; cases rb
      split at e
      · rename_i c' hc
        cases e
        exact op_notIn_sign pins s σ H _ _ v u Q I rx ry ⟨c', _, by rw [str_one hc], rfl, q⟩
      · cases e
    · split at e
      · rename_i ed
        split at e
        · rename_i hk
          cases e
          obtain ⟨p, uo, ws, rfl, k1, k2, k3⟩ := dct_of hr rb ed
          cases ry
          obtain ⟨o, g, eo⟩ := dlook_some k1 k2 k3 hk ra
          exact d_notIn (by omega) I g rx fun s' I' => ⟨.bl _, H, I', rfl, by rw [eo]; exact q⟩
        · cases e
      · split at e
        · rename_i e1
          split at e
          · rename_i hc
            rw [Bool.and_eq_true] at hc
            cases e
            exact (in_deep hu I rx ry hr ra rb e1 hc.1 hc.2).2 _ ⟨.bl _, H, I, rfl, q⟩
          · cases e
        · cases e
end Z

end

section
set_option Elab.async false
set_option linter.all false
set_option maxRecDepth 100000
set_option autoImplicit false
/-! Z: built-ins, subscripts, slices over the layer. -/
namespace Z
open PySem PySem.Spec PyProof.Rows L2

section
variable {m : Ms} {H : Hp}
theorem reps_ints : ∀ {ds : List D} {vs : List V} {ns : List Int}, Reps m H ds vs → intsOf ds = some ns → vs = ns.map V.int
  | [], _, ns, r, e => by cases e; rw [r] <;> rfl
  | d :: ds, _, ns, r, e => by
    obtain ⟨v, u, rfl, h1, h2⟩ := r
    cases d with
    | int i =>
      simp only [intsOf] at e
      cases e2 : intsOf ds with
      | none => rw [e2] at e; cases e
      | some k =>
        rw [e2] at e
        cases e
        cases h1
        rw [reps_ints h2 e2, List.map_cons]
    | _ => simp [intsOf] at e
theorem maxI_mem (x : Int) : ∀ ns : List Int, maxI x ns ∈ x :: ns ∧ ∀ y ∈ x :: ns, y ≤ maxI x ns
  | [] => by simp [maxI]
  | y :: ys => by
    rw [maxI]
    by_cases hc : x < y
    · rw [if_pos hc]
      have ih := maxI_mem y ys
      have h0 := ih.2 y (by simp)
      refine ⟨List.mem_cons_of_mem _ ih.1, fun z hz => ?_⟩
      rcases List.mem_cons.mp hz with e | hz
      · omega
      · exact ih.2 z hz
    · rw [if_neg hc]
      have ih := maxI_mem x ys
      have h0 := ih.2 x (by simp)
      refine ⟨?_, fun z hz => ?_⟩
      · rcases List.mem_cons.mp ih.1 with e | e
        · rw [e]; simp
        · simp [e]
      · rcases List.mem_cons.mp hz with e | hz
        · omega
        · rcases List.mem_cons.mp hz with e | hz
          · omega
          · exact ih.2 z (by simp [hz])
theorem minI_mem (x : Int) : ∀ ns : List Int, minI x ns ∈ x :: ns ∧ ∀ y ∈ x :: ns, minI x ns ≤ y
  | [] => by simp [minI]
  | y :: ys => by
    rw [minI]
    by_cases hc : y < x
    · rw [if_pos hc]
      have ih := minI_mem y ys
      have h0 := ih.2 y (by simp)
      refine ⟨List.mem_cons_of_mem _ ih.1, fun z hz => ?_⟩
      rcases List.mem_cons.mp hz with e | hz
      · omega
      · exact ih.2 z hz
    · rw [if_neg hc]
      have ih := minI_mem x ys
      have h0 := ih.2 x (by simp)
      refine ⟨?_, fun z hz => ?_⟩
      · rcases List.mem_cons.mp ih.1 with e | e
        · rw [e]; simp
        · simp [e]
      · rcases List.mem_cons.mp hz with e | hz
        · omega
        · rcases List.mem_cons.mp hz with e | hz
          · omega
          · exact ih.2 z (by simp [hz])
theorem truth_ok {prog : Program} {w : World} {A : Around} {ds : List D} {vs : List V} {its : List Value} {bs : List Bool} (r : Reps m H ds vs) (rv : Vals vs its) (e : blsOf ds = some bs) :
    TruthOf prog w A (fun i v => its.toArray[i]? = some v) (fun i => bs.getD i false) := fun i v s Q E hv hq => by
  have hv' : its[i]? = some v := by simpa using hv
  clear hv
  induction ds generalizing vs its bs i with
  | nil => rw [r] at rv; cases rv; simp at hv'
  | cons d ds ih =>
    obtain ⟨x, u, rfl, h1, h2⟩ := r
    cases rv with
    | cons r1 r2 =>
      cases d with
      | bl b =>
        simp only [blsOf] at e
        cases e2 : blsOf ds with
        | none => rw [e2] at e; cases e
        | some k =>
          rw [e2] at e
          cases e
          cases i with
          | zero =>
            cases h1; cases r1
            have ev : Value.bool b = v := by simpa using hv'
            subst ev
            exact wpAny_truthy_bool (by simpa using hq)
          | succ i => exact ih h2 r2 e2 i (by simpa using hq) (by simpa using hv')
      | int n =>
        simp only [blsOf] at e
        cases e2 : blsOf ds with
        | none => rw [e2] at e; cases e
        | some k =>
          rw [e2] at e
          cases e
          cases i with
          | zero =>
            cases h1
            obtain ⟨t, rfl⟩ := r1
            have ev : Value.int n t = v := by simpa using hv'
            subst ev
            exact PyProof.Rows.truthy_int (by simpa using hq)
          | succ i => exact ih h2 r2 e2 i (by simpa using hq) (by simpa using hv')
      | _ => simp [blsOf] at e
theorem bls_len : ∀ {ds : List D} {bs : List Bool}, blsOf ds = some bs → bs.length = ds.length
  | [], _, e => by cases e; rfl
  | d :: ds, bs, e => by
    cases d with
    | bl b =>
      simp only [blsOf] at e
      cases e2 : blsOf ds with
      | none => rw [e2] at e; cases e
      | some k => rw [e2] at e; cases e; rw [List.length_cons, List.length_cons, bls_len e2]
    | int b =>
      simp only [blsOf] at e
      cases e2 : blsOf ds with
      | none => rw [e2] at e; cases e
      | some k => rw [e2] at e; cases e; rw [List.length_cons, List.length_cons, bls_len e2]
    | _ => simp [blsOf] at e
end
section
variable {X : Cx}
/-- any, all of a list of ints and truth values -/
def rAnyB (K : PySem.W.Frag) (q : List Bool → Bool) : List V → Hp → VK → Prop := fun vs H Q => ∃ (a : Addr) (us : List V) (ds : List D) (bs : List Bool) (m : Ms), vs = [V.ref a] ∧ SqL K H a us ∧ Reps m H ds us ∧ blsOf ds = some bs ∧ Q (.bl (q bs)) H
theorem cr_anyB (hc : X.calm = true) : CallR X (.builtin "any") (rAnyB X.K fun bs => bs.any id) := by
  intro pins s σ H vs us Q I r h
  obtain ⟨a, ws, ds, bs, m, rfl, hs, rp, eb, q⟩ := h
  obtain ⟨its, rv, hl, _⟩ := I.list hs
  rw [Vals.ref1 r]
  refine call_any_walk (iter_any hl.isList fun s₂ e2 st hne => ?_)
  subst e2
  refine ⟨_, _, _, _, _, _, _, rfl, Walks.list (A := X.A.in1) (I.ok.hd hc) _ a hne its.toArray, st, truth_ok rp rv eb, fun h' tk hk => ?_⟩
  refine ⟨.bl _, H, I.kept fun b o eo => hk b o (fun hmem => ?_) (Heap.get?_push_of_some _ eo), ?_, q⟩
  · rcases List.mem_cons.mp hmem with e1 | hmem
    · exact absurd (e1 ▸ Heap.lt_size eo) (Nat.lt_irrefl _)
    · cases hmem
  · show Value.bool _ = Value.bool _
    show Value.bool _ = Value.bool (bs.any id)
    rw [← L2.any_range, List.size_toArray, ← rv.length, rp.length, bls_len eb]
theorem cr_allB (hc : X.calm = true) : CallR X (.builtin "all") (rAnyB X.K fun bs => bs.all id) := by
  intro pins s σ H vs us Q I r h
  obtain ⟨a, ws, ds, bs, m, rfl, hs, rp, eb, q⟩ := h
  obtain ⟨its, rv, hl, _⟩ := I.list hs
  rw [Vals.ref1 r]
  refine call_all_walk (iter_any hl.isList fun s₂ e2 st hne => ?_)
  subst e2
  refine ⟨_, _, _, _, _, _, _, rfl, Walks.list (A := X.A.in1) (I.ok.hd hc) _ a hne its.toArray, st, truth_ok rp rv eb, fun h' tk hk => ?_⟩
  refine ⟨.bl _, H, I.kept fun b o eo => hk b o (fun hmem => ?_) (Heap.get?_push_of_some _ eo), ?_, q⟩
  · rcases List.mem_cons.mp hmem with e1 | hmem
    · exact absurd (e1 ▸ Heap.lt_size eo) (Nat.lt_irrefl _)
    · cases hmem
  · show Value.bool _ = Value.bool _
    show Value.bool _ = Value.bool (bs.all id)
    rw [← L2.all_range, List.size_toArray, ← rv.length, rp.length, bls_len eb]
end

/-! ### sorting -/
def insL {α : Type} (le : α → α → Bool) (x : α) : List α → List α
  | [] => [x]
  | y :: ys => if le x y then x :: y :: ys else y :: insL le x ys
def sortL {α : Type} (le : α → α → Bool) (xs : List α) : List α := xs.foldr (insL le) []
section
variable {α : Type} {le : α → α → Bool}
theorem insL_mem {x z : α} : ∀ {ys : List α}, z ∈ insL le x ys → z = x ∨ z ∈ ys
  | [], h => by simp [insL] at h; exact .inl h
  | y :: ys, h => by
    rw [insL] at h
    split at h
    · rcases List.mem_cons.mp h with h | h
      · exact .inl h
      · exact .inr h
    · rcases List.mem_cons.mp h with h | h
      · exact .inr (by simp [h])
      · rcases insL_mem h with h | h
        · exact .inl h
        · exact .inr (by simp [h])
theorem insL_pw (T : PySem.W.TotalLe le) (x : α) : ∀ {ys : List α}, ys.Pairwise (fun a b => le a b = true) → (insL le x ys).Pairwise (fun a b => le a b = true)
  | [], _ => by simp [insL]
  | y :: ys, h => by
    rw [insL]
    have hy := List.pairwise_cons.mp h
    split
    · rename_i hl
      refine List.pairwise_cons.mpr ⟨fun z hz => ?_, h⟩
      rcases List.mem_cons.mp hz with rfl | hz
      · exact hl
      · exact T.trans _ _ _ hl (hy.1 z hz)
    · rename_i hl
      refine List.pairwise_cons.mpr ⟨fun z hz => ?_, insL_pw T x hy.2⟩
      rcases insL_mem hz with rfl | hz
      · exact (T.total z y).elim (fun e => absurd e hl) id
      · exact hy.1 z hz
theorem insL_filter (T : PySem.W.TotalLe le) (c x : α) : ∀ {ys : List α}, ys.Pairwise (fun a b => le a b = true) → (insL le x ys).filter (PySem.W.sameRank le c) = (x :: ys).filter (PySem.W.sameRank le c)
  | [], _ => rfl
  | y :: ys, h => by
    have hy := List.pairwise_cons.mp h
    rw [insL]
    split
    · rfl
    · rename_i hl
      rw [List.filter_cons, insL_filter T c x hy.2]
      simp only [List.filter_cons]
      cases h1 : PySem.W.sameRank le c x with
      | false => simp
      | true =>
        cases h2 : PySem.W.sameRank le c y with
        | false => simp
        | true =>
          exfalso
          unfold PySem.W.sameRank at h1 h2
          rw [Bool.and_eq_true] at h1 h2
          exact hl (T.trans _ c _ h1.2 h2.1)
theorem sortL_pw (T : PySem.W.TotalLe le) : ∀ xs : List α, (sortL le xs).Pairwise (fun a b => le a b = true)
  | [] => by simp [sortL]
  | x :: xs => insL_pw T x (sortL_pw T xs)
theorem sortL_filter (T : PySem.W.TotalLe le) (c : α) : ∀ xs : List α, (sortL le xs).filter (PySem.W.sameRank le c) = xs.filter (PySem.W.sameRank le c)
  | [] => rfl
  | x :: xs => by
    have e : sortL le (x :: xs) = insL le x (sortL le xs) := rfl
    rw [e, insL_filter T c x (sortL_pw T xs), List.filter_cons, List.filter_cons, sortL_filter T c xs]
theorem sortL_eq (T : PySem.W.TotalLe le) (xs : List α) : sortL le xs = xs.mergeSort le := PySem.W.sort_unique T (sortL_pw T xs) fun c => sortL_filter T c xs
end
theorem insr_mem {x z : D} : ∀ {ys : List D}, z ∈ D.insr x ys → z = x ∨ z ∈ ys
  | [], h => by simp [D.insr] at h; exact .inl h
  | y :: ys, h => by
    rw [D.insr] at h
    split at h
    · rcases List.mem_cons.mp h with h | h
      · exact .inr (by simp [h])
      · rcases insr_mem h with h | h
        · exact .inl h
        · exact .inr (by simp [h])
    · rcases List.mem_cons.mp h with h | h
      · exact .inl h
      · exact .inr h
theorem sort_mem {z : D} : ∀ {ys : List D}, z ∈ D.sort ys → z ∈ ys
  | [], h => h
  | y :: ys, h => by
    have e : D.sort (y :: ys) = D.insr y (D.sort ys) := rfl
    rw [e] at h
    rcases insr_mem h with h | h
    · simp [h]
    · simp [sort_mem h]
theorem insr_eq {x : D} : ∀ {ys : List D}, (∀ y ∈ ys, D.lt y x = !(PySem.W.dataLe false toPy x y)) → D.insr x ys = insL (PySem.W.dataLe false toPy) x ys
  | [], _ => rfl
  | y :: ys, h => by
    rw [D.insr, insL, h y (by simp), insr_eq fun z hz => h z (by simp [hz])]
    cases PySem.W.dataLe false toPy x y <;> rfl
theorem sort_eqL : ∀ {ys : List D}, (∀ x ∈ ys, ∀ y ∈ ys, D.lt y x = !(PySem.W.dataLe false toPy x y)) → D.sort ys = sortL (PySem.W.dataLe false toPy) ys
  | [], _ => rfl
  | y :: ys, h => by
    have e : D.sort (y :: ys) = D.insr y (D.sort ys) := rfl
    have e2 : sortL (PySem.W.dataLe false toPy) (y :: ys) = insL (PySem.W.dataLe false toPy) y (sortL (PySem.W.dataLe false toPy) ys) := rfl
    rw [e, e2, ← sort_eqL fun x hx z hz => h x (by simp [hx]) z (by simp [hz])]
    exact insr_eq fun z hz => h y (by simp) z (by simp [sort_mem hz])
theorem flats_mem : ∀ {n : Nat} {ds : List D}, D.flats n ds = true → ∀ d ∈ ds, D.flat n d = true
  | n, [], _, d, hd => by cases hd
  | n, x :: ds, f, d, hd => by
    rw [D.flats, Bool.and_eq_true] at f
    rcases List.mem_cons.mp hd with rfl | hd
    · exact f.1
    · exact flats_mem f.2 d hd
theorem sort_ok {ys : List D} (s : D.sortable ys = true) : D.sort ys = ys.mergeSort (PySem.W.dataLe false toPy) ∧ PySem.W.AllAlike (ys.map toPy) ∧ PySem.W.Sortable (ys.map toPy) := by
  unfold D.sortable at s
  rw [Bool.and_eq_true, Bool.and_eq_true, Bool.or_eq_true] at s
  obtain ⟨⟨f, al⟩, k⟩ := s
  have al' : ∀ x ∈ ys, ∀ y ∈ ys, D.alike x y = true := fun x hx y hy => List.all_eq_true.mp (List.all_eq_true.mp al x hx) y hy
  have fl := flats_mem f
  have nn : ∀ x ∈ ys, x.isNon = false := fun x hx => by
    rcases k with k | k
    · have := List.all_eq_true.mp k x hx
      cases x <;> simp_all [D.isNon]
    · have := List.all_eq_true.mp k x hx
      cases x <;> simp_all [D.isNon]
  refine ⟨?_, ?_, ?_⟩
  · rw [sort_eqL fun x hx y hy => ?_]
    · exact sortL_eq (PySem.W.sortLe_total _ _ _) ys
    · rw [PySem.W.dataLe_eq, ← lt_py y x 20 20 (fl y hy) (fl x hx) (al' y hy x hx) (nn y hy)]
      simp
  · intro d hd d' hd'
    obtain ⟨x, hx, rfl⟩ := List.mem_map.mp hd
    obtain ⟨y, hy, rfl⟩ := List.mem_map.mp hd'
    rw [alike_py x y 20 20 (fl x hx) (fl y hy)]
    exact al' x hx y hy
  · rcases k with k | k
    · refine .inl fun d hd => ?_
      obtain ⟨x, hx, rfl⟩ := List.mem_map.mp hd
      have := List.all_eq_true.mp k x hx
      cases x with
      | tup xs =>
        cases xs with
        | nil => simp at this
        | cons a r => exact ⟨toPy a, toPys r, by rw [toPy, toPys]⟩
      | _ => simp at this
    · refine .inr fun d hd => ?_
      obtain ⟨x, hx, rfl⟩ := List.mem_map.mp hd
      have := List.all_eq_true.mp k x hx
      have fx := fl x hx
      cases x <;> simp_all [toPy, D.flat]
def Each1 (m : Ms) (H : Hp) (v : Value) (d : D) : Prop := ∃ x, L2.RelV x v ∧ Rep m H d x
theorem each_of {m : Ms} {H : Hp} : ∀ {ds : List D} {vs : List V} {its : List Value}, Reps m H ds vs → Vals vs its → PySem.W.EachIs (Each1 m H) its ds
  | [], _, its, r, rv => by rw [r] at rv; cases rv; exact .nil
  | d :: ds, _, its, r, rv => by
    obtain ⟨x, u, rfl, h1, h2⟩ := r
    cases rv with
    | cons r1 r2 => exact .cons ⟨x, r1, h1⟩ (each_of h2 r2)
theorem of_each {m : Ms} {H : Hp} : ∀ {ds : List D} {its : List Value}, PySem.W.EachIs (Each1 m H) its ds → ∃ vs, Reps m H ds vs ∧ Vals vs its
  | [], _, .nil => ⟨[], rfl, .nil⟩
  | d :: ds, _, .cons ⟨x, r1, h1⟩ t => by
    obtain ⟨vs, a, b⟩ := of_each t
    exact ⟨x :: vs, ⟨x, vs, rfl, h1, a⟩, .cons r1 b⟩
theorem reads_each {X : Cx} {pins : List (Addr × Obj)} {σ : L2.St} {H : Hp} {s : Shared} {m : Ms} (I : L2.Inv X pins σ H s) : ∀ {ds : List D} {vs : List V} {its : List Value}, Reps m H ds vs → Vals vs its → D.flats 20 ds = true →
    PySem.W.EachIs (fun v b => ∃ as, Reads s.heap v (toPy b) as) its ds
  | [], _, its, r, rv, _ => by rw [r] at rv; cases rv; exact .nil
  | d :: ds, _, its, r, rv, f => by
    obtain ⟨x, u, rfl, h1, h2⟩ := r
    rw [D.flats, Bool.and_eq_true] at f
    cases rv with
    | cons r1 r2 => exact .cons (Dp.reads I (toPy d) x _ (dp_of 20 d x h1 f.1) r1) (reads_each I h2 r2 f.2)
theorem flats_sort : ∀ {ys : List D} {n : Nat}, D.flats n ys = true → D.flats n (D.sort ys) = true := by
  intro ys n f
  have hm := flats_mem f
  have : ∀ zs : List D, (∀ z ∈ zs, D.flat n z = true) → D.flats n zs = true := by
    intro zs
    induction zs with
    | nil => intro _; simp [D.flats]
    | cons z zs ih => intro h; rw [D.flats, h z (by simp), ih fun w hw => h w (by simp [hw])]; rfl
  exact this _ fun z hz => hm z (sort_mem hz)
def rSortedD (K : PySem.W.Frag) : List V → Hp → VK → Prop := fun vs H Q => ∃ (a : Addr) (us : List V) (ds : List D) (m : Ms), vs = [V.ref a] ∧ SqL K H a us ∧ Reps m H ds us ∧ D.sortable ds = true ∧
  ∀ ws p, Reps m H (D.sort ds) ws → H p = none → Q (.ref p) (upd H p (.lst ws))
theorem cr_sortedD {X : Cx} (hu : X.A.units + 65 < cLine) : CallR X (.builtin "sorted") (rSortedD X.K) := by
  intro pins s σ H vs us Q I r h
  obtain ⟨a, ws, ds, m, rfl, hs, rp, so, q⟩ := h
  obtain ⟨its, rv, hl, hz⟩ := I.list hs
  rw [Vals.ref1 r]
  obtain ⟨e1, e2, e3⟩ := sort_ok so
  have f : D.flats 20 ds = true := by
    unfold D.sortable at so
    rw [Bool.and_eq_true, Bool.and_eq_true] at so
    exact so.1.1
  refine PySem.W.sorted_data (enc := toPy) (R := Each1 m H) hl.isList (each_of rp rv) (reads_each I rp rv f) e2 e3 (by rw [← rp.length]; exact hz) (fun b hb => ?_) fun out ho he => ?_
  · have := (lay_of 20 b (flats_mem f b hb)).2
    omega
  · rw [← e1] at he
    obtain ⟨zs, k1, k2⟩ := of_each he
    obtain ⟨ep, he'⟩ := PyProof.Rows.sortedAll_at s.heap its out.toArray
    have hlen : zs.length ≤ sizeLine := by
      rw [k2.length, ho, ← rp.length]; exact hz
    exact ⟨.ref _, upd H (s.heap.objs.size + 1) (.lst zs), I.laid (t' := s.toks) (fun _ _ => PyProof.Rows.sortedAll_old) (Nat.le_succ _) ⟨hlen, out, ep, k2, he'⟩, rfl, q _ _ k1 (I.hok.fresh (Nat.le_succ _))⟩
end Z

end

section
set_option Elab.async false
set_option linter.all false
set_option maxRecDepth 100000
set_option autoImplicit false
/-! Z: min, max of a list or a tuple of data that can be compared. -/
namespace Z
open PySem PySem.Spec PyProof.Rows L2 PySem.SeqAt

theorem argBest_congr {bt bt' : Nat → Nat → Bool} : ∀ k : Nat, (∀ i j, i ≤ k → j ≤ k → bt i j = bt' i j) → argBest bt k = argBest bt' k ∧ argBest bt k ≤ k
  | 0, _ => ⟨rfl, Nat.le_refl _⟩
  | k + 1, h => by
    obtain ⟨e, l⟩ := argBest_congr k fun i j hi hj => h i j (Nat.le_succ_of_le hi) (Nat.le_succ_of_le hj)
    have e2 : bt (k + 1) (argBest bt k) = bt' (k + 1) (argBest bt k) := h _ _ (Nat.le_refl _) (Nat.le_succ_of_le l)
    simp only [argBest]
    rw [← e, ← e2]
    refine ⟨rfl, ?_⟩
    split
    · exact Nat.le_refl _
    · exact Nat.le_succ_of_le l
section
variable {prog : Program} {w : World} {A : Around} {E : Value → Shared → Prop} {s : Shared}
theorem min_at {l : Addr} {vs : Array Value} {xs : List PyData} {as : List Addr} {Q : Value → Shared → Prop} (hh : A.handled = none) (hl : s.heap.IsList l vs ∨ s.heap.IsTuple l vs) (hr : ReadsAll s.heap vs.toList xs as) (hne : 0 < xs.length) (ha : PySem.W.AlikeAll xs) (hu : A.units + 1 + PyData.depthAll xs < cLine)
    (h : ∀ v h' tk, vs[argBest (fun i j => PySem.W.dataLt (xs.getD i .none) (xs.getD j .none)) (xs.length - 1)]? = some v → (∀ b o, s.heap.get? b = some o → h'.get? b = some o) → Q v { s with heap := h', toks := tk }) :
    wpAny (model prog w) A (call (.builtin "min") [.ref l]) Q E s := by
  have hn : vs.size = xs.length := PySem.W.readsAll_len hr
  rcases hl with hl | hl
  · refine call_min_walkH (PySem.W.iter_listW (A := A.in1) hh hl fun s₂ e W st hfp hw hk => ?_)
    refine ⟨_, _, _, _, _, _, _, s.heap, _, rfl, W, st, hfp, by omega, hw, hk, PySem.W.cmpIn_lt (A := A.in1) hr ha (by show A.units + 1 + _ < _; exact hu), fun v s' hP m => ?_⟩
    obtain ⟨h', tk, rfl, hk'⟩ := PySem.W.moved_old e rfl m
    exact h v h' tk (by rw [← hn]; exact hP) hk'
  · refine call_min_walkH (PySem.W.iter_tupleW (A := A.in1) hh hl fun s₂ e W st hfp hw hk => ?_)
    refine ⟨_, _, _, _, _, _, _, s.heap, _, rfl, W, st, hfp, by omega, hw, hk, PySem.W.cmpIn_lt (A := A.in1) hr ha (by show A.units + 1 + _ < _; exact hu), fun v s' hP m => ?_⟩
    obtain ⟨h', tk, rfl, hk'⟩ := PySem.W.moved_old e rfl m
    exact h v h' tk (by rw [← hn]; exact hP) hk'
theorem max_at {l : Addr} {vs : Array Value} {xs : List PyData} {as : List Addr} {Q : Value → Shared → Prop} (hh : A.handled = none) (hl : s.heap.IsList l vs ∨ s.heap.IsTuple l vs) (hr : ReadsAll s.heap vs.toList xs as) (hne : 0 < xs.length) (ha : PySem.W.AlikeAll xs) (hu : A.units + 1 + PyData.depthAll xs < cLine)
    (h : ∀ v h' tk, vs[argBest (fun i j => PySem.W.dataLt (xs.getD j .none) (xs.getD i .none)) (xs.length - 1)]? = some v → (∀ b o, s.heap.get? b = some o → h'.get? b = some o) → Q v { s with heap := h', toks := tk }) :
    wpAny (model prog w) A (call (.builtin "max") [.ref l]) Q E s := by
  have hn : vs.size = xs.length := PySem.W.readsAll_len hr
  rcases hl with hl | hl
  · refine call_max_walkH (PySem.W.iter_listW (A := A.in1) hh hl fun s₂ e W st hfp hw hk => ?_)
    refine ⟨_, _, _, _, _, _, _, s.heap, _, rfl, W, st, hfp, by omega, hw, hk, PySem.W.cmpIn_gt (A := A.in1) hr ha (by show A.units + 1 + _ < _; exact hu), fun v s' hP m => ?_⟩
    obtain ⟨h', tk, rfl, hk'⟩ := PySem.W.moved_old e rfl m
    exact h v h' tk (by rw [← hn]; exact hP) hk'
  · refine call_max_walkH (PySem.W.iter_tupleW (A := A.in1) hh hl fun s₂ e W st hfp hw hk => ?_)
    refine ⟨_, _, _, _, _, _, _, s.heap, _, rfl, W, st, hfp, by omega, hw, hk, PySem.W.cmpIn_gt (A := A.in1) hr ha (by show A.units + 1 + _ < _; exact hu), fun v s' hP m => ?_⟩
    obtain ⟨h', tk, rfl, hk'⟩ := PySem.W.moved_old e rfl m
    exact h v h' tk (by rw [← hn]; exact hP) hk'
end
theorem mins_fold : ∀ (xs : List D) (x : D), D.mins x xs = xs.foldl (fun a y => if D.lt y a then y else a) x
  | [], x => rfl
  | y :: ys, x => by
    rw [D.mins, List.foldl_cons, mins_fold ys, mins_fold ys]
    split <;> rfl
theorem maxs_fold : ∀ (xs : List D) (x : D), D.maxs x xs = xs.foldl (fun a y => if D.lt a y then y else a) x
  | [], x => rfl
  | y :: ys, x => by
    rw [D.maxs, List.foldl_cons, maxs_fold ys, maxs_fold ys]
    split <;> rfl
theorem sortable_alike {ds : List D} (so : D.sortable ds = true) : D.flats 20 ds = true ∧ PySem.W.AlikeAll (ds.map toPy) ∧ ∀ x ∈ ds, ∀ y ∈ ds, PySem.W.dataLt (toPy x) (toPy y) = D.lt x y := by
  have so' := so
  unfold D.sortable at so
  rw [Bool.and_eq_true, Bool.and_eq_true, Bool.or_eq_true] at so
  obtain ⟨⟨f, al⟩, k⟩ := so
  have al' : ∀ x ∈ ds, ∀ y ∈ ds, D.alike x y = true := fun x hx y hy => List.all_eq_true.mp (List.all_eq_true.mp al x hx) y hy
  have fl := flats_mem f
  have nn : ∀ x ∈ ds, x.isNon = false := fun x hx => by
    rcases k with k | k
    · have := List.all_eq_true.mp k x hx
      cases x <;> simp_all [D.isNon]
    · have := List.all_eq_true.mp k x hx
      cases x <;> simp_all [D.isNon]
  refine ⟨f, ⟨fun d hd d' hd' => ?_, fun d hd => ?_⟩, fun x hx y hy => lt_py x y 20 20 (fl x hx) (fl y hy) (al' x hx y hy) (nn x hx)⟩
  · obtain ⟨x, hx, rfl⟩ := List.mem_map.mp hd
    obtain ⟨y, hy, rfl⟩ := List.mem_map.mp hd'
    rw [alike_py x y 20 20 (fl x hx) (fl y hy)]
    exact al' x hx y hy
  · obtain ⟨x, hx, rfl⟩ := List.mem_map.mp hd
    have h1 := nn x hx
    have h2 := fl x hx
    cases x <;> simp [toPy, D.isNon, D.flat] at h1 h2 ⊢
theorem getD_toPy (ds : List D) (i : Nat) : (ds.map toPy).getD i .none = toPy (ds.getD i .non) := by
  rw [List.getD_eq_getElem?_getD, List.getD_eq_getElem?_getD, List.getElem?_map]
  cases ds[i]? <;> rfl
theorem depthAll_le : ∀ {ds : List D}, D.flats 20 ds = true → PyData.depthAll (ds.map toPy) ≤ 21
  | [], _ => Nat.zero_le _
  | d :: ds, f => by
    rw [D.flats, Bool.and_eq_true] at f
    rw [List.map_cons]
    have h1 := (lay_of 20 d f.1).2
    have h2 := depthAll_le f.2
    show Nat.max (toPy d).depth (PyData.depthAll (ds.map toPy)) ≤ 21
    exact Nat.max_le.mpr ⟨h1, h2⟩
theorem toPys_map : ∀ ds : List D, toPys ds = ds.map toPy
  | [] => rfl
  | d :: ds => by rw [toPys, List.map_cons, toPys_map ds]
section
variable {X : Cx}
def rBestD (K : PySem.W.Frag) (best : D → List D → D) : List V → Hp → VK → Prop := fun vs H Q => ∃ (a : Addr) (us : List V) (x : D) (ds : List D) (m : Ms), vs = [V.ref a] ∧ (SqL K H a us ∨ SqT K H a us) ∧ Reps m H (x :: ds) us ∧ D.sortable (x :: ds) = true ∧
  ∀ v, Rep m H (best x ds) v → Q v H
theorem best_end {best : D → List D → D} {f : D → D → Bool} (hb : ∀ x xs, best x xs = xs.foldl (fun a y => if f y a then y else a) x) {m : Ms} {H : Hp} {x : D} {ds : List D} {us : List V} {its : List Value} (rp : Reps m H (x :: ds) us) (rv : Vals us its) {bt : Nat → Nat → Bool}
    (he : ∀ i j, i ≤ ds.length → j ≤ ds.length → bt i j = f ((x :: ds).getD i .non) ((x :: ds).getD j .non)) {u : Value} (hu : its[argBest bt ds.length]? = some u) : ∃ v, RelV v u ∧ Rep m H (best x ds) v := by
  obtain ⟨e1, l1⟩ := argBest_congr ds.length he
  obtain ⟨l2, e2⟩ := PySem.W.argBest_fold f D.non x ds ds.length (Nat.le_refl _)
  rw [List.take_length, ← e1, ← hb] at e2
  have hi : argBest bt ds.length < (x :: ds).length := by rw [List.length_cons]; omega
  have e3 : (x :: ds)[argBest bt ds.length]? = some (best x ds) := by
    rw [List.getElem?_eq_getElem hi, ← e2, List.getD_eq_getElem?_getD, List.getElem?_eq_getElem hi]
    rfl
  obtain ⟨v, k1, k2⟩ := rp.get e3
  refine ⟨v, ?_, k2⟩
  obtain ⟨w, q1, q2⟩ := rv.get k1
  rw [hu] at q1; cases q1
  exact q2
theorem cr_minD (hc : X.calm = true) (hu : X.A.units + 65 < cLine) : CallR X (.builtin "min") (rBestD X.K D.mins) := by
  intro pins s σ H vs us Q I r h
  obtain ⟨a, ws, x, ds, m, rfl, hs, rp, so, q⟩ := h
  obtain ⟨f, al, lt⟩ := sortable_alike so
  rw [Vals.ref1 r]
  have fin : ∀ its : List Value, Vals ws its → (s.heap.IsList a its.toArray ∨ s.heap.IsTuple a its.toArray) → wpAny (model X.prog X.w) X.A (call (.builtin "min") [.ref a]) (EP X pins σ Q) X.xe s := fun its rv hl => by
    obtain ⟨as, hr⟩ := Dp.readsAll I _ _ _ (dps_of 20 (x :: ds) ws rp f) rv
    rw [toPys_map] at hr
    refine min_at (I.ok.hd hc) hl (as := as) hr (by simp) al (by have := depthAll_le f; omega) fun v h' tk hv hk => ?_
    have e0 : ((x :: ds).map toPy).length - 1 = ds.length := by simp
    rw [e0] at hv
    have mm : ∀ k, k ≤ ds.length → (x :: ds).getD k .non ∈ x :: ds := fun k hk => by
      rw [List.getD_eq_getElem?_getD, List.getElem?_eq_getElem (by rw [List.length_cons]; omega)]
      exact List.getElem_mem _
    obtain ⟨v', k1, k2⟩ := best_end (f := D.lt) (bt := fun i j => PySem.W.dataLt (((x :: ds).map toPy).getD i .none) (((x :: ds).map toPy).getD j .none)) (fun x xs => mins_fold xs x) rp rv (fun i j hi hj => by
      show PySem.W.dataLt (((x :: ds).map toPy).getD i .none) (((x :: ds).map toPy).getD j .none) = _
      rw [getD_toPy, getD_toPy]
      exact lt _ (mm i hi) _ (mm j hj)) (by simpa using hv)
    exact ⟨v', H, I.kept hk, k1, q v' k2⟩
  rcases hs with hs | hs
  · obtain ⟨its, rv, hl, hz⟩ := I.list hs
    exact fin its rv (.inl hl.isList)
  · obtain ⟨its, rv, hl, hz⟩ := I.tuple hs
    exact fin its rv (.inr hl)
theorem cr_maxD (hc : X.calm = true) (hu : X.A.units + 65 < cLine) : CallR X (.builtin "max") (rBestD X.K D.maxs) := by
  intro pins s σ H vs us Q I r h
  obtain ⟨a, ws, x, ds, m, rfl, hs, rp, so, q⟩ := h
  obtain ⟨f, al, lt⟩ := sortable_alike so
  rw [Vals.ref1 r]
  have fin : ∀ its : List Value, Vals ws its → (s.heap.IsList a its.toArray ∨ s.heap.IsTuple a its.toArray) → wpAny (model X.prog X.w) X.A (call (.builtin "max") [.ref a]) (EP X pins σ Q) X.xe s := fun its rv hl => by
    obtain ⟨as, hr⟩ := Dp.readsAll I _ _ _ (dps_of 20 (x :: ds) ws rp f) rv
    rw [toPys_map] at hr
    refine max_at (I.ok.hd hc) hl (as := as) hr (by simp) al (by have := depthAll_le f; omega) fun v h' tk hv hk => ?_
    have e0 : ((x :: ds).map toPy).length - 1 = ds.length := by simp
    rw [e0] at hv
    have mm : ∀ k, k ≤ ds.length → (x :: ds).getD k .non ∈ x :: ds := fun k hk => by
      rw [List.getD_eq_getElem?_getD, List.getElem?_eq_getElem (by rw [List.length_cons]; omega)]
      exact List.getElem_mem _
    obtain ⟨v', k1, k2⟩ := best_end (f := fun y a => D.lt a y) (bt := fun i j => PySem.W.dataLt (((x :: ds).map toPy).getD j .none) (((x :: ds).map toPy).getD i .none)) (fun x xs => maxs_fold xs x) rp rv (fun i j hi hj => by
      show PySem.W.dataLt (((x :: ds).map toPy).getD j .none) (((x :: ds).map toPy).getD i .none) = _
      rw [getD_toPy, getD_toPy]
      exact lt _ (mm j hj) _ (mm i hi)) (by simpa using hv)
    exact ⟨v', H, I.kept hk, k1, q v' k2⟩
  rcases hs with hs | hs
  · obtain ⟨its, rv, hl, hz⟩ := I.list hs
    exact fin its rv (.inl hl.isList)
  · obtain ⟨its, rv, hl, hz⟩ := I.tuple hs
    exact fin its rv (.inr hl)
end
end Z

end

section
set_option Elab.async false
set_option linter.all false
set_option maxRecDepth 100000
set_option autoImplicit false
/-! Z: t[::-1] of a tuple; what a built-in is asked, by data. -/
namespace Z
open PySem PySem.Spec PyProof.Rows L2
section
variable {prog : Program} {w : World} {A : Around} {E : Value → Shared → Prop} {s : Shared}
theorem sliceApplied_rev {sl : Addr} {vl vu vk : Value} {n : Nat} {Q : Int × Int × Nat → Shared → Prop} (hs : s.heap.IsSliceOf sl vl vu vk) (pl : IsPart vl none) (pu : IsPart vu none) (pk : IsPart vk (some (-1)))
    (h : Q ((n : Int) - 1, -1, n) s) : wpAny (model prog w) A (Builtin.Slice.sliceApplied (.ref sl) (pure (n : Int))) Q E s := by
  obtain ⟨os, hos, hcs, hds⟩ := id hs
  unfold Builtin.Slice.sliceApplied Builtin.Slice.sliceFields
  refine wpAny_bind (wpAny_bind (wpAny_field hos hds (x := vl) rfl (wpAny_bind (wpAny_field hos hds (x := vu) rfl (wpAny_bind (wpAny_field hos hds (x := vk) rfl (wpAny_pure ?_)))))))
  refine wpAny_bind (HT.slicePart_ pk ?_)
  show wpAny _ _ (if ((-1 : Int) == 0) = true then _ else _) _ _ s
  rw [if_neg (by decide)]
  refine wpAny_bind (HT.slicePart_ pl (wpAny_bind (HT.slicePart_ pu (wpAny_bind (wpAny_pure ?_)))))
  show wpAny _ _ (pure ((n : Int) - 1, (-1 : Int), Builtin.Slice.slicePlaces ((n : Int) - 1) (-1) (-1))) _ _ s
  have e : Builtin.Slice.slicePlaces ((n : Int) - 1) (-1) (-1) = n := by
    unfold Builtin.Slice.slicePlaces
    rw [if_neg (by decide)]
    by_cases hn : n = 0
    · subst hn; rfl
    · rw [if_pos (by omega), Int.neg_neg, Int.ediv_one]
      omega
  rw [e]
  exact wpAny_pure h
theorem pick_rev (xs : List Value) : ((List.range xs.length).filterMap fun (m : Nat) => xs.toArray[((xs.length : Int) - 1 + (m : Int) * -1).toNat]?).toArray = xs.reverse.toArray := by
  congr 1
  apply List.ext_getElem?
  intro i
  have key : (List.range xs.length).filterMap (fun (m : Nat) => xs.toArray[((xs.length : Int) - 1 + (m : Int) * -1).toNat]?) = (List.range xs.length).map fun m => xs.reverse.getD m .none := by
    have : ∀ l : List Nat, (∀ m ∈ l, m < xs.length) → l.filterMap (fun (m : Nat) => xs.toArray[((xs.length : Int) - 1 + (m : Int) * -1).toNat]?) = l.map fun m => xs.reverse.getD m .none := by
      intro l
      induction l with
      | nil => intro _; rfl
      | cons a l ih =>
        intro h
        have ha := h a (by simp)
        have e1 : ((xs.length : Int) - 1 + (a : Int) * -1).toNat = xs.length - 1 - a := by omega
        have e2 : xs.toArray[((xs.length : Int) - 1 + (a : Int) * -1).toNat]? = some (xs.reverse.getD a .none) := by
          rw [e1]
          have hb : xs.length - 1 - a < xs.length := by omega
          simp only [List.getElem?_toArray]
          rw [List.getElem?_eq_getElem hb, List.getD_eq_getElem?_getD, List.getElem?_reverse (by omega), List.getElem?_eq_getElem hb]
          rfl
        rw [List.filterMap_cons, e2, List.map_cons, ih fun m hm => h m (by simp [hm])]
    exact this _ fun m hm => List.mem_range.mp hm
  rw [key, List.getElem?_map]
  by_cases hi : i < xs.length
  · rw [List.getElem?_range hi, List.getElem?_eq_getElem (by rw [List.length_reverse]; exact hi)]
    simp [List.getD_eq_getElem?_getD, hi]
  · rw [List.getElem?_eq_none (by simp; omega), List.getElem?_eq_none (by simp; omega)]
    rfl
theorem getItem_tuple_rev {t sl : Addr} {its : List Value} {vl vu vk : Value} {Q : Value → Shared → Prop} (ht : IsTup s.heap t its.toArray) (hs : s.heap.IsSliceOf sl vl vu vk) (pl : IsPart vl none) (pu : IsPart vu none) (pk : IsPart vk (some (-1)))
    (h : Q (.ref s.heap.objs.size) { s with heap := s.heap.push { cls := .type "tuple", data := .seq its.reverse.toArray } })
    (hsz : its.length ≤ sizeLine) : wpAny (model prog w) A (getItem (.ref t) (.ref sl)) Q E s := by
  have htake : sizeOk (.seq its.reverse.toArray) := by
    show its.reverse.toArray.size ≤ sizeLine
    rw [List.size_toArray, List.length_reverse]
    exact hsz
  obtain ⟨os, hos, hcs, hds⟩ := id hs
  have hTs : s.TypeIs (.ref sl) "slice" := ⟨os, hos, hcs⟩
  unfold getItem
  try with_reducible refine wpAny_holding ?_
  first | refine wpAny_bind (wpAny_pure ?_) | skip
  refine wpAny_bind (wpAny_sequenceKey ht.typeIs (by decide) ?_)
  refine wpAny_bind (wpAny_callSpecial?_slot (name := Str.ofString "__getitem__") ht.typeIs PyProof.Rows.slot_tuple_getitem
    (wpAny_call_entry PyProof.Rows.slot_tuple_getitem ht.typeIs entry_tuple_getitem ?_ (args_tuple_getitem _ _)))
  show wpAny _ _ (Builtin.Tuple.tupleItemsOf (.ref t) >>= _) _ _ s
  refine wpAny_bind (tupleItemsOf_ ht ?_)
  refine wpAny_bind (wpAny_typeOf hTs ?_)
  rw [if_pos (by decide)]
  refine wpAny_bind (sliceApplied_rev (n := its.toArray.size) hs pl pu pk ?_)
  rw [List.size_toArray]
  show wpAny _ _ (if ((((its.length : Nat) : Int) - 1) == 0 && (-1 : Int) == 1 && its.length == its.length) = true then _ else _) _ _ s
  rw [if_neg (by simp), pick_rev]
  first
    | exact wpAny_bind (m := Builtin.Tuple.tupleExact _) (wpAny_newObj_type (wpAny_pure ⟨_, rfl, wpAny_pure h⟩) htake)
    | exact wpAny_bind (m := Builtin.Tuple.tupleExact _) (wpAny_newObj_type (wpAny_bind (wpAny_pure (wpAny_pure ⟨_, rfl, wpAny_pure h⟩))) htake)
    | exact wpAny_bind (wpAny_bind (m := Builtin.Tuple.tupleExact _) (wpAny_newObj_type (wpAny_pure (wpAny_pure ⟨_, rfl, wpAny_pure h⟩)) htake))
    | exact wpAny_bind (wpAny_bind (m := Builtin.Tuple.tupleExact _) (wpAny_newObj_type (wpAny_pure ⟨_, rfl, wpAny_pure h⟩) htake))
end
section
variable {X : Cx}
def tRevA (K : PySem.W.Frag) (te : TE) : TE := fun σ H Q => te σ H fun x H1 => ∃ a xs, x = .ref a ∧ ((SqL K H1 a xs ∧ ∀ p, H1 p = none → Q (.ref p) (upd H1 p (.lst xs.reverse))) ∨ (SqT K H1 a xs ∧ ∀ p, H1 p = none → Q (.ref p) (upd H1 p (.tup xs.reverse))))
theorem pe_revA {e : Expr} {te : TE} {k : Nat} {p1 p2 p3 pos : Pos} (he : PE X e te) : PE X (.Subscript e (.Slice none none (some (.UnaryOp .USub (.Constant (.int 1) k p1) p2)) p3) pos) (tRevA X.K te) := by
  refine ⟨fun pins s σ H Q I h => ?_⟩
  refine Subscript_ (thn (he.run pins s σ H _ I h) fun v s1 ⟨x, H1, I1, r1, q1⟩ => ?_)
  obtain ⟨a, xs, ex, q⟩ := q1
  subst ex
  cases r1
  have hst : PO X (some (.UnaryOp .USub (.Constant (.int 1) k p1) p2)) (tPart (tUn (rU fun i => .int (-i)) (tC (.int 1)))) := po_some (pe_un un_neg pe_int)
  refine wpAny_Slice (thn (po_none.run pins s1 σ H1 (fun o H2 => o = none ∧ H2 = H1) I1 ⟨rfl, rfl⟩) fun vl s2 ⟨l, H2, I2, pl, el, e2⟩ => ?_)
  subst el e2
  refine thn (po_none.run pins s2 σ H2 (fun o H3 => o = none ∧ H3 = H2) I2 ⟨rfl, rfl⟩) fun vu s3 ⟨u, H3, I3, pu, eu, e3⟩ => ?_
  subst eu e3
  refine thn (hst.run pins s3 σ H3 (fun o H4 => o = some (-1) ∧ H4 = H3) I3 ⟨1, rfl, -1, rfl, rfl, rfl⟩) fun vs s4 ⟨o, H4, I4, ps, eo, e4⟩ => ?_
  subst eo e4
  have I5 : L2.Inv X pins σ H4 { s4 with heap := s4.heap.push { cls := .type "slice", data := .fields #[vl, vu, vs] } } := I4.kept (t' := s4.toks) fun b ob q => Heap.get?_push_of_some _ q
  rcases q with ⟨hx, q⟩ | ⟨hx, q⟩
  · obtain ⟨its, r, ht, hz⟩ := I5.list hx
    have hlen := r.length
    show wpAny (model X.prog X.w) X.A (subscriptTail e (.Slice none none (some (.UnaryOp .USub (.Constant (.int 1) k p1) p2)) p3) (.ref a) (.ref s4.heap.objs.size)) (EP X pins σ Q) X.xe { s4 with heap := s4.heap.push { cls := .type "slice", data := .fields #[vl, vu, vs] } }
    refine tail_any (ops := [.ref a, .ref s4.heap.objs.size]) ht.isList.typeIs (PySem.slot_list_getitem.lookup) ?_ (by with_unfolding_all rfl)
    refine wpAny_getItem_list_slice ht.isList (Heap.IsSliceOf.new _ vl vu vs) pl pu ps (by decide) ?_ (by rw [List.size_toArray]; omega)
    rw [PySem.W.krv_pick]
    refine ⟨.ref _, _, I5.laid (t' := s4.toks) (o := .lst xs.reverse) (fun b ob q => Heap.get?_push_of_some _ q) (Nat.le_refl _) ?_, rfl, q _ (I5.hok.fresh (Nat.le_refl _))⟩
    exact ⟨by rw [List.length_reverse]; exact hz, _, 0, r.reverse, Heap.get?_push_size _ rfl⟩
  · obtain ⟨its, r, ht, hz⟩ := I5.tuple hx
    have hlen := r.length
    show wpAny (model X.prog X.w) X.A (subscriptTail e (.Slice none none (some (.UnaryOp .USub (.Constant (.int 1) k p1) p2)) p3) (.ref a) (.ref s4.heap.objs.size)) (EP X pins σ Q) X.xe { s4 with heap := s4.heap.push { cls := .type "slice", data := .fields #[vl, vu, vs] } }
    refine tail_any (ops := [.ref a, .ref s4.heap.objs.size]) ht.typeIs (PyProof.Rows.slot_tuple_getitem.lookup) ?_ (by with_unfolding_all rfl)
    refine getItem_tuple_rev ht (Heap.IsSliceOf.new _ vl vu vs) pl pu ps ?_ (by omega)
    refine ⟨.ref _, _, I5.laid (t' := s4.toks) (o := .tup xs.reverse) (fun b ob q => Heap.get?_push_of_some _ q) (Nat.le_refl _) ?_, rfl, q _ (I5.hok.fresh (Nat.le_refl _))⟩
    exact ⟨by rw [List.length_reverse]; exact hz, _, r.reverse, ⟨_, Heap.get?_push_size _ rfl, rfl, _, rfl⟩⟩
end

/-! ### a built-in's call, by data -/
def rBi (b : Bi) : List V → Hp → VK → Prop := fun vs H Q => ∃ m h ds d h', HRep m H h ∧ Reps m H ds vs ∧ b.ap h ds = .ok d h' ∧
  ∀ v m' H', Ext m m' H H' → HRep m' H' h' → Rep m' H' d v → Fresh true H d v m' H' h' → Q v H'
theorem fresh_str {fr : Bool} {H : Hp} {i : Str} {v : V} {m' : Ms} {H' : Hp} {h' : Hy} : Fresh fr H (.str i) v m' H' h' := fun _ ⟨_, z⟩ => nomatch z
section
variable {X : Cx} {m : Ms} {H : Hp} {h : Hy}
theorem reps1 {d : D} {vs : List V} (r : Reps m H [d] vs) : ∃ v, vs = [v] ∧ Rep m H d v := by
  obtain ⟨v, u, rfl, h1, h2⟩ := r
  rw [h2]
  exact ⟨v, rfl, h1⟩
theorem reps2 {d e : D} {vs : List V} (r : Reps m H [d, e] vs) : ∃ v u, vs = [v, u] ∧ Rep m H d v ∧ Rep m H e u := by
  obtain ⟨v, u, rfl, h1, w, z, rfl, h2, h3⟩ := r
  rw [h3]
  exact ⟨v, w, rfl, h1, h2⟩
theorem len_dct {pins : List (Addr × Obj)} {σ : L2.St} {s : Shared} {t : Bool} {a : Addr} {u : HO} {ks : List D} {ws : List V} {Q : VK} (I : Inv X pins σ H s) (e : Rd H a u) (hd : DHo t u ks ws) (q : Q (.int ks.length) H) :
    wpAny (model X.prog X.w) X.A (call (.builtin "len") [.ref a]) (EP X pins σ Q) X.xe s := by
  cases t with
  | false =>
    obtain ⟨kvs, rfl, rfl, _⟩ := hd
    rw [List.length_map] at q
    exact d_len I e fun t s' I' => ⟨.int kvs.length, H, I', ⟨t, rfl⟩, q⟩
  | true =>
    obtain ⟨kvs, rfl, rfl, _⟩ := hd
    rw [List.length_map] at q
    obtain ⟨z, hd, ys, rel, dd⟩ := dt_rd I.hok e
    have hl : kvs.length = ys.length := Paired.length rel
    refine call_len_dictH hd dd (by rw [← hl]; rw [sizeLine_eq] at z; omega) ?_
    rw [← hl]
    exact ⟨.int ((kvs.length : Nat) : Int), H, I.tok _, ⟨_, rfl⟩, q⟩
theorem bi_len : CallR X (.builtin "len") (rBi .len) := by
  intro pins s σ H vs us Q I r hq
  obtain ⟨m, h, ds, d, h', hr, rp, e, q⟩ := hq
  match ds, e, rp with
  | [.str x], e, rp =>
    obtain ⟨v, rfl, h1⟩ := reps1 rp
    cases h1
    simp only [Bi.ap] at e
    split at e
    · rename_i hl
      cases e
      exact call_len_str pins s σ H _ us Q I r ⟨x, rfl, lim_le hl, q _ m H Ext.refl hr rfl fresh_int⟩
    · cases e
  | [.non], e, rp => simp [Bi.ap, dctOf, seqOf, R.op] at e
  | [.bl _], e, rp => simp [Bi.ap, dctOf, seqOf, R.op] at e
  | [.int _], e, rp => simp [Bi.ap, dctOf, seqOf, R.op] at e
  | [.dct t ks vs], e, rp =>
    obtain ⟨v, rfl, h1⟩ := reps1 rp
    cases e
    obtain ⟨w, rfl, rw'⟩ := vals1 r
    obtain ⟨a, u, ws, rfl, k1, k2, _⟩ := dct_of hr h1 rfl
    cases rw'
    exact len_dct I k1 k2 (q _ m H Ext.refl hr rfl fresh_int)
  | [.lsi ns], e, rp =>
    obtain ⟨v, rfl, h1⟩ := reps1 rp
    cases e
    obtain ⟨a, o, rfl, _, h2⟩ := h1
    exact call_len_seq pins s σ H _ us Q I r ⟨a, ns.map V.int, rfl, .inl (.inl (.inr ⟨o, h2⟩)), by rw [List.length_map]; exact q _ m H Ext.refl hr rfl fresh_int⟩
  | [.tup xs], e, rp =>
    obtain ⟨v, rfl, h1⟩ := reps1 rp
    cases e
    obtain ⟨a, ws, rfl, _, h2, h3⟩ := h1
    exact call_len_seq pins s σ H _ us Q I r ⟨a, ws, rfl, .inr (SqT.of h2), by rw [h3.length]; exact q _ m H Ext.refl hr rfl fresh_int⟩
  | [.lst xs], e, rp =>
    obtain ⟨v, rfl, h1⟩ := reps1 rp
    cases e
    obtain ⟨a, ws, rfl, _, h2, h3⟩ := h1
    exact call_len_seq pins s σ H _ us Q I r ⟨a, ws, rfl, .inl (SqL.of h2), by rw [h3.length]; exact q _ m H Ext.refl hr rfl fresh_int⟩
  | [.loc n], e, rp =>
    obtain ⟨v, rfl, h1⟩ := reps1 rp
    have e' : (match dctOf h (.loc n) with | some (_, ks, _) => R.ok (.int ks.length) h | none => R.op ((seqOf h (.loc n)).map fun ys => .int ys.length) h) = R.ok d h' := e
    split at e'
    · rename_i t ks vs ed
      cases e'
      obtain ⟨w, rfl, rw'⟩ := vals1 r
      obtain ⟨a, u, ws, rfl, k1, k2, _⟩ := dct_of hr h1 ed
      cases rw'
      exact len_dct I k1 k2 (q _ m H Ext.refl hr rfl fresh_int)
    · obtain ⟨e1, rfl⟩ := R.op_ok e'
      obtain ⟨ys, e2, e3⟩ := Option.map_eq_some_iff.mp e1
      subst e3
      obtain ⟨a, ws, rfl, h2, h3⟩ := seq_of (K := X.K) hr h1 e2
      exact call_len_seq pins s σ H _ us Q I r ⟨a, ws, rfl, h2, by rw [h3.length]; exact q _ m H Ext.refl hr rfl fresh_int⟩
  | [], e, rp => simp [Bi.ap] at e
  | _ :: _ :: _, e, rp => simp [Bi.ap] at e
theorem bi_sum (hc : X.calm = true) : CallR X (.builtin "sum") (rBi .sum) := by
  intro pins s σ H vs us Q I r hq
  obtain ⟨m, h, ds, d, h', hr, rp, e, q⟩ := hq
  match ds, e, rp with
  | [x], e, rp =>
    obtain ⟨v, rfl, h1⟩ := reps1 rp
    obtain ⟨e1, rfl⟩ := R.op_ok e
    obtain ⟨ys, e2, e3⟩ := Option.bind_eq_some_iff.mp e1
    obtain ⟨ns, e4, e5⟩ := Option.map_eq_some_iff.mp e3
    subst e5
    obtain ⟨a, ws, rfl, h2, h3⟩ := lst_of (K := X.K) hr h1 e2
    have e6 := reps_ints h3 e4
    subst e6
    exact cr_sum hc pins s σ H _ us Q I r ⟨a, ns, rfl, SqL.of h2, q _ m H Ext.refl hr rfl fresh_int⟩
  | [], e, rp => simp [Bi.ap] at e
  | _ :: _ :: _, e, rp => simp [Bi.ap] at e
theorem bi_max1 (hc : X.calm = true) (hu : X.A.units + 65 < cLine) : CallR X (.builtin "max") (rBi .max1) := by
  intro pins s σ H vs us Q I r hq
  obtain ⟨m, h, ds, d, h', hr, rp, e, q⟩ := hq
  match ds, e, rp with
  | [x], e, rp =>
    obtain ⟨v, rfl, h1⟩ := reps1 rp
    have e : (match (lstOf h x).bind intsOf with
      | some [] => R.no
      | some (y :: r) => R.ok (.int (maxI y r)) h
      | none => R.op ((seqOf h x).bind D.maxOf) h) = R.ok d h' := e
    split at e
    · cases e
    · rename_i y ns e1
      cases e
      obtain ⟨ys, e2, e4⟩ := Option.bind_eq_some_iff.mp e1
      obtain ⟨a, ws, rfl, h2, h3⟩ := lst_of (K := X.K) hr h1 e2
      have e6 := reps_ints h3 e4
      subst e6
      refine cr_max hc pins s σ H _ us Q I r ⟨a, y :: ns, rfl, SqL.of h2, by simp, fun k k1 k2 => ?_⟩
      have z := maxI_mem y ns
      have e7 : k = maxI y ns := Int.le_antisymm (z.2 k k1) (k2 _ z.1)
      rw [e7]
      exact q _ m H Ext.refl hr rfl fresh_int
    · obtain ⟨e1, rfl⟩ := R.op_ok e
      obtain ⟨ys, e2, e3⟩ := Option.bind_eq_some_iff.mp e1
      obtain ⟨a, ws, rfl, h2, h3⟩ := seq_of (K := X.K) hr h1 e2
      cases ys with
      | nil => cases e3
      | cons y ys =>
        simp only [D.maxOf] at e3
        split at e3
        · rename_i so
          split at e3
          · cases e3
          · rename_i nl
            cases e3
            exact cr_maxD hc hu pins s σ H _ us Q I r ⟨a, ws, y, ys, m, rfl, h2, h3, so, fun v rv => q _ m H Ext.refl hr rv fun _ ⟨xs, z⟩ => absurd z (nl xs)⟩
        · cases e3
  | [], e, rp => simp [Bi.ap] at e
  | _ :: _ :: _, e, rp => simp [Bi.ap] at e
theorem bi_min1 (hc : X.calm = true) (hu : X.A.units + 65 < cLine) : CallR X (.builtin "min") (rBi .min1) := by
  intro pins s σ H vs us Q I r hq
  obtain ⟨m, h, ds, d, h', hr, rp, e, q⟩ := hq
  match ds, e, rp with
  | [x], e, rp =>
    obtain ⟨v, rfl, h1⟩ := reps1 rp
    have e : (match (lstOf h x).bind intsOf with
      | some [] => R.no
      | some (y :: r) => R.ok (.int (minI y r)) h
      | none => R.op ((seqOf h x).bind D.minOf) h) = R.ok d h' := e
    split at e
    · cases e
    · rename_i y ns e1
      cases e
      obtain ⟨ys, e2, e4⟩ := Option.bind_eq_some_iff.mp e1
      obtain ⟨a, ws, rfl, h2, h3⟩ := lst_of (K := X.K) hr h1 e2
      have e6 := reps_ints h3 e4
      subst e6
      refine cr_min hc pins s σ H _ us Q I r ⟨a, y :: ns, rfl, SqL.of h2, by simp, fun k k1 k2 => ?_⟩
      have z := minI_mem y ns
      have e7 : k = minI y ns := Int.le_antisymm (k2 _ z.1) (z.2 k k1)
      rw [e7]
      exact q _ m H Ext.refl hr rfl fresh_int
    · obtain ⟨e1, rfl⟩ := R.op_ok e
      obtain ⟨ys, e2, e3⟩ := Option.bind_eq_some_iff.mp e1
      obtain ⟨a, ws, rfl, h2, h3⟩ := seq_of (K := X.K) hr h1 e2
      cases ys with
      | nil => cases e3
      | cons y ys =>
        simp only [D.minOf] at e3
        split at e3
        · rename_i so
          split at e3
          · cases e3
          · rename_i nl
            cases e3
            exact cr_minD hc hu pins s σ H _ us Q I r ⟨a, ws, y, ys, m, rfl, h2, h3, so, fun v rv => q _ m H Ext.refl hr rv fun _ ⟨xs, z⟩ => absurd z (nl xs)⟩
        · cases e3
  | [], e, rp => simp [Bi.ap] at e
  | _ :: _ :: _, e, rp => simp [Bi.ap] at e
theorem bi_max2 (hc : X.calm = true) : CallR X (.builtin "max") (rBi .max2) := by
  intro pins s σ H vs us Q I r hq
  obtain ⟨m, h, ds, d, h', hr, rp, e, q⟩ := hq
  match ds, e, rp with
  | [.int i, .int j], e, rp =>
    obtain ⟨v, u, rfl, h1, h2⟩ := reps2 rp
    cases h1; cases h2; cases e
    exact call_max2 hc pins s σ H _ us Q I r ⟨i, j, rfl, q _ m H Ext.refl hr rfl fresh_int⟩
  | [], e, rp => simp [Bi.ap] at e
  | [_], e, rp => simp [Bi.ap] at e
  | [x, y], e, rp => cases x <;> cases y <;> first | (simp [Bi.ap] at e; done) | skip
                     obtain ⟨v, u, rfl, h1, h2⟩ := reps2 rp
                     cases h1; cases h2; cases e
                     exact call_max2 hc pins s σ H _ us Q I r ⟨_, _, rfl, q _ m H Ext.refl hr rfl fresh_int⟩
  | _ :: _ :: _ :: _, e, rp => simp [Bi.ap] at e
theorem bi_min2 (hc : X.calm = true) : CallR X (.builtin "min") (rBi .min2) := by
  intro pins s σ H vs us Q I r hq
  obtain ⟨m, h, ds, d, h', hr, rp, e, q⟩ := hq
  match ds, e, rp with
  | [], e, rp => simp [Bi.ap] at e
  | [_], e, rp => simp [Bi.ap] at e
  | [x, y], e, rp => cases x <;> cases y <;> first | (simp [Bi.ap] at e; done) | skip
                     obtain ⟨v, u, rfl, h1, h2⟩ := reps2 rp
                     cases h1; cases h2; cases e
                     exact call_min2 hc pins s σ H _ us Q I r ⟨_, _, rfl, q _ m H Ext.refl hr rfl fresh_int⟩
  | _ :: _ :: _ :: _, e, rp => simp [Bi.ap] at e
theorem bi_any (hc : X.calm = true) : CallR X (.builtin "any") (rBi .any) := by
  intro pins s σ H vs us Q I r hq
  obtain ⟨m, h, ds, d, h', hr, rp, e, q⟩ := hq
  match ds, e, rp with
  | [x], e, rp =>
    obtain ⟨v, rfl, h1⟩ := reps1 rp
    obtain ⟨e1, rfl⟩ := R.op_ok e
    obtain ⟨ys, e2, e3⟩ := Option.bind_eq_some_iff.mp e1
    obtain ⟨ns, e4, e5⟩ := Option.map_eq_some_iff.mp e3
    subst e5
    obtain ⟨a, ws, rfl, h2, h3⟩ := lst_of (K := X.K) hr h1 e2
    exact cr_anyB hc pins s σ H _ us Q I r ⟨a, ws, ys, ns, m, rfl, SqL.of h2, h3, e4, q _ m H Ext.refl hr rfl fresh_bl⟩
  | [], e, rp => simp [Bi.ap] at e
  | _ :: _ :: _, e, rp => simp [Bi.ap] at e
theorem bi_all (hc : X.calm = true) : CallR X (.builtin "all") (rBi .all) := by
  intro pins s σ H vs us Q I r hq
  obtain ⟨m, h, ds, d, h', hr, rp, e, q⟩ := hq
  match ds, e, rp with
  | [x], e, rp =>
    obtain ⟨v, rfl, h1⟩ := reps1 rp
    obtain ⟨e1, rfl⟩ := R.op_ok e
    obtain ⟨ys, e2, e3⟩ := Option.bind_eq_some_iff.mp e1
    obtain ⟨ns, e4, e5⟩ := Option.map_eq_some_iff.mp e3
    subst e5
    obtain ⟨a, ws, rfl, h2, h3⟩ := lst_of (K := X.K) hr h1 e2
    exact cr_allB hc pins s σ H _ us Q I r ⟨a, ws, ys, ns, m, rfl, SqL.of h2, h3, e4, q _ m H Ext.refl hr rfl fresh_bl⟩
  | [], e, rp => simp [Bi.ap] at e
  | _ :: _ :: _, e, rp => simp [Bi.ap] at e
theorem bi_tuple : CallR X (.type "tuple") (rBi .tuple) := by
  intro pins s σ H vs us Q I r hq
  obtain ⟨m, h, ds, d, h', hr, rp, e, q⟩ := hq
  match ds, e, rp with
  | [x], e, rp =>
    obtain ⟨v, rfl, h1⟩ := reps1 rp
    obtain ⟨e1, rfl⟩ := R.op_ok e
    obtain ⟨ys, e2, e3⟩ := Option.map_eq_some_iff.mp e1
    subst e3
    obtain ⟨a, ws, rfl, h2, h3⟩ := seq_of (K := X.K) hr h1 e2
    rcases h2 with h2 | h2
    · exact call_tuple_of pins s σ H _ us Q I r ⟨a, ws, rfl, .inl ⟨h2, fun l hl => q _ m _ (Ext.laid hl) (hr.laid hl) (Rep.tupNew hr hl h3) fresh_tup⟩⟩
    · refine call_tuple_of pins s σ H _ us Q I r ⟨a, ws, rfl, .inr ⟨h2, ?_⟩⟩
      have hx : ∃ zs, x = .tup zs ∧ zs = ys := by
        cases x with
        | tup zs => exact ⟨zs, rfl, by cases e2; rfl⟩
        | lst zs =>
          exfalso
          obtain ⟨a', vs', ea, _, k1, _⟩ := h1
          cases ea
          obtain ⟨its, _, ⟨o, ho, hc, _⟩, _⟩ := I.tuple h2
          obtain ⟨its', _, ⟨o', n', ho', hc', _⟩, _⟩ := I.list (SqL.of k1)
          rw [ho] at ho'; cases ho'; rw [hc] at hc'; simp at hc'
        | loc n =>
          exfalso
          simp only [seqOf] at e2
          split at e2
          · rename_i hn
            obtain ⟨a', ea, ha⟩ := h1
            cases ea
            obtain ⟨vs', k1, _⟩ := hr.ob n _ _ hn ha
            obtain ⟨its, _, ⟨o, ho, hc, _⟩, _⟩ := I.tuple h2
            obtain ⟨its', _, ⟨o', n', ho', hc', _⟩, _⟩ := I.list (SqL.of k1)
            rw [ho] at ho'; cases ho'; rw [hc] at hc'; simp at hc'
          · cases e2
        | _ => simp [seqOf] at e2
      obtain ⟨zs, rfl, rfl⟩ := hx
      exact q _ m H Ext.refl hr h1 fresh_tup
  | [], e, rp => simp [Bi.ap] at e
  | _ :: _ :: _, e, rp => simp [Bi.ap] at e
theorem list_cases {x d : D} {h h' : Hy} (e : Bi.ap .list h [x] = .ok d h') : (∃ ks vs, x = .dct false ks vs ∧ d = .lst ks ∧ h' = h) ∨ R.op ((seqOf h x).map fun ys => .lst ys) h = .ok d h' := by
  cases x with
  | dct t ks vs =>
    cases t with
    | false => cases e; exact .inl ⟨_, _, rfl, rfl, rfl⟩
    | true => exact .inr e
  | non => exact .inr e
  | bl _ => exact .inr e
  | int _ => exact .inr e
  | str _ => exact .inr e
  | tup _ => exact .inr e
  | lst _ => exact .inr e
  | loc _ => exact .inr e
  | lsi _ => exact .inr e
theorem bi_list (hc : X.calm = true) : CallR X (.type "list") (rBi .list) := by
  intro pins s σ H vs us Q I r hq
  obtain ⟨m, h, ds, d, h', hr, rp, e, q⟩ := hq
  match ds, e, rp with
  | [x], e, rp =>
    obtain ⟨v, rfl, h1⟩ := reps1 rp
    rcases list_cases e with ⟨ks, vs, rfl, rfl, rfl⟩ | e
    · obtain ⟨a, o, u, ws, rfl, nb, ha, ⟨kvs, rfl, rfl, rfl⟩, hv⟩ := h1
      refine call_listD hc pins s σ H _ us Q I r ⟨a, kvs, rfl, .inr ⟨o, ha⟩, fun p hp => q _ m _ (Ext.laid hp) (hr.laid hp) (Rep.lstNew hr hp (reps_keys kvs)) (fresh_at hp (hr.mark hp))⟩
    obtain ⟨e1, rfl⟩ := R.op_ok e
    obtain ⟨ys, e2, e3⟩ := Option.map_eq_some_iff.mp e1
    subst e3
    obtain ⟨a, ws, rfl, h2, h3⟩ := seq_of (K := X.K) hr h1 e2
    exact call_list_of pins s σ H _ us Q I r ⟨a, ws, rfl, h2, fun l hl => q _ m _ (Ext.laid hl) (hr.laid hl) (Rep.lstNew hr hl h3) (fresh_at hl (hr.mark hl))⟩
  | [], e, rp => simp [Bi.ap] at e
  | _ :: _ :: _, e, rp => simp [Bi.ap] at e
theorem bi_int : CallR X (.type "int") (rBi .int) := by
  intro pins s σ H vs us Q I r hq
  obtain ⟨m, h, ds, d, h', hr, rp, e, q⟩ := hq
  match ds, e, rp with
  | [x], e, rp =>
    cases x <;> first | (simp [Bi.ap] at e; done) | skip
    obtain ⟨v, rfl, h1⟩ := reps1 rp
    cases h1; cases e
    exact call_int1 pins s σ H _ us Q I r (.inl ⟨_, rfl, q _ m H Ext.refl hr rfl fresh_int⟩)
  | [], e, rp => simp [Bi.ap] at e
  | _ :: _ :: _, e, rp => simp [Bi.ap] at e
theorem sle_antisymm {x y : Str} (h1 : D.lt (.str x) (.str y) = false) (h2 : D.lt (.str y) (.str x) = false) : x = y := by
  simp only [D.lt, decide_eq_false_iff_not] at h1 h2
  have := List.le_antisymm (List.not_lt.mp h2) (List.not_lt.mp h1)
  obtain ⟨a⟩ := x; obtain ⟨b⟩ := y
  simp at this
  rw [this]
theorem insr_perm (x : D) : ∀ ys : List D, (D.insr x ys).Perm (x :: ys)
  | [] => List.Perm.refl _
  | y :: ys => by
    unfold D.insr
    split
    · exact ((insr_perm x ys).cons y).trans (List.Perm.swap x y ys)
    · exact List.Perm.refl _
theorem sort_perm : ∀ xs : List D, (D.sort xs).Perm xs
  | [] => List.Perm.refl _
  | x :: xs => (insr_perm x _).trans ((sort_perm xs).cons x)
theorem sle_trans {x y z : Str} (h1 : D.lt (.str y) (.str x) = false) (h2 : D.lt (.str z) (.str y) = false) : D.lt (.str z) (.str x) = false := by
  simp only [D.lt, decide_eq_false_iff_not] at h1 h2 ⊢
  exact List.not_lt.mpr (List.le_trans (List.not_lt.mp h1) (List.not_lt.mp h2))
theorem sle_total {x y : Str} (h : D.lt (.str y) (.str x) = true) : D.lt (.str x) (.str y) = false := by
  simp only [D.lt, decide_eq_false_iff_not, decide_eq_true_eq] at h ⊢
  exact List.lt_asymm h
abbrev SLe : D → D → Prop := fun a b => D.lt b a = false
theorem insr_pw {x : Str} : ∀ {ys : List Str}, (ys.map D.str).Pairwise SLe → ∃ zs : List Str, D.insr (.str x) (ys.map D.str) = zs.map D.str ∧ (zs.map D.str).Pairwise SLe
  | [], _ => ⟨[x], rfl, by simp⟩
  | y :: ys, h => by
    rw [List.map_cons, List.pairwise_cons] at h
    obtain ⟨zs, e, hz⟩ := insr_pw (x := x) h.2
    simp only [List.map_cons, D.insr]
    by_cases hl : D.lt (.str y) (.str x) = true
    · rw [if_pos hl, e]
      refine ⟨y :: zs, rfl, List.pairwise_cons.mpr ⟨fun d hd => ?_, hz⟩⟩
      have : d ∈ D.insr (.str x) (ys.map D.str) := by rw [e]; exact hd
      rcases insr_mem this with rfl | hm
      · exact sle_total hl
      · exact h.1 d hm
    · rw [if_neg hl]
      have hl : D.lt (.str y) (.str x) = false := by simpa using hl
      refine ⟨x :: y :: ys, rfl, List.pairwise_cons.mpr ⟨fun d hd => ?_, List.pairwise_cons.mpr h⟩⟩
      rcases List.mem_cons.mp hd with rfl | hd
      · exact hl
      · obtain ⟨w, _, rfl⟩ := List.mem_map.mp hd
        exact sle_trans hl (h.1 _ hd)
theorem sort_strs : ∀ zs : List Str, ∃ ys : List Str, D.sort (zs.map D.str) = ys.map D.str ∧ (ys.map D.str).Pairwise SLe
  | [] => ⟨[], rfl, List.Pairwise.nil⟩
  | z :: zs => by
    obtain ⟨ys, e, h⟩ := sort_strs zs
    obtain ⟨ws, e2, h2⟩ := insr_pw (x := z) h
    exact ⟨ws, by rw [← e2, ← e]; rfl, h2⟩
theorem rising_pw : ∀ {ys : List Str} {p : Str}, risingS p ys = true → ((p :: ys).map D.str).Pairwise SLe
  | [], p, _ => by simp
  | y :: ys, p, h => by
    rw [risingS, Bool.and_eq_true, Bool.not_eq_true', ltCps_eq] at h
    have ih := rising_pw h.2
    rw [List.map_cons]
    refine List.pairwise_cons.mpr ⟨fun d hd => ?_, ih⟩
    have h1 : D.lt (.str y) (.str p) = false := h.1
    rw [List.map_cons] at hd ih
    rcases List.mem_cons.mp hd with rfl | hd
    · exact h1
    · obtain ⟨w, _, rfl⟩ := List.mem_map.mp hd
      exact sle_trans h1 ((List.pairwise_cons.mp ih).1 _ hd)
theorem sorted_pw : ∀ {ys : List Str}, sortedS ys = true → (ys.map D.str).Pairwise SLe
  | [], _ => List.Pairwise.nil
  | y :: ys, h => rising_pw h
theorem sorted_uniq {ys zs : List Str} (p : ys.Perm zs) (h : sortedS ys = true) : ys.map D.str = D.sort (zs.map D.str) := by
  obtain ⟨ws, e, hw⟩ := sort_strs zs
  rw [e]
  have pm : (ys.map D.str).Perm (ws.map D.str) := by
    rw [← e]
    exact (p.map _).trans (sort_perm _).symm
  refine List.Perm.eq_of_pairwise (le := SLe) (fun a b ha hb h1 h2 => ?_) (sorted_pw h) hw pm
  obtain ⟨x, _, rfl⟩ := List.mem_map.mp ha
  obtain ⟨y, _, rfl⟩ := List.mem_map.mp hb
  rw [sle_antisymm h2 h1]
theorem insr_pwI {x : Int} : ∀ {ys : List Int}, ys.Pairwise (· ≤ ·) → ∃ zs : List Int, D.insr (.int x) (ys.map D.int) = zs.map D.int ∧ zs.Pairwise (· ≤ ·) ∧ ∀ z ∈ zs, z = x ∨ z ∈ ys
  | [], _ => ⟨[x], rfl, by simp, by simp⟩
  | y :: ys, h => by
    rw [List.pairwise_cons] at h
    obtain ⟨zs, e, hz, hm⟩ := insr_pwI (x := x) h.2
    simp only [List.map_cons, D.insr, D.lt, decide_eq_true_eq]
    by_cases hl : y < x
    · rw [if_pos hl, e]
      refine ⟨y :: zs, rfl, List.pairwise_cons.mpr ⟨fun d hd => ?_, hz⟩, fun z hz => ?_⟩
      · rcases hm d hd with rfl | hm
        · omega
        · exact h.1 d hm
      · rcases List.mem_cons.mp hz with rfl | hz
        · exact .inr (List.mem_cons_self ..)
        · rcases hm z hz with rfl | hm
          · exact .inl rfl
          · exact .inr (List.mem_cons_of_mem _ hm)
    · rw [if_neg hl]
      refine ⟨x :: y :: ys, rfl, List.pairwise_cons.mpr ⟨fun d hd => ?_, List.pairwise_cons.mpr h⟩, fun z hz => List.mem_cons.mp hz⟩
      rcases List.mem_cons.mp hd with rfl | hd
      · omega
      · have := h.1 _ hd; omega
theorem sort_intsP : ∀ ns : List Int, ∃ ys : List Int, D.sort (ns.map D.int) = ys.map D.int ∧ ys.Pairwise (· ≤ ·)
  | [] => ⟨[], rfl, List.Pairwise.nil⟩
  | z :: zs => by
    obtain ⟨ys, e, h⟩ := sort_intsP zs
    obtain ⟨ws, e2, h2, _⟩ := insr_pwI (x := z) h
    exact ⟨ws, by rw [← e2, ← e]; rfl, h2⟩
theorem map_intInj : ∀ {xs ys : List Int}, xs.map D.int = ys.map D.int → xs = ys
  | [], [], _ => rfl
  | [], _ :: _, e => by cases e
  | _ :: _, [], e => by cases e
  | x :: xs, y :: ys, e => by
    rw [List.map_cons, List.map_cons] at e
    obtain ⟨e1, e2⟩ := List.cons.inj e
    cases e1
    rw [map_intInj e2]
theorem perm_unmap : ∀ {l : List D} {ws : List Int}, l.Perm (ws.map D.int) → ∀ {ys : List Int}, l = ys.map D.int → ys.Perm ws := fun {l ws} p {ys} e => by
  subst e
  have q := p.filterMap (fun d : D => match d with | .int i => some i | _ => none)
  have f : ∀ zs : List Int, (zs.map D.int).filterMap (fun d : D => match d with | .int i => some i | _ => none) = zs := fun zs => by
    rw [List.filterMap_map]
    exact List.filterMap_some ..
  rw [f, f] at q
  exact q
theorem sorted_uniqI {ys ns : List Int} (p : ys.Perm ns) (h : ys.Pairwise (· ≤ ·)) : ys.map D.int = D.sort (ns.map D.int) := by
  obtain ⟨ws, e, hw⟩ := sort_intsP ns
  rw [e]
  have pm : (ys.map D.int).Perm (ws.map D.int) := by
    rw [← e]
    exact (p.map _).trans (sort_perm _).symm
  rw [List.Perm.eq_of_pairwise (le := (· ≤ ·)) (fun a b _ _ h1 h2 => Int.le_antisymm h1 h2) h hw (perm_unmap pm rfl)]
theorem ints_map : ∀ {ds : List D} {zs : List Int}, intsOf ds = some zs → ds = zs.map D.int
  | [], zs, e => by cases e; rfl
  | d :: ds, zs, e => by
    cases d <;> simp [intsOf] at e
    obtain ⟨r, e1, rfl⟩ := e
    rw [ints_map e1]; rfl
theorem keys_ints : ∀ {kvs : List (Key × V)} {zs : List Int}, kvs.map (fun p => kD p.1) = zs.map D.int → kvs.map (·.1) = zs.map Sum.inl
  | [], [], _ => rfl
  | [], _ :: _, e => by cases e
  | _ :: _, [], e => by cases e
  | kv :: kvs, z :: zs, e => by
    rw [List.map_cons, List.map_cons] at e
    obtain ⟨e1, e2⟩ := List.cons.inj e
    rw [List.map_cons, List.map_cons, keys_ints e2]
    congr 1
    obtain ⟨k, v⟩ := kv
    cases k with
    | inr i => cases e1
    | inl x => cases e1; rfl
theorem strs_map : ∀ {ds : List D} {zs : List Str}, strsOf ds = some zs → ds = zs.map D.str
  | [], zs, e => by cases e; rfl
  | d :: ds, zs, e => by
    cases d <;> simp [strsOf] at e
    obtain ⟨r, e1, rfl⟩ := e
    rw [strs_map e1]; rfl
theorem reps_strs {m : Ms} {H : Hp} : ∀ ys : List Str, Reps m H (ys.map D.str) (ys.map V.str)
  | [] => rfl
  | y :: ys => ⟨_, _, rfl, rfl, reps_strs ys⟩
theorem keys_strs : ∀ {kvs : List (Key × V)} {zs : List Str}, kvs.map (fun p => kD p.1) = zs.map D.str → kvs.map (·.1) = zs.map Sum.inr
  | [], [], _ => rfl
  | [], _ :: _, e => by cases e
  | _ :: _, [], e => by cases e
  | kv :: kvs, z :: zs, e => by
    rw [List.map_cons, List.map_cons] at e
    obtain ⟨e1, e2⟩ := List.cons.inj e
    rw [List.map_cons, List.map_cons, keys_strs e2]
    congr 1
    obtain ⟨k, v⟩ := kv
    cases k with
    | inl i => cases e1
    | inr x => cases e1; rfl
theorem sorted_cases {x d : D} {h h' : Hy} (e : Bi.ap .sorted h [x] = .ok d h') : (∃ ks vs, x = .dct false ks vs ∧ ((∃ zs, strsOf ks = some zs) ∨ ∃ zs, intsOf ks = some zs) ∧ ks.length < 64 ∧ d = .lst (D.sort ks) ∧ h' = h) ∨ R.op ((lstOf h x).bind fun ys => if D.sortable ys then some (.lst (D.sort ys)) else none) h = .ok d h' := by
  cases x with
  | dct t ks vs =>
    cases t with
    | false =>
      have e : (if ((strsOf ks).isSome || (intsOf ks).isSome) && decide (ks.length < 64) then R.ok (.lst (D.sort ks)) h else .no) = R.ok d h' := e
      split at e
      · rename_i hc
        rw [Bool.and_eq_true, Bool.or_eq_true, decide_eq_true_eq] at hc
        cases e
        exact .inl ⟨_, _, rfl, hc.1.imp Option.isSome_iff_exists.mp Option.isSome_iff_exists.mp, hc.2, rfl, rfl⟩
      · cases e
    | true => exact .inr e
  | non => exact .inr e
  | bl _ => exact .inr e
  | int _ => exact .inr e
  | str _ => exact .inr e
  | tup _ => exact .inr e
  | lst _ => exact .inr e
  | loc _ => exact .inr e
  | lsi _ => exact .inr e
theorem bi_sorted (hc : X.calm = true) (hu : X.A.units + 65 < cLine) : CallR X (.builtin "sorted") (rBi .sorted) := by
  intro pins s σ H vs us Q I r hq
  obtain ⟨m, h, ds, d, h', hr, rp, e, q⟩ := hq
  match ds, e, rp with
  | [x], e, rp =>
    obtain ⟨v, rfl, h1⟩ := reps1 rp
    rcases sorted_cases e with ⟨ks, vs, rfl, ⟨zs, ez⟩ | ⟨zs, ez⟩, hl, rfl, rfl⟩ | e
    · obtain ⟨a, o, u, ws, rfl, nb, ha, ⟨kvs, rfl, rfl, rfl⟩, hv⟩ := h1
      have ek := strs_map ez
      refine call_sortedD hc pins s σ H _ us Q I r ⟨a, kvs, zs, rfl, .inr ⟨o, ha⟩, keys_strs ek, ?_, fun ys p pm so hp => q _ m _ (Ext.laid hp) (hr.laid hp) (Rep.lstNew hr hp ?_) (fresh_at hp (hr.mark hp))⟩
      · rw [ek, List.length_map] at hl; exact hl
      · rw [ek, ← sorted_uniq pm so]
        exact reps_strs ys
    · obtain ⟨a, o, u, ws, rfl, nb, ha, ⟨kvs, rfl, rfl, rfl⟩, hv⟩ := h1
      have ek := ints_map ez
      refine call_sortedDI hc pins s σ H _ us Q I r ⟨a, kvs, zs, rfl, .inr ⟨o, ha⟩, keys_ints ek, ?_, fun ys p pm so hp => q _ m _ (Ext.laid hp) (hr.laid hp) (Rep.lstNew hr hp ?_) (fresh_at hp (hr.mark hp))⟩
      · rw [ek, List.length_map] at hl; exact hl
      · rw [ek, ← sorted_uniqI pm so]
        exact reps_lsi ys
    obtain ⟨e1, rfl⟩ := R.op_ok e
    obtain ⟨ys, e2, e3⟩ := Option.bind_eq_some_iff.mp e1
    split at e3
    · rename_i so
      cases e3
      obtain ⟨a, ws, rfl, h2, h3⟩ := lst_of (K := X.K) hr h1 e2
      exact cr_sortedD hu pins s σ H _ us Q I r ⟨a, ws, ys, m, rfl, SqL.of h2, h3, so, fun zs p k1 hp => q _ m _ (Ext.laid hp) (hr.laid hp) (Rep.lstNew hr hp k1) (fresh_at hp (hr.mark hp))⟩
    · cases e3
  | [], e, rp => simp [Bi.ap] at e
  | _ :: _ :: _, e, rp => simp [Bi.ap] at e
/-- the class that isinstance is asked of -/
def isiTy : Bi → Option String
  | .isInt => some "int" | .isBool => some "bool" | .isTup => some "tuple" | .isStr => some "str" | .isDict => some "dict" | _ => none
def isiRep : D → String
  | .non => "NoneType" | .bl _ => "bool" | .int _ => "int" | .str _ => "str" | .tup _ => "tuple" | .lst _ => "list" | .dct _ _ _ => "dict" | .loc _ => "list" | .lsi _ => "list"
theorem kit_tab : (["NoneType", "bool", "int", "str", "tuple", "list", "dict"].all fun S => ["int", "bool", "tuple", "str", "dict"].all fun T => kitB S T == some (S == T || (S == "bool" && T == "int"))) = true := by decide +kernel
theorem kit_at {S T : String} (hS : S ∈ ["NoneType", "bool", "int", "str", "tuple", "list", "dict"]) (hT : T ∈ ["int", "bool", "tuple", "str", "dict"]) : kitB S T = some (S == T || (S == "bool" && T == "int")) :=
  eq_of_beq (List.all_eq_true.mp (List.all_eq_true.mp kit_tab S hS) T hT)
theorem isi_mem (y : D) : isiRep y ∈ ["NoneType", "bool", "int", "str", "tuple", "list", "dict"] := by cases y <;> simp [isiRep]
theorem isi_T {b : Bi} {T : String} (hb : isiTy b = some T) : T ∈ ["int", "bool", "tuple", "str", "dict"] := by
  cases b <;> simp only [isiTy, Option.some.injEq, reduceCtorEq] at hb <;> subst hb <;> simp
theorem isi_ans {b : Bi} {T : String} (hb : isiTy b = some T) {h h' : Hy} {y d : D} (e : b.ap h [y] = .ok d h') : d = .bl (isiRep y == T || (isiRep y == "bool" && T == "int")) ∧ h' = h ∧ (∀ n, y ≠ .loc n) ∧ ∀ n, y ≠ .lsi n := by
  cases b <;> simp only [isiTy, Option.some.injEq, reduceCtorEq] at hb <;> subst hb <;> cases y <;> simp only [Bi.ap, R.ok.injEq, reduceCtorEq] at e <;> obtain ⟨rfl, rfl⟩ := e <;>
    exact ⟨by simp only [isiRep]; congr 1, rfl, (fun n z => nomatch z), (fun n z => nomatch z)⟩
theorem isi_kit {m : Ms} {H : Hp} {y : D} {x : V} {u : Value} {s : Shared} {pins : List (Addr × Obj)} {σ : L2.St} (I : Inv X pins σ H s) (rx : RelV x u) (r : Rep m H y x) (n : (∀ n, y ≠ .loc n) ∧ ∀ n, y ≠ .lsi n) : ∃ P : Heap → Prop, PySem.W.KitX X.K u (.type (isiRep y)) P ∧ P s.heap ∧ u ≠ .builtin "__main__.__loader__#opaque" := by
  cases y with
  | non => cases r; exact kit_of I rx (.base .non)
  | bl b => cases r; exact kit_of I rx (.base (.bl _))
  | int b => cases r; exact kit_of I rx (.base (.int _))
  | str b => cases r; exact kit_of I rx (.base (.str _))
  | tup xs => obtain ⟨a, ws, rfl, _, k1, _⟩ := r; exact kit_of I rx (.base (.tup k1))
  | lst xs => obtain ⟨a, ws, rfl, _, k1, _⟩ := r; exact kit_of I rx (.base (.lst k1))
  | dct t ks vs =>
    obtain ⟨a, o, u, ws, rfl, _, k1, k2, _⟩ := r
    cases t with
    | false => obtain ⟨kvs, rfl, _⟩ := k2; exact kit_of I rx (.fDict k1)
    | true =>
      obtain ⟨kvs, rfl, _⟩ := k2
      cases rx
      obtain ⟨_, _, _, vs, _, ob, es, ep, h1, h2, _⟩ := (show ObjOk X.prog X.w H s.heap a (.frz o (.dT kvs)) from I.hok a _ k1)
      exact ⟨_, PySem.W.kitx_dict, ⟨ob, h1, h2.1⟩, fun z => nomatch z⟩
  | loc k => exact absurd rfl (n.1 k)
  | lsi k => exact absurd rfl (n.2 k)
theorem bi_isi {b : Bi} {T : String} (hb : isiTy b = some T) : CallR X (.builtin "isinstance") (fun vs H Q => ∃ x, vs = [x, .ty T] ∧ rBi b [x] H Q) := by
  intro pins s σ H vs us Q I r hq
  obtain ⟨x, rfl, m, h, ds, d, h', hr, rp, e, q⟩ := hq
  match ds, e, rp with
  | [y], e, rp =>
    obtain ⟨v, ev, h1⟩ := reps1 rp
    cases ev
    obtain ⟨rfl, rfl, nl⟩ := isi_ans hb e
    obtain ⟨u1, u2, rfl, r1, r2⟩ := vals2 r
    cases (ClsV.ty T).eq r2
    obtain ⟨P, Z, p, hx⟩ := isi_kit I r1 h1 nl
    exact PySem.W.kia_one Z I.kIn p (kit_ty (kit_at (isi_mem y) (isi_T hb))) hx fun tk => ⟨.bl _, H, I.tok tk, rfl, q _ m _ Ext.refl hr rfl fresh_bl⟩
  | [], e, rp => simp [Reps] at rp
  | _ :: _ :: _, e, rp => obtain ⟨v, u, ev, _, z, t, et, _⟩ := rp; cases ev; cases et
end
end Z

end

section
set_option Elab.async false
set_option linter.all false
set_option maxRecDepth 100000
set_option autoImplicit false
/-! Z: expressions, each over its parts. -/
namespace Z
open PySem PySem.Spec PyProof.Rows L2

abbrev Dn := Sl → Hy → R D
theorem _root_.L2.PE.weak {X : Cx} {e : Expr} {fr : Bool} {dn : Dn} (h : PE X e (T fr dn)) : PE X e (T false dn) := by
  cases fr with
  | false => exact h
  | true => exact h.mono fun σ H Q t => T.weak t

section
variable {X : Cx} {a b c : Expr} {da db dc : Dn} {pos : Pos}
theorem t_bin {o : Bo} (ha : PE X a (T false da)) (hb : PE X b (T false db)) : PE X (.BinOp a (bop o) b pos) (T true fun sl h => (da sl h).bind fun x h => (db sl h).bind fun y h => o.ap h x y) := by
  refine (pe_op (bo_ok o) ha hb).mono fun σ H Q t => ?_
  obtain ⟨m, sl, h, d, h', hr, sr, e, q⟩ := t
  obtain ⟨x, h1, e1, e⟩ := R.bind_ok e
  obtain ⟨y, h2, e2, e⟩ := R.bind_ok e
  refine T.to hr sr e1 fun v m1 H1 x1 hr1 sr1 rv _ => T.to hr1 sr1 e2 fun u m2 H2 x2 hr2 sr2 ru _ => ?_
  have X2 := x1.trans x2
  refine ⟨m2, h2, x, y, d, h', hr2, Rep.ext x2 _ _ rv, ru, e, fun w m3 H3 x3 hr3 rw' f => q w m3 H3 (X2.trans x3) hr3 rw' fun z k => ?_⟩
  obtain ⟨p, ep, hp, mk⟩ := f z k
  refine ⟨p, ep, ?_, mk⟩
  cases hH : H p with
  | none => rfl
  | some ob =>
    by_cases hm : p ∈ m.l
    · exfalso
      obtain ⟨xs, rfl⟩ := k
      obtain ⟨a', vs, ea, nb, _, _⟩ := rw'
      rw [ep] at ea; cases ea
      exact nb (.inl ((X2.trans x3).pre.subset hm))
    · rw [X2.keep p ob hH hm] at hp; cases hp
theorem t_neg (ha : PE X a (T false da)) : PE X (.UnaryOp .USub a pos) (T false fun sl h => (da sl h).bind fun x h => R.op ((intOf x).map fun i => .int (-i)) h) := by
  refine (pe_un un_neg ha).mono fun σ H Q t => ?_
  obtain ⟨m, sl, h, d, h', hr, sr, e, q⟩ := t
  obtain ⟨x, h1, e1, e2⟩ := R.bind_ok e
  obtain ⟨e3, rfl⟩ := R.op_ok e2
  refine T.to hr sr e1 fun v m1 H1 x1 hr1 sr1 rv _ => ?_
  clear e e2
  cases x <;> simp [intOf] at e3
  subst e3
  cases rv
  exact ⟨_, rfl, q _ m1 H1 x1 hr1 rfl fresh_int⟩
/-- truth of data -/
theorem tru_of {K : PySem.W.Frag} {m : Ms} {H : Hp} {h : Hy} {d : D} {v : V} {k : Bool} (r : Rep m H d v) (e : truth h d = some k) : TruV K v H k := by
  cases d <;> simp [truth] at e <;> cases r <;> subst e <;> rfl
theorem t_not (ha : PE X a (T false da)) : PE X (.UnaryOp .Not a pos) (T false fun sl h => (da sl h).bind fun x h => R.op ((truth h x).map fun b => .bl (!b)) h) := by
  refine (pe_notT ha).mono fun σ H Q t => ?_
  obtain ⟨m, sl, h, d, h', hr, sr, e, q⟩ := t
  obtain ⟨x, h1, e1, e⟩ := R.bind_ok e
  obtain ⟨e, rfl⟩ := R.op_ok e
  obtain ⟨k, e2, rfl⟩ := Option.map_eq_some_iff.mp e
  refine T.to hr sr e1 fun v m1 H1 x1 hr1 sr1 rv _ => ?_
  exact ⟨k, tru_of rv e2, q _ m1 H1 x1 hr1 rfl fresh_bl⟩
theorem t_cmp {cm : Cmp} (hu : X.A.units + 65 < cLine) (hm : behindInMarks (cop cm) b = false) (ha : PE X a (T false da)) (hb : PE X b (T false db)) :
    PE X (.Compare a [cop cm] [b] pos) (T false fun sl h => (da sl h).bind fun x h => (db sl h).bind fun y h => (cm.ap h x y).bind fun k h => .ok (.bl k) h) := by
  refine (pe_cmpR (cmp_ok hu cm) ha hb hm).mono fun σ H Q t => ?_
  obtain ⟨m, sl, h, d, h', hr, sr, e, q⟩ := t
  obtain ⟨x, h1, e1, e⟩ := R.bind_ok e
  obtain ⟨y, h2, e2, e⟩ := R.bind_ok e
  obtain ⟨k, h3, e3, e⟩ := R.bind_ok e
  cases e
  have := cmp_h e3
  subst this
  exact T.to hr sr e1 fun v m1 H1 x1 hr1 sr1 rv _ => T.to hr1 sr1 e2 fun u m2 H2 x2 hr2 sr2 ru _ => ⟨m2, _, x, y, k, _, hr2, Rep.ext x2 _ _ rv, ru, e3, q _ m2 H2 (x1.trans x2) hr2 rfl fresh_bl⟩
theorem t_chain {cm cm' : Cmp} (hu : X.A.units + 65 < cLine) (hm : lastMarks [cop cm, cop cm'] [b, c] = false) (ha : PE X a (T false da)) (hb : PE X b (T false db)) (hc : PE X c (T false dc)) :
    PE X (.Compare a [cop cm, cop cm'] [b, c] pos) (T false fun sl h => (da sl h).bind fun x h => (db sl h).bind fun y h => (cm.ap h x y).bind fun k h => match k with
      | true => (dc sl h).bind fun z h => (cm'.ap h y z).bind fun k h => .ok (.bl k) h
      | false => .ok (.bl false) h) := by
  refine (pe_chain (cmp_ok hu cm) (cmp_ok hu cm') ha hb hc hm).mono fun σ H Q t => ?_
  obtain ⟨m, sl, h, d, h', hr, sr, e, q⟩ := t
  obtain ⟨x, h1, e1, e⟩ := R.bind_ok e
  obtain ⟨y, h2, e2, e⟩ := R.bind_ok e
  obtain ⟨k, h3, e3, e⟩ := R.bind_ok e
  have := cmp_h e3
  subst this
  refine T.to hr sr e1 fun v m1 H1 x1 hr1 sr1 rv _ => T.to hr1 sr1 e2 fun u m2 H2 x2 hr2 sr2 ru _ => ⟨m2, _, x, y, k, _, hr2, Rep.ext x2 _ _ rv, ru, e3, k, rfl, ?_⟩
  have X2 := x1.trans x2
  cases k with
  | false =>
    cases e
    exact q _ m2 H2 X2 hr2 rfl fresh_bl
  | true =>
    obtain ⟨z, h4, e4, e⟩ := R.bind_ok e
    obtain ⟨k', h5, e5, e⟩ := R.bind_ok e
    cases e
    have := cmp_h e5
    subst this
    exact T.to hr2 sr2 e4 fun w m3 H3 x3 hr3 sr3 rw' _ => ⟨m3, _, y, z, k', _, hr3, Rep.ext x3 _ _ ru, rw', e5, q _ m3 H3 (X2.trans x3) hr3 rfl fresh_bl⟩
/-- a value as a test -/
theorem t_plain (ha : PE X a (T false da)) (he : ∀ whole, isTrue a X.env whole = (do let v ← whole; standAt a.pos; holding [v] (truthy v))) : PT X a (TB fun sl h => (da sl h).bind fun x h => R.op (truth h x) h) := by
  refine (pt_truth ha he).mono fun σ H Q t => ?_
  obtain ⟨m, sl, h, k, h', hr, sr, e, q⟩ := t
  obtain ⟨x, h1, e1, e⟩ := R.bind_ok e
  obtain ⟨e, rfl⟩ := R.op_ok e
  exact T.to hr sr e1 fun v m1 H1 x1 hr1 sr1 rv _ => ⟨k, tru_of rv e, q m1 H1 x1 hr1⟩

/-! ### and, or, if -/
abbrev andD (da db : Dn) : Dn := fun sl h => (da sl h).bind fun x h => match x with
  | .bl true => db sl h
  | .bl false => .ok (.bl false) h
  | _ => .no
abbrev orD (da db : Dn) : Dn := fun sl h => (da sl h).bind fun x h => match x with
  | .bl true => .ok (.bl true) h
  | .bl false => db sl h
  | _ => .no
variable {rest : List Expr}
theorem t_and (ha : PE X a (T false da)) (hb : PE X (.BoolOp .And (b :: rest) pos) (T false db)) : PE X (.BoolOp .And (a :: b :: rest) pos) (T false (andD da db)) := by
  refine (pe_and ha hb).mono fun σ H Q t => ?_
  obtain ⟨m, sl, h, d, h', hr, sr, e, q⟩ := t
  obtain ⟨x, h1, e1, e2⟩ := R.bind_ok e
  refine T.to hr sr e1 fun v m1 H1 x1 hr1 sr1 rv _ => ?_
  split at e2
  · cases rv
    exact ⟨true, rfl, T.to hr1 sr1 e2 fun w m2 H2 x2 hr2 _ rw' _ => q w m2 H2 (x1.trans x2) hr2 rw' fresh_no⟩
  · cases rv; cases e2
    exact ⟨false, rfl, q _ m1 H1 x1 hr1 rfl fresh_no⟩
  · cases e2
theorem t_or (ha : PE X a (T false da)) (hb : PE X (.BoolOp .Or (b :: rest) pos) (T false db)) : PE X (.BoolOp .Or (a :: b :: rest) pos) (T false (orD da db)) := by
  refine (pe_or ha hb).mono fun σ H Q t => ?_
  obtain ⟨m, sl, h, d, h', hr, sr, e, q⟩ := t
  obtain ⟨x, h1, e1, e2⟩ := R.bind_ok e
  refine T.to hr sr e1 fun v m1 H1 x1 hr1 sr1 rv _ => ?_
  split at e2
  · cases rv; cases e2
    exact ⟨true, rfl, q _ m1 H1 x1 hr1 rfl fresh_no⟩
  · cases rv
    exact ⟨false, rfl, T.to hr1 sr1 e2 fun w m2 H2 x2 hr2 _ rw' _ => q w m2 H2 (x1.trans x2) hr2 rw' fresh_no⟩
  · cases e2
/-- what a value is as a test -/
abbrev asB (dn : Dn) : Sl → Hy → R Bool := fun sl h => (dn sl h).bind fun x h => R.op (truth h x) h
theorem TB.of {dn dn' : Sl → Hy → R Bool} (w : ∀ sl h k h', dn sl h = .ok k h' → dn' sl h = .ok k h') {σ : L2.St} {H : Hp} {Q : Bool → Hp → Prop} (t : TB dn σ H Q) : TB dn' σ H Q := by
  obtain ⟨m, sl, h, k, h', hr, sr, e, q⟩ := t
  exact ⟨m, sl, h, k, h', hr, sr, w _ _ _ _ e, q⟩
theorem t_andT (ha : PT X a (TB (asB da))) (hb : PW X (.BoolOp .And (b :: rest) pos) (TB (asB db))) : PW X (.BoolOp .And (a :: b :: rest) pos) (TB (asB (andD da db))) := by
  refine ⟨fun wh pins s σ H Q I t => (pw_and ha hb).run wh pins s σ H Q I ?_⟩
  obtain ⟨m, sl, h, k, h', hr, sr, e, q⟩ := t
  obtain ⟨x, h1, e1, e2⟩ := R.bind_ok e
  obtain ⟨y, h2, e3, e4⟩ := R.bind_ok e1
  obtain ⟨e5, rfl⟩ := R.op_ok e2
  split at e4
  · have e6 : asB da sl h = .ok true h2 := by show (da sl h).bind _ = _; rw [e3]; rfl
    refine TB.to hr sr e6 fun m1 H1 x1 hr1 sr1 => ?_
    show if true = true then _ else _
    rw [if_pos rfl]
    have e7 : asB db sl h2 = .ok k h' := by show (db sl h2).bind _ = _; rw [e4]; show R.op (truth h' x) h' = _; rw [e5]; rfl
    exact TB.to hr1 sr1 e7 fun m2 H2 x2 hr2 _ => q m2 H2 (x1.trans x2) hr2
  · cases e4
    have e6 : asB da sl h = .ok false h' := by show (da sl h).bind _ = _; rw [e3]; rfl
    refine TB.to hr sr e6 fun m1 H1 x1 hr1 sr1 => ?_
    have e8 : k = false := by simpa [truth] using e5.symm
    subst e8
    show if false = true then _ else _
    rw [if_neg (by decide)]
    exact q m1 H1 x1 hr1
  · cases e4
theorem t_orT (ha : PT X a (TB (asB da))) (hb : PW X (.BoolOp .Or (b :: rest) pos) (TB (asB db))) : PW X (.BoolOp .Or (a :: b :: rest) pos) (TB (asB (orD da db))) := by
  refine ⟨fun wh pins s σ H Q I t => (pw_or ha hb).run wh pins s σ H Q I ?_⟩
  obtain ⟨m, sl, h, k, h', hr, sr, e, q⟩ := t
  obtain ⟨x, h1, e1, e2⟩ := R.bind_ok e
  obtain ⟨y, h2, e3, e4⟩ := R.bind_ok e1
  obtain ⟨e5, rfl⟩ := R.op_ok e2
  split at e4
  · cases e4
    have e6 : asB da sl h = .ok true h' := by show (da sl h).bind _ = _; rw [e3]; rfl
    refine TB.to hr sr e6 fun m1 H1 x1 hr1 sr1 => ?_
    have e8 : k = true := by simpa [truth] using e5.symm
    subst e8
    show if true = true then _ else _
    rw [if_pos rfl]
    exact q m1 H1 x1 hr1
  · have e6 : asB da sl h = .ok false h2 := by show (da sl h).bind _ = _; rw [e3]; rfl
    refine TB.to hr sr e6 fun m1 H1 x1 hr1 sr1 => ?_
    show if false = true then _ else _
    rw [if_neg (by decide)]
    have e7 : asB db sl h2 = .ok k h' := by show (db sl h2).bind _ = _; rw [e4]; show R.op (truth h' x) h' = _; rw [e5]; rfl
    exact TB.to hr1 sr1 e7 fun m2 H2 x2 hr2 _ => q m2 H2 (x1.trans x2) hr2
  · cases e4
theorem t_notT (ha : PT X a (TB (asB da))) : PT X (.UnaryOp .Not a pos) (TB (asB fun sl h => (da sl h).bind fun x h => R.op ((truth h x).map fun b => .bl (!b)) h)) := by
  refine (pt_not ha).mono fun σ H Q t => ?_
  obtain ⟨m, sl, h, k, h', hr, sr, e, q⟩ := t
  obtain ⟨x, h1, e1, e2⟩ := R.bind_ok e
  obtain ⟨y, h2, e3, e4⟩ := R.bind_ok e1
  obtain ⟨e5, rfl⟩ := R.op_ok e2
  obtain ⟨e6, rfl⟩ := R.op_ok e4
  obtain ⟨k', e7, rfl⟩ := Option.map_eq_some_iff.mp e6
  have e8 : (!k') = k := by simpa [truth] using e5
  subst e8
  have e9 : asB da sl h = .ok k' h' := by show (da sl h).bind _ = _; rw [e3]; show R.op (truth h' y) h' = _; rw [e7]; rfl
  exact TB.to hr sr e9 fun m1 H1 x1 hr1 _ => q m1 H1 x1 hr1
theorem t_cmpT {cm : Cmp} (hu : X.A.units + 65 < cLine) (hm : behindInMarks (cop cm) b = false) (ha : PE X a (T false da)) (hb : PE X b (T false db)) :
    PT X (.Compare a [cop cm] [b] pos) (TB (asB fun sl h => (da sl h).bind fun x h => (db sl h).bind fun y h => (cm.ap h x y).bind fun k h => .ok (.bl k) h)) := by
  refine (pt_cmpR (cmp_ok hu cm) ha hb hm).mono fun σ H Q t => ?_
  obtain ⟨m, sl, h, k, h', hr, sr, e, q⟩ := t
  obtain ⟨z, h0, e, ez⟩ := R.bind_ok e
  obtain ⟨x, h1, e1, e⟩ := R.bind_ok e
  obtain ⟨y, h2, e2, e⟩ := R.bind_ok e
  obtain ⟨k', h3, e3, e⟩ := R.bind_ok e
  cases e
  have := cmp_h e3
  subst this
  obtain ⟨e5, rfl⟩ := R.op_ok ez
  have e8 : k' = k := by simpa [truth] using e5
  subst e8
  exact T.to hr sr e1 fun v m1 H1 x1 hr1 sr1 rv _ => T.to hr1 sr1 e2 fun u m2 H2 x2 hr2 sr2 ru _ => ⟨m2, _, x, y, k', _, hr2, Rep.ext x2 _ _ rv, ru, e3, k', rfl, q m2 H2 (x1.trans x2) hr2⟩
theorem t_chainT {cm cm' : Cmp} (hu : X.A.units + 65 < cLine) (hm : lastMarks [cop cm, cop cm'] [b, c] = false) (ha : PE X a (T false da)) (hb : PE X b (T false db)) (hc : PE X c (T false dc)) :
    PT X (.Compare a [cop cm, cop cm'] [b, c] pos) (TB (asB fun sl h => (da sl h).bind fun x h => (db sl h).bind fun y h => (cm.ap h x y).bind fun k h => match k with
      | true => (dc sl h).bind fun z h => (cm'.ap h y z).bind fun k h => .ok (.bl k) h
      | false => .ok (.bl false) h)) := by
  refine (pt_chain (cmp_ok hu cm) (cmp_ok hu cm') ha hb hc hm).mono fun σ H Q t => ?_
  obtain ⟨m, sl, h, k0, h', hr, sr, e, q⟩ := t
  obtain ⟨z0, h0, e, ez⟩ := R.bind_ok e
  obtain ⟨e5, rfl⟩ := R.op_ok ez
  obtain ⟨x, h1, e1, e⟩ := R.bind_ok e
  obtain ⟨y, h2, e2, e⟩ := R.bind_ok e
  obtain ⟨k, h3, e3, e⟩ := R.bind_ok e
  have := cmp_h e3
  subst this
  refine T.to hr sr e1 fun v m1 H1 x1 hr1 sr1 rv _ => T.to hr1 sr1 e2 fun u m2 H2 x2 hr2 sr2 ru _ => ⟨m2, _, x, y, k, _, hr2, Rep.ext x2 _ _ rv, ru, e3, k, rfl, ?_⟩
  have X2 := x1.trans x2
  cases k with
  | false =>
    cases e
    have e8 : false = k0 := by simpa [truth] using e5
    subst e8
    exact ⟨false, rfl, q m2 H2 X2 hr2⟩
  | true =>
    obtain ⟨z, h4, e4, e⟩ := R.bind_ok e
    obtain ⟨k', h5, e6, e⟩ := R.bind_ok e
    cases e
    have := cmp_h e6
    subst this
    have e8 : k' = k0 := by simpa [truth] using e5
    subst e8
    exact T.to hr2 sr2 e4 fun w m3 H3 x3 hr3 sr3 rw' _ => ⟨m3, _, y, z, k', _, hr3, Rep.ext x3 _ _ ru, rw', e6, k', rfl, q m3 H3 (X2.trans x3) hr3⟩
theorem t_ife (hc : PT X c (TB (asB dc))) (ha : PE X a (T false da)) (hb : PE X b (T false db)) : PE X (.IfExp c a b pos) (T false fun sl h => (dc sl h).bind fun x h => match truth h x with
    | some true => da sl h
    | some false => db sl h
    | none => .no) := by
  refine (pe_ifExp hc ha hb).mono fun σ H Q t => ?_
  obtain ⟨m, sl, h, d, h', hr, sr, e, q⟩ := t
  obtain ⟨x, h1, e1, e2⟩ := R.bind_ok e
  split at e2
  · rename_i ek
    have e9 : asB dc sl h = .ok true h1 := by show (dc sl h).bind _ = _; rw [e1]; show R.op (truth h1 x) h1 = _; rw [ek]; rfl
    refine TB.to hr sr e9 fun m1 H1 x1 hr1 sr1 => ?_
    rw [if_pos rfl]
    exact T.to hr1 sr1 e2 fun w m2 H2 x2 hr2 _ rw' _ => q w m2 H2 (x1.trans x2) hr2 rw' fresh_no
  · rename_i ek
    have e9 : asB dc sl h = .ok false h1 := by show (dc sl h).bind _ = _; rw [e1]; show R.op (truth h1 x) h1 = _; rw [ek]; rfl
    refine TB.to hr sr e9 fun m1 H1 x1 hr1 sr1 => ?_
    rw [if_neg (by decide)]
    exact T.to hr1 sr1 e2 fun w m2 H2 x2 hr2 _ rw' _ => q w m2 H2 (x1.trans x2) hr2 rw' fresh_no
  · cases e2
end

/-! ### names, constants, rows of arguments -/
section
variable {X : Cx} {pos : Pos}
theorem t_var {i : Nat} {x : Str} (hN : X.N[i]? = some x) (hv : Vis X.env.scope x) (hd : (x == ("__debug__" : Str)) = false) (hcd : (x == ("__classdict__" : Str)) = false) : PE X (.Name x pos) (T false fun sl h => R.op (sl[i]?.bind id) h) := by
  refine (pe_var hN hv hd hcd).mono fun σ H Q t => ?_
  obtain ⟨m, sl, h, d, h', hr, sr, e, q⟩ := t
  obtain ⟨e1, rfl⟩ := R.op_ok e
  obtain ⟨o, e2, e3⟩ := Option.bind_eq_some_iff.mp e1
  have e4 : o = some d := e3
  subst e4
  obtain ⟨v, h1, h2⟩ := sr.val i d e2
  exact ⟨v, h1, q v m H Ext.refl hr h2 fresh_no⟩
/-- a constant: none, a truth value, an int, a text -/
def cstOk : D → Const → Bool
  | .non, .none => true
  | .bl a, .bool b => a == b
  | .int a, .int b => decide (a = b)
  | .str a, .str b => decide (a = b)
  | _, _ => false
def vOf : D → V
  | .bl b => .bl b
  | .int i => .int i
  | .str x => .str x
  | _ => .non
theorem cst_rep {d : D} {k : Const} (h : cstOk d k = true) (m : Ms) (H : Hp) : Rep m H d (vOf d) := by
  cases d <;> cases k <;> simp [cstOk] at h <;> rfl
theorem cst_fresh {d : D} {k : Const} (h : cstOk d k = true) {fr : Bool} {H : Hp} {v : V} {m' : Ms} {H' : Hp} {h' : Hy} : Fresh fr H d v m' H' h' := fun _ ⟨xs, e⟩ => by
  subst e; cases k <;> simp [cstOk] at h
theorem t_cst {d : D} {k : Const} {j : Nat} (h : cstOk d k = true) : PE X (.Constant k j pos) (T false fun _ h => .ok d h) := by
  have fin : ∀ σ H Q, T false (fun _ h => .ok d h) σ H Q → Q (vOf d) H := fun σ H Q t => by
    obtain ⟨m, sl, h0, d0, h', hr, sr, e, q⟩ := t
    cases e
    exact q _ m H Ext.refl hr (cst_rep h m H) fresh_no
  cases d <;> cases k <;> simp only [cstOk, Bool.false_eq_true] at h
  · exact pe_non.mono fin
  · rename_i a b; have e : a = b := by simpa using h
    subst e; exact pe_bl.mono fin
  · rename_i a b; have e : a = b := by simpa using h
    subst e; exact pe_int.mono fin
  · rename_i a b; have e : a = b := by simpa using h
    subst e; exact pe_str.mono fin
theorem t_gl {x : Str} {d : D} {u : Value} (hg : Gl X x) (hm : X.mg x = some u) (r : L2.RelV (vOf d) u) (hd : (x == ("__debug__" : Str)) = false) (hk : ∀ m H, Rep m H d (vOf d)) : PE X (.Name x pos) (T false fun _ h => .ok d h) := by
  refine (pe_glob hg hm r hd).mono fun σ H Q t => ?_
  obtain ⟨m, sl, h0, d0, h', hr, sr, e, q⟩ := t
  cases e
  exact q _ m H Ext.refl hr (hk m H) fresh_no

abbrev Dns := Sl → Hy → R (List D)
theorem ts_nil : PA X [] (Ts fun _ h => .ok [] h) := by
  refine pa_nil.mono fun σ H Q t => ?_
  obtain ⟨m, sl, h0, ds, h', hr, sr, e, q⟩ := t
  cases e
  exact q [] m H Ext.refl hr rfl
theorem ts_cons {e : Expr} {es : List Expr} {da : Dn} {ds : Dns} (ha : PE X e (T false da)) (hr : PA X es (Ts ds)) (hs : starEach (e :: es) X.env = (false, eval e X.env) :: starEach es X.env) :
    PA X (e :: es) (Ts fun sl h => (da sl h).bind fun x h => (ds sl h).bind fun xs h => .ok (x :: xs) h) := by
  refine (pa_cons ha hr hs).mono fun σ H Q t => ?_
  obtain ⟨m, sl, h0, zs, h', hr, sr, e, q⟩ := t
  obtain ⟨x, h1, e1, e2⟩ := R.bind_ok e
  obtain ⟨xs, h2, e3, e4⟩ := R.bind_ok e2
  cases e4
  exact T.to hr sr e1 fun v m1 H1 x1 hr1 sr1 rv _ => Ts.to hr1 sr1 e3 fun vs m2 H2 x2 hr2 sr2 rvs => q _ m2 H2 (x1.trans x2) hr2 ⟨v, vs, rfl, Rep.ext x2 _ _ rv, rvs⟩
theorem ts_star {e : Expr} {es : List Expr} {p : Pos} {da : Dn} {ds : Dns} (ha : PE X e (T false da)) (hr : PA X es (Ts ds)) :
    PA X (.Starred e p :: es) (Ts fun sl h => (da sl h).bind fun x h => (ds sl h).bind fun xs h' => match seqOf h x with
      | some ys => .ok (ys ++ xs) h'
      | none => .no) := by
  refine (StX.pa_star ha hr).mono fun σ H Q t => ?_
  obtain ⟨m, sl, h0, zs, h', hr, sr, e, q⟩ := t
  obtain ⟨x, h1, e1, e2⟩ := R.bind_ok e
  obtain ⟨xs, h2, e3, e4⟩ := R.bind_ok e2
  split at e4
  · rename_i ys e5
    cases e4
    refine T.to hr sr e1 fun v m1 H1 x1 hr1 sr1 rv _ => ?_
    obtain ⟨a, us, rfl, k1, k2⟩ := seq_of (K := X.K) hr1 rv e5
    refine ⟨a, us, rfl, k1.symm, Ts.to hr1 sr1 e3 fun vs m2 H2 x2 hr2 sr2 rvs => q _ m2 H2 (x1.trans x2) hr2 ((Reps.ext x2 _ _ k2).append rvs)⟩
  · cases e4
theorem t_tup {es : List Expr} {j : Nat} {ds : Dns} (h : PA X es (Ts ds)) : PE X (.Tuple es j pos) (T true fun sl h => (ds sl h).bind fun xs h => mkT xs h) := by
  refine (pe_tup h).mono fun σ H Q t => ?_
  obtain ⟨m, sl, h0, d, h', hr, sr, e, q⟩ := t
  obtain ⟨xs, h1, e1, e2⟩ := R.bind_ok e
  obtain ⟨hl, rfl, rfl⟩ := mkT_ok e2
  exact Ts.to hr sr e1 fun vs m1 H1 x1 hr1 sr1 rv => ⟨by rw [rv.length]; exact lim_le hl, fun p hp => q _ m1 _ (x1.trans (Ext.laid hp)) (hr1.laid hp) (Rep.tupNew hr1 hp rv) fresh_tup⟩
/-- what is new behind is new ahead -/
theorem Ext.back {m m1 : Ms} {H H1 : Hp} (x : Ext m m1 H H1) {p : Addr} (hp : H1 p = none) (nb : ¬ m1.bad p) : H p = none := by
  cases hH : H p with
  | none => rfl
  | some o =>
    have : p ∉ m.l := fun z => nb (.inl (x.pre.subset z))
    rw [x.keep p o hH this] at hp; cases hp
theorem t_lst {es : List Expr} {ds : Dns} (h : PA X es (Ts ds)) : PE X (.List es pos) (T true fun sl h => (ds sl h).bind fun xs h => mkL xs h) := by
  refine (pe_lst h).mono fun σ H Q t => ?_
  obtain ⟨m, sl, h0, d, h', hr, sr, e, q⟩ := t
  obtain ⟨xs, h1, e1, e2⟩ := R.bind_ok e
  obtain ⟨hl, rfl, rfl⟩ := mkL_ok e2
  exact Ts.to hr sr e1 fun vs m1 H1 x1 hr1 sr1 rv => ⟨by rw [rv.length]; exact lim_le hl, fun p hp => q _ m1 _ (x1.trans (Ext.laid hp)) (hr1.laid hp) (Rep.lstNew hr1 hp rv) (fresh_at (x1.back hp (hr1.nin hp)) (hr1.mark hp))⟩
end
end Z

end

section
set_option Elab.async false
set_option linter.all false
set_option maxRecDepth 100000
set_option autoImplicit false
/-! Z: subscripts, slices, calls. -/
namespace Z
open PySem PySem.Spec PyProof.Rows L2

theorem ix_cases {h h' : Hy} {x y d : D} (e : ixOf h x y = .ok d h') : (∃ z k c, x = .str z ∧ y = .int k ∧ z.length ≤ lim ∧ at? z.cps.toList k = some c ∧ d = .str ⟨#[c]⟩ ∧ h' = h) ∨
    (∃ k xs, y = .int k ∧ seqOf h x = some xs ∧ at? xs k = some d ∧ h' = h) ∨ (∃ t ks vs, dctOf h x = some (t, ks, vs) ∧ keyB t y = true ∧ dlook y ks vs = some d ∧ h' = h) ∨
    (∃ ns k i, x = .lsi ns ∧ y = .int k ∧ at? ns k = some i ∧ d = .int i ∧ h' = h) := by
  unfold ixOf at e
  split at e
  · rename_i z k
    by_cases hz : z.length ≤ lim
    · rw [if_pos hz] at e
      obtain ⟨e3, rfl⟩ := R.op_ok e
      obtain ⟨cc, e4, rfl⟩ := Option.map_eq_some_iff.mp e3
      exact .inl ⟨z, k, cc, rfl, rfl, hz, e4, rfl, rfl⟩
    · rw [if_neg hz] at e; cases e
  · obtain ⟨e3, rfl⟩ := R.op_ok e
    obtain ⟨i, e4, rfl⟩ := Option.map_eq_some_iff.mp e3
    exact .inr (.inr (.inr ⟨_, _, i, rfl, rfl, e4, rfl, rfl⟩))
  · split at e
    · rename_i ed
      split at e
      · rename_i hk
        obtain ⟨e3, rfl⟩ := R.op_ok e
        exact .inr (.inr (.inl ⟨_, _, _, ed, hk, e3, rfl⟩))
      · cases e
    · split at e
      · obtain ⟨e3, rfl⟩ := R.op_ok e
        obtain ⟨xs, e4, e5⟩ := Option.bind_eq_some_iff.mp e3
        exact .inr (.inl ⟨_, xs, rfl, e4, e5, rfl⟩)
      · cases e
/-- d[key] -/
def rIxM : R2 := fun x y H Q => ∃ a v, x = .ref a ∧ DGet H a y (some v) ∧ Q v H
theorem ix_dict {X : Cx} (hu : X.A.units + 65 < cLine) : IxR X rIxM := by
  intro value slice pins s σ H x y v u Q I rx ry h hs
  obtain ⟨a, w, rfl, g, q⟩ := h
  cases rx
  have hT := dict_typeIs I g
  have h2 : wpAny (model X.prog X.w) X.A (getItem (.ref a) u) (EP X pins σ Q) X.xe s := d_getItem (by omega) I g ry fun w' s3 I3 rw' => ⟨w, H, I3, rw', q⟩
  unfold subscriptTail
  refine wpAny_bind ?_
  rw [getitemInPython_of_ne hT.not_modules]
  refine wpAny_bind (wpAny_specialOf hT PySem.F.slot_dict_getitem.lookup ?_)
  have fin : wpAny (model X.prog X.w) X.A (subscripted slice false (.ref a) u) (fun r s₃ => wpAny (model X.prog X.w) X.A (letTemporaryGo value (.ref a) r >>= fun _ => pure r) (EP X pins σ Q) X.xe s₃) X.xe s := by
    rw [hs]
    exact wpAny_operating (wpAny_mono h2 (fun r s₃ h₃ => wpAny_bind (wpAny_letTemporaryGo (wpAny_pure h₃))) fun _ _ x => x)
  first
    | exact wpAny_pure (wpAny_bind fin)
    | exact wpAny_pure fin
    | exact fin
theorem lst_seq {h h' : Hy} {x d : D} {f : List D → D} (hn : ∀ xs, x ≠ .tup xs) (e : R.op ((seqOf h x).map f) h = .ok d h') : ∃ xs, lstOf h x = some xs ∧ d = f xs ∧ h' = h := by
  obtain ⟨e3, rfl⟩ := R.op_ok e
  obtain ⟨xs, e4, rfl⟩ := Option.map_eq_some_iff.mp e3
  refine ⟨xs, ?_, rfl, rfl⟩
  cases x <;> first | exact absurd rfl (hn _) | exact e4
section
variable {X : Cx} {a b c : Expr} {da db dc : Dn} {pos p2 : Pos}
theorem t_ix (hu : X.A.units + 65 < cLine) (hs : PlainIx b) (ha : PE X a (T false da)) (hb : PE X b (T false db)) : PE X (.Subscript a b pos) (T false fun sl h => (da sl h).bind fun x h => (db sl h).bind fun y h => ixOf h x y) := by
  refine (pe_ix (ix_seq.or (ix_dict hu)) ha hb hs).mono fun σ H Q t => ?_
  obtain ⟨m, sl, h, d, h', hr, sr, e, q⟩ := t
  obtain ⟨x, h1, e1, e⟩ := R.bind_ok e
  obtain ⟨y, h2, e2, e⟩ := R.bind_ok e
  refine T.to hr sr e1 fun v m1 H1 x1 hr1 sr1 rv _ => T.to hr1 sr1 e2 fun u m2 H2 x2 hr2 sr2 ru _ => ?_
  have X2 := x1.trans x2
  have rv2 := Rep.ext x2 _ _ rv
  clear e1 e2
  rcases ix_cases e with ⟨z, k, cc, rfl, rfl, hz, e4, rfl, rfl⟩ | ⟨k, xs, rfl, e4, e5, rfl⟩ | ⟨t, ks, vs, ed, hk, el, rfl⟩ | ⟨ns, k, i, rfl, rfl, e4, rfl, rfl⟩
  · cases rv; cases ru
    exact .inl <| .inr (.inr ⟨z, k, cc, rfl, rfl, lim_le hz, e4, q _ m2 H2 X2 hr2 rfl fresh_no⟩)
  · cases ru
    obtain ⟨p, vs, rfl, hk, hv⟩ := seq_of (K := X.K) hr2 rv2 e4
    obtain ⟨j, e6, e7⟩ := Option.bind_eq_some_iff.mp e5
    obtain ⟨w, e8, e9⟩ := hv.get e7
    have e10 : atI vs k = some w := by
      unfold atI
      rw [hv.length]
      exact Option.bind_eq_some_iff.mpr ⟨j, e6, e8⟩
    have q' := q w m2 H2 X2 hr2 e9 fresh_no
    rcases hk with hk | hk
    · exact .inl <| .inl ⟨p, vs, k, w, rfl, rfl, hk, e10, q'⟩
    · exact .inl <| .inr (.inl ⟨p, vs, k, w, rfl, rfl, hk, e10, q'⟩)
  · obtain ⟨p, uo, ws, rfl, k1, k2, k3⟩ := dct_of hr2 rv2 ed
    obtain ⟨o, g, g1, _⟩ := dlook_get k1 k2 k3 hk ru
    obtain ⟨w, rfl, rw'⟩ := g1 d el
    exact .inr ⟨p, w, rfl, g, q w m2 H2 X2 hr2 rw' fresh_no⟩
  · cases ru
    obtain ⟨p, o, rfl, _, hp⟩ := rv2
    obtain ⟨j, e6, e7⟩ := Option.bind_eq_some_iff.mp e4
    have e10 : atI (ns.map V.int) k = some (.int i) := by
      unfold atI
      rw [List.length_map]
      exact Option.bind_eq_some_iff.mpr ⟨j, e6, by rw [List.getElem?_map, e7]; rfl⟩
    exact .inl <| .inl ⟨p, _, k, _, rfl, rfl, .inl (.inr ⟨o, hp⟩), e10, q _ m2 H2 X2 hr2 rfl fresh_no⟩

theorem cut_whole {α : Type} (xs : List α) {lo hi : Option Int} (h : sIx xs.length 0 lo = 0 ∧ sIx xs.length xs.length hi = xs.length) : Z.cut xs lo hi = xs := by
  unfold Z.cut
  rw [h.1, h.2, List.drop_zero, Nat.sub_zero, List.take_length]
theorem sl_ok {x : D} {v : V} {lo hi : Option Int} {m m2 : Ms} {h2 h' : Hy} {H H2 : Hp} {d : D} {Q : VK} (X2 : Ext m m2 H H2) (hr2 : HRep m2 H2 h2) (rv : Rep m2 H2 x v) (e : slOf h2 x lo hi = .ok d h')
    (q : ∀ v m' H', Ext m m' H H' → HRep m' H' h' → Rep m' H' d v → Fresh true H d v m' H' h' → Q v H') : rSlL X.K v lo hi H2 Q ∨ rSlA X.K v lo hi H2 Q := by
  unfold slOf at e
  split at e
  · rename_i xs
    cases e
    obtain ⟨a, vs, rfl, nb, ha, hv⟩ := rv
    refine .inr ⟨a, vs, rfl, SqT.of ha, fun hw => ?_, fun _ p hp => ?_⟩
    · refine q _ m2 H2 X2 hr2 ⟨a, vs, rfl, nb, ha, ?_⟩ fresh_tup
      rw [cut_whole xs (by rw [← hv.length]; exact hw)]
      exact hv
    · exact q _ m2 _ (X2.trans (Ext.laid hp)) (hr2.laid hp) (Rep.tupNew hr2 hp (hv.cut lo hi)) fresh_tup
  · rename_i hn
    obtain ⟨xs, e4, rfl, rfl⟩ := lst_seq hn e
    obtain ⟨p, vs, rfl, hk, hv⟩ := lst_of (K := X.K) hr2 rv e4
    exact .inl ⟨p, vs, rfl, SqL.of hk, fun r hp => q _ m2 _ (X2.trans (Ext.laid hp)) (hr2.laid hp) (Rep.lstNew hr2 hp (hv.cut lo hi)) (fresh_at (X2.back hp (hr2.nin hp)) (hr2.mark hp))⟩
theorem t_slo (ha : PE X a (T false da)) (hb : PE X b (T false db)) : PE X (.Subscript a (.Slice (some b) none none p2) pos) (T true fun sl h => (da sl h).bind fun x h => (db sl h).bind fun y h => match y with
    | .int i => slOf h x (some i) none
    | _ => .no) := by
  refine (pe_slice (SlR.or sl_list sl_tupA) ha (po_some hb) po_none).mono fun σ H Q t => ?_
  obtain ⟨m, sl, h, d, h', hr, sr, e, q⟩ := t
  obtain ⟨x, h1, e1, e⟩ := R.bind_ok e
  obtain ⟨y, h2, e2, e⟩ := R.bind_ok e
  refine T.to hr sr e1 fun v m1 H1 x1 hr1 sr1 rv _ => T.to hr1 sr1 e2 fun u m2 H2 x2 hr2 sr2 ru _ => ?_
  split at e
  · cases ru
    exact ⟨_, rfl, sl_ok (x1.trans x2) hr2 (Rep.ext x2 _ _ rv) e q⟩
  · cases e
theorem t_shi (ha : PE X a (T false da)) (hb : PE X b (T false db)) : PE X (.Subscript a (.Slice none (some b) none p2) pos) (T true fun sl h => (da sl h).bind fun x h => (db sl h).bind fun y h => match y with
    | .int i => slOf h x none (some i)
    | _ => .no) := by
  refine (pe_slice (SlR.or sl_list sl_tupA) ha po_none (po_some hb)).mono fun σ H Q t => ?_
  obtain ⟨m, sl, h, d, h', hr, sr, e, q⟩ := t
  obtain ⟨x, h1, e1, e⟩ := R.bind_ok e
  obtain ⟨y, h2, e2, e⟩ := R.bind_ok e
  refine T.to hr sr e1 fun v m1 H1 x1 hr1 sr1 rv _ => T.to hr1 sr1 e2 fun u m2 H2 x2 hr2 sr2 ru _ => ?_
  split at e
  · cases ru
    exact ⟨_, rfl, sl_ok (x1.trans x2) hr2 (Rep.ext x2 _ _ rv) e q⟩
  · cases e
theorem t_slh (ha : PE X a (T false da)) (hb : PE X b (T false db)) (hc : PE X c (T false dc)) : PE X (.Subscript a (.Slice (some b) (some c) none p2) pos) (T true fun sl h => (da sl h).bind fun x h => (db sl h).bind fun y h => (dc sl h).bind fun z h => match y, z with
    | .int i, .int j => slOf h x (some i) (some j)
    | _, _ => .no) := by
  refine (pe_slice (SlR.or sl_list sl_tupA) ha (po_some hb) (po_some hc)).mono fun σ H Q t => ?_
  obtain ⟨m, sl, h, d, h', hr, sr, e, q⟩ := t
  obtain ⟨x, h1, e1, e⟩ := R.bind_ok e
  obtain ⟨y, h2, e2, e⟩ := R.bind_ok e
  obtain ⟨z, h3, e3, e⟩ := R.bind_ok e
  refine T.to hr sr e1 fun v m1 H1 x1 hr1 sr1 rv _ => T.to hr1 sr1 e2 fun u m2 H2 x2 hr2 sr2 ru _ => ?_
  split at e
  · cases ru
    refine ⟨_, rfl, T.to hr2 sr2 e3 fun w m3 H3 x3 hr3 sr3 rw' _ => ?_⟩
    cases rw'
    exact ⟨_, rfl, sl_ok ((x1.trans x2).trans x3) hr3 (Rep.ext (x2.trans x3) _ _ rv) e q⟩
  · cases e
theorem t_rev {k : Nat} {p1 p2 p3 : Pos} (ha : PE X a (T false da)) : PE X (.Subscript a (.Slice none none (some (.UnaryOp .USub (.Constant (.int 1) k p1) p2)) p3) pos) (T true fun sl h => (da sl h).bind fun x h => revOf h x) := by
  refine (pe_revA ha).mono fun σ H Q t => ?_
  obtain ⟨m, sl, h, d, h', hr, sr, e, q⟩ := t
  obtain ⟨x, h1, e1, e⟩ := R.bind_ok e
  refine T.to hr sr e1 fun v m1 H1 x1 hr1 sr1 rv _ => ?_
  unfold revOf at e
  split at e
  · cases e
    obtain ⟨a, vs, rfl, nb, ha, hv⟩ := rv
    exact ⟨a, vs, rfl, .inr ⟨SqT.of ha, fun p hp => q _ m1 _ (x1.trans (Ext.laid hp)) (hr1.laid hp) (Rep.tupNew hr1 hp hv.reverse) fresh_tup⟩⟩
  · rename_i hn
    obtain ⟨xs, e4, rfl, rfl⟩ := lst_seq hn e
    obtain ⟨p, vs, rfl, hk, hv⟩ := lst_of (K := X.K) hr1 rv e4
    exact ⟨p, vs, rfl, .inl ⟨SqL.of hk, fun r hp => q _ m1 _ (x1.trans (Ext.laid hp)) (hr1.laid hp) (Rep.lstNew hr1 hp hv.reverse) (fresh_at (x1.back hp (hr1.nin hp)) (hr1.mark hp))⟩⟩
end

/-! ### calls -/
/-- no starred argument -/
def noStar : List Expr → Bool
  | [] => true
  | .Starred _ _ :: _ => false
  | _ :: es => noStar es
theorem star_cons {e : Expr} {es : List Expr} {env : Env} (h : noStar (e :: es) = true) : starEach (e :: es) env = (false, eval e env) :: starEach es env := by
  cases e <;> first | rfl | cases h
theorem noStar_tl {e : Expr} {es : List Expr} (h : noStar (e :: es) = true) : noStar es = true := by
  cases e <;> first | exact h | cases h
theorem star_none {env : Env} : ∀ {es : List Expr}, noStar es = true → (starEach es env).any (·.1) = false
  | [], _ => rfl
  | e :: es, h => by
    rw [star_cons h, List.any_cons, star_none (noStar_tl h)]
    rfl
theorem star_back {env : Env} {pos : Pos} {es : List Expr} (h : noStar es = true) : (backTo pos (starEach es env)).any (·.1) = false := by
  have := star_none (env := env) h
  unfold backTo
  rw [List.any_map]
  exact this
section
variable {X : Cx} {e : Expr} {es : List Expr} {ds : Dns} {p pos : Pos} {x : Str} {id ty : String} {b : Bi}
theorem bi_T {σ : L2.St} {H : Hp} {Q : VK} (t : T true (fun sl h => (ds sl h).bind fun xs h => b.ap h xs) σ H Q) : tCB (rBi b) (Ts ds) σ H Q := by
  obtain ⟨m, sl, h, d, h', hr, sr, e, q⟩ := t
  obtain ⟨xs, h1, e1, e⟩ := R.bind_ok e
  exact Ts.to hr sr e1 fun vs m1 H1 x1 hr1 sr1 rv => ⟨m1, h1, xs, d, h', hr1, rv, e, fun v m2 H2 x2 hr2 rw' f => q v m2 H2 (x1.trans x2) hr2 rw' fun z k => by
    obtain ⟨p, ep, hp, mk⟩ := f z k
    refine ⟨p, ep, ?_, mk⟩
    obtain ⟨xs, rfl⟩ := k
    obtain ⟨a', vs, ea, nb, _, _⟩ := rw'
    rw [ep] at ea; cases ea
    exact x1.back hp fun z => nb (by
      rcases z with z | z
      · exact .inl (x2.pre.subset z)
      · exact .inr (x2.g ▸ z))⟩
theorem t_callB (hc : CallR X (.builtin id) (rBi b)) (hg : Gl X x) (hm : X.mg x = none) (hv : bootBuiltins x = some (.builtin id)) (hs : noStar (e :: es) = true) (ha : PA X (e :: es) (Ts ds)) (hn : x ≠ "__name__") (hd : (x == ("__debug__" : Str)) = false) :
    PE X (.Call (.Name x p) (e :: es) [] pos) (T true fun sl h => (ds sl h).bind fun xs h => b.ap h xs) :=
  (pe_callB hc hg hm hv ha hn hd (star_cons hs) (star_back (noStar_tl hs))).mono fun _ _ _ t => bi_T t
theorem t_callTy (hc : CallR X (.type ty) (rBi b)) (hg : Gl X x) (hm : X.mg x = none) (hv : bootBuiltins x = some (.type ty)) (hs : noStar (e :: es) = true) (ha : PA X (e :: es) (Ts ds)) (hn : x ≠ "__name__") (hd : (x == ("__debug__" : Str)) = false) :
    PE X (.Call (.Name x p) (e :: es) [] pos) (T true fun sl h => (ds sl h).bind fun xs h => b.ap h xs) :=
  (pe_callTy hc hg hm hv ha hn hd (star_cons hs) (star_back (noStar_tl hs))).mono fun _ _ _ t => bi_T t
end
end Z

end

section
set_option Elab.async false
set_option linter.all false
set_option maxRecDepth 100000
set_option autoImplicit false
/-! Z: enumerate of a tuple. -/
namespace Z
open PySem PySem.Spec PyProof.Rows L2
open Builtin Builtin.Str

set_option maxHeartbeats 1000000 in
theorem meets_enum1 {v : Value} {o : Obj} {Hh : Heap → Prop} (B : Begins v o Hh) :
    Meets (Builtin.«enumerate.__new__» ⟨[.type "enumerate", v], []⟩) (fun _ R s => Hh s.heap ∧
      R (.ok (.ret (.ref (s.heap.push o).objs.size)))
        { s with heap := (s.heap.push o).push { cls := .type "enumerate", data := .fields #[.none, .bool false, .ref s.heap.objs.size, rawInt 0, .none, .none] } }) :=
  .of_wp fun prog w A R s h => by
    obtain ⟨hp, g, d, tk, os⟩ := s
    obtain ⟨h1, h⟩ := h
    have hsub := sub_enumerate
    have q1 : ∀ {A' : Around} {E : Value → Shared → Prop} {Q : Value → Shared → Prop}, Q (.ref hp.objs.size) ⟨hp.push o, g, d, tk, os⟩ → wpAny (model prog w) A' (pyIter v) Q E ⟨hp, g, d, tk, os⟩ :=
      fun q => B.iter prog w _ _ ⟨hp, g, d, tk, os⟩ _ h1 q
    wp_walk using q1
    refine wpAny_stack_any fun st => wpAny_pure ?_
    split
    · rename_i c _ _ _ _ _
      cases (c == Value.type "enumerate")
      · wp_walk using q1
        exact ⟨_, rfl, h⟩
      · wp_walk using q1
        exact ⟨_, rfl, h⟩
    · wp_walk using q1
      exact ⟨_, rfl, h⟩
section
variable {prog : Program} {w : World} {A : Around} {E : Value → Shared → Prop} {s : Shared}
theorem enum1_begins {v : Value} {o : Obj} {Hh : Heap → Prop} {Q : Value → Shared → Prop} (B : Begins v o Hh) (h1 : Hh s.heap)
    (h : ∀ h', IsEnum h' (s.heap.objs.size + 1) s.heap.objs.size 0 .none → h'.get? s.heap.objs.size = some o → h'.objs.size = s.heap.objs.size + 2 →
      (∀ b o, s.heap.get? b = some o → h'.get? b = some o) → Q (.ref (s.heap.objs.size + 1)) { s with heap := h' }) :
    wpAny (model prog w) A (call (.type "enumerate") [v]) Q E s := by
  refine callType_new F.called_enumerate (by decide) (F.typeCall_enumerate_1 _) (F.newCall_enumerate_1 _) (fun obj => F.args_object_init_2 obj _) F.entry_enumerate_new
    (meets_enum1 B) ⟨h1, ?_⟩
  have hz : (s.heap.push o).objs.size = s.heap.objs.size + 1 := Heap.size_push ..
  show _ ∧ _
  rw [hz]
  have he : IsEnum ((s.heap.push o).push { cls := .type "enumerate", data := .fields #[.none, .bool false, .ref s.heap.objs.size, rawInt 0, .none, .none] }) (s.heap.objs.size + 1) s.heap.objs.size 0 .none := by
    have := Heap.get?_push_size (s.heap.push o) (o := { cls := .type "enumerate", data := .fields #[.none, .bool false, .ref s.heap.objs.size, rawInt 0, .none, .none] }) rfl
    rw [hz] at this; exact this
  refine ⟨⟨_, he, rfl⟩, h _ he (Heap.get?_push_of_some _ (Heap.get?_push_size _ B.free)) (by rw [Heap.size_push, hz]) fun b o x => Heap.get?_push_of_some _ (Heap.get?_push_of_some _ x)⟩
end
/-- the tuple at a, each item in a new pair -/
def Itet (K : PySem.W.Frag) (a : Addr) : It :=
  ⟨fun i H => ∃ (xs : List V) (x : V), SqT K H a xs ∧ xs[i]? = some x, fun i H v H' => ∃ T x, v = .ref T ∧ H T = none ∧ H' = upd H T (.tup [.int (i : Nat), x]) ∧ ∀ xs, SqT K H a xs → xs[i]? = some x, fun i H => ∃ xs : List V, SqT K H a xs ∧ xs.length = i⟩
theorem turn_enumT {P : Program} {w : World} {K : PySem.W.Frag} {elts : List Expr} {kk : Nat} {tpos : Pos} (a e it : Addr) (hai : a ≠ it) (hae : a ≠ e) :
    Turn P w K (.Tuple elts kk tpos) (Itet K a) [e, it] e (fun i h => (∃ old, IsEnum h e it ((i : Nat) : Int) old) ∧ h.IsTupleIter it a i ∧ e ≠ it) where
  mem := by simp
  obj := fun i h st b hb => by
    obtain ⟨⟨old, he⟩, ⟨o, ho, hc, hd⟩, _⟩ := st
    have e' : b = e ∨ b = it := by simpa using hb
    rcases e' with z | z
    · rw [z]; exact ⟨_, he, fun v q => nomatch q⟩
    · rw [z]; exact ⟨o, ho, fun v q => by rw [hd] at q; cases q⟩
  keep := fun i h h' st k => let ⟨⟨old, he⟩, hi, hne⟩ := st; ⟨⟨old, k e (by simp) _ he⟩, hi.at fun o q => k it (by simp) o q, hne⟩
  item := by
    intro X hP hw hK hc i pins s σ H E I hf st hg
    subst hP hw hK
    obtain ⟨⟨old, he⟩, hit, hne⟩ := st
    obtain ⟨xs, x, hq, hx⟩ := hg
    obtain ⟨its, rv, p, hz⟩ := I.tuple hq
    obtain ⟨u, hu, ru⟩ := rv.get hx
    have hel : e < s.heap.objs.size := Heap.lt_size he
    have hil : it < s.heap.objs.size := by obtain ⟨_, q, _⟩ := hit; exact Heap.lt_size q
    have hlt : i < its.toArray.size := by
      have := (List.getElem?_eq_some_iff.mp hu).1
      simpa using this
    refine wpAny_pyNext_enum_itemD (Draws.tuple (prog := X.prog) (w := X.w) (A := X.A.in1) (I.ok.hd hc) it a hai its.toArray) he ⟨hit, p⟩ hlt hne (by simp [hne, hae.symm]) fun x' h' tk hP ho hst' hT hsz hk => ?_
    have hP : its.toArray[i]? = some x' := hP
    have exu : x' = u := by
      have : its.toArray[i]? = some u := by simpa using hu
      rw [this] at hP; exact (Option.some.inj hP).symm
    subst exu
    refine ⟨_, rfl, wpAny_letOwnedTupleGo_enum (s := { s with heap := h', toks := tk + 1 }) ho fun h'' he' sb => ?_⟩
    have hT2 : h''.get? s.heap.objs.size = some { cls := .type "tuple", data := .seq #[.int i tk, x'] } := (sb.2 _ (Nat.ne_of_gt hel)).trans hT
    have new : ObjOk X.prog X.w (upd H s.heap.objs.size (.tup [.int (i : Nat), x])) h'' s.heap.objs.size (.tup [.int (i : Nat), x]) :=
      ⟨by show 2 ≤ sizeLine; decide, [.int i tk, x'], .cons ⟨_, rfl⟩ (.cons ru .nil), ⟨_, hT2, rfl, _, rfl⟩⟩
    have I1 : Inv X pins σ (upd H s.heap.objs.size (.tup [.int (i : Nat), x])) { s with heap := h'', toks := tk + 1 } :=
      I.turnedNew (ch := [e, it]) (fun b ob hb q => (sb.2 b (fun z => hb (by simp [z]))).trans (hk b ob (fun z => hb (by simp [z])) (fun z => hb (by simp [z])) q)) hf (Nat.le_refl _) new
    refine ⟨.ref s.heap.objs.size, _, I1, rfl, ⟨_, x, rfl, I.hok.fresh (Nat.le_refl _), rfl, fun ys hy => by rw [I.tuple_inj hy hq]; exact hx⟩, ⟨⟨x', ?_⟩, hst'.1.at fun o q => (sb.2 it (Ne.symm hne)).trans q, hne⟩, fun b hb => ?_⟩
    · have e1 : ((i + 1 : Nat) : Int) = (i : Int) + 1 := by omega
      rw [e1]; exact he'
    · have hb' : b < s.heap.objs.size := by
        have e' : b = e ∨ b = it := by simpa using hb
        rcases e' with z | z
        · rw [z]; exact hel
        · rw [z]; exact hil
      rw [upd_ne (Nat.ne_of_lt hb')]
      exact (hf b hb).1
  done := by
    intro X hP hw hK hc i pins s σ H E I hf st hg
    subst hP hw hK
    obtain ⟨⟨old, he⟩, hit, hne⟩ := st
    obtain ⟨xs, hq, hx⟩ := hg
    obtain ⟨its, rv, p, hz⟩ := I.tuple hq
    obtain ⟨f0, f1, f2, f3, f4, f5⟩ := hf it (by simp)
    have hl := rv.length
    have hn : its.toArray.size = i := by rw [List.size_toArray]; omega
    have D := Draws.tuple (prog := X.prog) (w := X.w) (A := X.A.in1) (I.ok.hd hc) it a hai its.toArray
    exact wpAny_pyNext_enum_endD D he (by rw [hn]; exact ⟨hit, p⟩) fun h' eb => ⟨rfl, I.turned (t' := s.toks) (fun b o hb q => eb b o hb q) f0 f1 f3 f4 f5⟩
  self := fun A i s Q E st h => let ⟨⟨_, he⟩, _⟩ := st; wpAny_pyIter_enum he h
def iEnumA (K : PySem.W.Frag) (ta : TA) : L2.TI := fun σ H R => ta σ H fun vs H1 => ∃ a xs, vs = [.ref a] ∧ ((SqL K H1 a xs ∧ R (Ite K a) H1) ∨ (SqT K H1 a xs ∧ R (Itet K a) H1))
theorem pi_enumA {X : Cx} {e : Expr} {ta : TA} {p pos tpos : Pos} {elts : List Expr} {kk : Nat} (hg : Gl X "enumerate") (hm : X.mg "enumerate" = none) (ha : PA X [e] ta) (hs : starEach [e] X.env = [(false, eval e X.env)]) :
    PI X (.Tuple elts kk tpos) (.Call (.Name "enumerate" p) [e] [] pos) (iEnumA X.K ta) := by
  refine ⟨fun pins s σ H R I h => ?_⟩
  refine Call_ (ld_blt I hg hm boot_enumerate (PyProof.Rows.callWith_type1 (thn (ha.run pos pins s σ H _ I h) fun us s1 ⟨vs, H1, I1, r1, q1⟩ => ?_) hs rfl))
  obtain ⟨a, xs, ex, q⟩ := q1
  subst ex
  cases r1 with
  | cons r rr =>
    cases rr
    cases r
    have fresh2 : ∀ b ∈ [s1.heap.objs.size + 1, s1.heap.objs.size], FpOk X pins H1 b := fun b hb => by
      have e' : b = s1.heap.objs.size + 1 ∨ b = s1.heap.objs.size := by simpa using hb
      have hle : s1.heap.objs.size ≤ b := by
        rcases e' with z | z
        · rw [z]; exact Nat.le_add_right _ _
        · rw [z]; exact Nat.le_refl _
      exact I1.fpOk hle (I1.hok.fresh hle)
    rcases q with ⟨hq, q⟩ | ⟨hq, q⟩
    · obtain ⟨its, rv, p', hz⟩ := I1.list hq
      refine call_enumerate_list p'.isList fun h' he hit hsz hk => wpAny_pyIter_enum he ?_
      have I2 : Inv X pins σ H1 { s1 with heap := h' } := I1.kept (t' := s1.toks) hk
      exact ⟨s1.heap.objs.size + 1, [s1.heap.objs.size + 1, s1.heap.objs.size], _, _, H1, rfl, I2, turn_enum a (s1.heap.objs.size + 1) s1.heap.objs.size, ⟨⟨.none, he⟩, hit, Nat.succ_ne_self _⟩, fresh2, q⟩
    · obtain ⟨its, rv, p', hz⟩ := I1.tuple hq
      have hlt : a < s1.heap.objs.size := by obtain ⟨_, z, _⟩ := id p'; exact Heap.lt_size z
      refine enum1_begins (begins_tuple a its.toArray) p' fun h' he hit hsz hk => wpAny_pyIter_enum he ?_
      have I2 : Inv X pins σ H1 { s1 with heap := h' } := I1.kept (t' := s1.toks) hk
      exact ⟨s1.heap.objs.size + 1, [s1.heap.objs.size + 1, s1.heap.objs.size], _, _, H1, rfl, I2, turn_enumT a (s1.heap.objs.size + 1) s1.heap.objs.size (Nat.ne_of_lt hlt) (Nat.ne_of_lt (Nat.lt_succ_of_lt hlt)), ⟨⟨.none, he⟩, ⟨_, hit, rfl, rfl⟩, Nat.succ_ne_self _⟩, fresh2, q⟩
end Z

end

section
set_option Elab.async false
set_option linter.all false
set_option maxRecDepth 100000
set_option autoImplicit false
/-! Z: what a loop walks. -/
namespace Z
open PySem PySem.Spec PyProof.Rows L2

/-- what it brings, turn by turn -/
structure Wk (J : It) (m : Ms) (H : Hp) (ds : List D) : Prop where
  go : ∀ {i : Nat} {m' : Ms} {H' : Hp} {h : Hy}, Up m m' H H' → HRep m' H' h → i < ds.length → J.go i H'
  stop : ∀ {i : Nat} {m' : Ms} {H' : Hp} {h : Hy}, Up m m' H H' → HRep m' H' h → i = ds.length → J.stop i H'
  yld : ∀ {i : Nat} {m' : Ms} {H' : Hp} {x : V} {H2 : Hp} {h : Hy} {d : D}, Up m m' H H' → HRep m' H' h → ds[i]? = some d → J.yld i H' x H2 → Ext m' m' H' H2 ∧ HRep m' H2 h ∧ Rep m' H2 d x
def TI (dn : Dns) : L2.TI := fun σ H R => ∃ m sl h ds h', HRep m H h ∧ SRep m H sl σ ∧ dn sl h = .ok ds h' ∧
  ∀ J m' H', Ext m m' H H' → HRep m' H' h' → Wk J m' H' ds → R J H'
section
variable {K : PySem.W.Frag} {m : Ms} {H : Hp} {h : Hy}
theorem wk_list {a : Addr} {vs : List V} {ds : List D} (ha : H a = some (.lst vs)) (nb : ¬ m.bad a) (r : Reps m H ds vs) : Wk (Itl K a) m H ds := by
  have hl := r.length
  have st : ∀ {m' : Ms} {H' : Hp}, Up m m' H H' → H' a = some (.lst vs) := fun x => x.keep a _ ha nb
  refine ⟨fun {i m' H' h} x _ hi => ?_, fun {i m' H' h} x _ hi => ⟨vs, SqL.of (st x), by omega⟩, fun {i m' H' v H2 h d} x hr e y => ?_⟩
  · exact ⟨vs, vs[i], SqL.of (st x), List.getElem?_eq_getElem (by omega)⟩
  · obtain ⟨rfl, y⟩ := y
    obtain ⟨u, h1, h2⟩ := (Reps.up x ds vs r).get e
    have := y vs (SqL.of (st x))
    rw [h1] at this; cases this
    exact ⟨Ext.refl, hr, h2⟩
theorem wk_tup {a : Addr} {vs : List V} {ds : List D} (ha : H a = some (.tup vs)) (nb : ¬ m.bad a) (r : Reps m H ds vs) : Wk (Itt K a) m H ds := by
  have hl := r.length
  have st : ∀ {m' : Ms} {H' : Hp}, Up m m' H H' → H' a = some (.tup vs) := fun x => x.keep a _ ha nb
  refine ⟨fun {i m' H' h} x _ hi => ?_, fun {i m' H' h} x _ hi => ⟨vs, SqT.of (st x), by omega⟩, fun {i m' H' v H2 h d} x hr e y => ?_⟩
  · exact ⟨vs, vs[i], SqT.of (st x), List.getElem?_eq_getElem (by omega)⟩
  · obtain ⟨rfl, y⟩ := y
    obtain ⟨u, h1, h2⟩ := (Reps.up x ds vs r).get e
    have := y vs (SqT.of (st x))
    rw [h1] at this; cases this
    exact ⟨Ext.refl, hr, h2⟩
theorem upFrom_len : ∀ (lo c : Int) (n : Nat), (upFrom lo c n).length = n
  | _, _, 0 => rfl
  | lo, c, n + 1 => by rw [upFrom, List.length_cons, upFrom_len]
theorem upFrom_get : ∀ (lo c : Int) (n i : Nat) (d : D), (upFrom lo c n)[i]? = some d → d = .int (lo + i * c)
  | _, _, 0, _, _, e => by simp [upFrom] at e
  | lo, c, n + 1, 0, d, e => by
    simp [upFrom] at e
    subst e
    simp
  | lo, c, n + 1, i + 1, d, e => by
    rw [upFrom, List.getElem?_cons_succ] at e
    rw [upFrom_get (lo + c) c n i d e]
    congr 1
    rw [Int.natCast_add, Int.add_mul]
    simp
    omega
theorem wk_rng (lo : Int) (n : Nat) : Wk (Itr lo n) m H (upFrom lo 1 n) := by
  refine ⟨fun {i m' H' h} x _ hi => ?_, fun {i m' H' h} x _ hi => ?_, fun {i m' H' v H2 h d} x hr e y => ?_⟩
  · rw [upFrom_len] at hi; exact hi
  · rw [upFrom_len] at hi; exact Nat.le_of_eq hi.symm
  · obtain ⟨rfl, rfl⟩ := y
    refine ⟨Ext.refl, hr, ?_⟩
    rw [upFrom_get _ _ _ _ _ e, Int.mul_one]
    rfl
theorem wk_rngC (lo c : Int) (n : Nat) : Wk (Itc lo c n) m H (upFrom lo c n) := by
  refine ⟨fun {i m' H' h} x _ hi => ?_, fun {i m' H' h} x _ hi => ?_, fun {i m' H' v H2 h d} x hr e y => ?_⟩
  · rw [upFrom_len] at hi; exact hi
  · rw [upFrom_len] at hi; exact Nat.le_of_eq hi.symm
  · obtain ⟨rfl, rfl⟩ := y
    refine ⟨Ext.refl, hr, ?_⟩
    rw [upFrom_get _ _ _ _ _ e]
    rfl
theorem wk_str (z : Str) : Wk (Its z) m H (z.cps.toList.map fun c => .str ⟨#[c]⟩) := by
  refine ⟨fun {i m' H' h} x _ hi => ?_, fun {i m' H' h} x _ hi => ?_, fun {i m' H' v H2 h d} x hr e y => ?_⟩
  · rw [List.length_map, Array.length_toList] at hi; exact hi
  · rw [List.length_map, Array.length_toList] at hi; exact Nat.le_of_eq hi.symm
  · obtain ⟨rfl, c, e1, rfl⟩ := y
    refine ⟨Ext.refl, hr, ?_⟩
    rw [List.getElem?_map, Array.getElem?_toList, e1] at e
    cases e
    rfl
theorem zipD_get : ∀ {xs ys : List D} {i : Nat} {d : D}, (zipD xs ys)[i]? = some d → ∃ x y, d = .tup [x, y] ∧ xs[i]? = some x ∧ ys[i]? = some y
  | x :: xs, y :: ys, 0, d, e => by simp [zipD] at e; exact ⟨x, y, e.symm, rfl, rfl⟩
  | x :: xs, y :: ys, i + 1, d, e => by
    rw [zipD, List.getElem?_cons_succ] at e
    obtain ⟨u, v, h1, h2, h3⟩ := zipD_get e
    exact ⟨u, v, h1, by simpa using h2, by simpa using h3⟩
  | [], _, i, d, e => by simp [zipD] at e
  | _ :: _, [], i, d, e => by simp [zipD] at e
theorem zipD_len : ∀ {xs ys : List D}, (zipD xs ys).length = min xs.length ys.length
  | [], _ => by simp [zipD]
  | _ :: _, [] => by simp [zipD]
  | x :: xs, y :: ys => by rw [zipD, List.length_cons, zipD_len, List.length_cons, List.length_cons]; omega
theorem Rep.pair {m' : Ms} {H' : Hp} (hr : HRep m' H' h) {p : Addr} (hp : H' p = none) {x y : D} {u w : V} (hx : Rep m' H' x u) (hy : Rep m' H' y w) : Rep m' (upd H' p (.tup [u, w])) (.tup [x, y]) (.ref p) :=
  Rep.tupNew hr hp ⟨u, [w], rfl, hx, w, [], rfl, hy, rfl⟩
theorem wk_zip {a b : Addr} {us ws : List V} {xs ys : List D} (ha : H a = some (.lst us)) (na : ¬ m.bad a) (ra : Reps m H xs us) (hb : H b = some (.lst ws)) (nb : ¬ m.bad b) (rb : Reps m H ys ws) : Wk (Itz K a b) m H (zipD xs ys) := by
  have la := ra.length
  have lb := rb.length
  have sa : ∀ {m' : Ms} {H' : Hp}, Up m m' H H' → SqL K H' a us := fun x => SqL.of (x.keep a _ ha na)
  have sb : ∀ {m' : Ms} {H' : Hp}, Up m m' H H' → SqL K H' b ws := fun x => SqL.of (x.keep b _ hb nb)
  refine ⟨fun {i m' H' h} x _ hi => ?_, fun {i m' H' h} x _ hi => ?_, fun {i m' H' v H2 h d} x hr e y => ?_⟩
  · rw [zipD_len] at hi
    exact ⟨us, ws, us[i], ws[i], sa x, sb x, List.getElem?_eq_getElem (by omega), List.getElem?_eq_getElem (by omega)⟩
  · rw [zipD_len] at hi
    exact ⟨us, ws, sa x, sb x, by omega⟩
  · obtain ⟨p, s, t, rfl, hp, rfl, f1, f2⟩ := y
    obtain ⟨d1, d2, rfl, e1, e2⟩ := zipD_get e
    obtain ⟨s', h1, h2⟩ := (Reps.up x xs us ra).get e1
    obtain ⟨t', h3, h4⟩ := (Reps.up x ys ws rb).get e2
    have := f1 us (sa x); rw [h1] at this; cases this
    have := f2 ws (sb x); rw [h3] at this; cases this
    exact ⟨Ext.laid hp, hr.laid hp, Rep.pair hr hp h2 h4⟩
theorem wk_zipT {a b : Addr} {us ws : List V} {xs ys : List D} (ha : H a = some (.tup us)) (na : ¬ m.bad a) (ra : Reps m H xs us) (hb : H b = some (.tup ws)) (nb : ¬ m.bad b) (rb : Reps m H ys ws) : Wk (RZ.ItzT K a b) m H (zipD xs ys) := by
  have la := ra.length
  have lb := rb.length
  have sa : ∀ {m' : Ms} {H' : Hp}, Up m m' H H' → SqT K H' a us := fun x => SqT.of (x.keep a _ ha na)
  have sb : ∀ {m' : Ms} {H' : Hp}, Up m m' H H' → SqT K H' b ws := fun x => SqT.of (x.keep b _ hb nb)
  refine ⟨fun {i m' H' h} x _ hi => ?_, fun {i m' H' h} x _ hi => ?_, fun {i m' H' v H2 h d} x hr e y => ?_⟩
  · rw [zipD_len] at hi
    exact ⟨us, ws, us[i], ws[i], sa x, sb x, List.getElem?_eq_getElem (by omega), List.getElem?_eq_getElem (by omega)⟩
  · rw [zipD_len] at hi
    exact ⟨us, ws, sa x, sb x, by omega⟩
  · obtain ⟨p, s, t, rfl, hp, rfl, f1, f2⟩ := y
    obtain ⟨d1, d2, rfl, e1, e2⟩ := zipD_get e
    obtain ⟨s', h1, h2⟩ := (Reps.up x xs us ra).get e1
    obtain ⟨t', h3, h4⟩ := (Reps.up x ys ws rb).get e2
    have := f1 us (sa x); rw [h1] at this; cases this
    have := f2 ws (sb x); rw [h3] at this; cases this
    exact ⟨Ext.laid hp, hr.laid hp, Rep.pair hr hp h2 h4⟩
theorem enumD_get : ∀ {xs : List D} {k : Int} {i : Nat} {d : D}, (enumD k xs)[i]? = some d → ∃ x, d = .tup [.int (k + i), x] ∧ xs[i]? = some x
  | [], k, i, d, e => by simp [enumD] at e
  | x :: xs, k, 0, d, e => by simp [enumD] at e; exact ⟨x, by rw [← e]; simp, rfl⟩
  | x :: xs, k, i + 1, d, e => by
    rw [enumD, List.getElem?_cons_succ] at e
    obtain ⟨u, h1, h2⟩ := enumD_get e
    refine ⟨u, ?_, by simpa using h2⟩
    rw [h1]
    have : k + 1 + (i : Int) = k + ((i + 1 : Nat) : Int) := by omega
    rw [this]
theorem enumD_len : ∀ {xs : List D} {k : Int}, (enumD k xs).length = xs.length
  | [], _ => rfl
  | x :: xs, k => by rw [enumD, List.length_cons, enumD_len, List.length_cons]
theorem wk_enum {a : Addr} {us : List V} {xs : List D} (ha : H a = some (.lst us)) (na : ¬ m.bad a) (ra : Reps m H xs us) : Wk (Ite K a) m H (enumD 0 xs) := by
  have la := ra.length
  have sa : ∀ {m' : Ms} {H' : Hp}, Up m m' H H' → SqL K H' a us := fun x => SqL.of (x.keep a _ ha na)
  refine ⟨fun {i m' H' h} x _ hi => ?_, fun {i m' H' h} x _ hi => ?_, fun {i m' H' v H2 h d} x hr e y => ?_⟩
  · rw [enumD_len] at hi
    exact ⟨us, us[i], sa x, List.getElem?_eq_getElem (by omega)⟩
  · rw [enumD_len] at hi
    exact ⟨us, sa x, by omega⟩
  · obtain ⟨p, s, rfl, hp, rfl, f1⟩ := y
    obtain ⟨d1, rfl, e1⟩ := enumD_get e
    obtain ⟨s', h1, h2⟩ := (Reps.up x xs us ra).get e1
    have := f1 us (sa x); rw [h1] at this; cases this
    rw [Int.zero_add]
    exact ⟨Ext.laid hp, hr.laid hp, Rep.pair hr hp (show Rep m' H' (.int i) (.int i) from rfl) h2⟩
theorem wk_enumT {a : Addr} {us : List V} {xs : List D} (ha : H a = some (.tup us)) (na : ¬ m.bad a) (ra : Reps m H xs us) : Wk (Itet K a) m H (enumD 0 xs) := by
  have la := ra.length
  have sa : ∀ {m' : Ms} {H' : Hp}, Up m m' H H' → SqT K H' a us := fun x => SqT.of (x.keep a _ ha na)
  refine ⟨fun {i m' H' h} x _ hi => ?_, fun {i m' H' h} x _ hi => ?_, fun {i m' H' v H2 h d} x hr e y => ?_⟩
  · rw [enumD_len] at hi
    exact ⟨us, us[i], sa x, List.getElem?_eq_getElem (by omega)⟩
  · rw [enumD_len] at hi
    exact ⟨us, sa x, by omega⟩
  · obtain ⟨p, s, rfl, hp, rfl, f1⟩ := y
    obtain ⟨d1, rfl, e1⟩ := enumD_get e
    obtain ⟨s', h1, h2⟩ := (Reps.up x xs us ra).get e1
    have := f1 us (sa x); rw [h1] at this; cases this
    rw [Int.zero_add]
    exact ⟨Ext.laid hp, hr.laid hp, Rep.pair hr hp (show Rep m' H' (.int i) (.int i) from rfl) h2⟩
/-- keys -/
theorem wk_keys {a : Addr} {o : Obj} {kvs : List (Key × V)} (ha : H a = some (.frz o (.dK kvs))) (nb : ¬ m.bad a) : Wk (Itk a o kvs) m H (kvs.map fun p => kD p.1) := by
  refine ⟨fun {i m' H' h} x _ hi => ⟨x.keep a _ ha nb, by rw [List.length_map] at hi; exact hi⟩, fun {i m' H' h} x _ hi => ⟨x.keep a _ ha nb, by rw [List.length_map] at hi; omega⟩, fun {i m' H' v H2 h d} x hr e y => ?_⟩
  obtain ⟨rfl, k, w, e1, rfl⟩ := y
  rw [List.getElem?_map, e1] at e
  cases e
  refine ⟨Ext.refl, hr, ?_⟩
  cases k <;> rfl
theorem wk_vals {a : Addr} {o : Obj} {kvs : List (Key × V)} {vs : List D} (ha : H a = some (.frz o (.dK kvs))) (nb : ¬ m.bad a) (r : Reps m H vs (kvs.map (·.2))) : Wk (Itd a o kvs) m H vs := by
  have hl := r.length
  rw [List.length_map] at hl
  refine ⟨fun {i m' H' h} x _ hi => ⟨x.keep a _ ha nb, by omega⟩, fun {i m' H' h} x _ hi => ⟨x.keep a _ ha nb, by omega⟩, fun {i m' H' v H2 h d} x hr e y => ?_⟩
  obtain ⟨rfl, k, e1⟩ := y
  obtain ⟨u, h1, h2⟩ := (Reps.up x vs _ r).get e
  rw [List.getElem?_map, e1] at h1
  cases h1
  exact ⟨Ext.refl, hr, h2⟩
theorem wk_items {a : Addr} {o : Obj} {kvs : List (Key × V)} {vs : List D} (ha : H a = some (.frz o (.dK kvs))) (nb : ¬ m.bad a) (r : Reps m H vs (kvs.map (·.2))) : Wk (Iti a o kvs) m H (zipD (kvs.map fun p => kD p.1) vs) := by
  have hl := r.length
  rw [List.length_map] at hl
  refine ⟨fun {i m' H' h} x _ hi => ⟨x.keep a _ ha nb, by rw [zipD_len, List.length_map] at hi; omega⟩, fun {i m' H' h} x _ hi => ⟨x.keep a _ ha nb, by rw [zipD_len, List.length_map] at hi; omega⟩, fun {i m' H' v H2 h d} x hr e y => ?_⟩
  obtain ⟨T, k, w, e1, rfl, hT, rfl⟩ := y
  obtain ⟨d1, d2, rfl, e2, e3⟩ := zipD_get e
  rw [List.getElem?_map, e1] at e2
  cases e2
  obtain ⟨u, h1, h2⟩ := (Reps.up x vs _ r).get e3
  rw [List.getElem?_map, e1] at h1
  cases h1
  exact ⟨Ext.laid hT, hr.laid hT, Rep.pair hr hT (show Rep m' H' (kD k) (kV k) by cases k <;> rfl) h2⟩
end

/-! ### the iterables -/
section
variable {X : Cx} {tg : Expr}
theorem _root_.L2.PI.mono {iter : Expr} {wi wi' : L2.TI} (h : PI X tg iter wi) (w : ∀ σ H R, wi' σ H R → wi σ H R) : PI X tg iter wi' := ⟨fun pins s σ H R I q => h.run pins s σ H R I (w _ _ _ q)⟩
/-- a list, a tuple or a text -/
def iSeq (K : PySem.W.Frag) (tl : TE) : L2.TI := fun σ H R => tl σ H fun x H1 => (∃ a xs, x = .ref a ∧ SqL K H1 a xs ∧ R (Itl K a) H1) ∨ (∃ a xs, x = .ref a ∧ SqT K H1 a xs ∧ R (Itt K a) H1) ∨ (∃ z, x = .str z ∧ R (Its z) H1) ∨ (∃ d o kvs, x = .ref d ∧ H1 d = some (.frz o (.dK kvs)) ∧ R (Itk d o kvs) H1)
theorem pi_seq {l : Expr} {tl : TE} (hl : PE X l tl) : PI X tg l (iSeq X.K tl) := by
  refine ⟨fun pins s σ H R I h => ?_⟩
  refine thn (hl.run pins s σ H _ I h) fun v s1 ⟨x, H1, I1, r1, q1⟩ => ?_
  rcases q1 with ⟨a, xs, e, hq, q⟩ | ⟨a, xs, e, hq, q⟩ | ⟨z, e, q⟩ | ⟨d, o, kvs, e, hd, q⟩
  · subst e
    cases r1
    obtain ⟨its, rv, p, hz⟩ := I1.list hq
    refine wpAny_pyIter_list p.isList ?_
    refine ⟨s1.heap.objs.size, [s1.heap.objs.size], _, _, H1, rfl, I1.kept (t' := s1.toks) fun b o e => Heap.get?_push_of_some _ e, turn_list a _, ⟨_, Heap.get?_push_size _ rfl, rfl, rfl⟩, fun b hb => ?_, q⟩
    have e : b = s1.heap.objs.size := by simpa using hb
    subst e
    exact I1.fpOk (Nat.le_refl _) (I1.hok.fresh (Nat.le_refl _))
  · subst e
    cases r1
    obtain ⟨its, rv, p, hz⟩ := I1.tuple hq
    refine wpAny_pyIter_tuple (show s1.heap.IsTuple a its.toArray from p) ?_
    refine ⟨s1.heap.objs.size, [s1.heap.objs.size], _, _, H1, rfl, I1.kept (t' := s1.toks) fun b o e => Heap.get?_push_of_some _ e, turn_tuple a _, ⟨_, Heap.get?_push_size _ rfl, rfl, rfl⟩, fun b hb => ?_, q⟩
    have e : b = s1.heap.objs.size := by simpa using hb
    subst e
    exact I1.fpOk (Nat.le_refl _) (I1.hok.fresh (Nat.le_refl _))
  · subst e
    obtain ⟨t, rfl⟩ := r1
    cases ha : z.cps.all (· < 128)
    · exact wpAny_pyIter_wide ha (pi_one (tk := s1.toks) I1 _ (turn_str _ z t "str_iterator" (.inr rfl)) ⟨_, Heap.get?_push_size _ rfl, rfl, rfl⟩ q)
    · exact wpAny_pyIter_ascii ha (pi_one (tk := s1.toks) I1 _ (turn_str _ z t "str_ascii_iterator" (.inl rfl)) ⟨_, Heap.get?_push_size _ rfl, rfl, rfl⟩ q)
  · subst e
    cases r1
    obtain ⟨hs, hgd, hx, es, ep, vs, hdt, hsz, kv, hm⟩ := I1.frzK hd
    refine iter_keys hs hgd hx hdt (pi_one (tk := s1.toks) I1 _ (turn_keys _ hdt) ⟨_, Heap.get?_push_size _ rfl, rfl, ?_⟩ q)
    rw [hsz] <;> rfl

/-! ### read off data -/
variable {a b c : Expr} {da db dc : Dn} {p pos tpos : Pos} {elts : List Expr} {kk : Nat}
theorem ti_it (ha : PE X a (T false da)) : PI X tg a (TI fun sl h => (da sl h).bind fun x h => match x with
    | .str z => .ok (z.cps.toList.map fun c => .str ⟨#[c]⟩) h
    | .lst xs => .ok xs h
    | .tup xs => .ok xs h
    | .dct false ks _ => .ok ks h
    | _ => .no) := by
  refine (pi_seq ha).mono fun σ H G t => ?_
  obtain ⟨m, sl, h, ds, h', hr, sr, e, q⟩ := t
  obtain ⟨x, h1, e1, e⟩ := R.bind_ok e
  refine T.to hr sr e1 fun v m1 H1 x1 hr1 sr1 rv _ => ?_
  split at e
  · cases e; cases rv
    exact .inr (.inr (.inl ⟨_, rfl, q _ m1 H1 x1 hr1 (wk_str _)⟩))
  · cases e
    obtain ⟨a, vs, rfl, nb, ha, hv⟩ := rv
    exact .inl ⟨a, vs, rfl, SqL.of ha, q _ m1 H1 x1 hr1 (wk_list ha nb hv)⟩
  · cases e
    obtain ⟨a, vs, rfl, nb, ha, hv⟩ := rv
    exact .inr (.inl ⟨a, vs, rfl, SqT.of ha, q _ m1 H1 x1 hr1 (wk_tup ha nb hv)⟩)
  · cases e
    obtain ⟨a, o, u, ws, rfl, nb, ha, ⟨kvs, rfl, rfl, rfl⟩, hv⟩ := rv
    exact .inr (.inr (.inr ⟨a, o, kvs, rfl, ha, q _ m1 H1 x1 hr1 (wk_keys ha nb)⟩))
  · cases e
theorem ti_vals {apos cpos : Pos} (ha : PE X a (T false da)) (hbase : attributeBase a "values" X.env (eval a X.env) = eval a X.env) (hline : (apos.endLine == cpos.line) = true) : PI X tg (.Call (.Attribute a "values" apos) [] [] cpos) (TI fun sl h => (da sl h).bind fun x h => match x with
    | .dct false _ vs => .ok vs h
    | _ => .no) := by
  refine (pi_values ha hbase hline).mono fun σ H G t => ?_
  obtain ⟨m, sl, h, ds, h', hr, sr, e, q⟩ := t
  obtain ⟨x, h1, e1, e⟩ := R.bind_ok e
  refine T.to hr sr e1 fun v m1 H1 x1 hr1 sr1 rv _ => ?_
  split at e
  · cases e
    obtain ⟨a, o, u, ws, rfl, nb, ha, ⟨kvs, rfl, rfl, rfl⟩, hv⟩ := rv
    exact ⟨a, o, kvs, rfl, ha, q _ m1 H1 x1 hr1 (wk_vals ha nb hv)⟩
  · cases e
theorem ti_items {apos cpos : Pos} (ha : PE X a (T false da)) (hbase : attributeBase a "items" X.env (eval a X.env) = eval a X.env) (hline : (apos.endLine == cpos.line) = true) : PI X (.Tuple elts kk tpos) (.Call (.Attribute a "items" apos) [] [] cpos) (TI fun sl h => (da sl h).bind fun x h => match x with
    | .dct false ks vs => .ok (zipD ks vs) h
    | _ => .no) := by
  refine (pi_items ha hbase hline).mono fun σ H G t => ?_
  obtain ⟨m, sl, h, ds, h', hr, sr, e, q⟩ := t
  obtain ⟨x, h1, e1, e⟩ := R.bind_ok e
  refine T.to hr sr e1 fun v m1 H1 x1 hr1 sr1 rv _ => ?_
  split at e
  · cases e
    obtain ⟨a, o, u, ws, rfl, nb, ha, ⟨kvs, rfl, rfl, rfl⟩, hv⟩ := rv
    exact ⟨a, o, kvs, rfl, ha, q _ m1 H1 x1 hr1 (wk_items ha nb hv)⟩
  · cases e
theorem ts1 (hs : noStar [a] = true) (ha : PE X a (T false da)) : PA X [a] (Ts fun sl h => (da sl h).bind fun x h => .ok [x] h) :=
  (ts_cons ha ts_nil (star_cons hs)).mono fun _ _ _ t => t
theorem ts2 (hs : noStar [a, b] = true) (ha : PE X a (T false da)) (hb : PE X b (T false db)) : PA X [a, b] (Ts fun sl h => (da sl h).bind fun x h => (db sl h).bind fun y h => .ok [x, y] h) := by
  refine (ts_cons ha (ts1 (noStar_tl hs) hb) (star_cons hs)).mono fun σ H Q t => ?_
  obtain ⟨m, sl, h, ds, h', hr, sr, e, q⟩ := t
  refine ⟨m, sl, h, ds, h', hr, sr, ?_, q⟩
  obtain ⟨x, h1, e1, e⟩ := R.bind_ok e
  obtain ⟨y, h2, e2, e⟩ := R.bind_ok e
  show (da sl h).bind _ = _
  rw [e1]; show ((db sl h1).bind _).bind _ = _
  rw [e2]; exact e
theorem ts3 (hs : noStar [a, b, c] = true) (ha : PE X a (T false da)) (hb : PE X b (T false db)) (hc : PE X c (T false dc)) : PA X [a, b, c] (Ts fun sl h => (da sl h).bind fun x h => (db sl h).bind fun y h => (dc sl h).bind fun z h => .ok [x, y, z] h) := by
  refine (ts_cons ha (ts2 (noStar_tl hs) hb hc) (star_cons hs)).mono fun σ H Q t => ?_
  obtain ⟨m, sl, h, ds, h', hr, sr, e, q⟩ := t
  refine ⟨m, sl, h, ds, h', hr, sr, ?_, q⟩
  obtain ⟨x, h1, e1, e⟩ := R.bind_ok e
  obtain ⟨y, h2, e2, e⟩ := R.bind_ok e
  obtain ⟨z, h3, e3, e⟩ := R.bind_ok e
  show (da sl h).bind _ = _
  rw [e1]; show ((db sl h1).bind _).bind _ = _
  rw [e2]; show ((dc sl h2).bind _).bind _ = _
  rw [e3]; exact e
theorem star_eq (hs : noStar [a] = true) {env : Env} : starEach [a] env = [(false, eval a env)] := star_cons hs
theorem ti_r1 (hg : Gl X "range") (hm : X.mg "range" = none) (hs : noStar [a] = true) (ha : PE X a (T false da)) : PI X tg (.Call (.Name "range" p) [a] [] pos) (TI fun sl h => (da sl h).bind fun x h => match x with
    | .int j => if j < 1000000 ∧ -1000000 < j then .ok (upFrom 0 1 j.toNat) h else .no
    | _ => .no) := by
  refine (pi_range1 hg hm (ts1 hs ha) (star_eq hs)).mono fun σ H G t => ?_
  obtain ⟨m, sl, h, ds, h', hr, sr, e, q⟩ := t
  obtain ⟨x, h1, e1, e⟩ := R.bind_ok e
  split at e
  · rename_i j
    by_cases hj : j < 1000000 ∧ -1000000 < j
    · rw [if_pos hj] at e
      cases e
      have e3 : (fun sl h => (da sl h).bind fun x h => R.ok [x] h) sl h = .ok [.int j] h' := by show (da sl h).bind _ = _; rw [e1]; rfl
      refine Ts.to hr sr e3 fun vs m1 H1 x1 hr1 sr1 rv => ?_
      obtain ⟨v, rfl, h2⟩ := reps1 rv
      cases h2
      exact ⟨j, rfl, by omega, by omega, q _ m1 H1 x1 hr1 (wk_rng 0 _)⟩
    · rw [if_neg hj] at e; cases e
  · cases e
theorem ti_r2 (hg : Gl X "range") (hm : X.mg "range" = none) (hs : noStar [a, b] = true) (ha : PE X a (T false da)) (hb : PE X b (T false db)) : PI X tg (.Call (.Name "range" p) [a, b] [] pos) (TI fun sl h => (da sl h).bind fun x h => (db sl h).bind fun y h => match x, y with
    | .int i, .int j => if (-1000000 < i ∧ i < 1000000) ∧ -1000000 < j ∧ j < 1000000 then .ok (upFrom i 1 (j - i).toNat) h else .no
    | _, _ => .no) := by
  refine (pi_range2 hg hm (ts2 hs ha hb) (by rw [star_cons hs, star_eq (noStar_tl hs)]) (star_eq (noStar_tl hs))).mono fun σ H G t => ?_
  obtain ⟨m, sl, h, ds, h', hr, sr, ea, q⟩ := t
  obtain ⟨x, h1, e1, eb⟩ := R.bind_ok ea
  obtain ⟨y, h2, e2, e⟩ := R.bind_ok eb
  split at e
  · rename_i i j
    by_cases hj : (-1000000 < i ∧ i < 1000000) ∧ -1000000 < j ∧ j < 1000000
    · rw [if_pos hj] at e
      cases e
      have e3 : (fun sl h => (da sl h).bind fun x h => (db sl h).bind fun y h => R.ok [x, y] h) sl h = .ok [.int i, .int j] h' := by show (da sl h).bind _ = _; rw [e1]; show (db sl h1).bind _ = _; rw [e2]; rfl
      refine Ts.to hr sr e3 fun vs m1 H1 x1 hr1 sr1 rv => ?_
      obtain ⟨v, u, rfl, k1, k2⟩ := reps2 rv
      cases k1; cases k2
      exact ⟨i, j, rfl, by omega, q _ m1 H1 x1 hr1 (wk_rng i _)⟩
    · rw [if_neg hj] at e; cases e
  · cases e
theorem div_lt {x k : Int} (hx : 0 ≤ x) (hk : 0 < k) : 0 ≤ x / k ∧ x / k ≤ x := ⟨Int.ediv_nonneg hx (Int.le_of_lt hk), Int.ediv_le_self _ hx⟩
theorem rgC_of {i j k : Int} (hj : (-1000000 < i ∧ i < 1000000) ∧ (-1000000 < j ∧ j < 1000000) ∧ (-1000000 < k ∧ k < 1000000) ∧ k ≠ 0) : RgC i j k (rgN i j k) := by
  have hb : 0 ≤ Builtin.Range.rangeSize i j k ∧ Builtin.Range.rangeSize i j k ≤ 2000001 := by
    unfold Builtin.Range.rangeSize
    by_cases h0 : k > 0
    · rw [if_pos h0]
      split
      · have := div_lt (x := j - i - 1) (k := k) (by omega) h0
        omega
      · omega
    · rw [if_neg h0]
      split
      · have := div_lt (x := i - j - 1) (k := -k) (by omega) (by omega)
        omega
      · omega
  refine ⟨hj.2.2.2, by omega, ?_, ?_⟩
  · unfold Builtin.Range.small
    simp only [Builtin.Range.rangeFitsLong, Bool.and_eq_true, Bool.or_eq_true, decide_eq_true_eq, beq_iff_eq]
    refine ⟨by omega, .inr ?_⟩
    split <;> simp only [Bool.and_eq_true, decide_eq_true_eq] <;> omega
  · unfold rgN
    exact (Int.toNat_of_nonneg hb.1).symm
theorem ti_r3 (hg : Gl X "range") (hm : X.mg "range" = none) (hs : noStar [a, b, c] = true) (ha : PE X a (T false da)) (hb : PE X b (T false db)) (hc : PE X c (T false dc)) : PI X tg (.Call (.Name "range" p) [a, b, c] [] pos) (TI fun sl h => (da sl h).bind fun x h => (db sl h).bind fun y h => (dc sl h).bind fun z h => match x, y, z with
    | .int i, .int j, .int k => if (-1000000 < i ∧ i < 1000000) ∧ (-1000000 < j ∧ j < 1000000) ∧ (-1000000 < k ∧ k < 1000000) ∧ k ≠ 0 then .ok (upFrom i k (rgN i j k)) h else .no
    | _, _, _ => .no) := by
  refine (pi_range3 hg hm (ts3 hs ha hb hc) (star_cons hs) (star_back (noStar_tl hs))).mono fun σ H G t => ?_
  obtain ⟨m, sl, h, ds, h', hr, sr, ea, q⟩ := t
  obtain ⟨x, h1, e1, eb⟩ := R.bind_ok ea
  obtain ⟨y, h2, e2, ec⟩ := R.bind_ok eb
  obtain ⟨z, h3, e0, e⟩ := R.bind_ok ec
  split at e
  · rename_i i j k
    by_cases hj : (-1000000 < i ∧ i < 1000000) ∧ (-1000000 < j ∧ j < 1000000) ∧ (-1000000 < k ∧ k < 1000000) ∧ k ≠ 0
    · rw [if_pos hj] at e
      cases e
      have e3 : (fun sl h => (da sl h).bind fun x h => (db sl h).bind fun y h => (dc sl h).bind fun z h => R.ok [x, y, z] h) sl h = .ok [.int i, .int j, .int k] h' := by
        show (da sl h).bind _ = _; rw [e1]; show (db sl h1).bind _ = _; rw [e2]; show (dc sl h2).bind _ = _; rw [e0]; rfl
      refine Ts.to hr sr e3 fun vs m1 H1 x1 hr1 sr1 rv => ?_
      obtain ⟨v, r, rfl, k1, rv⟩ := rv
      obtain ⟨u, w, rfl, k2, k3⟩ := reps2 rv
      cases k1; cases k2; cases k3
      exact ⟨i, j, k, _, rfl, rgC_of hj, q _ m1 H1 x1 hr1 (wk_rngC i k _)⟩
    · rw [if_neg hj] at e; cases e
  · cases e
theorem ti_zip (hg : Gl X "zip") (hm : X.mg "zip" = none) (hs : noStar [a, b] = true) (ha : PE X a (T false da)) (hb : PE X b (T false db)) : PI X (.Tuple elts kk tpos) (.Call (.Name "zip" p) [a, b] [] pos) (TI fun sl h => (da sl h).bind fun x h => (db sl h).bind fun y h => match x, y with
    | .lst xs, .lst ys => .ok (zipD xs ys) h
    | .tup xs, .tup ys => .ok (zipD xs ys) h
    | _, _ => .no) := by
  refine (RZ.pi_zipA hg hm (ts2 hs ha hb) (star_cons hs) (star_back (noStar_tl hs))).mono fun σ H G t => ?_
  obtain ⟨m, sl, h, ds, h', hr, sr, ea, q⟩ := t
  obtain ⟨x, h1, e1, eb⟩ := R.bind_ok ea
  obtain ⟨y, h2, e2, e⟩ := R.bind_ok eb
  have e3 : (fun sl h => (da sl h).bind fun x h => (db sl h).bind fun y h => R.ok [x, y] h) sl h = .ok [x, y] h2 := by show (da sl h).bind _ = _; rw [e1]; show (db sl h1).bind _ = _; rw [e2]; rfl
  refine Ts.to hr sr e3 fun vs m1 H1 x1 hr1 sr1 rv => ?_
  obtain ⟨v, u, rfl, k1, k2⟩ := reps2 rv
  split at e
  · cases e
    obtain ⟨a, us, rfl, na, ha, hv⟩ := k1
    obtain ⟨b, ws, rfl, nb, hb, hw⟩ := k2
    exact ⟨a, b, us, ws, rfl, .inl ⟨SqL.of ha, SqL.of hb, q _ m1 H1 x1 hr1 (wk_zip ha na hv hb nb hw)⟩⟩
  · cases e
    obtain ⟨a, us, rfl, na, ha, hv⟩ := k1
    obtain ⟨b, ws, rfl, nb, hb, hw⟩ := k2
    exact ⟨a, b, us, ws, rfl, .inr ⟨SqT.of ha, SqT.of hb, q _ m1 H1 x1 hr1 (wk_zipT ha na hv hb nb hw)⟩⟩
  · cases e
theorem ti_enum (hg : Gl X "enumerate") (hm : X.mg "enumerate" = none) (hs : noStar [a] = true) (ha : PE X a (T false da)) : PI X (.Tuple elts kk tpos) (.Call (.Name "enumerate" p) [a] [] pos) (TI fun sl h => (da sl h).bind fun x h => match x with
    | .lst xs => .ok (enumD 0 xs) h
    | .tup xs => .ok (enumD 0 xs) h
    | _ => .no) := by
  refine (pi_enumA hg hm (ts1 hs ha) (star_eq hs)).mono fun σ H G t => ?_
  obtain ⟨m, sl, h, ds, h', hr, sr, ea, q⟩ := t
  obtain ⟨x, h1, e1, e⟩ := R.bind_ok ea
  have e3 : (fun sl h => (da sl h).bind fun x h => R.ok [x] h) sl h = .ok [x] h1 := by show (da sl h).bind _ = _; rw [e1]; rfl
  refine Ts.to hr sr e3 fun vs m1 H1 x1 hr1 sr1 rv => ?_
  obtain ⟨v, rfl, k1⟩ := reps1 rv
  split at e
  · cases e
    obtain ⟨b, us, rfl, na, hb, hv⟩ := k1
    exact ⟨b, us, rfl, .inl ⟨SqL.of hb, q _ m1 H1 x1 hr1 (wk_enum hb na hv)⟩⟩
  · cases e
    obtain ⟨b, us, rfl, na, hb, hv⟩ := k1
    exact ⟨b, us, rfl, .inr ⟨SqT.of hb, q _ m1 H1 x1 hr1 (wk_enumT hb na hv)⟩⟩
  · cases e
end
end Z

end

section
set_option Elab.async false
set_option linter.all false
set_option maxRecDepth 100000
set_option autoImplicit false
/-! Z: targets, comprehensions. -/
namespace Z
open PySem PySem.Spec PyProof.Rows L2

/-! ### targets -/
section
variable {m : Ms} {H : Hp} {sl sl' : Sl} {σ : L2.St}
theorem SRep.set {i : Nat} {d : D} {v : V} (r : SRep m H sl σ) (q : Rep m H d v) : SRep m H (sl.set i (some d)) (σ.set i (some v)) := by
  refine ⟨by rw [List.length_set, List.length_set]; exact r.len, fun j e h => ?_⟩
  by_cases hj : i = j
  · subst hj
    have hi : i < sl.length := by
      have := (List.getElem?_eq_some_iff.mp h).1
      rwa [List.length_set] at this
    rw [List.getElem?_set_self hi] at h
    cases h
    exact ⟨v, by rw [List.getElem?_set_self (by rw [← r.len]; exact hi)], q⟩
  · rw [List.getElem?_set_ne hj] at h
    obtain ⟨u, h1, h2⟩ := r.val j e h
    exact ⟨u, by rw [List.getElem?_set_ne hj]; exact h1, h2⟩
theorem SRep.unset {i : Nat} (r : SRep m H sl σ) : SRep m H (sl.set i none) (σ.set i none) := by
  refine ⟨by rw [List.length_set, List.length_set]; exact r.len, fun j e h => ?_⟩
  by_cases hj : i = j
  · subst hj
    have hi : i < sl.length := by
      have := (List.getElem?_eq_some_iff.mp h).1
      rwa [List.length_set] at this
    rw [List.getElem?_set_self hi] at h
    cases h
  · rw [List.getElem?_set_ne hj] at h
    obtain ⟨u, h1, h2⟩ := r.val j e h
    exact ⟨u, by rw [List.getElem?_set_ne hj]; exact h1, h2⟩
theorem SRep.wipe (r : SRep m H sl σ) : ∀ vs : List Nat, SRep m H (Z.wipe sl vs) (L2.wipe σ vs)
  | [] => r
  | v :: vs => by
    show SRep m H ((Z.wipe sl vs).set v none) ((L2.wipe σ vs).set v none)
    exact (SRep.wipe r vs).unset
theorem wipe_wipe (σ : L2.St) (vs : List Nat) : L2.wipe (L2.wipe σ vs) vs = L2.wipe σ vs := by
  have key : ∀ (vs : List Nat) (σ : L2.St) (i : Nat), (L2.wipe σ vs)[i]? = if i ∈ vs then (if i < σ.length then some none else none) else σ[i]? := by
    intro vs
    induction vs with
    | nil => intro σ i; simp [L2.wipe]
    | cons v vs ih =>
      intro σ i
      show ((L2.wipe σ vs).set v none)[i]? = _
      by_cases hv : v = i
      · subst hv
        by_cases hl : v < σ.length
        · rw [List.getElem?_set_self (by rw [wipe_length]; exact hl)]; simp [hl]
        · rw [List.getElem?_eq_none (by rw [List.length_set, wipe_length]; omega)]; simp [hl]
      · rw [List.getElem?_set_ne hv, ih]
        have : i ≠ v := fun z => hv z.symm
        simp [this]
  apply List.ext_getElem?
  intro i
  rw [key, key, wipe_length]
  by_cases hi : i ∈ vs <;> simp [hi]
/-- the same but at is -/
def Off (is : List Nat) (σ σ' : L2.St) : Prop := σ'.length = σ.length ∧ ∀ i, i ∉ is → σ'[i]? = σ[i]?
theorem Off.wipe {is : List Nat} {σ σ' : L2.St} (o : Off is σ σ') {vs : List Nat} (h : ∀ i ∈ is, i ∈ vs) : L2.wipe σ' vs = L2.wipe σ vs := by
  have key : ∀ (vs : List Nat) (σ : L2.St) (i : Nat), (L2.wipe σ vs)[i]? = if i ∈ vs then (if i < σ.length then some none else none) else σ[i]? := by
    intro vs
    induction vs with
    | nil => intro σ i; simp [L2.wipe]
    | cons v vs ih =>
      intro σ i
      show ((L2.wipe σ vs).set v none)[i]? = _
      by_cases hv : v = i
      · subst hv
        by_cases hl : v < σ.length
        · rw [List.getElem?_set_self (by rw [wipe_length]; exact hl)]; simp [hl]
        · rw [List.getElem?_eq_none (by rw [List.length_set, wipe_length]; omega)]; simp [hl]
      · rw [List.getElem?_set_ne hv, ih]
        have : i ≠ v := fun z => hv z.symm
        simp [this]
  apply List.ext_getElem?
  intro i
  rw [key, key, o.1]
  by_cases hi : i ∈ vs
  · simp [hi]
  · simp only [hi, if_false]
    exact o.2 i fun z => hi (h i z)
def gT (g : G) : TG := fun v σ H Q => ∃ m sl h d sl', HRep m H h ∧ SRep m H sl σ ∧ Rep m H d v ∧ g.put d sl = some sl' ∧ ∀ σ', SRep m H sl' σ' → Off g.idx σ σ' → Q σ' H
def gTs (gs : List G) : TGs := fun vs σ H Q => ∃ m sl h ds sl', HRep m H h ∧ SRep m H sl σ ∧ Reps m H ds vs ∧ G.puts ds sl gs = some sl' ∧ ∀ σ', SRep m H sl' σ' → Off (G.idxs gs) σ σ' → Q σ' H
theorem _root_.L2.PG.mono {X : Cx} {e : Expr} {t t' : TG} (h : PG X e t) (w : ∀ v σ H Q, t' v σ H Q → t v σ H Q) : PG X e t' := ⟨fun pins s σ H v u Q I r q => h.run pins s σ H v u Q I r (w _ _ _ _ q)⟩
theorem _root_.L2.PGs.mono {X : Cx} {e : List Expr} {t t' : TGs} (h : PGs X e t) (w : ∀ v σ H Q, t' v σ H Q → t v σ H Q) : PGs X e t' := ⟨fun pins s σ H v u Q I r q => h.run pins s σ H v u Q I r (w _ _ _ _ q)⟩
variable {X : Cx} {pos : Pos}
theorem g_name {i : Nat} {x : Str} (hN : X.N.Nodup) (hi : X.N[i]? = some x) (hx : Loc X.env.scope x) (hf : X.fn x = true ∨ X.env.scope.names.lookup x = some .local) : PG X (.Name x pos) (gT (.nm i)) := by
  refine (pg_name hN hi hx hf).mono fun v σ H Q t => ?_
  obtain ⟨m, sl, h, d, sl', hr, sr, rv, e, q⟩ := t
  simp only [G.put] at e
  split at e
  · cases e
    exact q _ (sr.set rv) ⟨by rw [List.length_set], fun j hj => by rw [List.getElem?_set_ne (fun z => hj (by simp [G.idx, z]))]⟩
  · cases e
theorem g_nil : PGs X [] (gTs []) := by
  refine pgs_nil.mono fun vs σ H Q t => ?_
  obtain ⟨m, sl, h, ds, sl', hr, sr, rv, e, q⟩ := t
  cases ds with
  | nil =>
    cases e
    exact ⟨rv, q _ sr ⟨rfl, fun _ _ => rfl⟩⟩
  | cons d ds => simp [G.puts] at e
theorem g_cons {e : Expr} {es : List Expr} {g : G} {gs : List G} (h1 : PG X e (gT g)) (h2 : PGs X es (gTs gs)) (hs : (assignEach (e :: es) X.env).map (·.2) = assign e X.env :: (assignEach es X.env).map (·.2)) : PGs X (e :: es) (gTs (g :: gs)) := by
  refine (pgs_cons h1 h2 hs).mono fun vs σ H Q t => ?_
  obtain ⟨m, sl, h, ds, sl', hr, sr, rv, e, q⟩ := t
  cases ds with
  | nil => simp [G.puts] at e
  | cons d ds =>
    obtain ⟨v, r, rfl, k1, k2⟩ := rv
    simp only [G.puts] at e
    split at e
    · rename_i sl1 e1
      refine ⟨v, r, rfl, m, sl, h, d, sl1, hr, sr, k1, e1, fun σ1 sr1 o1 => ⟨m, sl1, h, ds, sl', hr, sr1, k2, e, fun σ2 sr2 o2 => q σ2 sr2 ⟨o2.1.trans o1.1, fun i hi => ?_⟩⟩⟩
      have hi' : i ∉ g.idx ∧ i ∉ G.idxs gs := by simpa [G.idxs] using hi
      rw [o2.2 i hi'.2, o1.2 i hi'.1]
    · cases e
theorem puts_len : ∀ {ds : List D} {sl sl' : Sl} {gs : List G}, G.puts ds sl gs = some sl' → ds.length = gs.length
  | [], _, _, [], _ => rfl
  | [], _, _, _ :: _, e => by simp [G.puts] at e
  | _ :: _, _, _, [], e => by simp [G.puts] at e
  | d :: ds, sl, sl', g :: gs, e => by
    simp only [G.puts] at e
    split at e
    · rw [List.length_cons, List.length_cons, puts_len e]
    · cases e
theorem g_tup {es : List Expr} {k : Nat} {gs : List G} (hc : X.calm = true) (h : PGs X es (gTs gs)) (hl : es.length = gs.length) (hn : (assignEach es X.env).length = es.length) (hst : (assignEach es X.env).findIdx? (·.1) = none) : PG X (.Tuple es k pos) (gT (.tup gs)) := by
  refine (pg_tup hc h (hn.trans hl) hst).mono fun v σ H Q t => ?_
  obtain ⟨m, sl, h, d, sl', hr, sr, rv, e, q⟩ := t
  unfold G.put at e
  split at e
  · obtain ⟨a, vs, rfl, nb, ha, hv⟩ := rv
    exact ⟨a, vs, rfl, SqT.of ha, by rw [hv.length]; exact puts_len e, m, sl, h, _, sl', hr, sr, hv, e, q⟩
  · cases e
end

/-! ### a list that a comprehension fills -/
theorem lcGo2_acc {f : D → Hy → R (List D)} (a : List D) : ∀ (xs b : List D) (h : Hy), lcGo2 f xs (a ++ b) h = (lcGo2 f xs b h).bind fun ds h => .ok (a ++ ds) h
  | [], b, h => rfl
  | x :: xs, b, h => by
    simp only [lcGo2]
    split
    · rename_i ds h' e
      rw [List.append_assoc, lcGo2_acc a xs]
    · rfl
    · rfl
theorem lcGo2_len {f : D → Hy → R (List D)} : ∀ {xs acc ds : List D} {h h' : Hy}, lcGo2 f xs acc h = .ok ds h' → acc.length ≤ ds.length
  | [], acc, ds, h, h', e => by cases e; exact Nat.le_refl _
  | x :: xs, acc, ds, h, h', e => by
    simp only [lcGo2] at e
    split at e
    · have := lcGo2_len e
      rw [List.length_append] at this
      omega
    · cases e
    · cases e
theorem lcGo_eq {f : D → Hy → R (Option D)} : ∀ (xs acc : List D) (h : Hy), lcGo f xs acc h = lcGo2 (fun x h => (f x h).bind fun o h => .ok o.toList h) xs acc h
  | [], _, _ => rfl
  | x :: xs, acc, h => by
    simp only [lcGo, lcGo2]
    cases f x h with
    | ok o h' => cases o with
      | none => show lcGo f xs acc h' = lcGo2 _ xs (acc ++ []) h'; rw [List.append_nil]; exact lcGo_eq xs acc h'
      | some d => exact lcGo_eq xs _ h'
    | exc _ _ => rfl
    | no => rfl
section
variable {m m' mk : Ms} {H H' H1 H2 H3 : Hp} {h : Hy} {p : Addr}
mutual
theorem Rep.off (k : ∀ a o, ¬ m.bad a → H a = some o → H' a = some o) : ∀ (d : D) (v : V), Rep m H d v → Rep m H' d v
  | .non, _, h => h
  | .bl _, _, h => h
  | .int _, _, h => h
  | .str _, _, h => h
  | .tup xs, v, h => by
    obtain ⟨a, vs, e, hm, ha, hr⟩ := h
    exact ⟨a, vs, e, hm, k a _ hm ha, Reps.off k xs vs hr⟩
  | .lst xs, v, h => by
    obtain ⟨a, vs, e, hm, ha, hr⟩ := h
    exact ⟨a, vs, e, hm, k a _ hm ha, Reps.off k xs vs hr⟩
  | .dct t ks ds, v, h => by
    obtain ⟨a, o, u, ws, e, hm, ha, hd, hr⟩ := h
    exact ⟨a, o, u, ws, e, hm, k a _ hm ha, hd, Reps.off k ds ws hr⟩
  | .loc n, v, h => h
  | .lsi ns, v, h => by
    obtain ⟨a, o, e, hm, ha⟩ := h
    exact ⟨a, o, e, hm, k a _ hm ha⟩
theorem Reps.off (k : ∀ a o, ¬ m.bad a → H a = some o → H' a = some o) : ∀ (ds : List D) (vs : List V), Reps m H ds vs → Reps m H' ds vs
  | [], _, h => h
  | d :: ds, vs, h => by
    obtain ⟨v, r, e, h1, h2⟩ := h
    exact ⟨v, r, e, Rep.off k d v h1, Reps.off k ds r h2⟩
end
theorem off_upd {o : HO} (hp : m.bad p) : ∀ a o', ¬ m.bad a → H a = some o' → upd H p o a = some o' := fun a o' n e => by
  rw [upd_ne (fun z => n (by rw [z]; exact hp))]; exact e
theorem HRep.touch {o : HO} (r : HRep m H h) (hp : p ∈ m.g) : HRep m (upd H p o) h := by
  have np : p ∉ m.l := (r.dj p hp).1
  refine ⟨r.nd, r.len, fun n ob a h1 h2 => ?_, fun a ha => ⟨(r.dj a ha).1, ?_⟩⟩
  · have q := r.ob n ob a h1 h2
    cases ob with
    | l xs =>
      obtain ⟨vs, e, q⟩ := q
      have hne : a ≠ p := fun z => np (z ▸ List.mem_of_getElem? h2)
      exact ⟨vs, by rw [upd_ne hne]; exact e, Reps.off (off_upd (.inr hp)) xs vs q⟩
    | d t ks vs =>
      obtain ⟨u, ws, e, hd, q⟩ := q
      have hne : a ≠ p := fun z => np (z ▸ List.mem_of_getElem? h2)
      exact ⟨u, ws, by rw [upd_ne hne]; exact e, hd, Reps.off (off_upd (.inr hp)) vs ws q⟩
  · by_cases e : a = p
    · subst e; exact ⟨o, upd_same⟩
    · obtain ⟨u, hu⟩ := (r.dj a ha).2
      exact ⟨u, by rw [upd_ne e]; exact hu⟩
/-- the list at p is being filled: what holds at a turn -/
structure Acc (m : Ms) (H1 : Hp) (p : Addr) (mk : Ms) (H : Hp) (h : Hy) (acc : List D) : Prop where
  ext : Ext m mk H1 H
  hr : HRep (mk.mark p) H h
  at_ : ∃ vs, H p = some (.lst vs) ∧ Reps (mk.mark p) H acc vs
variable {acc : List D}
theorem Acc.start (hp : H1 p = none) (r : HRep m H1 h) : Acc m H1 p m (upd H1 p (.lst [])) h [] :=
  ⟨Ext.laid hp, r.mark hp, [], upd_same, rfl⟩
theorem Acc.up (hp : H1 p = none) (a : Acc m H1 p mk H h acc) : Up m (mk.mark p) H1 H := ⟨a.ext.pre, fun b hb => by
  rcases hb with hb | hb
  · rcases a.ext.new b hb with z | z
    · exact .inl (.inl z)
    · exact .inr z
  · rcases List.mem_cons.mp hb with z | z
    · exact .inr (z ▸ hp)
    · exact .inl (.inr (a.ext.g ▸ z)), fun b o e n => a.ext.keep b o e fun z => n (.inl z)⟩
theorem Acc.move {m2 : Ms} {H2 : Hp} {h2 : Hy} (hp : H1 p = none) (a : Acc m H1 p mk H h acc) (x : Ext (mk.mark p) m2 H H2) (r : HRep m2 H2 h2) : ∃ mk2, m2 = Ms.mark mk2 p ∧ Acc m H1 p mk2 H2 h2 acc := by
  obtain ⟨vs, e, q⟩ := a.at_
  have np : p ∉ mk.l := (a.hr.dj p (List.mem_cons_self ..)).1
  have e2 : m2 = (⟨m2.l, mk.g⟩ : Ms).mark p := by
    have := x.g
    cases m2
    cases this
    rfl
  refine ⟨⟨m2.l, mk.g⟩, e2, ⟨⟨a.ext.g, a.ext.pre.trans x.pre, fun b hb => ?_, fun b o hb nb => ?_⟩, e2 ▸ r, vs, x.keep p _ e np, e2 ▸ Reps.ext x _ _ q⟩⟩
  · rcases x.new b hb with z | z
    · exact a.ext.new b z
    · exact Ext.back' a.ext z
  · refine x.keep b o (a.ext.keep b o hb nb) fun z => ?_
    rcases a.ext.new b z with z | z
    · exact nb z
    · rw [hb] at z; cases z
theorem Acc.push (hp : H1 p = none) {d : D} {v : V} {vs : List V} (a : Acc m H1 p mk H h acc) (e : H p = some (.lst vs)) (r : Rep (mk.mark p) H d v) : Acc m H1 p mk (upd H p (.lst (vs ++ [v]))) h (acc ++ [d]) := by
  obtain ⟨ws, e', q⟩ := a.at_
  rw [e] at e'; cases e'
  have pg : p ∈ (mk.mark p).g := List.mem_cons_self ..
  refine ⟨⟨a.ext.g, a.ext.pre, a.ext.new, fun b o hb nb => ?_⟩, a.hr.touch pg, _, upd_same, (Reps.off (off_upd (.inr pg)) _ _ q).append ⟨v, [], rfl, Rep.off (off_upd (.inr pg)) _ _ r, rfl⟩⟩
  rw [upd_ne (ne_of_none hb hp)]
  exact a.ext.keep b o hb nb
theorem Acc.done (r : HRep m H1 h) {h2 : Hy} (hp : H1 p = none) (a : Acc m H1 p mk H h2 acc) : HRep mk H h2 ∧ Rep mk H (.lst acc) (.ref p) := by
  obtain ⟨vs, e, q⟩ := a.at_
  refine ⟨a.hr.less rfl fun b hb => List.mem_cons_of_mem _ hb, p, vs, rfl, fun z => ?_, e, Reps.less (m := mk.mark p) (m' := mk) rfl (fun b hb => List.mem_cons_of_mem _ hb) _ _ q⟩
  rcases z with z | z
  · exact (a.hr.dj p (List.mem_cons_self ..)).1 z
  · rw [a.ext.g] at z
    exact r.nin hp (.inr z)
end

/-- the turns -/
theorem lc_turns {J : It} {m mw : Ms} {H1 Hw : Hp} {p : Addr} {f : D → Hy → R (List D)} {xs ds : List D} {h' : Hy} {Fin : Hp → Prop} {body : (Hp → Prop) → V → Hp → Prop}
    (hp : H1 p = none) (wk : Wk J mw Hw xs)
    (fin : ∀ mk H, Acc m H1 p mk H h' ds → Up mw (mk.mark p) Hw H → Fin H)
    (hb : ∀ (Nx : Hp → Prop) (mk : Ms) (H : Hp) (h h2 : Hy) (acc r : List D) (x : D) (v : V), Acc m H1 p mk H h acc → Up mw (mk.mark p) Hw H → Rep (mk.mark p) H x v → f x h = .ok r h2 → acc.length + r.length ≤ ds.length →
      (∀ mk2 H2, Acc m H1 p mk2 H2 h2 (acc ++ r) → Up mw (mk2.mark p) Hw H2 → Nx H2) → body Nx v H)
    {mk : Ms} {H : Hp} {h : Hy} {acc : List D} (a : Acc m H1 p mk H h acc) (u : Up mw (mk.mark p) Hw H) (e : lcGo2 f xs acc h = .ok ds h') :
    ∃ W : Nat → Nat → Hp → Prop, (∃ k, W 0 k H) ∧ ∀ i k H, W i k H → (J.stop i H ∧ Fin H) ∨ (J.go i H ∧ ∃ Nx : Hp → Prop, (∀ H', Nx H' → ∃ k', k' < k ∧ W (i + 1) k' H') ∧ ∀ x H', J.yld i H x H' → body Nx x H') := by
  refine ⟨fun i k H => k = xs.length - i ∧ i ≤ xs.length ∧ ∃ mk h acc, Acc m H1 p mk H h acc ∧ Up mw (mk.mark p) Hw H ∧ lcGo2 f (xs.drop i) acc h = .ok ds h', ⟨xs.length, by simp, Nat.zero_le _, mk, h, acc, a, u, e⟩, ?_⟩
  rintro i k H ⟨rfl, hi, mk, h, acc, a, u, e⟩
  by_cases hlt : i < xs.length
  · refine .inr ⟨wk.go u a.hr hlt, fun H' => ∃ mk h acc, Acc m H1 p mk H' h acc ∧ Up mw (mk.mark p) Hw H' ∧ lcGo2 f (xs.drop (i + 1)) acc h = .ok ds h', fun H' ⟨mk, h, acc, a, u, e⟩ => ⟨xs.length - (i + 1), by omega, rfl, hlt, mk, h, acc, a, u, e⟩, fun v H' y => ?_⟩
    obtain ⟨x1, r1, rv⟩ := wk.yld u a.hr (List.getElem?_eq_getElem hlt) y
    obtain ⟨mk2, e2, a2⟩ := a.move hp x1 r1
    rw [List.drop_eq_getElem_cons hlt] at e
    simp only [lcGo2] at e
    have e3 : mk2 = mk := (mark_inj e2).symm
    subst e3
    split at e
    · rename_i r h2 ef
      have hl := lcGo2_len e
      rw [List.length_append] at hl
      exact hb _ _ _ _ _ _ _ _ _ a2 (u.trans x1.up) rv ef hl fun mk2 H2 a3 u3 => ⟨mk2, h2, acc ++ r, a3, u3, e⟩
    · cases e
    · cases e
  · have e1 : i = xs.length := by omega
    subst e1
    rw [List.drop_length] at e
    cases e
    exact .inl ⟨wk.stop u a.hr rfl, fin mk H a u⟩

section
variable {X : Cx}
/-- a comprehension's turn, of one for -/
abbrev lcF (g : G) (own : List Nat) (dt : Sl → Hy → R Bool) (de : Dn) (sl : Sl) : D → Hy → R (Option D) := fun x h => match g.put x (wipe sl own) with
  | some sl' => (dt sl' h).bind fun k h => match k with
    | true => (de sl' h).bind fun d h => .ok (some d) h
    | false => .ok none h
  | none => .no
theorem lcF_ok {g : G} {own : List Nat} {dt : Sl → Hy → R Bool} {de : Dn} {sl : Sl} {x : D} {h h2 : Hy} {r : List D} (e : (lcF g own dt de sl x h).bind (fun o h => R.ok o.toList h) = .ok r h2) :
    ∃ sl' k h1, g.put x (wipe sl own) = some sl' ∧ dt sl' h = .ok k h1 ∧ ((k = true ∧ ∃ d, de sl' h1 = .ok d h2 ∧ r = [d]) ∨ (k = false ∧ r = [] ∧ h2 = h1)) := by
  obtain ⟨o, h3, e1, e2⟩ := R.bind_ok e
  cases e2
  unfold lcF at e1
  split at e1
  · rename_i sl' ep
    obtain ⟨k, h1, e3, e4⟩ := R.bind_ok e1
    refine ⟨sl', k, h1, ep, e3, ?_⟩
    cases k with
    | true =>
      obtain ⟨d, h5, e5, e6⟩ := R.bind_ok e4
      cases e6
      exact .inl ⟨rfl, d, e5, rfl⟩
    | false =>
      cases e4
      exact .inr ⟨rfl, rfl, rfl⟩
  · cases e1
/-- what a turn is to bring -/
abbrev lcB (g : G) (own : List Nat) (dt : Sl → Hy → R Bool) (de : Dn) (p : Addr) (σ : L2.St) (Nx : Hp → Prop) (v : V) (H : Hp) : Prop :=
  gT g v (L2.wipe σ own) H fun σ2 H2 => L2.wipe σ2 own = L2.wipe σ own ∧ TB dt σ2 H2 fun b H3 => if b = true then T false de σ2 H3 fun y H4 => ∃ acc, H4 p = some (.lst acc) ∧ acc.length < sizeLine ∧ Nx (upd H4 p (.lst (acc ++ [y]))) else Nx H3
theorem lc_body {m mk : Ms} {H1 H : Hp} {p : Addr} {g : G} {own : List Nat} {dt : Sl → Hy → R Bool} {de : Dn} {sl : Sl} {σ : L2.St} {h h2 : Hy} {acc r : List D} {x : D} {v : V} {Nx : Hp → Prop} (hp : H1 p = none) (hsub : ∀ i ∈ g.idx, i ∈ own)
    (a : Acc m H1 p mk H h acc) (sr : SRep (mk.mark p) H sl σ) (rv : Rep (mk.mark p) H x v) (e : (lcF g own dt de sl x h).bind (fun o h => R.ok o.toList h) = .ok r h2) (hl : acc.length + r.length ≤ lim)
    (nx : ∀ mk2 H2, Acc m H1 p mk2 H2 h2 (acc ++ r) → Up (mk.mark p) (mk2.mark p) H H2 → Nx H2) : lcB g own dt de p σ Nx v H := by
  obtain ⟨sl', k, h1, e1, e2, e3⟩ := lcF_ok e
  refine ⟨mk.mark p, wipe sl own, h, x, sl', a.hr, sr.wipe own, rv, e1, fun σ' sr' o' => ⟨?_, ?_⟩⟩
  · rw [o'.wipe hsub]
    exact wipe_wipe σ own
  · refine TB.to a.hr sr' e2 fun m3 H3 x3 hr3 sr3 => ?_
    obtain ⟨mk3, em3, a3⟩ := a.move hp x3 hr3
    subst em3
    rcases e3 with ⟨rfl, d, e4, rfl⟩ | ⟨rfl, rfl, rfl⟩
    · rw [if_pos rfl]
      refine T.to hr3 sr3 e4 fun y m4 H4 x4 hr4 sr4 ry _ => ?_
      obtain ⟨mk4, em4, a4⟩ := a3.move hp x4 hr4
      subst em4
      obtain ⟨vs, ev, qv⟩ := a4.at_
      have hv := qv.length
      refine ⟨vs, ev, ?_, nx mk4 _ (a4.push hp ev ry) ((x3.up.trans x4.up).trans ⟨List.prefix_refl _, fun b hb => .inl hb, fun b o eb nb => off_upd (.inr (List.mem_cons_self ..)) b o nb eb⟩)⟩
      have : [d].length = 1 := rfl
      have h9 := lim_le hl
      rw [this] at h9
      omega
    · rw [if_neg (by decide)]
      exact nx mk3 H3 (by rw [List.append_nil]; exact a3) x3.up
theorem lc_T {σ : L2.St} {H : Hp} {Q : VK} {own : List Nat} {dI : Dns} {g : G} {dt : Sl → Hy → R Bool} {de : Dn} (hsub : ∀ i ∈ g.idx, i ∈ own)
    (t : T true (fun sl h => (dI sl h).bind fun xs h => (lcGo (lcF g own dt de sl) xs [] h).bind fun ds h => mkL ds h) σ H Q) : tLc (TI dI) (gT g) (TB dt) (T false de) own σ H Q := by
  obtain ⟨m, sl, h, d, h', hr, sr, e, q⟩ := t
  obtain ⟨xs, h1, e1, ea⟩ := R.bind_ok e
  obtain ⟨ds, h2, e2, eb⟩ := R.bind_ok ea
  obtain ⟨hl, rfl, rfl⟩ := mkL_ok eb
  refine ⟨m, sl, h, xs, h1, hr, sr, e1, fun J m1 H1 x1 hr1 wk p hp => ?_⟩
  rw [lcGo_eq] at e2
  refine lc_turns (body := lcB g own dt de p σ) hp wk (fun mk H2 a u => ?_) (fun Nx mk H2 h3 h4 acc r x v a u rv ef hle nx => ?_) (Acc.start hp hr1) ((Acc.start hp hr1).up hp) e2
  · obtain ⟨k1, k2⟩ := a.done hr1 hp
    exact q _ mk H2 (x1.trans a.ext) k1 k2 (fresh_at (x1.back hp (hr1.nin hp)) a.hr)
  · exact lc_body hp hsub a ((sr.ext x1).up (a.up hp)) rv ef (Nat.le_trans hle hl) fun mk2 H3 a2 u2 => nx mk2 H3 a2 (u.trans u2)
end
end Z

end

section
set_option Elab.async false
set_option linter.all false
set_option maxRecDepth 100000
set_option autoImplicit false
/-! Z: comprehensions of two fors. -/
namespace Z
open PySem PySem.Spec PyProof.Rows L2
section
variable {X : Cx}
abbrev lcF2 (g : G) (own : List Nat) (dt : Sl → Hy → R Bool) (dI1 : Dns) (g1 : G) (own1 : List Nat) (dt1 : Sl → Hy → R Bool) (de : Dn) (sl : Sl) : D → Hy → R (List D) := fun x h => match g.put x (wipe sl own) with
  | some sl' => (dt sl' h).bind fun k h => match k with
    | true => (dI1 sl' h).bind fun ys h => lcGo (lcF g1 own1 dt1 de sl') ys [] h
    | false => .ok [] h
  | none => .no
theorem lcF2_ok {g g1 : G} {own own1 : List Nat} {dt dt1 : Sl → Hy → R Bool} {dI1 : Dns} {de : Dn} {sl : Sl} {x : D} {h h2 : Hy} {r : List D} (e : lcF2 g own dt dI1 g1 own1 dt1 de sl x h = .ok r h2) :
    ∃ sl' k h1, g.put x (wipe sl own) = some sl' ∧ dt sl' h = .ok k h1 ∧ ((k = true ∧ ∃ ys h3, dI1 sl' h1 = .ok ys h3 ∧ lcGo (lcF g1 own1 dt1 de sl') ys [] h3 = .ok r h2) ∨ (k = false ∧ r = [] ∧ h2 = h1)) := by
  unfold lcF2 at e
  split at e
  · rename_i sl' ep
    obtain ⟨k, h1, e3, e4⟩ := R.bind_ok e
    refine ⟨sl', k, h1, ep, e3, ?_⟩
    cases k with
    | true =>
      obtain ⟨d, h5, e5, e6⟩ := R.bind_ok e4
      exact .inl ⟨rfl, d, h5, e5, e6⟩
    | false =>
      cases e4
      exact .inr ⟨rfl, rfl, rfl⟩
  · cases e
theorem lc2_T {σ : L2.St} {H : Hp} {Q : VK} {own vs1 : List Nat} {dI dI1 : Dns} {g g1 : G} {dt dt1 : Sl → Hy → R Bool} {de : Dn} (hsub : ∀ i ∈ g.idx, i ∈ own) (hsub1 : ∀ i ∈ g1.idx, i ∈ vs1)
    (t : T true (fun sl h => (dI sl h).bind fun xs h => (lcGo2 (lcF2 g own dt dI1 g1 vs1 dt1 de sl) xs [] h).bind fun ds h => mkL ds h) σ H Q) : tLc2 (TI dI) (gT g) (TB dt) (TI dI1) (gT g1) (TB dt1) (T false de) own vs1 σ H Q := by
  obtain ⟨m, sl, h, d, h', hr, sr, e, q⟩ := t
  obtain ⟨xs, h1, e1, ea⟩ := R.bind_ok e
  obtain ⟨ds, h2, e2, eb⟩ := R.bind_ok ea
  obtain ⟨hl, rfl, rfl⟩ := mkL_ok eb
  refine ⟨m, sl, h, xs, h1, hr, sr, e1, fun J m1 H1 x1 hr1 wk p hp => ?_⟩
  refine lc_turns (body := fun Nx v H => gT g v (L2.wipe σ own) H fun σ2 H2 => L2.wipe σ2 own = L2.wipe σ own ∧ TB dt σ2 H2 fun b H3 => if b = true then TI dI1 σ2 H3 fun J1 H4 =>
      ∃ W1 : Nat → Nat → Hp → Prop, (∃ m, W1 0 m H4) ∧ ∀ j k H, W1 j k H → (J1.stop j H ∧ Nx H) ∨ (J1.go j H ∧ ∃ Nx1 : Hp → Prop, (∀ H', Nx1 H' → ∃ k', k' < k ∧ W1 (j + 1) k' H') ∧ ∀ x H', J1.yld j H x H' → lcB g1 vs1 dt1 de p σ2 Nx1 x H') else Nx H3) hp wk (fun mk H2 a u => ?_) (fun Nx mk H2 h3 h4 acc r x v a u rv ef hle nx => ?_) (Acc.start hp hr1) ((Acc.start hp hr1).up hp) e2
  · obtain ⟨k1, k2⟩ := a.done hr1 hp
    exact q _ mk H2 (x1.trans a.ext) k1 k2 (fresh_at (x1.back hp (hr1.nin hp)) a.hr)
  · obtain ⟨sl', k, h5, f1, f2, f3⟩ := lcF2_ok ef
    have sr2 : SRep (mk.mark p) H2 sl σ := (sr.ext x1).up (a.up hp)
    refine ⟨mk.mark p, wipe sl own, h3, x, sl', a.hr, sr2.wipe own, rv, f1, fun σ' sr' o' => ⟨?_, ?_⟩⟩
    · rw [o'.wipe hsub]
      exact wipe_wipe σ _
    · refine TB.to a.hr sr' f2 fun m3 H3 x3 hr3 sr3 => ?_
      obtain ⟨mk3, em3, a3⟩ := a.move hp x3 hr3
      subst em3
      rcases f3 with ⟨rfl, ys, h6, f4, f5⟩ | ⟨rfl, rfl, rfl⟩
      · rw [if_pos rfl]
        refine ⟨mk3.mark p, sl', h5, ys, h6, hr3, sr3, f4, fun J1 m4 H4 x4 hr4 wk4 => ?_⟩
        obtain ⟨mk4, em4, a4⟩ := a3.move hp x4 hr4
        subst em4
        rw [lcGo_eq] at f5
        have f6 := lcGo2_acc (f := fun x h => (lcF g1 vs1 dt1 de sl' x h).bind fun o h => R.ok o.toList h) acc ys [] h6
        rw [f5, List.append_nil] at f6
        have f7 : lcGo2 (fun x h => (lcF g1 vs1 dt1 de sl' x h).bind fun o h => R.ok o.toList h) ys acc h6 = .ok (acc ++ r) h4 := f6
        refine lc_turns (body := lcB g1 vs1 dt1 de p σ') hp wk4 (fun mk5 H5 a5 u5 => ?_) (fun Nx1 mk5 H5 h7 h8 acc5 r5 x5 v5 a5 u5 rv5 ef5 hle5 nx5 => ?_) a4 Up.refl f7
        · exact nx mk5 H5 a5 (u.trans (x3.up.trans (x4.up.trans u5)))
        · refine lc_body hp hsub1 a5 ((sr3.ext x4).up u5) rv5 ef5 ?_ fun mk6 H6 a6 u6 => nx5 mk6 H6 a6 (u5.trans u6)
          rw [List.length_append] at hle5
          omega
      · rw [if_neg (by decide)]
        exact nx mk3 H3 (by rw [List.append_nil]; exact a3) (u.trans x3.up)
end
end Z

end

section
set_option Elab.async false
set_option linter.all false
set_option maxRecDepth 100000
set_option autoImplicit false
/-! Z: statements. -/
namespace Z
open PySem PySem.Spec PyProof.Rows L2

/-- what is wanted behind a statement that ends so -/
def FlQ (D : Ends) (m : Ms) (H : Hp) : Fl → Prop
  | .nx sl => ∀ σ, SRep m H sl σ → D.nx σ H
  | .bk sl => ∀ σ, SRep m H sl σ → D.bk σ H
  | .ct sl => ∀ σ, SRep m H sl σ → D.ct σ H
  | .rt d => ∀ v, Rep m H d v → D.rt v H
abbrev Dnf := Sl → Hy → R Fl
def TS (dn : Dnf) : L2.TS := fun D σ H => ∃ m sl h f h', HRep m H h ∧ SRep m H sl σ ∧ dn sl h = .ok f h' ∧ ∀ m' H', Ext m m' H H' → HRep m' H' h' → FlQ D m' H' f
theorem _root_.L2.PS.mono {X : Cx} {e : Stmt} {t t' : L2.TS} (h : PS X e t) (w : ∀ D σ H, t' D σ H → t D σ H) : PS X e t' := ⟨fun pins s σ H D I q => h.run pins s σ H D I (w _ _ _ q)⟩
theorem _root_.L2.PSs.mono {X : Cx} {e : List Stmt} {t t' : L2.TS} (h : PSs X e t) (w : ∀ D σ H, t' D σ H → t D σ H) : PSs X e t' := ⟨fun pins s σ H D I q => h.run pins s σ H D I (w _ _ _ q)⟩
theorem TS.to {dn : Dnf} {D : Ends} {m : Ms} {H : Hp} {h h' : Hy} {sl : Sl} {σ : L2.St} {f : Fl} (hr : HRep m H h) (sr : SRep m H sl σ) (e : dn sl h = .ok f h') (q : ∀ m' H', Ext m m' H H' → HRep m' H' h' → FlQ D m' H' f) : TS dn D σ H :=
  ⟨m, sl, h, f, h', hr, sr, e, q⟩
theorem nxt_ok {o : Option Sl} {h h' : Hy} {f : Fl} (e : nxt o h = .ok f h') : ∃ sl, o = some sl ∧ f = .nx sl ∧ h' = h := by
  cases o with
  | none => cases e
  | some sl => cases e; exact ⟨sl, rfl, rfl, rfl⟩
theorem put1_ok {sl sl' : Sl} {i : Nat} {d : D} (e : put1 sl i d = some sl') : i < sl.length ∧ sl' = sl.set i (some d) := by
  unfold put1 at e
  split at e
  · cases e; exact ⟨by assumption, rfl⟩
  · cases e
theorem gT_nm {i : Nat} {v : V} {σ : L2.St} {H : Hp} {Q : L2.St → Hp → Prop} (t : gT (.nm i) v σ H Q) : gName i v σ H Q := by
  obtain ⟨m, sl, h, d, sl', hr, sr, rv, e, q⟩ := t
  simp only [G.put] at e
  split at e
  · cases e
    exact q _ (sr.set rv) ⟨by rw [List.length_set], fun j hj => by rw [List.getElem?_set_ne (fun z => hj (by simp [G.idx, z]))]⟩
  · cases e
section
variable {X : Cx} {st : Stmt} {te : TE} {dn : Dn} {fr : Bool}
/-- target = e -/
theorem s_asg {g : G} (h : PS X st (tAsg te (gT g))) (w : ∀ σ H Q, T fr dn σ H Q → te σ H Q) : PS X st (TS fun sl h => (dn sl h).bind fun x h => nxt (g.put x sl) h) := by
  refine h.mono fun D σ H t => ?_
  obtain ⟨m, sl, h, f, h', hr, sr, e, q⟩ := t
  obtain ⟨x, h1, e1, e2⟩ := R.bind_ok e
  obtain ⟨sl', e3, rfl, rfl⟩ := nxt_ok e2
  exact w _ _ _ (T.to hr sr e1 fun v m1 H1 x1 hr1 sr1 rv _ => ⟨m1, sl, _, x, sl', hr1, sr1, rv, e3, fun σ' sr' _ => q m1 H1 x1 hr1 σ' sr'⟩)
theorem s_set {i : Nat} (h : PS X st (tAsg te (gName i))) (w : ∀ σ H Q, T fr dn σ H Q → te σ H Q) : PS X st (TS fun sl h => (dn sl h).bind fun x h => nxt ((G.nm i).put x sl) h) := by
  refine h.mono fun D σ H t => ?_
  obtain ⟨m, sl, h, f, h', hr, sr, e, q⟩ := t
  obtain ⟨x, h1, e1, e2⟩ := R.bind_ok e
  obtain ⟨sl', e3, rfl, rfl⟩ := nxt_ok e2
  exact w _ _ _ (T.to hr sr e1 fun v m1 H1 x1 hr1 sr1 rv _ => gT_nm ⟨m1, sl, _, x, sl', hr1, sr1, rv, e3, fun σ' sr' _ => q m1 H1 x1 hr1 σ' sr'⟩)
end

/-! ### a list that will be changed -/
theorem nodup_get {α : Type} : ∀ {l : List α} {i j : Nat} {a : α}, l.Nodup → l[i]? = some a → l[j]? = some a → i = j
  | [], i, j, a, _, h, _ => by simp at h
  | x :: l, 0, 0, a, _, _, _ => rfl
  | x :: l, 0, j + 1, a, nd, h1, h2 => by
    simp at h1; subst h1
    rw [List.getElem?_cons_succ] at h2
    exact absurd (List.mem_of_getElem? h2) (List.nodup_cons.mp nd).1
  | x :: l, i + 1, 0, a, nd, h1, h2 => by
    simp at h2; subst h2
    rw [List.getElem?_cons_succ] at h1
    exact absurd (List.mem_of_getElem? h1) (List.nodup_cons.mp nd).1
  | x :: l, i + 1, j + 1, a, nd, h1, h2 => by
    rw [List.getElem?_cons_succ] at h1 h2
    rw [nodup_get (List.nodup_cons.mp nd).2 h1 h2]
theorem DHo.uniq {t t' : Bool} {u : HO} {ks ks' : List D} {ws ws' : List V} (h : DHo t u ks ws) (h' : DHo t' u ks' ws') : t = t' ∧ ks = ks' ∧ ws = ws' := by
  cases t <;> cases t'
  · obtain ⟨a, rfl, rfl, rfl⟩ := h
    obtain ⟨b, e, rfl, rfl⟩ := h'
    cases e; exact ⟨rfl, rfl, rfl⟩
  · obtain ⟨a, rfl, rfl, rfl⟩ := h
    obtain ⟨b, e, rfl, rfl⟩ := h'
    cases e
  · obtain ⟨a, rfl, rfl, rfl⟩ := h
    obtain ⟨b, e, rfl, rfl⟩ := h'
    cases e
  · obtain ⟨a, rfl, rfl, rfl⟩ := h
    obtain ⟨b, e, rfl, rfl⟩ := h'
    cases e; exact ⟨rfl, rfl, rfl⟩
theorem map_inj' {α β : Type} {f : α → β} (hf : ∀ x y, f x = f y → x = y) : ∀ {xs ys : List α}, xs.map f = ys.map f → xs = ys
  | [], [], _ => rfl
  | [], _ :: _, e => by cases e
  | _ :: _, [], e => by cases e
  | x :: xs, y :: ys, e => by
    rw [List.map_cons, List.map_cons] at e
    obtain ⟨e1, e2⟩ := List.cons.inj e
    rw [hf _ _ e1, map_inj' hf e2]
mutual
theorem Rep.uniq {m : Ms} {H : Hp} (nd : m.l.Nodup) : ∀ (d d' : D) (v : V), Rep m H d v → Rep m H d' v → d = d'
  | .non, d', v, r, r' => by cases r; cases d' <;> simp [Rep] at r' ⊢
  | .bl b, d', v, r, r' => by cases r; cases d' <;> simp [Rep] at r' ⊢ <;> exact r'
  | .int b, d', v, r, r' => by cases r; cases d' <;> simp [Rep] at r' ⊢ <;> exact r'
  | .str b, d', v, r, r' => by cases r; cases d' <;> simp [Rep] at r' ⊢ <;> exact r'
  | .dct t ks ds, d', v, r, r' => by
    obtain ⟨a, o, u, ws, rfl, nb, ha, hd, hv⟩ := r
    cases d' with
    | dct t' ks' ds' =>
      obtain ⟨a', o', u', ws', e, _, ha', hd', hv'⟩ := r'
      cases e
      rw [ha] at ha'; cases ha'
      obtain ⟨rfl, rfl, rfl⟩ := hd.uniq hd'
      rw [Reps.uniq nd ds ds' ws hv hv']
    | tup ys => obtain ⟨a', vs', e, _, ha', _⟩ := r'; cases e; rw [ha] at ha'; cases ha'
    | lst ys => obtain ⟨a', vs', e, _, ha', _⟩ := r'; cases e; rw [ha] at ha'; cases ha'
    | loc n => obtain ⟨a', e, k⟩ := r'; cases e; exact absurd (.inl (List.mem_of_getElem? k)) nb
    | lsi _ => obtain ⟨a', o', e, nb', ha'⟩ := r'; cases e; rw [ha] at ha'; cases ha'; cases t <;> (obtain ⟨_, z, _⟩ := hd; cases z)
    | non => cases r'
    | bl _ => cases r'
    | int _ => cases r'
    | str _ => cases r'
  | .tup xs, d', v, r, r' => by
    obtain ⟨a, vs, rfl, nb, ha, hv⟩ := r
    cases d' with
    | tup ys =>
      obtain ⟨a', vs', e, _, ha', hv'⟩ := r'
      cases e
      rw [ha] at ha'; cases ha'
      rw [Reps.uniq nd xs ys vs hv hv']
    | lst ys => obtain ⟨a', vs', e, _, ha', _⟩ := r'; cases e; rw [ha] at ha'; cases ha'
    | loc n => obtain ⟨a', e, k⟩ := r'; cases e; exact absurd (.inl (List.mem_of_getElem? k)) nb
    | dct _ _ _ => obtain ⟨a', _, _, _, e, _, ha', _⟩ := r'; cases e; rw [ha] at ha'; cases ha'
    | lsi _ => obtain ⟨a', o', e, nb', ha'⟩ := r'; cases e; first | (rw [ha] at ha'; cases ha') | (exact absurd (.inl (List.mem_of_getElem? k)) nb')
    | non => cases r'
    | bl _ => cases r'
    | int _ => cases r'
    | str _ => cases r'
  | .lst xs, d', v, r, r' => by
    obtain ⟨a, vs, rfl, nb, ha, hv⟩ := r
    cases d' with
    | lst ys =>
      obtain ⟨a', vs', e, _, ha', hv'⟩ := r'
      cases e
      rw [ha] at ha'; cases ha'
      rw [Reps.uniq nd xs ys vs hv hv']
    | tup ys => obtain ⟨a', vs', e, _, ha', _⟩ := r'; cases e; rw [ha] at ha'; cases ha'
    | loc n => obtain ⟨a', e, k⟩ := r'; cases e; exact absurd (.inl (List.mem_of_getElem? k)) nb
    | dct _ _ _ => obtain ⟨a', _, _, _, e, _, ha', _⟩ := r'; cases e; rw [ha] at ha'; cases ha'
    | lsi _ => obtain ⟨a', o', e, nb', ha'⟩ := r'; cases e; first | (rw [ha] at ha'; cases ha') | (exact absurd (.inl (List.mem_of_getElem? k)) nb')
    | non => cases r'
    | bl _ => cases r'
    | int _ => cases r'
    | str _ => cases r'
  | .loc n, d', v, r, r' => by
    obtain ⟨a, rfl, k⟩ := r
    cases d' with
    | loc n' =>
      obtain ⟨a', e, k'⟩ := r'
      cases e
      rw [nodup_get nd k k']
    | tup ys => obtain ⟨a', vs', e, nb, _⟩ := r'; cases e; exact absurd (.inl (List.mem_of_getElem? k)) nb
    | lst ys => obtain ⟨a', vs', e, nb, _⟩ := r'; cases e; exact absurd (.inl (List.mem_of_getElem? k)) nb
    | dct _ _ _ => obtain ⟨a', _, _, _, e, nb, _⟩ := r'; cases e; exact absurd (.inl (List.mem_of_getElem? k)) nb
    | lsi _ => obtain ⟨a', o', e, nb', ha'⟩ := r'; cases e; first | (rw [ha] at ha'; cases ha') | (exact absurd (.inl (List.mem_of_getElem? k)) nb')
    | non => cases r'
    | bl _ => cases r'
    | int _ => cases r'
    | str _ => cases r'
  | .lsi ns, d', v, r, r' => by
    obtain ⟨a, o, rfl, nb, ha⟩ := r
    cases d' with
    | lsi ms =>
      obtain ⟨a', o', e, _, ha'⟩ := r'
      cases e
      rw [ha] at ha'
      have e := HO.lst.inj (HO.frz.inj (Option.some.inj ha')).2
      have e2 : ns = ms := map_inj' (fun x y h => V.int.inj h) e
      rw [e2]
    | tup ys => obtain ⟨a', vs', e, _, ha', _⟩ := r'; cases e; rw [ha] at ha'; cases ha'
    | lst ys => obtain ⟨a', vs', e, _, ha', _⟩ := r'; cases e; rw [ha] at ha'; cases ha'
    | loc n => obtain ⟨a', e, k⟩ := r'; cases e; exact absurd (.inl (List.mem_of_getElem? k)) nb
    | dct t' _ _ => obtain ⟨a', _, _, _, e, _, ha', hd', _⟩ := r'; cases e; rw [ha] at ha'; cases ha'; cases t' <;> (obtain ⟨_, z, _⟩ := hd'; cases z)
    | non => cases r'
    | bl _ => cases r'
    | int _ => cases r'
    | str _ => cases r'
theorem Reps.uniq {m : Ms} {H : Hp} (nd : m.l.Nodup) : ∀ (xs ys : List D) (vs : List V), Reps m H xs vs → Reps m H ys vs → xs = ys
  | [], [], vs, r, r' => rfl
  | [], _ :: _, vs, r, r' => by obtain ⟨v, u, e, _⟩ := r'; rw [r] at e; cases e
  | _ :: _, [], vs, r, r' => by obtain ⟨v, u, e, _⟩ := r; rw [r'] at e; cases e
  | x :: xs, y :: ys, vs, r, r' => by
    obtain ⟨v, u, rfl, k1, k2⟩ := r
    obtain ⟨v', u', e, k3, k4⟩ := r'
    cases e
    rw [Rep.uniq nd x y v k1 k3, Reps.uniq nd xs ys u k2 k4]
end
abbrev Ms.more (m : Ms) (p : Addr) : Ms := ⟨m.l ++ [p], m.g⟩
section
variable {m : Ms} {H : Hp} {h : Hy} {p : Addr} {vs0 : List V} {xs0 : List D}
mutual
/-- what is no bigger than the list at p doesn't lean on it -/
theorem Rep.less_than (nd : m.l.Nodup) (hp : H p = some (.lst vs0)) (r0 : Reps m H xs0 vs0) : ∀ (d : D) (v : V), Rep m H d v → sizeOf d < sizeOf (D.lst xs0) → Rep (m.more p) H d v
  | .non, _, r, _ => r
  | .bl _, _, r, _ => r
  | .int _, _, r, _ => r
  | .str _, _, r, _ => r
  | .dct t ks ds, v, r, hs => by
    obtain ⟨a, o, u, ws, rfl, nb, ha, hd, hv⟩ := r
    refine ⟨a, o, u, ws, rfl, fun z => ?_, ha, hd, Reps.less_than nd hp r0 ds ws hv (by simp at hs ⊢; omega)⟩
    rcases z with z | z
    · rcases List.mem_append.mp z with z | z
      · exact nb (.inl z)
      · rw [List.mem_singleton.mp z, hp] at ha; cases ha
    · exact nb (.inr z)
  | .tup xs, v, r, hs => by
    obtain ⟨a, vs, rfl, nb, ha, hv⟩ := r
    refine ⟨a, vs, rfl, fun z => ?_, ha, Reps.less_than nd hp r0 xs vs hv (by simp at hs ⊢; omega)⟩
    rcases z with z | z
    · rcases List.mem_append.mp z with z | z
      · exact nb (.inl z)
      · rw [List.mem_singleton.mp z, hp] at ha; cases ha
    · exact nb (.inr z)
  | .lst xs, v, r, hs => by
    obtain ⟨a, vs, rfl, nb, ha, hv⟩ := r
    refine ⟨a, vs, rfl, fun z => ?_, ha, Reps.less_than nd hp r0 xs vs hv (by simp at hs ⊢; omega)⟩
    rcases z with z | z
    · rcases List.mem_append.mp z with z | z
      · exact nb (.inl z)
      · have e := List.mem_singleton.mp z
        subst e
        rw [hp] at ha; cases ha
        rw [Reps.uniq nd xs xs0 vs0 hv r0] at hs
        exact Nat.lt_irrefl _ hs
    · exact nb (.inr z)
  | .loc n, v, r, _ => by
    obtain ⟨a, rfl, k⟩ := r
    exact ⟨a, rfl, prefix_get (List.prefix_append _ _) k⟩
  | .lsi ns, v, r, _ => by
    obtain ⟨a, o, rfl, nb, ha⟩ := r
    refine ⟨a, o, rfl, fun z => ?_, ha⟩
    rcases z with z | z
    · rcases List.mem_append.mp z with z | z
      · exact nb (.inl z)
      · rw [List.mem_singleton.mp z, hp] at ha; cases ha
    · exact nb (.inr z)
theorem Reps.less_than (nd : m.l.Nodup) (hp : H p = some (.lst vs0)) (r0 : Reps m H xs0 vs0) : ∀ (ds : List D) (vs : List V), Reps m H ds vs → sizeOf ds < sizeOf (D.lst xs0) → Reps (m.more p) H ds vs
  | [], _, r, _ => r
  | d :: ds, vs, r, hs => by
    obtain ⟨v, u, rfl, k1, k2⟩ := r
    exact ⟨v, u, rfl, Rep.less_than nd hp r0 d v k1 (by simp at hs ⊢; omega), Reps.less_than nd hp r0 ds u k2 (by simp at hs ⊢; omega)⟩
end
mutual
/-- what is not to lean on p, leans not on it when it is numbered -/
theorem Rep.number : ∀ (d : D) (v : V), Rep (m.mark p) H d v → Rep (m.more p) H d v
  | .non, _, r => r
  | .bl _, _, r => r
  | .int _, _, r => r
  | .str _, _, r => r
  | .dct t ks ds, v, r => by
    obtain ⟨a, o, u, ws, rfl, nb, ha, hd, hv⟩ := r
    refine ⟨a, o, u, ws, rfl, fun z => ?_, ha, hd, Reps.number ds ws hv⟩
    rcases z with z | z
    · rcases List.mem_append.mp z with z | z
      · exact nb (.inl z)
      · exact nb (.inr (by rw [List.mem_singleton.mp z]; exact List.mem_cons_self ..))
    · exact nb (.inr (List.mem_cons_of_mem _ z))
  | .tup xs, v, r => by
    obtain ⟨a, vs, rfl, nb, ha, hv⟩ := r
    refine ⟨a, vs, rfl, fun z => ?_, ha, Reps.number xs vs hv⟩
    rcases z with z | z
    · rcases List.mem_append.mp z with z | z
      · exact nb (.inl z)
      · exact nb (.inr (by rw [List.mem_singleton.mp z]; exact List.mem_cons_self ..))
    · exact nb (.inr (List.mem_cons_of_mem _ z))
  | .lst xs, v, r => by
    obtain ⟨a, vs, rfl, nb, ha, hv⟩ := r
    refine ⟨a, vs, rfl, fun z => ?_, ha, Reps.number xs vs hv⟩
    rcases z with z | z
    · rcases List.mem_append.mp z with z | z
      · exact nb (.inl z)
      · exact nb (.inr (by rw [List.mem_singleton.mp z]; exact List.mem_cons_self ..))
    · exact nb (.inr (List.mem_cons_of_mem _ z))
  | .loc n, v, r => by
    obtain ⟨a, rfl, k⟩ := r
    exact ⟨a, rfl, prefix_get (List.prefix_append _ _) k⟩
  | .lsi ns, v, r => by
    obtain ⟨a, o, rfl, nb, ha⟩ := r
    refine ⟨a, o, rfl, fun z => ?_, ha⟩
    rcases z with z | z
    · rcases List.mem_append.mp z with z | z
      · exact nb (.inl z)
      · exact nb (.inr (by rw [List.mem_singleton.mp z]; exact List.mem_cons_self ..))
    · exact nb (.inr (List.mem_cons_of_mem _ z))
theorem Reps.number : ∀ (ds : List D) (vs : List V), Reps (m.mark p) H ds vs → Reps (m.more p) H ds vs
  | [], _, r => r
  | d :: ds, vs, r => by
    obtain ⟨v, u, rfl, k1, k2⟩ := r
    exact ⟨v, u, rfl, Rep.number d v k1, Reps.number ds u k2⟩
end
/-- the new list at p gets the next number -/
theorem HRep.number (r : HRep (m.mark p) H h) (ng : p ∉ m.g) (hp : H p = some (.lst vs0)) (r0 : Reps m H xs0 vs0) : HRep (m.more p) H (h ++ [.l xs0]) := by
  have np : p ∉ m.l := (r.dj p (List.mem_cons_self ..)).1
  have nd : m.l.Nodup := r.nd
  have rlen : m.l.length = h.length := r.len
  refine ⟨List.nodup_append.mpr ⟨nd, List.nodup_cons.mpr ⟨by simp, List.nodup_nil⟩, fun a ha b hb e => np (by rw [List.mem_singleton.mp hb] at e; exact e ▸ ha)⟩, by rw [List.length_append, List.length_append, rlen]; rfl, fun n o a h1 h2 => ?_, fun a ha => ?_⟩
  · by_cases hn : n < h.length
    · rw [List.getElem?_append_left hn] at h1
      rw [List.getElem?_append_left (by rw [rlen]; exact hn)] at h2
      have q := r.ob n o a h1 h2
      cases o with
      | l xs => obtain ⟨vs, e, q⟩ := q; exact ⟨vs, e, Reps.number xs vs q⟩
      | d t ks vs => obtain ⟨u, ws, e, hd, q⟩ := q; exact ⟨u, ws, e, hd, Reps.number vs ws q⟩
    · rw [List.getElem?_append_right (by omega)] at h1
      rw [List.getElem?_append_right (by rw [rlen]; omega)] at h2
      have e0 : n - h.length = 0 := by
        have := (List.getElem?_eq_some_iff.mp h1).1
        simp at this
        omega
      rw [e0] at h1
      rw [rlen, e0] at h2
      cases h1; cases h2
      exact ⟨vs0, hp, Reps.less_than nd hp r0 xs0 vs0 r0 (by simp)⟩
  · have q := r.dj a (List.mem_cons_of_mem _ ha)
    refine ⟨fun z => ?_, q.2⟩
    rcases List.mem_append.mp z with z | z
    · exact q.1 z
    · exact ng (by rw [List.mem_singleton.mp z] at ha; exact ha)
end
section
variable {X : Cx} {st : Stmt} {te : TE} {dn : Dn} {fr : Bool}
/-- the new list of a fresh value is numbered -/
theorem new_list {m m1 : Ms} {H H1 : Hp} {h h1 : Hy} {xs : List D} {v : V} (hr : HRep m H h) (x1 : Ext m m1 H H1) (hr1 : HRep m1 H1 h1) (rv : Rep m1 H1 (.lst xs) v) (f : Fresh true H (.lst xs) v m1 H1 h1) :
    ∃ p, v = .ref p ∧ Ext m (m1.more p) H H1 ∧ HRep (m1.more p) H1 (h1 ++ [.l xs]) ∧ Rep (m1.more p) H1 (.loc h1.length) v := by
  obtain ⟨p, rfl, hp, mk⟩ := f rfl ⟨xs, rfl⟩
  obtain ⟨a, vs, e, nb, ha, hv⟩ := rv
  cases e
  have ng : p ∉ m1.g := fun z => by
    rw [x1.g] at z
    obtain ⟨o, ho⟩ := (hr.dj p z).2
    rw [hp] at ho; cases ho
  have l1 : m1.l.length = h1.length := hr1.len
  refine ⟨p, rfl, ⟨x1.g, x1.pre.trans (List.prefix_append _ _), fun b hb => ?_, x1.keep⟩, mk.number ng ha hv, p, rfl, ?_⟩
  · rcases List.mem_append.mp hb with z | z
    · exact x1.new b z
    · exact .inr (by rw [List.mem_singleton.mp z]; exact hp)
  · show (m1.l ++ [p])[h1.length]? = some p
    rw [List.getElem?_append_right (by omega), l1]
    simp
theorem lay_ok {x d : D} {h h' : Hy} (e : lay true x h = some (d, h')) : ∃ xs, x = .lst xs ∧ d = .loc h.length ∧ h' = h ++ [.l xs] := by
  unfold lay at e
  cases x <;> simp at e
  exact ⟨_, rfl, e.1.symm, e.2.symm⟩
/-- name = a new list that will be changed -/
theorem s_new {i : Nat} (h : PS X st (tAsg te (gName i))) (w : ∀ σ H Q, T true dn σ H Q → te σ H Q) : PS X st (TS fun sl h => (dn sl h).bind fun x h => match lay true x h with
    | some (d, h') => nxt (put1 sl i d) h'
    | none => .no) := by
  refine h.mono fun D σ H t => ?_
  obtain ⟨m, sl, h, f, h', hr, sr, e, q⟩ := t
  obtain ⟨x, h1, e1, e2⟩ := R.bind_ok e
  split at e2
  · rename_i d h2 e3
    obtain ⟨xs, rfl, rfl, rfl⟩ := lay_ok e3
    obtain ⟨sl', e4, rfl, rfl⟩ := nxt_ok e2
    obtain ⟨hi, rfl⟩ := put1_ok e4
    refine w _ _ _ (T.to hr sr e1 fun v m1 H1 x1 hr1 sr1 rv f => ?_)
    obtain ⟨p, rfl, x2, hr2, rp⟩ := new_list hr x1 hr1 rv f
    exact q _ H1 x2 hr2 _ ((sr.ext x2).set rp)
  · cases e2
end
end Z

end

section
set_option Elab.async false
set_option linter.all false
set_option maxRecDepth 100000
set_option autoImplicit false
/-! Z: statements, their forms. -/
namespace Z
open PySem PySem.Spec PyProof.Rows L2
section
variable {X : Cx} {st : Stmt} {te : TE} {dn da db dc : Dn} {fr fa fb : Bool} {a b c o k : Expr} {pos : Pos}
theorem pa_two {ta tb : TE} (hs : noStar [a, b] = true) (ha : PE X a ta) (hb : PE X b tb) : PA X [a, b] (fun σ H Q => ta σ H fun x H1 => tb σ H1 fun y H2 => Q [x, y] H2) := by
  refine (pa_cons ha (pa_cons hb pa_nil (star_cons (noStar_tl hs))) (star_cons hs)).mono fun σ H Q t => t
theorem lay_step {m m1 : Ms} {H H1 : Hp} {h h1 h2 : Hy} {x x' : D} {v : V} {k : Bool} (hk : k = true → fr = true) (hr : HRep m H h) (x1 : Ext m m1 H H1) (hr1 : HRep m1 H1 h1) (rv : Rep m1 H1 x v) (f : Fresh fr H x v m1 H1 h1) (e : lay k x h1 = some (x', h2)) :
    ∃ m2, Ext m m2 H H1 ∧ HRep m2 H1 h2 ∧ Rep m2 H1 x' v := by
  cases k with
  | false => cases e; exact ⟨m1, x1, hr1, rv⟩
  | true =>
    obtain ⟨xs, rfl, rfl, rfl⟩ := lay_ok e
    obtain ⟨p, rfl, x2, hr2, rp⟩ := new_list hr x1 hr1 rv (hk rfl ▸ f)
    exact ⟨_, x2, hr2, rp⟩
theorem s_par {i j : Nat} {k l : Bool} (hk : k = true → fa = true) (hl : l = true → fb = true) (h : PS X st (tPar i j (fun σ H Q => T fa da σ H fun x H1 => T fb db σ H1 fun y H2 => Q [x, y] H2))) :
    PS X st (TS fun sl h => (da sl h).bind fun x h => match lay k x h with
      | some (x', h') => (db sl h').bind fun y h => match lay l y h with
        | some (y', h') => nxt ((put1 sl i x').bind fun sl' => put1 sl' j y') h'
        | none => .no
      | none => .no) := by
  refine h.mono fun D σ H t => ?_
  obtain ⟨m, sl, h, f, h', hr, sr, e, q⟩ := t
  obtain ⟨x, h1, e1, e2⟩ := R.bind_ok e
  split at e2
  · rename_i x' h2 e3
    obtain ⟨y, h3, e4, e5⟩ := R.bind_ok e2
    split at e5
    · rename_i y' h4 e6
      obtain ⟨sl', e7, rfl, rfl⟩ := nxt_ok e5
      obtain ⟨sl1, e8, e9⟩ := Option.bind_eq_some_iff.mp e7
      obtain ⟨hi, rfl⟩ := put1_ok e8
      obtain ⟨hj, rfl⟩ := put1_ok e9
      refine T.to hr sr e1 fun v m1 H1 x1 hr1 sr1 rv f1 => ?_
      obtain ⟨m2, x2, hr2, rv2⟩ := lay_step hk hr x1 hr1 rv f1 e3
      refine T.to hr2 (sr.ext x2) e4 fun w m3 H3 x3 hr3 sr3 rw' f3 => ?_
      obtain ⟨m4, x4, hr4, rw4⟩ := lay_step hl hr2 x3 hr3 rw' f3 e6
      refine ⟨v, w, rfl, q m4 H3 (x2.trans x4) hr4 _ ?_⟩
      exact ((sr.ext (x2.trans x4)).set (Rep.ext x4 _ _ rv2)).set rw4
    · cases e5
  · cases e2

theorem pa_three {ta tb tc : TE} (hs : noStar [a, b, c] = true) (ha : PE X a ta) (hb : PE X b tb) (hc : PE X c tc) : PA X [a, b, c] (fun σ H Q => ta σ H fun x H1 => tb σ H1 fun y H2 => tc σ H2 fun z H3 => Q [x, y, z] H3) := by
  refine (pa_cons ha (pa_cons hb (pa_cons hc pa_nil (star_cons (noStar_tl (noStar_tl hs)))) (star_cons (noStar_tl hs))) (star_cons hs)).mono fun σ H Q t => t
theorem s_par3 {i j l : Nat} (h : PS X st (tPar3 i j l (fun σ H Q => T fa da σ H fun x H1 => T fb db σ H1 fun y H2 => T fr dc σ H2 fun z H3 => Q [x, y, z] H3))) :
    PS X st (TS fun sl h => (da sl h).bind fun x h => (db sl h).bind fun y h => (dc sl h).bind fun z h => nxt (((put1 sl i x).bind fun sl' => put1 sl' j y).bind fun sl' => put1 sl' l z) h) := by
  refine h.mono fun D σ H t => ?_
  obtain ⟨m, sl, h, f, h', hr, sr, e, q⟩ := t
  obtain ⟨x, h1, e1, e2⟩ := R.bind_ok e
  obtain ⟨y, h2, e3, e4⟩ := R.bind_ok e2
  obtain ⟨z, h3, e5, e6⟩ := R.bind_ok e4
  obtain ⟨sl', e7, rfl, rfl⟩ := nxt_ok e6
  obtain ⟨sl2, e8, e9⟩ := Option.bind_eq_some_iff.mp e7
  obtain ⟨sl1, e10, e11⟩ := Option.bind_eq_some_iff.mp e8
  obtain ⟨_, rfl⟩ := put1_ok e10
  obtain ⟨_, rfl⟩ := put1_ok e11
  obtain ⟨_, rfl⟩ := put1_ok e9
  refine T.to hr sr e1 fun u m1 H1 x1 hr1 sr1 ru _ => T.to hr1 sr1 e3 fun v m2 H2 x2 hr2 sr2 rv _ => T.to hr2 sr2 e5 fun w m3 H3 x3 hr3 sr3 rw' _ => ⟨u, v, w, rfl, q m3 H3 ((x1.trans x2).trans x3) hr3 _ ?_⟩
  exact (((sr.ext ((x1.trans x2).trans x3)).set (Rep.ext (x2.trans x3) _ _ ru)).set (Rep.ext x3 _ _ rv)).set rw'

/-! ### in place -/
def ipOk : Bo → Bool
  | .pow => false
  | _ => true
/-- ints -/
def rIp (o : Bo) : R2 := fun x y H Q => ∃ i j r, x = .int i ∧ y = .int j ∧ o.ap [] (.int i) (.int j) = .ok (.int r) [] ∧ Q (.int r) H
theorem ip_ok {o : Bo} (h : ipOk o = true) : PIp X (bop o) (rIp o) := by
  intro pins s σ H x y v u Q I rx ry hq
  obtain ⟨i, j, r, rfl, rfl, e, q⟩ := hq
  cases o with
  | add => cases e; exact iop_add pins s σ H _ _ v u Q I rx ry ⟨i, j, rfl, rfl, q⟩
  | sub => cases e; exact iop_sub pins s σ H _ _ v u Q I rx ry ⟨i, j, rfl, rfl, q⟩
  | mul =>
    simp only [Bo.ap] at e
    split at e
    · rename_i hc
      cases e
      refine iop_mul pins s σ H _ _ v u Q I rx ry ⟨i, j, rfl, rfl, ?_, q⟩
      simp only [Bool.or_eq_true, decide_eq_true_eq] at hc
      rcases hc with hc | hc
      · exact .inl ⟨by omega, by omega⟩
      · exact .inr ⟨by omega, by omega⟩
    · cases e
  | fdiv =>
    simp only [Bo.ap] at e
    split at e
    · rename_i hc
      cases e
      simp only [Bool.and_eq_true, decide_eq_true_eq] at hc
      exact iop_fdivW pins s σ H _ _ v u Q I rx ry ⟨i, j, rfl, rfl, wide_div hc.1 hc.2 (by omega) (by omega), q⟩
    · cases e
  | mod =>
    simp only [Bo.ap] at e
    split at e
    · rename_i hc
      cases e
      exact iop_mod pins s σ H _ _ v u Q I rx ry ⟨i, j, rfl, rfl, hc, q⟩
    · cases e
  | pow => cases h
theorem ap_int {o : Bo} {h h' : Hy} {i j : Int} {d : D} (e : o.ap h (.int i) (.int j) = .ok d h') : ∃ r, d = .int r ∧ h' = h ∧ o.ap [] (.int i) (.int j) = .ok (.int r) [] := by
  cases o <;> simp only [Bo.ap] at e ⊢
  · cases e; exact ⟨_, rfl, rfl, rfl⟩
  · cases e; exact ⟨_, rfl, rfl, rfl⟩
  all_goals
    split at e
    · rename_i hc
      cases e
      exact ⟨_, rfl, rfl, by rw [if_pos hc]⟩
    · cases e
theorem s_aug {i : Nat} {op : Bo} (h : PS X st (tAug i (T fr da) (rIp op))) : PS X st (TS fun sl h => match sl[i]?.bind id with
    | some (.int x) => (da sl h).bind fun y h => match y with
      | .int y => (op.ap h (.int x) (.int y)).bind fun z h => nxt (put1 sl i z) h
      | _ => .no
    | _ => .no) := by
  refine h.mono fun D σ H t => ?_
  obtain ⟨m, sl, h, f, h', hr, sr, e, q⟩ := t
  dsimp only at e
  split at e
  · rename_i x e0
    obtain ⟨y, h1, e1, e2⟩ := R.bind_ok e
    split at e2
    · rename_i y
      obtain ⟨z, h2, e3, e4⟩ := R.bind_ok e2
      obtain ⟨r, rfl, rfl, e5⟩ := ap_int e3
      obtain ⟨sl', e6, rfl, rfl⟩ := nxt_ok e4
      obtain ⟨hi, rfl⟩ := put1_ok e6
      obtain ⟨o', e7, e8⟩ := Option.bind_eq_some_iff.mp e0
      have e9 : o' = some (.int x) := e8
      subst e9
      obtain ⟨v, k1, k2⟩ := sr.val i _ e7
      cases k2
      refine ⟨_, k1, T.to hr sr e1 fun w m1 H1 x1 hr1 sr1 rw' _ => ?_⟩
      cases rw'
      exact ⟨x, y, r, rfl, rfl, e5, q m1 H1 x1 hr1 _ (sr1.set (show Rep m1 H1 (.int r) (.int r) from rfl))⟩
    · cases e2
  · cases e

/-! ### lists that are changed -/
theorem HRep.write {m : Ms} {H : Hp} {h : Hy} {n : Nat} {p : Addr} {xs : List D} {vs : List V} (r : HRep m H h) (hn : m.l[n]? = some p) (q : Reps m H xs vs) : HRep m (upd H p (.lst vs)) (h.set n (.l xs)) := by
  have bp : m.bad p := .inl (List.mem_of_getElem? hn)
  refine ⟨r.nd, by rw [List.length_set]; exact r.len, fun j ob a h1 h2 => ?_, fun a ha => ⟨(r.dj a ha).1, ?_⟩⟩
  · by_cases hj : n = j
    · subst hj
      rw [hn] at h2; cases h2
      have hl : n < h.length := by
        have := (List.getElem?_eq_some_iff.mp h1).1
        rwa [List.length_set] at this
      rw [List.getElem?_set_self hl] at h1
      cases h1
      exact ⟨vs, upd_same, Reps.off (off_upd bp) _ _ q⟩
    · rw [List.getElem?_set_ne hj] at h1
      have k := r.ob j ob a h1 h2
      have hne : a ≠ p := fun z => by
        subst z
        exact hj (nodup_get r.nd hn h2)
      cases ob with
      | l ys => obtain ⟨us, e, k⟩ := k; exact ⟨us, by rw [upd_ne hne]; exact e, Reps.off (off_upd bp) _ _ k⟩
      | d t ks vs => obtain ⟨u, ws, e, hd, k⟩ := k; exact ⟨u, ws, by rw [upd_ne hne]; exact e, hd, Reps.off (off_upd bp) _ _ k⟩
  · obtain ⟨u, hu⟩ := (r.dj a ha).2
    have hne : a ≠ p := fun z => (r.dj a ha).1 (by rw [z]; exact List.mem_of_getElem? hn)
    exact ⟨u, by rw [upd_ne hne]; exact hu⟩
theorem Ext.write {m : Ms} {H : Hp} {n : Nat} {p : Addr} {ob : HO} (hn : m.l[n]? = some p) : Ext m m H (upd H p ob) :=
  ⟨rfl, List.prefix_refl _, fun _ h => .inl h, fun a o e na => by rw [upd_ne (fun z => na (by rw [z]; exact List.mem_of_getElem? hn))]; exact e⟩
theorem loc_at {m : Ms} {H : Hp} {h : Hy} {n : Nat} {v : V} {xs : List D} (r : HRep m H h) (q : Rep m H (.loc n) v) (e : h[n]? = some (.l xs)) : ∃ p vs, v = .ref p ∧ m.l[n]? = some p ∧ H p = some (.lst vs) ∧ Reps m H xs vs := by
  obtain ⟨p, rfl, k⟩ := q
  obtain ⟨vs, h1, h2⟩ := r.ob n _ p e k
  exact ⟨p, vs, rfl, k, h1, h2⟩
theorem seti_ok {y z x : D} {sl : Sl} {h h' : Hy} {f : Fl} (e : setiGo x y z sl h = .ok f h') : (∃ n xs i j, y = .loc n ∧ z = .int i ∧ h[n]? = some (.l xs) ∧ ixN xs.length i = some j ∧ f = .nx sl ∧ h' = h.set n (.l (xs.set j x))) ∨
    ∃ n t ks vs, y = .loc n ∧ h[n]? = some (.d t ks vs) ∧ keyB t z = true ∧ ks.length < lim ∧ f = .nx sl ∧ h' = h.set n (.d t (dput z x ks vs).1 (dput z x ks vs).2) := by
  unfold setiGo at e
  split at e
  · split at e
    · rename_i e1
      split at e
      · rename_i e2
        cases e
        exact .inl ⟨_, _, _, _, rfl, rfl, e1, e2, rfl, rfl⟩
      · cases e
    · rename_i e1
      split at e
      · rename_i hc
        simp only [Bool.and_eq_true, decide_eq_true_eq] at hc
        cases e
        exact .inr ⟨_, _, _, _, rfl, e1, hc.1, hc.2, rfl, rfl⟩
      · cases e
    · cases e
  · cases e
/-- the object behind o[k] = x -/
theorem dput_ho {m : Ms} {H : Hp} {t : Bool} {u : HO} {ks vs : List D} {ws : List V} {z x : D} {y v : V} {a : Addr} (hd : DHo t u ks ws) (hv : Reps m H vs ws) (rz : Rep m H z y) (rx : Rep m H x v) (hk : keyB t z = true) (hl : ks.length < lim) (ha : H a = some u) :
    ∃ u' ws', DPut H a y v (upd H a u') ∧ DHo t u' (dput z x ks vs).1 ws' ∧ Reps m H (dput z x ks vs).2 ws' := by
  cases t with
  | false =>
    obtain ⟨kvs, rfl, rfl, rfl⟩ := hd
    obtain ⟨k, rfl⟩ := key_of_f hk
    cases rep_kD rz
    obtain ⟨h1, h2⟩ := put_rep kD_eqv (k := k) rx hv
    refine ⟨_, _, .k ha ?_, ⟨putK kvs k v, rfl, h1, rfl⟩, h2⟩
    rw [List.length_map] at hl
    rw [sizeLine_eq]
    have : lim = 1000000 := rfl
    omega
  | true =>
    obtain ⟨kvs, rfl, rfl, rfl⟩ := hd
    obtain ⟨k, rfl⟩ := key_of_t hk
    obtain ⟨b, us, rfl, _, hb, hu⟩ := rz
    cases reps_kD hu
    obtain ⟨h1, h2⟩ := put_rep tD_eqv (k := k) rx hv
    refine ⟨_, _, .t ha hb ?_, ⟨putK kvs k v, rfl, h1, rfl⟩, h2⟩
    rw [List.length_map] at hl
    rw [sizeLine_eq]
    have : lim = 1000000 := rfl
    omega
theorem HRep.writeD {m : Ms} {H : Hp} {h : Hy} {n : Nat} {p : Addr} {t : Bool} {u : HO} {ks vs : List D} {ws : List V} (r : HRep m H h) (hn : m.l[n]? = some p) (hd : DHo t u ks ws) (q : Reps m H vs ws) : HRep m (upd H p u) (h.set n (.d t ks vs)) := by
  have bp : m.bad p := .inl (List.mem_of_getElem? hn)
  refine ⟨r.nd, by rw [List.length_set]; exact r.len, fun j ob a h1 h2 => ?_, fun a ha => ⟨(r.dj a ha).1, ?_⟩⟩
  · by_cases hj : n = j
    · subst hj
      rw [hn] at h2; cases h2
      have hl : n < h.length := by
        have := (List.getElem?_eq_some_iff.mp h1).1
        rwa [List.length_set] at this
      rw [List.getElem?_set_self hl] at h1
      cases h1
      exact ⟨u, ws, upd_same, hd, Reps.off (off_upd bp) _ _ q⟩
    · rw [List.getElem?_set_ne hj] at h1
      have k := r.ob j ob a h1 h2
      have hne : a ≠ p := fun z => by
        subst z
        exact hj (nodup_get r.nd hn h2)
      cases ob with
      | l ys => obtain ⟨us, e, k⟩ := k; exact ⟨us, by rw [upd_ne hne]; exact e, Reps.off (off_upd bp) _ _ k⟩
      | d t ks vs => obtain ⟨u, ws, e, hd, k⟩ := k; exact ⟨u, ws, by rw [upd_ne hne]; exact e, hd, Reps.off (off_upd bp) _ _ k⟩
  · obtain ⟨u, hu⟩ := (r.dj a ha).2
    have hne : a ≠ p := fun z => (r.dj a ha).1 (by rw [z]; exact List.mem_of_getElem? hn)
    exact ⟨u, by rw [upd_ne hne]; exact hu⟩
/-- a list's item or a dict's is set -/
def rSetLD : TSet := fun o i v H Q => rSetL o i v H Q ∨ ∃ a H', o = .ref a ∧ DPut H a i v H' ∧ Q H'
theorem set_ld (hu : X.A.units + 65 < cLine) : PSet X rSetLD := by
  intro pins s σ H o i v ov iv u Q I ro ri rv h
  rcases h with h | h
  · exact set_list pins s σ H o i v ov iv u Q I ro ri rv h
  · exact set_dict (by omega) pins s σ H o i v ov iv u Q I ro ri rv h
/-- o[k] = e -/
theorem s_seti (h : PS X st (tAsg (T fr dn) (gSub (T fa da) (T fb db) rSetLD))) : PS X st (TS fun sl h => (dn sl h).bind fun x h => (da sl h).bind fun y h => (db sl h).bind fun z h => setiGo x y z sl h) := by
  refine h.mono fun D σ H t => ?_
  obtain ⟨m, sl, h, f, h', hr, sr, e, q⟩ := t
  obtain ⟨x, h1, e1, ea⟩ := R.bind_ok e
  obtain ⟨y, h2, e2, eb⟩ := R.bind_ok ea
  obtain ⟨z, h3, e3, e4⟩ := R.bind_ok eb
  refine T.to hr sr e1 fun v m1 H1 x1 hr1 sr1 rv _ => T.to hr1 sr1 e2 fun w m2 H2 x2 hr2 sr2 rw' _ => T.to hr2 sr2 e3 fun u m3 H3 x3 hr3 sr3 ru _ => ?_
  have X3 := x1.trans (x2.trans x3)
  have rv3 := Rep.ext (x2.trans x3) _ _ rv
  have rw3 := Rep.ext x3 _ _ rw'
  rcases seti_ok e4 with ⟨n, xs, i, j, rfl, rfl, e5, e6, rfl, rfl⟩ | ⟨n, t, ks, vs, rfl, e5, e6, e7, rfl, rfl⟩
  · obtain ⟨p, vs, rfl, k1, k2, k3⟩ := loc_at hr3 rw3 e5
    cases ru
    refine .inl ⟨p, vs, i, j, rfl, rfl, k2, by rw [k3.length]; exact e6, ?_⟩
    exact q m3 _ (X3.trans (Ext.write k1)) (hr3.write k1 (k3.set j rv3)) _ (sr3.ext (Ext.write k1))
  · obtain ⟨p, rfl, k⟩ := rw3
    obtain ⟨uo, ws, k1, k2, k3⟩ := hr3.ob n _ p e5 k
    obtain ⟨u', ws', k4, k5, k6⟩ := dput_ho k2 k3 ru rv3 e6 e7 k1
    exact .inr ⟨p, _, rfl, k4, q m3 _ (X3.trans (Ext.write k)) (hr3.writeD k k5 k6) _ (sr3.ext (Ext.write k))⟩
/-- o.append(e) -/
theorem s_app (h : PS X st (tDrop (tBM X.K "list" rAppend (T fa da) (Ts fun sl h => (db sl h).bind fun x h => .ok [x] h)))) : PS X st (TS fun sl h => (da sl h).bind fun y h => match y with
    | .loc n => if isL h n = false then .no else (db sl h).bind fun x h => (match h[n]? with
      | some (.l xs) => if xs.length < 1000000 then .ok (.nx sl) (h.set n (.l (xs ++ [x]))) else .no
      | _ => .no)
    | _ => .no) := by
  refine h.mono fun D σ H t => ?_
  obtain ⟨m, sl, h, f, h', hr, sr, e, q⟩ := t
  obtain ⟨y, h1, e1, ea⟩ := R.bind_ok e
  split at ea
  · rename_i n
    by_cases hL : isL h1 n = false
    · rw [if_pos hL] at ea; cases ea
    rw [if_neg hL] at ea
    obtain ⟨x, h2, e2, e3⟩ := R.bind_ok ea
    split at e3
    · rename_i xs e4
      split at e3
      · rename_i hl
        cases e3
        refine T.to hr sr e1 fun v m1 H1 x1 hr1 sr1 rv _ => ?_
        have e5 : (fun sl h => (db sl h).bind fun x h => R.ok [x] h) sl h1 = .ok [x] h2 := by show (db sl h1).bind _ = _; rw [e2]; rfl
        obtain ⟨p, hv, kp⟩ := id rv
        subst hv
        have hn1 : n < h1.length := by rw [← hr1.len]; exact (List.getElem?_eq_some_iff.mp kp).1
        have ty : tyV X.K "list" (.ref p) H1 := by
          unfold isL at hL
          split at hL
          · rename_i ys ho
            obtain ⟨us, k, _⟩ := hr1.ob n _ p ho kp
            exact .inl ⟨rfl, us, SqL.of k⟩
          · exact absurd rfl hL
        refine ⟨ty, Ts.to hr1 sr1 e5 fun ws m2 H2 x2 hr2 sr2 rws => ?_⟩
        obtain ⟨w, rfl, rw'⟩ := reps1 rws
        obtain ⟨p', vs, e6, k1, k2, k3⟩ := loc_at hr2 (Rep.ext x2 _ _ rv) e4
        cases e6
        refine ⟨p, vs, w, rfl, rfl, k2, by rw [k3.length, sizeLine_eq]; omega, ?_⟩
        exact q m2 _ ((x1.trans x2).trans (Ext.write k1)) (hr2.write k1 (k3.append ⟨w, [], rfl, rw', rfl⟩)) _ (sr2.ext (Ext.write k1))
      · cases e3
    · cases e3
  · cases ea
/-- o.extend(e) -/
theorem s_ext (h : PS X st (tDrop (tBM X.K "list" rExtend (T fa da) (Ts fun sl h => (db sl h).bind fun x h => .ok [x] h)))) : PS X st (TS fun sl h => (da sl h).bind fun y h => match y with
    | .loc n => if isL h n = false then .no else (db sl h).bind fun x h => (match h[n]?, lstOf h x with
      | some (.l xs), some ys => if xs.length + ys.length < 1000000 then .ok (.nx sl) (h.set n (.l (xs ++ ys))) else .no
      | _, _ => .no)
    | _ => .no) := by
  refine h.mono fun D σ H t => ?_
  obtain ⟨m, sl, h, f, h', hr, sr, e, q⟩ := t
  obtain ⟨y, h1, e1, ea⟩ := R.bind_ok e
  split at ea
  · rename_i n
    by_cases hL : isL h1 n = false
    · rw [if_pos hL] at ea; cases ea
    rw [if_neg hL] at ea
    obtain ⟨x, h2, e2, e3⟩ := R.bind_ok ea
    split at e3
    · rename_i xs ys e4 e7
      split at e3
      · rename_i hl
        cases e3
        refine T.to hr sr e1 fun v m1 H1 x1 hr1 sr1 rv _ => ?_
        have e5 : (fun sl h => (db sl h).bind fun x h => R.ok [x] h) sl h1 = .ok [x] h2 := by show (db sl h1).bind _ = _; rw [e2]; rfl
        obtain ⟨p, hv, kp⟩ := id rv
        subst hv
        have hn1 : n < h1.length := by rw [← hr1.len]; exact (List.getElem?_eq_some_iff.mp kp).1
        have ty : tyV X.K "list" (.ref p) H1 := by
          unfold isL at hL
          split at hL
          · rename_i ys ho
            obtain ⟨us, k, _⟩ := hr1.ob n _ p ho kp
            exact .inl ⟨rfl, us, SqL.of k⟩
          · exact absurd rfl hL
        refine ⟨ty, Ts.to hr1 sr1 e5 fun ws m2 H2 x2 hr2 sr2 rws => ?_⟩
        obtain ⟨w, rfl, rw'⟩ := reps1 rws
        obtain ⟨p', vs, e6, k1, k2, k3⟩ := loc_at hr2 (Rep.ext x2 _ _ rv) e4
        cases e6
        obtain ⟨b, us, rfl, k4, k5⟩ := lst_of (K := X.K) hr2 rw' e7
        refine ⟨p, b, vs, us, rfl, rfl, k2, k4, by rw [k3.length, k5.length, sizeLine_eq]; omega, ?_⟩
        exact q m2 _ ((x1.trans x2).trans (Ext.write k1)) (hr2.write k1 (k3.append k5)) _ (sr2.ext (Ext.write k1))
      · cases e3
    · cases e3
  · cases ea

/-! ### the rest -/
theorem s_ex (h : PS X st (tDrop (T fa da))) : PS X st (TS fun sl h => (da sl h).bind fun _ h => .ok (.nx sl) h) := by
  refine h.mono fun D σ H t => ?_
  obtain ⟨m, sl, h, f, h', hr, sr, e, q⟩ := t
  obtain ⟨y, h1, e1, ea⟩ := R.bind_ok e
  cases ea
  exact T.to hr sr e1 fun v m1 H1 x1 hr1 sr1 rv _ => q m1 H1 x1 hr1 _ sr1
theorem s_ret (h : PE X a (T fa da)) : PS X (.Return (some a) pos) (TS fun sl h => (da sl h).bind fun x h => .ok (.rt x) h) := by
  refine (ps_ret h).mono fun D σ H t => ?_
  obtain ⟨m, sl, h, f, h', hr, sr, e, q⟩ := t
  obtain ⟨y, h1, e1, ea⟩ := R.bind_ok e
  cases ea
  exact T.to hr sr e1 fun v m1 H1 x1 hr1 sr1 rv _ => q m1 H1 x1 hr1 _ rv
theorem s_retN : PS X (.Return none pos) (TS fun _ h => .ok (.rt .non) h) := by
  refine ps_retN.mono fun D σ H t => ?_
  obtain ⟨m, sl, h, f, h', hr, sr, e, q⟩ := t
  cases e
  exact q m H Ext.refl hr _ rfl
theorem s_pas : PS X (.Pass pos) (TS fun sl h => .ok (.nx sl) h) := by
  refine ps_pass.mono fun D σ H t => ?_
  obtain ⟨m, sl, h, f, h', hr, sr, e, q⟩ := t
  cases e
  exact q m H Ext.refl hr _ sr
theorem s_brk : PS X (.Break pos) (TS fun sl h => .ok (.bk sl) h) := by
  refine ps_break.mono fun D σ H t => ?_
  obtain ⟨m, sl, h, f, h', hr, sr, e, q⟩ := t
  cases e
  exact q m H Ext.refl hr _ sr
theorem s_cnt : PS X (.Continue pos) (TS fun sl h => .ok (.ct sl) h) := by
  refine ps_continue.mono fun D σ H t => ?_
  obtain ⟨m, sl, h, f, h', hr, sr, e, q⟩ := t
  cases e
  exact q m H Ext.refl hr _ sr
variable {p r : List Stmt} {dp dr : Dnf}
theorem s_ife (hc : PT X c (TB (asB dc))) (hp : PSs X p (TS dp)) (hr : PSs X r (TS dr)) : PS X (.If c p r pos) (TS fun sl h => (dc sl h).bind fun x h => match truth h x with
    | some true => dp sl h
    | some false => dr sl h
    | none => .no) := by
  refine (ps_if hc hp hr).mono fun D σ H t => ?_
  obtain ⟨m, sl, h, f, h', hr, sr, e, q⟩ := t
  obtain ⟨x, h1, e1, e2⟩ := R.bind_ok e
  split at e2
  · rename_i ek
    have e9 : asB dc sl h = .ok true h1 := by show (dc sl h).bind _ = _; rw [e1]; show R.op (truth h1 x) h1 = _; rw [ek]; rfl
    refine TB.to hr sr e9 fun m1 H1 x1 hr1 sr1 => ?_
    rw [if_pos rfl]
    exact TS.to hr1 sr1 e2 fun m2 H2 x2 hr2 => q m2 H2 (x1.trans x2) hr2
  · rename_i ek
    have e9 : asB dc sl h = .ok false h1 := by show (dc sl h).bind _ = _; rw [e1]; show R.op (truth h1 x) h1 = _; rw [ek]; rfl
    refine TB.to hr sr e9 fun m1 H1 x1 hr1 sr1 => ?_
    rw [if_neg (by decide)]
    exact TS.to hr1 sr1 e2 fun m2 H2 x2 hr2 => q m2 H2 (x1.trans x2) hr2
  · cases e2
theorem ss_nil : PSs X [] (TS fun sl h => .ok (.nx sl) h) := by
  refine pss_nil.mono fun D σ H t => ?_
  obtain ⟨m, sl, h, f, h', hr, sr, e, q⟩ := t
  cases e
  exact q m H Ext.refl hr _ sr
theorem ss_cons {ds : Dnf} (hs : PS X st (TS ds)) (hr : PSs X r (TS dr)) : PSs X (st :: r) (TS fun sl h => (ds sl h).bind fun f h => match f with
    | .nx sl' => dr sl' h
    | f => .ok f h) := by
  refine (pss_cons hs hr).mono fun D σ H t => ?_
  obtain ⟨m, sl, h, f, h', hr, sr, e, q⟩ := t
  obtain ⟨f1, h1, e1, e2⟩ := R.bind_ok e
  refine TS.to hr sr e1 fun m1 H1 x1 hr1 => ?_
  cases f1 with
  | nx sl1 => exact fun σ1 sr1 => TS.to hr1 sr1 e2 fun m2 H2 x2 hr2 => q m2 H2 (x1.trans x2) hr2
  | rt d => cases e2; exact q m1 H1 x1 hr1
  | bk sl1 => cases e2; exact q m1 H1 x1 hr1
  | ct sl1 => cases e2; exact q m1 H1 x1 hr1
theorem forGo_fl {f : D → Sl → Hy → R Fl} : ∀ {xs : List D} {sl : Sl} {h h' : Hy} {fl : Fl}, forGo f xs sl h = .ok fl h' → (∃ sl', fl = .nx sl') ∨ ∃ d, fl = .rt d
  | [], sl, h, h', fl, e => by cases e; exact .inl ⟨_, rfl⟩
  | x :: xs, sl, h, h', fl, e => by
    simp only [forGo] at e
    split at e
    · exact forGo_fl e
    · exact forGo_fl e
    · cases e; exact .inl ⟨_, rfl⟩
    · cases e; exact .inr ⟨_, rfl⟩
    · cases e
    · cases e
/-- for -/
theorem s_for {g : G} {tg iter : Expr} {dI : Dns} {db : Dnf} (hp : PassesOwn (model X.prog X.w) X.A X.env X.xe) (hc : X.calm = true) (hi : PI X tg iter (TI dI)) (hg : PG X tg (gT g)) (hb : PSs X p (TS db)) (hs : ∀ x, foldedSetIterable iter X.env x = pure x) :
    PS X (.For tg iter p [] pos) (TS fun sl h => (dI sl h).bind fun xs h => forGo (fun x sl h => match g.put x sl with
      | some sl' => db sl' h
      | none => .no) xs sl h) := by
  refine (ps_for hp hc hi hg hb hs).mono fun D σ H t => ?_
  obtain ⟨m, sl, h, f, h', hr, sr, e, q⟩ := t
  obtain ⟨xs, h1, e1, e2⟩ := R.bind_ok e
  refine ⟨m, sl, h, xs, h1, hr, sr, e1, fun J m1 H1 x1 hr1 wk => ?_⟩
  generalize hF : (fun x sl h => match g.put x sl with
      | some sl' => db sl' h
      | none => R.no) = F at e2
  refine ⟨fun i k σ H => k = xs.length - i ∧ i ≤ xs.length ∧ ∃ mk h sl, Ext m1 mk H1 H ∧ HRep mk H h ∧ SRep mk H sl σ ∧ forGo F (xs.drop i) sl h = .ok f h', ⟨xs.length, by simp, Nat.zero_le _, m1, h1, sl, Ext.refl, hr1, sr.ext x1, e2⟩, ?_⟩
  rintro i k σ H2 ⟨rfl, hi, mk, h2, sl2, x2, hr2, sr2, e3⟩
  by_cases hlt : i < xs.length
  · refine .inr ⟨wk.go x2.up hr2 hlt, fun σ H' => ∃ mk h sl, Ext m1 mk H1 H' ∧ HRep mk H' h ∧ SRep mk H' sl σ ∧ forGo F (xs.drop (i + 1)) sl h = .ok f h', fun σ' H' z => ⟨xs.length - (i + 1), by omega, rfl, hlt, z⟩, fun v H3 y => ?_⟩
    obtain ⟨x3, hr3, rv⟩ := wk.yld x2.up hr2 (List.getElem?_eq_getElem hlt) y
    rw [List.drop_eq_getElem_cons hlt] at e3
    simp only [forGo] at e3
    have step : ∀ fl h4, F xs[i] sl2 h2 = .ok fl h4 → (∀ m5 H5, Ext mk m5 H3 H5 → HRep m5 H5 h4 → FlQ ⟨fun σ H' => ∃ mk h sl, Ext m1 mk H1 H' ∧ HRep mk H' h ∧ SRep mk H' sl σ ∧ forGo F (xs.drop (i + 1)) sl h = .ok f h', D.rt, D.nx, fun σ H' => ∃ mk h sl, Ext m1 mk H1 H' ∧ HRep mk H' h ∧ SRep mk H' sl σ ∧ forGo F (xs.drop (i + 1)) sl h = .ok f h'⟩ m5 H5 fl) →
        gT g v σ H3 fun σ2 H4 => TS db ⟨fun σ H' => ∃ mk h sl, Ext m1 mk H1 H' ∧ HRep mk H' h ∧ SRep mk H' sl σ ∧ forGo F (xs.drop (i + 1)) sl h = .ok f h', D.rt, D.nx, fun σ H' => ∃ mk h sl, Ext m1 mk H1 H' ∧ HRep mk H' h ∧ SRep mk H' sl σ ∧ forGo F (xs.drop (i + 1)) sl h = .ok f h'⟩ σ2 H4 := by
      intro fl h4 e4 k
      rw [← hF] at e4
      dsimp only at e4
      split at e4
      · rename_i sl5 e5
        exact ⟨mk, sl2, h2, xs[i], sl5, hr3, sr2.ext x3, rv, e5, fun σ' sr' o' => TS.to hr3 sr' e4 k⟩
      · cases e4
    have X3 : Ext m1 mk H1 H3 := x2.trans x3
    split at e3
    · rename_i sl4 h4 e4
      exact step _ _ e4 fun m5 H5 x5 hr5 σ5 sr5 => ⟨m5, h4, sl4, X3.trans x5, hr5, sr5, e3⟩
    · rename_i sl4 h4 e4
      exact step _ _ e4 fun m5 H5 x5 hr5 σ5 sr5 => ⟨m5, h4, sl4, X3.trans x5, hr5, sr5, e3⟩
    · rename_i sl4 h4 e4
      cases e3
      exact step _ _ e4 fun m5 H5 x5 hr5 => q m5 H5 (x1.trans (X3.trans x5)) hr5
    · rename_i d h4 e4
      cases e3
      exact step _ _ e4 fun m5 H5 x5 hr5 => q m5 H5 (x1.trans (X3.trans x5)) hr5
    · cases e3
    · cases e3
  · have e4 : i = xs.length := by omega
    subst e4
    rw [List.drop_length] at e3
    cases e3
    exact .inl ⟨wk.stop x2.up hr2 rfl, q mk H2 (x1.trans x2) hr2 σ sr2⟩
/-- while -/
theorem s_whil {db : Dnf} {n : Nat} (hp : PassesOwn (model X.prog X.w) X.A X.env X.xe) (hc : PT X c (TB (asB dc))) (hb : PSs X p (TS db)) : PS X (.While c p [] pos) (TS fun sl h => whGo (fun sl h => (dc sl h).bind fun x h => R.op (truth h x) h) (fun sl h => db sl h) n sl h) := by
  refine (ps_while hp hc hb).mono fun D σ H t => ?_
  obtain ⟨m, sl, h, f, h', hr, sr, e, q⟩ := t
  refine ⟨fun k σ2 H2 => ∃ mk h sl, Ext m mk H H2 ∧ HRep mk H2 h ∧ SRep mk H2 sl σ2 ∧ whGo (asB dc) db k sl h = .ok f h', ⟨n, m, h, sl, Ext.refl, hr, sr, e⟩, ?_⟩
  rintro k σ2 H2 ⟨mk, h2, sl2, x2, hr2, sr2, e2⟩
  cases k with
  | zero => cases e2
  | succ k =>
    simp only [whGo] at e2
    split at e2
    · rename_i h3 e3
      refine TB.to hr2 sr2 e3 fun m3 H3 x3 hr3 sr3 => ?_
      rw [if_pos rfl]
      refine ⟨fun σ2 H2 => ∃ mk h sl, Ext m mk H H2 ∧ HRep mk H2 h ∧ SRep mk H2 sl σ2 ∧ whGo (asB dc) db k sl h = .ok f h', fun σ' H' z => ⟨k, Nat.lt_succ_self k, z⟩, ?_⟩
      split at e2
      · rename_i sl4 h4 e4
        exact TS.to hr3 sr3 e4 fun m5 H5 x5 hr5 σ5 sr5 => ⟨m5, h4, sl4, (x2.trans x3).trans x5, hr5, sr5, e2⟩
      · rename_i sl4 h4 e4
        exact TS.to hr3 sr3 e4 fun m5 H5 x5 hr5 σ5 sr5 => ⟨m5, h4, sl4, (x2.trans x3).trans x5, hr5, sr5, e2⟩
      · rename_i sl4 h4 e4
        cases e2
        exact TS.to hr3 sr3 e4 fun m5 H5 x5 hr5 => q m5 H5 ((x2.trans x3).trans x5) hr5
      · rename_i d h4 e4
        cases e2
        exact TS.to hr3 sr3 e4 fun m5 H5 x5 hr5 => q m5 H5 ((x2.trans x3).trans x5) hr5
      · cases e2
      · cases e2
    · rename_i h3 e3
      cases e2
      refine TB.to hr2 sr2 e3 fun m3 H3 x3 hr3 sr3 => ?_
      rw [if_neg (by decide)]
      exact q m3 H3 (x2.trans x3) hr3 σ2 sr3
    · cases e2
    · cases e2
end
end Z

end

section
set_option Elab.async false
set_option linter.all false
set_option maxRecDepth 100000
set_option autoImplicit false
/-! Z: dicts made. -/
namespace Z
open PySem PySem.Spec PyProof.Rows L2

/-- a new dict, as it comes: it may still be changed -/
def TN (dn : Dn) : TE := fun σ H Q => ∃ m sl h t ks vs h', HRep m H h ∧ SRep m H sl σ ∧ dn sl h = .ok (.dct t ks vs) h' ∧
  ∀ p m' H' u ws, Ext m m' H H' → HRep m' H' h' → H p = none → HRep (m'.mark p) H' h' → H' p = some u → DHo t u ks ws → Reps (m'.mark p) H' vs ws → Q (.ref p) H'
theorem DHo.mut {t : Bool} {u : HO} {ks : List D} {ws : List V} (h : DHo t u ks ws) : Mut (some u) := by
  cases t with
  | false => obtain ⟨kvs, rfl, _⟩ := h; trivial
  | true => obtain ⟨kvs, rfl, _⟩ := h; trivial
section
variable {X : Cx} {e : Expr} {dn : Dn}
theorem pe_known {t : TE} (h : PE X e t) : PE X e (fun σ H Q => t σ H fun v H1 => ∃ p u, v = .ref p ∧ H1 p = some u ∧ Mut (some u) ∧ ∀ od, Q v (upd H1 p (.frz od u))) := by
  refine ⟨fun pins s σ H Q I hw => thn (h.run pins s σ H _ I hw) fun v s1 ⟨x, H1, I1, r, p, u, ex, hp, mu, q⟩ => ?_⟩
  subst ex
  obtain ⟨od, I2⟩ := I1.lock hp mu
  exact ⟨_, _, I2, r, q od⟩
/-- .. known from then on -/
theorem t_known (h : PE X e (TN dn)) (hd : ∀ sl h d h', dn sl h = .ok d h' → ∃ t ks vs, d = .dct t ks vs) : PE X e (T false dn) := by
  refine (pe_known h).mono fun σ H Q t => ?_
  obtain ⟨m, sl, h, d, h', hr, sr, e, q⟩ := t
  obtain ⟨t, ks, vs, rfl⟩ := hd _ _ _ _ e
  refine ⟨m, sl, h, t, ks, vs, h', hr, sr, e, fun p m' H' u ws x hr' hp mk hu k1 k2 => ⟨p, u, rfl, hu, k1.mut, fun od => ?_⟩⟩
  have pg : p ∈ (m'.mark p).g := List.mem_cons_self ..
  have np : p ∉ m'.l := (mk.dj p pg).1
  have ng : p ∉ m'.g := fun z => by
    rw [x.g] at z
    obtain ⟨o, ho⟩ := (hr.dj p z).2
    rw [hp] at ho; cases ho
  refine q _ m' _ ⟨x.g, x.pre, x.new, fun a o ea na => ?_⟩ ((mk.touch pg).less (m' := m') rfl fun b hb => List.mem_cons_of_mem _ hb) ⟨p, od, u, ws, rfl, fun z => ?_, upd_same, k1, Reps.less (m := m'.mark p) (m' := m') rfl (fun b hb => List.mem_cons_of_mem _ hb) _ _ (Reps.off (off_upd (.inr pg)) _ _ k2)⟩ fresh_no
  · rw [upd_ne (ne_of_none ea hp)]
    exact x.keep a o ea na
  · rcases z with z | z
    · exact np z
    · exact ng z
/-- the marked dict gets the next number -/
theorem HRep.numberD {m : Ms} {H : Hp} {h : Hy} {p : Addr} {t : Bool} {u : HO} {ks vs : List D} {ws : List V} (r : HRep (m.mark p) H h) (ng : p ∉ m.g) (hp : H p = some u) (hd : DHo t u ks ws) (r0 : Reps (m.mark p) H vs ws) : HRep (m.more p) H (h ++ [.d t ks vs]) := by
  have np : p ∉ m.l := (r.dj p (List.mem_cons_self ..)).1
  have nd : m.l.Nodup := r.nd
  have rlen : m.l.length = h.length := r.len
  refine ⟨List.nodup_append.mpr ⟨nd, List.nodup_cons.mpr ⟨by simp, List.nodup_nil⟩, fun a ha b hb e => np (by rw [List.mem_singleton.mp hb] at e; exact e ▸ ha)⟩, by rw [List.length_append, List.length_append, rlen]; rfl, fun n o a h1 h2 => ?_, fun a ha => ?_⟩
  · by_cases hn : n < h.length
    · rw [List.getElem?_append_left hn] at h1
      rw [List.getElem?_append_left (by rw [rlen]; exact hn)] at h2
      have q := r.ob n o a h1 h2
      cases o with
      | l xs => obtain ⟨vs, e, q⟩ := q; exact ⟨vs, e, Reps.number xs vs q⟩
      | d t ks vs => obtain ⟨u, ws, e, hd, q⟩ := q; exact ⟨u, ws, e, hd, Reps.number vs ws q⟩
    · rw [List.getElem?_append_right (by omega)] at h1
      rw [List.getElem?_append_right (by rw [rlen]; omega)] at h2
      have e0 : n - h.length = 0 := by
        have := (List.getElem?_eq_some_iff.mp h1).1
        simp at this
        omega
      rw [e0] at h1
      rw [rlen, e0] at h2
      cases h1; cases h2
      exact ⟨u, ws, hp, hd, Reps.number vs ws r0⟩
  · have q := r.dj a (List.mem_cons_of_mem _ ha)
    refine ⟨fun z => ?_, q.2⟩
    rcases List.mem_append.mp z with z | z
    · exact q.1 z
    · exact ng (by rw [List.mem_singleton.mp z] at ha; exact ha)
/-- name = a new dict that will be changed -/
theorem s_newd {st : Stmt} {te : TE} {i : Nat} (h : PS X st (tAsg te (gName i))) (w : ∀ σ H Q, TN dn σ H Q → te σ H Q) (hd : ∀ sl h d h', dn sl h = .ok d h' → ∃ t ks vs, d = .dct t ks vs) : PS X st (TS fun sl h => (dn sl h).bind fun x h => match x with
    | .dct t ks vs => nxt (put1 sl i (.loc h.length)) (h ++ [.d t ks vs])
    | _ => .no) := by
  refine h.mono fun D σ H t => ?_
  obtain ⟨m, sl, h, f, h', hr, sr, e, q⟩ := t
  obtain ⟨x, h1, e1, e2⟩ := R.bind_ok e
  obtain ⟨t, ks, vs, rfl⟩ := hd _ _ _ _ e1
  obtain ⟨sl', e4, rfl, rfl⟩ := nxt_ok e2
  obtain ⟨hi, rfl⟩ := put1_ok e4
  refine w _ _ _ ⟨m, sl, h, t, ks, vs, h1, hr, sr, e1, fun p m1 H1 u ws x1 hr1 hp mk hu k1 k2 => ?_⟩
  have ng : p ∉ m1.g := fun z => by
    rw [x1.g] at z
    obtain ⟨o, ho⟩ := (hr.dj p z).2
    rw [hp] at ho; cases ho
  have l1 : m1.l.length = h1.length := hr1.len
  have x2 : Ext m (m1.more p) H H1 := ⟨x1.g, x1.pre.trans (List.prefix_append _ _), fun b hb => by
    rcases List.mem_append.mp hb with z | z
    · exact x1.new b z
    · exact .inr (by rw [List.mem_singleton.mp z]; exact hp), x1.keep⟩
  refine q _ H1 x2 (mk.numberD ng hu k1 k2) _ ((sr.ext x2).set ⟨p, rfl, ?_⟩)
  show (m1.l ++ [p])[h1.length]? = some p
  rw [List.getElem?_append_right (by omega), l1]
  simp

/-! ### {} -/
variable {pos : Pos}
theorem n_dnew (t : Bool) : PE X (.Dict [] [] pos) (TN fun _ h => .ok (.dct t [] []) h) := by
  cases t with
  | false =>
    refine pe_dnewK.mono fun σ H Q t => ?_
    obtain ⟨m, sl, h, t, ks, vs, h', hr, sr, e, q⟩ := t
    cases e
    exact fun p hp => q p m _ _ [] (Ext.laid hp) (hr.laid hp) hp (hr.mark hp) upd_same ⟨[], rfl, rfl, rfl⟩ rfl
  | true =>
    refine pe_dnewT.mono fun σ H Q t => ?_
    obtain ⟨m, sl, h, t, ks, vs, h', hr, sr, e, q⟩ := t
    cases e
    exact fun p hp => q p m _ _ [] (Ext.laid hp) (hr.laid hp) hp (hr.mark hp) upd_same ⟨[], rfl, rfl, rfl⟩ rfl

/-! ### {k: v, ..} -/
/-- a display's row: keys and values in turn -/
def tPsOf (dn : Dns) (trs : List (TE × TE)) : Prop := ∀ (σ : L2.St) (H : Hp) (Qp : List (V × V) → Hp → Prop), Ts dn σ H (fun flat H' => ∀ ps, flat = ps.flatMap (fun p => [p.1, p.2]) → Qp ps H') → tPairs trs σ H Qp
structure DispR (X : Cx) (pos : Pos) (keys : List (Option Expr)) (values : List Expr) (dn : Dns) : Prop where
  ex : ∃ trs, PPs X pos keys values trs ∧ tPsOf dn trs
theorem disp_nil : DispR X pos [] [] (fun _ h => .ok [] h) := by
  refine ⟨[], pps_nil, fun σ H Qp t => ?_⟩
  obtain ⟨m, sl, h, ds, h', hr, sr, e, q⟩ := t
  cases e
  exact q [] m H Ext.refl hr rfl [] rfl
theorem disp_cons {k v : Expr} {ks : List (Option Expr)} {vs : List Expr} {dk dv : Dn} {dn : Dns} (hk : PE X k (T false dk)) (hv : PE X v (T false dv)) (h : DispR X pos ks vs dn) :
    DispR X pos (some k :: ks) (v :: vs) (fun sl h => (dk sl h).bind fun x h => ((dv sl h).bind fun y h => (dn sl h).bind fun r h => .ok (y :: r) h).bind fun r h => .ok (x :: r) h) := by
  obtain ⟨trs, h1, h2⟩ := h.ex
  refine ⟨_, pps_cons hk hv h1, fun σ H Qp t => ?_⟩
  obtain ⟨m, sl, h, ds, h', hr, sr, e, q⟩ := t
  obtain ⟨x, g1, e1, ea⟩ := R.bind_ok e
  obtain ⟨r0, g2, eb, ec⟩ := R.bind_ok ea
  obtain ⟨y, g3, e2, ed⟩ := R.bind_ok eb
  obtain ⟨r, g4, e3, ee⟩ := R.bind_ok ed
  cases ee; cases ec
  refine T.to hr sr e1 fun v1 m1 H1 x1 hr1 sr1 rv1 _ => T.to hr1 sr1 e2 fun v2 m2 H2 x2 hr2 sr2 rv2 _ => h2 σ H2 _ (Ts.to hr2 sr2 e3 fun vs m3 H3 x3 hr3 sr3 rvs ps eps => ?_)
  exact q _ m3 H3 ((x1.trans x2).trans x3) hr3 ⟨v1, v2 :: vs, rfl, Rep.ext (x2.trans x3) _ _ rv1, v2, vs, rfl, Rep.ext x3 _ _ rv2, rvs⟩ ((v1, v2) :: ps) (by rw [eps]; rfl)
theorem flat_pairs : ∀ {xs : List D} {ps : List (D × D)} {m : Ms} {H : Hp} {flat : List V}, pairsOf xs = some ps → Reps m H xs flat → ∃ vs : List (V × V), flat = vs.flatMap (fun p => [p.1, p.2]) ∧ Reps m H (ps.map (·.1)) (vs.map (·.1)) ∧ Reps m H (ps.map (·.2)) (vs.map (·.2))
  | [], ps, m, H, flat, e, r => by cases e; exact ⟨[], r, rfl, rfl⟩
  | [x], ps, m, H, flat, e, r => by simp [pairsOf] at e
  | k :: v :: xs, ps, m, H, flat, e, r => by
    simp only [pairsOf] at e
    obtain ⟨ps', e1, rfl⟩ := Option.map_eq_some_iff.mp e
    obtain ⟨a, r1, rfl, h1, b, r2, rfl, h2, h3⟩ := r
    obtain ⟨vs, rfl, h4, h5⟩ := flat_pairs e1 h3
    exact ⟨(a, b) :: vs, rfl, ⟨a, _, rfl, h1, h4⟩, ⟨b, _, rfl, h2, h5⟩⟩
theorem keys_pairs {m : Ms} {H : Hp} : ∀ {ps : List (D × D)} {vs : List (V × V)}, (ps.all fun p => keyB false p.1) = true → Reps m H (ps.map (·.1)) (vs.map (·.1)) → Reps m H (ps.map (·.2)) (vs.map (·.2)) →
    ∃ kvs : List (Key × V), vs = kvs.map (fun kv => (kV kv.1, kv.2)) ∧ ps.map (·.1) = kvs.map (fun kv => kD kv.1) ∧ Reps m H (ps.map (·.2)) (kvs.map (·.2))
  | [], [], _, _, _ => ⟨[], rfl, rfl, rfl⟩
  | [], _ :: _, _, r, _ => by cases r
  | _ :: _, [], _, r, _ => by obtain ⟨_, _, e, _⟩ := r; cases e
  | p :: ps, v :: vs, h, r1, r2 => by
    rw [List.all_cons, Bool.and_eq_true] at h
    obtain ⟨a, u, e, h1, h2⟩ := r1
    obtain ⟨b, w, e', h3, h4⟩ := r2
    cases e; cases e'
    obtain ⟨kvs, rfl, h5, h6⟩ := keys_pairs h.2 h2 h4
    obtain ⟨k, hk⟩ := key_of_f h.1
    have h1 : Rep m H p.1 v.1 := h1
    rw [hk] at h1
    refine ⟨(k, v.2) :: kvs, ?_, ?_, ⟨_, _, rfl, h3, h6⟩⟩
    · rw [List.map_cons]
      congr 1
      exact Prod.ext (rep_kD h1) rfl
    · rw [List.map_cons, List.map_cons, hk, h5]
theorem merge_rep {m : Ms} {H : Hp} : ∀ {ps : List (D × D)} {kvs kvs0 : List (Key × V)} {vs0 : List D}, ps.map (·.1) = kvs.map (fun kv => kD kv.1) → Reps m H (ps.map (·.2)) (kvs.map (·.2)) → Reps m H vs0 (kvs0.map (·.2)) →
    (ps.foldl (fun a p => dput p.1 p.2 a.1 a.2) (kvs0.map (fun kv => kD kv.1), vs0)).1 = (mergeK kvs0 kvs).map (fun kv => kD kv.1) ∧ Reps m H (ps.foldl (fun a p => dput p.1 p.2 a.1 a.2) (kvs0.map (fun kv => kD kv.1), vs0)).2 ((mergeK kvs0 kvs).map (·.2))
  | [], [], kvs0, vs0, _, _, r => ⟨rfl, r⟩
  | [], _ :: _, _, _, e, _, _ => by cases e
  | _ :: _, [], _, _, e, _, _ => by cases e
  | p :: ps, kv :: kvs, kvs0, vs0, e, r, r0 => by
    rw [List.map_cons, List.map_cons] at e
    obtain ⟨e1, e2⟩ := List.cons.inj e
    obtain ⟨b, w, e', h3, h4⟩ := r
    cases e'
    obtain ⟨g1, g2⟩ := put_rep kD_eqv (k := kv.1) h3 r0
    rw [List.foldl_cons, e1]
    have ee : dput (kD kv.1) p.2 (kvs0.map fun kv => kD kv.1) vs0 = ((putK kvs0 kv.1 kv.2).map (fun kv => kD kv.1), (dput (kD kv.1) p.2 (kvs0.map fun kv => kD kv.1) vs0).2) := Prod.ext g1 rfl
    rw [ee]
    exact merge_rep e2 h4 g2
theorem n_disp {keys : List (Option Expr)} {values : List Expr} {dn : Dns} (h : DispR X pos keys values dn) (hall : keys.all (·.isSome) = true) (hl : keys.length = values.length) (h0 : keys ≠ []) (h15 : keys.length ≤ 15) :
    PE X (.Dict keys values pos) (TN fun sl h => (dn sl h).bind fun xs h => R.op (dispOf xs) h) := by
  obtain ⟨trs, k1, k2⟩ := h.ex
  refine (pe_disp k1 hall hl h0 h15).mono fun σ H Q t p hp => ?_
  obtain ⟨m, sl, h, t, ks, vs, h', hr, sr, e, q⟩ := t
  obtain ⟨xs, h1, e1, e2⟩ := R.bind_ok e
  obtain ⟨e3, rfl⟩ := R.op_ok e2
  unfold dispOf at e3
  obtain ⟨ps, e4, e5⟩ := Option.bind_eq_some_iff.mp e3
  split at e5
  · rename_i hc
    simp only [Bool.and_eq_true, decide_eq_true_eq] at hc
    have e6 := Option.some.inj e5
    have up : Up m (m.mark p) H (upd H p (.dK [])) := ((Acc.start hp hr).up hp).trans ⟨List.prefix_refl _, fun a h => .inl h, fun a o e n => by rw [upd_ne (fun z => n (by rw [z]; exact .inr (List.mem_cons_self ..)))]; rw [upd_ne (fun z => n (by rw [z]; exact .inr (List.mem_cons_self ..)))] at e; exact e⟩
    refine k2 σ _ _ (Ts.to (hr.mark hp) (sr.up up) e1 fun flat m2 H2 x2 hr2 sr2 rf ps' eps => ?_)
    have pm : p ∈ (m.mark p).g := List.mem_cons_self ..
    have np : p ∉ m.l := fun z => hr.nin hp (.inl z)
    have em : m2 = (⟨m2.l, m.g⟩ : Ms).mark p := by
      have := x2.g
      cases m2; cases this; rfl
    have hp2 : H2 p = some (.dK []) := x2.keep p _ upd_same np
    obtain ⟨vs', e7, r1, r2⟩ := flat_pairs e4 rf
    obtain ⟨kvs, e8, e9, r3⟩ := keys_pairs hc.1 r1 r2
    have epp : ps' = vs' := by
      rw [eps] at e7
      clear eps r1 r2 e8
      induction ps' generalizing vs' with
      | nil => cases vs' with
        | nil => rfl
        | cons a b => simp at e7
      | cons a ps' ih =>
        cases vs' with
        | nil => simp at e7
        | cons b vs' =>
          simp only [List.flatMap_cons, List.cons_append, List.nil_append, List.cons.injEq] at e7
          obtain ⟨q1, q2, q3⟩ := e7
          rw [ih vs' q3]
          congr 1
          exact Prod.ext q1 q2
    subst epp
    have hlen : kvs.length ≤ 15 := by
      have := congrArg List.length e9
      rw [List.length_map, List.length_map] at this
      omega
    refine ⟨hp2, kvs, e8, hlen, ?_⟩
    obtain ⟨g1, g2⟩ := merge_rep (kvs0 := []) (vs0 := []) e9 r3 rfl
    have pg : p ∈ m2.g := by rw [em]; exact List.mem_cons_self ..
    have hr3 := hr2.touch (o := .dK (mergeK [] kvs)) pg
    rw [em] at hr3 hr2 g2 x2
    cases e6
    refine q p ⟨m2.l, m.g⟩ _ _ ((mergeK [] kvs).map fun x : Key × V => x.2) ⟨rfl, x2.pre, fun a ha => ?_, fun a o ea na => ?_⟩ (hr3.less (m' := ⟨m2.l, m.g⟩) rfl fun b hb => List.mem_cons_of_mem _ hb) hp hr3 upd_same ⟨_, rfl, g1, rfl⟩ (Reps.off (off_upd (.inr (List.mem_cons_self ..))) _ _ g2)
    · rcases x2.new a ha with z | z
      · exact .inl z
      · by_cases hap : a = p
        · exact .inr (hap ▸ hp)
        · rw [upd_ne hap] at z; exact .inr z
    · have hap : a ≠ p := ne_of_none ea hp
      rw [upd_ne hap]
      exact x2.keep a o (by rw [upd_ne hap]; exact ea) na
  · cases e5
end
end Z

end

section
set_option Elab.async false
set_option linter.all false
set_option maxRecDepth 100000
set_option autoImplicit false
/-! Z: dict comprehensions, get, built-ins of dicts. -/
namespace Z
open PySem PySem.Spec PyProof.Rows L2
section
variable {m mk : Ms} {H H1 : Hp} {h : Hy} {p : Addr} {ks vs : List D}
/-- the dict at p is being filled -/
structure AccD (m : Ms) (H1 : Hp) (p : Addr) (mk : Ms) (H : Hp) (h : Hy) (ks vs : List D) : Prop where
  ext : Ext m mk H1 H
  hr : HRep (mk.mark p) H h
  at_ : ∃ kvs, H p = some (.dK kvs) ∧ ks = kvs.map (fun kv => kD kv.1) ∧ Reps (mk.mark p) H vs (kvs.map (·.2))
theorem AccD.start (hp : H1 p = none) (r : HRep m H1 h) : AccD m H1 p m (upd H1 p (.dK [])) h [] [] := ⟨Ext.laid hp, r.mark hp, [], upd_same, rfl, rfl⟩
theorem AccD.up (hp : H1 p = none) (a : AccD m H1 p mk H h ks vs) : Up m (mk.mark p) H1 H := ⟨a.ext.pre, fun b hb => by
  rcases hb with hb | hb
  · rcases a.ext.new b hb with z | z
    · exact .inl (.inl z)
    · exact .inr z
  · rcases List.mem_cons.mp hb with z | z
    · exact .inr (z ▸ hp)
    · exact .inl (.inr (a.ext.g ▸ z)), fun b o e n => a.ext.keep b o e fun z => n (.inl z)⟩
theorem AccD.move {m2 : Ms} {H2 : Hp} {h2 : Hy} (hp : H1 p = none) (a : AccD m H1 p mk H h ks vs) (x : Ext (mk.mark p) m2 H H2) (r : HRep m2 H2 h2) : ∃ mk2, m2 = Ms.mark mk2 p ∧ AccD m H1 p mk2 H2 h2 ks vs := by
  obtain ⟨kvs, e, ek, q⟩ := a.at_
  have np : p ∉ mk.l := (a.hr.dj p (List.mem_cons_self ..)).1
  have e2 : m2 = (⟨m2.l, mk.g⟩ : Ms).mark p := by
    have := x.g
    cases m2
    cases this
    rfl
  refine ⟨⟨m2.l, mk.g⟩, e2, ⟨⟨a.ext.g, a.ext.pre.trans x.pre, fun b hb => ?_, fun b o hb nb => ?_⟩, e2 ▸ r, kvs, x.keep p _ e np, ek, e2 ▸ Reps.ext x _ _ q⟩⟩
  · rcases x.new b hb with z | z
    · exact a.ext.new b z
    · exact Ext.back' a.ext z
  · refine x.keep b o (a.ext.keep b o hb nb) fun z => ?_
    rcases a.ext.new b z with z | z
    · exact nb z
    · rw [hb] at z; cases z
theorem AccD.put (hp : H1 p = none) {k : Key} {d : D} {v : V} {kvs : List (Key × V)} (a : AccD m H1 p mk H h ks vs) (e : H p = some (.dK kvs)) (r : Rep (mk.mark p) H d v) :
    AccD m H1 p mk (upd H p (.dK (putK kvs k v))) h (dput (kD k) d ks vs).1 (dput (kD k) d ks vs).2 := by
  obtain ⟨kvs', e', rfl, q⟩ := a.at_
  rw [e] at e'; cases e'
  have pg : p ∈ (mk.mark p).g := List.mem_cons_self ..
  obtain ⟨g1, g2⟩ := put_rep kD_eqv (k := k) r q
  refine ⟨⟨a.ext.g, a.ext.pre, a.ext.new, fun b o hb nb => ?_⟩, a.hr.touch pg, _, upd_same, g1, Reps.off (off_upd (.inr pg)) _ _ g2⟩
  rw [upd_ne (ne_of_none hb hp)]
  exact a.ext.keep b o hb nb
end
theorem dc_turns {J : It} {m mw : Ms} {H1 Hw : Hp} {p : Addr} {f : D → Hy → R (Option (D × D))} {xs fk fv : List D} {h' : Hy} {Fin : Hp → Prop} {body : (Hp → Prop) → V → Hp → Prop}
    (hp : H1 p = none) (wk : Wk J mw Hw xs)
    (fin : ∀ mk H, AccD m H1 p mk H h' fk fv → Up mw (mk.mark p) Hw H → Fin H)
    (hb : ∀ (Nx : Hp → Prop) (mk : Ms) (H : Hp) (h h2 : Hy) (ks vs : List D) (o : Option (D × D)) (x : D) (v : V), AccD m H1 p mk H h ks vs → Up mw (mk.mark p) Hw H → Rep (mk.mark p) H x v → f x h = .ok o h2 → (∀ y z, o = some (y, z) → keyB false y = true ∧ ks.length < lim) →
      (∀ mk2 H2 ks2 vs2, AccD m H1 p mk2 H2 h2 ks2 vs2 → Up mw (mk2.mark p) Hw H2 → (ks2, vs2) = (match o with | some (y, z) => dput y z ks vs | none => (ks, vs)) → Nx H2) → body Nx v H)
    {mk : Ms} {H : Hp} {h : Hy} {ks vs : List D} (a : AccD m H1 p mk H h ks vs) (u : Up mw (mk.mark p) Hw H) (e : dcGo f xs ks vs h = .ok (fk, fv) h') :
    ∃ W : Nat → Nat → Hp → Prop, (∃ k, W 0 k H) ∧ ∀ i k H, W i k H → (J.stop i H ∧ Fin H) ∨ (J.go i H ∧ ∃ Nx : Hp → Prop, (∀ H', Nx H' → ∃ k', k' < k ∧ W (i + 1) k' H') ∧ ∀ x H', J.yld i H x H' → body Nx x H') := by
  refine ⟨fun i k H => k = xs.length - i ∧ i ≤ xs.length ∧ ∃ mk h ks vs, AccD m H1 p mk H h ks vs ∧ Up mw (mk.mark p) Hw H ∧ dcGo f (xs.drop i) ks vs h = .ok (fk, fv) h', ⟨xs.length, by simp, Nat.zero_le _, mk, h, ks, vs, a, u, e⟩, ?_⟩
  rintro i k H ⟨rfl, hi, mk, h, ks, vs, a, u, e⟩
  by_cases hlt : i < xs.length
  · refine .inr ⟨wk.go u a.hr hlt, fun H' => ∃ mk h ks vs, AccD m H1 p mk H' h ks vs ∧ Up mw (mk.mark p) Hw H' ∧ dcGo f (xs.drop (i + 1)) ks vs h = .ok (fk, fv) h', fun H' ⟨mk, h, ks, vs, a, u, e⟩ => ⟨xs.length - (i + 1), by omega, rfl, hlt, mk, h, ks, vs, a, u, e⟩, fun v H' y => ?_⟩
    obtain ⟨x1, r1, rv⟩ := wk.yld u a.hr (List.getElem?_eq_getElem hlt) y
    obtain ⟨mk2, e2, a2⟩ := a.move hp x1 r1
    rw [List.drop_eq_getElem_cons hlt] at e
    simp only [dcGo] at e
    have e3 : mk2 = mk := (mark_inj e2).symm
    subst e3
    split at e
    · rename_i y z h2 ef
      split at e
      · rename_i hc
        simp only [Bool.and_eq_true, decide_eq_true_eq] at hc
        exact hb _ _ _ _ _ _ _ _ _ _ a2 (u.trans x1.up) rv ef (fun y' z' ee => by cases ee; exact hc) fun mk2 H2 ks2 vs2 a3 u3 ee => ⟨mk2, h2, ks2, vs2, a3, u3, by
          have e1 : ks2 = (dput y z ks vs).1 := congrArg Prod.fst ee
          have e2 : vs2 = (dput y z ks vs).2 := congrArg Prod.snd ee
          rw [e1, e2]; exact e⟩
      · cases e
    · rename_i h2 ef
      exact hb _ _ _ _ _ _ _ _ _ _ a2 (u.trans x1.up) rv ef (fun y' z' ee => by cases ee) fun mk2 H2 ks2 vs2 a3 u3 ee => ⟨mk2, h2, ks2, vs2, a3, u3, by cases ee; exact e⟩
    · cases e
    · cases e
  · have e1 : i = xs.length := by omega
    subst e1
    rw [List.drop_length] at e
    cases e
    exact .inl ⟨wk.stop u a.hr rfl, fin mk H a u⟩
section
variable {X : Cx}
abbrev dcF (g : G) (own : List Nat) (dt : Sl → Hy → R Bool) (dk dv : Dn) (sl : Sl) : D → Hy → R (Option (D × D)) := fun x h => match g.put x (wipe sl own) with
  | some sl' => (dt sl' h).bind fun c h => match c with
    | true => (dk sl' h).bind fun y h => (dv sl' h).bind fun z h => .ok (some (y, z)) h
    | false => .ok none h
  | none => .no
theorem dc_T {σ : L2.St} {H : Hp} {Q : VK} {own : List Nat} {dI : Dns} {g : G} {dt : Sl → Hy → R Bool} {dk dv : Dn} (hsub : ∀ i ∈ g.idx, i ∈ own)
    (t : TN (fun sl h => (dI sl h).bind fun xs h => (dcGo (dcF g own dt dk dv sl) xs [] [] h).bind fun p h => .ok (.dct false p.1 p.2) h) σ H Q) : tDc (TI dI) (gT g) (TB dt) (T false dk) (T false dv) own σ H Q := by
  obtain ⟨m, sl, h, t, ks, vs, h', hr, sr, e, q⟩ := t
  obtain ⟨xs, h1, e1, ea⟩ := R.bind_ok e
  obtain ⟨⟨fk, fv⟩, h2, e2, eb⟩ := R.bind_ok ea
  cases eb
  refine ⟨m, sl, h, xs, h1, hr, sr, e1, fun J m1 H1 x1 hr1 wk p hp => ?_⟩
  refine dc_turns (body := fun Nx v H => gT g v (L2.wipe σ own) H fun σ2 H2 => L2.wipe σ2 own = L2.wipe σ own ∧ TB dt σ2 H2 fun b H3 => if b = true then T false dk σ2 H3 fun y H4 => T false dv σ2 H4 fun z H5 => ∃ kvs k, y = kV k ∧ H5 p = some (.dK kvs) ∧ kvs.length < sizeLine ∧ Nx (upd H5 p (.dK (putK kvs k z))) else Nx H3)
    hp wk (fun mk H2 a u => ?_) (fun Nx mk H2 h3 h4 ks vs o x v a u rv ef hk nx => ?_) (AccD.start hp hr1) ((AccD.start hp hr1).up hp) e2
  · obtain ⟨kvs, k1, k2, k3⟩ := a.at_
    exact q p mk H2 _ _ (x1.trans a.ext) (a.hr.less (m' := mk) rfl fun b hb => List.mem_cons_of_mem _ hb) (x1.back hp (hr1.nin hp)) a.hr k1 ⟨kvs, rfl, k2, rfl⟩ k3
  · have sr2 : SRep (mk.mark p) H2 sl σ := (sr.ext x1).up (a.up hp)
    unfold dcF at ef
    split at ef
    · rename_i sl' ep
      obtain ⟨c, h5, f1, f2⟩ := R.bind_ok ef
      refine ⟨mk.mark p, wipe sl own, h3, x, sl', a.hr, sr2.wipe own, rv, ep, fun σ' sr' o' => ⟨?_, ?_⟩⟩
      · rw [o'.wipe hsub]
        exact wipe_wipe σ own
      · refine TB.to a.hr sr' f1 fun m3 H3 x3 hr3 sr3 => ?_
        obtain ⟨mk3, em3, a3⟩ := a.move hp x3 hr3
        subst em3
        cases c with
        | true =>
          obtain ⟨y, h6, f3, f4⟩ := R.bind_ok f2
          obtain ⟨z, h7, f5, f6⟩ := R.bind_ok f4
          cases f6
          obtain ⟨hk1, hk2⟩ := hk y z rfl
          obtain ⟨k, rfl⟩ := key_of_f hk1
          rw [if_pos rfl]
          refine T.to hr3 sr3 f3 fun vy m4 H4 x4 hr4 sr4 ry _ => T.to hr4 sr4 f5 fun vz m5 H5 x5 hr5 sr5 rz _ => ?_
          obtain ⟨mk4, em4, a4⟩ := a3.move hp x4 hr4
          subst em4
          obtain ⟨mk5, em5, a5⟩ := a4.move hp x5 hr5
          subst em5
          obtain ⟨kvs, g1, g2, g3⟩ := a5.at_
          refine ⟨kvs, k, rep_kD ry, g1, ?_, nx mk5 _ _ _ (a5.put hp g1 rz) ?_ rfl⟩
          · rw [g2, List.length_map] at hk2
            rw [sizeLine_eq]
            have : lim = 1000000 := rfl
            omega
          · exact u.trans (((x3.up.trans x4.up).trans x5.up).trans ⟨List.prefix_refl _, fun b hb => .inl hb, fun b o eb nb => off_upd (.inr (List.mem_cons_self ..)) b o nb eb⟩)
        | false =>
          cases f2
          rw [if_neg (by decide)]
          exact nx mk3 H3 _ _ a3 (u.trans x3.up) rfl
    · cases ef
/-! ### d.get(k, x) -/
variable {o e f : Expr} {da db dc : Dn} {apos cpos : Pos}
theorem t_dgetD (hu : X.A.units + 65 < cLine) (hm : M2 X o "get" apos e f cpos) (ha : PE X o (T false da)) (hb : PE X e (T false db)) (hc : PE X f (T false dc)) : PE X (.Call (.Attribute o "get" apos) [e, f] [] cpos) (T false fun sl h => (da sl h).bind fun x h => if (dctOf h x).isNone then .no else (db sl h).bind fun y h => (dc sl h).bind fun z h => match dctOf h x with
    | some (t, ks, vs) => if keyB t y then .ok ((dlook y ks vs).getD z) h else .no
    | _ => .no) := by
  refine (pe_dget2 (by omega) ha hb hc hm).mono fun σ H Q t => ?_
  obtain ⟨m, sl, h, d, h', hr, sr, ee, q⟩ := t
  obtain ⟨x, h1, e1, ea⟩ := R.bind_ok ee
  by_cases hn : (dctOf h1 x).isNone = true
  · rw [if_pos hn] at ea; cases ea
  rw [if_neg hn] at ea
  obtain ⟨y, h2, e2, eb⟩ := R.bind_ok ea
  obtain ⟨z, h3, e3, ec⟩ := R.bind_ok eb
  refine T.to hr sr e1 fun v m1 H1 x1 hr1 sr1 rv _ => ?_
  split at ec
  · rename_i t ks vs ed
    split at ec
    · rename_i hk
      cases ec
      obtain ⟨⟨t0, ks0, vs0⟩, ed0⟩ : ∃ r, dctOf h1 x = some r := by
        cases q0 : dctOf h1 x with
        | none => rw [q0] at hn; exact absurd rfl hn
        | some r => exact ⟨r, rfl⟩
      obtain ⟨a, uo, ws, rfl, g1, g2, g3⟩ := dct_of hr1 rv ed0
      have isd : IsD H1 a := by
        cases t0 with
        | false => obtain ⟨kvs, rfl, _⟩ := g2; exact .inl ⟨kvs, g1⟩
        | true => obtain ⟨kvs, rfl, _⟩ := g2; exact .inr ⟨kvs, g1⟩
      refine ⟨a, rfl, isd, T.to hr1 sr1 e2 fun w m2 H2 x2 hr2 sr2 rw' _ => T.to hr2 sr2 e3 fun u m3 H3 x3 hr3 sr3 ru _ => ?_⟩
      obtain ⟨a', uo', ws', e4, g4, g5, g6⟩ := dct_of hr3 (Rep.ext (x2.trans x3) _ _ rv) ed
      cases e4
      obtain ⟨oo, gg, gs, gn⟩ := dlook_get g4 g5 g6 hk (Rep.ext x3 _ _ rw')
      have X3 := x1.trans (x2.trans x3)
      refine ⟨oo, gg, ?_⟩
      cases el : dlook y ks vs with
      | none =>
        rw [gn el]
        rw [el] at q
        exact q u m3 H3 X3 hr3 ru fresh_no
      | some d =>
        obtain ⟨v', h8, h9⟩ := gs d el
        rw [h8]
        rw [el] at q
        exact q v' m3 H3 X3 hr3 h9 fresh_no
    · cases ec
  · cases ec
end
end Z

end

section
set_option Elab.async false
set_option linter.all false
set_option maxRecDepth 100000
set_option autoImplicit false
/-! Z: name = a dict comprehension on one line; built-ins over dicts. -/
namespace Z
open PySem PySem.Spec PyProof.Rows L2
section
variable {X : Cx}
theorem ps_setDc {i : Nat} {y : Str} {py : Pos} {kx vx tg iter : Expr} {ifs : List Expr} {scope : Scope} {own : List (Str × Nat)} {pos spos : Pos} {wi : L2.TI} {g : TG} {tt : TT} {tk tv : TE} (hc : X.calm = true) (hN : X.N.Nodup) (hy : X.N[i]? = some y) (hyl : X.env.scope.names.lookup y = some .local)
    (hsw : swapsWith (.DictComp kx vx [⟨tg, iter, ifs, 0⟩] scope pos) (some (.Name y py)) spos.line X.env = pure true) (hi : PI X tg iter wi) (ok : BlkOk X.N X.env.scope scope own)
    (hg : ∀ (s : Shared) (H : Hp) (C : Addr) (cl : List (Str × Addr)) (fp : List Addr), PG (X.blk s H scope (compEnvC scope cl C X.env) fp) tg g) (ht : ∀ (s : Shared) (H : Hp) (C : Addr) (cl : List (Str × Addr)) (fp : List Addr), PTs (X.blk s H scope (compEnvC scope cl C X.env) fp) ifs tt)
    (hk : ∀ (s : Shared) (H : Hp) (C : Addr) (cl : List (Str × Addr)) (fp : List Addr), PE (X.blk s H scope (compEnvC scope cl C X.env) fp) kx tk)
    (he : ∀ (s : Shared) (H : Hp) (C : Addr) (cl : List (Str × Addr)) (fp : List Addr), PE (X.blk s H scope (compEnvC scope cl C X.env) fp) vx tv) (hs : ∀ x, foldedSetIterable iter X.env x = pure x) :
    PS X (.Assign [.Name y py] (.DictComp kx vx [⟨tg, iter, ifs, 0⟩] scope pos) spos) (tAsg (tDc wi g tt tk tv (own.map (·.2))) (gName i)) := by
  refine ⟨fun pins s σ H D I h => ?_⟩
  rw [exec_Assign_Name_used _ _ _ _ hsw]
  refine wpAny_bind (wpAny_standAt (wpAny_bind ?_))
  show wpAny _ X.A (do let _ ← comprehension (.DictComp kx vx [⟨tg, iter, ifs, 0⟩] scope pos) scope X.env (firstIterPos [⟨tg, iter, ifs, 0⟩] pos) newDict false (eval iter X.env) (some (assign (.Name y py) X.env))) _ _ s
  have h : tDc wi g tt tk tv (own.map (·.2)) σ H (fun x H1 => gName i x σ H1 D.nx) := h
  refine wpAny_bind (thn (dc_core (Qf := fun _ s' => SP X pins D .next s') hc hN I hi ok hg ht hk he hs h fun L C s' m H' I' q hn f => ?_) fun _ s' hq => wpAny_pure (wpAny_pure hq))
  show wpAny _ _ (assign (.Name y py) X.env (.ref L)) _ _ _
  refine wpAny_assign_Name (store_ok2 (v := V.ref L) I' hN hy (.inl hyl) rfl (fun s2 I2 ⟨a, sb, ha⟩ => ?_) (.inr hyl))
  obtain ⟨f0, f1, f2, f3, f4, f5⟩ := f
  have haC : C ≠ a := by
    rcases ha with z | z
    · rw [z]; exact f1
    · exact fun e => f4 y a z e.symm
  refine ⟨m, hn.sameBut sb haC, fun h3 sb3 => ?_⟩
  exact ⟨_, H', I2.turned (t' := s2.toks) (fun b o hb e => (sb3.2 b hb).trans e) f0 f1 f3 f4 f5, q⟩
theorem sw_trueD {kx vx : Expr} {gs : List Comprehension} {scope : Scope} {pos py : Pos} {y : Str} {l : Nat} {env : Env} (hk : env.scope.kind = .function) (hy : env.scope.names.lookup y = some .local) (hl : (py.line == pos.line) = true)
    (ha : (scope.names.any fun (n, k) => n == y && (k == .local || k == .cell)) = false) : swapsWith (.DictComp kx vx gs scope pos) (some (.Name y py)) l env = pure true := by
  have ky : env.kindOf y = some .local := hy
  have hb : env.blockKind = .function := by unfold Env.blockKind; rw [hk]; rfl
  unfold swapsWith
  simp only [hb, ky, ha, Expr.pos, hl]
  rfl
/-- the known form of a new dict -/
theorem known_rep {m m' : Ms} {H H' : Hp} {h h' : Hy} {p : Addr} {t : Bool} {u : HO} {ks vs : List D} {ws : List V} {od : Obj} (hr : HRep m H h) (x : Ext m m' H H') (hp : H p = none) (mk : HRep (m'.mark p) H' h') (k1 : DHo t u ks ws) (k2 : Reps (m'.mark p) H' vs ws) :
    Ext m m' H (upd H' p (.frz od u)) ∧ HRep m' (upd H' p (.frz od u)) h' ∧ Rep m' (upd H' p (.frz od u)) (.dct t ks vs) (.ref p) := by
  have pg : p ∈ (m'.mark p).g := List.mem_cons_self ..
  have np : p ∉ m'.l := (mk.dj p pg).1
  have ng : p ∉ m'.g := fun z => by
    rw [x.g] at z
    obtain ⟨o, ho⟩ := (hr.dj p z).2
    rw [hp] at ho; cases ho
  refine ⟨⟨x.g, x.pre, x.new, fun a o ea na => ?_⟩, (mk.touch pg).less (m' := m') rfl fun b hb => List.mem_cons_of_mem _ hb, p, od, u, ws, rfl, fun z => ?_, upd_same, k1, Reps.less (m := m'.mark p) (m' := m') rfl (fun b hb => List.mem_cons_of_mem _ hb) _ _ (Reps.off (off_upd (.inr pg)) _ _ k2)⟩
  · rw [upd_ne (ne_of_none ea hp)]
    exact x.keep a o ea na
  · rcases z with z | z
    · exact np z
    · exact ng z
theorem up_mark {m : Ms} {H : Hp} {p : Addr} {o : HO} (hp : H p = none) : Up m (m.mark p) H (upd H p o) := ⟨List.prefix_refl _, fun a h => by
    rcases h with h | h
    · exact .inl (.inl h)
    · rcases List.mem_cons.mp h with z | z
      · exact .inr (z ▸ hp)
      · exact .inl (.inr z), fun a o' e _ => by rw [upd_ne (ne_of_none e hp)]; exact e⟩
theorem tup_pairs {K : PySem.W.Frag} {m : Ms} {H : Hp} : ∀ {xs : List D} {ps : List (D × D)} {ws : List V}, tupPairs xs = some ps → Reps m H xs ws → ∃ (as : List Addr) (vs : List (V × V)), ws = as.map V.ref ∧ Paired (fun p (kv : V × V) => SqT K H p [kv.1, kv.2]) as vs ∧ Reps m H (ps.map (·.1)) (vs.map (·.1)) ∧ Reps m H (ps.map (·.2)) (vs.map (·.2))
  | [], ps, ws, e, r => by cases e; exact ⟨[], [], r, .nil, rfl, rfl⟩
  | x :: xs, ps, ws, e, r => by
    cases x with
    | tup ys =>
      match ys, e, r with
      | [k, v], e, r =>
        simp only [tupPairs] at e
        obtain ⟨ps', e1, rfl⟩ := Option.map_eq_some_iff.mp e
        obtain ⟨w, r1, rfl, h1, h2⟩ := r
        obtain ⟨a, vs0, rfl, _, ha, h3⟩ := h1
        obtain ⟨kv, vv, rfl, h4, h5⟩ := reps2 h3
        obtain ⟨as, vs, rfl, h6, h7, h8⟩ := tup_pairs e1 h2
        exact ⟨a :: as, (kv, vv) :: vs, rfl, .cons (SqT.of ha) h6, ⟨_, _, rfl, h4, h7⟩, ⟨_, _, rfl, h5, h8⟩⟩
      | [], e, r => simp [tupPairs] at e
      | [_], e, r => simp [tupPairs] at e
      | _ :: _ :: _ :: _, e, r => simp [tupPairs] at e
    | _ => simp [tupPairs] at e
theorem paired_unmap {α β γ : Type} {F : α → γ → Prop} {g : β → γ} : ∀ {as : List α} {bs : List β}, Paired F as (bs.map g) → Paired (fun a b => F a (g b)) as bs
  | [], [], _ => .nil
  | [], _ :: _, h => by cases h
  | _ :: _, [], h => by cases h
  | a :: as, b :: bs, h => by cases h with | cons h t => exact .cons h (paired_unmap t)
/-- dict(x): a new one -/
def rDcp : List V → Hp → VK → Prop := fun vs H Q => ∃ m h d t ks ds h', HRep m H h ∧ Reps m H [d] vs ∧ dcpOf h d = .ok (.dct t ks ds) h' ∧
  ∀ p u ws, h' = h → H p = none → DHo t u ks ws → Reps (m.mark p) (upd H p u) ds ws → Q (.ref p) (upd H p u)
theorem bi_dcp (hc : X.calm = true) : CallR X (.type "dict") rDcp := by
  intro pins s σ H vs us Q I r hq
  obtain ⟨m, h, d, t, ks, ds, h', hr, rp, e, q⟩ := hq
  obtain ⟨v, rfl, h1⟩ := reps1 rp
  unfold dcpOf at e
  split at e
  · rename_i ed
    cases e
    obtain ⟨a, u, ws, rfl, k1, k2, k3⟩ := dct_of hr h1 ed
    obtain ⟨kvs, rfl, rfl, rfl⟩ := k2
    exact call_dictD pins s σ H _ us Q I r ⟨a, kvs, rfl, k1, fun p hp => q p _ _ rfl hp ⟨kvs, rfl, rfl, rfl⟩ (Reps.up (up_mark hp) _ _ k3)⟩
  · cases e
  · obtain ⟨e1, rfl⟩ := R.op_ok e
    obtain ⟨xs, e2, e3⟩ := Option.bind_eq_some_iff.mp e1
    obtain ⟨a, ws, rfl, ha, hw⟩ := lst_of (K := X.K) hr h1 e2
    unfold dictOf at e3
    obtain ⟨ps, e4, e5⟩ := Option.bind_eq_some_iff.mp e3
    split at e5
    · rename_i hk
      have e6 := Option.some.inj e5
      obtain ⟨as, vs, rfl, g1, g2, g3⟩ := tup_pairs (K := X.K) e4 hw
      obtain ⟨kvs, rfl, g4, g5⟩ := keys_pairs hk g2 g3
      refine call_dictP hc pins s σ H _ us Q I r ⟨a, as, kvs, rfl, SqL.of ha, paired_unmap (F := fun p (kv : V × V) => SqT X.K H p [kv.1, kv.2]) (g := fun kv : Key × V => (kV kv.1, kv.2)) g1, fun p hp => ?_⟩
      obtain ⟨m1, m2⟩ := merge_rep (kvs0 := []) (vs0 := []) g4 g5 rfl
      cases e6
      exact q p _ _ rfl hp ⟨_, rfl, m1, rfl⟩ (Reps.up (up_mark hp) _ _ m2)
    · cases e5
theorem n_dcp {l : Expr} {p pos : Pos} {da : Dn} (hc : X.calm = true) (hg : Gl X "dict") (hm : X.mg "dict" = none) (hs : noStar [l] = true) (ha : PE X l (T false da)) : PE X (.Call (.Name "dict" p) [l] [] pos) (TN fun sl h => (da sl h).bind fun x h => dcpOf h x) := by
  refine (pe_callTy (bi_dcp hc) hg hm (by decide +kernel) (ts_cons ha ts_nil (star_cons hs)) (by decide) (by decide) (star_cons hs) (star_back (noStar_tl hs))).mono fun σ H Q t => ?_
  obtain ⟨m, sl, h, t, ks, ds, h', hr, sr, e, q⟩ := t
  obtain ⟨x, h1, e1, e2⟩ := R.bind_ok e
  have e3 : ((da sl h).bind fun x h => (R.ok [] h : R (List D)).bind fun xs h => .ok (x :: xs) h) = .ok [x] h1 := by rw [e1]; rfl
  refine Ts.to (dn := fun sl h => (da sl h).bind fun x h => (R.ok [] h : R (List D)).bind fun xs h => .ok (x :: xs) h) hr sr e3 fun vs m1 H1 x1 hr1 sr1 rv => ⟨m1, h1, x, t, ks, ds, h', hr1, rv, e2, fun p u ws eh hp hd hw => ?_⟩
  subst eh
  refine q p m1 _ u ws ⟨x1.g, x1.pre, x1.new, fun a o ea na => ?_⟩ (hr1.laid hp) (x1.back hp fun z => hr1.nin hp z) (hr1.mark hp) upd_same hd hw
  rw [upd_ne (ne_of_none (x1.keep a o ea na) hp)]
  exact x1.keep a o ea na
theorem dcp_dct {da : Dn} : ∀ (sl : Sl) (h : Hy) (d : D) (h' : Hy), (fun sl h => (da sl h).bind fun x h => dcpOf h x) sl h = .ok d h' → ∃ t ks vs, d = .dct t ks vs := fun sl h d h' e => by
  obtain ⟨x, h1, e1, e2⟩ := R.bind_ok e
  unfold dcpOf at e2
  split at e2
  · cases e2; exact ⟨_, _, _, rfl⟩
  · cases e2
  · obtain ⟨e3, rfl⟩ := R.op_ok e2
    obtain ⟨xs, e4, e5⟩ := Option.bind_eq_some_iff.mp e3
    unfold dictOf at e5
    obtain ⟨ps, e6, e7⟩ := Option.bind_eq_some_iff.mp e5
    split at e7
    · cases e7; exact ⟨_, _, _, rfl⟩
    · cases e7
/-- what will be changed, made within an expression -/
theorem t_mkL {e : Expr} {dn : Dn} (h : PE X e (T true dn)) : PE X e (T false fun sl h => (dn sl h).bind fun x h => mkOf false h x) := by
  refine h.mono fun σ H Q t => ?_
  obtain ⟨m, sl, h, d, h', hr, sr, e, q⟩ := t
  obtain ⟨x, h1, e1, e2⟩ := R.bind_ok e
  refine T.to hr sr e1 fun v m1 H1 x1 hr1 sr1 rv f => ?_
  cases x with
  | lst xs =>
    cases e2
    obtain ⟨p, rfl, x2, hr2, rp⟩ := new_list hr x1 hr1 rv f
    exact q _ _ H1 x2 hr2 rp fresh_no
  | _ => cases e2
theorem t_mkD {e : Expr} {dn : Dn} (h : PE X e (TN dn)) (hd : ∀ sl h d h', dn sl h = .ok d h' → ∃ t ks vs, d = .dct t ks vs) : PE X e (T false fun sl h => (dn sl h).bind fun x h => mkOf true h x) := by
  refine h.mono fun σ H Q t => ?_
  obtain ⟨m, sl, h, d, h', hr, sr, e, q⟩ := t
  obtain ⟨x, h1, e1, e2⟩ := R.bind_ok e
  obtain ⟨t, ks, vs, rfl⟩ := hd _ _ _ _ e1
  cases e2
  refine ⟨m, sl, h, t, ks, vs, h1, hr, sr, e1, fun p m1 H1 u ws x1 hr1 hp mk hu k1 k2 => ?_⟩
  have ng : p ∉ m1.g := fun z => by
    rw [x1.g] at z
    obtain ⟨o, ho⟩ := (hr.dj p z).2
    rw [hp] at ho; cases ho
  have l1 : m1.l.length = h1.length := hr1.len
  have x2 : Ext m (m1.more p) H H1 := ⟨x1.g, x1.pre.trans (List.prefix_append _ _), fun b hb => by
    rcases List.mem_append.mp hb with z | z
    · exact x1.new b z
    · exact .inr (by rw [List.mem_singleton.mp z]; exact hp), x1.keep⟩
  refine q _ _ H1 x2 (mk.numberD ng hu k1 k2) ⟨p, rfl, ?_⟩ fresh_no
  show (m1.l ++ [p])[h1.length]? = some p
  rw [List.getElem?_append_right (by omega), l1]
  simp
/-- name = a new dict, known from then on -/
theorem s_setD {st : Stmt} {te : TE} {i : Nat} {dn : Dn} (h : PS X st (tAsg te (gName i))) (w : ∀ σ H Q, TN dn σ H Q → te σ H Q) (hd : ∀ sl h d h', dn sl h = .ok d h' → ∃ t ks vs, d = .dct t ks vs) : PS X st (TS fun sl h => (dn sl h).bind fun x h => nxt ((G.nm i).put x sl) h) := by
  refine ⟨fun pins s σ H D I t => ?_⟩
  obtain ⟨m, sl, h0, f, h', hr, sr, e, q⟩ := t
  obtain ⟨x, h1, e1, e2⟩ := R.bind_ok e
  obtain ⟨t, ks, vs, rfl⟩ := hd _ _ _ _ e1
  obtain ⟨sl', e3, rfl, rfl⟩ := nxt_ok e2
  have go := h.run pins s σ H ⟨fun σ' H' => ∃ p u, H' p = some u ∧ Mut (some u) ∧ ∀ od, D.nx σ' (upd H' p (.frz od u)), D.rt, D.bk, D.ct⟩ I
    (w _ _ _ ⟨m, sl, h0, t, ks, vs, _, hr, sr, e1, fun p m' H' u ws x hr' hp mk hu k1 k2 => ⟨p, u, hu, k1.mut, fun od => by
      obtain ⟨g1, g2, g3⟩ := known_rep (od := od) hr x hp mk k1 k2
      refine q m' _ g1 g2 _ ?_
      simp only [G.put] at e3
      split at e3
      · cases e3
        exact (sr.ext g1).set g3
      · cases e3⟩⟩)
  refine thn go fun f s1 q => ?_
  cases f with
  | next =>
    obtain ⟨σ', H', I', p, u, hp, mu, q⟩ := q
    obtain ⟨od, I2⟩ := I'.lock hp mu
    exact ⟨_, _, I2, q od⟩
  | ret v => exact q
  | brk => exact q
  | cont => exact q
end
end Z

end

section
set_option Elab.async false
set_option linter.all false
set_option maxRecDepth 100000
set_option autoImplicit false
/-! Z: list(range(..)), tuple(range(..)). -/
namespace Z
open PySem PySem.Spec PyProof.Rows L2

theorem reps_rg {m : Ms} {H : Hp} : ∀ (n : Nat) (a : Int), Reps m H (upFrom a 1 n) ((List.range n).map fun i => V.int (a + (i : Nat)))
  | 0, a => rfl
  | n + 1, a => by
    rw [List.range_succ_eq_map, List.map_cons, List.map_map]
    refine ⟨_, _, rfl, show V.int (a + (0 : Nat)) = V.int a by simp, ?_⟩
    have e : ((fun i => V.int (a + (i : Nat))) ∘ Nat.succ) = fun i => V.int (a + 1 + (i : Nat)) := by
      funext i
      show V.int (a + ((i + 1 : Nat) : Int)) = V.int (a + 1 + (i : Nat))
      congr 1
      omega
    rw [e]
    exact reps_rg n (a + 1)
abbrev Trg := L2.St → Hp → (Int → Int → Hp → Prop) → Prop
def RgD (dn : Dns) (tr : Trg) : Prop := ∀ σ H (Q : Int → Int → Hp → Prop), (∃ m sl h xs h', HRep m H h ∧ SRep m H sl σ ∧ dn sl h = .ok xs h' ∧ ∀ m' H' a b, Ext m m' H H' → HRep m' H' h' → RgOk a b → xs = upFrom a 1 (b - a).toNat → Q a b H') → tr σ H Q
section
variable {X : Cx} {a b l : Expr} {p pos : Pos} {da db : Dn}
theorem rg_1 (hg : Gl X "range") (hm : X.mg "range" = none) (hs : noStar [a] = true) (ha : PE X a (T false da)) : ∃ tr, PRg X (.Call (.Name "range" p) [a] [] pos) tr ∧ RgD (fun sl h => (da sl h).bind fun x h => match x with
    | .int j => if j < 1000000 ∧ -1000000 < j then .ok (upFrom 0 1 j.toNat) h else .no
    | _ => .no) tr := by
  refine ⟨_, prg_1 hg hm ha (star_cons hs), fun σ H Q t => ?_⟩
  obtain ⟨m, sl, h, xs, h', hr, sr, e, q⟩ := t
  obtain ⟨x, h1, e1, e⟩ := R.bind_ok e
  split at e
  · rename_i j
    by_cases hj : j < 1000000 ∧ -1000000 < j
    · rw [if_pos hj] at e
      cases e
      refine T.to hr sr e1 fun v m1 H1 x1 hr1 sr1 rv _ => ?_
      cases rv
      exact ⟨j, rfl, q m1 H1 0 j x1 hr1 ⟨by omega, by omega, by omega, by omega, by omega⟩ (by rw [Int.sub_zero])⟩
    · rw [if_neg hj] at e; cases e
  · cases e
theorem rg_2 (hg : Gl X "range") (hm : X.mg "range" = none) (hs : noStar [a, b] = true) (hb0 : (backTo pos (starEach [b] X.env)).any (·.1) = false) (ha : PE X a (T false da)) (hb : PE X b (T false db)) : ∃ tr, PRg X (.Call (.Name "range" p) [a, b] [] pos) tr ∧ RgD (fun sl h => (da sl h).bind fun x h => (db sl h).bind fun y h => match x, y with
    | .int i, .int j => if (-1000000 < i ∧ i < 1000000) ∧ -1000000 < j ∧ j < 1000000 then .ok (upFrom i 1 (j - i).toNat) h else .no
    | _, _ => .no) tr := by
  refine ⟨_, prg_2 hg hm ha hb (star_cons hs) (star_cons (noStar_tl hs)) hb0, fun σ H Q t => ?_⟩
  obtain ⟨m, sl, h, xs, h', hr, sr, ea, q⟩ := t
  obtain ⟨x, h1, e1, eb⟩ := R.bind_ok ea
  obtain ⟨y, h2, e2, e⟩ := R.bind_ok eb
  split at e
  · rename_i i j
    by_cases hj : (-1000000 < i ∧ i < 1000000) ∧ -1000000 < j ∧ j < 1000000
    · rw [if_pos hj] at e
      cases e
      refine T.to hr sr e1 fun v m1 H1 x1 hr1 sr1 rv _ => T.to hr1 sr1 e2 fun w m2 H2 x2 hr2 sr2 rw' _ => ?_
      cases rv; cases rw'
      exact ⟨i, j, rfl, rfl, q m2 H2 i j (x1.trans x2) hr2 ⟨by omega, by omega, by omega, by omega, by omega⟩ rfl⟩
    · rw [if_neg hj] at e; cases e
  · cases e
theorem t_listRg {dn : Dns} {tr : Trg} (hc : X.calm = true) (hg : Gl X "list") (hm : X.mg "list" = none) (hs : noStar [l] = true) (he : PRg X l tr) (hd : RgD dn tr) : PE X (.Call (.Name "list" p) [l] [] pos) (T true fun sl h => (dn sl h).bind fun xs h => Bi.ap .list h [.lst xs]) := by
  refine (pe_listRg hc hg hm he (star_cons hs)).mono fun σ H Q t => ?_
  obtain ⟨m, sl, h, d, h', hr, sr, e, q⟩ := t
  obtain ⟨xs, h1, e1, e2⟩ := R.bind_ok e
  cases e2
  refine hd σ H _ ⟨m, sl, h, xs, _, hr, sr, e1, fun m' H' a b x hr' ok ex => ⟨ok, fun p hp => ?_⟩⟩
  have rx : Reps m' H' xs (rgV a b) := by rw [ex]; exact reps_rg _ _
  have hp0 : H p = none := x.back hp fun z => hr'.nin hp z
  exact q _ m' _ (x.trans (Ext.laid hp)) (hr'.laid hp) (Rep.lstNew hr' hp rx) fun _ _ => ⟨p, rfl, hp0, hr'.mark hp⟩
theorem t_tupRg {dn : Dns} {tr : Trg} (hc : X.calm = true) (hg : Gl X "tuple") (hm : X.mg "tuple" = none) (hs : noStar [l] = true) (he : PRg X l tr) (hd : RgD dn tr) : PE X (.Call (.Name "tuple" p) [l] [] pos) (T true fun sl h => (dn sl h).bind fun xs h => Bi.ap .tuple h [.lst xs]) := by
  refine (pe_tupRg hc hg hm he (star_cons hs)).mono fun σ H Q t => ?_
  obtain ⟨m, sl, h, d, h', hr, sr, e, q⟩ := t
  obtain ⟨xs, h1, e1, e2⟩ := R.bind_ok e
  cases e2
  refine hd σ H _ ⟨m, sl, h, xs, _, hr, sr, e1, fun m' H' a b x hr' ok ex => ⟨ok, fun p hp => ?_⟩⟩
  have rx : Reps m' H' xs (rgV a b) := by rw [ex]; exact reps_rg _ _
  exact q _ m' _ (x.trans (Ext.laid hp)) (hr'.laid hp) (Rep.tupNew hr' hp rx) fresh_tup
end
end Z

end

section
set_option Elab.async false
set_option linter.all false
set_option maxRecDepth 100000
set_option autoImplicit false
/-! Z: whether a term is the code of an expression. -/
namespace Z
open PySem PySem.Spec PyProof.Rows L2

structure Ck where
  N : List Str
  nm : List Str
  cs : List (Nat × Int)
  ct : List (Nat × Str) := []
def visB (sc : Scope) (x : Str) : Bool := match sc.names.lookup x with
  | some .local => true
  | some .cell => true
  | some .free => true
  | _ => false
def locB (sc : Scope) (x : Str) : Bool := match sc.names.lookup x with
  | some .local => true
  | some .cell => true
  | _ => false
def lclB (sc : Scope) (x : Str) : Bool := match sc.names.lookup x with
  | some .local => true
  | _ => false
def glB (sc : Scope) (x : Str) : Bool := match sc.names.lookup x with
  | some .globalImplicit => true
  | _ => false
def nameOk (x : Str) : Bool := !(x == ("__debug__" : Str)) && !(x == ("__classdict__" : Str)) && !(decide (x = ("__name__" : Str)))
def sameBo : Bo → Operator → Bool
  | .add, .Add => true | .sub, .Sub => true | .mul, .Mult => true | .fdiv, .FloorDiv => true | .mod, .Mod => true | .pow, .Pow => true
  | _, _ => false
theorem sameBo_eq {o : Bo} {op : Operator} (h : sameBo o op = true) : op = bop o := by
  cases o <;> cases op <;> first | rfl | cases h
def sameC : Cmp → CmpOp → Bool
  | .eq, .Eq => true | .ne, .NotEq => true | .lt, .Lt => true | .le, .LtE => true | .gt, .Gt => true | .ge, .GtE => true | .is, .Is => true | .isN, .IsNot => true | .inn, .In => true | .nin, .NotIn => true
  | _, _ => false
theorem sameC_eq {o : Cmp} {op : CmpOp} (h : sameC o op = true) : op = cop o := by
  cases o <;> cases op <;> first | rfl | cases h
def notSet : Expr → Bool
  | .Set _ _ _ => false
  | _ => true
def plainB : Expr → Bool
  | .Slice _ _ _ _ => false
  | .Tuple _ _ _ => false
  | _ => true
theorem plain_of {b : Expr} (h : plainB b = true) : PlainIx b := by
  intro o i
  cases b <;> first | rfl | cases h
theorem folded_of {iter : Expr} (h : notSet iter = true) (env : Env) (x : Value) : foldedSetIterable iter env x = pure x := by
  cases iter <;> first | rfl | cases h
def isStar : Expr → Bool
  | .Starred _ _ => true
  | _ => false
theorem star_cons1 {e : Expr} {es : List Expr} {env : Env} (h : isStar e = false) : starEach (e :: es) env = (false, eval e env) :: starEach es env := by
  cases e <;> first | rfl | cases h
def isBool : Expr → Bool
  | .BoolOp _ _ _ => true
  | _ => false
/-- the names of built-in functions, of types -/
def biFn : Bi → Option (Str × String)
  | .len => some ("len", "len") | .sum => some ("sum", "sum") | .max1 => some ("max", "max") | .max2 => some ("max", "max") | .min1 => some ("min", "min") | .min2 => some ("min", "min")
  | .any => some ("any", "any") | .all => some ("all", "all") | .sorted => some ("sorted", "sorted")
  | _ => none
def biTy : Bi → Option (Str × String)
  | .tuple => some ("tuple", "tuple") | .list => some ("list", "list") | .int => some ("int", "int")
  | _ => none
mutual
def G.ck (N : List Str) (sc : Scope) (f : Str → Bool) : G → Expr → Bool
  | .nm i => fun x => match x with
    | .Name y _ => decide (N[i]? = some y) && locB sc y && (f y || lclB sc y)
    | _ => false
  | .tup gs => fun x => match x with
    | .Tuple es _ _ => G.cks N sc f gs es
    | _ => false
def G.cks (N : List Str) (sc : Scope) (f : Str → Bool) : List G → List Expr → Bool
  | [] => fun xs => match xs with
    | [] => true
    | _ :: _ => false
  | g :: gs => fun xs => match xs with
    | x :: xs => !isStar x && G.ck N sc f g x && G.cks N sc f gs xs
    | [] => false
end
def subB (xs ys : List Nat) : Bool := xs.all fun i => ys.contains i
def ownOf (N : List Str) (own : List Nat) : List (Str × Nat) := own.map fun i => (N.getD i ⟨#[]⟩, i)
theorem ownOf_ix {N : List Str} {own : List Nat} : (ownOf N own).map (·.2) = own := by
  unfold ownOf
  rw [List.map_map]
  exact List.map_id' own
def fnB (scope : Scope) : Str → Bool := fun x => scope.names.lookup x == some .cell
def E.fr : E → Bool
  | .bin _ _ _ => true | .tup _ => true | .lst _ => true | .slo _ _ => true | .shi _ _ => true | .slh _ _ _ => true | .rev _ => true | .bi _ _ => true
  | .lc _ _ _ _ _ => true | .lc2 _ _ _ _ _ _ _ _ _ => true | .bis _ _ => true
  | _ => false
/-- a range -/
def isRg : I → Bool
  | .r1 _ => true
  | .r2 _ _ => true
  | _ => false
theorem back_one {b : Expr} {env : Env} {pos : Pos} (h : noStar [b] = true) : (backTo pos (starEach [b] env)).any (·.1) = false := by
  rw [star_cons h]
  rfl
mutual
def E.ck (C : Ck) : E → Scope → (Str → Bool) → Expr → Bool
  | .var i => fun sc _ x => match x with
    | .Name y _ => decide (C.N[i]? = some y) && visB sc y && nameOk y
    | _ => false
  | .cst d => fun _ _ x => match x with
    | .Constant k _ _ => cstOk d k
    | _ => false
  | .gl i d => fun sc _ x => match x, d with
    | .Name y _, .int v => decide (C.nm[i]? = some y) && decide (C.cs.lookup i = some v) && glB sc y && nameOk y
    | .Name y _, .str v => decide (C.nm[i]? = some y) && decide (C.ct.lookup i = some v) && glB sc y && nameOk y
    | _, _ => false
  | .bin o a b => fun sc f x => match x with
    | .BinOp l op r _ => sameBo o op && a.ck C sc f l && b.ck C sc f r
    | _ => false
  | .neg a => fun sc f x => match x with
    | .UnaryOp .USub l _ => a.ck C sc f l
    | _ => false
  | .nt a => fun sc f x => match x with
    | .UnaryOp .Not l _ => a.ck C sc f l
    | _ => false
  | .an a b => fun sc f x => match x with
    | .BoolOp .And [l, r] _ => a.ck C sc f l && b.ck C sc f r
    | .BoolOp .And (l :: r :: r' :: rs) p => a.ck C sc f l && b.ck C sc f (.BoolOp .And (r :: r' :: rs) p)
    | _ => false
  | .orr a b => fun sc f x => match x with
    | .BoolOp .Or [l, r] _ => a.ck C sc f l && b.ck C sc f r
    | .BoolOp .Or (l :: r :: r' :: rs) p => a.ck C sc f l && b.ck C sc f (.BoolOp .Or (r :: r' :: rs) p)
    | _ => false
  | .cmp c a b => fun sc f x => match x with
    | .Compare l [op] [r] _ => sameC c op && !(behindInMarks op r) && a.ck C sc f l && b.ck C sc f r
    | _ => false
  | .chain c c' a b e => fun sc f x => match x with
    | .Compare l [op, op'] [r, r'] _ => sameC c op && sameC c' op' && !(lastMarks [op, op'] [r, r']) && a.ck C sc f l && b.ck C sc f r && e.ck C sc f r'
    | _ => false
  | .ife c a b => fun sc f x => match x with
    | .IfExp ce ae be _ => c.ck C sc f ce && a.ck C sc f ae && b.ck C sc f be
    | _ => false
  | .tup es => fun sc f x => match x with
    | .Tuple xs _ _ => es.ck C sc f xs
    | _ => false
  | .lst es => fun sc f x => match x with
    | .List xs _ => es.ck C sc f xs
    | _ => false
  | .ix a i => fun sc f x => match x with
    | .Subscript l r _ => plainB r && a.ck C sc f l && i.ck C sc f r
    | _ => false
  | .slo a lo => fun sc f x => match x with
    | .Subscript l (.Slice (some r) none none _) _ => a.ck C sc f l && lo.ck C sc f r
    | _ => false
  | .shi a hi => fun sc f x => match x with
    | .Subscript l (.Slice none (some r) none _) _ => a.ck C sc f l && hi.ck C sc f r
    | _ => false
  | .slh a lo hi => fun sc f x => match x with
    | .Subscript l (.Slice (some r) (some r') none _) _ => a.ck C sc f l && lo.ck C sc f r && hi.ck C sc f r'
    | _ => false
  | .rev a => fun sc f x => match x with
    | .Subscript l (.Slice none none (some (.UnaryOp .USub (.Constant (.int 1) _ _) _)) _) _ => a.ck C sc f l
    | _ => false
  | .call i es => fun sc f x => match x with
    | .Call (.Name y _) (l :: ls) [] _ => decide (C.nm[i]? = some y) && glB sc y && nameOk y && noStar (l :: ls) && es.ck C sc f (l :: ls)
    | _ => false
  | .bi b es => fun sc f x => match es with
    | .cons e .nil => (match x with
      | .Call (.Name y _) [l] [] _ => glB sc y && nameOk y && noStar [l] && e.ck C sc f l && (match biFn b, biTy b with
        | some (n, _), _ => decide (y = n)
        | none, some (n, _) => decide (y = n)
        | _, _ => false)
      | .Call (.Name y _) [l, .Name t _] [] _ => decide (y = ("isinstance" : Str)) && glB sc y && glB sc t && nameOk t && noStar [l] && e.ck C sc f l && (match isiTy b with
        | some n => decide (t = (n : Str))
        | none => false)
      | _ => false)
    | es => (match x with
      | .Call (.Name y _) (l :: ls) [] _ => glB sc y && nameOk y && noStar (l :: ls) && es.ck C sc f (l :: ls) && (match biFn b with
        | some (n, _) => decide (y = n)
        | _ => false)
      | _ => false)
  | .lc elt g s ifs own => fun sc f x => match x with
    | .ListComp ex [⟨tg, iter, ix, 0⟩] scope _ => blkC C.N sc scope (ownOf C.N own) && notSet iter && subB g.idx own && s.ck C sc f tg iter && g.ck C.N (relS scope sc) (fnB scope) tg && ifs.ckT C (relS scope sc) (fnB scope) ix && elt.ck C (relS scope sc) (fnB scope) ex
    | _ => false
  | .lc2 elt g s ifs g' s' ifs' own own' => fun sc f x => match x with
    | .ListComp ex [⟨tg, iter, ix, 0⟩, ⟨tg', iter', ix', 0⟩] scope _ => blkC C.N sc scope (ownOf C.N own) && notSet iter && notSet iter' && subB g.idx own && subB g'.idx own' && subB own' own && s.ck C sc f tg iter && g.ck C.N (relS scope sc) (fnB scope) tg && ifs.ckT C (relS scope sc) (fnB scope) ix &&
        s'.ck C (relS scope sc) (fnB scope) tg' iter' && g'.ck C.N (relS scope sc) (fnB scope) tg' && ifs'.ckT C (relS scope sc) (fnB scope) ix' && elt.ck C (relS scope sc) (fnB scope) ex
    | _ => false
  | .bis b s => fun sc f x => match x with
    | .Call (.Name y _) [l] [] _ => glB sc y && noStar [l] && (match b with
      | .list => decide (y = ("list" : Str))
      | .tuple => decide (y = ("tuple" : Str))
      | _ => false) && isRg s && s.ck C sc f l l
    | _ => false
  | .mk e => fun sc f x => (isNd e || e.fr) && e.ck C sc f x
  | .dcp e => fun sc f x => match x with
    | .Call (.Name y _) [l] [] _ => decide (y = ("dict" : Str)) && glB sc y && noStar [l] && e.ck C sc f l
    | _ => false
  | .dnew _ => fun _ _ x => match x with
    | .Dict [] [] _ => true
    | _ => false
  | .disp kvs => fun sc f x => match x with
    | .Dict (k :: ks) vs _ => decide ((k :: ks).length ≤ 15) && kvs.ckP C sc f (k :: ks) vs
    | _ => false
  | .dgetD d k z => fun sc f x => match x with
    | .Call (.Attribute (.Name y p) m apos) [l, r] [] cpos => decide (m = ("get" : Str)) && (apos.endLine == cpos.line) && noStar [l, r] && d.ck C sc f (.Name y p) && k.ck C sc f l && z.ck C sc f r
    | _ => false
  | .dc k v g s ifs own => fun sc f x => match x with
    | .DictComp kx vx [⟨tg, iter, ix, 0⟩] scope _ => blkC C.N sc scope (ownOf C.N own) && notSet iter && subB g.idx own && s.ck C sc f tg iter && g.ck C.N (relS scope sc) (fnB scope) tg && ifs.ckT C (relS scope sc) (fnB scope) ix && k.ck C (relS scope sc) (fnB scope) kx && v.ck C (relS scope sc) (fnB scope) vx
    | _ => false
def Es.ck (C : Ck) : Es → Scope → (Str → Bool) → List Expr → Bool
  | .nil => fun _ _ xs => match xs with
    | [] => true
    | _ :: _ => false
  | .cons e es => fun sc f xs => match xs with
    | x :: xs => !isStar x && e.ck C sc f x && es.ck C sc f xs
    | [] => false
  | .star e es => fun sc f xs => match xs with
    | .Starred x _ :: xs => e.ck C sc f x && es.ck C sc f xs
    | _ => false
/-- a display's keys and values in turn -/
def Es.ckP (C : Ck) : Es → Scope → (Str → Bool) → List (Option Expr) → List Expr → Bool
  | .nil => fun _ _ ks vs => match ks, vs with
    | [], [] => true
    | _, _ => false
  | .cons k (.cons v r) => fun sc f ks vs => match ks, vs with
    | some kx :: ks, vx :: vs => k.ck C sc f kx && v.ck C sc f vx && r.ckP C sc f ks vs
    | _, _ => false
  | .cons _ .nil => fun _ _ _ _ => false
  | .cons _ (.star _ _) => fun _ _ _ _ => false
  | .star _ _ => fun _ _ _ _ => false
/-- the tests of a comprehension -/
def Es.ckT (C : Ck) : Es → Scope → (Str → Bool) → List Expr → Bool
  | .nil => fun _ _ xs => match xs with
    | [] => true
    | _ :: _ => false
  | .cons e .nil => fun sc f xs => match xs with
    | [x] => e.ck C sc f x
    | _ => false
  | .cons _ _ => fun _ _ _ => false
  | .star _ _ => fun _ _ _ => false
def I.ck (C : Ck) : I → Scope → (Str → Bool) → Expr → Expr → Bool
  | .it e => fun sc f _ x => e.ck C sc f x
  | .r1 a => fun sc f _ x => match x with
    | .Call (.Name y _) [l] [] _ => decide (y = ("range" : Str)) && glB sc y && noStar [l] && a.ck C sc f l
    | _ => false
  | .r2 a b => fun sc f _ x => match x with
    | .Call (.Name y _) [l, r] [] _ => decide (y = ("range" : Str)) && glB sc y && noStar [l, r] && a.ck C sc f l && b.ck C sc f r
    | _ => false
  | .r3 a b c => fun sc f _ x => match x with
    | .Call (.Name y _) [l, r, r'] [] _ => decide (y = ("range" : Str)) && glB sc y && noStar [l, r, r'] && a.ck C sc f l && b.ck C sc f r && c.ck C sc f r'
    | _ => false
  | .zip a b => fun sc f tg x => match tg, x with
    | .Tuple _ _ _, .Call (.Name y _) [l, r] [] _ => decide (y = ("zip" : Str)) && glB sc y && noStar [l, r] && a.ck C sc f l && b.ck C sc f r
    | _, _ => false
  | .vals d => fun sc f _ x => match x with
    | .Call (.Attribute (.Name y p) m apos) [] [] cpos => decide (m = ("values" : Str)) && (apos.endLine == cpos.line) && d.ck C sc f (.Name y p)
    | _ => false
  | .items d => fun sc f tg x => match tg, x with
    | .Tuple _ _ _, .Call (.Attribute (.Name y p) m apos) [] [] cpos => decide (m = ("items" : Str)) && (apos.endLine == cpos.line) && d.ck C sc f (.Name y p)
    | _, _ => false
  | .zip3 _ _ _ => fun _ _ _ _ => false
  | .enum a => fun sc f tg x => match tg, x with
    | .Tuple _ _ _, .Call (.Name y _) [l] [] _ => decide (y = ("enumerate" : Str)) && glB sc y && noStar [l] && a.ck C sc f l
    | _, _ => false
  | .enumzip _ _ => fun _ _ _ _ => false
end
end Z

end

section
set_option Elab.async false
set_option linter.all false
set_option maxRecDepth 100000
set_option autoImplicit false
/-! Z: what is checked is so. -/
namespace Z
open PySem PySem.Spec PyProof.Rows L2

theorem vis_of {sc : Scope} {x : Str} (h : visB sc x = true) : Vis sc x := by
  unfold visB at h
  split at h
  · exact .inl (by assumption)
  · exact .inr (.inl (by assumption))
  · exact .inr (.inr (by assumption))
  · cases h
theorem loc_of {sc : Scope} {x : Str} (h : locB sc x = true) : Loc sc x := by
  unfold locB at h
  split at h
  · exact .inl (by assumption)
  · exact .inr (by assumption)
  · cases h
theorem lcl_of {sc : Scope} {x : Str} (h : lclB sc x = true) : sc.names.lookup x = some .local := by
  unfold lclB at h
  split at h
  · assumption
  · cases h
theorem gl_of {sc : Scope} {x : Str} (h : glB sc x = true) : sc.names.lookup x = some .globalImplicit := by
  unfold glB at h
  split at h
  · assumption
  · cases h
theorem nameOk_of {x : Str} (h : nameOk x = true) : (x == ("__debug__" : Str)) = false ∧ (x == ("__classdict__" : Str)) = false ∧ x ≠ ("__name__" : Str) := by
  unfold nameOk at h
  simp only [Bool.and_eq_true, Bool.not_eq_true', decide_eq_false_iff_not] at h
  exact ⟨h.1.1, h.1.2, h.2⟩
def bltNames : List Str := ["len", "sum", "max", "min", "any", "all", "sorted", "tuple", "list", "int", "bool", "str", "dict", "isinstance", "range", "zip", "enumerate"]
theorem boot_fns : (["len", "sum", "max", "min", "any", "all", "sorted", "isinstance"].all fun (n : String) => decide (bootBuiltins (n : Str) = some (.builtin n))) = true := by decide +kernel
theorem boot_tys : (["tuple", "list", "int", "bool", "str", "dict"].all fun (n : String) => decide (bootBuiltins (n : Str) = some (.type n))) = true := by decide +kernel

/-- a def's promise -/
def SpOf (g : Fn) : Sp := fun vs H Q _ => ∃ m h ds d h', HRep m H h ∧ Reps m H ds vs ∧ g ds h = .ok d h' ∧ ∀ v m' H', Ext m m' H H' → HRep m' H' h' → Rep m' H' d v → Q v H'
theorem _root_.L2.PE.wk {X : Cx} {e : Expr} {fr : Bool} {dn : Dn} (h : PE X e (T fr dn)) : PE X e (T false dn) := h.weak
structure OKX (X : Cx) (C : Ck) (Γ : Ga) : Prop where
  calm : X.calm = true
  kind : X.env.scope.kind = .function
  N : X.N = C.N
  nd : X.N.Nodup
  un : X.A.units + 65 < cLine
  cst : ∀ (i : Nat) (x : Str) (v : Int), C.nm[i]? = some x → C.cs.lookup i = some v → ∃ u, X.mg x = some u ∧ RelV (.int v) u
  cst2 : ∀ (i : Nat) (x : Str) (v : Str), C.nm[i]? = some x → C.ct.lookup i = some v → ∃ u, X.mg x = some u ∧ RelV (.str v) u
  blt : ∀ x ∈ bltNames, X.mg x = none
  fns : ∀ (i : Nat) (g : Fn) (x : Str), Γ i = some g → C.nm[i]? = some x → ∃ a k, X.mg x = some (.ref a) ∧ PySem.W.keepIn X.K (.ref a) = true ∧ FnR X.prog X.w X.K X.mg X.base CX0 k a (SpOf g) ∧ Room k X.A
theorem OKX.blk {X : Cx} {C : Ck} {Γ : Ga} (ok : OKX X C Γ) {s : Shared} {H : Hp} {scope : Scope} {cl : List (Str × Addr)} {A : Addr} {fp : List Addr} (hk : scope.kind = .function) : OKX (X.blk s H scope (compEnvC scope cl A X.env) fp) C Γ :=
  ⟨ok.calm, hk, ok.N, ok.nd, ok.un, ok.cst, ok.cst2, ok.blt, ok.fns⟩
section
variable {X : Cx} {C : Ck} {Γ : Ga} {x : Expr} {dn : Dn} {fr : Bool}
theorem t_call {e : Expr} {es : List Expr} {ds : Dns} {p pos : Pos} {y : Str} {g : Fn} {a : Addr} {k : Nat} (F : FnR X.prog X.w X.K X.mg X.base CX0 k a (SpOf g)) (hr : Room k X.A) (hk : PySem.W.keepIn X.K (.ref a) = true) (hg : Gl X y) (hm : X.mg y = some (.ref a)) (hs : noStar (e :: es) = true)
    (ha : PA X (e :: es) (Ts ds)) (hd : (y == ("__debug__" : Str)) = false) : PE X (.Call (.Name y p) (e :: es) [] pos) (T false fun sl h => (ds sl h).bind fun xs h => g xs h) := by
  have base : PE X (.Call (.Name y p) (e :: es) [] pos) (fun σ H Q => Ts ds σ H fun vs H1 => SpOf g vs H1 Q E0) := by
    refine ⟨fun pins s σ H Q I h => ?_⟩
    refine wpAny_Call_Name_kw (ld_glob I hg hm ?_ hd)
    refine PySem.W.callWith_K (h₀ := X.base) I.ok.mod.kin hk (thn (ha.run pos pins s σ H _ I h) fun us s1 ⟨vs, H1, I1, r, q⟩ => ⟨I1.kIn, ?_⟩) (star_cons hs) (star_back (noStar_tl hs))
    exact wpAny_call (run_fnR F hr pass0 I1 r q)
  refine base.mono fun σ H Q t => ?_
  obtain ⟨m, sl, h, d, h', hr, sr, e, q⟩ := t
  obtain ⟨xs, h1, e1, e2⟩ := R.bind_ok e
  exact Ts.to hr sr e1 fun vs m1 H1 x1 hr1 sr1 rv => ⟨m1, h1, xs, d, h', hr1, rv, e2, fun v m2 H2 x2 hr2 rv2 => q v m2 H2 (x1.trans x2) hr2 rv2 fresh_no⟩
theorem t_none {dn : Dn} (h : ∀ sl h d h', dn sl h ≠ .ok d h') : PE X x (T fr dn) := ⟨fun pins s σ H Q I t => by
  obtain ⟨m, sl, h0, d, h', _, _, e, _⟩ := t
  exact absurd e (h _ _ _ _)⟩
theorem t_ifeT {c a b : Expr} {pos : Pos} {dc da db : Dn} (hc : PT X c (TB (asB dc))) (ha : PT X a (TB (asB da))) (hb : PT X b (TB (asB db))) : PW X (.IfExp c a b pos) (TB (asB fun sl h => (dc sl h).bind fun x h => match truth h x with
    | some true => da sl h
    | some false => db sl h
    | none => .no)) := by
  refine ⟨fun wh pins s σ H Q I t => ?_⟩
  obtain ⟨m, sl, h, k, h', hr, sr, e, q⟩ := t
  obtain ⟨z, h1, e1, e2⟩ := R.bind_ok e
  obtain ⟨x, h2, e3, e4⟩ := R.bind_ok e1
  have mk : ∀ {dn : Dn}, dn sl h2 = .ok z h1 → asB dn sl h2 = .ok k h' := fun {dn} ee => by
    show (dn sl h2).bind _ = _; rw [ee]; exact e2
  refine isTrue_IfExp ?_
  split at e4
  · rename_i ek
    have e9 : asB dc sl h = .ok true h2 := by show (dc sl h).bind _ = _; rw [e3]; show R.op (truth h2 x) h2 = _; rw [ek]; rfl
    refine thn (hc.run pins s σ H (fun b H1 => b = true ∧ TB (asB da) σ H1 Q) I (TB.to hr sr e9 fun m1 H1 x1 hr1 sr1 => ⟨rfl, TB.to hr1 sr1 (mk e4) fun m2 H2 x2 hr2 _ => q m2 H2 (x1.trans x2) hr2⟩)) fun b s1 ⟨H1, I1, e0, q1⟩ => ?_
    subst e0
    exact ha.run pins s1 σ H1 Q I1 q1
  · rename_i ek
    have e9 : asB dc sl h = .ok false h2 := by show (dc sl h).bind _ = _; rw [e3]; show R.op (truth h2 x) h2 = _; rw [ek]; rfl
    refine thn (hc.run pins s σ H (fun b H1 => b = false ∧ TB (asB db) σ H1 Q) I (TB.to hr sr e9 fun m1 H1 x1 hr1 sr1 => ⟨rfl, TB.to hr1 sr1 (mk e4) fun m2 H2 x2 hr2 _ => q m2 H2 (x1.trans x2) hr2⟩)) fun b s1 ⟨H1, I1, e0, q1⟩ => ?_
    subst e0
    exact hb.run pins s1 σ H1 Q I1 q1
  · cases e4
/-- as a value, as a test, as a test whatever its whole is -/
structure Snd (X : Cx) (x : Expr) (fr : Bool) (dn : Dn) : Prop where
  v : PE X x (T fr dn)
  t : PT X x (TB (asB dn))
  w : isBool x = true → PW X x (TB (asB dn))
theorem Snd.mk1 (h : PE X x (T fr dn)) (he : ∀ whole, isTrue x X.env whole = (do let v ← whole; standAt x.pos; holding [v] (truthy v))) (hb : isBool x = false) : Snd X x fr dn :=
  ⟨h, t_plain h.wk he, fun z => by rw [hb] at z; cases z⟩
theorem Snd.mk2 (h : PE X x (T fr dn)) (ht : PT X x (TB (asB dn))) (hb : isBool x = false) : Snd X x fr dn := ⟨h, ht, fun z => by rw [hb] at z; cases z⟩
theorem Snd.mk3 (h : PE X x (T fr dn)) (hw : PW X x (TB (asB dn))) : Snd X x fr dn := ⟨h, hw.pt, fun _ => hw⟩
/-- the rest of an and, an or -/
theorem Snd.and1 {a : Expr} {p : Pos} (h : Snd X a fr dn) : PE X (.BoolOp .And [a] p) (T false dn) ∧ PW X (.BoolOp .And [a] p) (TB (asB dn)) := ⟨(pe_one h.v).wk, pw_and1 h.t⟩
theorem Snd.or1 {a : Expr} {p : Pos} (h : Snd X a fr dn) : PE X (.BoolOp .Or [a] p) (T false dn) ∧ PW X (.BoolOp .Or [a] p) (TB (asB dn)) := ⟨(pe_one h.v).wk, pw_or1 h.t⟩
end
end Z

end

section
set_option Elab.async false
set_option linter.all false
set_option maxRecDepth 100000
set_option autoImplicit false
/-! Z: what is checked is so: targets, expressions. -/
namespace Z
open PySem PySem.Spec PyProof.Rows L2

theorem each_cons {e : Expr} {es : List Expr} {env : Env} (h : isStar e = false) : assignEach (e :: es) env = (false, assign e env) :: assignEach es env := by
  cases e <;> first | rfl | cases h
mutual
theorem G.sound {X : Cx} {N : List Str} {sc : Scope} {f : Str → Bool} (hc : X.calm = true) (hN : X.N = N) (nd : X.N.Nodup) (hs : X.env.scope = sc) (hf : ∀ x, f x = true → X.fn x = true) : ∀ (g : G) (x : Expr), g.ck N sc f x = true → PG X x (gT g)
  | .nm i, x, h => by
    unfold G.ck at h
    split at h
    · simp only [Bool.and_eq_true, Bool.or_eq_true, decide_eq_true_eq] at h
      refine g_name nd (hN ▸ h.1.1) (hs ▸ loc_of h.1.2) ?_
      rcases h.2 with k | k
      · exact .inl (hf _ k)
      · exact .inr (hs ▸ lcl_of k)
    · cases h
  | .tup gs, x, h => by
    unfold G.ck at h
    split at h
    · obtain ⟨h1, h2, h3, h4⟩ := G.sounds hc hN nd hs hf gs _ h
      exact g_tup hc h1 h2 h3 h4
    · cases h
theorem G.sounds {X : Cx} {N : List Str} {sc : Scope} {f : Str → Bool} (hc : X.calm = true) (hN : X.N = N) (nd : X.N.Nodup) (hs : X.env.scope = sc) (hf : ∀ x, f x = true → X.fn x = true) : ∀ (gs : List G) (xs : List Expr), G.cks N sc f gs xs = true →
    PGs X xs (gTs gs) ∧ xs.length = gs.length ∧ (assignEach xs X.env).length = xs.length ∧ (assignEach xs X.env).findIdx? (·.1) = none
  | [], xs, h => by
    unfold G.cks at h
    split at h
    · exact ⟨g_nil, rfl, rfl, rfl⟩
    · cases h
  | g :: gs, xs, h => by
    unfold G.cks at h
    split at h
    · rename_i x ys
      simp only [Bool.and_eq_true, Bool.not_eq_true'] at h
      obtain ⟨⟨k1, k2⟩, k3⟩ := h
      obtain ⟨h1, h2, h3, h4⟩ := G.sounds hc hN nd hs hf gs _ k3
      have e := each_cons (es := ys) (env := X.env) k1
      refine ⟨g_cons (G.sound hc hN nd hs hf g _ k2) h1 (by rw [e]; rfl), by rw [List.length_cons, List.length_cons, h2], by rw [e, List.length_cons, List.length_cons, h3], ?_⟩
      rw [e, List.findIdx?_cons, h4]
      rfl
    · cases h
end
theorem sub_of {xs ys : List Nat} (h : subB xs ys = true) : ∀ i ∈ xs, i ∈ ys := by
  intro i hi
  unfold subB at h
  rw [List.all_eq_true] at h
  simpa using h i hi
section
variable {X : Cx} {C : Ck} {Γ : Ga} {sc : Scope}
theorem blt_at (ok : OKX X C Γ) {y : Str} (h : y ∈ bltNames) : X.mg y = none := ok.blt y h
/-- a built-in function's call -/
theorem t_biFn (ok : OKX X C Γ) {b : Bi} {n : Str} {id : String} (h : biFn b = some (n, id)) : CallR X (.builtin id) (rBi b) ∧ X.mg n = none ∧ bootBuiltins n = some (.builtin id) := by
  cases b <;> simp only [biFn, Option.some.injEq, Prod.mk.injEq, reduceCtorEq] at h <;> obtain ⟨rfl, rfl⟩ := h
  · exact ⟨bi_len, ok.blt _ (by decide), by decide +kernel⟩
  · exact ⟨bi_sum ok.calm, ok.blt _ (by decide), by decide +kernel⟩
  · exact ⟨bi_max1 ok.calm ok.un, ok.blt _ (by decide), by decide +kernel⟩
  · exact ⟨bi_max2 ok.calm, ok.blt _ (by decide), by decide +kernel⟩
  · exact ⟨bi_min1 ok.calm ok.un, ok.blt _ (by decide), by decide +kernel⟩
  · exact ⟨bi_min2 ok.calm, ok.blt _ (by decide), by decide +kernel⟩
  · exact ⟨bi_any ok.calm, ok.blt _ (by decide), by decide +kernel⟩
  · exact ⟨bi_all ok.calm, ok.blt _ (by decide), by decide +kernel⟩
  · exact ⟨bi_sorted ok.calm ok.un, ok.blt _ (by decide), by decide +kernel⟩
theorem t_biTy (ok : OKX X C Γ) {b : Bi} {n : Str} {id : String} (h : biTy b = some (n, id)) : CallR X (.type id) (rBi b) ∧ X.mg n = none ∧ bootBuiltins n = some (.type id) := by
  cases b <;> simp only [biTy, Option.some.injEq, Prod.mk.injEq, reduceCtorEq] at h <;> obtain ⟨rfl, rfl⟩ := h
  · exact ⟨bi_tuple, ok.blt _ (by decide), by decide +kernel⟩
  · exact ⟨bi_list ok.calm, ok.blt _ (by decide), by decide +kernel⟩
  · exact ⟨bi_int, ok.blt _ (by decide), by decide +kernel⟩
theorem t_isi (ok : OKX X C Γ) {b : Bi} {n : String} (h : isiTy b = some n) : X.mg (n : Str) = none ∧ bootBuiltins (n : Str) = some (.type n) := by
  cases b <;> simp only [isiTy, Option.some.injEq, reduceCtorEq] at h <;> subst h
  all_goals exact ⟨ok.blt _ (by decide), by decide +kernel⟩
theorem isi_call (ok : OKX X C Γ) {b : Bi} {n : String} {l : Expr} {p q pos : Pos} {da : Dn} (h : isiTy b = some n) (hg : Gl X "isinstance") (hg2 : Gl X (n : Str)) (hs : noStar [l] = true) (hn : nameOk (n : Str) = true) (ha : PE X l (T false da)) :
    PE X (.Call (.Name "isinstance" p) [l, .Name (n : Str) q] [] pos) (T true fun sl h => (da sl h).bind fun x h => b.ap h [x]) := by
  obtain ⟨k1, k2⟩ := t_isi ok h
  have hs2 : noStar [l, .Name (n : Str) q] = true := by
    cases l <;> first | rfl | cases hs
  have hT : PE X (.Name (n : Str) q) (tC (V.ty n)) := pe_bltn hg2 k1 k2 rfl (nameOk_of hn).2.2 (nameOk_of hn).1
  refine (pe_callB (bi_isi h) hg (ok.blt _ (by decide)) (by decide +kernel) (pa_two hs2 ha hT) (by decide) (by decide) (star_cons hs2) (star_back (noStar_tl hs2))).mono fun σ H Q t => ?_
  obtain ⟨m, sl, h0, d, h', hr, sr, e, w⟩ := t
  obtain ⟨x, h1, e1, e2⟩ := R.bind_ok e
  refine T.to hr sr e1 fun v m1 H1 x1 hr1 sr1 rv _ => ⟨v, rfl, m1, h1, [x], d, h', hr1, ⟨v, [], rfl, rv, rfl⟩, e2, fun v2 m2 H2 x2 hr2 rv2 f => w v2 m2 H2 (x1.trans x2) hr2 rv2 fun z k => ?_⟩
  obtain ⟨p, ep, hp, mk⟩ := f z k
  refine ⟨p, ep, ?_, mk⟩
  obtain ⟨xs, rfl⟩ := k
  obtain ⟨a', vs, ea, nb, _, _⟩ := rv2
  rw [ep] at ea; cases ea
  exact x1.back hp fun z => nb (by
    rcases z with z | z
    · exact .inl (x2.pre.subset z)
    · exact .inr (x2.g ▸ z))
end
end Z

end

section
set_option Elab.async false
set_option linter.all false
set_option maxRecDepth 100000
set_option autoImplicit false
set_option maxHeartbeats 2000000
/-! Z: what is checked is so: expressions. -/
namespace Z
open PySem PySem.Spec PyProof.Rows L2

/-- for the blocks of a comprehension -/
abbrev Blk (X : Cx) (scope : Scope) (p : Cx → Prop) : Prop := ∀ (s : Shared) (H : Hp) (A : Addr) (cl : List (Str × Addr)) (fp : List Addr), p (X.blk s H scope (compEnvC scope cl A X.env) fp)
theorem tests_nil {X : Cx} {Γ : Ga} : PTs X [] (TB fun sl h => Es.tests Γ sl h .nil) := by
  refine ⟨fun pins s σ H Q I t => pts_nil.run pins s σ H Q I ?_⟩
  obtain ⟨m, sl, h, k, h', hr, sr, e, q⟩ := t
  simp only [Es.tests] at e
  cases e
  exact q m H Ext.refl hr
theorem tests_one {X : Cx} {Γ : Ga} {e : E} {x : Expr} (h : PT X x (TB (asB fun sl h => e.den Γ sl h))) : PTs X [x] (TB fun sl h => Es.tests Γ sl h (.cons e .nil)) := by
  refine ⟨fun pins s σ H Q I t => (pts_one h).run pins s σ H Q I (TB.of (fun sl h k h' e1 => ?_) t)⟩
  simp only [Es.tests] at e1
  obtain ⟨d, h1, e2, e3⟩ := R.bind_ok e1
  show (e.den Γ sl h).bind _ = _
  rw [e2]
  show R.op (truth h1 d) h1 = _
  split at e3
  · rename_i ek; cases e3; rw [ek]; rfl
  · rename_i ek; cases e3; rw [ek]; rfl
  · cases e3
theorem blk_kind {N : List Str} {sc scope : Scope} {own : List (Str × Nat)} (h : blkC N sc scope own = true) : scope.kind = .function := (blkOk_by h).kind
theorem dnew_dct {t : Bool} : ∀ (sl : Sl) (h : Hy) (d : D) (h' : Hy), (fun (_ : Sl) (h : Hy) => R.ok (D.dct t [] []) h) sl h = .ok d h' → ∃ t ks vs, d = .dct t ks vs := fun sl h d h' e => by
  cases e; exact ⟨_, _, _, rfl⟩
theorem disp_dct {dn : Dns} : ∀ (sl : Sl) (h : Hy) (d : D) (h' : Hy), (fun sl h => (dn sl h).bind fun xs h => R.op (dispOf xs) h) sl h = .ok d h' → ∃ t ks vs, d = .dct t ks vs := fun sl h d h' e => by
  obtain ⟨xs, h1, e1, e2⟩ := R.bind_ok e
  obtain ⟨e3, rfl⟩ := R.op_ok e2
  unfold dispOf at e3
  obtain ⟨ps, e4, e5⟩ := Option.bind_eq_some_iff.mp e3
  split at e5
  · cases e5; exact ⟨_, _, _, rfl⟩
  · cases e5
theorem dc_dct {dI : Dns} {F : Sl → D → Hy → R (Option (D × D))} : ∀ (sl : Sl) (h : Hy) (d : D) (h' : Hy), (fun sl h => (dI sl h).bind fun xs h => (dcGo (F sl) xs [] [] h).bind fun p h => R.ok (D.dct false p.1 p.2) h) sl h = .ok d h' → ∃ t ks vs, d = .dct t ks vs := fun sl h d h' e => by
  obtain ⟨xs, h1, e1, e2⟩ := R.bind_ok e
  obtain ⟨p, h2, e3, e4⟩ := R.bind_ok e2
  cases e4
  exact ⟨_, _, _, rfl⟩
theorem nd_dct {Γ : Ga} {e : E} (hn : isNd e = true) : ∀ (sl : Sl) (h : Hy) (d : D) (h' : Hy), (fun sl h => e.den Γ sl h) sl h = .ok d h' → ∃ t ks vs, d = .dct t ks vs := by
  cases e <;> first
    | (cases hn; done)
    | (simp only [E.den]; exact dnew_dct)
    | (simp only [E.den]; exact disp_dct)
    | (simp only [E.den]; exact dcp_dct)
    | (simp only [E.den]; exact dc_dct)
theorem m2_of {X : Cx} {y m : Str} {p apos cpos : Pos} {l r : Expr} (h2 : (apos.endLine == cpos.line) = true) (h3 : noStar [l, r] = true) : M2 X (.Name y p) m apos l r cpos := by
  have e1 : starEach [l, r] X.env = [(false, eval l X.env), (false, eval r X.env)] := by
    rw [star_cons h3, star_cons (noStar_tl h3)]; rfl
  refine ⟨rfl, ?_, h2, ?_⟩
  · rw [e1]; rfl
  · rw [e1]; rfl
mutual
theorem E.sound {C : Ck} {Γ : Ga} : ∀ (e : E) {X : Cx} (ok : OKX X C Γ) {sc : Scope} {f : Str → Bool} (hs : X.env.scope = sc) (hf : ∀ y, f y = true → X.fn y = true) (x : Expr), e.ck C sc f x = true → Snd X x e.fr (fun sl h => e.den Γ sl h)
  | .var i, X, ok, sc, f, hs, hf, x, h => by
    unfold E.ck at h
    split at h
    · simp only [Bool.and_eq_true, decide_eq_true_eq] at h
      obtain ⟨n1, n2, n3⟩ := nameOk_of h.2
      exact Snd.mk1 (by simp only [E.den]; exact t_var (ok.N ▸ h.1.1) (hs ▸ vis_of h.1.2) n1 n2) (fun _ => rfl) rfl
    · cases h
  | .cst d, X, ok, sc, f, hs, hf, x, h => by
    unfold E.ck at h
    split at h
    · exact Snd.mk1 (by simp only [E.den]; exact t_cst h) (fun _ => rfl) rfl
    · cases h
  | .gl i d, X, ok, sc, f, hs, hf, x, h => by
    unfold E.ck at h
    split at h
    · simp only [Bool.and_eq_true, decide_eq_true_eq] at h
      obtain ⟨n1, n2, n3⟩ := nameOk_of h.2
      obtain ⟨u, k1, k2⟩ := ok.cst _ _ _ h.1.1.1 h.1.1.2
      exact Snd.mk1 (by simp only [E.den]; exact t_gl (show X.env.scope.names.lookup _ = _ from hs ▸ gl_of h.1.2) k1 k2 n1 fun _ _ => rfl) (fun _ => rfl) rfl
    · simp only [Bool.and_eq_true, decide_eq_true_eq] at h
      obtain ⟨n1, n2, n3⟩ := nameOk_of h.2
      obtain ⟨u, k1, k2⟩ := ok.cst2 _ _ _ h.1.1.1 h.1.1.2
      exact Snd.mk1 (by simp only [E.den]; exact t_gl (show X.env.scope.names.lookup _ = _ from hs ▸ gl_of h.1.2) k1 k2 n1 fun _ _ => rfl) (fun _ => rfl) rfl
    · cases h
  | .bin o a b, X, ok, sc, f, hs, hf, x, h => by
    unfold E.ck at h
    split at h
    · simp only [Bool.and_eq_true] at h
      cases sameBo_eq h.1.1
      exact Snd.mk1 (by simp only [E.den]; exact t_bin (E.sound a ok hs hf _ h.1.2).v.wk (E.sound b ok hs hf _ h.2).v.wk) (fun _ => rfl) rfl
    · cases h
  | .neg a, X, ok, sc, f, hs, hf, x, h => by
    unfold E.ck at h
    split at h
    · exact Snd.mk1 (by simp only [E.den]; exact t_neg (E.sound a ok hs hf _ h).v.wk) (fun _ => rfl) rfl
    · cases h
  | .nt a, X, ok, sc, f, hs, hf, x, h => by
    unfold E.ck at h
    split at h
    · have k := E.sound a ok hs hf _ h
      exact Snd.mk2 (by simp only [E.den]; exact t_not k.v.wk) (by simp only [E.den]; exact t_notT k.t) rfl
    · cases h
  | .an a b, X, ok, sc, f, hs, hf, x, h => by
    unfold E.ck at h
    split at h
    · simp only [Bool.and_eq_true] at h
      have k := E.sound a ok hs hf _ h.1
      have l := E.sound b ok hs hf _ h.2
      exact Snd.mk3 (by simp only [E.den]; exact t_and k.v.wk l.and1.1) (by simp only [E.den]; exact t_andT k.t l.and1.2)
    · simp only [Bool.and_eq_true] at h
      have k := E.sound a ok hs hf _ h.1
      have l := E.sound b ok hs hf _ h.2
      exact Snd.mk3 (by simp only [E.den]; exact t_and k.v.wk l.v.wk) (by simp only [E.den]; exact t_andT k.t (l.w rfl))
    · cases h
  | .orr a b, X, ok, sc, f, hs, hf, x, h => by
    unfold E.ck at h
    split at h
    · simp only [Bool.and_eq_true] at h
      have k := E.sound a ok hs hf _ h.1
      have l := E.sound b ok hs hf _ h.2
      exact Snd.mk3 (by simp only [E.den]; exact t_or k.v.wk l.or1.1) (by simp only [E.den]; exact t_orT k.t l.or1.2)
    · simp only [Bool.and_eq_true] at h
      have k := E.sound a ok hs hf _ h.1
      have l := E.sound b ok hs hf _ h.2
      exact Snd.mk3 (by simp only [E.den]; exact t_or k.v.wk l.v.wk) (by simp only [E.den]; exact t_orT k.t (l.w rfl))
    · cases h
  | .cmp c a b, X, ok, sc, f, hs, hf, x, h => by
    unfold E.ck at h
    split at h
    · simp only [Bool.and_eq_true, Bool.not_eq_true'] at h
      cases sameC_eq h.1.1.1
      have k := E.sound a ok hs hf _ h.1.2
      have l := E.sound b ok hs hf _ h.2
      exact Snd.mk2 (by simp only [E.den]; exact t_cmp ok.un h.1.1.2 k.v.wk l.v.wk) (by simp only [E.den]; exact t_cmpT ok.un h.1.1.2 k.v.wk l.v.wk) rfl
    · cases h
  | .chain c c' a b e, X, ok, sc, f, hs, hf, x, h => by
    unfold E.ck at h
    split at h
    · simp only [Bool.and_eq_true, Bool.not_eq_true'] at h
      obtain ⟨⟨⟨⟨⟨h1, h2⟩, h3⟩, h4⟩, h5⟩, h6⟩ := h
      cases sameC_eq h1
      cases sameC_eq h2
      have k := E.sound a ok hs hf _ h4
      have l := E.sound b ok hs hf _ h5
      have m := E.sound e ok hs hf _ h6
      exact Snd.mk2 (by simp only [E.den]; exact t_chain ok.un h3 k.v.wk l.v.wk m.v.wk) (by simp only [E.den]; exact t_chainT ok.un h3 k.v.wk l.v.wk m.v.wk) rfl
    · cases h
  | .ife c a b, X, ok, sc, f, hs, hf, x, h => by
    unfold E.ck at h
    split at h
    · simp only [Bool.and_eq_true] at h
      exact Snd.mk3 (by simp only [E.den]; exact t_ife (E.sound c ok hs hf _ h.1.1).t (E.sound a ok hs hf _ h.1.2).v.wk (E.sound b ok hs hf _ h.2).v.wk) (by simp only [E.den]; exact t_ifeT (E.sound c ok hs hf _ h.1.1).t (E.sound a ok hs hf _ h.1.2).t (E.sound b ok hs hf _ h.2).t)
    · cases h
  | .tup es, X, ok, sc, f, hs, hf, x, h => by
    unfold E.ck at h
    split at h
    · exact Snd.mk1 (by simp only [E.den]; exact t_tup (Es.sound es ok hs hf _ h)) (fun _ => rfl) rfl
    · cases h
  | .lst es, X, ok, sc, f, hs, hf, x, h => by
    unfold E.ck at h
    split at h
    · exact Snd.mk1 (by simp only [E.den]; exact t_lst (Es.sound es ok hs hf _ h)) (fun _ => rfl) rfl
    · cases h
  | .ix a i, X, ok, sc, f, hs, hf, x, h => by
    unfold E.ck at h
    split at h
    · simp only [Bool.and_eq_true] at h
      exact Snd.mk1 (by simp only [E.den]; exact t_ix ok.un (plain_of h.1.1) (E.sound a ok hs hf _ h.1.2).v.wk (E.sound i ok hs hf _ h.2).v.wk) (fun _ => rfl) rfl
    · cases h
  | .slo a lo, X, ok, sc, f, hs, hf, x, h => by
    unfold E.ck at h
    split at h
    · simp only [Bool.and_eq_true] at h
      exact Snd.mk1 (by simp only [E.den]; exact t_slo (E.sound a ok hs hf _ h.1).v.wk (E.sound lo ok hs hf _ h.2).v.wk) (fun _ => rfl) rfl
    · cases h
  | .shi a hi, X, ok, sc, f, hs, hf, x, h => by
    unfold E.ck at h
    split at h
    · simp only [Bool.and_eq_true] at h
      exact Snd.mk1 (by simp only [E.den]; exact t_shi (E.sound a ok hs hf _ h.1).v.wk (E.sound hi ok hs hf _ h.2).v.wk) (fun _ => rfl) rfl
    · cases h
  | .slh a lo hi, X, ok, sc, f, hs, hf, x, h => by
    unfold E.ck at h
    split at h
    · simp only [Bool.and_eq_true] at h
      exact Snd.mk1 (by simp only [E.den]; exact t_slh (E.sound a ok hs hf _ h.1.1).v.wk (E.sound lo ok hs hf _ h.1.2).v.wk (E.sound hi ok hs hf _ h.2).v.wk) (fun _ => rfl) rfl
    · cases h
  | .rev a, X, ok, sc, f, hs, hf, x, h => by
    unfold E.ck at h
    split at h
    · exact Snd.mk1 (by simp only [E.den]; exact t_rev (E.sound a ok hs hf _ h).v.wk) (fun _ => rfl) rfl
    · cases h
  | .call i es, X, ok, sc, f, hs, hf, x, h => by
    unfold E.ck at h
    split at h
    · simp only [Bool.and_eq_true, decide_eq_true_eq] at h
      obtain ⟨⟨⟨⟨h1, h2⟩, h3⟩, h4⟩, h5⟩ := h
      obtain ⟨n1, n2, n3⟩ := nameOk_of h3
      have hg : Gl X _ := (show X.env.scope.names.lookup _ = _ from hs ▸ gl_of h2)
      refine Snd.mk1 ?_ (fun _ => rfl) rfl
      simp only [E.den]
      cases e : Γ i with
      | none => exact t_none fun sl h d h' z => by obtain ⟨_, _, _, z⟩ := R.bind_ok z; cases z
      | some g =>
        obtain ⟨a, k, k1, k2, k3, k4⟩ := ok.fns i g _ e h1
        exact t_call k3 k4 k2 hg k1 h4 (Es.sound es ok hs hf _ h5) n1
    · cases h
  | .bi b (.cons e .nil), X, ok, sc, f, hs, hf, x, h => by
    unfold E.ck at h
    simp only at h
    split at h
    · simp only [Bool.and_eq_true] at h
      obtain ⟨⟨⟨⟨h1, h2⟩, h3⟩, h4⟩, h5⟩ := h
      obtain ⟨n1, n2, n3⟩ := nameOk_of h2
      have hg : Gl X _ := (show X.env.scope.names.lookup _ = _ from hs ▸ gl_of h1)
      have k := (E.sound e ok hs hf _ h4).v.wk
      refine Snd.mk1 ?_ (fun _ => rfl) rfl
      simp only [E.den, Es.den]
      split at h5
      · rename_i n id e1
        have := of_decide_eq_true h5
        subst this
        obtain ⟨k1, k2, k3⟩ := t_biFn ok e1
        exact t_callB k1 hg k2 k3 h3 (ts_cons k ts_nil (star_cons h3)) n3 n1
      · rename_i n id e1 e2
        have := of_decide_eq_true h5
        subst this
        obtain ⟨k1, k2, k3⟩ := t_biTy ok e2
        exact t_callTy k1 hg k2 k3 h3 (ts_cons k ts_nil (star_cons h3)) n3 n1
      · cases h5
    · simp only [Bool.and_eq_true, decide_eq_true_eq] at h
      obtain ⟨⟨⟨⟨⟨⟨h1, h2⟩, h3⟩, h4⟩, h5⟩, h6⟩, h7⟩ := h
      subst h1
      have hg : Gl X _ := (show X.env.scope.names.lookup _ = _ from hs ▸ gl_of h2)
      have hg2 : Gl X _ := (show X.env.scope.names.lookup _ = _ from hs ▸ gl_of h3)
      have k := (E.sound e ok hs hf _ h6).v.wk
      refine Snd.mk1 ?_ (fun _ => rfl) rfl
      simp only [E.den, Es.den]
      split at h7
      · rename_i n e1
        have := of_decide_eq_true h7
        subst this
        refine (isi_call ok e1 hg hg2 h5 h4 k).mono fun σ H Q t => ?_
        obtain ⟨m, sl, h0, d, h', hr, sr, ee, w⟩ := t
        refine ⟨m, sl, h0, d, h', hr, sr, ?_, w⟩
        obtain ⟨xs, h1, e3, e4⟩ := R.bind_ok ee
        obtain ⟨y, h2, e5, e6⟩ := R.bind_ok e3
        cases e6
        show (e.den Γ sl h0).bind _ = _
        rw [e5]
        exact e4
      · cases h7
    · cases h
  | .bi b .nil, X, ok, sc, f, hs, hf, x, h => by
    unfold E.ck at h
    simp only at h
    split at h
    · simp only [Bool.and_eq_true] at h
      have h4 := h.1.2
      unfold Es.ck at h4
      cases h4
    · cases h
  | .bi b (.star e es), X, ok, sc, f, hs, hf, x, h => by
    unfold E.ck at h
    simp only at h
    split at h
    · simp only [Bool.and_eq_true] at h
      obtain ⟨⟨⟨⟨h1, h2⟩, h3⟩, h4⟩, h5⟩ := h
      unfold Es.ck at h4
      split at h4
      · next heq =>
        injection heq with q1 q2
        rw [q1] at h3
        cases h3
      · cases h4
    · cases h
  | .bi b (.cons e (.star e' es)), X, ok, sc, f, hs, hf, x, h => by
    unfold E.ck at h
    simp only at h
    split at h
    · simp only [Bool.and_eq_true] at h
      obtain ⟨⟨⟨⟨h1, h2⟩, h3⟩, h4⟩, h5⟩ := h
      unfold Es.ck at h4
      simp only [Bool.and_eq_true] at h4
      have h6 := h4.2
      unfold Es.ck at h6
      split at h6
      · have := noStar_tl h3
        cases this
      · cases h6
    · cases h
  | .bi b (.cons e (.cons e' es)), X, ok, sc, f, hs, hf, x, h => by
    unfold E.ck at h
    simp only at h
    split at h
    · simp only [Bool.and_eq_true] at h
      obtain ⟨⟨⟨⟨h1, h2⟩, h3⟩, h4⟩, h5⟩ := h
      obtain ⟨n1, n2, n3⟩ := nameOk_of h2
      have hg : Gl X _ := (show X.env.scope.names.lookup _ = _ from hs ▸ gl_of h1)
      have k := Es.sound (.cons e (.cons e' es)) ok hs hf _ h4
      refine Snd.mk1 ?_ (fun _ => rfl) rfl
      simp only [E.den]
      split at h5
      · rename_i n id e1
        have := of_decide_eq_true h5
        subst this
        obtain ⟨k1, k2, k3⟩ := t_biFn ok e1
        exact t_callB k1 hg k2 k3 h3 k n3 n1
      · cases h5
    · cases h
  | .lc elt g s ifs own, X, ok, sc, f, hs, hf, x, h => by
    unfold E.ck at h
    split at h
    · rename_i ex tg iter ix scope pos
      simp only [Bool.and_eq_true] at h
      obtain ⟨⟨⟨⟨⟨⟨h1, h2⟩, h3⟩, h4⟩, h5⟩, h6⟩, h7⟩ := h
      subst hs
      have B := blkOk_by h1
      have hi := I.sound s ok rfl hf tg iter h4
      have hg : Blk X scope fun Y => PG Y tg (gT g) := fun s' H A cl fp => G.sound (X := X.blk s' H scope (compEnvC scope cl A X.env) fp) (sc := relS scope X.env.scope) (f := fnB scope) ok.calm ok.N ok.nd rfl (fun _ z => z) g tg h5
      have ht : Blk X scope fun Y => PTs Y ix (TB fun sl h => ifs.tests Γ sl h) := fun s' H A cl fp => Es.soundT ifs (ok.blk B.kind) rfl (fun _ z => z) ix h6
      have he : Blk X scope fun Y => PE Y ex (T false fun sl h => elt.den Γ sl h) := fun s' H A cl fp => (E.sound elt (ok.blk B.kind) rfl (fun _ z => z) ex h7).v.wk
      refine Snd.mk1 ((pe_lc ok.calm ok.nd hi (ok.N ▸ B) hg ht he (folded_of h2 X.env)).mono fun σ H Q t => ?_) (fun _ => rfl) rfl
      rw [ownOf_ix]
      exact lc_T (sub_of h3) (by simp only [E.den] at t; exact t)
    · cases h
  | .lc2 elt g s ifs g' s' ifs' own own', X, ok, sc, f, hs, hf, x, h => by
    unfold E.ck at h
    split at h
    · rename_i ex tg iter ix tg' iter' ix' scope pos
      simp only [Bool.and_eq_true] at h
      obtain ⟨⟨⟨⟨⟨⟨⟨⟨⟨⟨⟨⟨h1, h2⟩, h2'⟩, h3⟩, h3'⟩, h8⟩, h4⟩, h5⟩, h6⟩, h4'⟩, h5'⟩, h6'⟩, h7⟩ := h
      subst hs
      have B := blkOk_by h1
      have hi := I.sound s ok rfl hf tg iter h4
      have hg : Blk X scope fun Y => PG Y tg (gT g) := fun s' H A cl fp => G.sound (X := X.blk s' H scope (compEnvC scope cl A X.env) fp) (sc := relS scope X.env.scope) (f := fnB scope) ok.calm ok.N ok.nd rfl (fun _ z => z) g tg h5
      have ht : Blk X scope fun Y => PTs Y ix (TB fun sl h => ifs.tests Γ sl h) := fun s' H A cl fp => Es.soundT ifs (ok.blk B.kind) rfl (fun _ z => z) ix h6
      have hi' : Blk X scope fun Y => PI Y tg' iter' (TI fun sl h => s'.den Γ sl h) := fun _ H A cl fp => I.sound s' (ok.blk B.kind) rfl (fun _ z => z) tg' iter' h4'
      have hg' : Blk X scope fun Y => PG Y tg' (gT g') := fun s0 H A cl fp => G.sound (X := X.blk s0 H scope (compEnvC scope cl A X.env) fp) (sc := relS scope X.env.scope) (f := fnB scope) ok.calm ok.N ok.nd rfl (fun _ z => z) g' tg' h5'
      have ht' : Blk X scope fun Y => PTs Y ix' (TB fun sl h => ifs'.tests Γ sl h) := fun _ H A cl fp => Es.soundT ifs' (ok.blk B.kind) rfl (fun _ z => z) ix' h6'
      have he : Blk X scope fun Y => PE Y ex (T false fun sl h => elt.den Γ sl h) := fun _ H A cl fp => (E.sound elt (ok.blk B.kind) rfl (fun _ z => z) ex h7).v.wk
      refine Snd.mk1 ((pe_lc2 (vs1 := own') ok.calm ok.nd hi (ok.N ▸ B) (by rw [ownOf_ix]; exact sub_of h8) hg ht hi' hg' ht' he (folded_of h2 X.env) (folded_of h2')).mono fun σ H Q t => ?_) (fun _ => rfl) rfl
      rw [ownOf_ix]
      exact lc2_T (sub_of h3) (sub_of h3') (by simp only [E.den] at t; exact t)
    · cases h
  | .bis b s, X, ok, sc, f, hs, hf, x, h => by
    unfold E.ck at h
    split at h
    · rename_i y py l pos
      simp only [Bool.and_eq_true] at h
      obtain ⟨⟨⟨⟨h1, h2⟩, h3⟩, h4⟩, h5⟩ := h
      have hg : Gl X _ := (show X.env.scope.names.lookup _ = _ from hs ▸ gl_of h1)
      obtain ⟨tr, g1, g2⟩ := I.soundR s ok hs hf h4 l h5
      refine Snd.mk1 ?_ (fun _ => rfl) rfl
      simp only [E.den]
      split at h3
      · have := of_decide_eq_true h3
        subst this
        exact t_listRg ok.calm hg (ok.blt _ (by decide)) h2 g1 g2
      · have := of_decide_eq_true h3
        subst this
        exact t_tupRg ok.calm hg (ok.blt _ (by decide)) h2 g1 g2
      · cases h3
    · cases h
  | .mk e, X, ok, sc, f, hs, hf, x, h => by
    unfold E.ck at h
    simp only [Bool.and_eq_true, Bool.or_eq_true] at h
    have k := E.sound e ok hs hf x h.2
    have v : PE X x (T false fun sl h => (E.mk e).den Γ sl h) := by
      simp only [E.den]
      by_cases hn : isNd e = true
      · rw [hn]
        exact t_mkD (E.soundN e ok hs hf hn x h.2) (nd_dct hn)
      · have hn : isNd e = false := by simpa using hn
        rw [hn]
        have hfr : e.fr = true := by rcases h.1 with z | z; rw [hn] at z; cases z; exact z
        have k2 := k.v
        rw [hfr] at k2
        exact t_mkL k2
    have no : ∀ {σ : L2.St} {H : Hp} {Q : Bool → Hp → Prop}, ¬ TB (asB fun sl h => (E.mk e).den Γ sl h) σ H Q := fun {σ H Q} t => by
      obtain ⟨m, sl, h, b, h', hr, sr, e1, _⟩ := t
      obtain ⟨z, h1, e2, e3⟩ := R.bind_ok e1
      simp only [E.den] at e2
      obtain ⟨z2, h2, _, e4⟩ := R.bind_ok e2
      unfold mkOf at e4
      split at e4
      · cases e4; cases e3
      · cases e4; cases e3
      · cases e4
    exact ⟨v, ⟨fun pins s σ H Q I t => absurd t no⟩, fun _ => ⟨fun wh pins s σ H Q I t => absurd t no⟩⟩
  | .dcp e, X, ok, sc, f, hs, hf, x, h => by
    unfold E.ck at h
    split at h
    · simp only [Bool.and_eq_true, decide_eq_true_eq] at h
      obtain ⟨⟨⟨rfl, h2⟩, h3⟩, h4⟩ := h
      refine Snd.mk1 ?_ (fun _ => rfl) rfl
      simp only [E.den]
      exact t_known (n_dcp ok.calm (show X.env.scope.names.lookup _ = _ from hs ▸ gl_of h2) (ok.blt _ (by decide)) h3 (E.sound e ok hs hf _ h4).v.wk) dcp_dct
    · cases h
  | .dnew t, X, ok, sc, f, hs, hf, x, h => by
    unfold E.ck at h
    split at h
    · exact Snd.mk1 (by simp only [E.den]; exact t_known (n_dnew t) dnew_dct) (fun _ => rfl) rfl
    · cases h
  | .disp kvs, X, ok, sc, f, hs, hf, x, h => by
    unfold E.ck at h
    split at h
    · simp only [Bool.and_eq_true, decide_eq_true_eq] at h
      obtain ⟨k1, k2, k3⟩ := Es.soundP kvs ok hs hf _ _ h.2
      exact Snd.mk1 (by simp only [E.den]; exact t_known (n_disp k1 k2 k3 (fun z => by cases z) h.1) disp_dct) (fun _ => rfl) rfl
    · cases h
  | .dgetD d k z, X, ok, sc, f, hs, hf, x, h => by
    unfold E.ck at h
    split at h
    · simp only [Bool.and_eq_true, decide_eq_true_eq] at h
      obtain ⟨⟨⟨⟨⟨rfl, h2⟩, h3⟩, h4⟩, h5⟩, h6⟩ := h
      refine Snd.mk1 ?_ (fun _ => rfl) rfl
      simp only [E.den]
      exact t_dgetD ok.un (m2_of h2 h3) (E.sound d ok hs hf _ h4).v.wk (E.sound k ok hs hf _ h5).v.wk (E.sound z ok hs hf _ h6).v.wk
    · cases h
  | .dc k v g s ifs own, X, ok, sc, f, hs, hf, x, h => by
    unfold E.ck at h
    split at h
    · rename_i kx vx tg iter ix scope pos
      simp only [Bool.and_eq_true] at h
      obtain ⟨⟨⟨⟨⟨⟨⟨h1, h2⟩, h3⟩, h4⟩, h5⟩, h6⟩, h7⟩, h8⟩ := h
      subst hs
      have B := blkOk_by h1
      have hi := I.sound s ok rfl hf tg iter h4
      have hg : Blk X scope fun Y => PG Y tg (gT g) := fun s' H A cl fp => G.sound (X := X.blk s' H scope (compEnvC scope cl A X.env) fp) (sc := relS scope X.env.scope) (f := fnB scope) ok.calm ok.N ok.nd rfl (fun _ z => z) g tg h5
      have ht : Blk X scope fun Y => PTs Y ix (TB fun sl h => ifs.tests Γ sl h) := fun s' H A cl fp => Es.soundT ifs (ok.blk B.kind) rfl (fun _ z => z) ix h6
      have hk : Blk X scope fun Y => PE Y kx (T false fun sl h => k.den Γ sl h) := fun s' H A cl fp => (E.sound k (ok.blk B.kind) rfl (fun _ z => z) kx h7).v.wk
      have he : Blk X scope fun Y => PE Y vx (T false fun sl h => v.den Γ sl h) := fun s' H A cl fp => (E.sound v (ok.blk B.kind) rfl (fun _ z => z) vx h8).v.wk
      refine Snd.mk1 ?_ (fun _ => rfl) rfl
      refine t_known ((pe_dc ok.calm ok.nd hi (ok.N ▸ B) hg ht hk he (folded_of h2 X.env)).mono fun σ H Q t => ?_) dc_dct
      rw [ownOf_ix]
      exact dc_T (sub_of h3) (by simp only [E.den] at t; exact t)
    · cases h
/-- what makes a dict, as a new one -/
theorem E.soundN {C : Ck} {Γ : Ga} : ∀ (e : E) {X : Cx} (ok : OKX X C Γ) {sc : Scope} {f : Str → Bool} (hs : X.env.scope = sc) (hf : ∀ y, f y = true → X.fn y = true) (hn : isNd e = true) (x : Expr), e.ck C sc f x = true → PE X x (TN (fun sl h => e.den Γ sl h))
  | .dnew t, X, ok, sc, f, hs, hf, hn, x, h => by
    unfold E.ck at h
    split at h
    · simp only [E.den]; exact n_dnew t
    · cases h
  | .disp kvs, X, ok, sc, f, hs, hf, hn, x, h => by
    unfold E.ck at h
    split at h
    · simp only [Bool.and_eq_true, decide_eq_true_eq] at h
      obtain ⟨k1, k2, k3⟩ := Es.soundP kvs ok hs hf _ _ h.2
      simp only [E.den]
      exact n_disp k1 k2 k3 (fun z => by cases z) h.1
    · cases h
  | .dcp e, X, ok, sc, f, hs, hf, hn, x, h => by
    unfold E.ck at h
    split at h
    · simp only [Bool.and_eq_true, decide_eq_true_eq] at h
      obtain ⟨⟨⟨rfl, h2⟩, h3⟩, h4⟩ := h
      simp only [E.den]
      exact n_dcp ok.calm (show X.env.scope.names.lookup _ = _ from hs ▸ gl_of h2) (ok.blt _ (by decide)) h3 (E.sound e ok hs hf _ h4).v.wk
    · cases h
  | .dc k v g s ifs own, X, ok, sc, f, hs, hf, hn, x, h => by
    unfold E.ck at h
    split at h
    · rename_i kx vx tg iter ix scope pos
      simp only [Bool.and_eq_true] at h
      obtain ⟨⟨⟨⟨⟨⟨⟨h1, h2⟩, h3⟩, h4⟩, h5⟩, h6⟩, h7⟩, h8⟩ := h
      subst hs
      have B := blkOk_by h1
      have hi := I.sound s ok rfl hf tg iter h4
      have hg : Blk X scope fun Y => PG Y tg (gT g) := fun s' H A cl fp => G.sound (X := X.blk s' H scope (compEnvC scope cl A X.env) fp) (sc := relS scope X.env.scope) (f := fnB scope) ok.calm ok.N ok.nd rfl (fun _ z => z) g tg h5
      have ht : Blk X scope fun Y => PTs Y ix (TB fun sl h => ifs.tests Γ sl h) := fun s' H A cl fp => Es.soundT ifs (ok.blk B.kind) rfl (fun _ z => z) ix h6
      have hk : Blk X scope fun Y => PE Y kx (T false fun sl h => k.den Γ sl h) := fun s' H A cl fp => (E.sound k (ok.blk B.kind) rfl (fun _ z => z) kx h7).v.wk
      have he : Blk X scope fun Y => PE Y vx (T false fun sl h => v.den Γ sl h) := fun s' H A cl fp => (E.sound v (ok.blk B.kind) rfl (fun _ z => z) vx h8).v.wk
      refine (pe_dc ok.calm ok.nd hi (ok.N ▸ B) hg ht hk he (folded_of h2 X.env)).mono fun σ H Q t => ?_
      rw [ownOf_ix]
      exact dc_T (sub_of h3) (by simp only [E.den] at t; exact t)
    · cases h
  | .var _, X, ok, sc, f, hs, hf, hn, x, h => by cases hn
  | .cst _, X, ok, sc, f, hs, hf, hn, x, h => by cases hn
  | .gl _ _, X, ok, sc, f, hs, hf, hn, x, h => by cases hn
  | .bin _ _ _, X, ok, sc, f, hs, hf, hn, x, h => by cases hn
  | .neg _, X, ok, sc, f, hs, hf, hn, x, h => by cases hn
  | .nt _, X, ok, sc, f, hs, hf, hn, x, h => by cases hn
  | .an _ _, X, ok, sc, f, hs, hf, hn, x, h => by cases hn
  | .orr _ _, X, ok, sc, f, hs, hf, hn, x, h => by cases hn
  | .cmp _ _ _, X, ok, sc, f, hs, hf, hn, x, h => by cases hn
  | .chain _ _ _ _ _, X, ok, sc, f, hs, hf, hn, x, h => by cases hn
  | .ife _ _ _, X, ok, sc, f, hs, hf, hn, x, h => by cases hn
  | .tup _, X, ok, sc, f, hs, hf, hn, x, h => by cases hn
  | .lst _, X, ok, sc, f, hs, hf, hn, x, h => by cases hn
  | .ix _ _, X, ok, sc, f, hs, hf, hn, x, h => by cases hn
  | .slo _ _, X, ok, sc, f, hs, hf, hn, x, h => by cases hn
  | .shi _ _, X, ok, sc, f, hs, hf, hn, x, h => by cases hn
  | .slh _ _ _, X, ok, sc, f, hs, hf, hn, x, h => by cases hn
  | .rev _, X, ok, sc, f, hs, hf, hn, x, h => by cases hn
  | .call _ _, X, ok, sc, f, hs, hf, hn, x, h => by cases hn
  | .bi _ _, X, ok, sc, f, hs, hf, hn, x, h => by cases hn
  | .bis _ _, X, ok, sc, f, hs, hf, hn, x, h => by cases hn
  | .lc _ _ _ _ _, X, ok, sc, f, hs, hf, hn, x, h => by cases hn
  | .lc2 _ _ _ _ _ _ _ _ _, X, ok, sc, f, hs, hf, hn, x, h => by cases hn
  | .mk _, X, ok, sc, f, hs, hf, hn, x, h => by cases hn
  | .dgetD _ _ _, X, ok, sc, f, hs, hf, hn, x, h => by cases hn
theorem Es.sound {C : Ck} {Γ : Ga} : ∀ (es : Es) {X : Cx} (ok : OKX X C Γ) {sc : Scope} {f : Str → Bool} (hs : X.env.scope = sc) (hf : ∀ y, f y = true → X.fn y = true) (xs : List Expr), es.ck C sc f xs = true → PA X xs (Ts fun sl h => es.den Γ sl h)
  | .nil, X, ok, sc, f, hs, hf, xs, h => by
    unfold Es.ck at h
    split at h
    · simp only [Es.den]; exact ts_nil
    · cases h
  | .cons e es, X, ok, sc, f, hs, hf, xs, h => by
    unfold Es.ck at h
    split at h
    · simp only [Bool.and_eq_true, Bool.not_eq_true'] at h
      simp only [Es.den]
      exact ts_cons (E.sound e ok hs hf _ h.1.2).v.wk (Es.sound es ok hs hf _ h.2) (star_cons1 h.1.1)
    · cases h
  | .star e es, X, ok, sc, f, hs, hf, xs, h => by
    unfold Es.ck at h
    split at h
    · simp only [Bool.and_eq_true] at h
      simp only [Es.den]
      exact ts_star (E.sound e ok hs hf _ h.1).v.wk (Es.sound es ok hs hf _ h.2)
    · cases h
theorem Es.soundP {C : Ck} {Γ : Ga} : ∀ (es : Es) {X : Cx} (ok : OKX X C Γ) {sc : Scope} {f : Str → Bool} (hs : X.env.scope = sc) (hf : ∀ y, f y = true → X.fn y = true) (ks : List (Option Expr)) (vs : List Expr), es.ckP C sc f ks vs = true → ∀ {pos : Pos}, DispR X pos ks vs (fun sl h => es.den Γ sl h) ∧ ks.all (·.isSome) = true ∧ ks.length = vs.length
  | .nil, X, ok, sc, f, hs, hf, ks, vs, h, pos => by
    unfold Es.ckP at h
    split at h
    · simp only [Es.den]; exact ⟨disp_nil, rfl, rfl⟩
    · cases h
  | .cons k (.cons v r), X, ok, sc, f, hs, hf, ks, vs, h, pos => by
    unfold Es.ckP at h
    split at h
    · simp only [Bool.and_eq_true] at h
      obtain ⟨k1, k2, k3⟩ := Es.soundP r ok hs hf _ _ h.2 (pos := pos)
      simp only [Es.den]
      exact ⟨disp_cons (E.sound k ok hs hf _ h.1.1).v.wk (E.sound v ok hs hf _ h.1.2).v.wk k1, by rw [List.all_cons, k2]; rfl, by rw [List.length_cons, List.length_cons, k3]⟩
    · cases h
  | .cons _ .nil, X, ok, sc, f, hs, hf, ks, vs, h, pos => by unfold Es.ckP at h; cases h
  | .cons _ (.star _ _), X, ok, sc, f, hs, hf, ks, vs, h, pos => by unfold Es.ckP at h; cases h
  | .star _ _, X, ok, sc, f, hs, hf, ks, vs, h, pos => by unfold Es.ckP at h; cases h
theorem Es.soundT {C : Ck} {Γ : Ga} : ∀ (es : Es) {X : Cx} (ok : OKX X C Γ) {sc : Scope} {f : Str → Bool} (hs : X.env.scope = sc) (hf : ∀ y, f y = true → X.fn y = true) (xs : List Expr), es.ckT C sc f xs = true → PTs X xs (TB fun sl h => es.tests Γ sl h)
  | .nil, X, ok, sc, f, hs, hf, xs, h => by
    unfold Es.ckT at h
    split at h
    · exact tests_nil
    · cases h
  | .cons e .nil, X, ok, sc, f, hs, hf, xs, h => by
    unfold Es.ckT at h
    split at h
    · exact tests_one (E.sound e ok hs hf _ h).t
    · cases h
  | .cons e (.cons _ _), X, ok, sc, f, hs, hf, xs, h => by unfold Es.ckT at h; cases h
  | .cons e (.star _ _), X, ok, sc, f, hs, hf, xs, h => by unfold Es.ckT at h; cases h
  | .star e es, X, ok, sc, f, hs, hf, xs, h => by unfold Es.ckT at h; cases h
theorem I.soundR {C : Ck} {Γ : Ga} : ∀ (s : I) {X : Cx} (ok : OKX X C Γ) {sc : Scope} {f : Str → Bool} (hs : X.env.scope = sc) (hf : ∀ y, f y = true → X.fn y = true) (hR : isRg s = true) (x : Expr), s.ck C sc f x x = true → ∃ tr, PRg X x tr ∧ RgD (fun sl h => s.den Γ sl h) tr
  | .r1 a, X, ok, sc, f, hs, hf, hR, x, h => by
    unfold I.ck at h
    split at h
    · simp only [Bool.and_eq_true, decide_eq_true_eq] at h
      obtain ⟨⟨⟨rfl, h2⟩, h3⟩, h4⟩ := h
      simp only [I.den]
      exact rg_1 (show X.env.scope.names.lookup _ = _ from hs ▸ gl_of h2) (ok.blt _ (by decide)) h3 (E.sound a ok hs hf _ h4).v.wk
    · cases h
  | .r2 a b, X, ok, sc, f, hs, hf, hR, x, h => by
    unfold I.ck at h
    split at h
    · simp only [Bool.and_eq_true, decide_eq_true_eq] at h
      obtain ⟨⟨⟨⟨rfl, h2⟩, h3⟩, h4⟩, h5⟩ := h
      simp only [I.den]
      exact rg_2 (show X.env.scope.names.lookup _ = _ from hs ▸ gl_of h2) (ok.blt _ (by decide)) h3 (back_one (noStar_tl h3)) (E.sound a ok hs hf _ h4).v.wk (E.sound b ok hs hf _ h5).v.wk
    · cases h
  | .it _, X, ok, sc, f, hs, hf, hR, x, h => by cases hR
  | .r3 _ _ _, X, ok, sc, f, hs, hf, hR, x, h => by cases hR
  | .zip _ _, X, ok, sc, f, hs, hf, hR, x, h => by cases hR
  | .zip3 _ _ _, X, ok, sc, f, hs, hf, hR, x, h => by cases hR
  | .enum _, X, ok, sc, f, hs, hf, hR, x, h => by cases hR
  | .enumzip _ _, X, ok, sc, f, hs, hf, hR, x, h => by cases hR
  | .items _, X, ok, sc, f, hs, hf, hR, x, h => by cases hR
  | .vals _, X, ok, sc, f, hs, hf, hR, x, h => by cases hR
theorem I.sound {C : Ck} {Γ : Ga} : ∀ (s : I) {X : Cx} (ok : OKX X C Γ) {sc : Scope} {f : Str → Bool} (hs : X.env.scope = sc) (hf : ∀ y, f y = true → X.fn y = true) (tg x : Expr), s.ck C sc f tg x = true → PI X tg x (TI fun sl h => s.den Γ sl h)
  | .it e, X, ok, sc, f, hs, hf, tg, x, h => by
    unfold I.ck at h
    simp only [I.den]
    exact ti_it (E.sound e ok hs hf _ h).v.wk
  | .r1 a, X, ok, sc, f, hs, hf, tg, x, h => by
    unfold I.ck at h
    split at h
    · simp only [Bool.and_eq_true, decide_eq_true_eq] at h
      obtain ⟨⟨⟨rfl, h2⟩, h3⟩, h4⟩ := h
      simp only [I.den]
      exact ti_r1 (show X.env.scope.names.lookup _ = _ from hs ▸ gl_of h2) (ok.blt _ (by decide)) h3 (E.sound a ok hs hf _ h4).v.wk
    · cases h
  | .r2 a b, X, ok, sc, f, hs, hf, tg, x, h => by
    unfold I.ck at h
    split at h
    · simp only [Bool.and_eq_true, decide_eq_true_eq] at h
      obtain ⟨⟨⟨⟨rfl, h2⟩, h3⟩, h4⟩, h5⟩ := h
      simp only [I.den]
      exact ti_r2 (show X.env.scope.names.lookup _ = _ from hs ▸ gl_of h2) (ok.blt _ (by decide)) h3 (E.sound a ok hs hf _ h4).v.wk (E.sound b ok hs hf _ h5).v.wk
    · cases h
  | .r3 a b c, X, ok, sc, f, hs, hf, tg, x, h => by
    unfold I.ck at h
    split at h
    · simp only [Bool.and_eq_true, decide_eq_true_eq] at h
      obtain ⟨⟨⟨⟨⟨rfl, h2⟩, h3⟩, h4⟩, h5⟩, h6⟩ := h
      simp only [I.den]
      exact ti_r3 (show X.env.scope.names.lookup _ = _ from hs ▸ gl_of h2) (ok.blt _ (by decide)) h3 (E.sound a ok hs hf _ h4).v.wk (E.sound b ok hs hf _ h5).v.wk (E.sound c ok hs hf _ h6).v.wk
    · cases h
  | .zip a b, X, ok, sc, f, hs, hf, tg, x, h => by
    unfold I.ck at h
    split at h
    · simp only [Bool.and_eq_true, decide_eq_true_eq] at h
      obtain ⟨⟨⟨⟨rfl, h2⟩, h3⟩, h4⟩, h5⟩ := h
      simp only [I.den]
      exact ti_zip (show X.env.scope.names.lookup _ = _ from hs ▸ gl_of h2) (ok.blt _ (by decide)) h3 (E.sound a ok hs hf _ h4).v.wk (E.sound b ok hs hf _ h5).v.wk
    · cases h
  | .zip3 _ _ _, X, ok, sc, f, hs, hf, tg, x, h => by unfold I.ck at h; cases h
  | .enum a, X, ok, sc, f, hs, hf, tg, x, h => by
    unfold I.ck at h
    split at h
    · simp only [Bool.and_eq_true, decide_eq_true_eq] at h
      obtain ⟨⟨⟨rfl, h2⟩, h3⟩, h4⟩ := h
      simp only [I.den]
      exact ti_enum (show X.env.scope.names.lookup _ = _ from hs ▸ gl_of h2) (ok.blt _ (by decide)) h3 (E.sound a ok hs hf _ h4).v.wk
    · cases h
  | .enumzip _ _, X, ok, sc, f, hs, hf, tg, x, h => by unfold I.ck at h; cases h
  | .items d, X, ok, sc, f, hs, hf, tg, x, h => by
    unfold I.ck at h
    split at h
    · simp only [Bool.and_eq_true, decide_eq_true_eq] at h
      obtain ⟨⟨rfl, h2⟩, h3⟩ := h
      simp only [I.den]
      exact ti_items (E.sound d ok hs hf _ h3).v.wk rfl h2
    · cases h
  | .vals d, X, ok, sc, f, hs, hf, tg, x, h => by
    unfold I.ck at h
    split at h
    · simp only [Bool.and_eq_true, decide_eq_true_eq] at h
      obtain ⟨⟨rfl, h2⟩, h3⟩ := h
      simp only [I.den]
      exact ti_vals (E.sound d ok hs hf _ h3).v.wk rfl h2
    · cases h
end
end Z

end

section
set_option Elab.async false
set_option linter.all false
set_option maxRecDepth 100000
set_option autoImplicit false
set_option maxHeartbeats 2000000
/-! Z: whether a term is the code of a statement. -/
namespace Z
open PySem PySem.Spec PyProof.Rows L2

def compB : Expr → Bool
  | .ListComp _ _ _ _ => true
  | .SetComp _ _ _ _ => true
  | .DictComp _ _ _ _ _ => true
  | _ => false
theorem swaps_no {v : Expr} {t : Option Expr} {l : Nat} {env : Env} (h : compB v = false) : swapsWith v t l env = pure false := by
  cases v <;> first | rfl | cases h
/-- the store is swapped with the comprehension's end -/
def swB (sc : Scope) (y : Str) (py : Pos) : Expr → Bool
  | .ListComp _ _ scope pos => lclB sc y && (py.line == pos.line) && !(scope.names.any fun (n, k) => n == y && (k == .local || k == .cell))
  | _ => false
theorem swaps_lc {ex : Expr} {gs : List Comprehension} {scope : Scope} {pos py : Pos} {y : Str} {l : Nat} {env : Env} (hk : env.scope.kind = .function) (h : swB env.scope y py (.ListComp ex gs scope pos) = false) : swapsWith (.ListComp ex gs scope pos) (some (.Name y py)) l env = pure false := by
  have hb : env.blockKind = .function := by unfold Env.blockKind; rw [hk]; rfl
  have h : (lclB env.scope y && (py.line == pos.line) && !(scope.names.any fun (n, k) => n == y && (k == .local || k == .cell))) = false := h
  unfold swapsWith
  simp only [hb, Expr.pos]
  have e : (env.kindOf y == some .local) = lclB env.scope y := by
    unfold lclB
    show (env.scope.names.lookup y == some .local) = _
    cases env.scope.names.lookup y with
    | none => rfl
    | some k => cases k <;> rfl
  rw [e]
  show (pure (((true && lclB env.scope y) && py.line == pos.line) && !(scope.names.any fun (n, k) => n == y && (k == .local || k == .cell))) : Sem Bool) = pure false
  rw [Bool.true_and, h]
/-- two names, two values: stored from the right -/
def parB (sc : Scope) (x y : Str) (px py : Pos) (a b : Expr) : Bool :=
  lclB sc x && lclB sc y && (px.line == py.line) && !(x == y) && !([a, b].all (foldedForSure 8)) && !([a, b].all (constantsAlone 8))
theorem swaps_par {sc : Scope} {x y : Str} {px py pt pt2 : Pos} {a b : Expr} {kt k2 : Nat} {env : Env} (hk : env.scope.kind = .function) (hs : env.scope = sc) (hn : noStar [a, b] = true) (h : parB sc x y px py a b = true) :
    swappedStores [.Tuple [.Name x px, .Name y py] kt pt] (.Tuple [a, b] k2 pt2) env = pure (some [x, y]) := by
  have hb : env.blockKind = .function := by unfold Env.blockKind; rw [hk]; rfl
  unfold parB at h
  simp only [Bool.and_eq_true, Bool.not_eq_true'] at h
  obtain ⟨⟨⟨⟨⟨h1, h2⟩, h3⟩, h4⟩, h5⟩, h6⟩ := h
  have l1 : (env.kindOf x == some .local) = true := by show (env.scope.names.lookup x == some .local) = true; rw [hs, lcl_of h1]; rfl
  have l2 : (env.kindOf y == some .local) = true := by show (env.scope.names.lookup y == some .local) = true; rw [hs, lcl_of h2]; rfl
  have h3' : (py.line == px.line) = true := by
    have := eq_of_beq h3
    rw [this]; exact beq_self_eq_true _
  have hxy : (y == x) = false := by
    cases e : (y == x) with
    | false => rfl
    | true =>
      have e := eq_of_beq e
      rw [e] at h4
      have := beq_self_eq_true x
      rw [this] at h4; cases h4
  have k1 : isStar a = false := by cases a <;> first | rfl | cases hn
  have k2 : isStar b = false := by
    have := noStar_tl hn
    cases b <;> first | rfl | cases this
  have st : ∀ e : Expr, (match e with | .Starred .. => true | _ => false) = isStar e := fun e => by cases e <;> rfl
  have hns : ([a, b].any fun | .Starred .. => true | _ => false) = false := by
    have hf : (fun e : Expr => match e with | .Starred .. => true | _ => false) = isStar := funext st
    rw [hf]
    show (isStar a || (isStar b || false)) = false
    rw [k1, k2]
    rfl
  have hnm : ([Expr.Name x px, Expr.Name y py].filterMap fun
    | .Name id pos => if env.kindOf id == some .local && pos.line == px.line then some id else none
    | _ => none) = [x, y] := by
    have q : (px.line == px.line) = true := beq_self_eq_true _
    simp only [List.filterMap, l1, l2, h3', q, Bool.and_self, if_true]
  have hdd : [x, y].eraseDups = [x, y] := by
    simp [List.eraseDups_cons, hxy]
  unfold swappedStores
  show (if (!(true || false) || (2 != 2) || env.blockKind != .function) = true then pure none else if ([a, b].any fun | .Starred .. => true | _ => false) = true then pure none else
    (let names := ([Expr.Name x px, Expr.Name y py].filterMap fun
      | .Name id pos => if env.kindOf id == some .local && pos.line == px.line then some id else none
      | _ => none)
     if (names.length != 2 || names.eraseDups.length != names.length) = true then pure none else if [a, b].all (foldedForSure 8) = true then pure none else do
       if [a, b].all (constantsAlone 8) then unsupported "assign.tuple-of-constant-expressions:order-of-the-stores"
       return some names)) = pure (some [x, y])
  rw [hb, hns, hnm, h5, h6]
  dsimp only
  rw [hdd]
  rfl
def parB3 (sc : Scope) (x y z : Str) (px py pz : Pos) (a b c : Expr) : Bool :=
  lclB sc x && lclB sc y && lclB sc z && (px.line == pz.line) && (py.line == pz.line) && decide ([x, y, z].eraseDups = [x, y, z]) && !([a, b, c].all (foldedForSure 8)) && !([a, b, c].all (constantsAlone 8))
theorem swaps_par3 {sc : Scope} {x y z : Str} {px py pz pt pt2 : Pos} {a b c : Expr} {kt k2 : Nat} {env : Env} (hk : env.scope.kind = .function) (hs : env.scope = sc) (hn : noStar [a, b, c] = true) (h : parB3 sc x y z px py pz a b c = true) :
    swappedStores [.Tuple [.Name x px, .Name y py, .Name z pz] kt pt] (.Tuple [a, b, c] k2 pt2) env = pure (some [x, y, z]) := by
  have hb : env.blockKind = .function := by unfold Env.blockKind; rw [hk]; rfl
  unfold parB3 at h
  simp only [Bool.and_eq_true, Bool.not_eq_true', decide_eq_true_eq] at h
  obtain ⟨⟨⟨⟨⟨⟨⟨h1, h2⟩, h3⟩, h4⟩, h4'⟩, hdd⟩, h5⟩, h6⟩ := h
  have l1 : (env.kindOf x == some .local) = true := by show (env.scope.names.lookup x == some .local) = true; rw [hs, lcl_of h1]; rfl
  have l2 : (env.kindOf y == some .local) = true := by show (env.scope.names.lookup y == some .local) = true; rw [hs, lcl_of h2]; rfl
  have l3 : (env.kindOf z == some .local) = true := by show (env.scope.names.lookup z == some .local) = true; rw [hs, lcl_of h3]; rfl
  have q1 : (px.line == px.line) = true := beq_self_eq_true _
  have q2 : (py.line == px.line) = true := by rw [eq_of_beq h4, eq_of_beq h4']; exact beq_self_eq_true _
  have q3 : (pz.line == px.line) = true := by rw [eq_of_beq h4]; exact beq_self_eq_true _
  have k1 : isStar a = false := by cases a <;> first | rfl | cases hn
  have k2 : isStar b = false := by
    have := noStar_tl hn
    cases b <;> first | rfl | cases this
  have k3 : isStar c = false := by
    have := noStar_tl (noStar_tl hn)
    cases c <;> first | rfl | cases this
  have st : ∀ e : Expr, (match e with | .Starred .. => true | _ => false) = isStar e := fun e => by cases e <;> rfl
  have hns : ([a, b, c].any fun | .Starred .. => true | _ => false) = false := by
    have hf : (fun e : Expr => match e with | .Starred .. => true | _ => false) = isStar := funext st
    rw [hf]
    show (isStar a || (isStar b || (isStar c || false))) = false
    rw [k1, k2, k3]
    rfl
  have hnm : ([Expr.Name x px, Expr.Name y py, Expr.Name z pz].filterMap fun
    | .Name id pos => if env.kindOf id == some .local && pos.line == px.line then some id else none
    | _ => none) = [x, y, z] := by
    simp only [List.filterMap, l1, l2, l3, q1, q2, q3, Bool.and_self, if_true]
  unfold swappedStores
  show (if (!(false || true) || (3 != 3) || env.blockKind != .function) = true then pure none else if ([a, b, c].any fun | .Starred .. => true | _ => false) = true then pure none else
    (let names := ([Expr.Name x px, Expr.Name y py, Expr.Name z pz].filterMap fun
      | .Name id pos => if env.kindOf id == some .local && pos.line == px.line then some id else none
      | _ => none)
     if (names.length != 3 || names.eraseDups.length != names.length) = true then pure none else if [a, b, c].all (foldedForSure 8) = true then pure none else do
       if [a, b, c].all (constantsAlone 8) then unsupported "assign.tuple-of-constant-expressions:order-of-the-stores"
       return some names)) = pure (some [x, y, z])
  rw [hb, hns, hnm, h5, h6]
  dsimp only
  rw [hdd]
  rfl
/-- a tuple of targets, its value no tuple or one of constants: the pair is laid and taken apart -/
def apartB : Expr → Bool
  | .Tuple vs _ _ => vs.all (foldedForSure 8)
  | _ => true
theorem swaps_apart {tg v : Expr} {env : Env} (h : apartB v = true) : swappedStores [tg] v env = pure none := by
  unfold swappedStores
  cases v <;> first
    | (cases tg <;> rfl)
    | (rename_i vs k p
       have h : vs.all (foldedForSure 8) = true := h
       cases tg <;> first
         | rfl
         | (dsimp only
            rw [h]
            repeat (first | rfl | split))
       )
def dMode (m : Bool) (e : E) : Bool := !m || e.fr
theorem dMode_of {m : Bool} {e : E} (h : dMode m e = true) (k : m = true) : e.fr = true := by
  subst k; simpa [dMode] using h
/-- the same of a dict comprehension -/
def swD (sc : Scope) (y : Str) (py : Pos) : Expr → Bool
  | .DictComp _ _ _ scope pos => lclB sc y && (py.line == pos.line) && !(scope.names.any fun (n, k) => n == y && (k == .local || k == .cell))
  | _ => false
theorem swaps_dc {kx vx : Expr} {gs : List Comprehension} {scope : Scope} {pos py : Pos} {y : Str} {l : Nat} {env : Env} (hk : env.scope.kind = .function) (h : swD env.scope y py (.DictComp kx vx gs scope pos) = false) : swapsWith (.DictComp kx vx gs scope pos) (some (.Name y py)) l env = pure false := by
  have hb : env.blockKind = .function := by unfold Env.blockKind; rw [hk]; rfl
  have h : (lclB env.scope y && (py.line == pos.line) && !(scope.names.any fun (n, k) => n == y && (k == .local || k == .cell))) = false := h
  unfold swapsWith
  simp only [hb, Expr.pos]
  have e : (env.kindOf y == some .local) = lclB env.scope y := by
    unfold lclB
    show (env.scope.names.lookup y == some .local) = _
    cases env.scope.names.lookup y with
    | none => rfl
    | some k => cases k <;> rfl
  rw [e]
  show (pure (((true && lclB env.scope y) && py.line == pos.line) && !(scope.names.any fun (n, k) => n == y && (k == .local || k == .cell))) : Sem Bool) = pure false
  rw [Bool.true_and, h]
def isDc : E → Bool
  | .dc _ _ _ _ _ _ => true
  | _ => false
def isLc : E → Bool
  | .lc _ _ _ _ _ => true
  | .lc2 _ _ _ _ _ _ _ _ _ => true
  | _ => false
mutual
def S.ck (C : Ck) (sc : Scope) : S → Stmt → Bool
  | .asg g e => fun st => match g with
    | .nm i => (match st with
      | .Assign [.Name y py] v _ => decide (C.N[i]? = some y) && locB sc y && (isNd e || (if swB sc y py v then isLc e else (!(compB v) || isLc e))) && e.ck C sc (fun _ => true) v
      | _ => false)
    | .tup gs => (match st with
      | .Assign [.Tuple ts k p] v _ => apartB v && !(compB v) && G.ck C.N sc (fun _ => true) (.tup gs) (.Tuple ts k p) && e.ck C sc (fun _ => true) v
      | _ => false)
  | .new i e => fun st => match st with
    | .Assign [.Name y py] v _ => decide (C.N[i]? = some y) && locB sc y && (if swB sc y py v then isLc e else (!(compB v) || isLc e)) && e.fr && e.ck C sc (fun _ => true) v
    | _ => false
  | .newd i e => fun st => match st with
    | .Assign [.Name y py] v _ => decide (C.N[i]? = some y) && locB sc y && isNd e && e.ck C sc (fun _ => true) v
    | _ => false
  | .par i j m n a b => fun st => match st with
    | .Assign [.Tuple [.Name x px, .Name y py] _ _] (.Tuple [l, r] _ _) _ => decide (C.N[i]? = some x) && decide (C.N[j]? = some y) && decide (i ≠ j) && parB sc x y px py l r && noStar [l, r] && dMode m a && dMode n b && a.ck C sc (fun _ => true) l && b.ck C sc (fun _ => true) r
    | _ => false
  | .par3 i j l a b c => fun st => match st with
    | .Assign [.Tuple [.Name x px, .Name y py, .Name z pz] _ _] (.Tuple [p, q, r] _ _) _ => decide (C.N[i]? = some x) && decide (C.N[j]? = some y) && decide (C.N[l]? = some z) && decide (i ≠ j) && decide (i ≠ l) && decide (j ≠ l) && parB3 sc x y z px py pz p q r && noStar [p, q, r] && a.ck C sc (fun _ => true) p && b.ck C sc (fun _ => true) q && c.ck C sc (fun _ => true) r
    | _ => false
  | .aug i o e => fun st => match st with
    | .AugAssign (.Name y _) op v _ => decide (C.N[i]? = some y) && locB sc y && sameBo o op && ipOk o && e.ck C sc (fun _ => true) v
    | _ => false
  | .seti o k e => fun st => match st with
    | .Assign [.Subscript l r _] v _ => plainB r && !(compB v) && o.ck C sc (fun _ => true) l && k.ck C sc (fun _ => true) r && e.ck C sc (fun _ => true) v
    | _ => false
  | .augi _ _ _ _ => fun _ => false
  | .app o e => fun st => match st with
    | .Expr (.Call (.Attribute (.Name y p) m apos) [v] [] cpos) _ => decide (m = ("append" : Str)) && (apos.endLine == cpos.line) && noStar [v] && o.ck C sc (fun _ => true) (.Name y p) && e.ck C sc (fun _ => true) v
    | _ => false
  | .ext o e => fun st => match st with
    | .Expr (.Call (.Attribute (.Name y p) m apos) [v] [] cpos) _ => decide (m = ("extend" : Str)) && (apos.endLine == cpos.line) && noStar [v] && o.ck C sc (fun _ => true) (.Name y p) && e.ck C sc (fun _ => true) v
    | _ => false
  | .ex e => fun st => match st with
    | .Expr v _ => !(compB v) && e.ck C sc (fun _ => true) v
    | _ => false
  | .ret e => fun st => match st with
    | .Return (some v) _ => e.ck C sc (fun _ => true) v
    | _ => false
  | .retN => fun st => match st with
    | .Return none _ => true
    | _ => false
  | .ife c a b => fun st => match st with
    | .If ce ab bb _ => c.ck C sc (fun _ => true) ce && a.ck C sc ab && b.ck C sc bb
    | _ => false
  | .for_ g s b => fun st => match st with
    | .For tg iter body [] _ => notSet iter && g.ck C.N sc (fun _ => true) tg && s.ck C sc (fun _ => true) tg iter && b.ck C sc body
    | _ => false
  | .whil c b => fun st => match st with
    | .While ce body [] _ => c.ck C sc (fun _ => true) ce && b.ck C sc body
    | _ => false
  | .brk => fun st => match st with
    | .Break _ => true
    | _ => false
  | .cnt => fun st => match st with
    | .Continue _ => true
    | _ => false
  | .rais _ => fun _ => true
  | .pas => fun st => match st with
    | .Pass _ => true
    | _ => false
def Ss.ck (C : Ck) (sc : Scope) : Ss → List Stmt → Bool
  | .nil => fun sts => match sts with
    | [] => true
    | _ :: _ => false
  | .cons s r => fun sts => match sts with
    | st :: sts => s.ck C sc st && r.ck C sc sts
    | [] => false
end
end Z

end

section
set_option Elab.async false
set_option linter.all false
set_option maxRecDepth 100000
set_option autoImplicit false
set_option maxHeartbeats 2000000
/-! Z: what is checked is so: statements. -/
namespace Z
open PySem PySem.Spec PyProof.Rows L2

structure OKS (X : Cx) (C : Ck) (Γ : Ga) : Prop extends OKX X C Γ where
  po : PassesOwn (model X.prog X.w) X.A X.env X.xe
  fn : ∀ y, X.fn y = true
/-- name = e -/
theorem set_sound {C : Ck} {Γ : Ga} {X : Cx} (ok : OKS X C Γ) {e : E} {i : Nat} {y : Str} {py pos : Pos} {v : Expr} (hi : C.N[i]? = some y) (hl : locB X.env.scope y = true) (hb : (if swB X.env.scope y py v then isLc e else (!(compB v) || isLc e)) = true) (h : e.ck C X.env.scope (fun _ => true) v = true) :
    ∃ te, PS X (.Assign [.Name y py] v pos) (tAsg te (gName i)) ∧ ∀ σ H Q, T e.fr (fun sl h => e.den Γ sl h) σ H Q → te σ H Q := by
  have hi' : X.N[i]? = some y := ok.N ▸ hi
  have k := (E.sound e ok.toOKX rfl (fun y _ => ok.fn y) v h)
  have plain : swapsWith v (some (.Name y py)) pos.line X.env = pure false → ∃ te, PS X (.Assign [.Name y py] v pos) (tAsg te (gName i)) ∧ ∀ σ H Q, T e.fr (fun sl h => e.den Γ sl h) σ H Q → te σ H Q :=
    fun hs => ⟨_, ps_set ok.nd hi' (loc_of hl) k.v hs (.inl (ok.fn y)), fun _ _ _ t => t⟩
  by_cases hlc : isLc e = true
  · cases e with
    | lc elt g s ifs own =>
      have h0 := h
      unfold E.ck at h
      split at h
      · rename_i ex tg iter ix scope cpos
        cases hsw : swB X.env.scope y py (.ListComp ex [⟨tg, iter, ix, 0⟩] scope cpos) with
        | false => exact plain (swaps_lc ok.kind hsw)
        | true =>
          simp only [Bool.and_eq_true] at h
          obtain ⟨⟨⟨⟨⟨⟨h1, h2⟩, h3⟩, h4⟩, h5⟩, h6⟩, h7⟩ := h
          have hsw2 : (lclB X.env.scope y && (py.line == cpos.line) && !(scope.names.any fun (n, k) => n == y && (k == .local || k == .cell))) = true := hsw
          simp only [Bool.and_eq_true, Bool.not_eq_true'] at hsw2
          have B := blkOk_by h1
          have hi2 := I.sound s ok.toOKX rfl (fun y _ => ok.fn y) tg iter h4
          have hg : Blk X scope fun Y => PG Y tg (gT g) := fun s' H A cl fp => G.sound (X := X.blk s' H scope (compEnvC scope cl A X.env) fp) (sc := relS scope X.env.scope) (f := fnB scope) ok.calm ok.N ok.nd rfl (fun _ z => z) g tg h5
          have ht : Blk X scope fun Y => PTs Y ix (TB fun sl h => ifs.tests Γ sl h) := fun s' H A cl fp => Es.soundT ifs (ok.toOKX.blk B.kind) rfl (fun _ z => z) ix h6
          have he : Blk X scope fun Y => PE Y ex (T false fun sl h => elt.den Γ sl h) := fun s' H A cl fp => (E.sound elt (ok.toOKX.blk B.kind) rfl (fun _ z => z) ex h7).v.wk
          refine ⟨_, ps_setLc ok.calm ok.nd hi' (lcl_of hsw2.1.1) (sw_true ok.kind (lcl_of hsw2.1.1) hsw2.1.2 hsw2.2) hi2 (ok.N ▸ B) hg ht he (folded_of h2 X.env), fun σ H Q t => ?_⟩
          rw [ownOf_ix]
          exact lc_T (sub_of h3) (by simp only [E.den] at t; exact t)
      · cases h
    | lc2 elt g s ifs g' s' ifs' own own' =>
      have h0 := h
      unfold E.ck at h
      split at h
      · rename_i ex tg iter ix tg' iter' ix' scope cpos
        cases hsw : swB X.env.scope y py (.ListComp ex [⟨tg, iter, ix, 0⟩, ⟨tg', iter', ix', 0⟩] scope cpos) with
        | false => exact plain (swaps_lc ok.kind hsw)
        | true =>
          simp only [Bool.and_eq_true] at h
          obtain ⟨⟨⟨⟨⟨⟨⟨⟨⟨⟨⟨⟨h1, h2⟩, h2'⟩, h3⟩, h3'⟩, h8⟩, h4⟩, h5⟩, h6⟩, h4'⟩, h5'⟩, h6'⟩, h7⟩ := h
          have hsw2 : (lclB X.env.scope y && (py.line == cpos.line) && !(scope.names.any fun (n, k) => n == y && (k == .local || k == .cell))) = true := hsw
          simp only [Bool.and_eq_true, Bool.not_eq_true'] at hsw2
          have B := blkOk_by h1
          have hi2 := I.sound s ok.toOKX rfl (fun y _ => ok.fn y) tg iter h4
          have hg : Blk X scope fun Y => PG Y tg (gT g) := fun s0 H A cl fp => G.sound (X := X.blk s0 H scope (compEnvC scope cl A X.env) fp) (sc := relS scope X.env.scope) (f := fnB scope) ok.calm ok.N ok.nd rfl (fun _ z => z) g tg h5
          have ht : Blk X scope fun Y => PTs Y ix (TB fun sl h => ifs.tests Γ sl h) := fun _ H A cl fp => Es.soundT ifs (ok.toOKX.blk B.kind) rfl (fun _ z => z) ix h6
          have hi' : Blk X scope fun Y => PI Y tg' iter' (TI fun sl h => s'.den Γ sl h) := fun _ H A cl fp => I.sound s' (ok.toOKX.blk B.kind) rfl (fun _ z => z) tg' iter' h4'
          have hg' : Blk X scope fun Y => PG Y tg' (gT g') := fun s0 H A cl fp => G.sound (X := X.blk s0 H scope (compEnvC scope cl A X.env) fp) (sc := relS scope X.env.scope) (f := fnB scope) ok.calm ok.N ok.nd rfl (fun _ z => z) g' tg' h5'
          have ht' : Blk X scope fun Y => PTs Y ix' (TB fun sl h => ifs'.tests Γ sl h) := fun _ H A cl fp => Es.soundT ifs' (ok.toOKX.blk B.kind) rfl (fun _ z => z) ix' h6'
          have he : Blk X scope fun Y => PE Y ex (T false fun sl h => elt.den Γ sl h) := fun _ H A cl fp => (E.sound elt (ok.toOKX.blk B.kind) rfl (fun _ z => z) ex h7).v.wk
          refine ⟨_, ps_setLc2 (vs1 := own') ok.calm ok.nd (ok.N ▸ hi) (lcl_of hsw2.1.1) (sw_true ok.kind (lcl_of hsw2.1.1) hsw2.1.2 hsw2.2) hi2 (ok.N ▸ B) (by rw [ownOf_ix]; exact sub_of h8) hg ht hi' hg' ht' he (folded_of h2 X.env) (folded_of h2'), fun σ H Q t => ?_⟩
          rw [ownOf_ix]
          exact lc2_T (sub_of h3) (sub_of h3') (by simp only [E.den] at t; exact t)
      · cases h
    | _ => cases hlc
  · have hlc : isLc e = false := by simpa using hlc
    rw [hlc] at hb
    cases hsw : swB X.env.scope y py v with
    | true => rw [hsw] at hb; cases hb
    | false =>
      rw [hsw] at hb
      exact plain (swaps_no (by simpa using hb))
/-- name = what makes a dict -/
theorem newd_sound {C : Ck} {Γ : Ga} {X : Cx} (ok : OKS X C Γ) {e : E} {i : Nat} {y : Str} {py pos : Pos} {v : Expr} (hi : C.N[i]? = some y) (hl : locB X.env.scope y = true) (hn : isNd e = true) (h : e.ck C X.env.scope (fun _ => true) v = true) :
    (∃ te, PS X (.Assign [.Name y py] v pos) (tAsg te (gName i)) ∧ ∀ σ H Q, TN (fun sl h => e.den Γ sl h) σ H Q → te σ H Q) ∧ ∀ (sl : Sl) (h : Hy) (d : D) (h' : Hy), (fun sl h => e.den Γ sl h) sl h = .ok d h' → ∃ t ks vs, d = .dct t ks vs := by
  have hi' : X.N[i]? = some y := ok.N ▸ hi
  have plain : ∀ {te : TE}, PE X v te → (∀ σ H Q, TN (fun sl h => e.den Γ sl h) σ H Q → te σ H Q) → swapsWith v (some (.Name y py)) pos.line X.env = pure false → ∃ te, PS X (.Assign [.Name y py] v pos) (tAsg te (gName i)) ∧ ∀ σ H Q, TN (fun sl h => e.den Γ sl h) σ H Q → te σ H Q :=
    fun k w hs => ⟨_, ps_set ok.nd hi' (loc_of hl) k hs (.inl (ok.fn y)), w⟩
  cases e with
  | dnew t =>
    unfold E.ck at h
    split at h
    · exact ⟨plain (n_dnew t) (fun _ _ _ t => by simp only [E.den] at t; exact t) (swaps_no rfl), by simp only [E.den]; exact dnew_dct⟩
    · cases h
  | disp kvs =>
    unfold E.ck at h
    split at h
    · simp only [Bool.and_eq_true, decide_eq_true_eq] at h
      obtain ⟨k1, k2, k3⟩ := Es.soundP kvs ok.toOKX rfl (fun y _ => ok.fn y) _ _ h.2
      exact ⟨plain (n_disp k1 k2 k3 (fun z => by cases z) h.1) (fun _ _ _ t => by simp only [E.den] at t; exact t) (swaps_no rfl), by simp only [E.den]; exact disp_dct⟩
    · cases h
  | dcp a =>
    have n := E.soundN (.dcp a) ok.toOKX rfl (fun y _ => ok.fn y) rfl v h
    unfold E.ck at h
    split at h
    · exact ⟨plain n (fun _ _ _ t => t) (swaps_no rfl), by simp only [E.den]; exact dcp_dct⟩
    · cases h
  | dc k v g s ifs own =>
    unfold E.ck at h
    split at h
    · rename_i kx vx tg iter ix scope cpos
      simp only [Bool.and_eq_true] at h
      obtain ⟨⟨⟨⟨⟨⟨⟨h1, h2⟩, h3⟩, h4⟩, h5⟩, h6⟩, h7⟩, h8⟩ := h
      have B := blkOk_by h1
      have hi2 := I.sound s ok.toOKX rfl (fun y _ => ok.fn y) tg iter h4
      have hg : Blk X scope fun Y => PG Y tg (gT g) := fun s' H A cl fp => G.sound (X := X.blk s' H scope (compEnvC scope cl A X.env) fp) (sc := relS scope X.env.scope) (f := fnB scope) ok.calm ok.N ok.nd rfl (fun _ z => z) g tg h5
      have ht : Blk X scope fun Y => PTs Y ix (TB fun sl h => ifs.tests Γ sl h) := fun s' H A cl fp => Es.soundT ifs (ok.toOKX.blk B.kind) rfl (fun _ z => z) ix h6
      have hk : Blk X scope fun Y => PE Y kx (T false fun sl h => k.den Γ sl h) := fun s' H A cl fp => (E.sound k (ok.toOKX.blk B.kind) rfl (fun _ z => z) kx h7).v.wk
      have he : Blk X scope fun Y => PE Y vx (T false fun sl h => v.den Γ sl h) := fun s' H A cl fp => (E.sound v (ok.toOKX.blk B.kind) rfl (fun _ z => z) vx h8).v.wk
      have w : ∀ σ H Q, TN (fun sl h => (E.dc k v g s ifs own).den Γ sl h) σ H Q → tDc (TI fun sl h => s.den Γ sl h) (gT g) (TB fun sl h => ifs.tests Γ sl h) (T false fun sl h => k.den Γ sl h) (T false fun sl h => v.den Γ sl h) ((ownOf C.N own).map (·.2)) σ H Q := fun σ H Q t => by
        rw [ownOf_ix]
        exact dc_T (sub_of h3) (by simp only [E.den] at t; exact t)
      refine ⟨?_, by simp only [E.den]; exact dc_dct⟩
      cases hsw : swD X.env.scope y py (.DictComp kx vx [⟨tg, iter, ix, 0⟩] scope cpos) with
      | false => exact plain (pe_dc ok.calm ok.nd hi2 (ok.N ▸ B) hg ht hk he (folded_of h2 X.env)) w (swaps_dc ok.kind hsw)
      | true =>
        have hsw2 : (lclB X.env.scope y && (py.line == cpos.line) && !(scope.names.any fun (n, k) => n == y && (k == .local || k == .cell))) = true := hsw
        simp only [Bool.and_eq_true, Bool.not_eq_true'] at hsw2
        exact ⟨_, ps_setDc ok.calm ok.nd hi' (lcl_of hsw2.1.1) (sw_trueD ok.kind (lcl_of hsw2.1.1) hsw2.1.2 hsw2.2) hi2 (ok.N ▸ B) hg ht hk he (folded_of h2 X.env), w⟩
    · cases h
  | _ => cases hn
theorem assign_sub {l r : Expr} {p : Pos} {env : Env} (h : plainB r = true) (v : Value) : assign (.Subscript l r p) env v = (do
      let ov ← holding [v] (eval l env)
      let iv ← holding [v, ov] (eval r env)
      standAt p
      holding [v, ov, iv] (setItem ov iv v)
      release [v, ov, iv] []) := by
  cases r <;> first | rfl | cases h
theorem few_of {v : Expr} {pos : Pos} {env : Env} (h : noStar [v] = true) : ((backTo pos (starEach [v] env)).all (fun x => !x.1) && (backToKw pos (keywordEach [] env)).all (fun x => x.1.isSome)
      && decide ([v].length + ([] : List Keyword).length + (if ([] : List Keyword).isEmpty then 0 else 1) < 30)) = true := by
  rw [star_cons h]
  rfl
theorem base_of {y m : Str} {p : Pos} {env : Env} : attributeBase (.Name y p) m env (eval (.Name y p) env) = eval (.Name y p) env := rfl
theorem sole_no {tg v : Expr} {l : Nat} {env : Env} (h : compB v = false) : swapsWithSole [tg] v l env = pure false := by
  unfold swapsWithSole
  exact swaps_no h
mutual
theorem S.sound {C : Ck} {Γ : Ga} {X : Cx} (ok : OKS X C Γ) : ∀ (s : S) (st : Stmt), s.ck C X.env.scope st = true → PS X st (TS fun sl h => s.den Γ sl h)
  | .asg (.nm i) e, st, h => by
    unfold S.ck at h
    dsimp only at h
    split at h
    · simp only [Bool.and_eq_true, decide_eq_true_eq] at h
      obtain ⟨⟨⟨h1, h2⟩, h3⟩, h4⟩ := h
      simp only [S.den]
      by_cases hn : isNd e = true
      · obtain ⟨⟨te, k1, k2⟩, k3⟩ := newd_sound ok h1 h2 hn h4
        exact s_setD k1 k2 k3
      · have hn : isNd e = false := by simpa using hn
        rw [hn, Bool.false_or] at h3
        obtain ⟨te, k1, k2⟩ := set_sound ok h1 h2 h3 h4
        exact s_set k1 k2
    · cases h
  | .asg (.tup gs) e, st, h => by
    unfold S.ck at h
    dsimp only at h
    split at h
    · simp only [Bool.and_eq_true, Bool.not_eq_true'] at h
      obtain ⟨⟨⟨h1, h2⟩, h3⟩, h4⟩ := h
      have k := (E.sound e ok.toOKX rfl (fun y _ => ok.fn y) _ h4).v.wk
      have g := G.sound (sc := X.env.scope) ok.calm ok.N ok.nd rfl (fun y _ => ok.fn y) _ _ h3
      simp only [S.den]
      exact s_asg (fr := false) (ps_asg k g (sole_no h2) (swaps_apart h1) rfl) fun _ _ _ t => t
    · cases h
  | .new i e, st, h => by
    unfold S.ck at h
    split at h
    · simp only [Bool.and_eq_true, decide_eq_true_eq] at h
      obtain ⟨⟨⟨⟨h1, h2⟩, h3⟩, h5⟩, h4⟩ := h
      obtain ⟨te, k1, k2⟩ := set_sound ok h1 h2 h3 h4
      rw [h5] at k2
      simp only [S.den]
      exact s_new k1 k2
    · cases h
  | .newd i e, st, h => by
    unfold S.ck at h
    split at h
    · simp only [Bool.and_eq_true, decide_eq_true_eq] at h
      obtain ⟨⟨⟨h1, h2⟩, h3⟩, h4⟩ := h
      obtain ⟨⟨te, k1, k2⟩, k3⟩ := newd_sound ok h1 h2 h3 h4
      simp only [S.den]
      exact s_newd k1 k2 k3
    · cases h
  | .par i j m n a b, st, h => by
    unfold S.ck at h
    split at h
    · simp only [Bool.and_eq_true, decide_eq_true_eq] at h
      obtain ⟨⟨⟨⟨⟨⟨⟨⟨h1, h2⟩, h3⟩, h4⟩, h5⟩, h6⟩, h7⟩, h8⟩, h9⟩ := h
      have h4' := h4
      unfold parB at h4'
      simp only [Bool.and_eq_true] at h4'
      have ka := (E.sound a ok.toOKX rfl (fun y _ => ok.fn y) _ h8).v
      have kb := (E.sound b ok.toOKX rfl (fun y _ => ok.fn y) _ h9).v
      simp only [S.den]
      exact s_par (dMode_of h6) (dMode_of h7) (ps_par ok.calm ok.nd (ok.N ▸ h1) (ok.N ▸ h2) h3 (lcl_of h4'.1.1.1.1.1) (lcl_of h4'.1.1.1.1.2) (pa_two h5 ka kb) (swaps_par ok.kind rfl h5 h4) rfl)
    · cases h
  | .par3 i j l a b c, st, h => by
    unfold S.ck at h
    split at h
    · simp only [Bool.and_eq_true, decide_eq_true_eq] at h
      obtain ⟨⟨⟨⟨⟨⟨⟨⟨⟨⟨h1, h2⟩, h3⟩, h4⟩, h5⟩, h6⟩, h7⟩, h8⟩, h9⟩, h10⟩, h11⟩ := h
      have h7' := h7
      unfold parB3 at h7'
      simp only [Bool.and_eq_true] at h7'
      have ka := (E.sound a ok.toOKX rfl (fun y _ => ok.fn y) _ h9).v
      have kb := (E.sound b ok.toOKX rfl (fun y _ => ok.fn y) _ h10).v
      have kc := (E.sound c ok.toOKX rfl (fun y _ => ok.fn y) _ h11).v
      simp only [S.den]
      exact s_par3 (ps_par3 ok.calm ok.nd (ok.N ▸ h1) (ok.N ▸ h2) (ok.N ▸ h3) h4 h5 h6 (lcl_of h7'.1.1.1.1.1.1.1) (lcl_of h7'.1.1.1.1.1.1.2) (lcl_of h7'.1.1.1.1.1.2) (pa_three h8 ka kb kc) (swaps_par3 ok.kind rfl h8 h7) rfl)
    · cases h
  | .aug i o e, st, h => by
    unfold S.ck at h
    split at h
    · simp only [Bool.and_eq_true, decide_eq_true_eq] at h
      obtain ⟨⟨⟨⟨h1, h2⟩, h3⟩, h4⟩, h5⟩ := h
      cases sameBo_eq h3
      have k := (E.sound e ok.toOKX rfl (fun y _ => ok.fn y) _ h5).v
      simp only [S.den]
      exact s_aug (ps_aug ok.nd (ok.N ▸ h1) (loc_of h2) k (ip_ok h4) (.inl (ok.fn _)))
    · cases h
  | .seti o k e, st, h => by
    unfold S.ck at h
    split at h
    · simp only [Bool.and_eq_true, Bool.not_eq_true'] at h
      obtain ⟨⟨⟨⟨h1, h2⟩, h3⟩, h4⟩, h5⟩ := h
      have ko := (E.sound o ok.toOKX rfl (fun y _ => ok.fn y) _ h3).v
      have kk := (E.sound k ok.toOKX rfl (fun y _ => ok.fn y) _ h4).v
      have ke := (E.sound e ok.toOKX rfl (fun y _ => ok.fn y) _ h5).v
      simp only [S.den]
      exact s_seti (ps_asg ke (pg_sub ko kk (set_ld ok.un) (assign_sub h1)) (sole_no h2) (by unfold swappedStores; rename_i v _; cases v <;> rfl) rfl)
    · cases h
  | .augi _ _ _ _, st, h => by unfold S.ck at h; cases h
  | .app o e, st, h => by
    unfold S.ck at h
    split at h
    · simp only [Bool.and_eq_true, decide_eq_true_eq] at h
      obtain ⟨⟨⟨⟨rfl, h2⟩, h3⟩, h4⟩, h5⟩ := h
      have ko := (E.sound o ok.toOKX rfl (fun y _ => ok.fn y) _ h4).v
      have ke := (E.sound e ok.toOKX rfl (fun y _ => ok.fn y) _ h5).v.wk
      simp only [S.den]
      exact s_app (ps_expr (pe_bm PySem.F.plainAttrs_list PySem.F.slot_list_append PySem.F.type_list_append mt_append ko (ts1 h3 ke) base_of (few_of h3) h2 (star_cons h3) (star_back (es := []) rfl)) (swaps_no rfl))
    · cases h
  | .ext o e, st, h => by
    unfold S.ck at h
    split at h
    · simp only [Bool.and_eq_true, decide_eq_true_eq] at h
      obtain ⟨⟨⟨⟨rfl, h2⟩, h3⟩, h4⟩, h5⟩ := h
      have ko := (E.sound o ok.toOKX rfl (fun y _ => ok.fn y) _ h4).v
      have ke := (E.sound e ok.toOKX rfl (fun y _ => ok.fn y) _ h5).v.wk
      simp only [S.den]
      exact s_ext (ps_expr (pe_bm PySem.F.plainAttrs_list PySem.F.slot_list_extend PySem.F.type_list_extend mt_extend ko (ts1 h3 ke) base_of (few_of h3) h2 (star_cons h3) (star_back (es := []) rfl)) (swaps_no rfl))
    · cases h
  | .ex e, st, h => by
    unfold S.ck at h
    split at h
    · simp only [Bool.and_eq_true, Bool.not_eq_true'] at h
      have k := (E.sound e ok.toOKX rfl (fun y _ => ok.fn y) _ h.2).v
      simp only [S.den]
      exact s_ex (ps_expr k (swaps_no h.1))
    · cases h
  | .ret e, st, h => by
    unfold S.ck at h
    split at h
    · simp only [S.den]
      exact s_ret (E.sound e ok.toOKX rfl (fun y _ => ok.fn y) _ h).v
    · cases h
  | .retN, st, h => by
    unfold S.ck at h
    split at h
    · simp only [S.den]; exact s_retN
    · cases h
  | .ife c a b, st, h => by
    unfold S.ck at h
    split at h
    · simp only [Bool.and_eq_true] at h
      simp only [S.den]
      exact s_ife (E.sound c ok.toOKX rfl (fun y _ => ok.fn y) _ h.1.1).t (Ss.sound ok a _ h.1.2) (Ss.sound ok b _ h.2)
    · cases h
  | .for_ g s b, st, h => by
    unfold S.ck at h
    split at h
    · simp only [Bool.and_eq_true] at h
      obtain ⟨⟨⟨h1, h2⟩, h3⟩, h4⟩ := h
      simp only [S.den]
      exact s_for ok.po ok.calm (I.sound s ok.toOKX rfl (fun y _ => ok.fn y) _ _ h3) (G.sound (sc := X.env.scope) ok.calm ok.N ok.nd rfl (fun y _ => ok.fn y) g _ h2) (Ss.sound ok b _ h4) (folded_of h1 X.env)
    · cases h
  | .whil c b, st, h => by
    unfold S.ck at h
    split at h
    · simp only [Bool.and_eq_true] at h
      simp only [S.den]
      exact s_whil ok.po (E.sound c ok.toOKX rfl (fun y _ => ok.fn y) _ h.1).t (Ss.sound ok b _ h.2)
    · cases h
  | .brk, st, h => by
    unfold S.ck at h
    split at h
    · simp only [S.den]; exact s_brk
    · cases h
  | .cnt, st, h => by
    unfold S.ck at h
    split at h
    · simp only [S.den]; exact s_cnt
    · cases h
  | .rais e, st, h => ⟨fun pins s σ H D I t => by
    obtain ⟨m, sl, h0, d, h', _, _, e1, _⟩ := t
    simp only [S.den] at e1
    obtain ⟨_, _, _, z⟩ := R.bind_ok e1
    cases z⟩
  | .pas, st, h => by
    unfold S.ck at h
    split at h
    · simp only [S.den]; exact s_pas
    · cases h
theorem Ss.sound {C : Ck} {Γ : Ga} {X : Cx} (ok : OKS X C Γ) : ∀ (s : Ss) (sts : List Stmt), s.ck C X.env.scope sts = true → PSs X sts (TS fun sl h => s.den Γ sl h)
  | .nil, sts, h => by
    unfold Ss.ck at h
    split at h
    · simp only [Ss.den]; exact ss_nil
    · cases h
  | .cons s r, sts, h => by
    unfold Ss.ck at h
    split at h
    · simp only [Bool.and_eq_true] at h
      simp only [Ss.den]
      exact ss_cons (S.sound ok s _ h.1) (Ss.sound ok r _ h.2)
    · cases h
end
end Z

end

section
set_option Elab.async false
set_option linter.all false
set_option maxRecDepth 100000
set_option autoImplicit false
/-! Z: defs. -/
namespace Z
open PySem PySem.Spec PyProof.Rows L2

/-! ### a def's end: the lists it made stand still -/
section
variable {m : Ms} {H : Hp} {h : Hy} {n : Nat}
theorem mapM_cons_some {α β : Type} {f : α → Option β} {x : α} {xs : List α} {ys : List β} (e : (x :: xs).mapM f = some ys) : ∃ y r, f x = some y ∧ xs.mapM f = some r ∧ ys = y :: r := by
  rw [List.mapM_cons] at e
  obtain ⟨y, e1, e2⟩ := Option.bind_eq_some_iff.mp e
  obtain ⟨r, e3, e4⟩ := Option.bind_eq_some_iff.mp e2
  exact ⟨y, r, e1, e3, (Option.some.inj e4).symm⟩
abbrev Ms.cut (m : Ms) (n : Nat) : Ms := ⟨m.l.take n, m.g⟩
theorem cut_bad {a : Addr} (h : (m.cut n).bad a) : m.bad a := by
  rcases h with h | h
  · exact .inl (List.mem_of_mem_take h)
  · exact .inr h
theorem reps_map {m2 : Ms} {H2 : Hp} {f : D → Option D} (hf : ∀ d d' v, f d = some d' → Rep m H d v → Rep m2 H2 d' v) : ∀ (xs ys : List D) (vs : List V), xs.mapM f = some ys → Reps m H xs vs → Reps m2 H2 ys vs
  | [], ys, vs, e, r => by
    have : ys = [] := by simpa using e.symm
    subst this
    exact r
  | x :: xs, ys, vs, e, r => by
    obtain ⟨y, u, e1, e2, rfl⟩ := mapM_cons_some e
    obtain ⟨v, w, rfl, k1, k2⟩ := r
    exact ⟨v, w, rfl, hf x y v e1 k1, reps_map hf xs u w e2 k2⟩
theorem cut_get {i : Nat} {a : Addr} (e : m.l[i]? = some a) (hi : i < n) : (m.cut n).l[i]? = some a := by
  show (m.l.take n)[i]? = some a
  rw [List.getElem?_take_of_lt hi]; exact e
theorem cut_not {i : Nat} {a : Addr} (nd : m.l.Nodup) (e : m.l[i]? = some a) (hi : ¬ i < n) : a ∉ m.l.take n := fun z => by
  obtain ⟨j, hj, ej⟩ := List.getElem_of_mem z
  have h1 : (m.l.take n)[j]? = some a := by rw [List.getElem?_eq_getElem hj, ej]
  have hj2 : j < n := by
    rw [List.length_take] at hj; omega
  rw [List.getElem?_take_of_lt hj2] at h1
  have := nodup_get nd e h1
  omega
/-- H2 is H with the things at L known from now on -/
structure Locked (L : List Addr) (H H2 : Hp) : Prop where
  off : ∀ a, a ∉ L → H2 a = H a
  on : ∀ a ∈ L, ∃ od u, H a = some u ∧ H2 a = some (.frz od u)
theorem Inv.locks {X : Cx} {pins : List (Addr × Obj)} {σ : L2.St} {s : Shared} : ∀ {L : List Addr} {H : Hp}, L.Nodup → (∀ a ∈ L, ∃ u, H a = some u ∧ Mut (some u)) → Inv X pins σ H s → ∃ H2, Locked L H H2 ∧ Inv X pins σ H2 s
  | [], H, _, _, I => ⟨H, ⟨fun _ _ => rfl, fun a ha => by cases ha⟩, I⟩
  | b :: L, H, nd, hm, I => by
    obtain ⟨u, hu, mu⟩ := hm b (List.mem_cons_self ..)
    obtain ⟨od, I1⟩ := I.lock hu mu
    have nd' := List.nodup_cons.mp nd
    have hm' : ∀ a ∈ L, ∃ u', (upd H b (.frz od u)) a = some u' ∧ Mut (some u') := fun a ha => by
      obtain ⟨u', h1, h2⟩ := hm a (List.mem_cons_of_mem _ ha)
      exact ⟨u', by rw [upd_ne (fun z => nd'.1 (by rw [← z]; exact ha))]; exact h1, h2⟩
    obtain ⟨H2, lk, I2⟩ := Inv.locks nd'.2 hm' I1
    refine ⟨H2, ⟨fun a ha => ?_, fun a ha => ?_⟩, I2⟩
    · have h1 : a ≠ b := fun z => ha (by rw [z]; exact List.mem_cons_self ..)
      rw [lk.off a (fun z => ha (List.mem_cons_of_mem _ z)), upd_ne h1]
    · by_cases hab : a = b
      · subst hab
        exact ⟨od, u, hu, by rw [lk.off a nd'.1]; exact upd_same⟩
      · rcases List.mem_cons.mp ha with z | z
        · exact absurd z hab
        · obtain ⟨od', u', h1, h2⟩ := lk.on a z
          rw [upd_ne hab] at h1
          exact ⟨od', u', h1, h2⟩
/-- what is handed back may be known from then on -/
def rtL (rt : VK) : VK := fun v H => ∃ L : List Addr, L.Nodup ∧ (∀ a ∈ L, ∃ u, H a = some u ∧ Mut (some u)) ∧ ∀ H2, Locked L H H2 → rt v H2
theorem PSs.lockRt {X : Cx} {st : List Stmt} {t : L2.TS} (h : PSs X st t) : PSs X st (fun D σ H => t { D with rt := rtL D.rt } σ H) := by
  refine ⟨fun pins s σ H D I hw => thn (h.run pins s σ H _ I hw) fun f s1 q => ?_⟩
  cases f with
  | next => exact q
  | brk => exact q
  | cont => exact q
  | ret u =>
    obtain ⟨v, σ', H', I', r, L, nd, hm, q⟩ := q
    obtain ⟨H2, lk, I2⟩ := Inv.locks nd hm I'
    exact ⟨v, σ', H2, I2, r, q H2 lk⟩
/-- a thing stands still from here on -/
theorem PSs.lockAt {X : Cx} {st : List Stmt} {t : L2.TS} (h : PSs X st t) : PSs X st (fun D σ H => ∃ a u, H a = some u ∧ Mut (some u) ∧ ∀ od, t D σ (upd H a (.frz od u))) := by
  refine ⟨fun pins s σ H D I hw => ?_⟩
  obtain ⟨a, u, hu, mu, q⟩ := hw
  obtain ⟨od, I2⟩ := I.lock hu mu
  exact h.run pins s σ _ D I2 (q od)
/-- the dicts that a def has made -/
def dLocs (l : List Addr) (h : Hy) (n : Nat) : List Addr := (l.zip h).zipIdx.filterMap fun p => match p.1.2 with
  | .d _ _ _ => if n ≤ p.2 then some p.1.1 else none
  | _ => none
theorem dLocs_mem {l : List Addr} {h : Hy} {n : Nat} {a : Addr} : a ∈ dLocs l h n ↔ ∃ i t ks vs, n ≤ i ∧ l[i]? = some a ∧ h[i]? = some (.d t ks vs) := by
  unfold dLocs
  rw [List.mem_filterMap]
  constructor
  · rintro ⟨⟨⟨b, o⟩, i⟩, hm, e⟩
    rw [List.mem_zipIdx_iff_getElem?] at hm
    rw [List.getElem?_zip_eq_some] at hm
    cases o with
    | l xs => cases e
    | d t ks vs =>
      dsimp only at e
      split at e
      · cases e
        exact ⟨i, t, ks, vs, by assumption, hm.1, hm.2⟩
      · cases e
  · rintro ⟨i, t, ks, vs, hi, h1, h2⟩
    refine ⟨⟨⟨a, .d t ks vs⟩, i⟩, ?_, ?_⟩
    · rw [List.mem_zipIdx_iff_getElem?, List.getElem?_zip_eq_some]
      exact ⟨h1, h2⟩
    · dsimp only
      rw [if_pos hi]
theorem fz_rep {H2 : Hp} (hr : HRep m H h) (lk : Locked (dLocs m.l h n) H H2) : ∀ (k : Nat) (d d' : D) (v : V), D.fz h n k d = some d' → Rep m H d v → Rep (m.cut n) H2 d' v := by
  have offb : ∀ {a : Addr}, ¬ m.bad a → H2 a = H a := fun {a} nb => lk.off a fun z => by
    obtain ⟨i, t, ks, vs, _, h1, _⟩ := dLocs_mem.mp z
    exact nb (.inl (List.mem_of_getElem? h1))
  intro k
  induction k with
  | zero => intro d d' v e _; simp [D.fz] at e
  | succ k ih =>
    intro d d' v e r
    cases d with
    | non => simp [D.fz] at e; subst e; exact r
    | bl b => simp [D.fz] at e; subst e; exact r
    | int b => simp [D.fz] at e; subst e; exact r
    | str b => simp [D.fz] at e; subst e; exact r
    | lsi ns =>
      simp [D.fz] at e; subst e
      obtain ⟨a, o, rfl, nb, ha⟩ := r
      exact ⟨a, o, rfl, fun z => nb (cut_bad z), by rw [offb nb]; exact ha⟩
    | dct t ks vs =>
      simp only [D.fz] at e
      obtain ⟨ys, e1, rfl⟩ := Option.map_eq_some_iff.mp e
      obtain ⟨a, o, u, ws, rfl, nb, ha, hd, hv⟩ := r
      exact ⟨a, o, u, ws, rfl, fun z => nb (cut_bad z), by rw [offb nb]; exact ha, hd, reps_map ih vs ys ws e1 hv⟩
    | tup xs =>
      simp only [D.fz] at e
      obtain ⟨ys, e1, rfl⟩ := Option.map_eq_some_iff.mp e
      obtain ⟨a, vs, rfl, nb, ha, hv⟩ := r
      exact ⟨a, vs, rfl, fun z => nb (cut_bad z), by rw [offb nb]; exact ha, reps_map ih xs ys vs e1 hv⟩
    | lst xs =>
      simp only [D.fz] at e
      obtain ⟨ys, e1, rfl⟩ := Option.map_eq_some_iff.mp e
      obtain ⟨a, vs, rfl, nb, ha, hv⟩ := r
      exact ⟨a, vs, rfl, fun z => nb (cut_bad z), by rw [offb nb]; exact ha, reps_map ih xs ys vs e1 hv⟩
    | loc i =>
      obtain ⟨a, rfl, ka⟩ := r
      simp only [D.fz] at e
      by_cases hi : i < n
      · rw [if_pos hi] at e
        cases e
        exact ⟨a, rfl, cut_get ka hi⟩
      · rw [if_neg hi] at e
        have nbad : ¬ (m.cut n).bad a := fun z => by
          rcases z with z | z
          · exact cut_not hr.nd ka hi z
          · exact (hr.dj a z).1 (List.mem_of_getElem? ka)
        split at e
        · rename_i xs eh
          obtain ⟨ys, e1, rfl⟩ := Option.map_eq_some_iff.mp e
          obtain ⟨vs, h1, h2⟩ := hr.ob i _ a eh ka
          refine ⟨a, vs, rfl, nbad, ?_, reps_map ih xs ys vs e1 h2⟩
          rw [lk.off a fun z => by
            obtain ⟨j, t, ks, vs, _, k1, k2⟩ := dLocs_mem.mp z
            rw [nodup_get hr.nd ka k1] at eh
            rw [eh] at k2; cases k2]
          exact h1
        · rename_i t ks vs eh
          obtain ⟨ys, e1, rfl⟩ := Option.map_eq_some_iff.mp e
          obtain ⟨u, ws, h1, h2, h3⟩ := hr.ob i _ a eh ka
          obtain ⟨od, u', k1, k2⟩ := lk.on a (dLocs_mem.mpr ⟨i, t, ks, vs, by omega, ka, eh⟩)
          rw [h1] at k1; cases k1
          exact ⟨a, od, u, ws, rfl, nbad, k2, h2, reps_map ih vs ys ws e1 h3⟩
        · cases e
mutual
theorem Rep.cut' : ∀ (d : D) (v : V), Rep m H d v → D.old n d = true → Rep (m.cut n) H d v
  | .non, _, r, _ => r
  | .bl _, _, r, _ => r
  | .int _, _, r, _ => r
  | .str _, _, r, _ => r
  | .dct t ks ds, v, r, o => by
    obtain ⟨a, od, u, ws, rfl, nb, ha, hd, hv⟩ := r
    rw [D.old, Bool.and_eq_true] at o
    exact ⟨a, od, u, ws, rfl, fun z => nb (cut_bad z), ha, hd, Reps.cut' ds ws hv o.2⟩
  | .tup xs, v, r, o => by
    obtain ⟨a, vs, rfl, nb, ha, hv⟩ := r
    exact ⟨a, vs, rfl, fun z => nb (cut_bad z), ha, Reps.cut' xs vs hv (by simpa [D.old] using o)⟩
  | .lst xs, v, r, o => by
    obtain ⟨a, vs, rfl, nb, ha, hv⟩ := r
    exact ⟨a, vs, rfl, fun z => nb (cut_bad z), ha, Reps.cut' xs vs hv (by simpa [D.old] using o)⟩
  | .loc i, v, r, o => by
    obtain ⟨a, rfl, ka⟩ := r
    exact ⟨a, rfl, cut_get ka (by simpa [D.old] using o)⟩
  | .lsi ns, v, r, _ => by
    obtain ⟨a, o, rfl, nb, ha⟩ := r
    exact ⟨a, o, rfl, fun z => nb (cut_bad z), ha⟩
theorem Reps.cut' : ∀ (ds : List D) (vs : List V), Reps m H ds vs → D.olds n ds = true → Reps (m.cut n) H ds vs
  | [], _, r, _ => r
  | d :: ds, vs, r, o => by
    obtain ⟨v, w, rfl, k1, k2⟩ := r
    rw [D.olds, Bool.and_eq_true] at o
    exact ⟨v, w, rfl, Rep.cut' d v k1 o.1, Reps.cut' ds w k2 o.2⟩
end
theorem Reps.lock {H2 : Hp} {L : List Addr} (lk : Locked L H H2) (hL : ∀ a ∈ L, m.bad a) {xs : List D} {vs : List V} (r : Reps m H xs vs) : Reps m H2 xs vs :=
  Reps.off (fun a o nb e => by rw [lk.off a (fun z => nb (hL a z))]; exact e) xs vs r
theorem HRep.cut {H2 : Hp} {L : List Addr} (hr : HRep m H h) (lk : Locked L H H2) (hLn : ∀ a ∈ L, ∃ i, n ≤ i ∧ m.l[i]? = some a) (ho : (h.take n).all (Ob.old n) = true) : HRep (m.cut n) H2 (h.take n) := by
  have hL : ∀ a ∈ L, m.bad a := fun a z => by
    obtain ⟨i, _, h1⟩ := hLn a z
    exact .inl (List.mem_of_getElem? h1)
  have offn : ∀ {i : Nat} {a : Addr}, m.l[i]? = some a → i < n → H2 a = H a := fun {i a} e hi => lk.off a fun z => by
    obtain ⟨j, hj, h1⟩ := hLn a z
    have := nodup_get hr.nd e h1
    omega
  refine ⟨hr.nd.sublist (List.take_sublist _ _), by show (m.l.take n).length = _; rw [List.length_take, List.length_take, hr.len], fun i o a h1 h2 => ?_, fun a ha => ⟨fun z => (hr.dj a ha).1 (List.mem_of_mem_take z), ?_⟩⟩
  · have hi : i < n := by
      have := (List.getElem?_eq_some_iff.mp h1).1
      rw [List.length_take] at this; omega
    have ho' := List.all_eq_true.mp ho o (List.mem_of_getElem? h1)
    have h2 : (m.l.take n)[i]? = some a := h2
    rw [List.getElem?_take_of_lt hi] at h1 h2
    have q := hr.ob i o a h1 h2
    cases o with
    | l xs => obtain ⟨vs, e, q⟩ := q; exact ⟨vs, by rw [offn h2 hi]; exact e, Reps.lock (m := m.cut n) (L := []) ⟨fun _ _ => rfl, fun _ z => by cases z⟩ (fun _ z => by cases z) (Reps.cut' xs vs (Reps.lock lk hL q) ho')⟩
    | d t ks vs =>
      obtain ⟨u, ws, e, hd, q⟩ := q
      have ho2 : (D.olds n ks && D.olds n vs) = true := ho'
      rw [Bool.and_eq_true] at ho2
      exact ⟨u, ws, by rw [offn h2 hi]; exact e, hd, Reps.cut' vs ws (Reps.lock lk hL q) ho2.2⟩
  · obtain ⟨o, e⟩ := (hr.dj a ha).2
    refine ⟨o, ?_⟩
    rw [lk.off a fun z => ?_]
    · exact e
    · obtain ⟨j, hj, h1⟩ := hLn a z
      exact (hr.dj a ha).1 (List.mem_of_getElem? h1)
theorem dLocs_nodup {l : List Addr} {h : Hy} (nd : l.Nodup) : (dLocs l h n).Nodup := by
  unfold dLocs
  refine List.Pairwise.filterMap (R := fun a b : (Addr × Ob) × Nat => a.1.1 ≠ b.1.1) _ (fun a b hne c hc d hd => ?_) ?_
  · obtain ⟨⟨a1, a2⟩, a3⟩ := a
    obtain ⟨⟨b1, b2⟩, b3⟩ := b
    cases a2 <;> cases b2 <;> dsimp only at hc hd <;> (try (cases hc)) <;> (try (cases hd)) <;> (try (split at hc)) <;> (try (split at hd)) <;> (try (cases hc)) <;> (try (cases hd)) <;> exact hne
  · rw [List.pairwise_iff_getElem]
    intro i j hi hj hij
    have hi' : i < (l.zip h).length := by rw [List.length_zipIdx] at hi; exact hi
    have hj' : j < (l.zip h).length := by rw [List.length_zipIdx] at hj; exact hj
    have hl1 : i < l.length := by rw [List.length_zip] at hi'; omega
    have hl2 : j < l.length := by rw [List.length_zip] at hj'; omega
    simp only [List.getElem_zipIdx, List.getElem_zip]
    intro z
    have := nodup_get nd (List.getElem?_eq_getElem hl1) ((List.getElem?_eq_getElem hl2).trans (by rw [z]))
    omega
/-- leaving a def -/
theorem leave_rep {m1 : Ms} {H1 : Hp} {h1 h2 : Hy} {d d2 : D} {v : V} (hr : HRep m H h) (x : Ext m m1 H H1) (hr1 : HRep m1 H1 h1) (rv : Rep m1 H1 d v) (e : leave h.length d h1 = .ok d2 h2) :
    ∃ L : List Addr, L.Nodup ∧ (∀ a ∈ L, ∃ u, H1 a = some u ∧ Mut (some u)) ∧ ∀ H2, Locked L H1 H2 → ∃ m2, Ext m m2 H H2 ∧ HRep m2 H2 h2 ∧ Rep m2 H2 d2 v := by
  unfold leave at e
  split at e
  · cases e
    refine ⟨[], List.nodup_nil, (fun _ z => by cases z), fun H2 lk => ⟨m1, ?_⟩⟩
    have : H2 = H1 := funext fun a => lk.off a (by simp)
    subst this
    exact ⟨x, hr1, rv⟩
  · split at e
    · rename_i ho
      split at e
      · rename_i d' ef
        cases e
        refine ⟨dLocs m1.l h1 h.length, dLocs_nodup hr1.nd, fun a ha => ?_, fun H2 lk => ⟨m1.cut h.length, ⟨x.g, ?_, fun a ha => x.new a (List.mem_of_mem_take ha), fun a o e na => ?_⟩, hr1.cut lk (fun a z => let ⟨i, _, _, _, k0, k1, _⟩ := dLocs_mem.mp z; ⟨i, k0, k1⟩) ho, fz_rep hr1 lk 40 d d2 v ef rv⟩⟩
        · obtain ⟨i, t, ks, vs, _, k1, k2⟩ := dLocs_mem.mp ha
          obtain ⟨u, ws, k3, k4, _⟩ := hr1.ob i _ a k2 k1
          refine ⟨u, k3, ?_⟩
          cases t with
          | false => obtain ⟨kvs, rfl, _⟩ := k4; trivial
          | true => obtain ⟨kvs, rfl, _⟩ := k4; trivial
        · obtain ⟨t, et⟩ := x.pre
          refine ⟨[], ?_⟩
          show m.l ++ [] = m1.l.take h.length
          rw [← et, ← hr.len, List.take_left', List.append_nil]
          rfl
        · rw [lk.off a fun z => ?_]
          · exact x.keep a o e na
          · obtain ⟨j, t, ks, vs, hj, k1, _⟩ := dLocs_mem.mp z
            rcases x.new a (List.mem_of_getElem? k1) with q | q
            · exact na q
            · rw [e] at q; cases q
      · cases e
    · cases e
end

/-- a def that runs off its end -/
theorem leave_non {m m1 : Ms} {H H1 : Hp} {h h1 h2 : Hy} {d2 : D} (hr : HRep m H h) (x : Ext m m1 H H1) (hr1 : HRep m1 H1 h1) (e : leave h.length .non h1 = .ok d2 h2) : ∃ m2, Ext m m2 H H1 ∧ HRep m2 H1 h2 ∧ Rep m2 H1 d2 .non := by
  unfold leave at e
  split at e
  · cases e; exact ⟨m1, x, hr1, rfl⟩
  · split at e
    · rename_i ho
      split at e
      · rename_i d' ef
        cases e
        simp only [D.fz, Option.some.injEq] at ef
        subst ef
        refine ⟨m1.cut h.length, ⟨x.g, ?_, fun a ha => x.new a (List.mem_of_mem_take ha), x.keep⟩, hr1.cut (L := []) ⟨fun _ _ => rfl, fun _ z => by cases z⟩ (fun _ z => by cases z) ho, rfl⟩
        obtain ⟨t, et⟩ := x.pre
        refine ⟨[], ?_⟩
        show m.l ++ [] = m1.l.take h.length
        rw [← et, ← hr.len, List.take_left', List.append_nil]
        rfl
      · cases e
    · cases e
/-! ### a def by its code -/
def scB (N ps : List Str) (sc : Scope) : Bool := (match sc.kind with | .function => true | _ => false) && !sc.isCoroutine && !sc.isGenerator && decide N.Nodup && decide (N.take ps.length = ps) && (ps.all fun x => locB sc x) && sc.names.all fun y => match y.2 with
  | .free => false
  | _ => true
theorem scB_of {N ps : List Str} {sc : Scope} (h : scB N ps sc = true) : FnScope N ps sc := by
  unfold scB at h
  simp only [Bool.and_eq_true, Bool.not_eq_true', decide_eq_true_eq, List.all_eq_true] at h
  obtain ⟨⟨⟨⟨⟨⟨h1, h2⟩, h3⟩, h4⟩, h5⟩, h6⟩, h7⟩ := h
  refine ⟨?_, h2, h3, h4, h5, fun x hx => loc_of (h6 x hx), fun y hy z => ?_⟩
  · split at h1
    · assumption
    · cases h1
  · have := h7 y hy
    rw [z] at this
    cases this
def Df.ck (nm : List Str) (cs : List (Nat × Int)) (ct : List (Nat × Str)) (df : Df) (N ps : List Str) (st : Stmt) : Bool :=
  scB N ps (defScope st) && decide (N.length = df.names) && decide (ps.length = df.many) && df.body.ck ⟨N, nm, cs, ct⟩ (defScope st) (defBody st)
theorem start_rep {m : Ms} {H : Hp} {xs : List D} {vs : List V} {N : List Str} {df : Df} (r : Reps m H xs vs) (hN : N.length = df.names) : SRep m H (df.start xs) (L2.start N vs) := by
  have hl := r.length
  refine ⟨?_, fun i d e => ?_⟩
  · unfold Df.start L2.start
    rw [List.length_append, List.length_append, List.length_map, List.length_map, List.length_replicate, List.length_replicate, hl, hN]
  · unfold Df.start at e
    by_cases hi : i < xs.length
    · rw [List.getElem?_append_left (by rw [List.length_map]; exact hi), List.getElem?_map] at e
      obtain ⟨d', e1, e2⟩ := Option.map_eq_some_iff.mp e
      cases e2
      obtain ⟨v, k1, k2⟩ := r.get e1
      refine ⟨v, ?_, k2⟩
      unfold L2.start
      rw [List.getElem?_append_left (by rw [List.length_map]; omega), List.getElem?_map, k1]
      rfl
    · rw [List.getElem?_append_right (by rw [List.length_map]; omega), List.getElem?_replicate] at e
      split at e <;> cases e
section
variable {P : Program} {w : World} {K : PySem.W.Frag} {mg : Str → Option Value} {base : Heap}
/-- what stands behind the top of the module -/
structure Env1 (K : PySem.W.Frag) (mg : Str → Option Value) (nm : List Str) (cs : List (Nat × Int)) (ct : List (Nat × Str)) (codes : List Df) : Prop where
  cst2 : ∀ (i : Nat) (x : Str) (v : Str), nm[i]? = some x → ct.lookup i = some v → ∃ u, mg x = some u ∧ RelV (.str v) u
  cst : ∀ (i : Nat) (x : Str) (v : Int), nm[i]? = some x → cs.lookup i = some v → ∃ u, mg x = some u ∧ RelV (.int v) u
  blt : ∀ x ∈ bltNames, mg x = none
  fns : ∀ (i : Nat) (df : Df), codes[i]? = some df → ∃ x st f fd N ps, nm[i]? = some x ∧ mg x = some (.ref f) ∧ FunD K x x (defArgs st) (defBody st) (defScope st) [] [] f fd ∧ Binds K fd ps [] ∧ df.ck nm cs ct N ps st = true
theorem okx_of {nm : List Str} {cs : List (Nat × Int)} {ct : List (Nat × Str)} {codes : List Df} (E : Env1 K mg nm cs ct codes) {n : Nat} (ih : ∀ (i : Nat) (g : Fn) (x : Str), ga codes n i = some g → nm[i]? = some x → ∃ a, mg x = some (.ref a) ∧ PySem.W.keepIn K (.ref a) = true ∧ FnR P w K mg base CX0 n a (SpOf g))
    {N ps : List Str} {x : Str} {sc : Scope} (S : FnScope N ps sc) {f : Addr} {cdv : Value} {A : Around} {outer : List Env} {s : Shared} {H : Hp} {E0 : XK} (hr : Room n (A.deeper (envOfC x sc s.heap.objs.size f cdv))) :
    OKS (cxOf CX0 P w K mg base N x sc f cdv A outer s H E0).nox ⟨N, nm, cs, ct⟩ (ga codes n) :=
  { calm := rfl, kind := S.kind, N := rfl, nd := S.nd, cst := E.cst, cst2 := E.cst2, blt := E.blt, po := PassesOwn.never, fn := fun _ => rfl,
    un := by
      have := hr.un
      have e9 : (A.deeper (envOfC x sc s.heap.objs.size f cdv)).units = A.units + 3 := rfl
      show A.units + 3 + 65 < cLine
      omega
    fns := fun j g y e2 e3 => by
      obtain ⟨a, q1, q2, q3⟩ := ih j g y e2 e3
      exact ⟨a, n, q1, q2, q3, hr⟩ }
theorem ga_ok {nm : List Str} {cs : List (Nat × Int)} {ct : List (Nat × Str)} {codes : List Df} (E : Env1 K mg nm cs ct codes) : ∀ (n i : Nat) (g : Fn) (x : Str), ga codes n i = some g → nm[i]? = some x → ∃ a, mg x = some (.ref a) ∧ PySem.W.keepIn K (.ref a) = true ∧ FnR P w K mg base CX0 n a (SpOf g)
  | 0, i, g, x, e, _ => by cases e
  | n + 1, i, g, x, e, ex => by
    simp only [ga] at e
    obtain ⟨df, e1, rfl⟩ := Option.map_eq_some_iff.mp e
    obtain ⟨x', st, f, fd, N, ps, k1, k2, F, B, c⟩ := E.fns i df e1
    rw [ex] at k1; cases k1
    unfold Df.ck at c
    simp only [Bool.and_eq_true, decide_eq_true_eq] at c
    obtain ⟨⟨⟨c1, c2⟩, c3⟩, c4⟩ := c
    have S := scB_of c1
    refine ⟨f, k2, F.kp, ?_⟩
    have ok : FnOk P w K mg base CX0 (n + 1) f fd ps (SpOf (Df.den (ga codes n) df)) := by
      refine F.ok S (fun vs H Q E0 hq => ?_) (fun cdv A outer s H vs Q E0 hr hq => ?_)
      · obtain ⟨m, h, ds, d, h', hr, rp, ee, q⟩ := hq
        unfold Df.den at ee
        split at ee
        · rename_i hl
          rw [rp.length, hl, c3]
        · cases ee
      · obtain ⟨m, h, ds, d, h', hrp, rp, ee, q⟩ := hq
        refine ⟨_, PSs.lockRt (Ss.sound (okx_of E (ga_ok E n) S hr) df.body (defBody st) c4).nox, ?_⟩
        unfold Df.den at ee
        split at ee
        · rename_i hl
          obtain ⟨r, h1, e4, e5⟩ := R.bind_ok ee
          refine TS.to hrp (start_rep rp c2) e4 fun m1 H1 x1 hr1 => ?_
          cases r with
          | rt d1 =>
            intro v rv
            obtain ⟨L, nd, hm, k⟩ := leave_rep hrp x1 hr1 rv e5
            refine ⟨L, nd, hm, fun H2 lk => ?_⟩
            obtain ⟨m2, x2, hr2, rv2⟩ := k H2 lk
            exact q v m2 H2 x2 hr2 rv2
          | nx sl =>
            intro σ' sr'
            obtain ⟨m2, x2, hr2, rv2⟩ := leave_non hrp x1 hr1 e5
            exact q .non m2 H1 x2 hr2 rv2
          | bk sl => cases e5
          | ct sl => cases e5
        · cases ee
    have raw := ok.raw B .nil
    exact raw.imp fun vs H Q E h => by rw [List.append_nil]; exact h

/-! ### the law -/
/-- draw = [script[:63], 0, 0] -/
def headB : Stmt → Bool
  | .Assign [.Name y _] (.List [.Subscript (.Name x _) (.Slice none (some (.Constant (.int i) _ _)) none _) _, .Constant (.int j) _ _, .Constant (.int k) _ _] _) _ => decide (y = ("draw" : Str)) && decide (x = ("script" : Str)) && decide (i = 63) && decide (j = 0) && decide (k = 0)
  | _ => false
def Law.sl (n : Nat) : Sl := none :: some (.loc 0) :: List.replicate n none
def Law.hy (ns : List Int) : Hy := [.l [.lsi ns, .int 0, .int 0]]
/-- what the rest of the law's def says -/
def Law.says (Γ : Ga) (rest : Ss) (n : Nat) (ns : List Int) : Prop := ∃ h', rest.den Γ (Law.sl n) (Law.hy ns) = .ok (.rt (.bl true)) h'
def spLaw (K : PySem.W.Frag) : Sp := fun vs H Q _ => ∃ (a : Addr) (ns : List Int), vs = [.ref a] ∧ SqL K H a (ns.map V.int) ∧ ns.length ≤ 63 ∧ ∀ H', Q (.bl true) H'
theorem reps_ints' {m : Ms} {H : Hp} : ∀ ns : List Int, Reps m H (ns.map D.int) (ns.map V.int)
  | [] => rfl
  | n :: ns => ⟨_, _, rfl, rfl, reps_ints' ns⟩
theorem law_fn {nm : List Str} {cs : List (Nat × Int)} {ct : List (Nat × Str)} {codes : List Df} (E : Env1 K mg nm cs ct codes) {n k : Nat} {f : Addr} {fd : FuncData} {st s0 : Stmt} {sts : List Stmt} {N : List Str} {rest : Ss} (F : FunD K "law" "law" (defArgs st) (defBody st) (defScope st) [] [] f fd)
    (hs : scB N ["script"] (defScope st) = true) (hN : N.length = k + 2) (h0 : N[0]? = some ("script" : Str)) (h1 : N[1]? = some ("draw" : Str)) (hl : locB (defScope st) "draw" = true) (hl0 : locB (defScope st) "script" = true) (hb : defBody st = s0 :: sts) (hh : headB s0 = true)
    (hc : rest.ck ⟨N, nm, cs, ct⟩ (defScope st) sts = true) (law : ∀ ns : List Int, ns.length ≤ 63 → Law.says (ga codes n) rest k ns) : FnOk P w K mg base CX0 (n + 1) f fd ["script"] (spLaw K) := by
  have S := scB_of hs
  refine F.ok S (fun vs H Q E0 hq => ?_) (fun cdv A outer s H vs Q E0 hr hq => ?_)
  · obtain ⟨a, ns, rfl, _⟩ := hq; rfl
  · obtain ⟨a, ns, rfl, hS, hl63, q⟩ := hq
    have okx := okx_of (P := P) (w := w) (base := base) E (ga_ok E n) S (outer := outer) (H := H) (E0 := E0) hr
    have kr := Ss.sound okx rest sts hc
    unfold headB at hh
    split at hh
    · simp only [Bool.and_eq_true, decide_eq_true_eq] at hh
      obtain ⟨⟨⟨⟨rfl, rfl⟩, rfl⟩, rfl⟩, rfl⟩ := hh
      have hv0 : Vis (defScope st) "script" := by
        rcases loc_of hl0 with z | z
        · exact .inl z
        · exact .inr (.inl z)
      rw [hb]
      refine ⟨_, (pss_cons (ps_set (X := (cxOf CX0 P w K mg base N "law" (defScope st) f cdv A outer s H E0).nox) (i := 1) S.nd h1 (loc_of hl) (pe_lst (pa_cons (pe_slice sl_list (pe_var (i := 0) h0 hv0 (by decide) (by decide)) po_none (po_some pe_int)) (pa_cons pe_int (pa_cons pe_int pa_nil)))) (by rfl) (.inl rfl)) (PSs.lockAt kr)).nox, ?_⟩
      obtain ⟨h', el⟩ := law ns hl63
      have e0 : L2.start N [V.ref a] = some (.ref a) :: none :: List.replicate k none := by
        unfold L2.start
        rw [hN]
        rfl
      rw [e0]
      refine ⟨_, rfl, 63, rfl, a, ns.map V.int, rfl, hS, fun p0 hp0 => ⟨by show 3 ≤ sizeLine; decide, fun p1 hp1 => ?_⟩⟩
      have ecut : cutV (ns.map V.int) none (some 63) = ns.map V.int := by
        have e1 := Z.cut_whole (ns.map V.int) (lo := none) (hi := some 63) ⟨rfl, by
          unfold sIx
          simp only [List.length_map]
          rw [if_neg (by decide)]
          show min 63 ns.length = ns.length
          omega⟩
        unfold Z.cut at e1
        unfold cutV
        rw [sIx_eq] at e1
        exact e1
      rw [ecut] at hp1 ⊢
      have ne : p0 ≠ p1 := fun z => by rw [z, upd_same] at hp1; cases hp1
      have sh : (upd (upd H p0 (.lst (ns.map V.int))) p1 (.lst [V.ref p0, V.int 0, V.int 0])) p0 = some (.lst (ns.map V.int)) := by rw [upd_ne ne]; exact upd_same
      refine ⟨p0, _, sh, trivial, fun od => ?_⟩
      have s1 : (upd (upd (upd H p0 (.lst (ns.map V.int))) p1 (.lst [V.ref p0, V.int 0, V.int 0])) p0 (.frz od (.lst (ns.map V.int)))) p1 = some (.lst [V.ref p0, V.int 0, V.int 0]) := by rw [upd_ne (fun z => ne z.symm)]; exact upd_same
      have r0 : Rep ⟨[p1], []⟩ (upd (upd (upd H p0 (.lst (ns.map V.int))) p1 (.lst [V.ref p0, V.int 0, V.int 0])) p0 (.frz od (.lst (ns.map V.int)))) (.lsi ns) (.ref p0) := by
        refine ⟨p0, od, rfl, fun z => ?_, upd_same⟩
        rcases z with z | z
        · exact ne (List.mem_singleton.mp z)
        · cases z
      have hrep : HRep ⟨[p1], []⟩ (upd (upd (upd H p0 (.lst (ns.map V.int))) p1 (.lst [V.ref p0, V.int 0, V.int 0])) p0 (.frz od (.lst (ns.map V.int)))) (Law.hy ns) := by
        refine ⟨by simp, rfl, fun j o b e1 e2 => ?_, fun b hb => by cases hb⟩
        cases j with
        | zero =>
          cases e1; cases e2
          exact ⟨_, s1, _, _, rfl, r0, _, _, rfl, rfl, _, _, rfl, rfl, rfl⟩
        | succ j => simp [Law.hy] at e1
      have srep : SRep ⟨[p1], []⟩ (upd (upd (upd H p0 (.lst (ns.map V.int))) p1 (.lst [V.ref p0, V.int 0, V.int 0])) p0 (.frz od (.lst (ns.map V.int)))) (Law.sl k) ((some (V.ref a) :: none :: List.replicate k none).set 1 (some (.ref p1))) := by
        refine ⟨by simp [Law.sl], fun j d e1 => ?_⟩
        match j with
        | 0 => cases e1
        | 1 => cases e1; exact ⟨_, rfl, p1, rfl, rfl⟩
        | j + 2 =>
          have e1 : (List.replicate k (none : Option D))[j]? = some (some d) := e1
          rw [List.getElem?_replicate] at e1
          split at e1 <;> cases e1
      exact TS.to hrep srep el fun m2 H2 x2 hr2 v rv => by
        cases rv
        exact q H2
    · cases hh
end
end Z

end

section
set_option Elab.async false
set_option linter.all false
set_option maxRecDepth 100000
set_option autoImplicit false
/-! Z: from the heap behind the top to the law. -/
namespace Z
open PySem PySem.Spec PyProof.Rows L2

/-- a def of the module: its name, its statement, its names by slot, its parameters -/
structure DfT where
  x : Str
  st : Stmt
  N : List Str
  ps : List Str
def DfT.d (t : DfT) : He.DefD := ⟨(t.x, none), t.x, t.x, defArgs t.st, defBody t.st, defScope t.st, [], []⟩
abbrev DfT.Binds (t : DfT) : Prop := ∀ (kV doc pm : Value) (an : Option Addr) (cdv ct : Value) (us : List Value), us.length = t.ps.length → bindArgs (PySem.W.fnOf t.x t.x (defArgs t.st) (defBody t.st) (defScope t.st) .none kV doc pm an cdv ct) ⟨us, []⟩ = pure (t.ps.zip us)
/-- the facts that the head tells: ts the defs, l the law's -/
def factsOf (nm : List Str) (cs : List (Nat × Int)) (ct : List (Nat × Str)) (ts : List DfT) (l : DfT) : List He.Fa := (ts.map fun t => .glo t.x) ++ (.glo l.x :: ((cs.map fun p => .int (nm.getD p.1 ⟨#[]⟩) p.2) ++ ((ct.map fun p => .str (nm.getD p.1 ⟨#[]⟩) p.2) ++ bltNames.map .free)))
def fnsOf (ts : List DfT) (l : DfT) : List He.DefD := ts.map DfT.d ++ [l.d]
/-- all that is to be reckoned of the defs -/
def allCk (nm : List Str) (cs : List (Nat × Int)) (ct : List (Nat × Str)) : List Str → List Df → List DfT → Bool
  | _, [], [] => true
  | x :: xs, df :: dfs, t :: ts => decide (x = t.x) && df.ck nm cs ct t.N t.ps t.st && allCk nm cs ct xs dfs ts
  | _, _, _ => false
theorem allCk_at {nm : List Str} {cs : List (Nat × Int)} {ct : List (Nat × Str)} : ∀ {xs : List Str} {dfs : List Df} {ts : List DfT}, allCk nm cs ct xs dfs ts = true → ∀ {i : Nat} {df : Df}, dfs[i]? = some df → ∃ t, ts[i]? = some t ∧ xs[i]? = some t.x ∧ df.ck nm cs ct t.N t.ps t.st = true
  | _, [], _, _, i, df, e => by simp at e
  | [], _ :: _, _, h, i, df, e => by simp [allCk] at h
  | _ :: _, _ :: _, [], h, i, df, e => by simp [allCk] at h
  | x :: xs, d :: dfs, t :: ts, h, 0, df, e => by
    simp only [allCk, Bool.and_eq_true, decide_eq_true_eq] at h
    have e : d = df := by simpa using e
    subst e
    exact ⟨t, rfl, by rw [h.1.1]; rfl, h.1.2⟩
  | x :: xs, d :: dfs, t :: ts, h, i + 1, df, e => by
    simp only [allCk, Bool.and_eq_true] at h
    obtain ⟨t', k1, k2, k3⟩ := allCk_at h.2 (i := i) (by simpa using e)
    exact ⟨t', by simpa using k1, by simpa using k2, k3⟩
theorem lookup_mem {α : Type} {i : Nat} {v : α} : ∀ {cs : List (Nat × α)}, cs.lookup i = some v → (i, v) ∈ cs
  | [], h => by simp at h
  | (j, w) :: cs, h => by
    rw [List.lookup_cons] at h
    split at h
    · rename_i e
      have e := eq_of_beq e
      cases h
      subst e
      exact List.mem_cons_self ..
    · exact List.mem_cons_of_mem _ (lookup_mem h)
section
variable {K : PySem.W.Frag} {h : Heap} {mg : Str → Option Value} {nm : List Str} {cs : List (Nat × Int)} {ct : List (Nat × Str)} {ts : List DfT} {l : DfT} {codes : List Df}
theorem env1_of (X : K.In h) (G : h.Ns mainGlobals mg) (c : He.SaysD (factsOf nm cs ct ts l) (fnsOf ts l) K) (hb : ∀ t ∈ ts, t.Binds) (hk : allCk nm cs ct nm codes ts = true) : Env1 K mg nm cs ct codes := by
  refine ⟨fun i x v e1 e2 => ?_, fun i x v e1 e2 => ?_, fun x hx => ?_, fun i df e => ?_⟩
  · have m : He.Fa.str x v ∈ factsOf nm cs ct ts l := by
      refine List.mem_append_right _ (List.mem_cons_of_mem _ (List.mem_append_right _ (List.mem_append_left _ (List.mem_map.mpr ⟨(i, v), lookup_mem e2, ?_⟩))))
      show He.Fa.str (nm.getD i ⟨#[]⟩) v = _
      rw [List.getD_eq_getElem?_getD, e1]
      rfl
    obtain ⟨t, q⟩ := He.str_ok X G (c.facts m)
    exact ⟨_, q, t, rfl⟩
  · have m : He.Fa.int x v ∈ factsOf nm cs ct ts l := by
      refine List.mem_append_right _ (List.mem_cons_of_mem _ (List.mem_append_left _ (List.mem_map.mpr ⟨(i, v), lookup_mem e2, ?_⟩)))
      show He.Fa.int (nm.getD i ⟨#[]⟩) v = _
      rw [List.getD_eq_getElem?_getD, e1]
      rfl
    obtain ⟨t, q⟩ := He.int_ok X G (c.facts m)
    exact ⟨_, q, t, rfl⟩
  · have m : He.Fa.free x ∈ factsOf nm cs ct ts l := List.mem_append_right _ (List.mem_cons_of_mem _ (List.mem_append_right _ (List.mem_append_right _ (List.mem_map.mpr ⟨x, hx, rfl⟩))))
    exact He.free_ok X G (c.facts m)
  · obtain ⟨t, k1, k2, k3⟩ := allCk_at hk e
    have mt : t ∈ ts := List.mem_of_getElem? k1
    have m : He.Fa.glo t.x ∈ factsOf nm cs ct ts l := List.mem_append_left _ (List.mem_map.mpr ⟨t, mt, rfl⟩)
    have md : t.d ∈ fnsOf ts l := List.mem_append_left _ (List.mem_map.mpr ⟨t, mt, rfl⟩)
    obtain ⟨fd, F⟩ := c.defs md
    exact ⟨t.x, t.st, _, fd, t.N, t.ps, k2, He.glo_ok X G (c.facts m), F, F.bindsN (hb t mt), k3⟩
/-- the law at the heap behind the top -/
theorem law_end {P : Program} {w : World} {n k : Nat} {rest : Ss} {s0 : Stmt} {sts : List Stmt} {f : Addr} (X : K.In h) (G : h.Ns mainGlobals mg) (hfa : mg ("law" : Str) = some (.ref f)) (c : He.SaysD (factsOf nm cs ct ts l) (fnsOf ts l) K) (hb : ∀ t ∈ ts, t.Binds) (hk : allCk nm cs ct nm codes ts = true)
    (hl : l.x = ("law" : Str)) (hlp : l.ps = [("script" : Str)]) (hlb : l.Binds) (hs : scB l.N ["script"] (defScope l.st) = true) (hN : l.N.length = k + 2) (h0 : l.N[0]? = some ("script" : Str)) (h1 : l.N[1]? = some ("draw" : Str)) (hloc : locB (defScope l.st) "draw" = true) (hloc0 : locB (defScope l.st) "script" = true)
    (hbd : defBody l.st = s0 :: sts) (hh : headB s0 = true) (hc : rest.ck ⟨l.N, nm, cs, ct⟩ (defScope l.st) sts = true) (law : ∀ ns : List Int, ns.length ≤ 63 → Law.says (ga codes n) rest k ns) :
    ∃ fd : FuncData, (∀ (s : Shared) (v : Value), BindsTo s fd ⟨[v], []⟩ [("script", v)]) ∧ ∀ base : Heap, K.In base → base.Ns mainGlobals mg → FnOk P w K mg base CX0 (n + 1) f fd ["script"] (spLaw K) := by
  have E := env1_of X G c hb hk
  have md : l.d ∈ fnsOf ts l := List.mem_append_right _ (List.mem_singleton.mpr rfl)
  have m : He.Fa.glo l.x ∈ factsOf nm cs ct ts l := List.mem_append_right _ (List.mem_cons_self ..)
  obtain ⟨fd, F⟩ := c.defs md
  have e := hfa.symm.trans (hl ▸ He.glo_ok X G (c.facts m))
  have F' : FunD K l.x l.x (defArgs l.st) (defBody l.st) (defScope l.st) [] [] (He.ga K l.x) fd := F
  rw [hl] at F'
  cases e
  have hlb' := hlb
  unfold DfT.Binds at hlb'
  rw [hl, hlp] at hlb'
  have b := FunD.bindsA (ps := ["script"]) F' hlb'
  exact ⟨fd, fun s v => b s [v] rfl, fun base _ _ => law_fn E F' hs hN h0 h1 hloc hloc0 hbd hh hc law⟩
end
end Z

end

section
set_option linter.all false
set_option autoImplicit false
/-! Z: what a def computes may be told by anything that says less. -/
namespace Z
open PySem

/-- says less, or the same -/
def R.le {α : Type} (r s : R α) : Prop := r = .no ∨ r = s
theorem R.le_refl {α : Type} (r : R α) : R.le r r := .inr rfl
theorem R.no_le {α : Type} (r : R α) : R.le .no r := .inl rfl
theorem R.le_trans {α : Type} {r s t : R α} (a : R.le r s) (b : R.le s t) : R.le r t := by
  rcases a with rfl | rfl
  · exact .inl rfl
  · exact b
theorem R.bind_le {α β : Type} {r s : R α} {f g : α → Hy → R β} (a : R.le r s) (b : ∀ x h, R.le (f x h) (g x h)) : R.le (r.bind f) (s.bind g) := by
  rcases a with rfl | rfl
  · exact .inl rfl
  · cases r with
    | ok x h => exact b x h
    | exc x h => exact .inr rfl
    | no => exact .inr rfl
theorem R.le_ok {α : Type} {r s : R α} {a : α} {h : Hy} (l : R.le r s) (e : r = .ok a h) : s = .ok a h := by
  rcases l with z | z
  · rw [z] at e; cases e
  · rw [← z]; exact e
theorem R.le_exc {α : Type} {r s : R α} {x : D} {h : Hy} (l : R.le r s) (e : r = .exc x h) : s = .exc x h := by
  rcases l with z | z
  · rw [z] at e; cases e
  · rw [← z]; exact e
def Fn.le (f g : Fn) : Prop := ∀ xs h, R.le (f xs h) (g xs h)
def Ga.le (Γ Δ : Ga) : Prop := ∀ i f, Γ i = some f → ∃ g, Δ i = some g ∧ Fn.le f g
theorem Fn.le_refl (f : Fn) : Fn.le f f := fun _ _ => R.le_refl _
theorem Fn.le_trans {f g k : Fn} (a : Fn.le f g) (b : Fn.le g k) : Fn.le f k := fun xs h => R.le_trans (a xs h) (b xs h)
theorem Ga.le_refl (Γ : Ga) : Ga.le Γ Γ := fun _ f e => ⟨f, e, Fn.le_refl f⟩
theorem Ga.le_trans {Γ Δ Θ : Ga} (a : Ga.le Γ Δ) (b : Ga.le Δ Θ) : Ga.le Γ Θ := fun i f e => by
  obtain ⟨g, e1, l1⟩ := a i f e
  obtain ⟨k, e2, l2⟩ := b i g e1
  exact ⟨k, e2, Fn.le_trans l1 l2⟩

theorem lcGo_le {f g : D → Hy → R (Option D)} (w : ∀ x h, R.le (f x h) (g x h)) : ∀ (xs acc : List D) (h : Hy), R.le (lcGo f xs acc h) (lcGo g xs acc h)
  | [], acc, h => R.le_refl _
  | x :: xs, acc, h => by
    simp only [lcGo]
    rcases w x h with e | e
    · rw [e]; exact R.no_le _
    · rw [← e]
      cases f x h with
      | ok o h' => cases o with
        | none => exact lcGo_le w xs acc h'
        | some d => exact lcGo_le w xs _ h'
      | exc _ _ => exact R.le_refl _
      | no => exact R.le_refl _
theorem lcGo2_le {f g : D → Hy → R (List D)} (w : ∀ x h, R.le (f x h) (g x h)) : ∀ (xs acc : List D) (h : Hy), R.le (lcGo2 f xs acc h) (lcGo2 g xs acc h)
  | [], acc, h => R.le_refl _
  | x :: xs, acc, h => by
    simp only [lcGo2]
    rcases w x h with e | e
    · rw [e]; exact R.no_le _
    · rw [← e]
      cases f x h with
      | ok o h' => exact lcGo2_le w xs _ h'
      | exc _ _ => exact R.le_refl _
      | no => exact R.le_refl _
theorem dcGo_le {f g : D → Hy → R (Option (D × D))} (w : ∀ x h, R.le (f x h) (g x h)) : ∀ (xs ks vs : List D) (h : Hy), R.le (dcGo f xs ks vs h) (dcGo g xs ks vs h)
  | [], ks, vs, h => R.le_refl _
  | x :: xs, ks, vs, h => by
    simp only [dcGo]
    rcases w x h with e | e
    · rw [e]; exact R.no_le _
    · rw [← e]
      cases f x h with
      | ok o h' => cases o with
        | none => exact dcGo_le w xs ks vs h'
        | some d =>
          obtain ⟨y, z⟩ := d
          dsimp only
          split
          · exact dcGo_le w xs _ _ h'
          · exact R.le_refl _
      | exc _ _ => exact R.le_refl _
      | no => exact R.le_refl _
theorem forGo_le {f g : D → Sl → Hy → R Fl} (w : ∀ x sl h, R.le (f x sl h) (g x sl h)) : ∀ (xs : List D) (sl : Sl) (h : Hy), R.le (forGo f xs sl h) (forGo g xs sl h)
  | [], sl, h => R.le_refl _
  | x :: xs, sl, h => by
    simp only [forGo]
    rcases w x sl h with e | e
    · rw [e]; exact R.no_le _
    · rw [← e]
      cases f x sl h with
      | ok o h' => cases o with
        | nx sl' => exact forGo_le w xs _ h'
        | ct sl' => exact forGo_le w xs _ h'
        | bk sl' => exact R.le_refl _
        | rt d => exact R.le_refl _
      | exc _ _ => exact R.le_refl _
      | no => exact R.le_refl _
theorem whGo_le {c c' : Sl → Hy → R Bool} {f g : Sl → Hy → R Fl} (wc : ∀ sl h, R.le (c sl h) (c' sl h)) (w : ∀ sl h, R.le (f sl h) (g sl h)) : ∀ (n : Nat) (sl : Sl) (h : Hy), R.le (whGo c f n sl h) (whGo c' g n sl h)
  | 0, sl, h => R.le_refl _
  | n + 1, sl, h => by
    simp only [whGo]
    rcases wc sl h with e | e
    · rw [e]; exact R.no_le _
    · rw [← e]
      cases c sl h with
      | ok b h1 => cases b with
        | false => exact R.le_refl _
        | true =>
          dsimp only
          rcases w sl h1 with e | e
          · rw [e]; exact R.no_le _
          · rw [← e]
            cases f sl h1 with
            | ok o h' => cases o with
              | nx sl' => exact whGo_le wc w n _ h'
              | ct sl' => exact whGo_le wc w n _ h'
              | bk sl' => exact R.le_refl _
              | rt d => exact R.le_refl _
            | exc _ _ => exact R.le_refl _
            | no => exact R.le_refl _
      | exc _ _ => exact R.le_refl _
      | no => exact R.le_refl _

mutual
theorem E.den_le {Γ Δ : Ga} (l : Ga.le Γ Δ) (sl : Sl) (h : Hy) : ∀ e : E, R.le (e.den Γ sl h) (e.den Δ sl h)
  | .var i => R.le_refl _
  | .cst d => R.le_refl _
  | .gl _ d => R.le_refl _
  | .bin o a b => by simp only [E.den]; exact R.bind_le (E.den_le l sl h a) fun x h => R.bind_le (E.den_le l sl h b) fun y h => R.le_refl _
  | .neg a => by simp only [E.den]; exact R.bind_le (E.den_le l sl h a) fun x h => R.le_refl _
  | .nt a => by simp only [E.den]; exact R.bind_le (E.den_le l sl h a) fun x h => R.le_refl _
  | .an a b => by
    simp only [E.den]
    refine R.bind_le (E.den_le l sl h a) fun x h => ?_
    split
    · exact E.den_le l sl h b
    · exact R.le_refl _
    · exact R.le_refl _
  | .orr a b => by
    simp only [E.den]
    refine R.bind_le (E.den_le l sl h a) fun x h => ?_
    split
    · exact R.le_refl _
    · exact E.den_le l sl h b
    · exact R.le_refl _
  | .cmp c a b => by simp only [E.den]; exact R.bind_le (E.den_le l sl h a) fun x h => R.bind_le (E.den_le l sl h b) fun y h => R.le_refl _
  | .chain c c' a b e => by
    simp only [E.den]
    refine R.bind_le (E.den_le l sl h a) fun x h => R.bind_le (E.den_le l sl h b) fun y h => R.bind_le (R.le_refl _) fun k h => ?_
    split
    · exact R.bind_le (E.den_le l sl h e) fun z h => R.le_refl _
    · exact R.le_refl _
  | .ife c a b => by
    simp only [E.den]
    refine R.bind_le (E.den_le l sl h c) fun x h => ?_
    split
    · exact E.den_le l sl h a
    · exact E.den_le l sl h b
    · exact R.le_refl _
  | .tup es => by simp only [E.den]; exact R.bind_le (Es.den_le l sl h es) fun x h => R.le_refl _
  | .lst es => by simp only [E.den]; exact R.bind_le (Es.den_le l sl h es) fun x h => R.le_refl _
  | .ix a i => by simp only [E.den]; exact R.bind_le (E.den_le l sl h a) fun x h => R.bind_le (E.den_le l sl h i) fun y h => R.le_refl _
  | .slo a b => by simp only [E.den]; exact R.bind_le (E.den_le l sl h a) fun x h => R.bind_le (E.den_le l sl h b) fun y h => R.le_refl _
  | .shi a b => by simp only [E.den]; exact R.bind_le (E.den_le l sl h a) fun x h => R.bind_le (E.den_le l sl h b) fun y h => R.le_refl _
  | .slh a b c => by simp only [E.den]; exact R.bind_le (E.den_le l sl h a) fun x h => R.bind_le (E.den_le l sl h b) fun y h => R.bind_le (E.den_le l sl h c) fun z h => R.le_refl _
  | .rev a => by simp only [E.den]; exact R.bind_le (E.den_le l sl h a) fun x h => R.le_refl _
  | .call f es => by
    simp only [E.den]
    refine R.bind_le (Es.den_le l sl h es) fun xs h => ?_
    cases ef : Γ f with
    | none => exact R.no_le _
    | some g =>
      obtain ⟨k, e2, lk⟩ := l f g ef
      rw [e2]
      exact lk xs h
  | .bi b es => by simp only [E.den]; exact R.bind_le (Es.den_le l sl h es) fun x h => R.le_refl _
  | .bis b s => by simp only [E.den]; exact R.bind_le (I.den_le l sl h s) fun x h => R.le_refl _
  | .lc elt g s ifs own => by
    simp only [E.den]
    refine R.bind_le (I.den_le l sl h s) fun xs h => R.bind_le (lcGo_le (fun x h => ?_) xs [] h) fun ds h => R.le_refl _
    split
    · refine R.bind_le (Es.tests_le l _ h ifs) fun k h => ?_
      split
      · exact R.bind_le (E.den_le l _ h elt) fun d h => R.le_refl _
      · exact R.le_refl _
    · exact R.le_refl _
  | .lc2 elt g s ifs g' s' ifs' own own' => by
    simp only [E.den]
    refine R.bind_le (I.den_le l sl h s) fun xs h => R.bind_le (lcGo2_le (fun x h => ?_) xs [] h) fun ds h => R.le_refl _
    split
    · refine R.bind_le (Es.tests_le l _ h ifs) fun k h => ?_
      split
      · refine R.bind_le (I.den_le l _ h s') fun ys h => lcGo_le (fun y h => ?_) ys [] h
        split
        · refine R.bind_le (Es.tests_le l _ h ifs') fun k h => ?_
          split
          · exact R.bind_le (E.den_le l _ h elt) fun d h => R.le_refl _
          · exact R.le_refl _
        · exact R.le_refl _
      · exact R.le_refl _
    · exact R.le_refl _
  | .mk e => by simp only [E.den]; exact R.bind_le (E.den_le l sl h e) fun x h => R.le_refl _
  | .dcp e => by simp only [E.den]; exact R.bind_le (E.den_le l sl h e) fun x h => R.le_refl _
  | .dnew t => R.le_refl _
  | .disp kvs => by simp only [E.den]; exact R.bind_le (Es.den_le l sl h kvs) fun x h => R.le_refl _
  | .dgetD d k e => by
    simp only [E.den]
    refine R.bind_le (E.den_le l sl h d) fun x h => ?_
    split
    · exact R.le_refl _
    · exact R.bind_le (E.den_le l sl h k) fun y h => R.bind_le (E.den_le l sl h e) fun z h => R.le_refl _
  | .dc k v g s ifs own => by
    simp only [E.den]
    refine R.bind_le (I.den_le l sl h s) fun xs h => R.bind_le (dcGo_le (fun x h => ?_) xs [] [] h) fun ds h => R.le_refl _
    split
    · refine R.bind_le (Es.tests_le l _ h ifs) fun c h => ?_
      split
      · exact R.bind_le (E.den_le l _ h k) fun y h => R.bind_le (E.den_le l _ h v) fun z h => R.le_refl _
      · exact R.le_refl _
    · exact R.le_refl _
theorem Es.den_le {Γ Δ : Ga} (l : Ga.le Γ Δ) (sl : Sl) (h : Hy) : ∀ e : Es, R.le (e.den Γ sl h) (e.den Δ sl h)
  | .nil => R.le_refl _
  | .cons e es => by simp only [Es.den]; exact R.bind_le (E.den_le l sl h e) fun x h => R.bind_le (Es.den_le l sl h es) fun y h => R.le_refl _
  | .star e es => by simp only [Es.den]; exact R.bind_le (E.den_le l sl h e) fun x h => R.bind_le (Es.den_le l sl h es) fun y h => R.le_refl _
theorem Es.tests_le {Γ Δ : Ga} (l : Ga.le Γ Δ) (sl : Sl) (h : Hy) : ∀ e : Es, R.le (e.tests Γ sl h) (e.tests Δ sl h)
  | .nil => R.le_refl _
  | .cons e es => by
    simp only [Es.tests]
    refine R.bind_le (E.den_le l sl h e) fun x h => ?_
    split
    · exact Es.tests_le l sl h es
    · exact R.le_refl _
    · exact R.le_refl _
  | .star e es => R.le_refl _
theorem I.den_le {Γ Δ : Ga} (l : Ga.le Γ Δ) (sl : Sl) (h : Hy) : ∀ e : I, R.le (e.den Γ sl h) (e.den Δ sl h)
  | .it a => by simp only [I.den]; exact R.bind_le (E.den_le l sl h a) fun x h => R.le_refl _
  | .r1 a => by simp only [I.den]; exact R.bind_le (E.den_le l sl h a) fun x h => R.le_refl _
  | .r2 a b => by simp only [I.den]; exact R.bind_le (E.den_le l sl h a) fun x h => R.bind_le (E.den_le l sl h b) fun y h => R.le_refl _
  | .r3 a b c => by simp only [I.den]; exact R.bind_le (E.den_le l sl h a) fun x h => R.bind_le (E.den_le l sl h b) fun y h => R.bind_le (E.den_le l sl h c) fun z h => R.le_refl _
  | .zip a b => by simp only [I.den]; exact R.bind_le (E.den_le l sl h a) fun x h => R.bind_le (E.den_le l sl h b) fun y h => R.le_refl _
  | .zip3 a b c => by simp only [I.den]; exact R.bind_le (E.den_le l sl h a) fun x h => R.bind_le (E.den_le l sl h b) fun y h => R.bind_le (E.den_le l sl h c) fun z h => R.le_refl _
  | .enum a => by simp only [I.den]; exact R.bind_le (E.den_le l sl h a) fun x h => R.le_refl _
  | .enumzip a b => by simp only [I.den]; exact R.bind_le (E.den_le l sl h a) fun x h => R.bind_le (E.den_le l sl h b) fun y h => R.le_refl _
  | .items a => by simp only [I.den]; exact R.bind_le (E.den_le l sl h a) fun x h => R.le_refl _
  | .vals a => by simp only [I.den]; exact R.bind_le (E.den_le l sl h a) fun x h => R.le_refl _
end
mutual
theorem S.den_le {Γ Δ : Ga} (l : Ga.le Γ Δ) (sl : Sl) (h : Hy) : ∀ s : S, R.le (s.den Γ sl h) (s.den Δ sl h)
  | .asg g e => by simp only [S.den]; exact R.bind_le (E.den_le l sl h e) fun x h => R.le_refl _
  | .new i e => by simp only [S.den]; exact R.bind_le (E.den_le l sl h e) fun x h => R.le_refl _
  | .newd i e => by simp only [S.den]; exact R.bind_le (E.den_le l sl h e) fun x h => R.le_refl _
  | .par i j m n a b => by
    simp only [S.den]
    refine R.bind_le (E.den_le l sl h a) fun x h => ?_
    split
    · exact R.bind_le (E.den_le l sl _ b) fun y h => R.le_refl _
    · exact R.le_refl _
  | .par3 i j k a b c => by simp only [S.den]; exact R.bind_le (E.den_le l sl h a) fun x h => R.bind_le (E.den_le l sl h b) fun y h => R.bind_le (E.den_le l sl h c) fun z h => R.le_refl _
  | .aug i o e => by
    simp only [S.den]
    split
    · exact R.bind_le (E.den_le l sl h e) fun y h => R.le_refl _
    · exact R.le_refl _
  | .seti o k e => by simp only [S.den]; exact R.bind_le (E.den_le l sl h e) fun x h => R.bind_le (E.den_le l sl h o) fun y h => R.bind_le (E.den_le l sl h k) fun z h => R.le_refl _
  | .augi o k b e => by
    simp only [S.den]
    refine R.bind_le (E.den_le l sl h o) fun y h => R.bind_le (E.den_le l sl h k) fun z h => ?_
    split
    · split
      · split
        · exact R.bind_le (E.den_le l sl h e) fun x h => R.le_refl _
        · exact R.le_refl _
      · exact R.le_refl _
    · exact R.le_refl _
  | .app o e => by
    simp only [S.den]
    refine R.bind_le (E.den_le l sl h o) fun y h => ?_
    split
    · split
      · exact R.le_refl _
      · exact R.bind_le (E.den_le l sl h e) fun x h => R.le_refl _
    · exact R.le_refl _
  | .ext o e => by
    simp only [S.den]
    refine R.bind_le (E.den_le l sl h o) fun y h => ?_
    split
    · split
      · exact R.le_refl _
      · exact R.bind_le (E.den_le l sl h e) fun x h => R.le_refl _
    · exact R.le_refl _
  | .ex e => by simp only [S.den]; exact R.bind_le (E.den_le l sl h e) fun x h => R.le_refl _
  | .ret e => by simp only [S.den]; exact R.bind_le (E.den_le l sl h e) fun x h => R.le_refl _
  | .retN => R.le_refl _
  | .ife c a b => by
    simp only [S.den]
    refine R.bind_le (E.den_le l sl h c) fun x h => ?_
    split
    · exact Ss.den_le l sl h a
    · exact Ss.den_le l sl h b
    · exact R.le_refl _
  | .for_ g s b => by
    simp only [S.den]
    refine R.bind_le (I.den_le l sl h s) fun xs h => forGo_le (fun x sl h => ?_) xs sl h
    split
    · exact Ss.den_le l _ h b
    · exact R.le_refl _
  | .whil c b => by
    simp only [S.den]
    exact whGo_le (fun sl h => R.bind_le (E.den_le l sl h c) fun x h => R.le_refl _) (fun sl h => Ss.den_le l sl h b) _ sl h
  | .brk => R.le_refl _
  | .cnt => R.le_refl _
  | .rais e => by simp only [S.den]; exact R.bind_le (E.den_le l sl h e) fun x h => R.le_refl _
  | .pas => R.le_refl _
theorem Ss.den_le {Γ Δ : Ga} (l : Ga.le Γ Δ) (sl : Sl) (h : Hy) : ∀ s : Ss, R.le (s.den Γ sl h) (s.den Δ sl h)
  | .nil => R.le_refl _
  | .cons s r => by
    simp only [Ss.den]
    refine R.bind_le (S.den_le l sl h s) fun f h => ?_
    split
    · exact Ss.den_le l _ h r
    · exact R.le_refl _
end
theorem Df.den_le {Γ Δ : Ga} (l : Ga.le Γ Δ) (f : Df) : Fn.le (f.den Γ) (f.den Δ) := fun xs h => by
  unfold Df.den
  split
  · exact R.bind_le (Ss.den_le l _ h _) fun r h => R.le_refl _
  · exact R.le_refl _
theorem ga_step (codes : List Df) : ∀ n, Ga.le (ga codes n) (ga codes (n + 1))
  | 0 => fun i f e => by cases e
  | n + 1 => fun i f e => by
    simp only [ga] at e ⊢
    obtain ⟨df, e1, rfl⟩ := Option.map_eq_some_iff.mp e
    exact ⟨_, by rw [e1]; rfl, Df.den_le (ga_step codes n) df⟩
theorem ga_le (codes : List Df) {m n : Nat} (h : m ≤ n) : Ga.le (ga codes m) (ga codes n) := by
  obtain ⟨k, rfl⟩ := Nat.le.dest h
  induction k with
  | zero => exact Ga.le_refl _
  | succ k ih => exact Ga.le_trans (ih (Nat.le_add_right ..)) (ga_step codes (m + k))
/-- calls so deep, some defs by what is known of them -/
def gaO (ov : Ga) (codes : List Df) : Nat → Ga
  | 0 => ov
  | n + 1 => fun f => match ov f with
    | some g => some g
    | none => (codes[f]?).map (Df.den (gaO ov codes n))
theorem gaO_le {ov : Ga} {codes : List Df} {d : Nat} (l : Ga.le ov (ga codes d)) : ∀ n, Ga.le (gaO ov codes n) (ga codes (n + d))
  | 0 => by rw [Nat.zero_add]; exact l
  | n + 1 => fun i f e => by
    simp only [gaO] at e
    split at e
    · rename_i g eg
      cases e
      obtain ⟨k, e1, l1⟩ := l i _ eg
      obtain ⟨k', e2, l2⟩ := ga_le codes (show d ≤ n + 1 + d by omega) i k e1
      exact ⟨k', e2, Fn.le_trans l1 l2⟩
    · obtain ⟨df, e1, rfl⟩ := Option.map_eq_some_iff.mp e
      have e3 : n + 1 + d = (n + d) + 1 := by omega
      rw [e3]
      exact ⟨_, by simp only [ga]; rw [e1]; rfl, Df.den_le (gaO_le l n) df⟩
end Z

end

section
set_option linter.all false
set_option autoImplicit false
set_option maxRecDepth 20000
/-! Z: what the laws draw. -/
namespace Z
open PySem

def dfCell : Df := ⟨2, 2, 
 (.cons (.ife (.cmp .lt (.var 1) (.bi .len (.cons (.var 0) .nil))) (.cons (.ret (.ix (.var 0) (.var 1)))
 .nil) .nil)
 (.cons (.ret (.cst (.int 0)))
 .nil))⟩
def dfDraw : Df := ⟨3, 4, 
 (.cons (.asg (.nm 3) (.tup (.cons (.cst (.int 1000003)) (.cons (.cst (.int 1000033)) (.cons (.cst (.int 1000037)) (.cons (.cst (.int 1000039)) (.cons (.cst (.int 1000081)) (.cons (.cst (.int 1000099)) (.cons (.cst (.int 1000117)) (.cons (.cst (.int 1000121)) (.cons (.cst (.int 1000133)) (.cons (.cst (.int 1000151)) (.cons (.cst (.int 1000159)) (.cons (.cst (.int 1000171)) (.cons (.cst (.int 1000183)) (.cons (.cst (.int 1000187)) (.cons (.cst (.int 1000193)) (.cons (.cst (.int 1000199)) .nil))))))))))))))))))
 (.cons (.ret (.bin .mod (.bin .mod (.bi .int (.cons (.bin .add (.bin .mul (.var 0) (.cst (.int 48271))) (.bin .mul (.var 1) (.cst (.int 69621)))) .nil)) (.ix (.var 3) (.bin .mod (.bi .int (.cons (.var 1) .nil)) (.cst (.int 16))))) (.var 2)))
 .nil))⟩
def dfNum (d : Nat) : Df := ⟨3, 7, 
 (.cons (.asg (.nm 3) (.cst (.int 1)))
 (.cons (.for_ (.nm 4) (.r1 (.bin .mod (.bi .int (.cons (.var 1) .nil)) (.cst (.int 24)))) (.cons (.asg (.nm 3) (.bin .mul (.var 3) (.cst (.int 1009))))
 .nil))
 (.cons (.asg (.nm 5) (.bin .fdiv (.bin .sub (.var 0) (.bin .pow (.cst (.int 10)) (.cst (.int 18)))) (.var 3)))
 (.cons (.ife (.cmp .gt (.var 5) (.cst (.int 0))) (.cons (.ret (.bin .mod (.bin .mod (.bi .int (.cons (.var 5) .nil)) (.cst (.int 1009))) (.var 2)))
 .nil) .nil)
 (.cons (.asg (.nm 6) (.bin .mod (.bi .int (.cons (.var 0) .nil)) (.cst (.int 1000003))))
 (.cons (.ret (.bin .mod (.call d (.cons (.bin .mul (.bin .add (.var 6) (.bin .mul (.cst (.int 977)) (.var 1))) (.bin .add (.bin .add (.var 6) (.bin .mul (.cst (.int 31)) (.var 1))) (.cst (.int 5)))) (.cons (.bin .add (.bin .mod (.bi .int (.cons (.var 1) .nil)) (.cst (.int 9))) (.cst (.int 1))) (.cons (.cst (.int 999983)) .nil)))) (.var 2)))
 .nil))))))⟩
def dfNext (c n : Nat) : Df := ⟨2, 4, 
 (.cons (.seti (.var 0) (.cst (.int 2)) (.bin .add (.ix (.var 0) (.cst (.int 2))) (.cst (.int 1))))
 (.cons (.asg (.nm 2) (.bin .fdiv (.ix (.var 0) (.cst (.int 2))) (.cst (.int 12))))
 (.cons (.asg (.nm 3) (.bin .add (.call c (.cons (.ix (.var 0) (.cst (.int 0))) (.cons (.bin .add (.ix (.var 0) (.cst (.int 1))) (.var 2)) .nil))) (.bin .mul (.cst (.int 31)) (.var 2))))
 (.cons (.ret (.call n (.cons (.var 3) (.cons (.bin .add (.bin .mod (.bi .int (.cons (.ix (.var 0) (.cst (.int 2))) .nil)) (.cst (.int 12))) (.cst (.int 1))) (.cons (.var 1) .nil)))))
 .nil))))⟩

/-! ### as plain numbers -/
def cellV (ns : List Int) (k : Nat) : Int := if k < ns.length then ns.getD k 0 else 0
def primes : List Int := [1000003, 1000033, 1000037, 1000039, 1000081, 1000099, 1000117, 1000121, 1000133, 1000151, 1000159, 1000171, 1000183, 1000187, 1000193, 1000199]
def drawV (cell : Int) (k : Nat) (b : Int) : Int := (cell * 48271 + (k : Int) * 69621) % primes.getD (k % 16) 1 % b
def numV (cell : Int) (k : Nat) (b : Int) : Int :=
  if (cell - 10 ^ 18) / 1009 ^ (k % 24) > 0 then (cell - 10 ^ 18) / 1009 ^ (k % 24) % 1009 % b
  else drawV ((cell % 1000003 + 977 * (k : Int)) * (cell % 1000003 + 31 * (k : Int) + 5)) (k % 9 + 1) 999983 % b
def nextV (ns : List Int) (c : Nat) (b : Int) : Int := numV (cellV ns ((c + 1) / 12) + 31 * (((c + 1) / 12 : Nat) : Int)) ((c + 1) % 12 + 1) b
theorem nextV_nonneg (ns : List Int) (c : Nat) {b : Int} (hb : 0 < b) : 0 ≤ nextV ns c b := by
  unfold nextV numV
  split <;> exact Int.emod_nonneg _ (by omega)
theorem nextV_lt (ns : List Int) (c : Nat) {b : Int} (hb : 0 < b) : nextV ns c b < b := by
  unfold nextV numV
  split <;> exact Int.emod_lt_of_pos _ hb

@[simp] theorem R.ok_bind {α β : Type} (a : α) (h : Hy) (f : α → Hy → R β) : (R.ok a h).bind f = f a h := Eq.trans rfl rfl
@[simp] theorem R.exc_bind {α β : Type} (x : D) (h : Hy) (f : α → Hy → R β) : (R.exc x h : R α).bind f = .exc x h := Eq.trans rfl rfl
@[simp] theorem R.no_bind {α β : Type} (f : α → Hy → R β) : (R.no : R α).bind f = .no := Eq.trans rfl rfl
@[simp] theorem R.op_some {α : Type} (a : α) (h : Hy) : R.op (some a) h = .ok a h := Eq.trans rfl rfl
theorem ap_add (h : Hy) (i j : Int) : Bo.ap .add h (.int i) (.int j) = .ok (.int (i + j)) h := rfl
theorem ap_sub (h : Hy) (i j : Int) : Bo.ap .sub h (.int i) (.int j) = .ok (.int (i - j)) h := rfl
theorem ap_mul (h : Hy) {i j : Int} (c : i.natAbs < 18446744073709551616 ∨ j.natAbs < 18446744073709551616) : Bo.ap .mul h (.int i) (.int j) = .ok (.int (i * j)) h := by
  show (if _ then _ else _) = _
  rw [if_pos (by simpa using c)]
theorem ap_fdiv (h : Hy) {i j : Int} (c : 0 < j) (d : j.natAbs < 2 ^ 256) : Bo.ap .fdiv h (.int i) (.int j) = .ok (.int (i / j)) h := by
  show (if _ then _ else _) = _
  rw [if_pos (by rw [Bool.and_eq_true, decide_eq_true_eq, decide_eq_true_eq]; exact ⟨c, d⟩)]
theorem ap_mod (h : Hy) {i j : Int} (c : 0 < j) : Bo.ap .mod h (.int i) (.int j) = .ok (.int (i % j)) h := by
  show (if _ then _ else _) = _
  rw [if_pos c]
theorem ap_pow (h : Hy) {i : Int} {n : Nat} (c : n ≤ 1000) (d : i.natAbs < 18446744073709551616) : Bo.ap .pow h (.int i) (.int n) = .ok (.int (i ^ n)) h := by
  show (if _ then _ else _) = _
  rw [if_pos (by simp; omega), Int.toNat_natCast]
theorem Df.den_run {Γ : Ga} {m n : Nat} {b : Ss} {xs : List D} {h : Hy} (e : xs.length = m) : (Df.mk m n b).den Γ xs h = (b.den Γ ((Df.mk m n b).start xs) h).bind fun r h' => match r with
      | .rt d => leave h.length d h'
      | .nx _ => leave h.length .non h'
      | _ => .no := by
  unfold Df.den
  exact if_pos e
theorem bi_intV (Γ : Ga) (i : Int) (h : Hy) : Bi.ap .int h [.int i] = .ok (.int i) h := rfl
theorem leave_same (d : D) (h : Hy) : leave h.length d h = .ok d h := by unfold leave; rw [if_pos rfl]
theorem cell_ok (Γ : Ga) (ns : List Int) (k : Nat) (h : Hy) : dfCell.den Γ [.lsi ns, .int k] h = .ok (.int (cellV ns k)) h := by
  unfold dfCell
  rw [Df.den_run (by rfl)]
  simp only [Ss.den, S.den, E.den, Es.den, Df.start, R.bind, R.op, List.map_cons, List.map_nil, List.length_cons, List.length_nil, List.cons_append, List.nil_append, List.getElem?_cons_zero, List.getElem?_cons_succ, Option.bind_some, id, Bi.ap, Cmp.ap]
  rw [if_pos (by rfl)]
  have e : D.lt (.int (k : Int)) (.int (ns.length : Int)) = decide (k < ns.length) := by
    simp [D.lt]
  simp only [truth, e]
  by_cases hk : k < ns.length
  · simp only [hk, decide_true, ixOf, R.op, R.bind]
    have e2 : at? ns (k : Int) = some (ns.getD k 0) := by
      unfold at? ixN
      rw [if_pos (by omega), if_pos (by omega)]
      show ns[(k : Int).toNat]? = _
      rw [Int.toNat_natCast, List.getElem?_eq_getElem hk, List.getD_eq_getElem?_getD, List.getElem?_eq_getElem hk]
      rfl
    rw [e2]
    simp only [Option.map_some, R.bind]
    rw [leave_same]
    unfold cellV
    rw [if_pos hk]
  · simp only [hk, decide_false, R.bind]
    rw [leave_same]
    unfold cellV
    rw [if_neg hk]
theorem draw_ok (Γ : Ga) (cell : Int) (k : Nat) (hk : k < 16) {b : Int} (hb : 0 < b) (h : Hy) : dfDraw.den Γ [.int cell, .int k, .int b] h = .ok (.int (drawV cell k b)) h := by
  unfold dfDraw
  rw [Df.den_run (by rfl)]
  have e : at? [D.int 1000003, .int 1000033, .int 1000037, .int 1000039, .int 1000081, .int 1000099, .int 1000117, .int 1000121, .int 1000133, .int 1000151, .int 1000159, .int 1000171, .int 1000183, .int 1000187, .int 1000193, .int 1000199] ((k : Int) % 16) = some (.int (primes.getD (k % 16) 1)) := by
    have : ∀ k : Nat, k < 16 → at? [D.int 1000003, .int 1000033, .int 1000037, .int 1000039, .int 1000081, .int 1000099, .int 1000117, .int 1000121, .int 1000133, .int 1000151, .int 1000159, .int 1000171, .int 1000183, .int 1000187, .int 1000193, .int 1000199] ((k : Int) % 16) = some (.int (primes.getD (k % 16) 1)) := by
      intro k hk
      match k, hk with
      | 0, _ => rfl | 1, _ => rfl | 2, _ => rfl | 3, _ => rfl | 4, _ => rfl | 5, _ => rfl | 6, _ => rfl | 7, _ => rfl
      | 8, _ => rfl | 9, _ => rfl | 10, _ => rfl | 11, _ => rfl | 12, _ => rfl | 13, _ => rfl | 14, _ => rfl | 15, _ => rfl
      | n + 16, h => exact absurd h (by omega)
    exact this k hk
  have hp : 0 < primes.getD (k % 16) 1 := by
    have : ∀ k : Nat, k < 16 → 0 < primes.getD (k % 16) 1 := by decide
    exact this k hk
  simp only [Ss.den, Df.start, List.map_cons, List.map_nil, List.length_cons, List.length_nil, List.cons_append, List.nil_append, List.replicate]
  rw [show (S.asg (.nm 3) (.tup (.cons (.cst (.int 1000003)) (.cons (.cst (.int 1000033)) (.cons (.cst (.int 1000037)) (.cons (.cst (.int 1000039)) (.cons (.cst (.int 1000081)) (.cons (.cst (.int 1000099)) (.cons (.cst (.int 1000117)) (.cons (.cst (.int 1000121)) (.cons (.cst (.int 1000133)) (.cons (.cst (.int 1000151)) (.cons (.cst (.int 1000159)) (.cons (.cst (.int 1000171)) (.cons (.cst (.int 1000183)) (.cons (.cst (.int 1000187)) (.cons (.cst (.int 1000193)) (.cons (.cst (.int 1000199)) .nil)))))))))))))))))).den Γ [some (.int cell), some (.int k), some (.int b), none] h = .ok (.nx [some (.int cell), some (.int k), some (.int b), some (.tup [D.int 1000003, .int 1000033, .int 1000037, .int 1000039, .int 1000081, .int 1000099, .int 1000117, .int 1000121, .int 1000133, .int 1000151, .int 1000159, .int 1000171, .int 1000183, .int 1000187, .int 1000193, .int 1000199])]) h from rfl]
  simp only [R.ok_bind, S.den, E.den, Es.den, R.op_some, List.getElem?_cons_zero, List.getElem?_cons_succ, Option.bind_some, id]
  rw [ap_mul h (.inr (by decide))]
  simp only [R.ok_bind]
  rw [ap_mul h (.inr (by decide))]
  simp only [R.ok_bind, ap_add, bi_intV Γ]
  rw [ap_mod h (by decide)]
  simp only [R.ok_bind, ixOf, dctOf, seqOf, Option.bind_some, e, R.op_some]
  rw [ap_mod h hp]
  simp only [R.ok_bind]
  rw [ap_mod h hb]
  simp only [R.ok_bind]
  rw [leave_same]
  rfl
theorem scale_go (Γ : Ga) (h : Hy) (a b c : Option D) (r : List (Option D)) : ∀ (n : Nat) (lo : Int) (s : Int) (d : Option D), ∃ d', forGo (fun x sl h => match G.put x sl (.nm 4) with
      | some sl' => (Ss.cons (.asg (.nm 3) (.bin .mul (.var 3) (.cst (.int 1009)))) .nil).den Γ sl' h
      | none => .no) (upFrom lo 1 n) (a :: b :: c :: some (.int s) :: d :: r) h = .ok (.nx (a :: b :: c :: some (.int (s * 1009 ^ n)) :: d' :: r)) h
  | 0, lo, s, d => ⟨d, by simp [upFrom, forGo]⟩
  | n + 1, lo, s, d => by
    obtain ⟨d', ih⟩ := scale_go Γ h a b c r n (lo + 1) (s * 1009) (some (.int lo))
    refine ⟨d', ?_⟩
    rw [show s * 1009 ^ (n + 1) = s * 1009 * 1009 ^ n by rw [Int.pow_succ, Int.mul_assoc, Int.mul_comm (1009 ^ n)], ← ih]
    simp [upFrom, forGo, G.put, Ss.den, S.den, E.den, R.bind, R.op, nxt, Bo.ap]
theorem r1_lit (Γ : Ga) (sl : Sl) (h : Hy) (e : E) {n : Nat} (hn : n < 1000000) (he : e.den Γ sl h = .ok (.int n) h) : (I.r1 e).den Γ sl h = .ok (upFrom 0 1 n) h := by
  simp only [I.den, he, R.bind]
  rw [if_pos (by omega), Int.toNat_natCast]
theorem ga_at {codes : List Df} {i : Nat} {f : Df} (n : Nat) (e : codes[i]? = some f) : ga codes (n + 1) i = some (f.den (ga codes n)) := by
  simp only [ga, e, Option.map_some]
theorem num_ok (Γ : Ga) {d : Nat} {g : Fn} (hd : Γ d = some g) (hg : ∀ cell k b h, k < 16 → 0 < b → g [.int cell, .int (k : Nat), .int b] h = .ok (.int (drawV cell k b)) h) (cell : Int) (k : Nat) (hk : k < 13) {b : Int} (hb : 0 < b) (h : Hy) :
    (dfNum d).den Γ [.int cell, .int k, .int b] h = .ok (.int (numV cell k b)) h := by
  unfold dfNum
  rw [Df.den_run (by rfl)]
  have ek : ((k : Int) % 24) = ((k % 24 : Nat) : Int) := by omega
  have e1 : ∀ sl : Sl, sl[1]? = some (some (.int k)) → (E.bin .mod (.bi .int (.cons (.var 1) .nil)) (.cst (.int 24))).den Γ sl h = .ok (.int ((k % 24 : Nat) : Int)) h := by
    intro sl e
    simp [E.den, Es.den, e, R.bind, R.op, Bi.ap, Bo.ap]
  have e2 : ∀ i : Int, 0 < (1009 : Int) ^ (k % 24) ∧ ((1009 : Int) ^ (k % 24)).natAbs < 2 ^ 256 := by
    refine fun _ => ⟨Int.pow_pos (by decide), ?_⟩
    rw [Int.natAbs_pow]
    exact Nat.lt_of_le_of_lt (Nat.pow_le_pow_right (by decide) (show k % 24 ≤ 12 by omega)) (by decide)
  obtain ⟨d', eg⟩ := scale_go Γ h (some (.int cell)) (some (.int k)) (some (.int b)) [none, none] (k % 24) 0 1 none
  rw [Int.one_mul] at eg
  simp only [Ss.den, Df.start, List.map_cons, List.map_nil, List.length_cons, List.length_nil, List.cons_append, List.nil_append, List.replicate]
  rw [show (S.asg (.nm 3) (.cst (.int 1))).den Γ [some (.int cell), some (.int k), some (.int b), none, none, none, none] h = .ok (.nx [some (.int cell), some (.int k), some (.int b), some (.int 1), none, none, none]) h from rfl]
  simp only [R.ok_bind]
  rw [show (S.for_ (.nm 4) (.r1 (.bin .mod (.bi .int (.cons (.var 1) .nil)) (.cst (.int 24)))) (.cons (.asg (.nm 3) (.bin .mul (.var 3) (.cst (.int 1009)))) .nil)).den Γ [some (.int cell), some (.int k), some (.int b), some (.int 1), none, none, none] h = .ok (.nx [some (.int cell), some (.int k), some (.int b), some (.int (1009 ^ (k % 24))), d', none, none]) h by
    simp only [S.den]
    rw [r1_lit Γ _ h _ (n := k % 24) (by omega) (e1 _ rfl)]
    exact eg]
  simp only [R.ok_bind, S.den, E.den, Es.den, R.op_some, List.getElem?_cons_zero, List.getElem?_cons_succ, Option.bind_some, id]
  rw [show Bo.ap .pow h (.int 10) (.int 18) = .ok (.int (10 ^ 18)) h from ap_pow (n := 18) h (by decide) (by decide)]
  simp only [R.ok_bind, ap_sub]
  rw [ap_fdiv h (e2 0).1 (e2 0).2]
  simp only [R.ok_bind, G.put, List.length_cons, List.length_nil]
  rw [if_pos (by decide)]
  simp only [nxt, R.ok_bind, List.set, List.getElem?_cons_zero, List.getElem?_cons_succ, Option.bind_some, id, R.op_some, Cmp.ap, truth]
  by_cases hr : (cell - 10 ^ 18) / 1009 ^ (k % 24) > 0
  · have hd0 : decide (0 < (cell - 10 ^ 18) / 1009 ^ (k % 24)) = true := decide_eq_true hr
    rw [hd0]
    simp only [Ss.den, R.ok_bind, S.den, E.den, Es.den, R.op_some, List.getElem?_cons_zero, List.getElem?_cons_succ, Option.bind_some, id, bi_intV Γ]
    rw [ap_mod h (by decide)]
    simp only [R.ok_bind]
    rw [ap_mod h hb]
    simp only [R.ok_bind]
    rw [leave_same]
    unfold numV
    rw [if_pos hr]
  · have hd0 : decide (0 < (cell - 10 ^ 18) / 1009 ^ (k % 24)) = false := decide_eq_false hr
    rw [hd0]
    have hs1 : 0 ≤ cell % 1000003 := Int.emod_nonneg _ (by decide)
    have hs2 : cell % 1000003 < 1000003 := Int.emod_lt_of_pos _ (by decide)
    simp only [Ss.den, R.ok_bind, S.den, E.den, Es.den, R.op_some, List.getElem?_cons_zero, List.getElem?_cons_succ, Option.bind_some, id, bi_intV Γ]
    rw [ap_mod h (by decide)]
    simp only [R.ok_bind, G.put, List.length_cons, List.length_nil]
    rw [if_pos (by decide)]
    simp only [nxt, R.ok_bind, List.set, List.getElem?_cons_zero, List.getElem?_cons_succ, Option.bind_some, id, R.op_some]
    rw [ap_mul h (.inl (by decide))]
    simp only [R.ok_bind, ap_add]
    rw [ap_mul h (.inl (by decide))]
    simp only [R.ok_bind, ap_add]
    rw [ap_mul h (.inl (by omega))]
    simp only [R.ok_bind, ap_add, bi_intV Γ]
    rw [ap_mod h (by decide)]
    simp only [R.ok_bind, ap_add, hd]
    have e9 : ((k : Int) % 9 + 1) = ((k % 9 + 1 : Nat) : Int) := by omega
    rw [e9, hg _ _ _ _ (by omega) (by decide)]
    simp only [R.ok_bind]
    rw [ap_mod h hb]
    simp only [R.ok_bind]
    rw [leave_same]
    unfold numV
    rw [if_neg hr]
theorem next_ok (Γ : Ga) {c n : Nat} {gc gn : Fn} (hc : Γ c = some gc) (hn : Γ n = some gn) (hgc : ∀ ns k h, gc [.lsi ns, .int (k : Nat)] h = .ok (.int (cellV ns k)) h)
    (hgn : ∀ cell k b h, k < 13 → 0 < b → gn [.int cell, .int (k : Nat), .int b] h = .ok (.int (numV cell k b)) h) (ns : List Int) (k : Nat) {b : Int} (hb : 0 < b) (t : Hy) :
    (dfNext c n).den Γ [.loc 0, .int b] (.l [.lsi ns, .int 0, .int (.ofNat k)] :: t) = .ok (.int (nextV ns k b)) (.l [.lsi ns, .int 0, .int (.ofNat (k + 1))] :: t) := by
  unfold dfNext
  rw [Df.den_run (by rfl)]
  have e12 : ((k : Int) + 1) / 12 = (((k + 1) / 12 : Nat) : Int) := by omega
  have e13 : ((k : Int) + 1) % 12 + 1 = (((k + 1) % 12 + 1 : Nat) : Int) := by omega
  have i0 : ∀ (x y z : D), at? [x, y, z] (0 : Int) = some x := fun _ _ _ => rfl
  have i1 : ∀ (x y z : D), at? [x, y, z] (1 : Int) = some y := fun _ _ _ => rfl
  have i2 : ∀ (x y z : D), at? [x, y, z] (2 : Int) = some z := fun _ _ _ => rfl
  have j2 : ixN 3 (2 : Int) = some 2 := rfl
  simp only [Ss.den, Df.start, List.map_cons, List.map_nil, List.length_cons, List.length_nil, List.cons_append, List.nil_append, List.replicate]
  rw [show (S.seti (.var 0) (.cst (.int 2)) (.bin .add (.ix (.var 0) (.cst (.int 2))) (.cst (.int 1)))).den Γ [some (.loc 0), some (.int b), none, none] (.l [.lsi ns, .int 0, .int (.ofNat k)] :: t) = .ok (.nx [some (.loc 0), some (.int b), none, none]) (.l [.lsi ns, .int 0, .int (.ofNat (k + 1))] :: t) from rfl]
  simp only [R.ok_bind]
  generalize hh : Ob.l [.lsi ns, .int 0, .int (.ofNat (k + 1))] :: t = h2
  have s2 : seqOf h2 (.loc 0) = some [.lsi ns, .int 0, .int (.ofNat (k + 1))] := by rw [← hh]; rfl
  have d2 : dctOf h2 (.loc 0) = none := by rw [← hh]; rfl
  have l2 : h2.length = (Ob.l [.lsi ns, .int 0, .int (.ofNat k)] :: t).length := by rw [← hh]; rfl
  have x0 : ixOf h2 (.loc 0) (.int 0) = .ok (.lsi ns) h2 := by unfold ixOf; simp only [d2, s2, Option.bind_some, i0, R.op_some]
  have x1 : ixOf h2 (.loc 0) (.int 1) = .ok (.int 0) h2 := by unfold ixOf; simp only [d2, s2, Option.bind_some, i1, R.op_some]
  have x2 : ixOf h2 (.loc 0) (.int 2) = .ok (.int (.ofNat (k + 1))) h2 := by unfold ixOf; simp only [d2, s2, Option.bind_some, i2, R.op_some]
  have n1 : (Int.ofNat (k + 1) : Int) / 12 = (((k + 1) / 12 : Nat) : Int) := by rw [Int.ofNat_eq_natCast]; omega
  have n2 : (Int.ofNat (k + 1) : Int) % 12 + 1 = (((k + 1) % 12 + 1 : Nat) : Int) := by rw [Int.ofNat_eq_natCast]; omega
  simp only [S.den, E.den, Es.den, R.ok_bind, R.op_some, List.getElem?_cons_zero, List.getElem?_cons_succ, Option.bind_some, id, x2]
  rw [ap_fdiv h2 (by decide) (by decide)]
  simp only [R.ok_bind, G.put, List.length_cons, List.length_nil, n1]
  rw [if_pos (by decide)]
  simp only [nxt, R.ok_bind, List.set, List.getElem?_cons_zero, List.getElem?_cons_succ, Option.bind_some, id, R.op_some, ap_add, x0, x1]
  rw [Int.zero_add, hc]
  simp only [hgc, R.ok_bind]
  rw [ap_mul h2 (.inl (by decide))]
  simp only [R.ok_bind, ap_add, G.put, List.length_cons, List.length_nil]
  rw [if_pos (by decide)]
  simp only [nxt, R.ok_bind, List.set, List.getElem?_cons_zero, List.getElem?_cons_succ, Option.bind_some, id, R.op_some, x2, bi_intV Γ]
  rw [ap_mod h2 (by decide)]
  simp only [R.ok_bind, ap_add, hn, n2]
  rw [hgn _ _ _ _ (by omega) hb]
  simp only [R.ok_bind]
  have l3 : h2.length = t.length + 1 := l2
  rw [← l3, leave_same]
  rfl

/-! ### drawing as an oracle -/
abbrev Dr := List Int → Nat → Int → Int
def Dr.ok (dr : Dr) : Prop := ∀ ns c b, 0 < b → 0 ≤ dr ns c b ∧ dr ns c b < b
def orc (dr : Dr) : Fn := fun xs h => match xs, h with
  | [.loc 0, .int b], .l [.lsi ns, .int (.ofNat 0), .int (.ofNat c)] :: t => if 0 < b then .ok (.int (dr ns c b)) (.l [.lsi ns, .int 0, .int (.ofNat (c + 1))] :: t) else .no
  | _, _ => .no
theorem nextV_ok : Dr.ok nextV := fun ns c _ hb => ⟨nextV_nonneg ns c hb, nextV_lt ns c hb⟩
theorem orc_le {codes : List Df} {c d n x : Nat} (hc : codes[c]? = some dfCell) (hd : codes[d]? = some dfDraw) (hn : codes[n]? = some (dfNum d)) (hx : codes[x]? = some (dfNext c n)) : ∃ g, ga codes 3 x = some g ∧ Fn.le (orc nextV) g := by
  refine ⟨_, ga_at _ hx, fun xs h => ?_⟩
  unfold orc
  split
  · rename_i b ns k t
    by_cases hb : 0 < b
    · rw [if_pos hb]
      refine .inr ?_
      refine (next_ok _ (c := c) (n := n) (ga_at _ hc) (ga_at _ hn) (fun ns k h => cell_ok _ ns k h) (fun cell k b h hk hb => ?_) ns k hb t).symm
      exact num_ok _ (ga_at _ hd) (fun cell k b h hk hb => draw_ok _ cell k hk hb h) cell k hk hb h
    · rw [if_neg hb]
      exact .inl rfl
  · exact .inl rfl
/-- the oracle alone, at its place -/
def ovD (dr : Dr) (x : Nat) : Ga := fun f => if f = x then some (orc dr) else none
theorem ovD_le {codes : List Df} {c d n x : Nat} (hc : codes[c]? = some dfCell) (hd : codes[d]? = some dfDraw) (hn : codes[n]? = some (dfNum d)) (hx : codes[x]? = some (dfNext c n)) : Ga.le (ovD nextV x) (ga codes 3) := fun i f e => by
  unfold ovD at e
  split at e
  · rename_i h
    subst h
    cases e
    exact orc_le hc hd hn hx
  · cases e
def isT : R Fl → Bool
  | .ok (.rt (.bl true)) _ => true
  | _ => false
theorem isT_ok {r : R Fl} (h : isT r = true) : ∃ h', r = .ok (.rt (.bl true)) h' := by
  cases r with
  | ok f h' => cases f with
    | rt d => cases d with
      | bl b => cases b with
        | true => exact ⟨h', rfl⟩
        | false => cases h
      | _ => cases h
    | _ => cases h
  | _ => cases h
theorem isT_le {r s : R Fl} (l : R.le r s) (h : isT r = true) : ∃ h', s = .ok (.rt (.bl true)) h' := by
  obtain ⟨h', e⟩ := isT_ok h
  exact ⟨h', R.le_ok l e⟩
theorem stp {Γ : Ga} {sl sl' : Sl} {h h' : Hy} {s : S} {r : Ss} (e : s.den Γ sl h = .ok (.nx sl') h') (k : isT (r.den Γ sl' h') = true) : isT ((Ss.cons s r).den Γ sl h) = true := by
  simp only [Ss.den, e, R.bind]; exact k
end Z

end

section
set_option linter.all false
set_option autoImplicit false
/-! Z: a body run in parts. -/
namespace Z
open PySem
def Ss.pre : Nat → Ss → Ss
  | 0, _ => .nil
  | _ + 1, .nil => .nil
  | n + 1, .cons s r => .cons s (Ss.pre n r)
def Ss.post : Nat → Ss → Ss
  | 0, s => s
  | _ + 1, .nil => .nil
  | n + 1, .cons _ r => Ss.post n r
def nxB (P : Sl → Hy → Bool) : R Fl → Bool
  | .ok (.nx sl) h => P sl h
  | _ => false
theorem cut_at {Γ : Ga} (P : Sl → Hy → Bool) : ∀ (n : Nat) (s : Ss) (sl : Sl) (h : Hy), nxB P ((s.pre n).den Γ sl h) = true → (∀ sl' h', P sl' h' = true → isT ((s.post n).den Γ sl' h') = true) → isT (s.den Γ sl h) = true
  | 0, s, sl, h, e, k => k sl h e
  | n + 1, .nil, sl, h, e, k => k sl h e
  | n + 1, .cons s r, sl, h, e, k => by
    simp only [Ss.pre, Ss.den] at e ⊢
    cases es : s.den Γ sl h with
    | ok f h' =>
      rw [es] at e
      simp only [R.ok_bind] at e ⊢
      cases f with
      | nx sl' => exact cut_at P n r sl' h' e k
      | rt d => cases e
      | bk _ => cases e
      | ct _ => cases e
    | exc x h' => rw [es] at e; cases e
    | no => rw [es] at e; cases e
/-- m names, the draws' list at its place, nothing else changed -/
def hdP (m : Nat) (sl : Sl) (h : Hy) : Bool := match sl, h with
  | none :: some (.loc 0) :: r, [.l [.lsi _, .int (.ofNat 0), .int (.ofNat _)]] => r.length == m
  | _, _ => false
theorem hdP_of {m : Nat} {sl : Sl} {h : Hy} (e : hdP m sl h = true) : ∃ r ns c, r.length = m ∧ sl = none :: some (.loc 0) :: r ∧ h = [.l [.lsi ns, .int 0, .int (.ofNat c)]] := by
  unfold hdP at e
  split at e
  · exact ⟨_, _, _, eq_of_beq e, rfl, rfl⟩
  · cases e
/-- v is one of 0 .. n - 1 -/
theorem upto {p : Int → Prop} : ∀ (n : Nat), (∀ i : Nat, i < n → p i) → ∀ v : Int, 0 ≤ v → v < n → p v := fun n h v h0 h1 => by
  obtain ⟨k, rfl⟩ := Int.eq_ofNat_of_zero_le h0
  exact h k (by omega)
/-- one after another -/
theorem each_lt (p : Nat → Prop) : ∀ n : Nat, (∀ i, i < n → p i) ↔ (match n with | 0 => True | k + 1 => (∀ i, i < k → p i) ∧ p k)
  | 0 => ⟨fun _ => trivial, fun _ i h => absurd h (Nat.not_lt_zero i)⟩
  | k + 1 => ⟨fun h => ⟨fun i hi => h i (Nat.lt_succ_of_lt hi), h k (Nat.lt_succ_self k)⟩, fun h i hi => by
    rcases Nat.lt_succ_iff_lt_or_eq.mp hi with hi | rfl
    · exact h.1 i hi
    · exact h.2⟩
end Z

end

section
set_option Elab.async false
set_option linter.all false
set_option maxRecDepth 100000
set_option maxHeartbeats 0
namespace D_k78
open PySem PySem.Spec PyProof.Rows L2 Z
def c_is_whole : Df := ⟨1, 1, 
 (.cons (.ret (.an (.bi .isInt (.cons (.var 0) .nil)) (.nt (.bi .isBool (.cons (.var 0) .nil)))))
 .nil)⟩
def c_is_from : Df := ⟨3, 3, 
 (.cons (.ret (.an (.call 0 (.cons (.var 0) .nil)) (.chain .le .le (.var 1) (.var 0) (.var 2))))
 .nil)⟩
def c_is_many : Df := ⟨2, 2, 
 (.cons (.ret (.an (.bi .isTup (.cons (.var 0) .nil)) (.cmp .eq (.bi .len (.cons (.var 0) .nil)) (.var 1))))
 .nil)⟩
def c_ascends : Df := ⟨1, 3, 
 (.cons (.ret (.bi .all (.cons (.lc (.cmp .lt (.var 1) (.var 2)) (.tup [(.nm 1), (.nm 2)]) (.zip (.var 0) (.slo (.var 0) (.cst (.int 1)))) .nil [1, 2]) .nil)))
 .nil)⟩
def c_is_lot : Df := ⟨2, 3, 
 (.cons (.ret (.an (.bi .isTup (.cons (.var 0) .nil)) (.an (.bi .all (.cons (.lc (.call 1 (.cons (.var 2) (.cons (.cst (.int 0)) (.cons (.bin .sub (.var 1) (.cst (.int 1))) .nil)))) (.nm 2) (.it (.var 0)) .nil [2]) .nil)) (.call 3 (.cons (.var 0) .nil)))))
 .nil)⟩
def c_is_disk : Df := ⟨1, 3, 
 (.cons (.ife (.orr (.nt (.bi .isDict (.cons (.var 0) .nil))) (.nt (.chain .le .le (.cst (.int 1)) (.bi .len (.cons (.var 0) .nil)) (.cst (.int 5))))) (.cons (.ret (.cst (.bl false)))
 .nil) .nil)
 (.cons (.ife (.nt (.bi .all (.cons (.lc (.an (.call 1 (.cons (.var 1) (.cons (.cst (.int 0)) (.cons (.cst (.int 9)) .nil)))) (.call 1 (.cons (.var 2) (.cons (.cst (.int 0)) (.cons (.cst (.int 9)) .nil))))) (.tup [(.nm 1), (.nm 2)]) (.items (.var 0)) .nil [1, 2]) .nil))) (.cons (.ret (.cst (.bl false)))
 .nil) .nil)
 (.cons (.ret (.call 3 (.cons (.bi .list (.cons (.var 0) .nil)) .nil)))
 .nil)))⟩
def c_check_disk : Df := ⟨1, 1, 
 (.cons (.ife (.nt (.call 5 (.cons (.var 0) .nil))) (.cons (.rais (.var 0))
 .nil) .nil)
 .nil)⟩
def c_is_record : Df := ⟨2, 2, 
 (.cons (.ife (.orr (.nt (.bi .isTup (.cons (.var 1) .nil))) (.orr (.cmp .nin (.bi .len (.cons (.var 1) .nil)) (.tup (.cons (.cst (.int 2)) (.cons (.cst (.int 4)) .nil)))) (.nt (.bi .isStr (.cons (.ix (.var 1) (.cst (.int 0))) .nil))))) (.cons (.ret (.cst (.bl false)))
 .nil) .nil)
 (.cons (.ife (.nt (.call 1 (.cons (.ix (.var 1) (.cst (.int 1))) (.cons (.cst (.int 0)) (.cons (.cst (.int 3)) .nil))))) (.cons (.ret (.cst (.bl false)))
 .nil) .nil)
 (.cons (.ife (.cmp .eq (.bi .len (.cons (.var 1) .nil)) (.cst (.int 2))) (.cons (.ret (.cmp .eq (.ix (.var 1) (.cst (.int 0))) (.cst (.str ⟨#[101, 110, 100]⟩))))
 .nil) .nil)
 (.cons (.ret (.an (.cmp .eq (.ix (.var 1) (.cst (.int 0))) (.cst (.str ⟨#[112, 117, 116]⟩))) (.an (.call 1 (.cons (.ix (.var 1) (.cst (.int 2))) (.cons (.cst (.int 0)) (.cons (.cst (.int 9)) .nil)))) (.an (.cmp .inn (.ix (.var 1) (.cst (.int 2))) (.var 0)) (.call 1 (.cons (.ix (.var 1) (.cst (.int 3))) (.cons (.cst (.int 0)) (.cons (.cst (.int 9)) .nil))))))))
 .nil))))⟩
def c_is_log : Df := ⟨2, 6, 
 (.cons (.ex (.call 6 (.cons (.var 0) .nil)))
 (.cons (.ife (.orr (.nt (.bi .isTup (.cons (.var 1) .nil))) (.orr (.cmp .gt (.bi .len (.cons (.var 1) .nil)) (.gl 29 (.int 20))) (.nt (.bi .all (.cons (.lc (.call 7 (.cons (.var 0) (.cons (.var 2) .nil))) (.nm 2) (.it (.var 1)) .nil [2]) .nil))))) (.cons (.ret (.cst (.bl false)))
 .nil) .nil)
 (.cons (.par 3 4 false false (.mk (.dnew false)) (.mk (.dnew false)))
 (.cons (.for_ (.nm 5) (.it (.var 1)) (.cons (.ife (.cmp .inn (.ix (.var 5) (.cst (.int 1))) (.var 3)) (.cons (.ret (.cst (.bl false)))
 .nil) .nil)
 (.cons (.ife (.cmp .eq (.ix (.var 5) (.cst (.int 0))) (.cst (.str ⟨#[101, 110, 100]⟩))) (.cons (.seti (.var 3) (.ix (.var 5) (.cst (.int 1))) (.cst (.bl true)))
 .nil) (.cons (.ife (.an (.cmp .inn (.ix (.var 5) (.cst (.int 2))) (.var 4)) (.an (.cmp .ne (.ix (.var 4) (.ix (.var 5) (.cst (.int 2)))) (.ix (.var 5) (.cst (.int 1)))) (.cmp .nin (.ix (.var 4) (.ix (.var 5) (.cst (.int 2)))) (.var 3)))) (.cons (.ret (.cst (.bl false)))
 .nil) .nil)
 (.cons (.seti (.var 4) (.ix (.var 5) (.cst (.int 2))) (.ix (.var 5) (.cst (.int 1))))
 .nil)))
 .nil)))
 (.cons (.ret (.cst (.bl true)))
 .nil)))))⟩
def c_check_log : Df := ⟨2, 2, 
 (.cons (.ife (.nt (.call 8 (.cons (.var 0) (.cons (.var 1) .nil)))) (.cons (.rais (.var 1))
 .nil) .nil)
 .nil)⟩
def c_check_synced : Df := ⟨3, 3, 
 (.cons (.ex (.call 9 (.cons (.var 0) (.cons (.var 1) .nil))))
 (.cons (.ife (.nt (.call 1 (.cons (.var 2) (.cons (.cst (.int 0)) (.cons (.bi .len (.cons (.var 1) .nil)) .nil))))) (.cons (.rais (.var 2))
 .nil) .nil)
 .nil))⟩
def c_put_along : Df := ⟨2, 4, 
 (.cons (.newd 2 (.dcp (.var 0)))
 (.cons (.for_ (.nm 3) (.it (.var 1)) (.cons (.ife (.cmp .eq (.ix (.var 3) (.cst (.int 0))) (.cst (.str ⟨#[112, 117, 116]⟩))) (.cons (.seti (.var 2) (.ix (.var 3) (.cst (.int 2))) (.ix (.var 3) (.cst (.int 3))))
 .nil) .nil)
 .nil))
 (.cons (.ret (.var 2))
 .nil)))⟩
def c_values_possible : Df := ⟨3, 9, 
 (.cons (.ex (.call 10 (.cons (.var 0) (.cons (.var 1) (.cons (.var 2) .nil)))))
 (.cons (.par 3 4 false false (.call 11 (.cons (.var 0) (.cons (.shi (.var 1) (.var 2)) .nil))) (.mk (.dnew false)))
 (.cons (.for_ (.nm 5) (.it (.var 0)) (.cons (.asg (.nm 6) (.lc (.ix (.var 7) (.cst (.int 3))) (.nm 7) (.it (.slo (.var 1) (.var 2))) (.cons (.an (.cmp .eq (.ix (.var 7) (.cst (.int 0))) (.cst (.str ⟨#[112, 117, 116]⟩))) (.cmp .eq (.ix (.var 7) (.cst (.int 2))) (.var 5))) .nil) [7]))
 (.cons (.seti (.var 4) (.var 5) (.bi .tuple (.cons (.bi .sorted (.cons (.dc (.var 8) (.cst (.bl true)) (.nm 8) (.it (.tup (.cons (.ix (.var 3) (.var 5)) (.star (.var 6) .nil)))) .nil [8]) .nil)) .nil)))
 .nil)))
 (.cons (.ret (.var 4))
 .nil))))⟩
def c_can_be_found : Df := ⟨4, 6, 
 (.cons (.asg (.nm 4) (.call 12 (.cons (.var 0) (.cons (.var 1) (.cons (.var 2) .nil)))))
 (.cons (.ife (.orr (.nt (.bi .isDict (.cons (.var 3) .nil))) (.orr (.cmp .ne (.bi .len (.cons (.var 3) .nil)) (.bi .len (.cons (.var 4) .nil))) (.nt (.bi .all (.cons (.lc (.cmp .inn (.var 5) (.var 3)) (.nm 5) (.it (.var 4)) .nil [5]) .nil))))) (.cons (.ret (.cst (.bl false)))
 .nil) .nil)
 (.cons (.ret (.bi .all (.cons (.lc (.an (.call 1 (.cons (.ix (.var 3) (.var 5)) (.cons (.cst (.int 0)) (.cons (.cst (.int 9)) .nil)))) (.cmp .inn (.ix (.var 3) (.var 5)) (.ix (.var 4) (.var 5)))) (.nm 5) (.it (.var 4)) .nil [5]) .nil)))
 .nil)))⟩
def c_is_digest_blocks : Df := ⟨1, 2, 
 (.cons (.ret (.an (.bi .isTup (.cons (.var 0) .nil)) (.an (.chain .le .le (.cst (.int 1)) (.bi .len (.cons (.var 0) .nil)) (.gl 30 (.int 8))) (.bi .all (.cons (.lc (.call 1 (.cons (.var 1) (.cons (.cst (.int 0)) (.cons (.cst (.int 99)) .nil)))) (.nm 1) (.it (.var 0)) .nil [1]) .nil)))))
 .nil)⟩
def c_is_digest : Df := ⟨1, 1, 
 (.cons (.ret (.call 1 (.cons (.var 0) (.cons (.cst (.int 0)) (.cons (.bin .sub (.gl 31 (.int 1009)) (.cst (.int 1))) .nil)))))
 .nil)⟩
def c_is_path_up : Df := ⟨1, 2, 
 (.cons (.ife (.orr (.nt (.bi .isTup (.cons (.var 0) .nil))) (.orr (.cmp .gt (.bi .len (.cons (.var 0) .nil)) (.cst (.int 10))) (.nt (.bi .all (.cons (.lc (.call 2 (.cons (.var 1) (.cons (.cst (.int 2)) .nil))) (.nm 1) (.it (.var 0)) .nil [1]) .nil))))) (.cons (.ret (.cst (.bl false)))
 .nil) .nil)
 (.cons (.ret (.bi .all (.cons (.lc (.an (.bi .isStr (.cons (.ix (.var 1) (.cst (.int 0))) .nil)) (.an (.cmp .inn (.ix (.var 1) (.cst (.int 0))) (.tup (.cons (.cst (.str ⟨#[108, 101, 102, 116]⟩)) (.cons (.cst (.str ⟨#[114, 105, 103, 104, 116]⟩)) .nil)))) (.call 15 (.cons (.ix (.var 1) (.cst (.int 1))) .nil)))) (.nm 1) (.it (.var 0)) .nil [1]) .nil)))
 .nil))⟩
def c_is_free : Df := ⟨1, 2, 
 (.cons (.ret (.an (.bi .isTup (.cons (.var 0) .nil)) (.an (.chain .le .le (.cst (.int 1)) (.bi .len (.cons (.var 0) .nil)) (.gl 32 (.int 3))) (.bi .all (.cons (.lc (.call 1 (.cons (.var 1) (.cons (.cst (.int 0)) (.cons (.cst (.int 9)) .nil)))) (.nm 1) (.it (.var 0)) .nil [1]) .nil)))))
 .nil)⟩
def c_is_amount : Df := ⟨2, 3, 
 (.cons (.ret (.an (.call 2 (.cons (.var 1) (.cons (.bi .len (.cons (.var 0) .nil)) .nil))) (.bi .all (.cons (.lc (.call 1 (.cons (.var 2) (.cons (.cst (.int 0)) (.cons (.cst (.int 9)) .nil)))) (.nm 2) (.it (.var 1)) .nil [2]) .nil))))
 .nil)⟩
def c_is_tasks : Df := ⟨2, 3, 
 (.cons (.ife (.nt (.call 17 (.cons (.var 0) .nil))) (.cons (.rais (.var 0))
 .nil) .nil)
 (.cons (.ife (.orr (.nt (.bi .isTup (.cons (.var 1) .nil))) (.orr (.nt (.chain .le .le (.cst (.int 1)) (.bi .len (.cons (.var 1) .nil)) (.gl 33 (.int 6)))) (.nt (.bi .all (.cons (.lc (.call 2 (.cons (.var 2) (.cons (.cst (.int 2)) .nil))) (.nm 2) (.it (.var 1)) .nil [2]) .nil))))) (.cons (.ret (.cst (.bl false)))
 .nil) .nil)
 (.cons (.ret (.bi .all (.cons (.lc (.an (.call 18 (.cons (.var 0) (.cons (.ix (.var 2) (.cst (.int 0))) .nil))) (.call 18 (.cons (.var 0) (.cons (.ix (.var 2) (.cst (.int 1))) .nil)))) (.nm 2) (.it (.var 1)) .nil [2]) .nil)))
 .nil)))⟩
def c_is_pack_sizes : Df := ⟨1, 2, 
 (.cons (.ret (.an (.bi .isTup (.cons (.var 0) .nil)) (.an (.chain .le .le (.cst (.int 1)) (.bi .len (.cons (.var 0) .nil)) (.gl 34 (.int 6))) (.bi .all (.cons (.lc (.call 1 (.cons (.var 1) (.cons (.cst (.int 1)) (.cons (.cst (.int 20)) .nil)))) (.nm 1) (.it (.var 0)) .nil [1]) .nil)))))
 .nil)⟩
def c_check_packing : Df := ⟨2, 2, 
 (.cons (.ife (.nt (.call 20 (.cons (.var 0) .nil))) (.cons (.rais (.var 0))
 .nil) .nil)
 (.cons (.ife (.nt (.call 1 (.cons (.var 1) (.cons (.bi .max1 (.cons (.var 0) .nil)) (.cons (.gl 35 (.int 60)) .nil))))) (.cons (.rais (.var 1))
 .nil) .nil)
 .nil))⟩
def c_together : Df := ⟨2, 3, 
 (.cons (.ret (.bi .sum (.cons (.lc (.ix (.var 0) (.var 2)) (.nm 2) (.it (.var 1)) .nil [2]) .nil)))
 .nil)⟩
def c_is_packing : Df := ⟨3, 6, 
 (.cons (.ex (.call 21 (.cons (.var 0) (.cons (.var 1) .nil))))
 (.cons (.ife (.orr (.nt (.bi .isTup (.cons (.var 2) .nil))) (.nt (.bi .all (.cons (.lc (.an (.call 4 (.cons (.var 3) (.cons (.bi .len (.cons (.var 0) .nil)) .nil))) (.cmp .ne (.var 3) (.tup .nil))) (.nm 3) (.it (.var 2)) .nil [3]) .nil)))) (.cons (.ret (.cst (.bl false)))
 .nil) .nil)
 (.cons (.ife (.nt (.call 3 (.cons (.var 2) .nil))) (.cons (.ret (.cst (.bl false)))
 .nil) .nil)
 (.cons (.asg (.nm 4) (.bi .sorted (.cons (.lc2 (.var 5) (.nm 3) (.it (.var 2)) .nil (.nm 5) (.it (.var 3)) .nil [3, 5] [5]) .nil)))
 (.cons (.ret (.an (.cmp .eq (.var 4) (.bis .list (.r1 (.bi .len (.cons (.var 0) .nil))))) (.bi .all (.cons (.lc (.cmp .le (.call 22 (.cons (.var 0) (.cons (.var 3) .nil))) (.var 1)) (.nm 3) (.it (.var 2)) .nil [3]) .nil))))
 .nil)))))⟩
def c_law_cell_at : Df := ⟨2, 2, 
 (.cons (.ife (.cmp .lt (.var 1) (.bi .len (.cons (.var 0) .nil))) (.cons (.ret (.ix (.var 0) (.var 1)))
 .nil) .nil)
 (.cons (.ret (.cst (.int 0)))
 .nil))⟩
def c_law_draw : Df := ⟨3, 4, 
 (.cons (.asg (.nm 3) (.tup (.cons (.cst (.int 1000003)) (.cons (.cst (.int 1000033)) (.cons (.cst (.int 1000037)) (.cons (.cst (.int 1000039)) (.cons (.cst (.int 1000081)) (.cons (.cst (.int 1000099)) (.cons (.cst (.int 1000117)) (.cons (.cst (.int 1000121)) (.cons (.cst (.int 1000133)) (.cons (.cst (.int 1000151)) (.cons (.cst (.int 1000159)) (.cons (.cst (.int 1000171)) (.cons (.cst (.int 1000183)) (.cons (.cst (.int 1000187)) (.cons (.cst (.int 1000193)) (.cons (.cst (.int 1000199)) .nil))))))))))))))))))
 (.cons (.ret (.bin .mod (.bin .mod (.bi .int (.cons (.bin .add (.bin .mul (.var 0) (.cst (.int 48271))) (.bin .mul (.var 1) (.cst (.int 69621)))) .nil)) (.ix (.var 3) (.bin .mod (.bi .int (.cons (.var 1) .nil)) (.cst (.int 16))))) (.var 2)))
 .nil))⟩
def c_law_number : Df := ⟨3, 7, 
 (.cons (.asg (.nm 3) (.cst (.int 1)))
 (.cons (.for_ (.nm 4) (.r1 (.bin .mod (.bi .int (.cons (.var 1) .nil)) (.cst (.int 24)))) (.cons (.asg (.nm 3) (.bin .mul (.var 3) (.cst (.int 1009))))
 .nil))
 (.cons (.asg (.nm 5) (.bin .fdiv (.bin .sub (.var 0) (.bin .pow (.cst (.int 10)) (.cst (.int 18)))) (.var 3)))
 (.cons (.ife (.cmp .gt (.var 5) (.cst (.int 0))) (.cons (.ret (.bin .mod (.bin .mod (.bi .int (.cons (.var 5) .nil)) (.cst (.int 1009))) (.var 2)))
 .nil) .nil)
 (.cons (.asg (.nm 6) (.bin .mod (.bi .int (.cons (.var 0) .nil)) (.cst (.int 1000003))))
 (.cons (.ret (.bin .mod (.call 25 (.cons (.bin .mul (.bin .add (.var 6) (.bin .mul (.cst (.int 977)) (.var 1))) (.bin .add (.bin .add (.var 6) (.bin .mul (.cst (.int 31)) (.var 1))) (.cst (.int 5)))) (.cons (.bin .add (.bin .mod (.bi .int (.cons (.var 1) .nil)) (.cst (.int 9))) (.cst (.int 1))) (.cons (.cst (.int 999983)) .nil)))) (.var 2)))
 .nil))))))⟩
def c_law_next : Df := ⟨2, 4, 
 (.cons (.seti (.var 0) (.cst (.int 2)) (.bin .add (.ix (.var 0) (.cst (.int 2))) (.cst (.int 1))))
 (.cons (.asg (.nm 2) (.bin .fdiv (.ix (.var 0) (.cst (.int 2))) (.cst (.int 12))))
 (.cons (.asg (.nm 3) (.bin .add (.call 24 (.cons (.ix (.var 0) (.cst (.int 0))) (.cons (.bin .add (.ix (.var 0) (.cst (.int 1))) (.var 2)) .nil))) (.bin .mul (.cst (.int 31)) (.var 2))))
 (.cons (.ret (.call 26 (.cons (.var 3) (.cons (.bin .add (.bin .mod (.bi .int (.cons (.ix (.var 0) (.cst (.int 2))) .nil)) (.cst (.int 12))) (.cst (.int 1))) (.cons (.var 1) .nil)))))
 .nil))))⟩
def c_rest : Ss := 
 (.cons (.par 2 3 false false (.bin .add (.cst (.int 1)) (.call 27 (.cons (.var 1) (.cons (.cst (.int 3)) .nil)))) (.bin .add (.cst (.int 1)) (.call 27 (.cons (.var 1) (.cons (.cst (.int 6)) .nil)))))
 (.cons (.ife (.orr (.nt (.call 17 (.cons (.bin .mul (.tup (.cons (.cst (.int 9)) .nil)) (.var 2)) .nil))) (.orr (.call 17 (.cons (.bin .mul (.tup (.cons (.cst (.int 10)) .nil)) (.var 2)) .nil)) (.orr (.call 17 (.cons (.bin .mul (.tup (.cons (.cst (.int 1)) .nil)) (.bin .add (.cst (.int 3)) (.var 2))) .nil)) (.orr (.call 17 (.cons (.tup .nil) .nil)) (.orr (.call 17 (.cons (.lst (.cons (.cst (.int 1)) .nil)) .nil)) (.orr (.call 17 (.cons (.tup (.cons (.cst (.bl true)) .nil)) .nil)) (.orr (.call 17 (.cons (.tup (.cons (.neg (.cst (.int 1))) .nil)) .nil)) (.call 17 (.cons (.cst .non) .nil))))))))) (.cons (.ret (.cst (.bl false)))
 .nil) .nil)
 (.cons (.par 4 5 false false (.bin .mul (.tup (.cons (.cst (.int 0)) .nil)) (.var 2)) (.tup (.cons (.bin .mul (.tup (.cons (.cst (.int 9)) .nil)) (.var 2)) (.cons (.bin .mul (.tup (.cons (.cst (.int 0)) .nil)) (.var 2)) .nil))))
 (.cons (.ife (.orr (.nt (.call 19 (.cons (.var 4) (.cons (.bin .mul (.tup (.cons (.var 5) .nil)) (.var 3)) .nil)))) (.orr (.call 19 (.cons (.var 4) (.cons (.bin .mul (.tup (.cons (.var 5) .nil)) (.bin .add (.cst (.int 6)) (.var 3))) .nil))) (.orr (.call 19 (.cons (.var 4) (.cons (.tup .nil) .nil))) (.orr (.call 19 (.cons (.var 4) (.cons (.lst (.cons (.var 5) .nil)) .nil))) (.orr (.call 19 (.cons (.var 4) (.cons (.tup (.cons (.bin .add (.var 5) (.tup (.cons (.var 4) .nil))) .nil)) .nil))) (.orr (.call 19 (.cons (.var 4) (.cons (.tup (.cons (.tup (.cons (.bin .mul (.tup (.cons (.cst (.int 10)) .nil)) (.var 2)) (.cons (.var 4) .nil))) .nil)) .nil))) (.orr (.call 19 (.cons (.var 4) (.cons (.tup (.cons (.tup (.cons (.bin .add (.var 4) (.tup (.cons (.cst (.int 0)) .nil))) (.cons (.var 4) .nil))) .nil)) .nil))) (.orr (.call 19 (.cons (.var 4) (.cons (.tup (.cons (.tup (.cons (.var 4) (.cons (.bi .list (.cons (.var 4) .nil)) .nil))) .nil)) .nil))) (.orr (.an (.call 19 (.cons (.var 4) (.cons (.tup (.cons (.var 4) .nil)) .nil))) (.cmp .ne (.var 2) (.cst (.int 2)))) (.call 19 (.cons (.var 4) (.cons (.cst .non) .nil)))))))))))) (.cons (.ret (.cst (.bl false)))
 .nil) .nil)
 (.cons (.ife (.orr (.nt (.call 20 (.cons (.bin .mul (.tup (.cons (.cst (.int 20)) .nil)) (.var 3)) .nil))) (.orr (.call 20 (.cons (.bin .mul (.tup (.cons (.cst (.int 21)) .nil)) (.var 3)) .nil)) (.orr (.call 20 (.cons (.bin .mul (.tup (.cons (.cst (.int 1)) .nil)) (.bin .add (.cst (.int 6)) (.var 3))) .nil)) (.orr (.call 20 (.cons (.tup (.cons (.cst (.int 0)) .nil)) .nil)) (.orr (.call 20 (.cons (.tup .nil) .nil)) (.call 20 (.cons (.lst (.cons (.cst (.int 1)) .nil)) .nil))))))) (.cons (.ret (.cst (.bl false)))
 .nil) .nil)
 (.cons (.ife (.orr (.call 20 (.cons (.tup (.cons (.cst (.bl true)) .nil)) .nil)) (.call 20 (.cons (.cst .non) .nil))) (.cons (.ret (.cst (.bl false)))
 .nil) .nil)
 (.cons (.par 6 7 false false (.bin .mul (.tup (.cons (.cst (.int 3)) .nil)) (.var 3)) (.bi .tuple (.cons (.lc (.tup (.cons (.var 8) .nil)) (.nm 8) (.r1 (.var 3)) .nil [8]) .nil)))
 (.cons (.ife (.orr (.nt (.call 23 (.cons (.var 6) (.cons (.cst (.int 3)) (.cons (.var 7) .nil))))) (.orr (.nt (.call 23 (.cons (.var 6) (.cons (.cst (.int 18)) (.cons (.tup (.cons (.bis .tuple (.r1 (.var 3))) .nil)) .nil))))) (.an (.call 23 (.cons (.var 6) (.cons (.cst (.int 3)) (.cons (.rev (.var 7)) .nil)))) (.cmp .gt (.var 3) (.cst (.int 1)))))) (.cons (.ret (.cst (.bl false)))
 .nil) .nil)
 (.cons (.ife (.orr (.call 23 (.cons (.var 6) (.cons (.cst (.int 3)) (.cons (.bi .list (.cons (.var 7) .nil)) .nil)))) (.orr (.call 23 (.cons (.var 6) (.cons (.cst (.int 3)) (.cons (.slo (.var 7) (.cst (.int 1))) .nil)))) (.orr (.call 23 (.cons (.var 6) (.cons (.cst (.int 3)) (.cons (.bin .add (.var 7) (.tup (.cons (.tup .nil) .nil))) .nil)))) (.call 23 (.cons (.var 6) (.cons (.cst (.int 3)) (.cons (.bin .add (.var 7) (.tup (.cons (.tup (.cons (.cst (.int 0)) .nil)) .nil))) .nil))))))) (.cons (.ret (.cst (.bl false)))
 .nil) .nil)
 (.cons (.ife (.orr (.call 23 (.cons (.var 6) (.cons (.cst (.int 3)) (.cons (.bin .add (.var 7) (.tup (.cons (.tup (.cons (.var 3) .nil)) .nil))) .nil)))) (.orr (.call 23 (.cons (.var 6) (.cons (.cst (.int 3)) (.cons (.cst .non) .nil)))) (.cmp .ne (.call 23 (.cons (.var 6) (.cons (.cst (.int 3)) (.cons (.tup (.cons (.bis .tuple (.r1 (.var 3))) .nil)) .nil)))) (.cmp .eq (.var 3) (.cst (.int 1)))))) (.cons (.ret (.cst (.bl false)))
 .nil) .nil)
 (.cons (.ife (.orr (.nt (.call 14 (.cons (.bin .mul (.tup (.cons (.cst (.int 99)) .nil)) (.cst (.int 8))) .nil))) (.orr (.call 14 (.cons (.bin .mul (.tup (.cons (.cst (.int 99)) .nil)) (.cst (.int 9))) .nil)) (.orr (.call 14 (.cons (.tup (.cons (.cst (.int 100)) .nil)) .nil)) (.orr (.call 14 (.cons (.tup .nil) .nil)) (.call 14 (.cons (.lst (.cons (.cst (.int 0)) .nil)) .nil)))))) (.cons (.ret (.cst (.bl false)))
 .nil) .nil)
 (.cons (.ife (.orr (.call 14 (.cons (.tup (.cons (.cst (.bl false)) .nil)) .nil)) (.orr (.call 14 (.cons (.cst .non) .nil)) (.orr (.nt (.call 15 (.cons (.cst (.int 1008)) .nil))) (.orr (.call 15 (.cons (.cst (.int 1009)) .nil)) (.orr (.call 15 (.cons (.neg (.cst (.int 1))) .nil)) (.orr (.call 15 (.cons (.cst (.bl true)) .nil)) (.call 15 (.cons (.tup (.cons (.cst (.int 1)) .nil)) .nil)))))))) (.cons (.ret (.cst (.bl false)))
 .nil) .nil)
 (.cons (.ife (.nt (.call 15 (.cons (.cst (.int 0)) .nil))) (.cons (.ret (.cst (.bl false)))
 .nil) .nil)
 (.cons (.ife (.orr (.nt (.call 16 (.cons (.tup .nil) .nil))) (.orr (.nt (.call 16 (.cons (.bin .mul (.tup (.cons (.tup (.cons (.cst (.str ⟨#[108, 101, 102, 116]⟩)) (.cons (.cst (.int 0)) .nil))) (.cons (.tup (.cons (.cst (.str ⟨#[114, 105, 103, 104, 116]⟩)) (.cons (.cst (.int 1008)) .nil))) .nil))) (.cst (.int 5))) .nil))) (.orr (.call 16 (.cons (.bin .mul (.tup (.cons (.tup (.cons (.cst (.str ⟨#[108, 101, 102, 116]⟩)) (.cons (.cst (.int 0)) .nil))) .nil)) (.cst (.int 11))) .nil)) (.orr (.call 16 (.cons (.tup (.cons (.tup (.cons (.cst (.str ⟨#[76, 101, 102, 116]⟩)) (.cons (.cst (.int 0)) .nil))) .nil)) .nil)) (.orr (.call 16 (.cons (.tup (.cons (.tup (.cons (.cst (.str ⟨#[108, 101, 102, 116]⟩)) (.cons (.cst (.int 1009)) .nil))) .nil)) .nil)) (.orr (.call 16 (.cons (.lst (.cons (.tup (.cons (.cst (.str ⟨#[108, 101, 102, 116]⟩)) (.cons (.cst (.int 0)) .nil))) .nil)) .nil)) (.orr (.call 16 (.cons (.tup (.cons (.tup (.cons (.cst (.str ⟨#[108, 101, 102, 116]⟩)) (.cons (.cst (.int 0)) (.cons (.cst (.int 1)) .nil)))) .nil)) .nil)) (.orr (.call 16 (.cons (.tup (.cons (.lst (.cons (.cst (.str ⟨#[108, 101, 102, 116]⟩)) (.cons (.cst (.int 0)) .nil))) .nil)) .nil)) (.orr (.call 16 (.cons (.tup (.cons (.cst (.str ⟨#[108, 101, 102, 116]⟩)) (.cons (.cst (.int 0)) .nil))) .nil)) (.orr (.call 16 (.cons (.cst .non) .nil)) (.call 16 (.cons (.tup (.cons (.tup (.cons (.cst (.int 0)) (.cons (.cst (.str ⟨#[108, 101, 102, 116]⟩)) .nil))) .nil)) .nil)))))))))))) (.cons (.ret (.cst (.bl false)))
 .nil) .nil)
 (.cons (.asg (.nm 9) (.call 27 (.cons (.var 1) (.cons (.cst (.int 9)) .nil))))
 (.cons (.ife (.orr (.nt (.call 5 (.cons (.disp (.cons (.var 9) (.cons (.cst (.int 9)) .nil))) .nil))) (.orr (.nt (.call 5 (.cons (.disp (.cons (.var 9) (.cons (.cst (.int 0)) (.cons (.bin .add (.var 9) (.cst (.int 1))) (.cons (.cst (.int 0)) .nil))))) .nil))) (.orr (.call 5 (.cons (.disp (.cons (.bin .add (.var 9) (.cst (.int 1))) (.cons (.cst (.int 0)) (.cons (.var 9) (.cons (.cst (.int 0)) .nil))))) .nil)) (.orr (.call 5 (.cons (.disp (.cons (.cst (.int 10)) (.cons (.cst (.int 0)) .nil))) .nil)) (.orr (.call 5 (.cons (.disp (.cons (.var 9) (.cons (.cst (.int 10)) .nil))) .nil)) (.orr (.call 5 (.cons (.dnew false) .nil)) (.orr (.call 5 (.cons (.disp (.cons (.var 9) (.cons (.cst .non) .nil))) .nil)) (.orr (.call 5 (.cons (.disp (.cons (.cst (.str ⟨#[48]⟩)) (.cons (.cst (.int 0)) .nil))) .nil)) (.orr (.call 5 (.cons (.lst (.cons (.var 9) .nil)) .nil)) (.orr (.call 5 (.cons (.dcp (.lc (.tup (.cons (.var 8) (.cons (.cst (.int 0)) .nil))) (.nm 8) (.r1 (.cst (.int 6))) .nil [8])) .nil)) (.orr (.nt (.call 5 (.cons (.dcp (.lc (.tup (.cons (.var 8) (.cons (.cst (.int 0)) .nil))) (.nm 8) (.r1 (.cst (.int 5))) .nil [8])) .nil))) (.call 5 (.cons (.cst .non) .nil))))))))))))) (.cons (.ret (.cst (.bl false)))
 .nil) .nil)
 (.cons (.par 10 11 false false (.disp (.cons (.var 9) (.cons (.cst (.int 0)) .nil))) (.tup (.cons (.cst (.str ⟨#[112, 117, 116]⟩)) (.cons (.cst (.int 0)) (.cons (.var 9) (.cons (.cst (.int 1)) .nil))))))
 (.cons (.ife (.orr (.nt (.call 8 (.cons (.var 10) (.cons (.tup .nil) .nil)))) (.orr (.nt (.call 8 (.cons (.var 10) (.cons (.bin .mul (.tup (.cons (.var 11) .nil)) (.cst (.int 20))) .nil)))) (.orr (.call 8 (.cons (.var 10) (.cons (.bin .mul (.tup (.cons (.var 11) .nil)) (.cst (.int 21))) .nil))) (.orr (.call 8 (.cons (.var 10) (.cons (.lst (.cons (.var 11) .nil)) .nil))) (.call 8 (.cons (.var 10) (.cons (.tup (.cons (.tup (.cons (.cst (.str ⟨#[112, 117, 116]⟩)) (.cons (.cst (.int 0)) (.cons (.bin .add (.var 9) (.cst (.int 1))) (.cons (.cst (.int 1)) .nil))))) .nil)) .nil))))))) (.cons (.ret (.cst (.bl false)))
 .nil) .nil)
 (.cons (.ife (.orr (.call 8 (.cons (.var 10) (.cons (.tup (.cons (.tup (.cons (.cst (.str ⟨#[112, 117, 116]⟩)) (.cons (.cst (.int 4)) (.cons (.var 9) (.cons (.cst (.int 1)) .nil))))) .nil)) .nil))) (.orr (.call 8 (.cons (.var 10) (.cons (.tup (.cons (.tup (.cons (.cst (.str ⟨#[112, 117, 116]⟩)) (.cons (.cst (.int 0)) (.cons (.var 9) (.cons (.cst (.int 10)) .nil))))) .nil)) .nil))) (.orr (.call 8 (.cons (.var 10) (.cons (.tup (.cons (.tup (.cons (.cst (.str ⟨#[112, 117, 116]⟩)) (.cons (.cst (.int 0)) (.cons (.var 9) .nil)))) .nil)) .nil))) (.call 8 (.cons (.var 10) (.cons (.tup (.cons (.tup (.cons (.cst (.str ⟨#[101, 110, 100]⟩)) (.cons (.cst (.int 0)) (.cons (.cst (.int 0)) .nil)))) .nil)) .nil)))))) (.cons (.ret (.cst (.bl false)))
 .nil) .nil)
 (.cons (.ife (.orr (.call 8 (.cons (.var 10) (.cons (.tup (.cons (.tup (.cons (.cst (.str ⟨#[101, 110, 100]⟩)) (.cons (.neg (.cst (.int 1))) .nil))) .nil)) .nil))) (.orr (.call 8 (.cons (.var 10) (.cons (.tup (.cons (.var 11) (.cons (.tup (.cons (.cst (.str ⟨#[101, 110, 100]⟩)) (.cons (.cst (.int 0)) .nil))) (.cons (.var 11) .nil)))) .nil))) (.call 8 (.cons (.var 10) (.cons (.tup (.cons (.var 11) (.cons (.tup (.cons (.cst (.str ⟨#[112, 117, 116]⟩)) (.cons (.cst (.int 1)) (.cons (.var 9) (.cons (.cst (.int 1)) .nil))))) .nil))) .nil))))) (.cons (.ret (.cst (.bl false)))
 .nil) .nil)
 (.cons (.ife (.orr (.nt (.call 8 (.cons (.var 10) (.cons (.tup (.cons (.var 11) (.cons (.tup (.cons (.cst (.str ⟨#[101, 110, 100]⟩)) (.cons (.cst (.int 0)) .nil))) (.cons (.tup (.cons (.cst (.str ⟨#[112, 117, 116]⟩)) (.cons (.cst (.int 1)) (.cons (.var 9) (.cons (.cst (.int 1)) .nil))))) .nil)))) .nil)))) (.orr (.nt (.call 8 (.cons (.var 10) (.cons (.tup (.cons (.tup (.cons (.cst (.str ⟨#[101, 110, 100]⟩)) (.cons (.cst (.int 3)) .nil))) (.cons (.var 11) .nil))) .nil)))) (.call 8 (.cons (.var 10) (.cons (.cst .non) .nil))))) (.cons (.ret (.cst (.bl false)))
 .nil) .nil)
 (.cons (.ret (.an (.call 13 (.cons (.var 10) (.cons (.tup (.cons (.var 11) .nil)) (.cons (.cst (.int 0)) (.cons (.disp (.cons (.var 9) (.cons (.cst (.int 0)) .nil))) .nil))))) (.an (.call 13 (.cons (.var 10) (.cons (.tup (.cons (.var 11) .nil)) (.cons (.cst (.int 0)) (.cons (.disp (.cons (.var 9) (.cons (.cst (.int 1)) .nil))) .nil))))) (.an (.nt (.call 13 (.cons (.var 10) (.cons (.tup (.cons (.var 11) .nil)) (.cons (.cst (.int 1)) (.cons (.disp (.cons (.var 9) (.cons (.cst (.int 0)) .nil))) .nil)))))) (.an (.nt (.call 13 (.cons (.var 10) (.cons (.tup (.cons (.var 11) .nil)) (.cons (.cst (.int 0)) (.cons (.disp (.cons (.var 9) (.cons (.cst (.int 2)) .nil))) .nil)))))) (.an (.nt (.call 13 (.cons (.var 10) (.cons (.tup (.cons (.var 11) .nil)) (.cons (.cst (.int 0)) (.cons (.dnew false) .nil)))))) (.an (.nt (.call 13 (.cons (.var 10) (.cons (.tup (.cons (.var 11) .nil)) (.cons (.cst (.int 0)) (.cons (.disp (.cons (.var 9) (.cons (.cst (.bl true)) .nil))) .nil)))))) (.an (.nt (.call 13 (.cons (.var 10) (.cons (.tup (.cons (.var 11) .nil)) (.cons (.cst (.int 0)) (.cons (.disp (.cons (.var 9) (.cons (.cst (.int 0)) (.cons (.bin .add (.var 9) (.cst (.int 1))) (.cons (.cst (.int 0)) .nil))))) .nil)))))) (.nt (.call 13 (.cons (.var 10) (.cons (.tup (.cons (.var 11) .nil)) (.cons (.cst (.int 0)) (.cons (.cst .non) .nil))))))))))))))
 .nil))))))))))))))))))))))
def codes : List Df := [c_is_whole, c_is_from, c_is_many, c_ascends, c_is_lot, c_is_disk, c_check_disk, c_is_record, c_is_log, c_check_log, c_check_synced, c_put_along, c_values_possible, c_can_be_found, c_is_digest_blocks, c_is_digest, c_is_path_up, c_is_free, c_is_amount, c_is_tasks, c_is_pack_sizes, c_check_packing, c_together, c_is_packing, c_law_cell_at, c_law_draw, c_law_number, c_law_next]
def nm : List Str := [("is_whole" : Str), ("is_from" : Str), ("is_many" : Str), ("ascends" : Str), ("is_lot" : Str), ("is_disk" : Str), ("check_disk" : Str), ("is_record" : Str), ("is_log" : Str), ("check_log" : Str), ("check_synced" : Str), ("put_along" : Str), ("values_possible" : Str), ("can_be_found" : Str), ("is_digest_blocks" : Str), ("is_digest" : Str), ("is_path_up" : Str), ("is_free" : Str), ("is_amount" : Str), ("is_tasks" : Str), ("is_pack_sizes" : Str), ("check_packing" : Str), ("together" : Str), ("is_packing" : Str), ("_law_cell_at" : Str), ("_law_draw" : Str), ("_law_number" : Str), ("_law_next" : Str), ("law" : Str), ("MOST_LOG" : Str), ("MOST_BLOCKS" : Str), ("PRIME" : Str), ("MOST_KINDS" : Str), ("MOST_TASKS" : Str), ("MOST_SIZES" : Str), ("MOST_ROOM" : Str)]
def cs : List (Nat × Int) := [(29, 20), (30, 8), (31, 1009), (32, 3), (33, 6), (34, 6), (35, 60)]
def ct : List (Nat × Str) := []
def top (i : Nat) : Stmt := PySem.Challenge.pw_chainsback_k78_new_shapes.main.body.getD i (.Pass ⟨0, 0, 0, 0⟩)
def t_0 : DfT := ⟨("is_whole" : Str), top 4, [("thing" : Str)], [("thing" : Str)]⟩
def t_1 : DfT := ⟨("is_from" : Str), top 5, [("thing" : Str), ("least" : Str), ("most" : Str)], [("thing" : Str), ("least" : Str), ("most" : Str)]⟩
def t_2 : DfT := ⟨("is_many" : Str), top 6, [("thing" : Str), ("many" : Str)], [("thing" : Str), ("many" : Str)]⟩
def t_3 : DfT := ⟨("ascends" : Str), top 7, [("things" : Str), ("one" : Str), ("other" : Str)], [("things" : Str)]⟩
def t_4 : DfT := ⟨("is_lot" : Str), top 8, [("thing" : Str), ("many" : Str), ("one" : Str)], [("thing" : Str), ("many" : Str)]⟩
def t_5 : DfT := ⟨("is_disk" : Str), top 11, [("thing" : Str), ("key" : Str), ("value" : Str)], [("thing" : Str)]⟩
def t_6 : DfT := ⟨("check_disk" : Str), top 12, [("disk" : Str)], [("disk" : Str)]⟩
def t_7 : DfT := ⟨("is_record" : Str), top 13, [("disk" : Str), ("thing" : Str)], [("disk" : Str), ("thing" : Str)]⟩
def t_8 : DfT := ⟨("is_log" : Str), top 14, [("disk" : Str), ("thing" : Str), ("one" : Str), ("ended" : Str), ("held" : Str), ("record" : Str)], [("disk" : Str), ("thing" : Str)]⟩
def t_9 : DfT := ⟨("check_log" : Str), top 15, [("disk" : Str), ("log" : Str)], [("disk" : Str), ("log" : Str)]⟩
def t_10 : DfT := ⟨("check_synced" : Str), top 16, [("disk" : Str), ("log" : Str), ("synced" : Str)], [("disk" : Str), ("log" : Str), ("synced" : Str)]⟩
def t_11 : DfT := ⟨("put_along" : Str), top 17, [("disk" : Str), ("records" : Str), ("state" : Str), ("record" : Str)], [("disk" : Str), ("records" : Str)]⟩
def t_12 : DfT := ⟨("values_possible" : Str), top 18, [("disk" : Str), ("log" : Str), ("synced" : Str), ("state" : Str), ("found" : Str), ("key" : Str), ("late" : Str), ("record" : Str), ("value" : Str)], [("disk" : Str), ("log" : Str), ("synced" : Str)]⟩
def t_13 : DfT := ⟨("can_be_found" : Str), top 19, [("disk" : Str), ("log" : Str), ("synced" : Str), ("state" : Str), ("rows" : Str), ("key" : Str)], [("disk" : Str), ("log" : Str), ("synced" : Str), ("state" : Str)]⟩
def t_14 : DfT := ⟨("is_digest_blocks" : Str), top 23, [("thing" : Str), ("one" : Str)], [("thing" : Str)]⟩
def t_15 : DfT := ⟨("is_digest" : Str), top 24, [("thing" : Str)], [("thing" : Str)]⟩
def t_16 : DfT := ⟨("is_path_up" : Str), top 25, [("thing" : Str), ("one" : Str)], [("thing" : Str)]⟩
def t_17 : DfT := ⟨("is_free" : Str), top 29, [("thing" : Str), ("one" : Str)], [("thing" : Str)]⟩
def t_18 : DfT := ⟨("is_amount" : Str), top 30, [("free" : Str), ("thing" : Str), ("one" : Str)], [("free" : Str), ("thing" : Str)]⟩
def t_19 : DfT := ⟨("is_tasks" : Str), top 31, [("free" : Str), ("thing" : Str), ("one" : Str)], [("free" : Str), ("thing" : Str)]⟩
def t_20 : DfT := ⟨("is_pack_sizes" : Str), top 35, [("thing" : Str), ("one" : Str)], [("thing" : Str)]⟩
def t_21 : DfT := ⟨("check_packing" : Str), top 36, [("sizes" : Str), ("room" : Str)], [("sizes" : Str), ("room" : Str)]⟩
def t_22 : DfT := ⟨("together" : Str), top 37, [("sizes" : Str), ("lot" : Str), ("one" : Str)], [("sizes" : Str), ("lot" : Str)]⟩
def t_23 : DfT := ⟨("is_packing" : Str), top 38, [("sizes" : Str), ("room" : Str), ("thing" : Str), ("lot" : Str), ("every" : Str), ("one" : Str)], [("sizes" : Str), ("room" : Str), ("thing" : Str)]⟩
def t_24 : DfT := ⟨("_law_cell_at" : Str), top 40, [("script" : Str), ("k" : Str)], [("script" : Str), ("k" : Str)]⟩
def t_25 : DfT := ⟨("_law_draw" : Str), top 41, [("cell" : Str), ("k" : Str), ("bound" : Str), ("primes" : Str)], [("cell" : Str), ("k" : Str), ("bound" : Str)]⟩
def t_26 : DfT := ⟨("_law_number" : Str), top 42, [("cell" : Str), ("k" : Str), ("bound" : Str), ("scale" : Str), ("lap" : Str), ("remains" : Str), ("small" : Str)], [("cell" : Str), ("k" : Str), ("bound" : Str)]⟩
def t_27 : DfT := ⟨("_law_next" : Str), top 43, [("draw" : Str), ("bound" : Str), ("at" : Str), ("cell" : Str)], [("draw" : Str), ("bound" : Str)]⟩
def t_l : DfT := ⟨"law", top 44, [("script" : Str), ("draw" : Str), ("many" : Str), ("size" : Str), ("free" : Str), ("task" : Str), ("sizes" : Str), ("alone" : Str), ("at" : Str), ("key" : Str), ("disk" : Str), ("put" : Str)], ["script"]⟩
def ts : List DfT := [t_0, t_1, t_2, t_3, t_4, t_5, t_6, t_7, t_8, t_9, t_10, t_11, t_12, t_13, t_14, t_15, t_16, t_17, t_18, t_19, t_20, t_21, t_22, t_23, t_24, t_25, t_26, t_27]
theorem b_0 : t_0.Binds := fun _ _ _ _ _ _ us hl => match us, hl with | [_], _ => rfl
theorem b_1 : t_1.Binds := fun _ _ _ _ _ _ us hl => match us, hl with | [_, _, _], _ => rfl
theorem b_2 : t_2.Binds := fun _ _ _ _ _ _ us hl => match us, hl with | [_, _], _ => rfl
theorem b_3 : t_3.Binds := fun _ _ _ _ _ _ us hl => match us, hl with | [_], _ => rfl
theorem b_4 : t_4.Binds := fun _ _ _ _ _ _ us hl => match us, hl with | [_, _], _ => rfl
theorem b_5 : t_5.Binds := fun _ _ _ _ _ _ us hl => match us, hl with | [_], _ => rfl
theorem b_6 : t_6.Binds := fun _ _ _ _ _ _ us hl => match us, hl with | [_], _ => rfl
theorem b_7 : t_7.Binds := fun _ _ _ _ _ _ us hl => match us, hl with | [_, _], _ => rfl
theorem b_8 : t_8.Binds := fun _ _ _ _ _ _ us hl => match us, hl with | [_, _], _ => rfl
theorem b_9 : t_9.Binds := fun _ _ _ _ _ _ us hl => match us, hl with | [_, _], _ => rfl
theorem b_10 : t_10.Binds := fun _ _ _ _ _ _ us hl => match us, hl with | [_, _, _], _ => rfl
theorem b_11 : t_11.Binds := fun _ _ _ _ _ _ us hl => match us, hl with | [_, _], _ => rfl
theorem b_12 : t_12.Binds := fun _ _ _ _ _ _ us hl => match us, hl with | [_, _, _], _ => rfl
theorem b_13 : t_13.Binds := fun _ _ _ _ _ _ us hl => match us, hl with | [_, _, _, _], _ => rfl
theorem b_14 : t_14.Binds := fun _ _ _ _ _ _ us hl => match us, hl with | [_], _ => rfl
theorem b_15 : t_15.Binds := fun _ _ _ _ _ _ us hl => match us, hl with | [_], _ => rfl
theorem b_16 : t_16.Binds := fun _ _ _ _ _ _ us hl => match us, hl with | [_], _ => rfl
theorem b_17 : t_17.Binds := fun _ _ _ _ _ _ us hl => match us, hl with | [_], _ => rfl
theorem b_18 : t_18.Binds := fun _ _ _ _ _ _ us hl => match us, hl with | [_, _], _ => rfl
theorem b_19 : t_19.Binds := fun _ _ _ _ _ _ us hl => match us, hl with | [_, _], _ => rfl
theorem b_20 : t_20.Binds := fun _ _ _ _ _ _ us hl => match us, hl with | [_], _ => rfl
theorem b_21 : t_21.Binds := fun _ _ _ _ _ _ us hl => match us, hl with | [_, _], _ => rfl
theorem b_22 : t_22.Binds := fun _ _ _ _ _ _ us hl => match us, hl with | [_, _], _ => rfl
theorem b_23 : t_23.Binds := fun _ _ _ _ _ _ us hl => match us, hl with | [_, _, _], _ => rfl
theorem b_24 : t_24.Binds := fun _ _ _ _ _ _ us hl => match us, hl with | [_, _], _ => rfl
theorem b_25 : t_25.Binds := fun _ _ _ _ _ _ us hl => match us, hl with | [_, _, _], _ => rfl
theorem b_26 : t_26.Binds := fun _ _ _ _ _ _ us hl => match us, hl with | [_, _, _], _ => rfl
theorem b_27 : t_27.Binds := fun _ _ _ _ _ _ us hl => match us, hl with | [_, _], _ => rfl
theorem b_l : t_l.Binds := fun _ _ _ _ _ _ us hl => match us, hl with | [_], _ => rfl
theorem bs : ∀ t ∈ ts, t.Binds := by
  intro t ht
  simp only [ts, List.mem_cons, List.not_mem_nil, or_false] at ht
  rcases ht with rfl | rfl | rfl | rfl | rfl | rfl | rfl | rfl | rfl | rfl | rfl | rfl | rfl | rfl | rfl | rfl | rfl | rfl | rfl | rfl | rfl | rfl | rfl | rfl | rfl | rfl | rfl | rfl
  · exact b_0
  · exact b_1
  · exact b_2
  · exact b_3
  · exact b_4
  · exact b_5
  · exact b_6
  · exact b_7
  · exact b_8
  · exact b_9
  · exact b_10
  · exact b_11
  · exact b_12
  · exact b_13
  · exact b_14
  · exact b_15
  · exact b_16
  · exact b_17
  · exact b_18
  · exact b_19
  · exact b_20
  · exact b_21
  · exact b_22
  · exact b_23
  · exact b_24
  · exact b_25
  · exact b_26
  · exact b_27
theorem ck : allCk nm cs ct nm codes ts = true := by decide +kernel
theorem ckl : c_rest.ck ⟨t_l.N, nm, cs, ct⟩ (defScope t_l.st) (defBody t_l.st).tail = true := by decide +kernel
def loose : List Str := [("BackError" : Str), ("BadThing" : Str), ("is_whole" : Str), ("is_from" : Str), ("is_many" : Str), ("ascends" : Str), ("is_lot" : Str), ("MOST_LOG" : Str), ("is_disk" : Str), ("check_disk" : Str), ("is_record" : Str), ("is_log" : Str), ("check_log" : Str), ("check_synced" : Str), ("put_along" : Str), ("values_possible" : Str), ("can_be_found" : Str), ("MOST_BLOCKS" : Str), ("PRIME" : Str), ("is_digest_blocks" : Str), ("is_digest" : Str), ("is_path_up" : Str), ("MOST_KINDS" : Str), ("MOST_TASKS" : Str), ("is_free" : Str), ("is_amount" : Str), ("is_tasks" : Str), ("MOST_SIZES" : Str), ("MOST_ROOM" : Str), ("is_pack_sizes" : Str), ("check_packing" : Str), ("together" : Str), ("is_packing" : Str), ("_law_cell_at" : Str), ("_law_draw" : Str), ("_law_number" : Str), ("_law_next" : Str)]
abbrev fa : List He.Fa := factsOf nm cs ct ts t_l
abbrev fn : List He.DefD := fnsOf ts t_l
abbrev Rw : PySem.W.OpenRow := PySem.W.OpenLaw.row PySem.Challenge.rw_chainsback_k78_new_shapes
abbrev hk : PySem.W.Hook := He.hookD 4 fa fn
def ob (s : PySem.W.SharedT) : He.AlD := He.obsDG 4 fa fn (HandSHeadRun.getT s)
theorem ob_eq (s : PySem.W.SharedT) : ob s = hk.obs s.abs := He.obsDG_eq (HandSHeadRun.getT_eq s)
theorem run (w : World) : HandSHeadRun.RunEq Rw (PySem.W.view Rw.prog [44]) hk ob 4000 loose w := by
  intro os
  kernel_rfl
end D_k78
end
section
set_option maxRecDepth 100000
set_option linter.all false
namespace D_k78
open PySem Z
abbrev G (dr : Dr) : Ga := gaO (ovD dr 27) codes 9
theorem tail_0 (dr : Dr) (ns : List Int) (c : Nat) (x2 x3 x4 x5 x6 x7 x8 x9 x10 x11 : Option D) : isT ((c_rest.post 15).den (G dr) (none :: some (.loc 0) :: [x2, x3, x4, x5, x6, x7, x8, some (.int 0), x10, x11]) [.l [.lsi ns, .int (.ofNat 0), .int (.ofNat c)]]) = true := by kernel_rfl
theorem tail_1 (dr : Dr) (ns : List Int) (c : Nat) (x2 x3 x4 x5 x6 x7 x8 x9 x10 x11 : Option D) : isT ((c_rest.post 15).den (G dr) (none :: some (.loc 0) :: [x2, x3, x4, x5, x6, x7, x8, some (.int 1), x10, x11]) [.l [.lsi ns, .int (.ofNat 0), .int (.ofNat c)]]) = true := by kernel_rfl
theorem tail_2 (dr : Dr) (ns : List Int) (c : Nat) (x2 x3 x4 x5 x6 x7 x8 x9 x10 x11 : Option D) : isT ((c_rest.post 15).den (G dr) (none :: some (.loc 0) :: [x2, x3, x4, x5, x6, x7, x8, some (.int 2), x10, x11]) [.l [.lsi ns, .int (.ofNat 0), .int (.ofNat c)]]) = true := by kernel_rfl
theorem tail_3 (dr : Dr) (ns : List Int) (c : Nat) (x2 x3 x4 x5 x6 x7 x8 x9 x10 x11 : Option D) : isT ((c_rest.post 15).den (G dr) (none :: some (.loc 0) :: [x2, x3, x4, x5, x6, x7, x8, some (.int 3), x10, x11]) [.l [.lsi ns, .int (.ofNat 0), .int (.ofNat c)]]) = true := by kernel_rfl
theorem tail_4 (dr : Dr) (ns : List Int) (c : Nat) (x2 x3 x4 x5 x6 x7 x8 x9 x10 x11 : Option D) : isT ((c_rest.post 15).den (G dr) (none :: some (.loc 0) :: [x2, x3, x4, x5, x6, x7, x8, some (.int 4), x10, x11]) [.l [.lsi ns, .int (.ofNat 0), .int (.ofNat c)]]) = true := by kernel_rfl
theorem tail_5 (dr : Dr) (ns : List Int) (c : Nat) (x2 x3 x4 x5 x6 x7 x8 x9 x10 x11 : Option D) : isT ((c_rest.post 15).den (G dr) (none :: some (.loc 0) :: [x2, x3, x4, x5, x6, x7, x8, some (.int 5), x10, x11]) [.l [.lsi ns, .int (.ofNat 0), .int (.ofNat c)]]) = true := by kernel_rfl
theorem tail_6 (dr : Dr) (ns : List Int) (c : Nat) (x2 x3 x4 x5 x6 x7 x8 x9 x10 x11 : Option D) : isT ((c_rest.post 15).den (G dr) (none :: some (.loc 0) :: [x2, x3, x4, x5, x6, x7, x8, some (.int 6), x10, x11]) [.l [.lsi ns, .int (.ofNat 0), .int (.ofNat c)]]) = true := by kernel_rfl
theorem tail_7 (dr : Dr) (ns : List Int) (c : Nat) (x2 x3 x4 x5 x6 x7 x8 x9 x10 x11 : Option D) : isT ((c_rest.post 15).den (G dr) (none :: some (.loc 0) :: [x2, x3, x4, x5, x6, x7, x8, some (.int 7), x10, x11]) [.l [.lsi ns, .int (.ofNat 0), .int (.ofNat c)]]) = true := by kernel_rfl
theorem tail_8 (dr : Dr) (ns : List Int) (c : Nat) (x2 x3 x4 x5 x6 x7 x8 x9 x10 x11 : Option D) : isT ((c_rest.post 15).den (G dr) (none :: some (.loc 0) :: [x2, x3, x4, x5, x6, x7, x8, some (.int 8), x10, x11]) [.l [.lsi ns, .int (.ofNat 0), .int (.ofNat c)]]) = true := by kernel_rfl
theorem tail (dr : Dr) (ns : List Int) (c : Nat) (x2 x3 x4 x5 x6 x7 x8 x9 x10 x11 : Option D) (hdr : Dr.ok dr) : isT ((c_rest.post 14).den (G dr) (none :: some (.loc 0) :: [x2, x3, x4, x5, x6, x7, x8, x9, x10, x11]) [.l [.lsi ns, .int (.ofNat 0), .int (.ofNat c)]]) = true := by
  have h0 := hdr ns c 9 (by decide)
  refine stp (s := match c_rest.post 14 with | .cons s _ => s | .nil => .pas) (r := c_rest.post 15) (sl' := none :: some (.loc 0) :: [x2, x3, x4, x5, x6, x7, x8, some (.int (dr ns c 9)), x10, x11]) (h' := [.l [.lsi ns, .int (.ofNat 0), .int (.ofNat (c + 1))]]) (by kernel_rfl) ?_
  generalize dr ns c 9 = v at h0
  obtain ⟨h1, h2⟩ := h0
  have : v = 0 ∨ v = 1 ∨ v = 2 ∨ v = 3 ∨ v = 4 ∨ v = 5 ∨ v = 6 ∨ v = 7 ∨ v = 8 := by omega
  rcases this with rfl | rfl | rfl | rfl | rfl | rfl | rfl | rfl | rfl
  · exact tail_0 dr ns (c + 1) x2 x3 x4 x5 x6 x7 x8 x9 x10 x11
  · exact tail_1 dr ns (c + 1) x2 x3 x4 x5 x6 x7 x8 x9 x10 x11
  · exact tail_2 dr ns (c + 1) x2 x3 x4 x5 x6 x7 x8 x9 x10 x11
  · exact tail_3 dr ns (c + 1) x2 x3 x4 x5 x6 x7 x8 x9 x10 x11
  · exact tail_4 dr ns (c + 1) x2 x3 x4 x5 x6 x7 x8 x9 x10 x11
  · exact tail_5 dr ns (c + 1) x2 x3 x4 x5 x6 x7 x8 x9 x10 x11
  · exact tail_6 dr ns (c + 1) x2 x3 x4 x5 x6 x7 x8 x9 x10 x11
  · exact tail_7 dr ns (c + 1) x2 x3 x4 x5 x6 x7 x8 x9 x10 x11
  · exact tail_8 dr ns (c + 1) x2 x3 x4 x5 x6 x7 x8 x9 x10 x11
theorem head_0_0 (dr : Dr) (ns : List Int) : nxB (hdP 10) (((c_rest.post 1).pre 13).den (G dr) (none :: some (.loc 0) :: some (.int (1 + 0)) :: some (.int (1 + 0)) :: List.replicate 8 none) [.l [.lsi ns, .int 0, .int 2]]) = true := by kernel_rfl
theorem head_0_1 (dr : Dr) (ns : List Int) : nxB (hdP 10) (((c_rest.post 1).pre 13).den (G dr) (none :: some (.loc 0) :: some (.int (1 + 0)) :: some (.int (1 + 1)) :: List.replicate 8 none) [.l [.lsi ns, .int 0, .int 2]]) = true := by kernel_rfl
theorem head_0_2 (dr : Dr) (ns : List Int) : nxB (hdP 10) (((c_rest.post 1).pre 13).den (G dr) (none :: some (.loc 0) :: some (.int (1 + 0)) :: some (.int (1 + 2)) :: List.replicate 8 none) [.l [.lsi ns, .int 0, .int 2]]) = true := by kernel_rfl
theorem head_0_3 (dr : Dr) (ns : List Int) : nxB (hdP 10) (((c_rest.post 1).pre 13).den (G dr) (none :: some (.loc 0) :: some (.int (1 + 0)) :: some (.int (1 + 3)) :: List.replicate 8 none) [.l [.lsi ns, .int 0, .int 2]]) = true := by kernel_rfl
theorem head_0_4 (dr : Dr) (ns : List Int) : nxB (hdP 10) (((c_rest.post 1).pre 13).den (G dr) (none :: some (.loc 0) :: some (.int (1 + 0)) :: some (.int (1 + 4)) :: List.replicate 8 none) [.l [.lsi ns, .int 0, .int 2]]) = true := by kernel_rfl
theorem head_0_5 (dr : Dr) (ns : List Int) : nxB (hdP 10) (((c_rest.post 1).pre 13).den (G dr) (none :: some (.loc 0) :: some (.int (1 + 0)) :: some (.int (1 + 5)) :: List.replicate 8 none) [.l [.lsi ns, .int 0, .int 2]]) = true := by kernel_rfl
theorem head_1_0 (dr : Dr) (ns : List Int) : nxB (hdP 10) (((c_rest.post 1).pre 13).den (G dr) (none :: some (.loc 0) :: some (.int (1 + 1)) :: some (.int (1 + 0)) :: List.replicate 8 none) [.l [.lsi ns, .int 0, .int 2]]) = true := by kernel_rfl
theorem head_1_1 (dr : Dr) (ns : List Int) : nxB (hdP 10) (((c_rest.post 1).pre 13).den (G dr) (none :: some (.loc 0) :: some (.int (1 + 1)) :: some (.int (1 + 1)) :: List.replicate 8 none) [.l [.lsi ns, .int 0, .int 2]]) = true := by kernel_rfl
theorem head_1_2 (dr : Dr) (ns : List Int) : nxB (hdP 10) (((c_rest.post 1).pre 13).den (G dr) (none :: some (.loc 0) :: some (.int (1 + 1)) :: some (.int (1 + 2)) :: List.replicate 8 none) [.l [.lsi ns, .int 0, .int 2]]) = true := by kernel_rfl
theorem head_1_3 (dr : Dr) (ns : List Int) : nxB (hdP 10) (((c_rest.post 1).pre 13).den (G dr) (none :: some (.loc 0) :: some (.int (1 + 1)) :: some (.int (1 + 3)) :: List.replicate 8 none) [.l [.lsi ns, .int 0, .int 2]]) = true := by kernel_rfl
theorem head_1_4 (dr : Dr) (ns : List Int) : nxB (hdP 10) (((c_rest.post 1).pre 13).den (G dr) (none :: some (.loc 0) :: some (.int (1 + 1)) :: some (.int (1 + 4)) :: List.replicate 8 none) [.l [.lsi ns, .int 0, .int 2]]) = true := by kernel_rfl
theorem head_1_5 (dr : Dr) (ns : List Int) : nxB (hdP 10) (((c_rest.post 1).pre 13).den (G dr) (none :: some (.loc 0) :: some (.int (1 + 1)) :: some (.int (1 + 5)) :: List.replicate 8 none) [.l [.lsi ns, .int 0, .int 2]]) = true := by kernel_rfl
theorem head_2_0 (dr : Dr) (ns : List Int) : nxB (hdP 10) (((c_rest.post 1).pre 13).den (G dr) (none :: some (.loc 0) :: some (.int (1 + 2)) :: some (.int (1 + 0)) :: List.replicate 8 none) [.l [.lsi ns, .int 0, .int 2]]) = true := by kernel_rfl
theorem head_2_1 (dr : Dr) (ns : List Int) : nxB (hdP 10) (((c_rest.post 1).pre 13).den (G dr) (none :: some (.loc 0) :: some (.int (1 + 2)) :: some (.int (1 + 1)) :: List.replicate 8 none) [.l [.lsi ns, .int 0, .int 2]]) = true := by kernel_rfl
theorem head_2_2 (dr : Dr) (ns : List Int) : nxB (hdP 10) (((c_rest.post 1).pre 13).den (G dr) (none :: some (.loc 0) :: some (.int (1 + 2)) :: some (.int (1 + 2)) :: List.replicate 8 none) [.l [.lsi ns, .int 0, .int 2]]) = true := by kernel_rfl
theorem head_2_3 (dr : Dr) (ns : List Int) : nxB (hdP 10) (((c_rest.post 1).pre 13).den (G dr) (none :: some (.loc 0) :: some (.int (1 + 2)) :: some (.int (1 + 3)) :: List.replicate 8 none) [.l [.lsi ns, .int 0, .int 2]]) = true := by kernel_rfl
theorem head_2_4 (dr : Dr) (ns : List Int) : nxB (hdP 10) (((c_rest.post 1).pre 13).den (G dr) (none :: some (.loc 0) :: some (.int (1 + 2)) :: some (.int (1 + 4)) :: List.replicate 8 none) [.l [.lsi ns, .int 0, .int 2]]) = true := by kernel_rfl
theorem head_2_5 (dr : Dr) (ns : List Int) : nxB (hdP 10) (((c_rest.post 1).pre 13).den (G dr) (none :: some (.loc 0) :: some (.int (1 + 2)) :: some (.int (1 + 5)) :: List.replicate 8 none) [.l [.lsi ns, .int 0, .int 2]]) = true := by kernel_rfl
theorem rest (dr : Dr) (hdr : Dr.ok dr) (ns : List Int) (sl : Sl) (h : Hy) (e : nxB (hdP 10) (((c_rest.post 1).pre 13).den (G dr) sl h) = true) : isT ((c_rest.post 1).den (G dr) sl h) = true := by
  refine cut_at _ 13 _ _ _ e fun sl' h' p => ?_
  obtain ⟨r, ms, c, hl, rfl, rfl⟩ := hdP_of p
  match r, hl with
  | [x2, x3, x4, x5, x6, x7, x8, x9, x10, x11], _ => exact tail dr ms c x2 x3 x4 x5 x6 x7 x8 x9 x10 x11 hdr
theorem plain (dr : Dr) (hdr : Dr.ok dr) (ns : List Int) : isT (c_rest.den (G dr) (Law.sl 10) (Law.hy ns)) = true := by
  have h0 := hdr ns 0 3 (by decide)
  have h1 := hdr ns 1 6 (by decide)
  refine stp (s := match c_rest with | .cons s _ => s | .nil => .pas) (r := c_rest.post 1) (sl' := none :: some (.loc 0) :: some (.int (1 + dr ns 0 3)) :: some (.int (1 + dr ns 1 6)) :: List.replicate 8 none) (h' := [.l [.lsi ns, .int 0, .int 2]]) (by kernel_rfl) ?_
  generalize dr ns 0 3 = a at h0
  generalize dr ns 1 6 = b at h1
  obtain ⟨h2, h3⟩ := h0
  obtain ⟨h4, h5⟩ := h1
  have ha : a = 0 ∨ a = 1 ∨ a = 2 := by omega
  have hb : b = 0 ∨ b = 1 ∨ b = 2 ∨ b = 3 ∨ b = 4 ∨ b = 5 := by omega
  rcases ha with rfl | rfl | rfl <;> rcases hb with rfl | rfl | rfl | rfl | rfl | rfl
  · exact rest dr hdr ns _ _ (head_0_0 dr ns)
  · exact rest dr hdr ns _ _ (head_0_1 dr ns)
  · exact rest dr hdr ns _ _ (head_0_2 dr ns)
  · exact rest dr hdr ns _ _ (head_0_3 dr ns)
  · exact rest dr hdr ns _ _ (head_0_4 dr ns)
  · exact rest dr hdr ns _ _ (head_0_5 dr ns)
  · exact rest dr hdr ns _ _ (head_1_0 dr ns)
  · exact rest dr hdr ns _ _ (head_1_1 dr ns)
  · exact rest dr hdr ns _ _ (head_1_2 dr ns)
  · exact rest dr hdr ns _ _ (head_1_3 dr ns)
  · exact rest dr hdr ns _ _ (head_1_4 dr ns)
  · exact rest dr hdr ns _ _ (head_1_5 dr ns)
  · exact rest dr hdr ns _ _ (head_2_0 dr ns)
  · exact rest dr hdr ns _ _ (head_2_1 dr ns)
  · exact rest dr hdr ns _ _ (head_2_2 dr ns)
  · exact rest dr hdr ns _ _ (head_2_3 dr ns)
  · exact rest dr hdr ns _ _ (head_2_4 dr ns)
  · exact rest dr hdr ns _ _ (head_2_5 dr ns)
theorem law_says (ns : List Int) (_ : ns.length ≤ 63) : Law.says (ga codes 12) c_rest 10 ns :=
  isT_le (Ss.den_le (gaO_le (ovD_le (codes := codes) (c := 24) (d := 25) (n := 26) (x := 27) rfl rfl rfl rfl) 9) _ _ c_rest) (plain nextV nextV_ok ns)
end D_k78

end
section
set_option Elab.async false
set_option linter.all false
set_option maxRecDepth 100000
set_option maxHeartbeats 0
namespace D_k78
open PySem PySem.Spec PyProof.Rows L2 Z
theorem facts {P : Program} {w : World} {K : PySem.W.Frag} {h : Heap} {mg : Str → Option Value} {f : Addr} (X : K.In h) (G : h.Ns mainGlobals mg) (hfa : mg ("law" : Str) = some (.ref f)) (c : He.SaysD fa fn K) :
    ∃ fd : FuncData, (∀ (s : Shared) (v : Value), BindsTo s fd ⟨[v], []⟩ [("script", v)]) ∧ ∀ base : Heap, K.In base → base.Ns mainGlobals mg → FnOk P w K mg base CX0 13 f fd ["script"] (spLaw K) :=
  law_end (k := 10) (rest := c_rest) (s0 := (defBody t_l.st).headD (.Pass ⟨0, 0, 0, 0⟩)) (sts := (defBody t_l.st).tail) X G hfa c bs ck rfl rfl b_l (by decide +kernel) rfl rfl rfl (by decide +kernel) (by decide +kernel) (by rfl) (by decide +kernel) ckl law_says
end D_k78
open PySem PySem.W PySem.Calls PyProof.Rows
theorem PySem.Challenge.cw_chainsback_k78_new_shapes_holds : PySem.Challenge.rw_chainsback_k78_new_shapes.Holds := by
  w_on; o_law
  refine HandSHeadRun.head_any (r := OpenLaw.row PySem.Challenge.rw_chainsback_k78_new_shapes) (q := view (OpenLaw.row PySem.Challenge.rw_chainsback_k78_new_shapes).prog [44]) (H := D_k78.hk) (ob := D_k78.ob) (M := 4000) (loose := D_k78.loose) (d := HandSHeadRun.topDef (OpenLaw.row PySem.Challenge.rw_chainsback_k78_new_shapes).prog 44) (kwd := []) D_k78.ob_eq
    (by kernel_rfl) (fun s => by kernel_rfl) D_k78.run (by kernel_rfl) (by kernel_rfl) (by kernel_rfl) (by rfl) (by first | assumption | decide +kernel) (by decide +kernel) ⟨rfl, rfl, rfl, rfl, rfl, by decide +kernel⟩ ?hw ?hc
  case hw => w_witness2
  case hc =>
    refine L2.walk_ofE (l := PySem.Challenge.rw_chainsback_k78_new_shapes) (n := 63) (k := 13) (x := "script") (CX := L2.CX0) rfl (by decide) (by kernel_rfl) ⟨rfl, by decide, by decide⟩ ?F (fun _ _ _ _ z => z)
    intro w mg fa h Y G hmg0
    obtain ⟨K, KX, c⟩ := Y
    have hmg : mg ("law" : PySem.Str) = some (.ref fa) := by
      have e : (HandSHeadRun.topDef (OpenLaw.row PySem.Challenge.rw_chainsback_k78_new_shapes).prog 44).name = ("law" : PySem.Str) := by kernel_rfl
      rw [← e]
      exact hmg0
    obtain ⟨fd, hb, hF⟩ := D_k78.facts (P := (PySem.Challenge.rw_chainsback_k78_new_shapes).prog) (w := w) KX G hmg c
    exact ⟨K, fd, Z.spLaw K, KX, hb, fun H a ns hl _ hS => ⟨a, ns, rfl, hS, hl, fun _ => rfl⟩, hF⟩
end
