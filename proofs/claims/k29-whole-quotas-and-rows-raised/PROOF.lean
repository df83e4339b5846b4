import PyProof.Rows.All
import HandS.ForMost
import HandS.Deep
import HandS.Wide
import HandS.More
import HandS.SortRule
import KE.KSortTupAny
import HandS.Style
import HandS.IsInst
import HandS.SortInts
import HandS.Flow
import KE.KDictZip
import HandS.Ends
import PyProof.EqLayable
import PyProof.ReprReads
import PyProof.FitsInt
import PySem.Challenge.RW_packedseats_k29_whole_quotas_and_rows_ra
set_option Elab.async false
set_option linter.all false
set_option maxRecDepth 100000
set_option maxRecDepth 100000
set_option maxHeartbeats 4000000
/-! rules of the model that the layer lacks: tuples times a number, an empty tuple plus a tuple -/
namespace HI
open PySem PySem.Spec PyProof.Rows L2
open AutoSeq1 (wpAny_loadPart')
theorem big_int {x : Int} (h0 : -(2 ^ 63) ≤ x) (h1 : x < 2 ^ 63) : ¬ ((decide (x < -(2 ^ 63)) || decide (x ≥ 2 ^ 63)) = true) := by
  simp; omega
theorem tmul_same (l : Addr) (items : Array Value) (n : Nat) (dd : Option Addr) (sl : Array (Option Value)) (x : Int) (u : Tok) (h0 : -(2 ^ 63) ≤ x) (h1 : x < 2 ^ 63) (hc : (items.isEmpty || x == 1) = true) :
    Meets (Builtin.«tuple.__mul__» ⟨[.ref l, .int x u], []⟩) (fun _ R s => s.heap.get? l = some { cls := .type "tuple", dict := dd, data := .seq items n, slots := sl } ∧ R (.ok (.ret (Value.ref l))) s) :=
  .of_wp fun prog w A R s h => by
    obtain ⟨hp, g, d, tk, os⟩ := s; obtain ⟨hl, h⟩ := h
    have f1 := AutoSeq1.idx_int; have f2 := AutoSeq1.sub_tuple_tuple
    have hT : Shared.TypeIs ⟨hp, g, d, tk, os⟩ (.ref l) "tuple" := ⟨_, hl, rfl⟩
    unfold Builtin.«tuple.__mul__»
    wp_walk using wpAny_loadPart' hl, wpAny_typeOf hT
    rw [if_neg (big_int h0 h1)]
    wp_walk using wpAny_loadPart' hl, wpAny_typeOf hT
    exact ⟨_, rfl, h⟩
theorem tmul_new (l : Addr) (items : Array Value) (n : Nat) (dd : Option Addr) (sl : Array (Option Value)) (x : Int) (u : Tok) (h0 : -(2 ^ 63) ≤ x) (h1 : x < 2 ^ 63) (hc : ¬ (items.isEmpty || x == 1) = true)
    (hz : items.size * x.toNat ≤ sizeLine) :
    Meets (Builtin.«tuple.__mul__» ⟨[.ref l, .int x u], []⟩) (fun _ R s => s.heap.get? l = some { cls := .type "tuple", dict := dd, data := .seq items n, slots := sl } ∧
      R (.ok (.ret (Value.ref s.heap.objs.size))) { s with heap := s.heap.push { cls := .type "tuple", data := .seq (List.foldl (fun x1 x2 => x1 ++ x2) #[] (List.replicate x.toNat items)) } }) :=
  .of_wp fun prog w A R s h => by
    obtain ⟨hp, g, d, tk, os⟩ := s; obtain ⟨hl, h⟩ := h
    have f1 := AutoSeq1.idx_int; have f2 := AutoSeq1.sub_tuple_tuple
    have hT : Shared.TypeIs ⟨hp, g, d, tk, os⟩ (.ref l) "tuple" := ⟨_, hl, rfl⟩
    have hsz : (List.foldl (fun x1 x2 => x1 ++ x2) #[] (List.replicate x.toNat items)).size ≤ sizeLine := by
      rw [AutoSeq1.size_joined]
      simp only [Array.size_empty, Nat.zero_add]
      rw [Nat.mul_comm]; exact hz
    unfold Builtin.«tuple.__mul__»
    wp_walk using wpAny_loadPart' hl, wpAny_typeOf hT
    rw [if_neg (big_int h0 h1)]
    wp_walk using wpAny_loadPart' hl, wpAny_typeOf hT
    by_cases hx : x ≤ 0
    · have e0 : x.toNat = 0 := by omega
      rw [if_pos (by simp [hx])]
      rw [e0] at h
      wp_walk
      exact ⟨_, rfl, h⟩
    · have hi : items.isEmpty = false := by
        cases q : items.isEmpty with
        | false => rfl
        | true => exact absurd (by simp [q]) hc
      rw [if_neg (by simp [hx, hi])]
      have hb : (items.size : Int) * x = ((items.size * x.toNat : Nat) : Int) := by
        have : x = (x.toNat : Int) := by omega
        rw [Int.natCast_mul, ← this]
      rw [sizeLine_eq] at hz
      have b1 : ¬ (items.size : Int) * x > (2 ^ 63 - 1) / 8 := by
        rw [hb]
        generalize items.size * x.toNat = z at hz
        omega
      have b2 : ¬ Builtin.Tuple.tupleTooMany ((items.size : Int) * x) = true := by
        unfold Builtin.Tuple.tupleTooMany
        rw [hb, sizeLine_eq]
        generalize items.size * x.toNat = z at hz
        simp; omega
      wp_walk using wpAny_loadPart' hl, wpAny_typeOf hT
      rw [if_neg b1]
      wp_walk using wpAny_loadPart' hl
      rw [if_neg b2]
      wp_walk using wpAny_loadPart' hl
      first
        | exact ⟨_, rfl, h⟩
        | (refine wpAny_ite_false (decide_eq_false (Nat.not_lt.mpr hsz)) ?_
           wp_walk
           exact ⟨_, rfl, h⟩)

theorem noFill_tuple_mul : fillsNumberSlot (.type "tuple") "mul" = pure false :=
  PySem.fillsNumberSlot_seq (id := "tuple.__mul__") (r := some (.builtin "tuple.__rmul__")) F.slot_tuple_mul.lookup (by decide +kernel) F.slot_tuple_rmul.lookup (by decide +kernel)
theorem repeat_tuple : seqRepeat? (.type "tuple") = pure (some (.builtin "tuple.__mul__")) := by
  unfold seqRepeat?
  rw [PySem.seqSlot_of (T := "tuple") (name := "__mul__") (id := "tuple.__mul__") F.slot_tuple_mul.lookup (by decide +kernel),
    PySem.seqSlot_of (T := "tuple") (name := "__rmul__") (id := "tuple.__rmul__") F.slot_tuple_rmul.lookup (by decide +kernel)]
  rfl
theorem int_rmul_tuple (a : Int) (t : Tok) (l : Addr) (items : Array Value) (n : Nat) (dd : Option Addr) (sl : Array (Option Value)) :
    Meets (Builtin.«int.__rmul__» ⟨[.int a t, .ref l], []⟩) (fun _ R s => s.heap.get? l = some { cls := .type "tuple", dict := dd, data := .seq items n, slots := sl } ∧ R (.ok (.ret Value.notImplemented)) s) :=
  .of_wp fun prog w A R s h => by obtain ⟨hp, g, d, tk, os⟩ := s; obtain ⟨hl, h⟩ := h; wp_walk; exact ⟨_, rfl, h⟩

section
variable {X : Cx}
/-- t * k -/
theorem op_repT : OpR X (binaryOp .Mult) (fun x y H Q => ∃ l k xs, x = .ref l ∧ y = .int k ∧ SqT X.K H l xs ∧ -(2 ^ 63) ≤ k ∧ k < 2 ^ 63 ∧ xs.length * k.toNat ≤ sizeLine ∧
    (xs = [] ∨ k = 1 → Q (.ref l) H) ∧ (¬ (xs = [] ∨ k = 1) → ∀ p, H p = none → Q (.ref p) (upd H p (.tup (List.replicate k.toNat xs).flatten)))) := by
  intro pins s σ H x y v u Q I rx ry h
  obtain ⟨l, k, xs, rfl, rfl, hS, h1, h2, hz, qa, qb⟩ := h
  cases rx
  obtain ⟨t, rfl⟩ := ry
  obtain ⟨its, r, ht, hzl⟩ := I.tuple hS
  obtain ⟨⟨cls, dd, data, sl⟩, ho, hc, n, hd⟩ := id ht
  simp only at hc hd
  subst hc hd
  have hlen : its.toArray.size * k.toNat ≤ sizeLine := by rw [List.size_toArray, ← r.length]; exact hz
  have emp : its.toArray.isEmpty = true ↔ xs = [] := by
    cases r with
    | nil => simp
    | cons _ _ => simp
  refine wpAny_binaryOp_repeat_ref (T := "tuple") (U := "int") (by decide) ⟨_, ho, rfl⟩ (fun s' => typeIs_int s' k t) noFill_tuple_mul F.fills_int_mul F.slot_int_rmul repeat_tuple F.slot_int_index.lookup
    (call_meets F.slot_int_rmul (typeIs_int s k t) F.entry_int_rmul (F.args_int_rmul_2 _ _) (int_rmul_tuple k t l its.toArray n dd sl) ⟨ho, rfl, ⟨_, ho, rfl⟩, ?_⟩)
  by_cases hx : xs = [] ∨ k = 1
  · refine call_meets F.slot_tuple_mul ⟨_, ho, rfl⟩ F.entry_tuple_mul (F.args_tuple_mul_2 _ _) (tmul_same l its.toArray n dd sl k t h1 h2 ?_) ⟨ho, ?_⟩
    · rcases hx with z | z
      · rw [emp.mpr z]; rfl
      · subst z; simp
    · exact ⟨.ref l, H, I, rfl, qa hx⟩
  · refine call_meets F.slot_tuple_mul ⟨_, ho, rfl⟩ F.entry_tuple_mul (F.args_tuple_mul_2 _ _) (tmul_new l its.toArray n dd sl k t h1 h2 ?_ hlen) ⟨ho, ?_⟩
    · intro z
      rw [Bool.or_eq_true] at z
      rcases z with z | z
      · exact hx (.inl (emp.mp z))
      · exact hx (.inr (by simpa using z))
    · have e := foldl_rep its k.toNat []
      rw [List.nil_append] at e
      rw [show (#[] : Array Value) = ([] : List Value).toArray from rfl, e]
      refine ⟨.ref s.heap.objs.size, _, I.laid (t' := s.toks) (o := .tup (List.replicate k.toNat xs).flatten) (fun b ob q => Heap.get?_push_of_some _ q) (Nat.le_refl _) ?_, rfl, qb hx _ (I.hok.fresh (Nat.le_refl _))⟩
      exact ⟨by rw [PyProof.Rows.lm_len_rep_flat, Nat.mul_comm]; exact hz, _, r.rep k.toNat, IsTup.new _ _⟩
/-- () + u -/
theorem tadd_empty (l b : Addr) (items items2 : Array Value) (n n2 : Nat) (dd dd2 : Option Addr) (sl sl2 : Array (Option Value)) (hc : items.isEmpty = true) :
    Meets (Builtin.«tuple.__add__» ⟨[.ref l, .ref b], []⟩) (fun _ R s => s.heap.get? l = some { cls := .type "tuple", dict := dd, data := .seq items n, slots := sl } ∧
      s.heap.get? b = some { cls := .type "tuple", dict := dd2, data := .seq items2 n2, slots := sl2 } ∧ R (.ok (.ret (Value.ref b))) s) :=
  .of_wp fun prog w A R s h => by
    obtain ⟨hp, g, d, tk, os⟩ := s; obtain ⟨hl, hb, h⟩ := h
    have f2 := AutoSeq1.sub_tuple_tuple
    have hT : Shared.TypeIs ⟨hp, g, d, tk, os⟩ (.ref b) "tuple" := ⟨_, hb, rfl⟩
    wp_walk using wpAny_loadPart' hl, wpAny_loadPart' hb, wpAny_typeOf hT
    exact ⟨_, rfl, h⟩
theorem op_catT0 : OpR X (binaryOp .Add) (fun x y H Q => ∃ a b ys, x = .ref a ∧ y = .ref b ∧ SqT X.K H a [] ∧ SqT X.K H b ys ∧ Q (.ref b) H) := by
  intro pins s σ H x y v u Q I rx ry h
  obtain ⟨a, b, ys, rfl, rfl, ha, hb, q⟩ := h
  cases rx
  cases ry
  obtain ⟨its, r1, p1, _⟩ := I.tuple ha
  obtain ⟨its2, r2, p2, _⟩ := I.tuple hb
  cases r1
  obtain ⟨⟨cls, dd, data, sl⟩, ho, hc, n, hd⟩ := id p1
  obtain ⟨⟨cls2, dd2, data2, sl2⟩, ho2, hc2, n2, hd2⟩ := id p2
  simp only at hc hd hc2 hd2
  subst hc hd hc2 hd2
  exact concat_meets ⟨_, ho, rfl⟩ ⟨_, ho2, rfl⟩ noFill_tuple_add seq_tuple_add PySem.F.slot_tuple_add PySem.F.entry_tuple_add (PySem.F.args_tuple_add_2 _ _)
    (tadd_empty a b _ _ n n2 dd dd2 sl sl2 rfl) ⟨ho, ho2, ⟨.ref b, H, I, rfl, q⟩⟩
end
end HI

/-! the small language: its terms, and what they do over a list of objects -/
namespace HI
open PySem L2

inductive Op2 | add | sub | mul | fdiv | mod | pow | shl | shr | band | eq | ne | lt | le | gt | ge | is_ | isnot | in_ | notin
  deriving DecidableEq, Repr

inductive Ob
  | lst (xs : List V) | rol (xs : List V) | tup (xs : List V) | ktup (xs : List V)
  | ins (c : Nat) (fs : List (Str × V))
  | glb (x : Str)
  deriving DecidableEq

abbrev Hh := List Ob
abbrev Ev := List (Option V)
/-- what a step comes to: a value, or an error of the program's own that flies -/
inductive Rs (α : Type) | ok (a : α) | ex (c : Nat) (fs : List (Str × V))
abbrev Mo (α : Type) := Hh → Option (Rs α × Hh)
def rt {α : Type} (a : α) : Mo α := fun h => some (.ok a, h)
def bd {α β : Type} (m : Mo α) (f : α → Mo β) : Mo β := fun h => match m h with
  | some (.ok a, h1) => f a h1
  | some (.ex c fs, h1) => some (.ex c fs, h1)
  | none => none
def no {α : Type} : Mo α := fun _ => none
def opt {α : Type} (o : Option α) : Mo α := fun h => o.map fun a => (.ok a, h)
def look {α : Type} (f : Hh → Option α) : Mo α := fun h => (f h).map fun a => (.ok a, h)

/-- a new object -/
def alloc (o : Ob) : Mo V := fun h => some (.ok (.ref h.length), h ++ [o])
/-- the items of a list, of a tuple -/
def seqL (h : Hh) (a : Nat) : Option (List V) := match h[a]? with | some (.lst xs) => some xs | some (.rol xs) => some xs | _ => none
def seqT (h : Hh) (a : Nat) : Option (List V) := match h[a]? with | some (.tup xs) => some xs | some (.ktup xs) => some xs | _ => none
def lstAt (h : Hh) (a : Nat) : Option (List V) := match h[a]? with | some (.lst xs) => some xs | _ => none

/-- the data that stand at a value, to a depth -/
def rd (h : Hh) : Nat → V → Option PyData
  | 0, _ => none
  | n + 1, v => match v with
    | .non => some .none
    | .bl b => some (.bool b)
    | .int i => some (.int i)
    | .str s => some (.str s)
    | .ref a => match seqL h a with
      | some xs => (xs.mapM (rd h n)).map .list
      | none => match seqT h a with
        | some xs => (xs.mapM (rd h n)).map .tuple
        | none => none
    | _ => none
def rdS (h : Hh) (v : V) : Option PyData := match rd h 66 v with
  | some d => if SeqAt.shaped d = true then some d else none
  | none => none

def truth (h : Hh) : V → Option Bool
  | .non => some false
  | .bl b => some b
  | .int i => some (i != 0)
  | .str y => if y.length ≤ sizeLine then some ((y.length : Int) != 0) else none
  | .ref a => match seqL h a with
    | some xs => some (!xs.isEmpty)
    | none => match seqT h a with
      | some xs => some (!xs.isEmpty)
      | none => none
  | _ => none

def intOp (o : Op2) (i j : Int) : Option V := match o with
  | .add => some (.int (i + j))
  | .sub => some (.int (i - j))
  | .mul => if i.natAbs.log2 + j.natAbs.log2 < 1000000 then some (.int (i * j)) else none
  | .fdiv => if 0 < j ∧ j.natAbs.log2 < 9000 then some (.int (i / j)) else none
  | .mod => if 0 < j then some (.int (i % j)) else none
  | .pow => if 0 ≤ j ∧ j ≤ 1000000 ∧ i.natAbs < 2 ^ 64 then some (.int (i ^ j.toNat)) else none
  | .shl => if 0 ≤ j ∧ j ≤ 1000000 ∧ i.natAbs < 2 ^ 64 then some (.int (i * 2 ^ j.toNat)) else none
  | .shr => if 0 ≤ j then some (.int (i / 2 ^ j.toNat)) else none
  | .band => some (.int (Builtin.bitAnd i j))
  | .lt => some (.bl (decide (i < j)))
  | .le => some (.bl (decide (i ≤ j)))
  | .gt => some (.bl (decide (j < i)))
  | .ge => some (.bl (decide (j ≤ i)))
  | _ => none

/-- == by data -/
def eqD (h : Hh) (x y : V) : Option Bool := match rdS h x, rdS h y with
  | some d, some e => some (PyData.eqv d e)
  | _, _ => none
def eqS : V → V → Option Bool
  | .str s, .str t => some (decide (V.str s = V.str t))
  | _, _ => none
def eqO (h : Hh) (x y : V) : Option Bool := match eqS x y with
  | some b => some b
  | none => eqD h x y
def inD (h : Hh) (x y : V) : Option Bool := match rdS h x, rdS h y with
  | some d, some (.list es) => some (es.any fun z => PyData.eqv z d)
  | _, _ => none

def catT (a b : Nat) (xs ys : List V) : Mo V :=
  if xs = [] then rt (.ref b) else if ys = [] then rt (.ref a) else
  if xs.length + ys.length ≤ sizeLine then alloc (.tup (xs ++ ys)) else no

/-- the sum of two things -/
def addO (x y : V) : Mo V := match x, y with
  | .int i, .int j => rt (.int (i + j))
  | .str s, .str t => if s.length + t.length ≤ sizeLine then rt (.str (s ++ t)) else no
  | .ref a, .ref b => fun h => match lstAt h a, lstAt h b with
    | some xs, some ys => if xs.length + ys.length ≤ sizeLine then alloc (.lst (xs ++ ys)) h else none
    | _, _ => match seqT h a, seqT h b with
      | some xs, some ys => catT a b xs ys h
      | _, _ => none
  | _, _ => no
def mulO (x y : V) : Mo V := match x, y with
  | .int i, .int j => opt (intOp .mul i j)
  | .ref a, .int k => if -(2 ^ 63) ≤ k ∧ k < 2 ^ 63 then fun h => match lstAt h a with
      | some xs => if xs.length * k.toNat ≤ sizeLine then alloc (.lst (List.replicate k.toNat xs).flatten) h else none
      | none => match seqT h a with
        | some xs => if xs.length * k.toNat ≤ sizeLine then (if xs = [] ∨ k = 1 then rt (.ref a) h else alloc (.tup (List.replicate k.toNat xs).flatten) h) else none
        | none => none
    else no
  | _, _ => no
def intO (o : Op2) (x y : V) : Mo V := match x, y with
  | .int i, .int j => opt (intOp o i j)
  | _, _ => no

/-- is, of None and of truth values -/
def isO2 (x y : V) : Option Bool := match y with
  | .non => some (decide (x = .non))
  | .bl b => match x with
    | .bl a => some (decide (a = b))
    | _ => none
  | _ => none
/-- a two-place operation -/
def op2 (o : Op2) (x y : V) : Mo V := match o with
  | .eq => look fun h => (eqO h x y).map V.bl
  | .ne => look fun h => (eqO h x y).map fun b => .bl !b
  | .in_ => look fun h => (inD h x y).map V.bl
  | .notin => look fun h => (inD h x y).map fun b => .bl !b
  | .is_ => opt ((isO2 x y).map V.bl)
  | .isnot => opt ((isO2 x y).map fun b => V.bl !b)
  | .add => addO x y
  | .mul => mulO x y
  | o => intO o x y

/-- x[i] -/
def index (x i : V) : Mo V := match x, i with
  | .ref a, .int k => look fun h => match seqL h a with
    | some xs => atI xs k
    | none => match seqT h a with
      | some xs => atI xs k
      | none => none
  | .str z, .int k => if z.length ≤ sizeLine then opt ((atI z.cps.toList k).map fun c => .str ⟨#[c]⟩) else no
  | _, _ => no
def indexL (x i : V) : Mo V := match x, i with
  | .ref a, .int k => look fun h => match seqL h a with
    | some xs => atI xs k
    | none => none
  | _, _ => no
def partI : V → Option (Option Int)
  | .non => some none
  | .int i => some (some i)
  | _ => none
/-- x[lo:hi] -/
def slice (x : V) (lo hi : Option Int) : Mo V := match x with
  | .ref a => fun h => match seqL h a with
    | some xs => alloc (.lst (cutV xs lo hi)) h
    | none => match seqT h a with
      | some xs => if HT.sIx xs.length 0 lo = 0 ∧ HT.sIx xs.length xs.length hi = xs.length then none else alloc (.tup (cutV xs lo hi)) h
      | none => none
  | _ => no

def setAt (x i v : V) : Mo Unit := match x, i with
  | .ref a, .int k => fun h => match lstAt h a with
    | some xs => (ixN xs.length k).map fun j => (.ok (), h.set a (.lst (xs.set j v)))
    | none => none
  | _, _ => no

/-- the built-in functions -/
def lenO (x : V) : Mo V := match x with
  | .ref a => look fun h => match seqL h a with
    | some xs => some (.int xs.length)
    | none => match seqT h a with
      | some xs => some (.int xs.length)
      | none => none
  | .str z => if z.length ≤ sizeLine then rt (.int z.length) else no
  | _ => no
def tupleO (x : V) : Mo V := match x with
  | .ref a => fun h => match seqL h a with
    | some xs => alloc (.tup xs) h
    | none => match seqT h a with
      | some xs => rt (.ref a) h
      | none => none
  | _ => no
def listO (x : V) : Mo V := match x with
  | .ref a => fun h => match seqL h a with
    | some xs => alloc (.lst xs) h
    | none => match seqT h a with
      | some xs => alloc (.lst xs) h
      | none => none
  | _ => no
def reprO (x : V) : Mo V := look fun h => match rdS h x with
  | some d => if d.showable = true ∧ d.hasDict = false ∧ d.shown.length ≤ sizeLine then some (.str d.shown) else none
  | none => none
def absO (x : V) : Mo V := match x with
  | .int i => rt (.int (if i < 0 then -i else i))
  | _ => no
def intC (x : V) : Mo V := match x with
  | .int i => rt (.int i)
  | .bl b => rt (.int (if b then 1 else 0))
  | _ => no
/-- sorted: ints; tuples of ints and texts -/
def ins {α : Type} (lt : α → α → Bool) (x : α) : List α → List α
  | [] => [x]
  | y :: r => if lt y x then y :: ins lt x r else x :: y :: r
def isort {α : Type} (lt : α → α → Bool) : List α → List α
  | [] => []
  | x :: r => ins lt x (isort lt r)
abbrev Kit := Int ⊕ List Nat
def kItems (shape : Nat → Bool) : Nat → List V → Option (List Kit)
  | _, [] => some []
  | i, .int n :: r => if shape i = true then none else (kItems shape (i + 1) r).map (Sum.inl n :: ·)
  | i, .str x :: r => if shape i = true then (kItems shape (i + 1) r).map (Sum.inr x.cps.toList :: ·) else none
  | _, _ :: _ => none
def shapeOf (k : List V) (i : Nat) : Bool := match k[i]? with | some (.str _) => true | _ => false
def keyV (h : Hh) (shape : Nat → Bool) : V → Option (List Kit)
  | .ref a => match seqT h a with
    | some xs => kItems shape 0 xs
    | none => none
  | _ => none
def ltK (h : Hh) (shape : Nat → Bool) (u v : V) : Bool := PyProof.Rows.lexLt PyProof.Rows.itemOrd ((keyV h shape u).getD []) ((keyV h shape v).getD [])
def ltI : V → V → Bool
  | .int i, .int j => decide (i < j)
  | _, _ => false
def isI : V → Bool
  | .int _ => true
  | _ => false
def hasK (h : Hh) (shape : Nat → Bool) (v : V) : Bool := match keyV h shape v with | some (_ :: _) => true | _ => false
def sortV (xs : List V) : Mo V := fun h => if xs.all isI = true then alloc (.lst (isort ltI xs)) h
      else match xs with
        | .ref b :: _ => match seqT h b with
          | some k => if xs.all (hasK h (shapeOf k)) = true then alloc (.lst (isort (ltK h (shapeOf k)) xs)) h else none
          | none => none
        | _ => none
def sortO (x : V) : Mo V := match x with
  | .ref a => fun h => match seqL h a with
    | some xs => sortV xs h
    | none => none
  | _ => no
/-- the pairs of two lists, sorted -/
def pairsO : List V → List V → Mo (List V)
  | x :: xs, y :: ys => bd (alloc (.tup [x, y])) fun t => bd (pairsO xs ys) fun r => rt (t :: r)
  | _, _ => rt []
def szO (x y : V) : Mo V := match x, y with
  | .ref a, .ref b => fun h => match seqL h a with
    | some xs => match seqL h b with
      | some ys => bd (pairsO xs ys) sortV h
      | none => none
    | none => none
  | _, _ => no
def boolsO (xs : List V) : Option (List Bool) := xs.mapM fun x => match x with | .bl b => some b | _ => none
def intsO (xs : List V) : Option (List Int) := xs.mapM fun x => match x with | .int i => some i | _ => none
def allO (x : V) : Mo V := match x with
  | .ref a => look fun h => (seqL h a).bind fun xs => (boolsO xs).map fun bs => .bl (bs.all id)
  | _ => no
def anyO (x : V) : Mo V := match x with
  | .ref a => look fun h => (seqL h a).bind fun xs => (boolsO xs).map fun bs => .bl (bs.any id)
  | _ => no
def sumO (x : V) : Mo V := match x with
  | .ref a => look fun h => (seqL h a).bind fun xs => (intsO xs).map fun ns => .int ns.sum
  | _ => no
def maxI : List Int → Option Int
  | [] => none
  | x :: r => match maxI r with | none => some x | some m => some (if x < m then m else x)
def minI : List Int → Option Int
  | [] => none
  | x :: r => match minI r with | none => some x | some m => some (if m < x then m else x)
def maxO (x : V) : Mo V := match x with
  | .ref a => look fun h => (seqL h a).bind fun xs => (intsO xs).bind fun ns => (maxI ns).map V.int
  | _ => no
def minO (x : V) : Mo V := match x with
  | .ref a => look fun h => (seqL h a).bind fun xs => (intsO xs).bind fun ns => (minI ns).map V.int
  | _ => no
def revO (x : V) : Mo V := match x with
  | .ref a => fun h => match seqL h a with
    | some xs => alloc (.lst xs.reverse) h
    | none => none
  | _ => no
/-- a thing's type -/
def tyO (h : Hh) : V → Option String
  | .non => some "NoneType"
  | .bl _ => some "bool"
  | .int _ => some "int"
  | .str _ => some "str"
  | .ref a => match seqL h a with
    | some _ => some "list"
    | none => match seqT h a with
      | some _ => some "tuple"
      | none => none
  | _ => none
/-- is a thing of this type one of that -/
def subTy (a b : String) : Bool := a == b || (a == "bool" && b == "int")
def isO (t : String) (x : V) : Mo V := look fun h => (tyO h x).map fun s => .bl (subTy s t)
def bfn (f : String) (vs : List V) : Mo V := match vs with
  | [x] => match f with
    | "len" => lenO x
    | "abs" => absO x
    | "int" => intC x
    | "tuple" => tupleO x
    | "list" => listO x
    | "repr" => reprO x
    | "sorted" => sortO x
    | "all" => allO x
    | "any" => anyO x
    | "sum" => sumO x
    | "max" => maxO x
    | "min" => minO x
    | "[::-1]" => revO x
    | "is int" => isO "int" x
    | "is bool" => isO "bool" x
    | "is list" => isO "list" x
    | "is tuple" => isO "tuple" x
    | "is str" => isO "str" x
    | _ => no
  | [.int i, .int j] => match f with
    | "max" => rt (.int (if j > i then j else i))
    | "min" => rt (.int (if j < i then j else i))
    | _ => no
  | [x, y] => match f with
    | "sortzip" => szO x y
    | _ => no
  | _ => no

/-- the methods of lists -/
def lmeth (m : String) (a : Nat) (vs : List V) : Mo V := fun h => match lstAt h a with
  | none => none
  | some xs => match m, vs with
    | "append", [y] => if xs.length < sizeLine then some (.ok .non, h.set a (.lst (xs ++ [y]))) else none
    | "insert", [.int i, y] => if xs.length < sizeLine ∧ 0 ≤ i ∧ i < 2 ^ 63 then some (.ok .non, h.set a (.lst (xs.take i.toNat ++ [y] ++ xs.drop i.toNat))) else none
    | "clear", [] => some (.ok .non, h.set a (.lst []))
    | "reverse", [] => some (.ok .non, h.set a (.lst xs.reverse))
    | _, _ => none

inductive Tg | nm (i : Nat) | tp (is : List Nat)
  deriving DecidableEq, Repr
def setAll : List Nat → List V → Ev → Option Ev
  | [], [], e => some e
  | i :: is, v :: vs, e => setAll is vs (e.set i (some v))
  | _, _, _ => none
def asg (t : Tg) (v : V) (e : Ev) (h : Hh) : Option Ev := match t with
  | .nm i => some (e.set i (some v))
  | .tp is => match v with
    | .ref a => match seqT h a with
      | some xs => setAll is xs e
      | none => none
    | _ => none

mutual
inductive Ex
  | slot (i : Nat)
  | cst (v : V)
  | glob (x : Str)
  | bin (o : Op2) (a b : Ex)
  | neg (a : Ex)
  | not (a : Ex)
  | and (a b : Ex)
  | or (a b : Ex)
  | chain (o p : Op2) (a b c : Ex)
  | ite (c a b : Ex)
  | tup (es : Exs)
  | lst (es : Exs)
  | idx (a i : Ex)
  | slc (a : Ex) (bl : Bool) (lo : Ex) (bh : Bool) (hi : Ex)
  | call (f : String) (es : Exs)
  | bcall (f : String) (es : Exs)
  | mk (c : Nat) (es : Exs)
  | meth (m : Str) (ms : String) (o : Ex) (es : Exs)
  | fld (o : Ex) (f : Str)
  | comp (own : List Nat) (t : Tg) (it : It) (c : Ex) (e : Ex)
inductive Exs
  | nil
  | cons (e : Ex) (es : Exs)
inductive It
  | seq (e : Ex)
  | rng1 (e : Ex)
  | rng2 (a b : Ex)
  | enum (e : Ex)
  | zip (a b : Ex)
end

mutual
inductive Sm
  | asg (t : Tg) (e : Ex)
  | asgSub (o i e : Ex)
  | asgFld (o : Ex) (f : Str) (e : Ex)
  | aug (i : Nat) (o : Op2) (e : Ex)
  | augSub (o i : Ex) (op : Op2) (e : Ex)
  | ex (e : Ex)
  | ite (c : Ex) (a b : Sms)
  | for_ (t : Tg) (it : It) (b : Sms)
  | while_ (n : Nat) (c : Ex) (b : Sms)
  | par (is : List Nat) (es : Exs)
  | ret (e : Ex)
  | brk
  | cont
  | pass
  | never
inductive Sms
  | nil
  | cons (s : Sm) (r : Sms)
end

/-- what a walk goes over -/
inductive Iv | lst (a : Nat) (xs : List V) | tup (a : Nat) (xs : List V) | rng (lo : Int) (n : Nat) | enum (a : Nat) (xs : List V) | zip (a b : Nat) (xs ys : List V)
def Iv.size : Iv → Nat | .lst _ xs => xs.length | .tup _ xs => xs.length | .rng _ n => n | .enum _ xs => xs.length | .zip _ _ xs ys => min xs.length ys.length
/-- the item at a turn; the thing walked has its length still -/
def nowL (h : Hh) (a n : Nat) : Option (List V) := match seqL h a with | some ys => if ys.length = n then some ys else none | none => none
def nowT (h : Hh) (a n : Nat) : Option (List V) := match seqT h a with | some ys => if ys.length = n then some ys else none | none => none
def itemO (o : Option (List V)) (i : Nat) : Option V := match o with | some ys => ys[i]? | none => none
def Iv.at : Iv → Nat → Mo V
  | .lst a xs, i => look fun h => itemO (nowL h a xs.length) i
  | .tup a xs, i => look fun h => itemO (nowT h a xs.length) i
  | .rng lo n, i => if i < n then rt (.int (lo + i)) else no
  | .enum a xs, i => bd (look fun h => itemO (nowL h a xs.length) i) fun x => alloc (.tup [.int (i : Nat), x])
  | .zip a b xs ys, i => bd (look fun h => itemO (nowL h a xs.length) i) fun x => bd (look fun h => itemO (nowL h b ys.length) i) fun y => alloc (.tup [x, y])
def Iv.ends : Iv → Hh → Bool
  | .lst a xs, h => (nowL h a xs.length).isSome
  | .tup a xs, h => (nowT h a xs.length).isSome
  | .enum a xs, h => (nowL h a xs.length).isSome
  | .zip a b xs ys, h => (nowL h a xs.length).isSome && (nowL h b ys.length).isSome
  | _, _ => true

inductive Fl | nx (e : Ev) | rt (v : V) | bk (e : Ev) | ct (e : Ev)

/-- a for's turns -/
def forGo (iv : Iv) (t : Tg) (body : Ev → Mo Fl) : Nat → Nat → Ev → Mo Fl
  | 0, _, e => fun h => if iv.ends h then some (.ok (.nx e), h) else none
  | n + 1, i, e => bd (iv.at i) fun x => bd (look (asg t x e)) fun e1 => bd (body e1) fun f => match f with
    | .nx e2 => forGo iv t body n (i + 1) e2
    | .ct e2 => forGo iv t body n (i + 1) e2
    | .bk e2 => rt (.nx e2)
    | .rt v => rt (.rt v)
/-- a while's turns, at most so many -/
def whileGo (c : Ev → Mo Bool) (body : Ev → Mo Fl) : Nat → Ev → Mo Fl
  | 0, _ => no
  | n + 1, e => bd (c e) fun k => if k then bd (body e) fun f => match f with
      | .nx e2 => whileGo c body n e2
      | .ct e2 => whileGo c body n e2
      | .bk e2 => rt (.nx e2)
      | .rt v => rt (.rt v)
    else rt (.nx e)
/-- the new list grows -/
def push (d : Nat) (y : V) : Mo Unit := fun h => match lstAt h d with
  | none => none
  | some acc => if acc.length < sizeLine then some (.ok (), h.set d (.lst (acc ++ [y]))) else none
/-- a comprehension's turns; the new list stands at d -/
def compGo (iv : Iv) (t : Tg) (c : Ev → Mo Bool) (el : Ev → Mo V) (d : Nat) (e : Ev) : Nat → Nat → Mo Unit
  | 0, _ => fun h => if iv.ends h then some (.ok (), h) else none
  | n + 1, i => bd (iv.at i) fun x => bd (look (asg t x e)) fun e1 => bd (c e1) fun b =>
    if b then bd (el e1) fun y => bd (push d y) fun _ => compGo iv t c el d e n (i + 1)
    else compGo iv t c el d e n (i + 1)
/-- a list comprehension -/
def compL (iv : Iv) (t : Tg) (c : Ev → Mo Bool) (el : Ev → Mo V) (e : Ev) : Mo V :=
  bd (alloc (.lst [])) fun d => match d with
    | .ref d => bd (compGo iv t c el d e iv.size 0) fun _ => rt (.ref d)
    | _ => no

structure Cfg where
  call : String → List V → Mo V
  glob : Str → Option V
  fld : Nat → Str → Bool
  hasM : Nat → String → Bool
  cname : Nat → String

def wipeE (e : Ev) : List Nat → Ev
  | [] => e
  | v :: vs => (wipeE e vs).set v none

def getS (e : Ev) (i : Nat) : Mo V := match e[i]? with
  | some (some v) => rt v
  | _ => no
def tru (x : V) : Mo Bool := look fun h => truth h x
/-- o.m(..): the class's own def, or a list's method -/
inductive Rc | lst (a : Nat) | ins (c : Nat) (a : Nat)
def recv (m : Str) (x : V) : Mo Rc := match x with
  | .ref a => look fun h => match h[a]? with
    | some (.lst _) => some (.lst a)
    | some (.ins c fs) => if fs.lookup m = none then some (.ins c a) else none
    | _ => none
  | _ => no
def fldO (C : Cfg) (x : V) (f : Str) : Mo V := match x with
  | .ref a => look fun h => match h[a]? with
    | some (.ins c fs) => if C.fld c f = true then fs.lookup f else none
    | _ => none
  | _ => no
def setF (C : Cfg) (x : V) (f : Str) (y : V) : Mo Unit := match x with
  | .ref a => fun h => match h[a]? with
    | some (.ins c fs) => if C.fld c f = true ∧ fs.length < 1000 then some (.ok (), h.set a (.ins c (putF f y fs))) else none
    | _ => none
  | _ => no
def toI (x : V) : Mo Int := match x with
  | .int i => rt i
  | _ => no
def partO (b : Bool) (m : Mo V) : Mo (Option Int) := if b then bd m fun x => bd (toI x) fun i => rt (some i) else rt none
/-- a new instance, then its __init__ -/
def makeO (C : Cfg) (c : Nat) (vs : List V) : Mo V := bd (alloc (.ins c [])) fun x => bd (C.call (C.cname c ++ ".__init__") (x :: vs)) fun r => if r = .non then rt x else no
def seqO (x : V) : Mo Iv := match x with
  | .ref a => look fun h => match seqL h a with
    | some xs => some (.lst a xs)
    | none => match seqT h a with
      | some xs => some (.tup a xs)
      | none => none
  | _ => no
def lstO (x : V) : Mo (Nat × List V) := match x with
  | .ref a => look fun h => (seqL h a).map fun xs => (a, xs)
  | _ => no
def rngO (i j : Int) : Mo Iv := if (-(2 ^ 62) ≤ i ∧ i < 2 ^ 62) ∧ -(2 ^ 62) ≤ j ∧ j < 2 ^ 62 then rt (.rng i (j - i).toNat) else no

mutual
def ev (C : Cfg) : Ex → Ev → Mo V
  | .slot i, e => getS e i
  | .cst v, _ => rt v
  | .glob x, _ => opt (C.glob x)
  | .bin o a b, e => bd (ev C a e) fun x => bd (ev C b e) fun y => op2 o x y
  | .neg a, e => bd (ev C a e) fun x => bd (toI x) fun i => rt (.int (-i))
  | .not a, e => bd (ev C a e) fun x => bd (tru x) fun b => rt (.bl !b)
  | .and a b, e => bd (ev C a e) fun x => bd (tru x) fun k => if k then ev C b e else rt x
  | .or a b, e => bd (ev C a e) fun x => bd (tru x) fun k => if k then rt x else ev C b e
  | .chain o p a b c, e => bd (ev C a e) fun x => bd (ev C b e) fun y => bd (op2 o x y) fun r => match r with
    | .bl true => bd (ev C c e) fun z => op2 p y z
    | .bl false => rt (.bl false)
    | _ => no
  | .ite c a b, e => bd (ev C c e) fun x => bd (tru x) fun k => if k then ev C a e else ev C b e
  | .tup es, e => bd (evs C es e) fun vs => if vs.length ≤ sizeLine then alloc (.tup vs) else no
  | .lst es, e => bd (evs C es e) fun vs => if vs.length ≤ sizeLine then alloc (.lst vs) else no
  | .idx a i, e => bd (ev C a e) fun x => bd (ev C i e) fun y => index x y
  | .slc a bl lo bh hi, e => bd (ev C a e) fun x => bd (partO bl (ev C lo e)) fun l => bd (partO bh (ev C hi e)) fun u => slice x l u
  | .call f es, e => bd (evs C es e) fun vs => C.call f vs
  | .bcall f es, e => bd (evs C es e) fun vs => bfn f vs
  | .mk c es, e => bd (evs C es e) fun vs => makeO C c vs
  | .meth m ms o es, e => bd (ev C o e) fun x => bd (recv m x) fun r => bd (evs C es e) fun vs => match r with
    | .lst a => lmeth ms a vs
    | .ins c a => if C.hasM c ms = true then C.call (C.cname c ++ "." ++ ms) (.ref a :: vs) else no
  | .fld o f, e => bd (ev C o e) fun x => fldO C x f
  | .comp own t it c el, e => bd (evI C it e) fun iv => compL iv t (fun e => bd (ev C c e) tru) (fun e => ev C el e) (wipeE e own)
def evs (C : Cfg) : Exs → Ev → Mo (List V)
  | .nil, _ => rt []
  | .cons a r, e => bd (ev C a e) fun x => bd (evs C r e) fun xs => rt (x :: xs)
def evI (C : Cfg) : It → Ev → Mo Iv
  | .seq a, e => bd (ev C a e) fun x => seqO x
  | .rng1 a, e => bd (ev C a e) fun x => bd (toI x) fun j => rngO 0 j
  | .rng2 a b, e => bd (ev C a e) fun x => bd (ev C b e) fun y => bd (toI x) fun i => bd (toI y) fun j => rngO i j
  | .enum a, e => bd (ev C a e) fun x => bd (lstO x) fun p => rt (.enum p.1 p.2)
  | .zip a b, e => bd (ev C a e) fun x => bd (ev C b e) fun y => bd (lstO x) fun p => bd (lstO y) fun q => rt (.zip p.1 q.1 p.2 q.2)
end

/-- a test -/
def evT (C : Cfg) (c : Ex) (e : Ev) : Mo Bool := bd (ev C c e) tru
def augO (o : Op2) (x y : V) : Mo V := intO o x y

mutual
def ex (C : Cfg) : Sm → Ev → Mo Fl
  | .asg t a, e => bd (ev C a e) fun x => bd (look (asg t x e)) fun e1 => rt (.nx e1)
  | .asgSub o i a, e => bd (ev C a e) fun x => bd (ev C o e) fun y => bd (ev C i e) fun z => bd (setAt y z x) fun _ => rt (.nx e)
  | .asgFld o f a, e => bd (ev C a e) fun y => bd (ev C o e) fun x => bd (setF C x f y) fun _ => rt (.nx e)
  | .aug i o a, e => bd (getS e i) fun x => bd (ev C a e) fun y => bd (augO o x y) fun v => rt (.nx (e.set i (some v)))
  | .augSub o i op a, e => bd (ev C o e) fun x => bd (ev C i e) fun y => bd (indexL x y) fun old => bd (ev C a e) fun z => bd (augO op old z) fun v =>
      bd (setAt x y v) fun _ => rt (.nx e)
  | .ex a, e => bd (ev C a e) fun _ => rt (.nx e)
  | .ite c a b, e => bd (evT C c e) fun k => if k then exs C a e else exs C b e
  | .for_ t it b, e => bd (evI C it e) fun iv => forGo iv t (fun e => exs C b e) iv.size 0 e
  | .while_ n c b, e => whileGo (fun e => evT C c e) (fun e => exs C b e) n e
  | .par is es, e => bd (evs C es e) fun vs => bd (opt (setAll is vs e)) fun e1 => rt (.nx e1)
  | .ret a, e => bd (ev C a e) fun x => rt (.rt x)
  | .brk, e => rt (.bk e)
  | .cont, e => rt (.ct e)
  | .pass, e => rt (.nx e)
  | .never, _ => no
def exs (C : Cfg) : Sms → Ev → Mo Fl
  | .nil, e => rt (.nx e)
  | .cons s r, e => bd (ex C s e) fun f => match f with
    | .nx e1 => exs C r e1
    | f => rt f
end
/-- a def's body at its arguments -/
def body (C : Cfg) (n : Nat) (b : Sms) (vs : List V) : Mo V :=
  bd (exs C b (vs.map some ++ List.replicate (n - vs.length) none)) fun f => match f with
    | .nx _ => rt .non
    | .rt v => rt v
    | _ => no
/-! ### the classes -/
/-- a class: its global name, its own name, its parameters, its methods' keys, its fields -/
structure Ci where
  x : Str
  name : String
  n : Nat
  ms : List String
  fs : List Str
def cnameOf (CT : List Ci) (c : Nat) : String := match CT[c]? with | some i => i.name | none => ""
def hasMOf (CT : List Ci) (c : Nat) (ms : String) : Bool := match CT[c]? with | some i => i.ms.contains ms | none => false
def fldOf (CT : List Ci) (c : Nat) (f : Str) : Bool := match CT[c]? with | some i => i.fs.contains f | none => false
end HI

set_option maxRecDepth 100000
set_option maxHeartbeats 4000000
/-! how a list of objects lies in the heap -/
namespace HI
open PySem L2

def im (π : Nat → Addr) : V → V
  | .ref a => .ref (π a)
  | v => v
def wf (n : Nat) : V → Prop
  | .ref a => a < n
  | _ => True
def imO (π : Nat → Addr) : Option V → Option V := Option.map (im π)
def wfE (n : Nat) (e : Ev) : Prop := ∀ v, some v ∈ e → wf n v
def wfL (n : Nat) (vs : List V) : Prop := ∀ v ∈ vs, wf n v
abbrev imL (π : Nat → Addr) (vs : List V) : List V := vs.map (im π)
abbrev imE (π : Nat → Addr) (e : Ev) : St := e.map (imO π)
abbrev imF (π : Nat → Addr) (fs : List (Str × V)) : List (Str × V) := fs.map fun p => (p.1, im π p.2)

/-- the module's part: its frozen objects, where its classes stand -/
structure Gd where
  K : PySem.W.Frag
  cls : Nat → Addr

def KSeq (K : PySem.W.Frag) (T : String) (a : Addr) (xs : List V) : Prop :=
  ∃ (o : Obj) (its : Array Value) (n : Nat), K.lookup a = some o ∧ o.cls = .type T ∧ (T = "list" → o.dict = none) ∧ o.data = .seq its n ∧ its.size ≤ sizeLine ∧ Vals xs its.toList

def ObR (G : Gd) (H : Hp) (π : Nat → Addr) (a : Addr) : Ob → Prop
  | .lst xs => H a = some (.lst (imL π xs))
  | .rol xs => (∃ o, H a = some (.frz o (.lst (imL π xs)))) ∨ KSeq G.K "list" a (imL π xs)
  | .tup xs => H a = some (.tup (imL π xs))
  | .ktup xs => KSeq G.K "tuple" a (imL π xs)
  | .ins c fs => ∃ dx, H a = some (.ins (G.cls c) dx (imF π fs))
  | .glb _ => True
def wfO (n : Nat) : Ob → Prop
  | .lst xs => wfL n xs
  | .rol xs => wfL n xs
  | .tup xs => wfL n xs
  | .ktup xs => wfL n xs
  | .ins _ fs => ∀ p ∈ fs, wf n p.2
  | .glb _ => True
def Mu : Ob → Bool
  | .lst _ => true
  | .ins _ _ => true
  | _ => false

structure HR (G : Gd) (π : Nat → Addr) (h : Hh) (H : Hp) : Prop where
  ob : ∀ (i : Nat) (o : Ob), h[i]? = some o → ObR G H π (π i) o
  wo : ∀ (i : Nat) (o : Ob), h[i]? = some o → wfO h.length o
  inj : ∀ (i j : Nat) (o u : Ob), h[i]? = some o → h[j]? = some u → Mu o = true → Mu u = true → π i = π j → i = j

/-- later: more objects, the old ones where they were -/
structure Nx (π : Nat → Addr) (h : Hh) (π' : Nat → Addr) (h' : Hh) : Prop where
  le : h.length ≤ h'.length
  ag : ∀ i, i < h.length → π' i = π i

theorem Nx.refl {π h} : Nx π h π h := ⟨Nat.le_refl _, fun _ _ => rfl⟩
theorem Nx.trans {π h π1 h1 π2 h2} (a : Nx π h π1 h1) (b : Nx π1 h1 π2 h2) : Nx π h π2 h2 :=
  ⟨Nat.le_trans a.le b.le, fun i hi => (b.ag i (Nat.lt_of_lt_of_le hi a.le)).trans (a.ag i hi)⟩
theorem wf.mono {n m : Nat} {v : V} (w : wf n v) (l : n ≤ m) : wf m v := by
  cases v <;> first | exact trivial | exact Nat.lt_of_lt_of_le w l
theorem Nx.im {π h π' h'} (x : Nx π h π' h') {v : V} (w : wf h.length v) : im π' v = im π v := by
  cases v with
  | ref a => exact congrArg V.ref (x.ag a w)
  | _ => rfl
theorem Nx.wf {π h π' h'} (x : Nx π h π' h') {v : V} (w : wf h.length v) : wf h'.length v := w.mono x.le
theorem Nx.imL {π h π' h'} (x : Nx π h π' h') {vs : List V} (w : wfL h.length vs) : imL π' vs = imL π vs :=
  List.map_congr_left fun v hv => x.im (w v hv)
theorem Nx.imE {π h π' h'} (x : Nx π h π' h') {e : Ev} (w : wfE h.length e) : imE π' e = imE π e :=
  List.map_congr_left fun o ho => by
    cases o with
    | none => rfl
    | some v => exact congrArg some (x.im (w v ho))
theorem Nx.wfL {π h π' h'} (x : Nx π h π' h') {vs : List V} (w : wfL h.length vs) : wfL h'.length vs := fun v hv => x.wf (w v hv)
theorem Nx.wfE {π h π' h'} (x : Nx π h π' h') {e : Ev} (w : wfE h.length e) : wfE h'.length e := fun v hv => x.wf (w v hv)
theorem imL_len {π : Nat → Addr} {xs : List V} : (imL π xs).length = xs.length := List.length_map _
theorem wfE.set {n : Nat} {e : Ev} {i : Nat} {v : V} (w : wfE n e) (wv : wf n v) : wfE n (e.set i (some v)) := fun u hu => by
  rcases List.mem_or_eq_of_mem_set hu with z | z
  · exact w u z
  · cases z; exact wv
theorem imE_set {π : Nat → Addr} {e : Ev} {i : Nat} {v : V} : imE π (e.set i (some v)) = (imE π e).set i (some (im π v)) := by
  show List.map _ _ = _
  rw [List.map_set]; rfl

section
variable {G : Gd} {π : Nat → Addr} {h : Hh} {H : Hp}
theorem seqL_lt {a : Nat} {xs : List V} (e : seqL h a = some xs) : a < h.length := by
  unfold seqL at e
  rcases Nat.lt_or_ge a h.length with z | z
  · exact z
  · rw [List.getElem?_eq_none z] at e; cases e
theorem seqT_lt {a : Nat} {xs : List V} (e : seqT h a = some xs) : a < h.length := by
  unfold seqT at e
  rcases Nat.lt_or_ge a h.length with z | z
  · exact z
  · rw [List.getElem?_eq_none z] at e; cases e
theorem lstAt_get {a : Nat} {xs : List V} (e : lstAt h a = some xs) : h[a]? = some (.lst xs) := by
  unfold lstAt at e
  split at e
  · cases e; assumption
  · cases e
theorem HR.seqL (R : HR G π h H) {a : Nat} {xs : List V} (e : HI.seqL h a = some xs) : SqL G.K H (π a) (imL π xs) ∧ wfL h.length xs := by
  unfold HI.seqL at e
  split at e
  · rename_i ys hg
    cases e
    exact ⟨.inl (.inl (R.ob _ _ hg)), R.wo _ _ hg⟩
  · rename_i ys hg
    cases e
    refine ⟨?_, R.wo _ _ hg⟩
    rcases R.ob _ _ hg with ⟨o, z⟩ | ⟨o, its, n, h1, h2, h3, h4, h5, h6⟩
    · exact .inl (.inr ⟨o, z⟩)
    · exact .inr ⟨o, its, n, h1, h2, h3 rfl, h4, h5, h6⟩
  · cases e
theorem HR.seqT (R : HR G π h H) {a : Nat} {xs : List V} (e : HI.seqT h a = some xs) : SqT G.K H (π a) (imL π xs) ∧ wfL h.length xs := by
  unfold HI.seqT at e
  split at e
  · rename_i ys hg
    cases e
    exact ⟨.inl (.inl (R.ob _ _ hg)), R.wo _ _ hg⟩
  · rename_i ys hg
    cases e
    obtain ⟨o, its, n, h1, h2, h3, h4, h5, h6⟩ := R.ob _ _ hg
    exact ⟨.inr ⟨o, its, n, h1, h2, h4, h5, h6⟩, R.wo _ _ hg⟩
  · cases e
theorem HR.lstAt (R : HR G π h H) {a : Nat} {xs : List V} (e : HI.lstAt h a = some xs) : H (π a) = some (.lst (imL π xs)) ∧ wfL h.length xs :=
  ⟨R.ob _ _ (lstAt_get e), R.wo _ _ (lstAt_get e)⟩
theorem lstAt_seqL {a : Nat} {xs : List V} (e : HI.lstAt h a = some xs) : HI.seqL h a = some xs := by
  unfold HI.seqL; rw [lstAt_get e]

/-- where a new object stands -/
def ext (π : Nat → Addr) (n : Nat) (p : Addr) : Nat → Addr := fun i => if i = n then p else π i
theorem ext_nx (o : Ob) (p : Addr) : Nx π h (ext π h.length p) (h ++ [o]) := by
  refine ⟨by rw [List.length_append]; exact Nat.le_add_right _ _, fun i hi => ?_⟩
  unfold ext
  rw [if_neg (Nat.ne_of_lt hi)]
theorem ext_at {n : Nat} {p : Addr} : ext π n p n = p := by unfold ext; rw [if_pos rfl]
theorem get_new {o u : Ob} {i : Nat} (e : (h ++ [o])[i]? = some u) : (i < h.length ∧ h[i]? = some u) ∨ (i = h.length ∧ u = o) := by
  rcases Nat.lt_trichotomy i h.length with z | z | z
  · rw [List.getElem?_append_left z] at e
    exact .inl ⟨z, e⟩
  · subst z
    rw [List.getElem?_append_right (Nat.le_refl _), Nat.sub_self] at e
    cases e
    exact .inr ⟨rfl, rfl⟩
  · rw [List.getElem?_eq_none (by rw [List.length_append]; exact z)] at e
    cases e

theorem wfO.mono {n m : Nat} {o : Ob} (w : wfO n o) (l : n ≤ m) : wfO m o := by
  cases o <;> first
    | exact fun v hv => (w v hv).mono l
    | exact trivial
/-- an object's description leans on its own address alone -/
theorem ObR.move {π' : Nat → Addr} {H' : Hp} {a : Addr} {o : Ob} {n : Nat} (x : ObR G H π a o) (w : wfO n o) (ag : ∀ i, i < n → π' i = π i) (hs : ∀ u, H a = some u → H' a = some u) : ObR G H' π' a o := by
  have imv : ∀ v : V, HI.wf n v → im π' v = im π v := fun v hv => by
    cases v with
    | ref b => exact congrArg V.ref (ag b hv)
    | _ => rfl
  have iml : ∀ xs : List V, HI.wfL n xs → imL π' xs = imL π xs := fun xs hx => List.map_congr_left fun v hv => imv v (hx v hv)
  cases o with
  | lst xs => rw [ObR, iml xs w]; exact hs _ x
  | rol xs =>
    rw [ObR, iml xs w]
    rcases x with ⟨o, z⟩ | z
    · exact .inl ⟨o, hs _ z⟩
    · exact .inr z
  | tup xs => rw [ObR, iml xs w]; exact hs _ x
  | ktup xs => rw [ObR, iml xs w]; exact x
  | ins c fs =>
    obtain ⟨dx, z⟩ := x
    have e : imF π' fs = imF π fs := List.map_congr_left fun p hp => by rw [imv p.2 (w p hp)]
    exact ⟨dx, by rw [e]; exact hs _ z⟩
  | glb _ => trivial

/-- a new object is laid at p, what it is there -/
theorem HR.laid (R : HR G π h H) {o : Ob} {p : Addr} {u : HO} (hp : H p = none) (w : wfO h.length o)
    (x : ObR G (upd H p u) (ext π h.length p) p o) : HR G (ext π h.length p) (h ++ [o]) (upd H p u) := by
  have N := ext_nx (π := π) (h := h) o p
  have keep : ∀ b q, H b = some q → upd H p u b = some q := fun b q e => by rw [upd_ne (ne_of_none e hp)]; exact e
  refine ⟨fun i q e => ?_, fun i q e => ?_, fun i j q r e1 e2 m1 m2 z => ?_⟩
  · rcases get_new e with ⟨hi, e⟩ | ⟨rfl, rfl⟩
    · have e2 : ext π h.length p i = π i := N.ag i hi
      rw [e2]
      exact (R.ob i q e).move (R.wo i q e) N.ag (keep _)
    · rw [ext_at]; exact x
  · rcases get_new e with ⟨hi, e⟩ | ⟨rfl, rfl⟩
    · exact (R.wo i q e).mono N.le
    · exact w.mono N.le
  · have here : ∀ (k : Nat) (t : Ob), h[k]? = some t → Mu t = true → π k ≠ p := fun k t e m z => by
      have q := R.ob k t e
      rw [z] at q
      cases t with
      | lst xs => rw [ObR, hp] at q; cases q
      | ins c fs => obtain ⟨dx, q⟩ := q; rw [hp] at q; cases q
      | _ => cases m
    rcases get_new e1 with ⟨hi, f1⟩ | ⟨rfl, rfl⟩
    · rcases get_new e2 with ⟨hj, f2⟩ | ⟨rfl, rfl⟩
      · rw [N.ag i hi, N.ag j hj] at z
        exact R.inj i j q r f1 f2 m1 m2 z
      · rw [N.ag i hi, ext_at] at z
        exact absurd z (here i q f1 m1)
    · rcases get_new e2 with ⟨hj, f2⟩ | ⟨rfl, rfl⟩
      · rw [N.ag j hj, ext_at] at z
        exact absurd z.symm (here j r f2 m2)
      · rfl
theorem HR.lst (R : HR G π h H) {xs : List V} {p : Addr} (hp : H p = none) (w : wfL h.length xs) :
    HR G (ext π h.length p) (h ++ [.lst xs]) (upd H p (.lst (imL π xs))) := by
  refine R.laid hp w ?_
  rw [ObR, upd_same, (ext_nx (π := π) (h := h) (.lst xs) p).imL w]
theorem HR.tup (R : HR G π h H) {xs : List V} {p : Addr} (hp : H p = none) (w : wfL h.length xs) :
    HR G (ext π h.length p) (h ++ [.tup xs]) (upd H p (.tup (imL π xs))) := by
  refine R.laid hp w ?_
  rw [ObR, upd_same, (ext_nx (π := π) (h := h) (.tup xs) p).imL w]

/-- a list or an instance is rewritten -/
theorem HR.put (R : HR G π h H) {a : Nat} {o o' : Ob} {u : HO} (e : h[a]? = some o) (m : Mu o = true) (m' : Mu o' = true) (w : wfO h.length o') (x : ObR G (upd H (π a) u) π (π a) o') :
    HR G π (h.set a o') (upd H (π a) u) := by
  have ha : a < h.length := (List.getElem?_eq_some_iff.mp e).1
  have gs : ∀ {i : Nat} {q : Ob}, (h.set a o')[i]? = some q → (i = a ∧ q = o') ∨ (i ≠ a ∧ h[i]? = some q) := fun {i q} z => by
    by_cases hi : i = a
    · subst hi
      rw [List.getElem?_set_self ha] at z
      cases z
      exact .inl ⟨rfl, rfl⟩
    · rw [List.getElem?_set_ne (Ne.symm hi)] at z
      exact .inr ⟨hi, z⟩
  have mu_at : ∀ (H1 : Hp), (∃ v, H1 (π a) = some v ∧ ((∃ ys, v = .lst ys) ∨ ∃ C dx fs, v = .ins C dx fs)) → ∀ q b, ObR G H1 π b q → Mu q = false → b = π a → (∃ T ys, KSeq G.K T b ys) ∨ ∃ z, q = .glb z := by
    intro H1 hv q b hq mq hb
    subst hb
    obtain ⟨v, hv, hk⟩ := hv
    cases q with
    | lst _ => cases mq
    | ins _ _ => cases mq
    | rol ys =>
      rcases hq with ⟨ob, z⟩ | z
      · rw [hv] at z; cases z
        rcases hk with ⟨_, k⟩ | ⟨_, _, _, k⟩ <;> cases k
      · exact .inl ⟨_, _, z⟩
    | tup ys =>
      rw [ObR, hv] at hq; cases hq
      rcases hk with ⟨_, k⟩ | ⟨_, _, _, k⟩ <;> cases k
    | ktup ys => exact .inl ⟨_, _, hq⟩
    | glb z => exact .inr ⟨z, rfl⟩
  have old : ∃ v, H (π a) = some v ∧ ((∃ ys, v = .lst ys) ∨ ∃ C dx fs, v = .ins C dx fs) := by
    have q := R.ob a o e
    cases o with
    | lst ys => exact ⟨_, q, .inl ⟨_, rfl⟩⟩
    | ins c fs => obtain ⟨dx, q⟩ := q; exact ⟨_, q, .inr ⟨_, _, _, rfl⟩⟩
    | _ => cases m
  refine ⟨fun i q z => ?_, fun i q z => ?_, fun i j q r e1 e2 m1 m2 z => ?_⟩
  · rcases gs z with ⟨rfl, rfl⟩ | ⟨hi, z⟩
    · exact x
    · have hq := R.ob i q z
      by_cases hb : π i = π a
      · cases mq : Mu q with
        | true => exact absurd (R.inj i a q o z e mq m hb) hi
        | false =>
          rcases mu_at H old q _ hq mq hb with ⟨T, ys, k⟩ | ⟨y, rfl⟩
          · cases q with
            | rol zs =>
              rcases hq with ⟨ob, y⟩ | y
              · obtain ⟨v, hv, hk⟩ := old
                rw [hb, hv] at y; cases y
                rcases hk with ⟨_, k⟩ | ⟨_, _, _, k⟩ <;> cases k
              · exact .inr y
            | tup zs =>
              obtain ⟨v, hv, hk⟩ := old
              rw [ObR, hb, hv] at hq; cases hq
              rcases hk with ⟨_, k⟩ | ⟨_, _, _, k⟩ <;> cases k
            | ktup zs => exact hq
            | glb _ => trivial
            | _ => cases mq
          · trivial
      · exact hq.move (R.wo i q z) (fun _ _ => rfl) fun u hu => by rw [upd_ne hb]; exact hu
  · rw [List.length_set]
    rcases gs z with ⟨rfl, rfl⟩ | ⟨hi, z⟩
    · exact w
    · exact R.wo i q z
  · rcases gs e1 with ⟨rfl, rfl⟩ | ⟨hi, f1⟩
    · rcases gs e2 with ⟨rfl, rfl⟩ | ⟨hj, f2⟩
      · rfl
      · exact R.inj _ _ _ _ e f2 m m2 z
    · rcases gs e2 with ⟨rfl, rfl⟩ | ⟨hj, f2⟩
      · exact R.inj _ _ _ _ f1 e m1 m z
      · exact R.inj _ _ _ _ f1 f2 m1 m2 z
theorem set_nx {a : Nat} {o : Ob} : Nx π h π (h.set a o) := ⟨by rw [List.length_set]; exact Nat.le_refl _, fun _ _ => rfl⟩
theorem HR.setL (R : HR G π h H) {a : Nat} {xs ys : List V} (e : HI.lstAt h a = some xs) (w : wfL h.length ys) :
    HR G π (h.set a (.lst ys)) (upd H (π a) (.lst (imL π ys))) := by
  refine R.put (lstAt_get e) rfl rfl w ?_
  rw [ObR, upd_same]
end

/-! ### data -/
section
variable {G : Gd} {π : Nat → Addr} {h : Hh} {H : Hp}
theorem mapM_some {α β : Type} {f : α → Option β} : ∀ {xs : List α} {ys : List β}, xs.mapM f = some ys → Paired (fun x y => f x = some y) xs ys
  | [], ys, e => by
    rw [List.mapM_nil] at e
    cases e; exact .nil
  | x :: r, ys, e => by
    rw [List.mapM_cons] at e
    cases hx : f x with
    | none => rw [hx] at e; cases e
    | some y =>
      rw [hx] at e
      cases hr : r.mapM f with
      | none => rw [hr] at e; cases e
      | some zs =>
        rw [hr] at e
        cases e
        exact .cons hx (mapM_some hr)
theorem rd_dp (R : HR G π h H) : ∀ (n : Nat) (v : V) (d : PyData), rd h n v = some d → wf h.length v → Dp G.K H (im π v) d
  | 0, _, _, e, _ => by cases e
  | n + 1, v, d, e, w => by
    have all : ∀ (xs : List V) (ds : List PyData), xs.mapM (rd h n) = some ds → wfL h.length xs → DpAll G.K H (imL π xs) ds := by
      intro xs ds hm hw
      have hp := mapM_some hm
      clear hm
      induction hp with
      | nil => exact .nil
      | cons r t ih => exact .cons (rd_dp R n _ _ r (hw _ List.mem_cons_self)) (ih fun v hv => hw v (List.mem_cons_of_mem _ hv))
    cases v with
    | non => cases e; exact .non
    | bl b => cases e; exact .bl b
    | int i => cases e; exact .int i
    | str s => cases e; exact .str s
    | ref a =>
      simp only [rd] at e
      split at e
      · rename_i xs hx
        cases hm : xs.mapM (rd h n) with
        | none => rw [hm] at e; cases e
        | some ds =>
          rw [hm] at e; cases e
          obtain ⟨q, wq⟩ := R.seqL hx
          exact .lst q (all xs ds hm wq)
      · split at e
        · rename_i xs hx
          cases hm : xs.mapM (rd h n) with
          | none => rw [hm] at e; cases e
          | some ds =>
            rw [hm] at e; cases e
            obtain ⟨q, wq⟩ := R.seqT hx
            exact .tup q (all xs ds hm wq)
        · cases e
    | _ => cases e
theorem rdS_dp (R : HR G π h H) {v : V} {d : PyData} (e : rdS h v = some d) (w : wf h.length v) : Dp G.K H (im π v) d ∧ SeqAt.shaped d = true := by
  unfold rdS at e
  split at e
  · rename_i d' hd
    split at e
    · rename_i hs
      cases e
      exact ⟨rd_dp R 66 v _ hd w, hs⟩
    · cases e
  · cases e
theorem truth_ok (R : HR G π h H) {v : V} {b : Bool} (e : truth h v = some b) (w : wf h.length v) : TruV G.K (im π v) H b := by
  cases v with
  | non => cases e; rfl
  | bl c => cases e; rfl
  | int i => cases e; rfl
  | str y =>
    simp only [truth] at e
    split at e
    · rename_i hl; cases e; exact ⟨hl, rfl⟩
    · cases e
  | ref a =>
    simp only [truth] at e
    split at e
    · rename_i xs hx
      cases e
      refine .inl ⟨_, (R.seqL hx).1, ?_⟩
      cases xs <;> rfl
    · split at e
      · rename_i xs hx
        cases e
        refine .inr (.inl ⟨_, (R.seqT hx).1, ?_⟩)
        cases xs <;> rfl
      · cases e
  | _ => cases e
end
end HI

set_option maxRecDepth 100000
set_option maxHeartbeats 4000000
/-! a def's promise where no text is being shown (guards empty), and the calls of such defs -/
namespace HI
open PySem PySem.Spec PyProof.Rows L2

structure FnG (P : Program) (w : World) (K : PySem.W.Frag) (mg : Str → Option Value) (base : Heap) (CX : CXT) (k : Nat) (f : Addr) (fd : FuncData) (ps : List Str) (sp : Sp) : Prop where
  len : ∀ vs H Q E, sp vs H Q E → vs.length = ps.length
  run : ∀ (A : Around) (outer : List Env) (s : Shared) (H : Hp) (args : Args) (us : List Value) (vs : List V) (Q : VK) (E : XK), A.guards = some [] →
    Room k A → Env0 P w K mg base A outer s H → BindsTo s fd args (ps.zip us) → Vals vs us → sp vs H Q E →
    codeAny (model P w) A (.call (.ref f) args) (CR CX outer P w H s Q E) s

section
variable {P : Program} {w : World} {K : PySem.W.Frag} {mg : Str → Option Value} {base : Heap} {CX : CXT}
theorem FnG.mono {j k : Nat} {f : Addr} {fd : FuncData} {ps : List Str} {sp : Sp} (F : FnG P w K mg base CX j f fd ps sp) (l : j ≤ k) : FnG P w K mg base CX k f fd ps sp :=
  ⟨F.len, fun A outer s H args us vs Q E g r => F.run A outer s H args us vs Q E g (r.mono l)⟩

/-- a def of the text, by its body -/
theorem fnG_of {k : Nat} {x qual : Str} {st : Stmt} {f : Addr} {fd : FuncData} {N ps : List Str} {sp : Sp} (F : Fun K x qual st f fd) (S : FnScope N ps (defScope st))
    (len : ∀ vs H Q E, sp vs H Q E → vs.length = ps.length)
    (hb : ∀ (cdv : Value) (A : Around) (outer : List Env) (s : Shared) (H : Hp) (vs : List V) (Q : VK) (E : XK),
      (A.deeper (envOfC qual (defScope st) s.heap.objs.size f cdv)).guards = some [] →
      Room k (A.deeper (envOfC qual (defScope st) s.heap.objs.size f cdv)) → sp vs H Q E →
      ∃ t, PSs (cxOf CX P w K mg base N qual (defScope st) f cdv A outer s H E) (defBody st) t ∧ t { nx := fun _ H' => Q .non H', rt := Q } (start N vs) H) :
    FnG P w K mg base CX (k + 1) f fd ps sp := by
  obtain ⟨oc, od, kV, doc, pm, an, cdv, ct, osl, rfl, lk, hcd⟩ := F.ex
  refine ⟨len, ?_⟩
  intro A outer s H args us vs Q E hg hr e0 hbd rv hsp
  have hl := len _ _ _ _ hsp
  have kept : ∀ b o, base.get? b = some o → s.heap.get? b = some o := fun b o e => (e0.bs b o e).1
  have KX : K.In s.heap := e0.mod.kin.keeps kept
  have lim : s.heap.NoLimit := e0.mod.nolimit.keeps kept
  have kinds : ∀ y ∈ ps.zip us, (defScope st).names.lookup y.1 = some .local ∨
      ((defScope st).names.lookup y.1 = some .cell ∧ ((cellsFrom (s.heap.objs.size + 1) (defScope st).names []).lookup y.1).isSome = true) := by
    intro y hy
    rcases S.par y.1 (List.of_mem_zip (a := y.1) (b := y.2) hy).1 with q | q
    · exact .inl q
    · exact .inr ⟨q, PySem.W.cellsFrom_some _ _ _ (.inl q)⟩
  refine codeAny_call_function hr.depth (KX _ _ lk) rfl S.co S.gen rfl (PySem.W.codeRec_of KX hcd) (hbd _ _ _ _ ?_)
  refine wpAny_newFunctionEnv_cells S.kind kinds fun env he s1 x => ?_
  subst he
  refine ⟨lim.keeps x.toInCall.keep, codeAny_func ?_⟩
  obtain ⟨t, ht, hq⟩ := hb cdv A outer s H vs Q E hg (hr.deeper _) hsp
  have I := inv_start (CX := CX) (E := E) S hr.hd e0 hl rv x
  refine wpAny_mono (ht.run [] s1 (start N vs) H _ I hq) (fun fl s' hs => ?_) (fun _ _ z => z)
  cases fl with
  | ret u =>
    obtain ⟨v, σ', H', J, r, q⟩ := hs
    exact ⟨v, H', J.os, J.bare, J.base, J.hok, r, q⟩
  | next =>
    obtain ⟨σ', H', J, q⟩ := hs
    exact ⟨V.non, H', J.os, J.bare, J.base, J.hok, rfl, q⟩
  | brk =>
    obtain ⟨_, _, _, q⟩ := hs
    exact q.elim
  | cont =>
    obtain ⟨_, _, _, q⟩ := hs
    exact q.elim
end

section
variable {X : Cx} {CX : CXT} {k : Nat} {f C : Addr} {fd : FuncData} {ps : List Str} {sp : Sp} {dvs : List V} {ds : List Value} {E : XK} {x m : Str} {p pos apos : Pos} {e o : Expr} {es : List Expr} {ta : TE} {t : TA}
theorem FnG.go {pins : List (Addr × Obj)} {σ : L2.St} {H : Hp} {s : Shared} {Q : VK} {us : List Value} {vs : List V} (F : FnG X.prog X.w X.K X.mg X.base CX k f fd ps sp) (hg : X.A.guards = some []) (hr : Room k X.A)
    (hb : Binds X.K fd ps ds) (hd : Vals dvs ds) (hx : Passes CX X E) (I : Inv X pins σ H s) (r : Vals vs us) (h : sp (vs ++ dvs) H Q E) :
    wpAny (model X.prog X.w) X.A (call (.ref f) us) (EP X pins σ Q) X.xe s := by
  have r2 : Vals (vs ++ dvs) (us ++ ds) := r.append hd
  have hl : (us ++ ds).length = ps.length := r2.length.symm.trans (F.len _ _ _ _ h)
  have run := F.run X.A X.stack s H ⟨us, []⟩ (us ++ ds) (vs ++ dvs) Q E hg hr I.env0 (hb s us I.kIn hl) r2 h
  refine wpAny_call (codeAny_mono run fun r s' hq => ?_)
  match r, hq with
  | .error e, hq => exact hx pins σ H s e s' I hq
  | .ok (.ret u), hq => exact I.after hq

theorem gcall (F : FnG X.prog X.w X.K X.mg X.base CX k f fd ps sp) (hgd : X.A.guards = some []) (hr : Room k X.A) (hg : Gl X x) (hm : X.mg x = some (.ref f)) (hk : PySem.W.keepIn X.K (.ref f) = true)
    (hb : Binds X.K fd ps ds) (hd : Vals dvs ds) (hx : Passes CX X E) (ha : PA X (e :: es) t) (hdb : (x == ("__debug__" : Str)) = false)
    (he : starEach (e :: es) X.env = (false, eval e X.env) :: starEach es X.env) (hpl : (backTo pos (starEach es X.env)).any (·.1) = false) :
    PE X (.Call (.Name x p) (e :: es) [] pos) (tCall sp dvs E t) := by
  constructor
  intro pins s σ H Q I h
  refine wpAny_Call_Name_kw (ld_glob I hg hm ?_ hdb)
  refine PySem.W.callWith_K (h₀ := X.base) I.ok.mod.kin hk ?_ he hpl
  refine thn (ha.run pos pins s σ H _ I h) ?_
  rintro us s1 ⟨vs, H1, I1, r, q⟩
  exact ⟨I1.kIn, F.go hgd hr hb hd hx I1 r q⟩
theorem gcall0 (F : FnG X.prog X.w X.K X.mg X.base CX k f fd ps sp) (hgd : X.A.guards = some []) (hr : Room k X.A) (hg : Gl X x) (hm : X.mg x = some (.ref f)) (hk : PySem.W.keepIn X.K (.ref f) = true)
    (hb : Binds X.K fd ps ds) (hd : Vals dvs ds) (hx : Passes CX X E) (hdb : (x == ("__debug__" : Str)) = false) : PE X (.Call (.Name x p) [] [] pos) (tCall sp dvs E tNil) := by
  constructor
  intro pins s σ H Q I h
  refine wpAny_Call_Name_kw (ld_glob I hg hm ?_ hdb)
  exact PySem.W.callWith_K0 I.kIn hk (F.go (us := []) hgd hr hb hd hx I .nil h)

theorem gmeth {pl : Sem Bool} (he : PE X o ta) (c : Cls X.K C) (hm : Meth X.K C m f) (F : FnG X.prog X.w X.K X.mg X.base CX k f fd ps sp) (hgd : X.A.guards = some []) (hr : Room k X.A)
    (hb : Binds X.K fd ps ds) (hd : Vals dvs ds) (hx : Passes CX X E) (ha : PA X (e :: es) t) (hst : starEach (e :: es) X.env = (false, eval e X.env) :: starEach es X.env)
    (hpl : (backTo pos (starEach es X.env)).any (·.1) = false)
    (ht : eval (.Call (.Attribute o m apos) (e :: es) [] pos) X.env = (do
      let ov ← eval o X.env
      standAt apos.atName
      let (f, first) ← holding [ov] (getMethod ov m pl)
      callWith pos f first (backTo pos (starEach (e :: es) X.env)) (backToKw pos (keywordEach [] X.env)))) : PE X (.Call (.Attribute o m apos) (e :: es) [] pos) (tMeth C m sp dvs E ta t) := by
  constructor
  intro pins s σ H Q I h
  refine PySem.W.methodCall_KW (pl := pl) (thn (he.run pins s σ H _ I h) ?_) ht
  rintro u s1 ⟨x, H1, I1, rx, a, dx, fs, rfl, ea, l, q⟩
  obtain rfl : u = Value.ref a := rx
  refine getmeth_ok I1 ea c hm l ?_
  refine PySem.W.callWith_K (first := [.ref a]) (h₀ := X.base) I.ok.mod.kin hm.kp ?_ hst hpl
  refine thn (ha.run pos pins s1 σ H1 _ I1 q) ?_
  rintro us s2 ⟨vs, H2, I2, r, q2⟩
  exact ⟨I2.kIn, F.go (us := .ref a :: us) (vs := .ref a :: vs) hgd hr hb hd hx I2 (.cons rfl r) q2⟩
theorem gmeth0 {pl : Sem Bool} (he : PE X o ta) (c : Cls X.K C) (hm : Meth X.K C m f) (F : FnG X.prog X.w X.K X.mg X.base CX k f fd ps sp) (hgd : X.A.guards = some []) (hr : Room k X.A)
    (hb : Binds X.K fd ps ds) (hd : Vals dvs ds) (hx : Passes CX X E)
    (ht : eval (.Call (.Attribute o m apos) [] [] pos) X.env = (do
      let ov ← eval o X.env
      standAt apos.atName
      let (f, first) ← holding [ov] (getMethod ov m pl)
      callWith pos f first (backTo pos (starEach [] X.env)) (backToKw pos (keywordEach [] X.env)))) : PE X (.Call (.Attribute o m apos) [] [] pos) (tMeth C m sp dvs E ta tNil) := by
  constructor
  intro pins s σ H Q I h
  refine PySem.W.methodCall_KW (pl := pl) (thn (he.run pins s σ H _ I h) ?_) ht
  rintro u s1 ⟨x, H1, I1, rx, a, dx, fs, rfl, ea, l, q⟩
  obtain rfl : u = Value.ref a := rx
  refine getmeth_ok I1 ea c hm l ?_
  exact PySem.W.callWith_K0 (first := [.ref a]) I1.kIn hm.kp (F.go (us := [.ref a]) (vs := [.ref a]) hgd hr hb hd hx I1 (.cons rfl .nil) q)

theorem make_guards {A : Around} {us : List Value} {kw : List (Str × Value)} : (A.under (.builtin "type.__call__" ⟨.ref C :: us, kw⟩)).guards = A.guards := by
  have e : (Code.builtin "type.__call__" ⟨.ref C :: us, kw⟩).guards = [] := by
    unfold Code.guards
    rw [if_neg]
    first | decide | simp [Code.isGuard, guardIds]
  unfold Around.under
  dsimp only
  rw [e]; rfl
theorem FnG.made {pins : List (Addr × Obj)} {σ : L2.St} {H : Hp} {s : Shared} {Q : VK} {us : List Value} {vs : List V} (M : Mk X.K C f) (F : FnG X.prog X.w X.K X.mg X.base CX k f fd ps sp) (hgd : X.A.guards = some []) (hr : Room (k + 1) X.A)
    (hb : Binds X.K fd ps ds) (hd : Vals dvs ds) (hx : Passes CX X E) (I : Inv X pins σ H s) (r : Vals vs us)
    (h : ∀ x dx, H x = none → H dx = none → dx ≠ x → sp (.ref x :: (vs ++ dvs)) (upd (upd H dx (.own x)) x (.ins C dx [])) (fun v H2 => v = .non ∧ Q (.ref x) H2) E) :
    wpAny (model X.prog X.w) X.A (call (.ref C) us) (EP X pins σ Q) X.xe s := by
  generalize hz : s.heap.objs.size = z
  have f0 : ∀ i, z ≤ i → H i = none := fun i hi => I.hok.fresh (by rw [hz]; exact hi)
  have hq := h (z + 1) z (f0 _ (Nat.le_succ _)) (f0 _ (Nat.le_refl _)) (Nat.ne_of_lt (Nat.lt_succ_self _))
  have I2 := Inv.made (C := C) I
  rw [hz] at I2
  have r2 : Vals (V.ref (z + 1) :: (vs ++ dvs)) (Value.ref (z + 1) :: (us ++ ds)) := .cons rfl (r.append hd)
  have hl : (Value.ref (z + 1) :: us ++ ds).length = ps.length := r2.length.symm.trans (F.len _ _ _ _ hq)
  have e2 := I2.env0.make C us []
  have run := F.run (X.A.under (.builtin "type.__call__" ⟨.ref C :: us, []⟩)) X.stack _ _ ⟨Value.ref (z + 1) :: us, []⟩ (Value.ref (z + 1) :: (us ++ ds)) _ _ E (make_guards.trans hgd) (hr.make C us [])
    e2 (hb _ (Value.ref (z + 1) :: us) I2.kIn hl) r2 hq
  refine wpAny_call (make_map (f := f) I.kIn M.makes M.init (beq_iff_eq.mp M.fn) ?_)
  rw [hz]
  refine codeAny_mono run fun r s' hq' => ?_
  match r, hq' with
  | .error e, hq' => exact hx pins σ _ _ e s' I2 hq'
  | .ok (.ret u), hq' =>
    obtain ⟨v, H', I3, rv, ev, q3⟩ := I2.after hq'
    subst ev
    exact ⟨rv, ⟨V.ref (z + 1), H', I3, rfl, q3⟩⟩
theorem gmake (M : Mk X.K C f) (F : FnG X.prog X.w X.K X.mg X.base CX k f fd ps sp) (hgd : X.A.guards = some []) (hr : Room (k + 1) X.A) (hg : Gl X x) (hm : X.mg x = some (.ref C))
    (hb : Binds X.K fd ps ds) (hd : Vals dvs ds) (hx : Passes CX X E) (ha : PA X (e :: es) t) (hdb : (x == ("__debug__" : Str)) = false)
    (he : starEach (e :: es) X.env = (false, eval e X.env) :: starEach es X.env) (hpl : (backTo pos (starEach es X.env)).any (·.1) = false) :
    PE X (.Call (.Name x p) (e :: es) [] pos) (tMake C sp dvs E t) := by
  constructor
  intro pins s σ H Q I h
  refine wpAny_Call_Name_kw (ld_glob I hg hm ?_ hdb)
  refine PySem.W.callWith_K (h₀ := X.base) I.ok.mod.kin M.kp ?_ he hpl
  refine thn (ha.run pos pins s σ H _ I h) ?_
  rintro us s1 ⟨vs, H1, I1, r, q⟩
  exact ⟨I1.kIn, FnG.made M F hgd hr hb hd hx I1 r q⟩
end
end HI

set_option maxRecDepth 100000
set_option maxHeartbeats 4000000
/-! readings by the interpreter; operations -/
namespace HI
open PySem PySem.Spec PyProof.Rows L2

/-- the state: slots, objects -/
structure Sx (G : Gd) (σ : L2.St) (H : Hp) (π : Nat → Addr) (e : Ev) (h : Hh) : Prop where
  sl : σ = imE π e
  we : wfE h.length e
  hr : HR G π h H
theorem Sx.nx {G σ H π e h H' π' h'} (S : Sx G σ H π e h) (N : Nx π h π' h') (R : HR G π' h' H') : Sx G σ H' π' e h' :=
  ⟨S.sl.trans (N.imE S.we).symm, N.wfE S.we, R⟩

/-- a step comes to a value -/
structure Lf {α β : Type} (G : Gd) (f : (Nat → Addr) → α → β) (w : Nat → α → Prop) (m : Ev → Mo α) (σ : L2.St) (H : Hp) (Q : β → Hp → Prop) : Prop where
  has : ∃ π e h a h', Sx G σ H π e h ∧ m e h = some (.ok a, h') ∧ ∀ π' H', Nx π h π' h' → HR G π' h' H' → w h'.length a → Q (f π' a) H'
abbrev TEh (G : Gd) (m : Ev → Mo V) : TE := Lf G im wf m
abbrev TAh (G : Gd) (m : Ev → Mo (List V)) : TA := Lf G imL wfL m
abbrev TTh (G : Gd) (m : Ev → Mo Bool) : TT := Lf G (fun _ b => b) (fun _ _ => True) m
theorem Lf.go {α β : Type} {G : Gd} {f : (Nat → Addr) → α → β} {w : Nat → α → Prop} {m : Ev → Mo α} {σ : L2.St} {H : Hp} {Q : β → Hp → Prop} {π e h a h'} (S : Sx G σ H π e h) (hm : m e h = some (.ok a, h'))
    (k : ∀ π' H', Nx π h π' h' → Sx G σ H' π' e h' → w h'.length a → Q (f π' a) H') : Lf G f w m σ H Q :=
  ⟨π, e, h, a, h', S, hm, fun π' H' N R wa => k π' H' N (S.nx N R) wa⟩

theorem goE {G : Gd} {m : Ev → Mo V} {σ : L2.St} {H : Hp} {Q : VK} {π e h a h'} (S : Sx G σ H π e h) (hm : m e h = some (.ok a, h'))
    (k : ∀ π' H', Nx π h π' h' → Sx G σ H' π' e h' → wf h'.length a → Q (im π' a) H') : TEh G m σ H Q := Lf.go S hm k
theorem goT {G : Gd} {m : Ev → Mo Bool} {σ : L2.St} {H : Hp} {Q : Bool → Hp → Prop} {π e h a h'} (S : Sx G σ H π e h) (hm : m e h = some (.ok a, h'))
    (k : ∀ π' H', Nx π h π' h' → Sx G σ H' π' e h' → True → Q a H') : TTh G m σ H Q := Lf.go S hm k
theorem goA {G : Gd} {m : Ev → Mo (List V)} {σ : L2.St} {H : Hp} {Q : List V → Hp → Prop} {π e h a h'} (S : Sx G σ H π e h) (hm : m e h = some (.ok a, h'))
    (k : ∀ π' H', Nx π h π' h' → Sx G σ H' π' e h' → wfL h'.length a → Q (imL π' a) H') : TAh G m σ H Q := Lf.go S hm k

theorem bd_ok {α β : Type} {m : Mo α} {k : α → Mo β} {h h' : Hh} {b : β} (e : bd m k h = some (.ok b, h')) : ∃ a h1, m h = some (.ok a, h1) ∧ k a h1 = some (.ok b, h') := by
  unfold bd at e
  split at e
  · rename_i a h1 q; exact ⟨a, h1, q, e⟩
  · cases e
  · cases e
theorem rt_ok {α : Type} {a b : α} {h h' : Hh} (e : rt a h = some (.ok b, h')) : a = b ∧ h = h' := by
  unfold rt at e; cases e; exact ⟨rfl, rfl⟩
theorem opt_ok {α : Type} {o : Option α} {b : α} {h h' : Hh} (e : opt o h = some (.ok b, h')) : o = some b ∧ h = h' := by
  unfold opt at e
  cases o with
  | none => cases e
  | some a => cases e; exact ⟨rfl, rfl⟩
theorem look_ok {α : Type} {f : Hh → Option α} {b : α} {h h' : Hh} (e : look f h = some (.ok b, h')) : f h = some b ∧ h = h' := by
  unfold look at e
  cases q : f h with
  | none => rw [q] at e; cases e
  | some a => rw [q] at e; cases e; exact ⟨rfl, rfl⟩
theorem no_ok {α : Type} {b : α} {h h' : Hh} (e : (no : Mo α) h = some (.ok b, h')) : False := by
  unfold no at e; cases e

/-- what follows a step -/
abbrev Then (G : Gd) (Q : VK) (π : Nat → Addr) (h h' : Hh) (v : V) : Prop := ∀ π' H', Nx π h π' h' → HR G π' h' H' → wf h'.length v → Q (im π' v) H'
/-- a two-place operation by the interpreter -/
def R2h (G : Gd) (f : V → V → Mo V) : R2 := fun x y H Q => ∃ π h a b v h', x = im π a ∧ y = im π b ∧ wf h.length a ∧ wf h.length b ∧ HR G π h H ∧ f a b h = some (.ok v, h') ∧ Then G Q π h h' v
/-- a call by the interpreter -/
def RLh (G : Gd) (f : List V → Mo V) : List V → Hp → VK → Prop := fun xs H Q => ∃ π h vs v h', xs = imL π vs ∧ wfL h.length vs ∧ HR G π h H ∧ f vs h = some (.ok v, h') ∧ Then G Q π h h' v

section
variable {X : Cx} {G : Gd}
theorem im_int {π : Nat → Addr} {a : V} {i : Int} (e : im π a = .int i) : a = .int i := by cases a <;> first | exact e | cases e

theorem atI_map {α β : Type} {f : α → β} {xs : List α} {k : Int} {v : α} (e : atI xs k = some v) : atI (xs.map f) k = some (f v) := by
  unfold atI at *
  rw [List.length_map]
  cases hx : ixN xs.length k with
  | none => rw [hx] at e; cases e
  | some j =>
    rw [hx] at e
    show (xs.map f)[j]? = some (f v)
    have e2 : xs[j]? = some v := e
    rw [List.getElem?_map, e2]; rfl
theorem atI_mem {α : Type} {xs : List α} {k : Int} {v : α} (e : atI xs k = some v) : v ∈ xs := by
  unfold atI at e
  cases hx : ixN xs.length k with
  | none => rw [hx] at e; cases e
  | some j => rw [hx] at e; exact List.mem_of_getElem? (show xs[j]? = some v from e)
theorem cutV_im {π : Nat → Addr} {xs : List V} {lo hi : Option Int} : imL π (cutV xs lo hi) = cutV (imL π xs) lo hi := by
  unfold cutV
  rw [imL_len]
  show List.map _ _ = _
  rw [List.map_take, List.map_drop]
theorem cutV_wf {n : Nat} {xs : List V} {lo hi : Option Int} (w : wfL n xs) : wfL n (cutV xs lo hi) := fun v hv => w v (List.mem_of_mem_drop (List.mem_of_mem_take hv))
theorem rep_im {π : Nat → Addr} {xs : List V} : ∀ k : Nat, imL π (List.replicate k xs).flatten = (List.replicate k (imL π xs)).flatten
  | 0 => rfl
  | k + 1 => by
    rw [List.replicate_succ, List.replicate_succ, List.flatten_cons, List.flatten_cons, ← rep_im k]
    exact List.map_append
theorem rep_wf {n : Nat} {xs : List V} (w : wfL n xs) (k : Nat) : wfL n (List.replicate k xs).flatten := fun v hv => by
  obtain ⟨l, hl, hv⟩ := List.mem_flatten.mp hv
  rw [(List.mem_replicate.mp hl).2] at hv
  exact w v hv

/-- a new tuple, a new list at any free place -/
theorem new_tup {π : Nat → Addr} {h h' : Hh} {H : Hp} {Q : VK} {xs : List V} {v : V} (R : HR G π h H) (w : wfL h.length xs) (e : alloc (.tup xs) h = some (.ok v, h')) (q : Then G Q π h h' v) {p : Addr} (hp : H p = none) : Q (.ref p) (upd H p (.tup (imL π xs))) := by
  unfold alloc at e
  cases e
  have z := q _ _ (ext_nx (.tup xs) p) (R.tup hp w) (by show h.length < _; rw [List.length_append]; exact Nat.lt_succ_self _)
  have e2 : im (ext π h.length p) (.ref h.length) = .ref p := congrArg V.ref ext_at
  rw [e2] at z
  exact z
theorem new_lst {π : Nat → Addr} {h h' : Hh} {H : Hp} {Q : VK} {xs : List V} {v : V} (R : HR G π h H) (w : wfL h.length xs) (e : alloc (.lst xs) h = some (.ok v, h')) (q : Then G Q π h h' v) {p : Addr} (hp : H p = none) : Q (.ref p) (upd H p (.lst (imL π xs))) := by
  unfold alloc at e
  cases e
  have z := q _ _ (ext_nx (.lst xs) p) (R.lst hp w) (by show h.length < _; rw [List.length_append]; exact Nat.lt_succ_self _)
  have e2 : im (ext π h.length p) (.ref h.length) = .ref p := congrArg V.ref ext_at
  rw [e2] at z
  exact z
theorem wfL_app {n : Nat} {xs ys : List V} (a : wfL n xs) (b : wfL n ys) : wfL n (xs ++ ys) := fun v hv => (List.mem_append.mp hv).elim (a v) (b v)
theorem imL_app {π : Nat → Addr} {xs ys : List V} : imL π (xs ++ ys) = imL π xs ++ imL π ys := List.map_append

theorem int_op {f : Value → Value → Sem Value} {o : Op2}
    (rule : ∀ (i j : Int) (v : V), intOp o i j = some v → ∀ (pins : List (Addr × Obj)) (s : Shared) (σ : L2.St) (H : Hp) (a b : Value) (Q : VK), Inv X pins σ H s → RelV (.int i) a → RelV (.int j) b → Q v H → wpAny (model X.prog X.w) X.A (f a b) (EP X pins σ Q) X.xe s) :
    OpR X f (R2h G (intO o)) := by
  intro pins s σ H x y v u Q I rx ry h
  obtain ⟨π, h, a, b, r, h', rfl, rfl, wa, wb, R, e, q⟩ := h
  unfold intO at e
  split at e
  · rename_i i j
    obtain ⟨e1, e2⟩ := opt_ok e
    subst e2
    clear e
    have vi : im π r = r ∧ wf h.length r := by
      cases o <;> simp only [intOp] at e1 <;> (try split at e1) <;> cases e1 <;> exact ⟨rfl, trivial⟩
    have z := q π H Nx.refl R vi.2
    rw [vi.1] at z
    exact rule i j r e1 pins s σ H v u Q I rx ry z
  · exact (no_ok e).elim
theorem or_sub : OpR X (binaryOp .Sub) (R2h G (intO .sub)) := int_op fun i j v e pins s σ H a b Q I ra rb q => by
  cases e
  exact op_sub pins s σ H _ _ a b Q I ra rb ⟨i, j, rfl, rfl, q⟩
theorem or_fdiv : OpR X (binaryOp .FloorDiv) (R2h G (intO .fdiv)) := int_op fun i j v e pins s σ H a b Q I ra rb q => by
  simp only [intOp] at e
  split at e
  · rename_i c; cases e
    exact op_fdivW pins s σ H _ _ a b Q I ra rb ⟨i, j, rfl, rfl, c, q⟩
  · cases e
theorem or_mod : OpR X (binaryOp .Mod) (R2h G (intO .mod)) := int_op fun i j v e pins s σ H a b Q I ra rb q => by
  simp only [intOp] at e
  split at e
  · rename_i c; cases e
    exact op_mod pins s σ H _ _ a b Q I ra rb ⟨i, j, rfl, rfl, c, q⟩
  · cases e
theorem or_pow : OpR X (binaryOp .Pow) (R2h G (intO .pow)) := int_op fun i j v e pins s σ H a b Q I ra rb q => by
  simp only [intOp] at e
  split at e
  · rename_i c; cases e
    exact op_pow pins s σ H _ _ a b Q I ra rb ⟨i, j, rfl, rfl, c, q⟩
  · cases e
theorem or_shl : OpR X (binaryOp .LShift) (R2h G (intO .shl)) := int_op fun i j v e pins s σ H a b Q I ra rb q => by
  simp only [intOp] at e
  split at e
  · rename_i c; cases e
    exact op_shl pins s σ H _ _ a b Q I ra rb ⟨i, j, rfl, rfl, c, q⟩
  · cases e
theorem or_shr : OpR X (binaryOp .RShift) (R2h G (intO .shr)) := int_op fun i j v e pins s σ H a b Q I ra rb q => by
  simp only [intOp] at e
  split at e
  · rename_i c; cases e
    exact op_shr pins s σ H _ _ a b Q I ra rb ⟨i, j, rfl, rfl, c, q⟩
  · cases e
theorem or_band : OpR X (binaryOp .BitAnd) (R2h G (intO .band)) := int_op fun i j v e pins s σ H a b Q I ra rb q => by
  cases e
  exact op_and pins s σ H _ _ a b Q I ra rb ⟨i, j, rfl, rfl, q⟩
theorem or_lt : OpR X (compareOp .Lt) (R2h G (intO .lt)) := int_op fun i j v e pins s σ H a b Q I ra rb q => by
  cases e
  exact op_lt pins s σ H _ _ a b Q I ra rb ⟨i, j, rfl, rfl, q⟩
theorem or_le : OpR X (compareOp .LtE) (R2h G (intO .le)) := int_op fun i j v e pins s σ H a b Q I ra rb q => by
  cases e
  exact op_le pins s σ H _ _ a b Q I ra rb ⟨i, j, rfl, rfl, q⟩
theorem or_gt : OpR X (compareOp .Gt) (R2h G (intO .gt)) := int_op fun i j v e pins s σ H a b Q I ra rb q => by
  cases e
  exact op_gt pins s σ H _ _ a b Q I ra rb ⟨i, j, rfl, rfl, q⟩
theorem or_ge : OpR X (compareOp .GtE) (R2h G (intO .ge)) := int_op fun i j v e pins s σ H a b Q I ra rb q => by
  cases e
  exact op_ge pins s σ H _ _ a b Q I ra rb ⟨i, j, rfl, rfl, q⟩

theorem im_ref {π : Nat → Addr} {b : Nat} : im π (.ref b) = .ref (π b) := rfl
theorem same {π : Nat → Addr} {h : Hh} {H : Hp} {Q : VK} {v : V} (q : Then G Q π h h v) (R : HR G π h H) (w : wf h.length v) : Q (im π v) H := q π H Nx.refl R w

theorem or_add (hK : X.K = G.K) : OpR X (binaryOp .Add) (R2h G (op2 .add)) := by
  intro pins s σ H x y v u Q I rx ry h
  obtain ⟨π, h, a, b, r, h', rfl, rfl, wa, wb, R, e, q⟩ := h
  replace e : addO a b h = some (.ok r, h') := e
  unfold addO at e
  split at e
  · rename_i i j
    obtain ⟨e1, e2⟩ := rt_ok e
    subst e1 e2
    exact op_add pins s σ H _ _ v u Q I rx ry ⟨i, j, rfl, rfl, same q R trivial⟩
  · rename_i i j
    split at e
    · rename_i c
      obtain ⟨e1, e2⟩ := rt_ok e
      subst e1 e2
      exact op_add_str pins s σ H _ _ v u Q I rx ry ⟨i, j, rfl, rfl, c, same q R trivial⟩
    · exact (no_ok e).elim
  · rename_i c d
    split at e
    · rename_i xs ys hx hy
      split at e
      · rename_i hz
        obtain ⟨l1, w1⟩ := R.lstAt hx
        obtain ⟨l2, w2⟩ := R.lstAt hy
        refine op_cat pins s σ H _ _ v u Q I rx ry ⟨π c, π d, imL π xs, imL π ys, rfl, rfl, l1, l2, by rw [imL_len, imL_len]; exact hz, fun p hp => ?_⟩
        rw [← imL_app]
        exact new_lst R (wfL_app w1 w2) e q hp
      · cases e
    · split at e
      · rename_i xs ys hx hy
        obtain ⟨l1, w1⟩ := R.seqT hx
        obtain ⟨l2, w2⟩ := R.seqT hy
        rw [← hK] at l1 l2
        unfold catT at e
        split at e
        · rename_i hn
          subst hn
          obtain ⟨e1, e2⟩ := rt_ok e
          subst e1 e2
          exact op_catT0 pins s σ H _ _ v u Q I rx ry ⟨π c, π d, imL π ys, rfl, rfl, l1, l2, same (v := .ref d) q R wb⟩
        · rename_i hn
          have hn' : imL π xs ≠ [] := fun z => hn (List.map_eq_nil_iff.mp z)
          split at e
          · rename_i hm
            subst hm
            obtain ⟨e1, e2⟩ := rt_ok e
            subst e1 e2
            refine op_catT pins s σ H _ _ v u Q I rx ry ⟨π c, π d, imL π xs, [], rfl, rfl, l1, l2, hn', ?_, fun _ => same (v := .ref c) q R wa, fun z => absurd rfl z⟩
            obtain ⟨_, _, _, hz⟩ := I.tuple l1
            exact hz
          · rename_i hm
            split at e
            · rename_i hz
              refine op_catT pins s σ H _ _ v u Q I rx ry ⟨π c, π d, imL π xs, imL π ys, rfl, rfl, l1, l2, hn', by rw [imL_len, imL_len]; exact hz, fun z => absurd (List.map_eq_nil_iff.mp z) hm, fun _ p hp => ?_⟩
              rw [← imL_app]
              exact new_tup R (wfL_app w1 w2) e q hp
            · exact (no_ok e).elim
      · cases e
  · exact (no_ok e).elim

theorem or_mul (hK : X.K = G.K) : OpR X (binaryOp .Mult) (R2h G (op2 .mul)) := by
  intro pins s σ H x y v u Q I rx ry h
  obtain ⟨π, h, a, b, r, h', rfl, rfl, wa, wb, R, e, q⟩ := h
  replace e : mulO a b h = some (.ok r, h') := e
  unfold mulO at e
  split at e
  · rename_i i j
    obtain ⟨e1, e2⟩ := opt_ok e
    subst e2
    simp only [intOp] at e1
    split at e1
    · rename_i c
      cases e1
      exact op_mulW pins s σ H _ _ v u Q I rx ry ⟨i, j, rfl, rfl, c, same q R trivial⟩
    · cases e1
  · rename_i c k
    split at e
    · rename_i hk
      dsimp only at e
      split at e
      · rename_i xs hx
        split at e
        · rename_i hz
          obtain ⟨l1, w1⟩ := R.lstAt hx
          refine op_rep pins s σ H _ _ v u Q I rx ry ⟨π c, k, imL π xs, rfl, rfl, l1, hk.1, hk.2, by rw [imL_len]; exact hz, fun p hp => ?_⟩
          rw [← rep_im]
          exact new_lst R (rep_wf w1 _) e q hp
        · cases e
      · split at e
        · rename_i xs hx
          split at e
          · rename_i hz
            obtain ⟨l1, w1⟩ := R.seqT hx
            rw [← hK] at l1
            refine op_repT pins s σ H _ _ v u Q I rx ry ⟨π c, k, imL π xs, rfl, rfl, l1, hk.1, hk.2, by rw [imL_len]; exact hz, fun z => ?_, fun z p hp => ?_⟩
            · have z' : xs = [] ∨ k = 1 := z.imp (fun y => List.map_eq_nil_iff.mp y) id
              rw [if_pos z'] at e
              obtain ⟨e1, e2⟩ := rt_ok e
              subst e1 e2
              exact same (v := .ref c) q R wa
            · have z' : ¬ (xs = [] ∨ k = 1) := fun y => z (y.imp (fun t => by rw [t]; rfl) id)
              rw [if_neg z'] at e
              rw [← rep_im]
              exact new_tup R (rep_wf w1 _) e q hp
          · cases e
        · cases e
    · exact (no_ok e).elim
  · exact (no_ok e).elim

theorem eqD_ok {π : Nat → Addr} {h : Hh} {H : Hp} {x y : V} {b : Bool} (R : HR G π h H) (e : eqD h x y = some b) (wx : wf h.length x) (wy : wf h.length y) :
    ∃ d d', Dp G.K H (im π x) d ∧ Dp G.K H (im π y) d' ∧ SeqAt.shaped d = true ∧ SeqAt.shaped d' = true ∧ PyData.eqv d d' = b := by
  unfold eqD at e
  split at e
  · rename_i d d' h1 h2
    obtain ⟨a1, a2⟩ := rdS_dp R h1 wx
    obtain ⟨b1, b2⟩ := rdS_dp R h2 wy
    cases e
    exact ⟨d, d', a1, b1, a2, b2, rfl⟩
  · cases e
theorem eqO_cases {h : Hh} {x y : V} {c : Bool} (e : eqO h x y = some c) : (∃ s t, x = .str s ∧ y = .str t ∧ c = decide (V.str s = V.str t)) ∨ eqD h x y = some c := by
  unfold eqO at e
  split at e
  · rename_i b hb
    cases e
    unfold eqS at hb
    split at hb
    · cases hb
      exact .inl ⟨_, _, rfl, rfl, rfl⟩
    · cases hb
  · exact .inr e
theorem or_eq (hK : X.K = G.K) (hu : X.A.units + 64 < cLine) : OpR X (compareOp .Eq) (R2h G (op2 .eq)) := by
  intro pins s σ H x y v u Q I rx ry h
  obtain ⟨π, h, a, b, r, h', rfl, rfl, wa, wb, R, e, q⟩ := h
  obtain ⟨e1, e2⟩ := look_ok (f := fun h => (eqO h a b).map V.bl) e
  subst e2
  cases he : eqO h a b with
  | none => rw [he] at e1; cases e1
  | some c =>
    rw [he] at e1
    cases e1
    rcases eqO_cases he with ⟨s1, t1, rfl, rfl, rfl⟩ | he
    · exact op_eq pins s σ H _ _ v u Q I rx ry ⟨rfl, same (v := .bl _) q R trivial⟩
    · obtain ⟨d, d', h1, h2, s1, s2, hc⟩ := eqD_ok R he wa wb
      refine op_eqD hu pins s σ H _ _ v u Q I rx ry ⟨d, d', by rw [hK]; exact h1, by rw [hK]; exact h2, s1, s2, ?_⟩
      rw [hc]
      exact same (v := .bl c) q R trivial
theorem or_ne (hK : X.K = G.K) (hu : X.A.units + 64 < cLine) : OpR X (compareOp .NotEq) (R2h G (op2 .ne)) := by
  intro pins s σ H x y v u Q I rx ry h
  obtain ⟨π, h, a, b, r, h', rfl, rfl, wa, wb, R, e, q⟩ := h
  obtain ⟨e1, e2⟩ := look_ok (f := fun h => (eqO h a b).map fun b => V.bl !b) e
  subst e2
  cases he : eqO h a b with
  | none => rw [he] at e1; cases e1
  | some c =>
    rw [he] at e1
    cases e1
    rcases eqO_cases he with ⟨s1, t1, rfl, rfl, rfl⟩ | he
    · exact op_ne pins s σ H _ _ v u Q I rx ry ⟨rfl, same (v := .bl _) q R trivial⟩
    · obtain ⟨d, d', h1, h2, s1, s2, hc⟩ := eqD_ok R he wa wb
      refine op_neD hu pins s σ H _ _ v u Q I rx ry ⟨d, d', by rw [hK]; exact h1, by rw [hK]; exact h2, s1, s2, ?_⟩
      rw [hc]
      exact same (v := .bl !c) q R trivial
theorem inD_ok {π : Nat → Addr} {h : Hh} {H : Hp} {x y : V} {b : Bool} (R : HR G π h H) (e : inD h x y = some b) (wx : wf h.length x) (wy : wf h.length y) :
    ∃ d ds, Dp G.K H (im π x) d ∧ Dp G.K H (im π y) (.list ds) ∧ SeqAt.shaped d = true ∧ SeqAt.shaped (.list ds) = true ∧ (ds.any fun z => PyData.eqv z d) = b := by
  unfold inD at e
  split at e
  · rename_i d d' h1 h2
    obtain ⟨a1, a2⟩ := rdS_dp R h1 wx
    obtain ⟨b1, b2⟩ := rdS_dp R h2 wy
    cases e
    exact ⟨d, d', a1, b1, a2, b2, rfl⟩
  · cases e
theorem or_in (hK : X.K = G.K) (hu : X.A.units + 65 < cLine) : OpR X (compareOp .In) (R2h G (op2 .in_)) := by
  intro pins s σ H x y v u Q I rx ry h
  obtain ⟨π, h, a, b, r, h', rfl, rfl, wa, wb, R, e, q⟩ := h
  obtain ⟨e1, e2⟩ := look_ok (f := fun h => (inD h a b).map V.bl) e
  subst e2
  cases he : inD h a b with
  | none => rw [he] at e1; cases e1
  | some c =>
    rw [he] at e1
    cases e1
    obtain ⟨d, d', h1, h2, s1, s2, hc⟩ := inD_ok R he wa wb
    refine op_inD hu pins s σ H _ _ v u Q I rx ry ⟨d, d', by rw [hK]; exact h1, by rw [hK]; exact h2, s1, s2, ?_⟩
    rw [hc]
    exact same (v := .bl c) q R trivial
theorem or_notin (hK : X.K = G.K) (hu : X.A.units + 65 < cLine) : OpR X (compareOp .NotIn) (R2h G (op2 .notin)) := by
  intro pins s σ H x y v u Q I rx ry h
  obtain ⟨π, h, a, b, r, h', rfl, rfl, wa, wb, R, e, q⟩ := h
  obtain ⟨e1, e2⟩ := look_ok (f := fun h => (inD h a b).map fun b => V.bl !b) e
  subst e2
  cases he : inD h a b with
  | none => rw [he] at e1; cases e1
  | some c =>
    rw [he] at e1
    cases e1
    obtain ⟨d, d', h1, h2, s1, s2, hc⟩ := inD_ok R he wa wb
    refine op_notInD hu pins s σ H _ _ v u Q I rx ry ⟨d, d', by rw [hK]; exact h1, by rw [hK]; exact h2, s1, s2, ?_⟩
    rw [hc]
    exact same (v := .bl !c) q R trivial
theorem im_non {π : Nat → Addr} {x : V} : decide (im π x = .non) = decide (x = .non) := by
  cases x <;> rfl
theorem or_is : OpR X (compareOp .Is) (R2h G (op2 .is_)) := by
  intro pins s σ H x y v u Q I rx ry h
  obtain ⟨π, h, a, b, r, h', rfl, rfl, wa, wb, R, e, q⟩ := h
  obtain ⟨e1, e2⟩ := opt_ok (o := (isO2 a b).map V.bl) e
  subst e2
  obtain ⟨k, hk, e1⟩ := Option.map_eq_some_iff.mp e1
  subst e1
  unfold isO2 at hk
  split at hk
  · cases hk
    refine op_isN pins s σ H _ _ v u Q I rx ry ⟨rfl, ?_⟩
    rw [im_non]
    exact same (v := .bl _) q R trivial
  · split at hk
    · cases hk
      exact op_isBl pins s σ H _ _ v u Q I rx ry ⟨_, _, rfl, rfl, same (v := .bl _) q R trivial⟩
    · cases hk
  · cases hk
theorem or_isnot : OpR X (compareOp .IsNot) (R2h G (op2 .isnot)) := by
  intro pins s σ H x y v u Q I rx ry h
  obtain ⟨π, h, a, b, r, h', rfl, rfl, wa, wb, R, e, q⟩ := h
  obtain ⟨e1, e2⟩ := opt_ok (o := (isO2 a b).map fun b => V.bl !b) e
  subst e2
  obtain ⟨k, hk, e1⟩ := Option.map_eq_some_iff.mp e1
  subst e1
  unfold isO2 at hk
  split at hk
  · cases hk
    refine op_notN pins s σ H _ _ v u Q I rx ry ⟨rfl, ?_⟩
    rw [im_non]
    exact same (v := .bl _) q R trivial
  · split at hk
    · cases hk
      exact op_notBl pins s σ H _ _ v u Q I rx ry ⟨_, _, rfl, rfl, same (v := .bl _) q R trivial⟩
    · cases hk
  · cases hk

/-! ### subscripts -/
theorem ix_ok (hK : X.K = G.K) : IxR X (R2h G index) := by
  have base := ix_seq (X := X)
  intro value slice pins s σ H x y v u Q I rx ry h hs
  obtain ⟨π, h, a, b, r, h', rfl, rfl, wa, wb, R, e, q⟩ := h
  unfold index at e
  split at e
  · rename_i c k
    obtain ⟨e1, e2⟩ := look_ok e
    subst e2
    split at e1
    · rename_i xs hx
      obtain ⟨l1, w1⟩ := R.seqL hx
      rw [← hK] at l1
      exact base value slice pins s σ H _ _ v u Q I rx ry (.inl ⟨π c, imL π xs, k, im π r, rfl, rfl, l1, atI_map e1, same q R (w1 _ (atI_mem e1))⟩) hs
    · split at e1
      · rename_i xs hx
        obtain ⟨l1, w1⟩ := R.seqT hx
        rw [← hK] at l1
        exact base value slice pins s σ H _ _ v u Q I rx ry (.inr (.inl ⟨π c, imL π xs, k, im π r, rfl, rfl, l1, atI_map e1, same q R (w1 _ (atI_mem e1))⟩)) hs
      · cases e1
  · rename_i z k
    split at e
    · rename_i hz
      obtain ⟨e1, e2⟩ := opt_ok e
      subst e2
      cases hc : atI z.cps.toList k with
      | none => rw [hc] at e1; cases e1
      | some c =>
        rw [hc] at e1
        cases e1
        exact base value slice pins s σ H _ _ v u Q I rx ry (.inr (.inr ⟨z, k, c, rfl, rfl, hz, hc, same (v := .str ⟨#[c]⟩) q R trivial⟩)) hs
    · exact (no_ok e).elim
  · exact (no_ok e).elim
theorem set_ok : PSet X (fun o i v H Q => ∃ π h a b c h', o = im π a ∧ i = im π b ∧ v = im π c ∧ wf h.length a ∧ wf h.length b ∧ wf h.length c ∧ HR G π h H ∧ setAt a b c h = some (.ok (), h') ∧
    ∀ π' H', Nx π h π' h' → HR G π' h' H' → Q H') := by
  intro pins s σ H o i v ov iv u Q I ro ri rv h
  obtain ⟨π, h, a, b, c, h', rfl, rfl, rfl, wa, wb, wc, R, e, q⟩ := h
  unfold setAt at e
  split at e
  · rename_i d k
    split at e
    · rename_i xs hx
      cases hj : ixN xs.length k with
      | none => rw [hj] at e; cases e
      | some j =>
        rw [hj] at e
        cases e
        obtain ⟨l1, w1⟩ := R.lstAt hx
        refine set_list pins s σ H _ _ _ ov iv u Q I ro ri rv ⟨π d, imL π xs, k, j, rfl, rfl, l1, by rw [imL_len]; exact hj, ?_⟩
        have e2 : (imL π xs).set j (im π c) = imL π (xs.set j c) := (List.map_set).symm
        rw [e2]
        refine q π _ set_nx (R.setL hx fun y hy => ?_)
        rcases List.mem_or_eq_of_mem_set hy with z | z
        · exact w1 y z
        · rw [z]; exact wc
    · cases e
  · exact (no_ok e).elim
end
end HI

set_option maxRecDepth 100000
set_option maxHeartbeats 4000000
/-! built-in functions, methods of lists -/
namespace HI
open PySem PySem.Spec PyProof.Rows L2
section
variable {X : Cx} {G : Gd}
theorem RLh.one {f : List V → Mo V} {xs : List V} {H : Hp} {Q : VK} (h : RLh G f xs H Q) : RLh G f xs H Q := h

theorem cr_len (hK : X.K = G.K) : CallR X (.builtin "len") (RLh G (bfn "len")) := by
  intro pins s σ H xs us Q I r h
  obtain ⟨π, h, vs, v, h', rfl, wv, R, e, q⟩ := h
  unfold bfn at e
  split at e
  · rename_i x
    have wx : wf h.length x := wv x List.mem_cons_self
    replace e : lenO x h = some (.ok v, h') := e
    unfold lenO at e
    split at e
    · rename_i a
      obtain ⟨e1, e2⟩ := look_ok e
      subst e2
      split at e1
      · rename_i ys hy
        cases e1
        obtain ⟨l1, _⟩ := R.seqL hy
        rw [← hK] at l1
        exact call_len pins s σ H _ us Q I r ⟨_, ys.length, rfl, .inl ⟨_, l1, by rw [imL_len]⟩, same (v := .int ys.length) q R trivial⟩
      · split at e1
        · rename_i ys hy
          cases e1
          obtain ⟨l1, _⟩ := R.seqT hy
          rw [← hK] at l1
          exact call_len pins s σ H _ us Q I r ⟨_, ys.length, rfl, .inr ⟨_, l1, by rw [imL_len]⟩, same (v := .int ys.length) q R trivial⟩
        · cases e1
    · rename_i z
      split at e
      · rename_i hz
        obtain ⟨e1, e2⟩ := rt_ok e
        subst e1 e2
        exact call_len pins s σ H _ us Q I r ⟨_, z.length, rfl, ⟨hz, rfl⟩, same (v := .int z.length) q R trivial⟩
      · exact (no_ok e).elim
    · exact (no_ok e).elim
  · exact (no_ok e).elim
  · exact (no_ok e).elim
  · exact (no_ok e).elim
theorem cr_abs : CallR X (.builtin "abs") (RLh G (bfn "abs")) := by
  intro pins s σ H xs us Q I r h
  obtain ⟨π, h, vs, v, h', rfl, wv, R, e, q⟩ := h
  unfold bfn at e
  split at e
  · rename_i x
    replace e : absO x h = some (.ok v, h') := e
    unfold absO at e
    split at e
    · rename_i i
      obtain ⟨e1, e2⟩ := rt_ok e
      subst e1 e2
      exact call_abs pins s σ H _ us Q I r ⟨i, rfl, same (v := .int _) q R trivial⟩
    · exact (no_ok e).elim
  · exact (no_ok e).elim
  · exact (no_ok e).elim
  · exact (no_ok e).elim
theorem cr_int : CallR X (.type "int") (RLh G (bfn "int")) := by
  intro pins s σ H xs us Q I r h
  obtain ⟨π, h, vs, v, h', rfl, wv, R, e, q⟩ := h
  unfold bfn at e
  split at e
  · rename_i x
    replace e : intC x h = some (.ok v, h') := e
    unfold intC at e
    split at e
    · rename_i i
      obtain ⟨e1, e2⟩ := rt_ok e
      subst e1 e2
      exact call_int1 pins s σ H _ us Q I r (.inl ⟨i, rfl, same (v := .int _) q R trivial⟩)
    · rename_i b
      obtain ⟨e1, e2⟩ := rt_ok e
      subst e1 e2
      exact call_int1 pins s σ H _ us Q I r (.inr ⟨b, rfl, same (v := .int _) q R trivial⟩)
    · exact (no_ok e).elim
  · exact (no_ok e).elim
  · exact (no_ok e).elim
  · exact (no_ok e).elim
theorem boolsO_ok : ∀ {xs : List V} {bs : List Bool}, boolsO xs = some bs → xs = bs.map V.bl
  | [], bs, e => by
    unfold boolsO at e
    rw [List.mapM_nil] at e
    cases e; rfl
  | x :: r, bs, e => by
    unfold boolsO at e
    rw [List.mapM_cons] at e
    cases x with
    | bl b =>
      cases hr : boolsO r with
      | none => unfold boolsO at hr; simp only [hr] at e; cases e
      | some cs =>
        have e2 := boolsO_ok hr
        unfold boolsO at hr; simp only [hr] at e
        cases e
        rw [e2]; rfl
    | _ => cases e
theorem intsO_ok : ∀ {xs : List V} {bs : List Int}, intsO xs = some bs → xs = bs.map V.int
  | [], bs, e => by
    unfold intsO at e
    rw [List.mapM_nil] at e
    cases e; rfl
  | x :: r, bs, e => by
    unfold intsO at e
    rw [List.mapM_cons] at e
    cases x with
    | int b =>
      cases hr : intsO r with
      | none => unfold intsO at hr; simp only [hr] at e; cases e
      | some cs =>
        have e2 := intsO_ok hr
        unfold intsO at hr; simp only [hr] at e
        cases e
        rw [e2]; rfl
    | _ => cases e
theorem imL_bl {π : Nat → Addr} {bs : List Bool} : imL π (bs.map V.bl) = bs.map V.bl := by
  show List.map _ (List.map _ _) = _
  rw [List.map_map]; rfl
theorem imL_int {π : Nat → Addr} {bs : List Int} : imL π (bs.map V.int) = bs.map V.int := by
  show List.map _ (List.map _ _) = _
  rw [List.map_map]; rfl
theorem maxI_ok : ∀ {ns : List Int} {m : Int}, maxI ns = some m → 0 < ns.length ∧ m ∈ ns ∧ ∀ y ∈ ns, y ≤ m
  | [], m, e => by cases e
  | x :: r, m, e => by
    refine ⟨Nat.succ_pos _, ?_⟩
    unfold maxI at e
    cases hr : maxI r with
    | none =>
      rw [hr] at e
      cases e
      cases r with
      | nil => exact ⟨List.mem_cons_self, fun y hy => by rw [List.mem_singleton.mp hy]; exact Int.le_refl _⟩
      | cons z r => unfold maxI at hr; split at hr <;> cases hr
    | some k =>
      obtain ⟨_, h1, h2⟩ := maxI_ok hr
      rw [hr] at e
      dsimp only at e
      split at e <;> cases e
      · exact ⟨List.mem_cons_of_mem _ h1, fun y hy => by rcases List.mem_cons.mp hy with rfl | hy; exact Int.le_of_lt (by assumption); exact h2 y hy⟩
      · exact ⟨List.mem_cons_self, fun y hy => by rcases List.mem_cons.mp hy with rfl | hy; exact Int.le_refl _; exact Int.le_trans (h2 y hy) (by omega)⟩
theorem minI_ok : ∀ {ns : List Int} {m : Int}, minI ns = some m → 0 < ns.length ∧ m ∈ ns ∧ ∀ y ∈ ns, m ≤ y
  | [], m, e => by cases e
  | x :: r, m, e => by
    refine ⟨Nat.succ_pos _, ?_⟩
    unfold minI at e
    cases hr : minI r with
    | none =>
      rw [hr] at e
      cases e
      cases r with
      | nil => exact ⟨List.mem_cons_self, fun y hy => by rw [List.mem_singleton.mp hy]; exact Int.le_refl _⟩
      | cons z r => unfold minI at hr; split at hr <;> cases hr
    | some k =>
      obtain ⟨_, h1, h2⟩ := minI_ok hr
      rw [hr] at e
      dsimp only at e
      split at e <;> cases e
      · exact ⟨List.mem_cons_of_mem _ h1, fun y hy => by rcases List.mem_cons.mp hy with rfl | hy; exact Int.le_of_lt (by assumption); exact h2 y hy⟩
      · exact ⟨List.mem_cons_self, fun y hy => by rcases List.mem_cons.mp hy with rfl | hy; exact Int.le_refl _; exact Int.le_trans (by omega) (h2 y hy)⟩
theorem cr_all (hc : X.calm = true) (hK : X.K = G.K) : CallR X (.builtin "all") (RLh G (bfn "all")) := by
  intro pins s σ H xs us Q I r h
  obtain ⟨π, h, vs, v, h', rfl, wv, R, e, q⟩ := h
  unfold bfn at e
  split at e
  · rename_i x
    replace e : allO x h = some (.ok v, h') := e
    unfold allO at e
    split at e
    · rename_i a
      obtain ⟨e1, e2⟩ := look_ok e
      subst e2
      obtain ⟨xs, hx, e1⟩ := Option.bind_eq_some_iff.mp e1
      obtain ⟨bs, hb, e1⟩ := Option.map_eq_some_iff.mp e1
      subst e1
      obtain rfl := boolsO_ok hb
      obtain ⟨l1, _⟩ := R.seqL hx
      rw [← hK, imL_bl] at l1
      exact L2.cr_all hc pins s σ H _ us Q I r ⟨_, bs, rfl, l1, same (v := .bl _) q R trivial⟩
    · exact (no_ok e).elim
  · exact (no_ok e).elim
  · exact (no_ok e).elim
  · exact (no_ok e).elim
theorem cr_any (hc : X.calm = true) (hK : X.K = G.K) : CallR X (.builtin "any") (RLh G (bfn "any")) := by
  intro pins s σ H xs us Q I r h
  obtain ⟨π, h, vs, v, h', rfl, wv, R, e, q⟩ := h
  unfold bfn at e
  split at e
  · rename_i x
    replace e : anyO x h = some (.ok v, h') := e
    unfold anyO at e
    split at e
    · rename_i a
      obtain ⟨e1, e2⟩ := look_ok e
      subst e2
      obtain ⟨xs, hx, e1⟩ := Option.bind_eq_some_iff.mp e1
      obtain ⟨bs, hb, e1⟩ := Option.map_eq_some_iff.mp e1
      subst e1
      obtain rfl := boolsO_ok hb
      obtain ⟨l1, _⟩ := R.seqL hx
      rw [← hK, imL_bl] at l1
      exact L2.cr_any hc pins s σ H _ us Q I r ⟨_, bs, rfl, l1, same (v := .bl _) q R trivial⟩
    · exact (no_ok e).elim
  · exact (no_ok e).elim
  · exact (no_ok e).elim
  · exact (no_ok e).elim
theorem cr_sum (hc : X.calm = true) (hK : X.K = G.K) : CallR X (.builtin "sum") (RLh G (bfn "sum")) := by
  intro pins s σ H xs us Q I r h
  obtain ⟨π, h, vs, v, h', rfl, wv, R, e, q⟩ := h
  unfold bfn at e
  split at e
  · rename_i x
    replace e : sumO x h = some (.ok v, h') := e
    unfold sumO at e
    split at e
    · rename_i a
      obtain ⟨e1, e2⟩ := look_ok e
      subst e2
      obtain ⟨xs, hx, e1⟩ := Option.bind_eq_some_iff.mp e1
      obtain ⟨bs, hb, e1⟩ := Option.map_eq_some_iff.mp e1
      subst e1
      obtain rfl := intsO_ok hb
      obtain ⟨l1, _⟩ := R.seqL hx
      rw [← hK, imL_int] at l1
      exact L2.cr_sum hc pins s σ H _ us Q I r ⟨_, bs, rfl, l1, same (v := .int _) q R trivial⟩
    · exact (no_ok e).elim
  · exact (no_ok e).elim
  · exact (no_ok e).elim
  · exact (no_ok e).elim
theorem cr_max (hc : X.calm = true) (hK : X.K = G.K) : CallR X (.builtin "max") (RLh G (bfn "max")) := by
  intro pins s σ H xs us Q I r h
  obtain ⟨π, h, vs, v, h', rfl, wv, R, e, q⟩ := h
  unfold bfn at e
  split at e
  · rename_i x
    replace e : maxO x h = some (.ok v, h') := e
    unfold maxO at e
    split at e
    · rename_i a
      obtain ⟨e1, e2⟩ := look_ok e
      subst e2
      obtain ⟨xs, hx, e1⟩ := Option.bind_eq_some_iff.mp e1
      obtain ⟨bs, hb, e1⟩ := Option.bind_eq_some_iff.mp e1
      obtain ⟨m, hm, e1⟩ := Option.map_eq_some_iff.mp e1
      subst e1
      obtain rfl := intsO_ok hb
      obtain ⟨l1, _⟩ := R.seqL hx
      rw [← hK, imL_int] at l1
      obtain ⟨m1, m2, m3⟩ := maxI_ok hm
      refine L2.cr_max hc pins s σ H _ us Q I r ⟨_, bs, rfl, l1, m1, fun k k1 k2 => ?_⟩
      obtain rfl : k = m := Int.le_antisymm (m3 k k1) (k2 m m2)
      exact same (v := .int _) q R trivial
    · exact (no_ok e).elim
  · rename_i i j
    obtain ⟨e1, e2⟩ := rt_ok e
    subst e1 e2
    exact call_max2 hc pins s σ H _ us Q I r ⟨i, j, rfl, same (v := .int _) q R trivial⟩
  · exact (no_ok e).elim
  · exact (no_ok e).elim
theorem cr_min (hc : X.calm = true) (hK : X.K = G.K) : CallR X (.builtin "min") (RLh G (bfn "min")) := by
  intro pins s σ H xs us Q I r h
  obtain ⟨π, h, vs, v, h', rfl, wv, R, e, q⟩ := h
  unfold bfn at e
  split at e
  · rename_i x
    replace e : minO x h = some (.ok v, h') := e
    unfold minO at e
    split at e
    · rename_i a
      obtain ⟨e1, e2⟩ := look_ok e
      subst e2
      obtain ⟨xs, hx, e1⟩ := Option.bind_eq_some_iff.mp e1
      obtain ⟨bs, hb, e1⟩ := Option.bind_eq_some_iff.mp e1
      obtain ⟨m, hm, e1⟩ := Option.map_eq_some_iff.mp e1
      subst e1
      obtain rfl := intsO_ok hb
      obtain ⟨l1, _⟩ := R.seqL hx
      rw [← hK, imL_int] at l1
      obtain ⟨m1, m2, m3⟩ := minI_ok hm
      refine L2.cr_min hc pins s σ H _ us Q I r ⟨_, bs, rfl, l1, m1, fun k k1 k2 => ?_⟩
      obtain rfl : k = m := Int.le_antisymm (k2 m m2) (m3 k k1)
      exact same (v := .int _) q R trivial
    · exact (no_ok e).elim
  · rename_i i j
    obtain ⟨e1, e2⟩ := rt_ok e
    subst e1 e2
    exact call_min2 hc pins s σ H _ us Q I r ⟨i, j, rfl, same (v := .int _) q R trivial⟩
  · exact (no_ok e).elim
  · exact (no_ok e).elim
/-- a thing's type, in the heap -/
theorem tyO_ok {π : Nat → Addr} {h : Hh} {H : Hp} (R : HR G π h H) {x : V} {t : String} (e : tyO h x = some t) : TyX G.K H (im π x) (.type t) := by
  cases x with
  | non => cases e; exact .base .non
  | bl b => cases e; exact .base (.bl b)
  | int b => cases e; exact .base (.int b)
  | str b => cases e; exact .base (.str b)
  | ref a =>
    unfold tyO at e
    dsimp only at e
    split at e
    · rename_i xs hx
      cases e
      unfold seqL at hx
      split at hx
      · rename_i hg
        exact .base (.lst (R.ob _ _ hg))
      · rename_i hg
        rcases R.ob _ _ hg with ⟨o, z⟩ | ⟨o, its, n, h1, h2, _⟩
        · exact .base (.frz z)
        · exact .kList h1 h2
      · cases hx
    · split at e
      · rename_i xs hx
        cases e
        unfold seqT at hx
        split at hx
        · rename_i hg
          exact .base (.tup (R.ob _ _ hg))
        · rename_i hg
          obtain ⟨o, its, n, h1, h2, _⟩ := R.ob _ _ hg
          exact .kTuple h1 h2
        · cases hx
      · cases e
  | _ => cases e
theorem subTy_ok {K : PySem.W.Frag} {h : Hh} {x : V} {s : String} (e : tyO h x = some s) {t : String} (ht : t ∈ ["int", "bool", "list", "tuple", "str"]) : PySem.W.kitOne K (.type s) (.type t) = some (subTy s t) := by
  have hs : s ∈ ["NoneType", "bool", "int", "str", "list", "tuple"] := by
    cases x with
    | non => cases e; decide
    | bl b => cases e; decide
    | int b => cases e; decide
    | str b => cases e; decide
    | ref a =>
      unfold tyO at e
      dsimp only at e
      split at e
      · cases e; decide
      · split at e
        · cases e; decide
        · cases e
    | _ => cases e
  have all : ∀ s ∈ ["NoneType", "bool", "int", "str", "list", "tuple"], ∀ t ∈ ["int", "bool", "list", "tuple", "str"], kitB s t = some (subTy s t) := by decide +kernel
  exact kit_ty (all s hs t ht)
theorem cr_tuple (hK : X.K = G.K) : CallR X (.type "tuple") (RLh G (bfn "tuple")) := by
  intro pins s σ H xs us Q I r h
  obtain ⟨π, h, vs, v, h', rfl, wv, R, e, q⟩ := h
  unfold bfn at e
  split at e
  · rename_i x
    have wx : wf h.length x := wv x List.mem_cons_self
    replace e : tupleO x h = some (.ok v, h') := e
    unfold tupleO at e
    split at e
    · rename_i a
      split at e
      · rename_i ys hy
        obtain ⟨l1, w1⟩ := R.seqL hy
        rw [← hK] at l1
        exact call_tuple_of pins s σ H _ us Q I r ⟨_, _, rfl, .inl ⟨l1, fun l hl => new_tup R w1 e q hl⟩⟩
      · split at e
        · rename_i ys hy
          obtain ⟨l1, w1⟩ := R.seqT hy
          rw [← hK] at l1
          obtain ⟨e1, e2⟩ := rt_ok e
          subst e1 e2
          exact call_tuple_of pins s σ H _ us Q I r ⟨_, _, rfl, .inr ⟨l1, same (v := .ref a) q R wx⟩⟩
        · cases e
    · exact (no_ok e).elim
  · exact (no_ok e).elim
  · exact (no_ok e).elim
  · exact (no_ok e).elim
theorem cr_list (hK : X.K = G.K) : CallR X (.type "list") (RLh G (bfn "list")) := by
  intro pins s σ H xs us Q I r h
  obtain ⟨π, h, vs, v, h', rfl, wv, R, e, q⟩ := h
  unfold bfn at e
  split at e
  · rename_i x
    replace e : listO x h = some (.ok v, h') := e
    unfold listO at e
    split at e
    · rename_i a
      split at e
      · rename_i ys hy
        obtain ⟨l1, w1⟩ := R.seqL hy
        rw [← hK] at l1
        exact call_list_of pins s σ H _ us Q I r ⟨_, _, rfl, .inl l1, fun l hl => new_lst R w1 e q hl⟩
      · split at e
        · rename_i ys hy
          obtain ⟨l1, w1⟩ := R.seqT hy
          rw [← hK] at l1
          exact call_list_of pins s σ H _ us Q I r ⟨_, _, rfl, .inr l1, fun l hl => new_lst R w1 e q hl⟩
        · cases e
    · exact (no_ok e).elim
  · exact (no_ok e).elim
  · exact (no_ok e).elim
  · exact (no_ok e).elim
theorem cr_repr (hK : X.K = G.K) (hg : X.A.guards = some []) (hu : X.A.units + 66 < cLine) : CallR X (.builtin "repr") (RLh G (bfn "repr")) := by
  intro pins s σ H xs us Q I r h
  obtain ⟨π, h, vs, v, h', rfl, wv, R, e, q⟩ := h
  unfold bfn at e
  split at e
  · rename_i x
    have wx : wf h.length x := wv x List.mem_cons_self
    replace e : reprO x h = some (.ok v, h') := e
    unfold reprO at e
    obtain ⟨e1, e2⟩ := look_ok e
    subst e2
    split at e1
    · rename_i d hd
      split at e1
      · rename_i hs
        obtain ⟨hs, hn, hz⟩ := hs
        cases e1
        obtain ⟨dp, sh⟩ := rdS_dp R hd wx
        rw [← hK] at dp
        obtain ⟨u, rfl, ru⟩ := vals1 r
        have qq : Q (.str d.shown) H := same (v := .str d.shown) q R trivial
        have fin : EP X pins σ Q (.str d.shown s.toks) { s with toks := s.toks + 1 } := ⟨.str d.shown, H, I.tok _, ⟨_, rfl⟩, qq⟩
        obtain ⟨as, rr⟩ := Dp.reads I d _ u dp ru
        have dpt := SeqAt.depth_of_shaped sh
        cases rr with
        | none => exact PySem.P.repr_of_none fin
        | bool b => exact PySem.P.repr_of_bool fin
        | int i t => exact PySem.P.repr_of_int (of_decide_eq_true (by simpa [PyData.showable] using hs)) fin
        | str y t => exact PySem.P.repr_of_str fin hz
        | list h1 h2 h3 h4 =>
          refine repr_of_reads' (.list h1 h2 h3 h4) hs (fun z => by rw [hn] at z; cases z) hg (by omega) (fun _ _ z => z) (fun h' u tk hk => ?_) hz
          exact ⟨.str _, H, I.kept hk, ⟨_, rfl⟩, qq⟩
        | tuple h1 h2 h3 h4 =>
          refine repr_of_reads' (.tuple h1 h2 h3 h4) hs (fun z => by rw [hn] at z; cases z) hg (by omega) (fun _ _ z => z) (fun h' u tk hk => ?_) hz
          exact ⟨.str _, H, I.kept hk, ⟨_, rfl⟩, qq⟩
        | dict h1 h2 h3 h4 h5 => exact absurd hn (by simp [PyData.hasDict])
      · cases e1
    · cases e1
  · exact (no_ok e).elim
  · exact (no_ok e).elim
  · exact (no_ok e).elim

/-- a list's method by the interpreter: the receiver at a -/
def RMh (G : Gd) (m : String) : V → List V → Hp → VK → Prop := fun x xs H Q => ∃ π h a vs v h', x = im π (.ref a) ∧ xs = imL π vs ∧ a < h.length ∧ wfL h.length vs ∧ HR G π h H ∧ lmeth m a vs h = some (.ok v, h') ∧ Then G Q π h h' v
theorem mr_append : MtR X "list.append" (RMh G "append") := by
  intro pins s σ H x xs v us Q I rx rs h
  obtain ⟨π, h, a, vs, r, h', rfl, rfl, wa, wv, R, e, q⟩ := h
  unfold lmeth at e
  split at e
  · cases e
  · rename_i ys hy
    obtain ⟨l1, w1⟩ := R.lstAt hy
    split at e
    · rename_i y _
      split at e
      · rename_i hz
        cases e
        refine mt_append pins s σ H _ _ v us Q I rx rs ⟨π a, imL π ys, im π y, rfl, rfl, l1, by rw [imL_len]; exact hz, ?_⟩
        have wy : wfL h.length (ys ++ [y]) := wfL_app w1 wv
        have z := q π _ set_nx (R.setL hy wy) trivial
        rw [imL_app] at z
        exact z
      · cases e
    all_goals (first | (rename_i z; exact absurd z (by decide)) | (cases e; done))
theorem mr_insert : MtR X "list.insert" (RMh G "insert") := by
  intro pins s σ H x xs v us Q I rx rs h
  obtain ⟨π, h, a, vs, r, h', rfl, rfl, wa, wv, R, e, q⟩ := h
  unfold lmeth at e
  split at e
  · cases e
  · rename_i ys hy
    obtain ⟨l1, w1⟩ := R.lstAt hy
    split at e
    · rename_i z; exact absurd z (by decide)
    · rename_i i y _
      split at e
      · rename_i hz
        obtain ⟨hz, h0, h1⟩ := hz
        cases e
        refine mt_insert pins s σ H _ _ v us Q I rx rs ⟨π a, imL π ys, i, im π y, rfl, rfl, l1, by rw [imL_len]; exact hz, h0, h1, ?_⟩
        have wy : wfL h.length (ys.take i.toNat ++ [y] ++ ys.drop i.toNat) := wfL_app (wfL_app (fun u hu => w1 u (List.mem_of_mem_take hu)) fun u hu => wv u (by rw [List.mem_singleton.mp hu]; simp)) fun u hu => w1 u (List.mem_of_mem_drop hu)
        have z := q π _ set_nx (R.setL hy wy) trivial
        rw [imL_app, imL_app] at z
        have e1 : imL π (ys.take i.toNat) = (imL π ys).take i.toNat := List.map_take
        have e2 : imL π (ys.drop i.toNat) = (imL π ys).drop i.toNat := List.map_drop
        rw [e1, e2] at z
        exact z
      · cases e
    all_goals (first | (rename_i z; exact absurd z (by decide)) | (cases e; done))
theorem mr_clear : MtR X "list.clear" (RMh G "clear") := by
  intro pins s σ H x xs v us Q I rx rs h
  obtain ⟨π, h, a, vs, r, h', rfl, rfl, wa, wv, R, e, q⟩ := h
  unfold lmeth at e
  split at e
  · cases e
  · rename_i ys hy
    obtain ⟨l1, w1⟩ := R.lstAt hy
    split at e
    · rename_i z; exact absurd z (by decide)
    · rename_i z; exact absurd z (by decide)
    · cases e
      refine mt_clear pins s σ H _ _ v us Q I rx rs ⟨π a, imL π ys, rfl, rfl, l1, ?_⟩
      exact q π _ set_nx (R.setL hy (ys := []) fun u hu => nomatch hu) trivial
    all_goals (first | (rename_i z; exact absurd z (by decide)) | (cases e; done))
theorem mr_reverse : MtR X "list.reverse" (RMh G "reverse") := by
  intro pins s σ H x xs v us Q I rx rs h
  obtain ⟨π, h, a, vs, r, h', rfl, rfl, wa, wv, R, e, q⟩ := h
  unfold lmeth at e
  split at e
  · cases e
  · rename_i ys hy
    obtain ⟨l1, w1⟩ := R.lstAt hy
    split at e
    · rename_i z; exact absurd z (by decide)
    · rename_i z; exact absurd z (by decide)
    · rename_i z; exact absurd z (by decide)
    · cases e
      refine mt_reverse pins s σ H _ _ v us Q I rx rs ⟨π a, imL π ys, rfl, rfl, l1, ?_⟩
      have z := q π _ set_nx (R.setL hy (ys := ys.reverse) fun u hu => w1 u (List.mem_reverse.mp hu)) trivial
      have e1 : imL π ys.reverse = (imL π ys).reverse := List.map_reverse
      rw [e1] at z
      exact z
    all_goals (first | (rename_i z; exact absurd z (by decide)) | (cases e; done))
end
end HI

set_option maxRecDepth 100000
set_option maxHeartbeats 4000000
/-! sorted -/
namespace HI
open PySem PySem.Spec PyProof.Rows L2 SrtO

section
variable {α : Type} {lt : α → α → Bool}
theorem ins_perm (x : α) : ∀ l : List α, (ins lt x l).Perm (x :: l)
  | [] => List.Perm.refl _
  | y :: r => by
    unfold ins
    split
    · exact ((ins_perm x r).cons y).trans (List.Perm.swap x y r)
    · exact List.Perm.refl _
theorem isort_perm : ∀ l : List α, (isort lt l).Perm l
  | [] => List.Perm.refl _
  | x :: r => (ins_perm x _).trans ((isort_perm r).cons x)
theorem isort_mem {l : List α} {x : α} : x ∈ isort lt l ↔ x ∈ l := (isort_perm l).mem_iff
theorem isort_len {l : List α} : (isort lt l).length = l.length := (isort_perm l).length_eq
theorem ins_sorted (O : Swo lt) (x : α) : ∀ {l : List α}, Srtd lt l → Srtd lt (ins lt x l)
  | [], _ => srtd_one x
  | y :: r, h => by
    unfold ins
    split
    · rename_i c
      refine List.pairwise_cons.mpr ⟨fun z hz => ?_, ins_sorted O x (List.pairwise_cons.mp h).2⟩
      rcases List.mem_cons.mp ((ins_perm x r).mem_iff.mp hz) with rfl | hz
      · exact O.asym _ _ c
      · exact srtd_head h z hz
    · rename_i c
      have c : lt y x = false := by simpa using c
      refine List.pairwise_cons.mpr ⟨fun z hz => ?_, h⟩
      rcases List.mem_cons.mp hz with rfl | hz
      · exact c
      · exact O.tr _ _ _ c (srtd_head h z hz)
theorem isort_sorted (O : Swo lt) : ∀ l : List α, Srtd lt (isort lt l)
  | [] => List.Pairwise.nil
  | x :: r => ins_sorted O x (isort_sorted O r)
theorem ins_stb (O : Swo lt) (x : α) : ∀ l : List α, Stb lt (ins lt x l) (x :: l)
  | [] => Stb.refl _
  | y :: r => by
    unfold ins
    split
    · rename_i c
      refine ⟨((ins_perm x r).cons y).trans (List.Perm.swap x y r), fun z => ?_⟩
      have e := (ins_stb O x r).cls z
      rw [List.filter_cons, e, List.filter_cons, List.filter_cons, List.filter_cons]
      split
      · rename_i h1
        split
        · rename_i h2
          have z1 := eqv_iff.mp h1
          have z2 := eqv_iff.mp h2
          have q : lt y x = false := O.tr _ _ _ z2.1 z1.2
          rw [q] at c
          cases c
        · rfl
      · rfl
    · exact Stb.refl _
theorem Stb.consq {x : α} {l m : List α} (h : Stb lt l m) : Stb lt (x :: l) (x :: m) := ⟨h.perm.cons x, fun z => by
  rw [List.filter_cons, List.filter_cons, h.cls z]⟩
theorem isort_stb (O : Swo lt) : ∀ l : List α, Stb lt (isort lt l) l
  | [] => Stb.refl _
  | x :: r => (ins_stb O x _).trans (Stb.consq (isort_stb O r))
theorem Stb.sym {l m : List α} (h : Stb lt l m) : Stb lt m l := ⟨h.perm.symm, fun z => (h.cls z).symm⟩
end

theorem swo_lexI : Swo (PyProof.Rows.lexLt PyProof.Rows.itemOrd) := by
  refine ⟨fun x y h => ?_, fun x y z h1 h2 => ?_⟩
  · rcases bcase (lexLt itemOrd y x) with q | q
    · have := lex_trans _ _ _ h q
      rw [lex_irrefl] at this
      cases this
    · exact q
  · rcases bcase (lexLt itemOrd z x) with q | q
    · rcases lex_negTrans z y x q with c | c
      · rw [c] at h2; cases h2
      · rw [c] at h1; cases h1
    · exact q
theorem Swo.of {α β : Type} {lt : β → β → Bool} (O : Swo lt) (f : α → β) : Swo fun x y => lt (f x) (f y) := ⟨fun _ _ h => O.asym _ _ h, fun _ _ _ h1 h2 => O.tr _ _ _ h1 h2⟩
theorem swo_ltK {h : Hh} {shape : Nat → Bool} : Swo (ltK h shape) := Swo.of swo_lexI fun v => (keyV h shape v).getD []
theorem swo_int2 : Swo fun i j : Int => decide (i < j) := ⟨fun x y h => by simp at *; omega, fun x y z h1 h2 => by simp at *; omega⟩
theorem ints_of {xs : List V} (h : xs.all isI = true) : ∃ ns : List Int, xs = ns.map V.int := by
  induction xs with
  | nil => exact ⟨[], rfl⟩
  | cons x r ih =>
    rw [List.all_cons, Bool.and_eq_true] at h
    obtain ⟨ns, e⟩ := ih h.2
    cases x with
    | int i => exact ⟨i :: ns, by rw [e]; rfl⟩
    | _ => cases h.1
theorem isort_map {α β : Type} {lt : β → β → Bool} {f : α → β} : ∀ l : List α, isort lt (l.map f) = (isort (fun x y => lt (f x) (f y)) l).map f
  | [] => rfl
  | x :: r => by
    show ins lt (f x) (isort lt (r.map f)) = (ins _ x (isort _ r)).map f
    rw [isort_map r]
    generalize isort (fun x y => lt (f x) (f y)) r = l
    induction l with
    | nil => rfl
    | cons y l ih =>
      show (if lt (f y) (f x) then f y :: ins lt (f x) (l.map f) else f x :: f y :: l.map f) = (if lt (f y) (f x) then y :: ins _ x l else x :: y :: l).map f
      split
      · rw [ih]; rfl
      · rfl
theorem sorted_uniq : ∀ {a b : List Int}, a.Pairwise (· ≤ ·) → b.Pairwise (· ≤ ·) → a.Perm b → a = b := fun {a b} ha hb p => p.eq_of_pairwise (fun x y _ _ h1 h2 => by omega) ha hb
theorem isort_ints (ns : List Int) : isort ltI (ns.map V.int) = (isort (fun i j : Int => decide (i < j)) ns).map V.int := isort_map (lt := ltI) (f := V.int) ns

section
variable {X : Cx} {G : Gd}
theorem tupItems_eq {π : Nat → Addr} {shape : Nat → Bool} : ∀ {ks : List V} {its : List Value} (i : Nat) {l : List Kit}, Vals (imL π ks) its → kItems shape i ks = some l → tupItems shape i its = some l
  | [], _, i, l, r, h => by
    cases r
    exact h
  | k :: ks, _, i, l, r, h => by
    have r : Vals (im π k :: imL π ks) _ := r
    cases r with
    | cons r1 rr =>
      cases k with
      | int n =>
        obtain ⟨t, rfl⟩ := r1
        simp only [kItems] at h
        simp only [tupItems]
        split at h
        · cases h
        · rename_i c
          obtain ⟨l', e, rfl⟩ := Option.map_eq_some_iff.mp h
          rw [if_neg c, tupItems_eq (i + 1) rr e]; rfl
      | str x =>
        obtain ⟨t, rfl⟩ := r1
        simp only [kItems] at h
        simp only [tupItems]
        split at h
        · rename_i c
          obtain ⟨l', e, rfl⟩ := Option.map_eq_some_iff.mp h
          rw [if_pos c, tupItems_eq (i + 1) rr e]; rfl
        · cases h
      | _ => simp only [kItems] at h; cases h
/-- a tuple's key, as it stands in the heap -/
structure KeyAt (h : Heap) (shape : Nat → Bool) (v : Value) (l : List Kit) : Prop where
  has : ∃ a its, v = .ref a ∧ IsTup h a its ∧ tupItems shape 0 its.toList = some l ∧ l ≠ []
theorem KeyAt.keep {h h' : Heap} {shape : Nat → Bool} {v : Value} {l : List Kit} (k : KeyAt h shape v l) {a : Addr} (ha : ∀ its, ¬ IsTup h a its) (keep : ∀ b o, b ≠ a → h.get? b = some o → h'.get? b = some o) : KeyAt h' shape v l := by
  obtain ⟨c, its, rfl, t, e, z⟩ := k.has
  refine ⟨c, its, rfl, ?_, e, z⟩
  obtain ⟨o, ho, r⟩ := t
  exact ⟨o, keep c o (fun q => by subst q; exact ha its ⟨o, ho, r⟩) ho, r⟩
theorem KeyAt.key {h : Heap} {shape : Nat → Bool} {v : Value} {l : List Kit} (k : KeyAt h shape v l) : tupKey h shape v = some l := by
  obtain ⟨c, its, rfl, ⟨o, ho, hc, n, hd⟩, e, z⟩ := k.has
  unfold tupKey
  simp only [ho, hd]
  exact e
theorem KeyAt.tup {h : Heap} {shape : Nat → Bool} {v : Value} {l : List Kit} (k : KeyAt h shape v l) : ∃ f, TupOf h shape v f := by
  obtain ⟨c, its, rfl, ⟨o, ho, hc, n, hd⟩, e, z⟩ := k.has
  cases hi : its.toList with
  | nil =>
    rw [hi] at e
    exact absurd (Option.some.inj (show some [] = some l from e)).symm z
  | cons f r =>
    have hf : its[0]? = some f := by
      rw [← Array.getElem?_toList, hi]; rfl
    refine ⟨f, c, o, its, n, rfl, ho, hc, hd, hf, fun hs => ?_, fun hs => ?_⟩
    · rw [hi] at e
      obtain ⟨x, t, _, rfl, _⟩ := tupItems_int hs e
      exact ⟨x, t, rfl⟩
    · rw [hi] at e
      obtain ⟨x, t, _, rfl, _⟩ := tupItems_str hs e
      exact ⟨x, t, rfl⟩
theorem tups_of {h : Heap} {shape : Nat → Bool} : ∀ {vs : List Value}, (∀ v ∈ vs, ∃ l, KeyAt h shape v l) → ∃ fs, TupsOf h shape vs fs ∧ fs.length = vs.length
  | [], _ => ⟨[], .nil, rfl⟩
  | v :: vs, hv => by
    obtain ⟨l, k⟩ := hv v List.mem_cons_self
    obtain ⟨f, t⟩ := k.tup
    obtain ⟨fs, t2, e⟩ := tups_of fun u hu => hv u (List.mem_cons_of_mem _ hu)
    exact ⟨f :: fs, .cons t t2, congrArg (· + 1) e⟩
def ltVal (h : Heap) (shape : Nat → Bool) (u v : Value) : Bool := lexLt itemOrd ((tupKey h shape u).getD []) ((tupKey h shape v).getD [])
theorem sortable_tups {prog : Program} {w : World} {A : Around} {s : Shared} {a : Addr} {shape : Nat → Bool} {vs : List Value} (h2 : 2 ≤ vs.length) (hv : ∀ v ∈ vs, ∃ l, KeyAt s.heap shape v l) (ha : ∀ its, ¬ IsTup s.heap a its) :
    SortableO prog w A s a vs (ltVal s.heap shape) := by
  intro h' keep
  have hv' : ∀ v ∈ vs, ∃ l, KeyAt h' shape v l ∧ tupKey s.heap shape v = some l := fun v hm => by
    obtain ⟨l, k⟩ := hv v hm
    exact ⟨l, k.keep ha keep, k.key⟩
  obtain ⟨fs, t, e⟩ := tups_of (h := h') (shape := shape) (vs := vs) fun v hm => by
    obtain ⟨l, k, _⟩ := hv' v hm
    exact ⟨l, k⟩
  refine ⟨tuples' true, fun Q E hq => tup_kind (s := { s with heap := h' }) (by omega) t hq, fun p q hp hq => ?_⟩
  obtain ⟨l1, k1, e1⟩ := hv' _ hp
  obtain ⟨l2, k2, e2⟩ := hv' _ hq
  refine tup_ltAt (s := { s with heap := h' }) true A _ _ _ l1 l2 k1.key k2.key ⟨rfl, ?_⟩
  show lexLt itemOrd l1 l2 = lexLt itemOrd ((tupKey s.heap shape p.1).getD []) ((tupKey s.heap shape q.1).getD [])
  rw [e1, e2]; rfl
def valR (π : Nat → Addr) : V → Value
  | .ref b => .ref (π b)
  | _ => .none
theorem vals_refs {π : Nat → Addr} : ∀ {xs : List V} {its : List Value}, (∀ x ∈ xs, ∃ b, x = .ref b) → Vals (imL π xs) its → its = xs.map (valR π)
  | [], _, _, r => by cases r; rfl
  | x :: xs, _, h, r => by
    have r : Vals (im π x :: imL π xs) _ := r
    cases r with
    | cons r1 rr =>
      obtain ⟨b, rfl⟩ := h x List.mem_cons_self
      cases r1
      rw [vals_refs (fun y hy => h y (List.mem_cons_of_mem _ hy)) rr]; rfl
theorem refs_vals {π : Nat → Addr} : ∀ {xs : List V}, (∀ x ∈ xs, ∃ b, x = .ref b) → Vals (imL π xs) (xs.map (valR π))
  | [], _ => .nil
  | x :: xs, h => by
    obtain ⟨b, rfl⟩ := h x List.mem_cons_self
    exact .cons rfl (refs_vals fun y hy => h y (List.mem_cons_of_mem _ hy))
theorem hasK_ok {h : Hh} {shape : Nat → Bool} {v : V} (e : hasK h shape v = true) : ∃ b ks l, v = .ref b ∧ seqT h b = some ks ∧ kItems shape 0 ks = some l ∧ keyV h shape v = some l ∧ l ≠ [] := by
  unfold hasK at e
  split at e
  · rename_i x l hk
    have hk' := hk
    unfold keyV at hk
    split at hk
    · rename_i b
      split at hk
      · rename_i ks hs
        exact ⟨b, ks, _, rfl, hs, hk, hk', List.cons_ne_nil _ _⟩
      · cases hk
    · cases hk
  · cases e
theorem cr_sorted (hK : X.K = G.K) : CallR X (.builtin "sorted") (RLh G (bfn "sorted")) := by
  intro pins s σ H vs us Q I r h
  obtain ⟨π, h, as, v, h', rfl, wa, R, e, q⟩ := h
  unfold bfn at e
  split at e
  · rename_i x
    replace e : sortO x h = some (.ok v, h') := e
    unfold sortO sortV at e
    split at e
    · rename_i a
      split at e
      · rename_i xs hx
        obtain ⟨l1, w1⟩ := R.seqL hx
        rw [← hK] at l1
        split at e
        · rename_i hi
          obtain ⟨ns, rfl⟩ := ints_of hi
          have ei : imL π (ns.map V.int) = ns.map V.int := by
            show List.map _ (List.map _ _) = _
            rw [List.map_map]; rfl
          rw [ei] at l1
          refine cr_sortedI pins s σ H _ us Q I r ⟨π a, ns, rfl, l1, fun ns' p hp hs hf => ?_⟩
          have en : isort (fun i j : Int => decide (i < j)) ns = ns' := by
            refine sorted_uniq ?_ hs ((isort_perm ns).trans hp.symm)
            exact (isort_sorted swo_int2 ns).imp fun {x y} hh => by simpa using hh
          rw [isort_ints, en] at e
          have z := new_lst R (xs := ns'.map V.int) (fun v hv => by obtain ⟨i, _, rfl⟩ := List.mem_map.mp hv; trivial) e q hf
          have ei2 : imL π (ns'.map V.int) = ns'.map V.int := by
            show List.map _ (List.map _ _) = _
            rw [List.map_map]; rfl
          rw [ei2] at z
          exact z
        · split at e
          · rename_i b rest _
            split at e
            · rename_i k0 hk0
              split at e
              · rename_i hall
                generalize hsh : shapeOf k0 = shape at e hall
                generalize hxs : V.ref b :: rest = xs at e hall hx l1 w1
                have hks : ∀ x ∈ xs, hasK h shape x = true := fun x hm => List.all_eq_true.mp hall x hm
                have hr : ∀ x ∈ xs, ∃ b, x = .ref b := fun x hm => by
                  obtain ⟨b, _, _, e, _⟩ := hasK_ok (hks x hm)
                  exact ⟨b, e⟩
                obtain ⟨its, rv, hl, hz⟩ := I.list l1
                obtain ⟨u, rfl, ru⟩ := vals1 r
                obtain rfl : u = Value.ref (π a) := ru
                obtain rfl := vals_refs hr rv
                have kv : ∀ x ∈ xs, ∃ l, KeyAt s.heap shape (valR π x) l ∧ keyV h shape x = some l := fun x hm => by
                  obtain ⟨b, ks, l, rfl, hs, hi, hk, hne⟩ := hasK_ok (hks x hm)
                  obtain ⟨l2, _⟩ := R.seqT hs
                  rw [← hK] at l2
                  obtain ⟨is, rv2, it, _⟩ := I.tuple l2
                  exact ⟨l, ⟨_, _, rfl, it, tupItems_eq 0 rv2 hi, hne⟩, hk⟩
                have hkey : ∀ x ∈ xs, ∀ y ∈ xs, ltVal s.heap shape (valR π x) (valR π y) = ltK h shape x y := fun x hx y hy => by
                  obtain ⟨l1, k1, e1⟩ := kv x hx
                  obtain ⟨l2, k2, e2⟩ := kv y hy
                  unfold ltVal ltK
                  rw [k1.key, k2.key, e1, e2]
                have O : Swo (ltVal s.heap shape) := Swo.of swo_lexI fun v => (tupKey s.heap shape v).getD []
                refine SrtO.sorted_ord O hl.isList (by rw [List.length_map]; rw [imL_len] at hz; exact hz) (fun h2 h₁ a' ha kk => ?_) fun out h1 h2 => ?_
                · have e2 : ltVal s.heap shape = ltVal s.heap shape := rfl
                  have hv1 : ∀ v ∈ xs.map (valR π), ∃ l, KeyAt h₁ shape v l ∧ tupKey s.heap shape v = some l := fun v hm => by
                    obtain ⟨x, hx, rfl⟩ := List.mem_map.mp hm
                    obtain ⟨l, k, _⟩ := kv x hx
                    obtain ⟨c, is, e, t, e2, z⟩ := k.has
                    exact ⟨l, ⟨c, is, e, t.keeps fun b o e => (kk b o e).2, e2, z⟩, k.key⟩
                  have S := sortable_tups (prog := X.prog) (w := X.w) (A := X.A.in1.in1) (s := { s with heap := h₁ }) (a := a') (shape := shape) h2 (fun v hm => by obtain ⟨l, k, _⟩ := hv1 v hm; exact ⟨l, k⟩) (fun is ⟨o, ho, hc, _⟩ => by
                    rw [ha] at ho
                    cases ho
                    exact absurd (Value.type.inj hc) (by decide))
                  intro h' keep
                  obtain ⟨κ, S1, S2⟩ := S h' keep
                  refine ⟨κ, S1, fun p q hp hq => ?_⟩
                  have z := S2 p q hp hq
                  obtain ⟨l1, k1, e1⟩ := hv1 _ hp
                  obtain ⟨l2, k2, e2⟩ := hv1 _ hq
                  have e3 : ltVal h₁ shape p.1 q.1 = ltVal s.heap shape p.1 q.1 := by
                    unfold ltVal
                    rw [k1.key, k2.key, e1, e2]
                  refine wpAny_mono z (fun r s' hh => ⟨hh.1, hh.2.trans e3⟩) fun _ _ z => z
                · have eo : out = (isort (ltK h shape) xs).map (valR π) := by
                    have s1 : Srtd (ltVal s.heap shape) ((isort (ltK h shape) xs).map (valR π)) := by
                      refine List.pairwise_map.mpr ?_
                      refine (isort_sorted swo_ltK xs).imp_of_mem fun {x y} hx hy hh => ?_
                      rw [hkey y (isort_mem.mp hy) x (isort_mem.mp hx)]
                      exact hh
                    have s2 : Stb (ltVal s.heap shape) ((isort (ltK h shape) xs).map (valR π)) (xs.map (valR π)) := by
                      have t : ∀ xs : List V, (∀ x ∈ xs, ∀ y ∈ xs, ltVal s.heap shape (valR π x) (valR π y) = ltK h shape x y) → isort (ltK h shape) xs = isort (fun x y => ltVal s.heap shape (valR π x) (valR π y)) xs := by
                        intro xs
                        induction xs with
                        | nil => intro _; rfl
                        | cons x r ih =>
                          intro hk
                          show ins _ x (isort _ r) = ins _ x (isort _ r)
                          rw [← ih fun y hy z hz => hk y (List.mem_cons_of_mem _ hy) z (List.mem_cons_of_mem _ hz)]
                          have hm : ∀ z ∈ isort (ltK h shape) r, ltVal s.heap shape (valR π z) (valR π x) = ltK h shape z x := fun z hz => hk z (List.mem_cons_of_mem _ (isort_mem.mp hz)) x List.mem_cons_self
                          revert hm
                          generalize isort (ltK h shape) r = l
                          intro hm
                          induction l with
                          | nil => rfl
                          | cons y l ihl =>
                            show (if ltK h shape y x then _ else _) = (if ltVal s.heap shape (valR π y) (valR π x) then _ else _)
                            rw [hm y List.mem_cons_self, ihl fun z hz => hm z (List.mem_cons_of_mem _ hz)]
                      rw [t xs hkey]
                      exact Stb.map O (valR π) (isort_stb (Swo.of O (valR π)) xs)
                    exact stb_uniq O h1 s1 (h2.trans (Stb.sym s2))
                  subst eo
                  obtain ⟨ep, he'⟩ := PyProof.Rows.sortedAll_at s.heap (xs.map (valR π)) ((isort (ltK h shape) xs).map (valR π)).toArray
                  have wl : wfL h.length (isort (ltK h shape) xs) := fun v hv => w1 v (isort_mem.mp hv)
                  have fr : H (s.heap.objs.size + 1) = none := I.hok.fresh (Nat.le_succ _)
                  have z := new_lst R wl e q fr
                  have rl := refs_vals (π := π) (xs := isort (ltK h shape) xs) fun x hx => hr x (isort_mem.mp hx)
                  refine ⟨.ref _, upd H (s.heap.objs.size + 1) (.lst (imL π (isort (ltK h shape) xs))), I.laid (t' := s.toks) (fun _ _ => PyProof.Rows.sortedAll_old) (Nat.le_succ _) ⟨?_, _, ep, rl, he'⟩, rfl, z⟩
                  rw [imL_len, isort_len]
                  rw [imL_len] at hz
                  exact hz
              · cases e
            · cases e
          · cases e
      · cases e
    · exact (no_ok e).elim
  · cases e
  · exact (no_ok e).elim
  · exact (no_ok e).elim
end
end HI

set_option maxRecDepth 100000
set_option maxHeartbeats 4000000
/-! the shape of a term, and what follows from it -/
namespace HI
open PySem PySem.Spec PyProof.Rows L2

/-- a term that stands for a value by itself -/
def plE : Expr → Bool
  | .Starred .. => false
  | .Set .. => false
  | .Slice .. => false
  | .SetComp .. => false
  | .DictComp .. => false
  | .GeneratorExp .. => false
  | .NamedExpr .. => false
  | .Call (.Name x _) [] [] _ => !(x == "super")
  | _ => true
theorem star_cons {e : Expr} {es : List Expr} {env : Env} (h : plE e = true) : starEach (e :: es) env = (false, eval e env) :: starEach es env := by
  cases e <;> first | rfl | cases h
theorem back_cons {x : Bool × Sem Value} {r : List (Bool × Sem Value)} {pos : Pos} (h : x.1 = false) (hr : (backTo pos r).any (·.1) = false) : (backTo pos (x :: r)).any (·.1) = false := by
  unfold backTo at *
  simp_all
theorem back_plain {pos : Pos} {env : Env} : ∀ {es : List Expr}, (∀ e ∈ es, plE e = true) → (backTo pos (starEach es env)).any (·.1) = false
  | [], _ => rfl
  | e :: r, h => by
    rw [star_cons (h e List.mem_cons_self)]
    exact back_cons rfl (back_plain fun x hx => h x (List.mem_cons_of_mem _ hx))
theorem base_plain {o : Expr} {m : Str} {env : Env} (h : plE o = true) : attributeBase o m env (eval o env) = eval o env := by
  unfold attributeBase
  split
  · rename_i x p pos
    have hx : (x != "super") = true := by
      have : (!(x == ("super" : Str))) = true := h
      exact this
    simp only [hx, Bool.true_or, if_true]
  · rfl
theorem fold_plain {e : Expr} {env : Env} (h : plE e = true) : ∀ x, foldedSetIterable e env x = pure x := by
  intro x
  cases e <;> first | rfl | cases h
theorem mark_plain {e : Expr} {op : CmpOp} (h : plE e = true) : behindInMarks op e = false := by
  cases e <;> first | rfl | cases h
theorem swap_plain {e : Expr} {t : Option Expr} {n : Nat} {env : Env} (h : plE e = true) (h2 : ∀ a b c d, e ≠ .ListComp a b c d) : swapsWith e t n env = pure false := by
  cases e <;> first | rfl | exact absurd rfl (h2 _ _ _ _) | cases h
theorem sub_plain {e : Expr} (h : plE e = true) : PlainIx e := by
  intro o i
  cases e <;> first | rfl | cases h
theorem truth_plain {e : Expr} {env : Env} (h1 : ∀ a b, e ≠ .UnaryOp .Not a b) (h2 : ∀ a b c, e ≠ .BoolOp a b c) (h3 : ∀ a b c d, e ≠ .IfExp a b c d) (h4 : ∀ a b c d, e ≠ .Compare a b c d) :
    ∀ whole, isTrue e env whole = (do let v ← whole; standAt e.pos; holding [v] (truthy v)) := by
  intro whole
  cases e with
  | UnaryOp o a p => cases o <;> first | rfl | exact absurd rfl (h1 _ _)
  | BoolOp a b c => exact absurd rfl (h2 _ _ _)
  | IfExp a b c d => exact absurd rfl (h3 _ _ _ _)
  | Compare a b c d => exact absurd rfl (h4 _ _ _ _)
  | _ => rfl
theorem few_plain {pos : Pos} {env : Env} : ∀ {es : List Expr}, (∀ e ∈ es, plE e = true) → (backTo pos (starEach es env)).all (fun x => !x.1) = true := by
  intro es h
  have q := back_plain (pos := pos) (env := env) h
  simp only [List.any_eq_false, List.all_eq_true] at *
  intro x hx
  have := q x hx
  simpa using this
theorem mc_eq {o : Expr} {m : Str} {apos pos : Pos} {es : List Expr} {env : Env} (ho : plE o = true) (hes : ∀ e ∈ es, plE e = true) (hn : es.length < 30) (hl : (apos.endLine == pos.line) = true) :
    eval (.Call (.Attribute o m apos) es [] pos) env = (do
      let ov ← eval o env
      standAt apos.atName
      let (f, first) ← holding [ov] (getMethod ov m (do return (← importBound o env).getD true))
      callWith pos f first (backTo pos (starEach es env)) (backToKw pos (keywordEach [] env))) := by
  rw [arm_eval_Call, base_plain ho]
  have hform : methodCallForm (es.length + ([] : List Keyword).length) (backTo pos (starEach es env)) (backToKw pos (keywordEach [] env)) = true := by
    unfold methodCallForm
    rw [few_plain hes]
    show (true && true && decide (es.length + 0 + 0 < 30)) = true
    simp; exact hn
  have hpos : methodCallPos true o env apos pos = pure pos := by
    unfold methodCallPos
    rw [hl]; rfl
  unfold methodCall
  rw [hform, hpos]
  simp only [pure_bind]
  rfl
end HI

set_option maxRecDepth 100000
set_option maxHeartbeats 4000000
/-! a term does what the interpreter says: one construct after another -/
namespace HI
open PySem PySem.Spec PyProof.Rows L2

theorem pe_pick {X : Cx} {e : Expr} {t : TE} (h : ∀ σ H Q, t σ H Q → ∃ t0 : TE, PE X e t0 ∧ t0 σ H Q) : PE X e t := by
  constructor
  intro pins s σ H Q I q
  obtain ⟨t0, p, q0⟩ := h σ H Q q
  exact p.run pins s σ H Q I q0
theorem pe_of {X : Cx} {e : Expr} {t t0 : TE} (p : PE X e t0) (h : ∀ σ H Q, t σ H Q → t0 σ H Q) : PE X e t := pe_pick fun σ H Q q => ⟨t0, p, h σ H Q q⟩
theorem pt_of {X : Cx} {e : Expr} {t t0 : TT} (p : PT X e t0) (h : ∀ σ H Q, t σ H Q → t0 σ H Q) : PT X e t := by
  constructor
  intro pins s σ H Q I q
  exact p.run pins s σ H Q I (h σ H Q q)
theorem pw_of {X : Cx} {e : Expr} {t t0 : TT} (p : PW X e t0) (h : ∀ σ H Q, t σ H Q → t0 σ H Q) : PW X e t := by
  constructor
  intro wh pins s σ H Q I q
  exact p.run wh pins s σ H Q I (h σ H Q q)
theorem pa_of {X : Cx} {es : List Expr} {t t0 : TA} (p : PA X es t0) (h : ∀ σ H Q, t σ H Q → t0 σ H Q) : PA X es t := by
  constructor
  intro pos pins s σ H Q I q
  exact p.run pos pins s σ H Q I (h σ H Q q)
theorem ps_of {X : Cx} {e : Stmt} {t t0 : TS} (p : PS X e t0) (h : ∀ D σ H, t D σ H → t0 D σ H) : PS X e t := by
  constructor
  intro pins s σ H D I q
  exact p.run pins s σ H D I (h D σ H q)
theorem ps_pick {X : Cx} {e : Stmt} {t : TS} (h : ∀ D σ H, t D σ H → ∃ t0 : TS, PS X e t0 ∧ t0 D σ H) : PS X e t := by
  constructor
  intro pins s σ H D I q
  obtain ⟨t0, p, q0⟩ := h D σ H q
  exact p.run pins s σ H D I q0
theorem pss_of {X : Cx} {e : List Stmt} {t t0 : TS} (p : PSs X e t0) (h : ∀ D σ H, t D σ H → t0 D σ H) : PSs X e t := by
  constructor
  intro pins s σ H D I q
  exact p.run pins s σ H D I (h D σ H q)

section
variable {X : Cx} {G : Gd} {C : Cfg} {pos : Pos} {a b c : Expr} {ea eb ec : Ex}
abbrev PEh (X : Cx) (G : Gd) (C : Cfg) (e : Expr) (ee : Ex) : Prop := PE X e (TEh G (ev C ee))
abbrev PTh (X : Cx) (G : Gd) (C : Cfg) (e : Expr) (ee : Ex) : Prop := PT X e (TTh G (evT C ee))

theorem px_slot {i : Nat} {x : Str} (hi : X.N[i]? = some x) (hv : Vis X.env.scope x) (hd : (x == ("__debug__" : Str)) = false) (hc : (x == ("__classdict__" : Str)) = false) : PEh X G C (.Name x pos) (.slot i) :=
  pe_of (pe_var hi hv hd hc) fun σ H Q ⟨π, e, h, v, h', S, hm, q⟩ => by
    have hm : getS e i h = some (.ok v, h') := hm
    unfold getS at hm
    cases hu : e[i]? with
    | none => rw [hu] at hm; exact (no_ok hm).elim
    | some o =>
    rw [hu] at hm
    cases o with
    | none => exact (no_ok hm).elim
    | some u =>
      obtain ⟨e1, e2⟩ := rt_ok hm
      subst e1 e2
      have w := S.we u (List.mem_of_getElem? hu)
      refine ⟨im π u, ?_, q π H Nx.refl S.hr w⟩
      rw [S.sl]
      show (e.map (imO π))[i]? = _
      rw [List.getElem?_map, hu]; rfl
theorem px_cst {v : V} (p : PE X a (tC v)) (hv : ∀ π, im π v = v) (hw : ∀ n, wf n v) : PEh X G C a (.cst v) :=
  pe_of p fun σ H Q ⟨π, e, h, u, h', S, hm, q⟩ => by
    obtain ⟨e1, e2⟩ := rt_ok (a := v) hm
    subst e1 e2
    have z := q π H Nx.refl S.hr (hw _)
    rw [hv π] at z
    exact z
theorem px_bin {op : Operator} {o : Op2} (ho : OpR X (binaryOp op) (R2h G (op2 o))) (ha : PEh X G C a ea) (hb : PEh X G C b eb) : PEh X G C (.BinOp a op b pos) (.bin o ea eb) :=
  pe_of (pe_op ho ha hb) fun σ H Q ⟨π, e, h, v, h', S, hm, q⟩ => by
    simp only [ev] at hm
    obtain ⟨x, h1, e1, hm⟩ := bd_ok hm
    obtain ⟨y, h2, e2, hm⟩ := bd_ok hm
    refine goE S e1 fun π1 H1 N1 S1 w1 => ?_
    refine goE S1 e2 fun π2 H2 N2 S2 w2 => ?_
    exact ⟨π2, h2, x, y, v, h', (N2.im w1).symm, rfl, N2.wf w1, w2, S2.hr, hm, fun π3 H3 N3 R3 w3 => q π3 H3 ((N1.trans N2).trans N3) R3 w3⟩
theorem px_cmp {op : CmpOp} {o : Op2} (ho : OpR X (compareOp op) (R2h G (op2 o))) (ha : PEh X G C a ea) (hb : PEh X G C b eb) (hp : plE b = true) : PEh X G C (.Compare a [op] [b] pos) (.bin o ea eb) :=
  pe_of (pe_cmpR ho ha hb (mark_plain hp)) fun σ H Q ⟨π, e, h, v, h', S, hm, q⟩ => by
    simp only [ev] at hm
    obtain ⟨x, h1, e1, hm⟩ := bd_ok hm
    obtain ⟨y, h2, e2, hm⟩ := bd_ok hm
    refine goE S e1 fun π1 H1 N1 S1 w1 => ?_
    refine goE S1 e2 fun π2 H2 N2 S2 w2 => ?_
    exact ⟨π2, h2, x, y, v, h', (N2.im w1).symm, rfl, N2.wf w1, w2, S2.hr, hm, fun π3 H3 N3 R3 w3 => q π3 H3 ((N1.trans N2).trans N3) R3 w3⟩
/-- the comparisons that always answer True or False -/
def boolOp : Op2 → Bool
  | .eq | .ne | .lt | .le | .gt | .ge | .is_ | .isnot | .in_ | .notin => true
  | _ => false
theorem boolOp_ok {o : Op2} (hb : boolOp o = true) {x y v : V} {h h' : Hh} (e : op2 o x y h = some (.ok v, h')) : (∃ k, v = .bl k) ∧ h = h' := by
  have int : ∀ o, boolOp o = true → intO o x y h = some (.ok v, h') → (∃ k, v = .bl k) ∧ h = h' := by
    intro o hb e
    unfold intO at e
    split at e
    · obtain ⟨e1, e2⟩ := opt_ok e
      refine ⟨?_, e2⟩
      cases o <;> simp only [boolOp] at hb <;> (try cases hb) <;> simp only [intOp] at e1 <;> cases e1 <;> exact ⟨_, rfl⟩
    · exact (no_ok e).elim
  have lk : ∀ f : Hh → Option Bool, ∀ g : Bool → V, (∀ b, ∃ k, g b = .bl k) → look (fun h => (f h).map g) h = some (.ok v, h') → (∃ k, v = .bl k) ∧ h = h' := by
    intro f g hg e
    obtain ⟨e1, e2⟩ := look_ok e
    refine ⟨?_, e2⟩
    cases hf : f h with
    | none => rw [hf] at e1; cases e1
    | some b => rw [hf] at e1; cases e1; exact hg b
  cases o <;> simp only [boolOp] at hb <;> (try cases hb)
  case eq => exact lk (fun h => eqO h x y) V.bl (fun b => ⟨_, rfl⟩) e
  case ne => exact lk (fun h => eqO h x y) (fun b => .bl !b) (fun b => ⟨_, rfl⟩) e
  case in_ => exact lk (fun h => inD h x y) V.bl (fun b => ⟨_, rfl⟩) e
  case notin => exact lk (fun h => inD h x y) (fun b => .bl !b) (fun b => ⟨_, rfl⟩) e
  case lt => exact int _ rfl e
  case le => exact int _ rfl e
  case gt => exact int _ rfl e
  case ge => exact int _ rfl e
  case is_ =>
    obtain ⟨e1, e2⟩ := opt_ok (o := (isO2 x y).map V.bl) e
    obtain ⟨k, _, e3⟩ := Option.map_eq_some_iff.mp e1
    exact ⟨⟨_, e3.symm⟩, e2⟩
  case isnot =>
    obtain ⟨e1, e2⟩ := opt_ok (o := (isO2 x y).map fun b => V.bl !b) e
    obtain ⟨k, _, e3⟩ := Option.map_eq_some_iff.mp e1
    exact ⟨⟨_, e3.symm⟩, e2⟩
theorem tru_bl {k k' : Bool} {h h' : Hh} (e : tru (.bl k) h = some (.ok k', h')) : k = k' ∧ h = h' := by
  obtain ⟨e1, e2⟩ := look_ok e
  cases e1
  exact ⟨rfl, e2⟩
theorem pc_cmp {op : CmpOp} {o : Op2} (ho : OpR X (compareOp op) (R2h G (op2 o))) (hb' : boolOp o = true) (ha : PEh X G C a ea) (hb : PEh X G C b eb) (hp : plE b = true) : PTh X G C (.Compare a [op] [b] pos) (.bin o ea eb) :=
  pt_of (pt_cmpR ho ha hb (mark_plain hp)) fun σ H Q ⟨π, e, h, k, h', S, hm, q⟩ => by
    unfold evT at hm
    simp only [ev] at hm
    obtain ⟨z, h3, m1, e4⟩ := bd_ok hm
    obtain ⟨x, h1, e1, m2⟩ := bd_ok m1
    obtain ⟨y, h2, e2, m3⟩ := bd_ok m2
    refine goE S e1 fun π1 H1 N1 S1 w1 => ?_
    refine goE S1 e2 fun π2 H2 N2 S2 w2 => ?_
    obtain ⟨⟨k', rfl⟩, e3⟩ := boolOp_ok hb' m3
    obtain ⟨e5, e6⟩ := tru_bl e4
    subst e5
    refine ⟨π2, h2, x, y, .bl k', h3, (N2.im w1).symm, rfl, N2.wf w1, w2, S2.hr, m3, fun π3 H3 N3 R3 w3 => ⟨k', rfl, ?_⟩⟩
    subst e6
    exact q π3 H3 ((N1.trans N2).trans N3) R3 trivial
theorem px_chain {op op' : CmpOp} {o o' : Op2} (ho : OpR X (compareOp op) (R2h G (op2 o))) (ho' : OpR X (compareOp op') (R2h G (op2 o'))) (hb' : boolOp o = true) (ha : PEh X G C a ea) (hb : PEh X G C b eb) (hc : PEh X G C c ec)
    (hm : lastMarks [op, op'] [b, c] = false) : PEh X G C (.Compare a [op, op'] [b, c] pos) (.chain o o' ea eb ec) :=
  pe_of (pe_chain ho ho' ha hb hc hm) fun σ H Q ⟨π, e, h, v, h', S, hm, q⟩ => by
    simp only [ev] at hm
    obtain ⟨x, h1, e1, hm⟩ := bd_ok hm
    obtain ⟨y, h2, e2, hm⟩ := bd_ok hm
    obtain ⟨z, h3, e3, hm⟩ := bd_ok hm
    refine goE S e1 fun π1 H1 N1 S1 w1 => ?_
    refine goE S1 e2 fun π2 H2 N2 S2 w2 => ?_
    obtain ⟨⟨k', rfl⟩, _⟩ := boolOp_ok hb' e3
    refine ⟨π2, h2, x, y, .bl k', h3, (N2.im w1).symm, rfl, N2.wf w1, w2, S2.hr, e3, fun π3 H3 N3 R3 w3 => ⟨k', rfl, ?_⟩⟩
    have S3 := S2.nx N3 R3
    cases k' with
    | true =>
      rw [if_pos rfl]
      obtain ⟨u, h4, e4, hm⟩ := bd_ok hm
      refine goE S3 e4 fun π4 H4 N4 S4 w4 => ?_
      exact ⟨π4, h4, y, u, v, h', ((N3.trans N4).im w2).symm, rfl, (N3.trans N4).wf w2, w4, S4.hr, hm, fun π5 H5 N5 R5 w5 => q π5 H5 (((N1.trans N2).trans (N3.trans N4)).trans N5) R5 w5⟩
    | false =>
      rw [if_neg Bool.false_ne_true]
      obtain ⟨e5, e6⟩ := rt_ok hm
      subst e5 e6
      exact q π3 H3 ((N1.trans N2).trans N3) R3 trivial
theorem pc_chain {op op' : CmpOp} {o o' : Op2} (ho : OpR X (compareOp op) (R2h G (op2 o))) (ho' : OpR X (compareOp op') (R2h G (op2 o'))) (hb' : boolOp o = true) (hb2 : boolOp o' = true) (ha : PEh X G C a ea) (hb : PEh X G C b eb) (hc : PEh X G C c ec)
    (hm : lastMarks [op, op'] [b, c] = false) : PTh X G C (.Compare a [op, op'] [b, c] pos) (.chain o o' ea eb ec) :=
  pt_of (pt_chain ho ho' ha hb hc hm) fun σ H Q ⟨π, e, h, k, h', S, hm, q⟩ => by
    unfold evT at hm
    simp only [ev] at hm
    obtain ⟨t, h5, m1, e9⟩ := bd_ok hm
    obtain ⟨x, h1, e1, m2⟩ := bd_ok m1
    obtain ⟨y, h2, e2, m3⟩ := bd_ok m2
    obtain ⟨z, h3, e3, m4⟩ := bd_ok m3
    refine goE S e1 fun π1 H1 N1 S1 w1 => ?_
    refine goE S1 e2 fun π2 H2 N2 S2 w2 => ?_
    obtain ⟨⟨k', rfl⟩, _⟩ := boolOp_ok hb' e3
    refine ⟨π2, h2, x, y, .bl k', h3, (N2.im w1).symm, rfl, N2.wf w1, w2, S2.hr, e3, fun π3 H3 N3 R3 w3 => ⟨k', rfl, ?_⟩⟩
    have S3 := S2.nx N3 R3
    cases k' with
    | true =>
      rw [if_pos rfl]
      obtain ⟨u, h4, e4, m5⟩ := bd_ok m4
      obtain ⟨⟨k2, rfl⟩, e6⟩ := boolOp_ok hb2 m5
      obtain ⟨e7, e8⟩ := tru_bl e9
      subst e7
      refine goE S3 e4 fun π4 H4 N4 S4 w4 => ?_
      refine ⟨π4, h4, y, u, .bl k2, h5, ((N3.trans N4).im w2).symm, rfl, (N3.trans N4).wf w2, w4, S4.hr, m5, fun π5 H5 N5 R5 w5 => ⟨k2, rfl, ?_⟩⟩
      subst e8
      exact q π5 H5 (((N1.trans N2).trans (N3.trans N4)).trans N5) R5 trivial
    | false =>
      rw [if_neg Bool.false_ne_true]
      obtain ⟨e5, e6⟩ := rt_ok m4
      subst e5 e6
      obtain ⟨e7, e8⟩ := tru_bl e9
      subst e7 e8
      exact ⟨false, rfl, q π3 H3 ((N1.trans N2).trans N3) R3 trivial⟩

theorem tru_at (hK : X.K = G.K) {π h H x k h'} (R : HR G π h H) (w : wf h.length x) (e : tru x h = some (.ok k, h')) : TruV X.K (im π x) H k ∧ h = h' := by
  obtain ⟨e1, e2⟩ := look_ok e
  rw [hK]
  exact ⟨truth_ok R e1 w, e2⟩
/-- a value's truth as a test -/
theorem pc_tru (hK : X.K = G.K) (ha : PEh X G C a ea) (he : ∀ whole, isTrue a X.env whole = (do let v ← whole; standAt a.pos; holding [v] (truthy v))) : PTh X G C a ea :=
  pt_of (pt_truth ha he) fun σ H Q ⟨π, e, h, k, h', S, hm, q⟩ => by
    unfold evT at hm
    obtain ⟨x, h1, e1, hm⟩ := bd_ok hm
    refine goE S e1 fun π1 H1 N1 S1 w1 => ?_
    obtain ⟨t, e2⟩ := tru_at hK S1.hr w1 hm
    subst e2
    exact ⟨k, t, q π1 H1 N1 S1.hr trivial⟩
theorem px_not (hK : X.K = G.K) (ha : PEh X G C a ea) : PEh X G C (.UnaryOp .Not a pos) (.not ea) :=
  pe_of (pe_notT ha) fun σ H Q ⟨π, e, h, v, h', S, hm, q⟩ => by
    simp only [ev] at hm
    obtain ⟨x, h1, e1, hm⟩ := bd_ok hm
    obtain ⟨k, h2, e2, hm⟩ := bd_ok hm
    refine goE S e1 fun π1 H1 N1 S1 w1 => ?_
    obtain ⟨t, e3⟩ := tru_at hK S1.hr w1 e2
    obtain ⟨e4, e5⟩ := rt_ok hm
    subst e3 e4 e5
    exact ⟨k, t, q π1 H1 N1 S1.hr trivial⟩
theorem pc_not (ha : PTh X G C a ea) : PTh X G C (.UnaryOp .Not a pos) (.not ea) :=
  pt_of (pt_not ha) fun σ H Q ⟨π, e, h, k, h', S, hm, q⟩ => by
    unfold evT at hm
    simp only [ev] at hm
    obtain ⟨z, h3, hm, e4⟩ := bd_ok hm
    obtain ⟨x, h1, e1, hm⟩ := bd_ok hm
    obtain ⟨k', h2, e2, hm⟩ := bd_ok hm
    obtain ⟨e5, e6⟩ := rt_ok hm
    subst e5 e6
    obtain ⟨e7, e8⟩ := tru_bl e4
    subst e7 e8
    have m : evT C ea e h = some (.ok k', h2) := by
      unfold evT bd
      rw [e1]; exact e2
    exact goT S m fun π1 H1 N1 S1 _ => q π1 H1 N1 S1.hr trivial
theorem px_neg (ha : PEh X G C a ea) : PEh X G C (.UnaryOp .USub a pos) (.neg ea) :=
  pe_of (pe_un un_neg ha) fun σ H Q ⟨π, e, h, v, h', S, hm, q⟩ => by
    simp only [ev] at hm
    obtain ⟨x, h1, e1, hm⟩ := bd_ok hm
    obtain ⟨i, h2, e2, hm⟩ := bd_ok hm
    refine goE S e1 fun π1 H1 N1 S1 w1 => ?_
    unfold toI at e2
    split at e2
    · obtain ⟨e3, e4⟩ := rt_ok e2
      obtain ⟨e5, e6⟩ := rt_ok hm
      subst e3 e4 e5 e6
      exact ⟨_, rfl, q π1 H1 N1 S1.hr trivial⟩
    · exact (no_ok e2).elim
theorem px_and (hK : X.K = G.K) {rest : List Expr} (ha : PEh X G C a ea) (hb : PEh X G C (.BoolOp .And (b :: rest) pos) eb) : PEh X G C (.BoolOp .And (a :: b :: rest) pos) (.and ea eb) :=
  pe_of (pe_andT ha hb) fun σ H Q ⟨π, e, h, v, h', S, hm, q⟩ => by
    simp only [ev] at hm
    obtain ⟨x, h1, e1, hm⟩ := bd_ok hm
    obtain ⟨k, h2, e2, hm⟩ := bd_ok hm
    refine goE S e1 fun π1 H1 N1 S1 w1 => ?_
    obtain ⟨t, e3⟩ := tru_at hK S1.hr w1 e2
    subst e3
    refine ⟨k, t, ?_⟩
    cases k with
    | true =>
      rw [if_pos rfl]
      exact goE S1 hm fun π2 H2 N2 S2 w2 => q π2 H2 (N1.trans N2) S2.hr w2
    | false =>
      rw [if_neg Bool.false_ne_true]
      obtain ⟨e4, e5⟩ := rt_ok hm
      subst e4 e5
      exact q π1 H1 N1 S1.hr w1
theorem px_or (hK : X.K = G.K) {rest : List Expr} (ha : PEh X G C a ea) (hb : PEh X G C (.BoolOp .Or (b :: rest) pos) eb) : PEh X G C (.BoolOp .Or (a :: b :: rest) pos) (.or ea eb) :=
  pe_of (pe_orT ha hb) fun σ H Q ⟨π, e, h, v, h', S, hm, q⟩ => by
    simp only [ev] at hm
    obtain ⟨x, h1, e1, hm⟩ := bd_ok hm
    obtain ⟨k, h2, e2, hm⟩ := bd_ok hm
    refine goE S e1 fun π1 H1 N1 S1 w1 => ?_
    obtain ⟨t, e3⟩ := tru_at hK S1.hr w1 e2
    subst e3
    refine ⟨k, t, ?_⟩
    cases k with
    | false =>
      rw [if_neg Bool.false_ne_true]
      exact goE S1 hm fun π2 H2 N2 S2 w2 => q π2 H2 (N1.trans N2) S2.hr w2
    | true =>
      rw [if_pos rfl]
      obtain ⟨e4, e5⟩ := rt_ok hm
      subst e4 e5
      exact q π1 H1 N1 S1.hr w1
abbrev PWh (X : Cx) (G : Gd) (C : Cfg) (e : Expr) (ee : Ex) : Prop := PW X e (TTh G (evT C ee))
theorem evT_of {ea : Ex} {e : Ev} {h h1 h2 : Hh} {x : V} {k : Bool} (e1 : ev C ea e h = some (.ok x, h1)) (e2 : tru x h1 = some (.ok k, h2)) : evT C ea e h = some (.ok k, h2) := by
  unfold evT bd
  rw [e1]; exact e2
theorem tru_same {x : V} {h h' : Hh} {k : Bool} (e : tru x h = some (.ok k, h')) : h = h' := (look_ok e).2
theorem pw_andh {rest : List Expr} (ha : PTh X G C a ea) (hb : PWh X G C (.BoolOp .And (b :: rest) pos) eb) : PWh X G C (.BoolOp .And (a :: b :: rest) pos) (.and ea eb) :=
  pw_of (pw_and ha hb) fun σ H Q ⟨π, e, h, k, h', S, hm, q⟩ => by
    unfold evT at hm
    simp only [ev] at hm
    obtain ⟨z, h3, hm, e4⟩ := bd_ok hm
    obtain ⟨x, h1, e1, hm⟩ := bd_ok hm
    obtain ⟨k', h2, e2, hm⟩ := bd_ok hm
    refine goT S (evT_of e1 e2) fun π1 H1 N1 S1 _ => ?_
    cases k' with
    | true => exact goT S1 (evT_of hm e4) fun π2 H2 N2 S2 _ => q π2 H2 (N1.trans N2) S2.hr trivial
    | false =>
      obtain ⟨e5, e6⟩ := rt_ok hm
      subst e5 e6
      have e7 := tru_same e2
      subst e7
      rw [e2] at e4
      cases e4
      exact q π1 H1 N1 S1.hr trivial
theorem pw_orh {rest : List Expr} (ha : PTh X G C a ea) (hb : PWh X G C (.BoolOp .Or (b :: rest) pos) eb) : PWh X G C (.BoolOp .Or (a :: b :: rest) pos) (.or ea eb) :=
  pw_of (pw_or ha hb) fun σ H Q ⟨π, e, h, k, h', S, hm, q⟩ => by
    unfold evT at hm
    simp only [ev] at hm
    obtain ⟨z, h3, hm, e4⟩ := bd_ok hm
    obtain ⟨x, h1, e1, hm⟩ := bd_ok hm
    obtain ⟨k', h2, e2, hm⟩ := bd_ok hm
    refine goT S (evT_of e1 e2) fun π1 H1 N1 S1 _ => ?_
    cases k' with
    | false => exact goT S1 (evT_of hm e4) fun π2 H2 N2 S2 _ => q π2 H2 (N1.trans N2) S2.hr trivial
    | true =>
      obtain ⟨e5, e6⟩ := rt_ok hm
      subst e5 e6
      have e7 := tru_same e2
      subst e7
      rw [e2] at e4
      cases e4
      exact q π1 H1 N1 S1.hr trivial
theorem px_ite (hc : PTh X G C c ec) (ha : PEh X G C a ea) (hb : PEh X G C b eb) : PEh X G C (.IfExp c a b pos) (.ite ec ea eb) :=
  pe_of (pe_ifExp hc ha hb) fun σ H Q ⟨π, e, h, v, h', S, hm, q⟩ => by
    simp only [ev] at hm
    obtain ⟨x, h1, e1, hm⟩ := bd_ok hm
    obtain ⟨k, h2, e2, hm⟩ := bd_ok hm
    refine goT S (evT_of e1 e2) fun π1 H1 N1 S1 _ => ?_
    cases k with
    | true => exact goE S1 hm fun π2 H2 N2 S2 w2 => q π2 H2 (N1.trans N2) S2.hr w2
    | false => exact goE S1 hm fun π2 H2 N2 S2 w2 => q π2 H2 (N1.trans N2) S2.hr w2
abbrev PAh (X : Cx) (G : Gd) (C : Cfg) (es : List Expr) (ee : Exs) : Prop := PA X es (TAh G (evs C ee))
theorem pax_nil : PAh X G C [] .nil := pa_of pa_nil fun σ H Q ⟨π, e, h, v, h', S, hm, q⟩ => by
  simp only [evs] at hm
  obtain ⟨e4, e5⟩ := rt_ok hm
  subst e4 e5
  exact q π H Nx.refl S.hr (fun _ z => nomatch z)
theorem pax_cons {es : List Expr} {ee : Exs} (ha : PEh X G C a ea) (hr : PAh X G C es ee) (hp : plE a = true) : PAh X G C (a :: es) (.cons ea ee) :=
  pa_of (pa_cons ha hr (star_cons hp)) fun σ H Q ⟨π, e, h, v, h', S, hm, q⟩ => by
    simp only [evs] at hm
    obtain ⟨x, h1, e1, hm⟩ := bd_ok hm
    obtain ⟨xs, h2, e2, hm⟩ := bd_ok hm
    obtain ⟨e4, e5⟩ := rt_ok hm
    subst e4 e5
    refine goE S e1 fun π1 H1 N1 S1 w1 => ?_
    refine goA S1 e2 fun π2 H2 N2 S2 w2 => ?_
    have z := q π2 H2 (N1.trans N2) S2.hr (fun u hu => by
      rcases List.mem_cons.mp hu with rfl | hu
      · exact N2.wf w1
      · exact w2 u hu)
    rw [show imL π2 (x :: xs) = im π1 x :: imL π2 xs from congrArg (· :: imL π2 xs) (N2.im w1)] at z
    exact z
theorem px_tup {es : List Expr} {ee : Exs} {k : Nat} (h : PAh X G C es ee) : PEh X G C (.Tuple es k pos) (.tup ee) :=
  pe_of (pe_tup h) fun σ H Q ⟨π, e, h, v, h', S, hm, q⟩ => by
    simp only [ev] at hm
    obtain ⟨xs, h1, e1, hm⟩ := bd_ok hm
    refine goA S e1 fun π1 H1 N1 S1 w1 => ?_
    split at hm
    · rename_i hz
      refine ⟨by rw [imL_len]; exact hz, fun p hp => new_tup S1.hr w1 hm (fun π2 H2 N2 R2 w2 => q π2 H2 (N1.trans N2) R2 w2) hp⟩
    · exact (no_ok hm).elim
theorem px_lst {es : List Expr} {ee : Exs} (h : PAh X G C es ee) : PEh X G C (.List es pos) (.lst ee) :=
  pe_of (pe_lst h) fun σ H Q ⟨π, e, h, v, h', S, hm, q⟩ => by
    simp only [ev] at hm
    obtain ⟨xs, h1, e1, hm⟩ := bd_ok hm
    refine goA S e1 fun π1 H1 N1 S1 w1 => ?_
    split at hm
    · rename_i hz
      refine ⟨by rw [imL_len]; exact hz, fun p hp => new_lst S1.hr w1 hm (fun π2 H2 N2 R2 w2 => q π2 H2 (N1.trans N2) R2 w2) hp⟩
    · exact (no_ok hm).elim
theorem px_idx (hK : X.K = G.K) (ha : PEh X G C a ea) (hb : PEh X G C b eb) (hp : plE b = true) : PEh X G C (.Subscript a b pos) (.idx ea eb) :=
  pe_of (pe_ix (ix_ok hK) ha hb (sub_plain hp)) fun σ H Q ⟨π, e, h, v, h', S, hm, q⟩ => by
    simp only [ev] at hm
    obtain ⟨x, h1, e1, hm⟩ := bd_ok hm
    obtain ⟨y, h2, e2, hm⟩ := bd_ok hm
    refine goE S e1 fun π1 H1 N1 S1 w1 => ?_
    refine goE S1 e2 fun π2 H2 N2 S2 w2 => ?_
    exact ⟨π2, h2, x, y, v, h', (N2.im w1).symm, rfl, N2.wf w1, w2, S2.hr, hm, fun π3 H3 N3 R3 w3 => q π3 H3 ((N1.trans N2).trans N3) R3 w3⟩
end
end HI

set_option maxRecDepth 100000
set_option maxHeartbeats 4000000
/-! slices, calls, instances -/
namespace HI
open PySem PySem.Spec PyProof.Rows L2

section
variable {X : Cx} {G : Gd} {C : Cfg} {pos : Pos} {a b c : Expr} {ea eb ec : Ex}
abbrev TOh (G : Gd) (m : Ev → Mo (Option Int)) : TO := Lf G (fun _ o => o) (fun _ _ => True) m
theorem goO {G : Gd} {m : Ev → Mo (Option Int)} {σ : L2.St} {H : Hp} {Q : Option Int → Hp → Prop} {π e h a h'} (S : Sx G σ H π e h) (hm : m e h = some (.ok a, h'))
    (k : ∀ π' H', Nx π h π' h' → Sx G σ H' π' e h' → True → Q a H') : TOh G m σ H Q := Lf.go S hm k
theorem po_of {e : Option Expr} {t t0 : TO} (p : PO X e t0) (h : ∀ σ H Q, t σ H Q → t0 σ H Q) : PO X e t := by
  constructor
  intro pins s σ H Q I q
  exact p.run pins s σ H Q I (h σ H Q q)
theorem pox_none {el : Ex} : PO X none (TOh G fun e => partO false (ev C el e)) :=
  po_of po_none fun σ H Q ⟨π, e, h, o, h', S, hm, q⟩ => by
    obtain ⟨e1, e2⟩ := rt_ok (a := (none : Option Int)) hm
    subst e1 e2
    exact q π H Nx.refl S.hr trivial
theorem pox_some (ha : PEh X G C a ea) : PO X (some a) (TOh G fun e => partO true (ev C ea e)) :=
  po_of (po_some ha) fun σ H Q ⟨π, e, h, o, h', S, hm, q⟩ => by
    have hm : bd (ev C ea e) (fun x => bd (toI x) fun i => rt (some i)) h = some (.ok o, h') := hm
    obtain ⟨x, h1, e1, m1⟩ := bd_ok hm
    obtain ⟨i, h2, e2, m2⟩ := bd_ok m1
    unfold toI at e2
    split at e2
    · obtain ⟨e3, e4⟩ := rt_ok e2
      obtain ⟨e5, e6⟩ := rt_ok m2
      subst e3 e4 e5 e6
      exact goE S e1 fun π1 H1 N1 S1 w1 => ⟨_, rfl, q π1 H1 N1 S1.hr trivial⟩
    · exact (no_ok e2).elim
/-- a slice by the interpreter -/
def RSh (G : Gd) : V → Option Int → Option Int → Hp → VK → Prop := fun x lo hi H Q => ∃ π h a v h', x = im π a ∧ wf h.length a ∧ HR G π h H ∧ slice a lo hi h = some (.ok v, h') ∧ Then G Q π h h' v
theorem sl_ok (hK : X.K = G.K) : SlR X (RSh G) := by
  have base := SlR.or (sl_list (X := X)) (sl_tup (X := X))
  intro pins s σ H x v vl vu lo hi sl Q I rx hs pl pu q
  obtain ⟨π, h, a, r, h', rfl, wa, R, e, q⟩ := q
  unfold slice at e
  split at e
  · rename_i d
    split at e
    · rename_i xs hx
      obtain ⟨l1, w1⟩ := R.seqL hx
      rw [← hK] at l1
      refine base pins s σ H _ v vl vu lo hi sl Q I rx hs pl pu (.inl ⟨π d, imL π xs, rfl, l1, fun p hp => ?_⟩)
      rw [← cutV_im]
      exact new_lst R (cutV_wf w1) e q hp
    · split at e
      · rename_i xs hx
        obtain ⟨l1, w1⟩ := R.seqT hx
        rw [← hK] at l1
        split at e
        · cases e
        · rename_i hn
          refine base pins s σ H _ v vl vu lo hi sl Q I rx hs pl pu (.inr ⟨π d, imL π xs, rfl, l1, by rw [imL_len]; exact hn, fun p hp => ?_⟩)
          rw [← cutV_im]
          exact new_tup R (cutV_wf w1) e q hp
      · cases e
  · exact (no_ok e).elim
theorem px_slc (hK : X.K = G.K) {lo hi : Option Expr} {bl bh : Bool} {el eh : Ex} {p2 : Pos} (ha : PEh X G C a ea) (hl : PO X lo (TOh G fun e => partO bl (ev C el e))) (hh : PO X hi (TOh G fun e => partO bh (ev C eh e))) :
    PEh X G C (.Subscript a (.Slice lo hi none p2) pos) (.slc ea bl el bh eh) :=
  pe_of (pe_slice (sl_ok hK) ha hl hh) fun σ H Q ⟨π, e, h, v, h', S, hm, q⟩ => by
    simp only [ev] at hm
    obtain ⟨x, h1, e1, m1⟩ := bd_ok hm
    obtain ⟨l, h2, e2, m2⟩ := bd_ok m1
    obtain ⟨u, h3, e3, m3⟩ := bd_ok m2
    refine goE S e1 fun π1 H1 N1 S1 w1 => ?_
    refine goO S1 e2 fun π2 H2 N2 S2 _ => ?_
    refine goO S2 e3 fun π3 H3 N3 S3 _ => ?_
    exact ⟨π3, h3, x, v, h', ((N2.trans N3).im w1).symm, (N2.trans N3).wf w1, S3.hr, m3, fun π4 H4 N4 R4 w4 => q π4 H4 ((N1.trans (N2.trans N3)).trans N4) R4 w4⟩

theorem px_rev (hK : X.K = G.K) {k : Nat} {p1 p2 p3 : Pos} (ha : PEh X G C a ea) : PEh X G C (.Subscript a (.Slice none none (some (.UnaryOp .USub (.Constant (.int 1) k p1) p2)) p3) pos) (.bcall "[::-1]" (.cons ea .nil)) :=
  pe_of (pe_revL ha) fun σ H Q ⟨π, e, h, v, h', S, hm, q⟩ => by
    simp only [ev, evs] at hm
    obtain ⟨xs, h1, e1, m1⟩ := bd_ok hm
    obtain ⟨x, h2, e2, m2⟩ := bd_ok e1
    obtain ⟨ys, h3, e3, m3⟩ := bd_ok m2
    obtain ⟨b1, b2⟩ := rt_ok e3
    subst b1 b2
    obtain ⟨b1, b2⟩ := rt_ok m3
    subst b1 b2
    refine goE S e2 fun π1 H1 N1 S1 w1 => ?_
    replace m1 : revO x h2 = some (.ok v, h') := m1
    unfold revO at m1
    split at m1
    · rename_i d
      split at m1
      · rename_i zs hz
        obtain ⟨l1, w⟩ := S1.hr.seqL hz
        rw [← hK] at l1
        refine ⟨_, _, rfl, l1, fun p hp => ?_⟩
        have z := new_lst S1.hr (xs := zs.reverse) (fun u hu => w u (List.mem_reverse.mp hu)) m1 (Q := Q) (fun π2 H2 N2 R2 w2 => q π2 H2 (N1.trans N2) R2 w2) hp
        have er : imL π1 zs.reverse = (imL π1 zs).reverse := List.map_reverse
        rw [er] at z
        exact z
      · cases m1
    · exact (no_ok m1).elim

/-! ### calls -/
/-- a def does what F says, of n arguments -/
def spH (G : Gd) (n : Nat) (F : List V → Mo V) : Sp := fun vs H Q _ =>
  ∃ π h as v h', vs = imL π as ∧ as.length = n ∧ wfL h.length as ∧ HR G π h H ∧ F as h = some (.ok v, h') ∧ Then G Q π h h' v
structure DefOk (X : Cx) (G : Gd) (k : Nat) (x : Str) (n : Nat) (F : List V → Mo V) : Prop where
  has : ∃ (f : Addr) (fd : FuncData) (ps : List Str), X.mg x = some (.ref f) ∧ PySem.W.keepIn X.K (.ref f) = true ∧ Binds X.K fd ps [] ∧ FnG X.prog X.w X.K X.mg X.base CX0 k f fd ps (spH G n F)
theorem evs_len {C : Cfg} : ∀ {es : Exs} {e : Ev} {h h' : Hh} {vs : List V}, evs C es e h = some (.ok vs, h') → ∀ n, (match es with | .nil => n = 0 | .cons _ _ => True) → True := fun _ _ _ => trivial
/-- the number of terms -/
def Exs.len : Exs → Nat | .nil => 0 | .cons _ r => r.len + 1
theorem evs_length {C : Cfg} : ∀ (es : Exs) {e : Ev} {h h' : Hh} {vs : List V}, evs C es e h = some (.ok vs, h') → vs.length = es.len
  | .nil, e, h, h', vs, hm => by
    simp only [evs] at hm
    obtain ⟨e1, _⟩ := rt_ok hm
    subst e1; rfl
  | .cons a r, e, h, h', vs, hm => by
    simp only [evs] at hm
    obtain ⟨x, h1, _, m1⟩ := bd_ok hm
    obtain ⟨xs, h2, e2, m2⟩ := bd_ok m1
    obtain ⟨e3, _⟩ := rt_ok m2
    subst e3
    show xs.length + 1 = r.len + 1
    rw [evs_length r e2]
theorem px_call {x : Str} {q : String} {k n : Nat} {p : Pos} {e1 : Expr} {es : List Expr} {ee : Exs} (D : DefOk X G k x n (C.call q)) (hgd : X.A.guards = some []) (hr : Room k X.A) (hg : Gl X x)
    (hdb : (x == ("__debug__" : Str)) = false) (ha : PAh X G C (e1 :: es) ee) (hn : ee.len = n) (hp : ∀ e ∈ e1 :: es, plE e = true) : PEh X G C (.Call (.Name x p) (e1 :: es) [] pos) (.call q ee) := by
  obtain ⟨f, fd, ps, hm, hk, hb, F⟩ := D.has
  refine pe_of (gcall (E := E0) F hgd hr hg hm hk hb .nil pass0 ha hdb (star_cons (hp e1 List.mem_cons_self)) (back_plain fun e he => hp e (List.mem_cons_of_mem _ he))) ?_
  intro σ H Q ⟨π, e, h, v, h', S, hm, q⟩
  simp only [ev] at hm
  obtain ⟨xs, h1, m1, m2⟩ := bd_ok hm
  refine goA S m1 fun π1 H1 N1 S1 w1 => ?_
  exact ⟨π1, h1, xs, v, h', by rw [List.append_nil], (evs_length ee m1).trans hn, w1, S1.hr, m2, fun π2 H2 N2 R2 w2 => q π2 H2 (N1.trans N2) R2 w2⟩
theorem px_call0 {x : Str} {q : String} {k : Nat} {p : Pos} (D : DefOk X G k x 0 (C.call q)) (hgd : X.A.guards = some []) (hr : Room k X.A) (hg : Gl X x)
    (hdb : (x == ("__debug__" : Str)) = false) : PEh X G C (.Call (.Name x p) [] [] pos) (.call q .nil) := by
  obtain ⟨f, fd, ps, hm, hk, hb, F⟩ := D.has
  refine pe_of (gcall0 (E := E0) F hgd hr hg hm hk hb .nil pass0 hdb) ?_
  intro σ H Q ⟨π, e, h, v, h', S, hm, q⟩
  simp only [ev, evs] at hm
  obtain ⟨xs, h1, m1, m2⟩ := bd_ok hm
  obtain ⟨e1, e2⟩ := rt_ok m1
  subst e1 e2
  exact ⟨π, h, [], v, h', rfl, rfl, (fun _ z => nomatch z), S.hr, m2, q⟩
theorem px_bcall {x : Str} {f id : String} {p : Pos} {e1 : Expr} {es : List Expr} {ee : Exs} (hc : CallR X (.builtin id) (RLh G (bfn f))) (hg : Gl X x) (hm : X.mg x = none) (hv : bootBuiltins x = some (.builtin id))
    (hn : x ≠ "__name__") (hdb : (x == ("__debug__" : Str)) = false) (ha : PAh X G C (e1 :: es) ee) (hp : ∀ e ∈ e1 :: es, plE e = true) : PEh X G C (.Call (.Name x p) (e1 :: es) [] pos) (.bcall f ee) :=
  pe_of (pe_callB hc hg hm hv ha hn hdb (star_cons (hp e1 List.mem_cons_self)) (back_plain fun e he => hp e (List.mem_cons_of_mem _ he))) fun σ H Q ⟨π, e, h, v, h', S, hm, q⟩ => by
    simp only [ev] at hm
    obtain ⟨xs, h1, m1, m2⟩ := bd_ok hm
    refine goA S m1 fun π1 H1 N1 S1 w1 => ?_
    exact ⟨π1, h1, xs, v, h', rfl, w1, S1.hr, m2, fun π2 H2 N2 R2 w2 => q π2 H2 (N1.trans N2) R2 w2⟩
theorem px_tcall {x : Str} {f T : String} {p : Pos} {e1 : Expr} {es : List Expr} {ee : Exs} (hc : CallR X (.type T) (RLh G (bfn f))) (hg : Gl X x) (hm : X.mg x = none) (hv : bootBuiltins x = some (.type T))
    (hn : x ≠ "__name__") (hdb : (x == ("__debug__" : Str)) = false) (ha : PAh X G C (e1 :: es) ee) (hp : ∀ e ∈ e1 :: es, plE e = true) : PEh X G C (.Call (.Name x p) (e1 :: es) [] pos) (.bcall f ee) :=
  pe_of (pe_callTy hc hg hm hv ha hn hdb (star_cons (hp e1 List.mem_cons_self)) (back_plain fun e he => hp e (List.mem_cons_of_mem _ he))) fun σ H Q ⟨π, e, h, v, h', S, hm, q⟩ => by
    simp only [ev] at hm
    obtain ⟨xs, h1, m1, m2⟩ := bd_ok hm
    refine goA S m1 fun π1 H1 N1 S1 w1 => ?_
    exact ⟨π1, h1, xs, v, h', rfl, w1, S1.hr, m2, fun π2 H2 N2 R2 w2 => q π2 H2 (N1.trans N2) R2 w2⟩

theorem px_is {f t : String} {y : Str} {p p2 : Pos} {e1 : Expr} {ea : Ex} (hK : X.K = G.K) (hf : ∀ x, bfn f [x] = isO t x) (ht : t ∈ ["int", "bool", "list", "tuple", "str"]) (hg : Gl X "isinstance") (hm : X.mg "isinstance" = none)
    (gy : Gl X y) (my : X.mg y = none) (by_ : bootBuiltins y = some (.type t)) (hn : y ≠ "__name__") (hd : (y == ("__debug__" : Str)) = false) (ha : PEh X G C e1 ea) (hp : plE e1 = true) :
    PEh X G C (.Call (.Name "isinstance" p) [e1, .Name y p2] [] pos) (.bcall f (.cons ea .nil)) :=
  pe_of (pe_callB call_isi hg hm (by decide +kernel) (pa_cons ha (pa_cons (pe_bltn (v := .ty t) gy my by_ rfl hn hd) pa_nil) (hs := star_cons hp)) (by decide) (by decide) (star_cons hp) (back_plain fun e he => by rw [List.mem_singleton.mp he]; rfl)) fun σ H Q ⟨π, e, h, v, h', S, hm, q⟩ => by
    simp only [ev, evs] at hm
    obtain ⟨xs, h1, m1, m2⟩ := bd_ok hm
    obtain ⟨x, h2, e2, m3⟩ := bd_ok m1
    obtain ⟨ys, h3, e3, m4⟩ := bd_ok m3
    obtain ⟨b1, b2⟩ := rt_ok e3
    subst b1 b2
    obtain ⟨b1, b2⟩ := rt_ok m4
    subst b1 b2
    rw [hf] at m2
    obtain ⟨m5, b2⟩ := look_ok m2
    subst b2
    obtain ⟨s, hs, b3⟩ := Option.map_eq_some_iff.mp m5
    subst b3
    refine goE S e2 fun π1 H1 N1 S1 w1 => ?_
    have ty := tyO_ok S1.hr hs
    rw [← hK] at ty
    exact ⟨im π1 x, .ty t, .type s, .type t, subTy s t, rfl, .ty t, ty, subTy_ok hs ht, q π1 H1 N1 S1.hr trivial⟩

/-! ### instances -/
theorem HR.own {π : Nat → Addr} {h : Hh} {H : Hp} {x dx : Addr} (R : HR G π h H) (hd : H dx = none) : HR G π h (upd H dx (.own x)) :=
  ⟨fun i o e => (R.ob i o e).move (R.wo i o e) (fun _ _ => rfl) fun u hu => by rw [upd_ne (ne_of_none hu hd)]; exact hu, R.wo, R.inj⟩
theorem imF_nil {π : Nat → Addr} : imF π [] = [] := rfl
structure MkOk (X : Cx) (G : Gd) (k : Nat) (x : Str) (c : Nat) (n : Nat) (F : List V → Mo V) : Prop where
  has : ∃ (f : Addr) (fd : FuncData) (ps : List Str), X.mg x = some (.ref (G.cls c)) ∧ Mk X.K (G.cls c) f ∧ Binds X.K fd ps [] ∧ FnG X.prog X.w X.K X.mg X.base CX0 k f fd ps (spH G (n + 1) F)
theorem px_mk {x : Str} {k n : Nat} {cl : Nat} {p : Pos} {e1 : Expr} {es : List Expr} {ee : Exs} (D : MkOk X G k x cl n (C.call (C.cname cl ++ ".__init__"))) (hgd : X.A.guards = some []) (hr : Room (k + 1) X.A) (hg : Gl X x)
    (hdb : (x == ("__debug__" : Str)) = false) (ha : PAh X G C (e1 :: es) ee) (hn : ee.len = n) (hp : ∀ e ∈ e1 :: es, plE e = true) : PEh X G C (.Call (.Name x p) (e1 :: es) [] pos) (.mk cl ee) := by
  obtain ⟨f, fd, ps, hm, M, hb, F⟩ := D.has
  refine pe_of (gmake (E := E0) M F hgd hr hg hm hb .nil pass0 ha hdb (star_cons (hp e1 List.mem_cons_self)) (back_plain fun e he => hp e (List.mem_cons_of_mem _ he))) ?_
  intro σ H Q ⟨π, e, h, v, h', S, hm, q⟩
  simp only [ev] at hm
  obtain ⟨xs, h1, m1, m2⟩ := bd_ok hm
  refine goA S m1 fun π1 H1 N1 S1 w1 => fun x dx hx hdx hne => ?_
  unfold makeO at m2
  obtain ⟨y, h2, a1, a2⟩ := bd_ok m2
  unfold alloc at a1
  cases a1
  obtain ⟨r, h3, a3, a4⟩ := bd_ok a2
  have R2 : HR G π1 h1 (upd H1 dx (.own x)) := S1.hr.own hdx
  have fx : (upd H1 dx (.own x)) x = none := by rw [upd_ne (fun z => hne z.symm)]; exact hx
  have R3 : HR G (ext π1 h1.length x) (h1 ++ [.ins cl []]) (upd (upd H1 dx (.own x)) x (.ins (G.cls cl) dx [])) := by
    refine R2.laid fx (fun _ z => nomatch z) ?_
    refine ⟨dx, ?_⟩
    rw [upd_same]; rfl
  have N2 : Nx π1 h1 (ext π1 h1.length x) (h1 ++ [.ins cl []]) := ext_nx _ x
  refine ⟨ext π1 h1.length x, h1 ++ [.ins cl []], .ref h1.length :: xs, r, h3, ?_, ?_, ?_, R3, a3, ?_⟩
  · rw [List.append_nil]
    show _ = V.ref (ext π1 h1.length x h1.length) :: imL (ext π1 h1.length x) xs
    rw [ext_at, N2.imL w1]
  · show xs.length + 1 = n + 1
    rw [evs_length ee m1, hn]
  · intro u hu
    rcases List.mem_cons.mp hu with rfl | hu
    · show h1.length < (h1 ++ [Ob.ins cl []]).length
      rw [List.length_append]; exact Nat.lt_succ_self _
    · exact N2.wf (w1 u hu)
  · intro π4 H4 N4 R4 w4
    split at a4
    · rename_i hr0
      obtain ⟨b1, b2⟩ := rt_ok a4
      subst hr0 b1 b2
      have lt : h1.length < (h1 ++ [Ob.ins cl []]).length := by rw [List.length_append]; exact Nat.lt_succ_self _
      refine ⟨rfl, ?_⟩
      have z := q π4 H4 ((N1.trans N2).trans N4) R4 (N4.wf (v := .ref h1.length) lt)
      have ez : im π4 (.ref h1.length) = .ref x := by
        rw [N4.im (v := .ref h1.length) lt]
        exact congrArg V.ref ext_at
      rw [ez] at z
      exact z
    · exact (no_ok a4).elim
structure MethOk (X : Cx) (G : Gd) (k : Nat) (c : Nat) (m : Str) (n : Nat) (F : List V → Mo V) : Prop where
  has : ∃ (f : Addr) (fd : FuncData) (ps : List Str), Cls X.K (G.cls c) ∧ Meth X.K (G.cls c) m f ∧ Binds X.K fd ps [] ∧ FnG X.prog X.w X.K X.mg X.base CX0 k f fd ps (spH G (n + 1) F)
theorem recv_ok {m : Str} {x : V} {h h' : Hh} {r : Rc} (e : recv m x h = some (.ok r, h')) : h = h' ∧ ∃ a, x = .ref a ∧ ((∃ ys, h[a]? = some (.lst ys) ∧ r = .lst a) ∨ ∃ c fs, h[a]? = some (.ins c fs) ∧ fs.lookup m = none ∧ r = .ins c a) := by
  unfold recv at e
  split at e
  · rename_i a
    obtain ⟨e1, e2⟩ := look_ok e
    refine ⟨e2, a, rfl, ?_⟩
    split at e1
    · rename_i ys hy
      cases e1
      exact .inl ⟨ys, hy, rfl⟩
    · rename_i c fs hy
      split at e1
      · rename_i hl
        cases e1
        exact .inr ⟨c, fs, hy, hl, rfl⟩
      · cases e1
    · cases e1
  · exact (no_ok e).elim
theorem lookup_imF {π : Nat → Addr} {m : Str} : ∀ {fs : List (Str × V)}, (imF π fs).lookup m = (fs.lookup m).map (im π)
  | [] => rfl
  | (k, v) :: r => by
    show List.lookup m ((k, im π v) :: imF π r) = Option.map (im π) (List.lookup m ((k, v) :: r))
    rw [List.lookup_cons, List.lookup_cons]
    cases m == k
    · exact lookup_imF
    · rfl
/-- how a list's method is run -/
structure LMeth (X : Cx) (G : Gd) (m : Str) (ms : String) : Prop where
  has : ∃ id : String, Slot "list" m id ∧ typeOf (.builtin id) = pure (.type "method_descriptor") ∧ MtR X id (RMh G ms)
theorem px_meth {k : Nat} {m : Str} {ms : String} {o : Expr} {eo : Ex} {apos : Pos} {e1 : Expr} {es : List Expr} {ee : Exs}
    (D : ∀ c, C.hasM c ms = true → MethOk X G k c m ee.len (C.call (C.cname c ++ "." ++ ms))) (L : LMeth X G m ms ∨ ∀ a vs h, lmeth ms a vs h = none) (hgd : X.A.guards = some []) (hr : Room k X.A)
    (ho : PEh X G C o eo) (hpo : plE o = true) (ha : PAh X G C (e1 :: es) ee) (hp : ∀ e ∈ e1 :: es, plE e = true) (hl : (apos.endLine == pos.line) = true) (h30 : (e1 :: es).length < 30) :
    PEh X G C (.Call (.Attribute o m apos) (e1 :: es) [] pos) (.meth m ms eo ee) := by
  refine pe_pick fun σ H Q ⟨π, e, h, v, h', S, hm, q⟩ => ?_
  simp only [ev] at hm
  obtain ⟨x, h1, a1, m1⟩ := bd_ok hm
  obtain ⟨r, h1', a2, m2⟩ := bd_ok m1
  obtain ⟨vs, h2, a3, m3⟩ := bd_ok m2
  obtain ⟨e0, d, rfl, hcase⟩ := recv_ok a2
  subst e0
  have hs := star_cons (es := es) (env := X.env) (hp e1 List.mem_cons_self)
  have hb := back_plain (pos := pos) (env := X.env) (es := es) fun e he => hp e (List.mem_cons_of_mem _ he)
  rcases hcase with ⟨ys, hy, rfl⟩ | ⟨c, fs, hy, hlk, rfl⟩
  · rcases L with L | L
    · obtain ⟨id, slot, hty, mt⟩ := L.has
      refine ⟨_, pe_bm PySem.F.plainAttrs_list slot hty mt ho ha (base_plain hpo) ?_ hl hs hb, ?_⟩
      · rw [few_plain hp]
        show (true && true && decide ((e1 :: es).length + 0 + 0 < 30)) = true
        simp only [Bool.true_and, decide_eq_true_eq]; exact h30
      · refine goE S a1 fun π1 H1 N1 S1 w1 => ?_
        refine ⟨.inl ⟨rfl, _, .inl (.inl (S1.hr.ob _ _ hy))⟩, ?_⟩
        refine goA S1 a3 fun π2 H2 N2 S2 w2 => ?_
        have wd : d < h1.length := w1
        exact ⟨π2, h2, d, vs, v, h', congrArg V.ref (N2.ag d wd).symm, rfl, Nat.lt_of_lt_of_le wd N2.le, w2, S2.hr, m3, fun π3 H3 N3 R3 w3 => q π3 H3 ((N1.trans N2).trans N3) R3 w3⟩
    · have z : lmeth ms d vs h2 = some (.ok v, h') := m3
      rw [L] at z
      cases z
  · have m3 : (if C.hasM c ms = true then C.call (C.cname c ++ "." ++ ms) (.ref d :: vs) else no) h2 = some (.ok v, h') := m3
    split at m3
    · rename_i hc
      obtain ⟨f, fd, ps, cls, mth, hbd, F⟩ := (D c hc).has
      refine ⟨_, gmeth (E := E0) ho cls mth F hgd hr hbd .nil pass0 ha hs hb (mc_eq hpo hp h30 hl), ?_⟩
      refine goE S a1 fun π1 H1 N1 S1 w1 => ?_
      obtain ⟨dx, hd⟩ := S1.hr.ob _ _ hy
      refine ⟨π1 d, dx, imF π1 fs, rfl, hd, by rw [lookup_imF, hlk]; rfl, ?_⟩
      refine goA S1 a3 fun π2 H2 N2 S2 w2 => ?_
      have wd : d < h1.length := w1
      refine ⟨π2, h2, .ref d :: vs, v, h', ?_, ?_, ?_, S2.hr, m3, fun π3 H3 N3 R3 w3 => q π3 H3 ((N1.trans N2).trans N3) R3 w3⟩
      · rw [List.append_nil]
        exact congrArg (· :: imL π2 vs) (congrArg V.ref (N2.ag d wd).symm)
      · show vs.length + 1 = ee.len + 1
        rw [evs_length ee a3]
      · intro u hu
        rcases List.mem_cons.mp hu with rfl | hu
        · exact N2.wf (v := .ref d) wd
        · exact w2 u hu
    · exact (no_ok m3).elim
theorem px_meth0 {k : Nat} {m : Str} {ms : String} {o : Expr} {eo : Ex} {apos : Pos}
    (D : ∀ c, C.hasM c ms = true → MethOk X G k c m 0 (C.call (C.cname c ++ "." ++ ms))) (L : LMeth X G m ms ∨ ∀ a vs h, lmeth ms a vs h = none) (hgd : X.A.guards = some []) (hr : Room k X.A)
    (ho : PEh X G C o eo) (hpo : plE o = true) (hl : (apos.endLine == pos.line) = true) :
    PEh X G C (.Call (.Attribute o m apos) [] [] pos) (.meth m ms eo .nil) := by
  refine pe_pick fun σ H Q ⟨π, e, h, v, h', S, hm, q⟩ => ?_
  simp only [ev, evs] at hm
  obtain ⟨x, h1, a1, m1⟩ := bd_ok hm
  obtain ⟨r, h1', a2, m2⟩ := bd_ok m1
  obtain ⟨vs, h2, a3, m3⟩ := bd_ok m2
  obtain ⟨e0, d, rfl, hcase⟩ := recv_ok a2
  obtain ⟨e5, e6⟩ := rt_ok a3
  subst e0 e5 e6
  rcases hcase with ⟨ys, hy, rfl⟩ | ⟨c, fs, hy, hlk, rfl⟩
  · rcases L with L | L
    · obtain ⟨id, slot, hty, mt⟩ := L.has
      refine ⟨_, pe_bm0 PySem.F.plainAttrs_list slot hty mt ho (base_plain hpo) hl, ?_⟩
      refine goE S a1 fun π1 H1 N1 S1 w1 => ?_
      refine ⟨.inl ⟨rfl, _, .inl (.inl (S1.hr.ob _ _ hy))⟩, ?_⟩
      have wd : d < h1.length := w1
      exact ⟨π1, h1, d, [], v, h', rfl, rfl, wd, (fun _ z => nomatch z), S1.hr, m3, fun π3 H3 N3 R3 w3 => q π3 H3 (N1.trans N3) R3 w3⟩
    · have z : lmeth ms d [] h1 = some (.ok v, h') := m3
      rw [L] at z
      cases z
  · have m3 : (if C.hasM c ms = true then C.call (C.cname c ++ "." ++ ms) [.ref d] else no) h1 = some (.ok v, h') := m3
    split at m3
    · rename_i hc
      obtain ⟨f, fd, ps, cls, mth, hbd, F⟩ := (D c hc).has
      refine ⟨_, gmeth0 (E := E0) ho cls mth F hgd hr hbd .nil pass0 (mc_eq hpo (fun _ z => nomatch z) (by decide) hl), ?_⟩
      refine goE S a1 fun π1 H1 N1 S1 w1 => ?_
      obtain ⟨dx, hd⟩ := S1.hr.ob _ _ hy
      refine ⟨π1 d, dx, imF π1 fs, rfl, hd, by rw [lookup_imF, hlk]; rfl, ?_⟩
      have wd : d < h1.length := w1
      refine ⟨π1, h1, [.ref d], v, h', rfl, rfl, ?_, S1.hr, m3, fun π3 H3 N3 R3 w3 => q π3 H3 (N1.trans N3) R3 w3⟩
      intro u hu
      rw [List.mem_singleton.mp hu]
      exact wd
    · exact (no_ok m3).elim
structure FldOk (X : Cx) (G : Gd) (c : Nat) (f : Str) : Prop where
  cl : Cls X.K (G.cls c)
  na : NoAttr X.K (G.cls c) f
theorem lookup_mem {f : Str} {v : V} : ∀ {fs : List (Str × V)}, fs.lookup f = some v → ∃ k, (k, v) ∈ fs
  | (k, u) :: r, e => by
    rw [List.lookup_cons] at e
    split at e
    · cases e; exact ⟨k, List.mem_cons_self⟩
    · obtain ⟨k2, z⟩ := lookup_mem e; exact ⟨k2, List.mem_cons_of_mem _ z⟩
theorem px_fld {o : Expr} {eo : Ex} {f : Str} (D : ∀ c, C.fld c f = true → FldOk X G c f) (ho : PEh X G C o eo) (hpo : plE o = true) : PEh X G C (.Attribute o f pos) (.fld eo f) :=
  pe_of (pe_fld ho (base_plain hpo)) fun σ H Q ⟨π, e, h, v, h', S, hm, q⟩ => by
    simp only [ev] at hm
    obtain ⟨x, h1, a1, m1⟩ := bd_ok hm
    refine goE S a1 fun π1 H1 N1 S1 w1 => ?_
    unfold fldO at m1
    split at m1
    · rename_i d
      obtain ⟨b1, b2⟩ := look_ok m1
      subst b2
      split at b1
      · rename_i c fs hy
        split at b1
        · rename_i hc
          obtain ⟨dx, hd⟩ := S1.hr.ob _ _ hy
          have D' := D c hc
          refine ⟨π1 d, G.cls c, dx, imF π1 fs, im π1 v, rfl, hd, D'.cl, D'.na, by rw [lookup_imF, b1]; rfl, q π1 H1 N1 S1.hr ?_⟩
          obtain ⟨k, hk⟩ := lookup_mem b1
          exact S1.hr.wo _ _ hy (k, v) hk
        · cases b1
      · cases b1
    · exact (no_ok m1).elim
end
end HI

set_option maxRecDepth 100000
set_option maxHeartbeats 4000000
/-! targets, walks, comprehensions -/
namespace HI
open PySem PySem.Spec PyProof.Rows L2

def gNames : List Nat → TGs
  | [] => gNil
  | i :: r => gCons (gName i) (gNames r)
def tgR (K : PySem.W.Frag) : Tg → TG
  | .nm i => gName i
  | .tp is => gTup K is.length (gNames is)
section
variable {G : Gd} {σ : L2.St} {H : Hp} {π : Nat → Addr} {e e1 : Ev} {h : Hh}
theorem setAll_ok : ∀ {is : List Nat} {xs : List V} {e e1 : Ev}, setAll is xs e = some e1 → wfE h.length e → wfL h.length xs → ∀ {Q : L2.St → Hp → Prop},
    (wfE h.length e1 → Q (imE π e1) H) → gNames is (imL π xs) (imE π e) H Q
  | [], [], e, e1, hs, we, _, Q, q => by
    cases hs
    exact ⟨rfl, q we⟩
  | i :: is, x :: xs, e, e1, hs, we, wx, Q, q => by
    refine ⟨im π x, imL π xs, rfl, ?_⟩
    show gNames is (imL π xs) ((imE π e).set i (some (im π x))) H Q
    rw [← imE_set]
    exact setAll_ok (is := is) (xs := xs) hs (we.set (wx x List.mem_cons_self)) (fun u hu => wx u (List.mem_cons_of_mem _ hu)) q
  | [], _ :: _, _, _, hs, _, _, _, _ => by cases hs
  | _ :: _, [], _, _, hs, _, _, _, _ => by cases hs
theorem setAll_len : ∀ {is : List Nat} {xs : List V} {e e1 : Ev}, setAll is xs e = some e1 → is.length = xs.length
  | [], [], _, _, _ => rfl
  | i :: is, x :: xs, e, e1, hs => congrArg (· + 1) (setAll_len (is := is) (xs := xs) hs)
  | [], _ :: _, _, _, hs => by cases hs
  | _ :: _, [], _, _, hs => by cases hs
theorem asg_ok {K : PySem.W.Frag} (hK : K = G.K) {t : Tg} {x : V} (S : Sx G σ H π e h) (hs : asg t x e h = some e1) (wx : wf h.length x) {Q : L2.St → Hp → Prop}
    (q : Sx G (imE π e1) H π e1 h → Q (imE π e1) H) : tgR K t (im π x) σ H Q := by
  rw [S.sl]
  cases t with
  | nm i =>
    cases hs
    show Q ((imE π e).set i (some (im π x))) H
    rw [← imE_set]
    exact q ⟨rfl, S.we.set wx, S.hr⟩
  | tp is =>
    unfold asg at hs
    cases x with
    | ref a =>
      simp only at hs
      split at hs
      · rename_i xs hx
        obtain ⟨l1, w1⟩ := S.hr.seqT hx
        rw [← hK] at l1
        refine ⟨π a, imL π xs, rfl, l1, by rw [imL_len]; exact (setAll_len hs).symm, ?_⟩
        exact setAll_ok hs S.we w1 fun we1 => q ⟨rfl, we1, S.hr⟩
      · cases hs
    | _ => cases hs
end

/-! ### what is walked -/
/-- the items of a walk are those that the model yields -/
structure Wk (G : Gd) (iv : Iv) (J : L2.It) (π1 : Nat → Addr) (h1 : Hh) : Prop where
  go : ∀ {π hi hi' H i x}, Nx π1 h1 π hi → HR G π hi H → iv.at i hi = some (.ok x, hi') → J.go i H ∧
    ∀ x' H', J.yld i H x' H' → ∃ π', Nx π hi π' hi' ∧ HR G π' hi' H' ∧ x' = im π' x ∧ wf hi'.length x
  stop : ∀ {π hi H}, Nx π1 h1 π hi → HR G π hi H → iv.ends hi = true → J.stop iv.size H

section
variable {G : Gd} {π1 : Nat → Addr} {h1 : Hh}
theorem now_ok {a n : Nat} {h : Hh} {ys : List V} (e : nowL h a n = some ys) : seqL h a = some ys ∧ ys.length = n := by
  unfold nowL at e
  split at e
  · rename_i zs hz
    split at e
    · rename_i c
      cases e
      exact ⟨hz, c⟩
    · cases e
  · cases e
theorem nowT_ok {a n : Nat} {h : Hh} {ys : List V} (e : nowT h a n = some ys) : seqT h a = some ys ∧ ys.length = n := by
  unfold nowT at e
  split at e
  · rename_i zs hz
    split at e
    · rename_i c
      cases e
      exact ⟨hz, c⟩
    · cases e
  · cases e
theorem item_ok {o : Option (List V)} {i : Nat} {x : V} (e : itemO o i = some x) : ∃ ys, o = some ys ∧ ys[i]? = some x := by
  unfold itemO at e
  split at e
  · exact ⟨_, rfl, e⟩
  · cases e
theorem seq_im {K : PySem.W.Frag} (hK : K = G.K) {a : Nat} {xs ys : List V} {π hi H} (hx : seqL h1 a = some xs) (N : Nx π1 h1 π hi) (R : HR G π hi H) (e : seqL hi a = some ys) : SqL K H (π1 a) (imL π ys) ∧ wfL hi.length ys := by
  obtain ⟨l, w⟩ := R.seqL e
  rw [N.ag a (seqL_lt hx)] at l
  rw [hK]
  exact ⟨l, w⟩
theorem seqT_im {K : PySem.W.Frag} (hK : K = G.K) {a : Nat} {xs ys : List V} {π hi H} (hx : seqT h1 a = some xs) (N : Nx π1 h1 π hi) (R : HR G π hi H) (e : seqT hi a = some ys) : SqT K H (π1 a) (imL π ys) ∧ wfL hi.length ys := by
  obtain ⟨l, w⟩ := R.seqT e
  rw [N.ag a (seqT_lt hx)] at l
  rw [hK]
  exact ⟨l, w⟩
theorem im_at {π : Nat → Addr} {ys : List V} {i : Nat} {x : V} (e : ys[i]? = some x) : (imL π ys)[i]? = some (im π x) := by
  show (ys.map (im π))[i]? = _
  rw [List.getElem?_map, e]; rfl
theorem wk_list {K : PySem.W.Frag} (hK : K = G.K) {a : Nat} {xs : List V} (hx : seqL h1 a = some xs) (w1 : wfL h1.length xs) : Wk G (.lst a xs) (Itl K (π1 a)) π1 h1 := by
  constructor
  · intro π hi hi' H i x N R e
    obtain ⟨e1, e2⟩ := look_ok (show look (fun h => itemO (nowL h a xs.length) i) hi = some (.ok x, hi') from e)
    subst e2
    obtain ⟨ys, e3, e4⟩ := item_ok e1
    obtain ⟨hs, _⟩ := now_ok e3
    obtain ⟨l, w⟩ := seq_im hK hx N R hs
    refine ⟨⟨imL π ys, im π x, l, im_at e4⟩, ?_⟩
    rintro x' H' ⟨rfl, y⟩
    refine ⟨π, Nx.refl, R, ?_, w x (List.mem_of_getElem? e4)⟩
    exact (Option.some.inj ((im_at e4).symm.trans (y _ l))).symm
  · intro π hi H N R e
    obtain ⟨ys, e3⟩ := Option.isSome_iff_exists.mp (show (nowL hi a xs.length).isSome = true from e)
    obtain ⟨hs, hl⟩ := now_ok e3
    obtain ⟨l, w⟩ := seq_im hK hx N R hs
    exact ⟨imL π ys, l, by rw [imL_len, hl]; exact Nat.le_refl _⟩
theorem wk_tup {K : PySem.W.Frag} (hK : K = G.K) {a : Nat} {xs : List V} (hx : seqT h1 a = some xs) (w1 : wfL h1.length xs) : Wk G (.tup a xs) (Itt K (π1 a)) π1 h1 := by
  constructor
  · intro π hi hi' H i x N R e
    obtain ⟨e1, e2⟩ := look_ok (show look (fun h => itemO (nowT h a xs.length) i) hi = some (.ok x, hi') from e)
    subst e2
    obtain ⟨ys, e3, e4⟩ := item_ok e1
    obtain ⟨hs, _⟩ := nowT_ok e3
    obtain ⟨l, w⟩ := seqT_im hK hx N R hs
    refine ⟨⟨imL π ys, im π x, l, im_at e4⟩, ?_⟩
    rintro x' H' ⟨rfl, y⟩
    refine ⟨π, Nx.refl, R, ?_, w x (List.mem_of_getElem? e4)⟩
    exact (Option.some.inj ((im_at e4).symm.trans (y _ l))).symm
  · intro π hi H N R e
    obtain ⟨ys, e3⟩ := Option.isSome_iff_exists.mp (show (nowT hi a xs.length).isSome = true from e)
    obtain ⟨hs, hl⟩ := nowT_ok e3
    obtain ⟨l, w⟩ := seqT_im hK hx N R hs
    exact ⟨imL π ys, l, by rw [imL_len, hl]; exact Nat.le_refl _⟩
theorem wk_rng {lo : Int} {n : Nat} : Wk G (.rng lo n) (Itr lo n) π1 h1 := by
  constructor
  · intro π hi hi' H i x N R e
    have e : (if i < n then rt (.int (lo + i)) else no : Mo V) hi = some (.ok x, hi') := e
    split at e
    · rename_i hlt
      obtain ⟨e1, e2⟩ := rt_ok e
      subst e1 e2
      refine ⟨hlt, ?_⟩
      rintro x' H' ⟨rfl, rfl⟩
      exact ⟨π, Nx.refl, R, rfl, trivial⟩
    · exact (no_ok e).elim
  · intro π hi H N R e
    exact Nat.le_refl n
theorem wk_enum {K : PySem.W.Frag} (hK : K = G.K) {a : Nat} {xs : List V} (hx : seqL h1 a = some xs) (w1 : wfL h1.length xs) : Wk G (.enum a xs) (Ite K (π1 a)) π1 h1 := by
  constructor
  · intro π hi hi' H i x N R e
    obtain ⟨y, h2, b1, b2⟩ := bd_ok (show bd (look fun h => itemO (nowL h a xs.length) i) (fun x => alloc (.tup [.int (i : Nat), x])) hi = some (.ok x, hi') from e)
    obtain ⟨e1, e2⟩ := look_ok b1
    subst e2
    obtain ⟨ys, e3, e4⟩ := item_ok e1
    obtain ⟨hs, _⟩ := now_ok e3
    obtain ⟨l, w⟩ := seq_im hK hx N R hs
    unfold alloc at b2
    cases b2
    have wy := w y (List.mem_of_getElem? e4)
    refine ⟨⟨imL π ys, im π y, l, im_at e4⟩, ?_⟩
    rintro x' H' ⟨T, u, rfl, hT, rfl, y2⟩
    have z := (im_at e4).symm.trans (y2 _ l)
    cases z
    have R' := R.tup (xs := [.int (i : Nat), y]) hT (fun v hv => by
      rcases List.mem_cons.mp hv with rfl | hv
      · trivial
      · rw [List.mem_singleton.mp hv]; exact wy)
    exact ⟨ext π hi.length T, ext_nx _ T, R', (congrArg V.ref ext_at).symm, by show hi.length < _; rw [List.length_append]; exact Nat.lt_succ_self _⟩
  · intro π hi H N R e
    obtain ⟨ys, e3⟩ := Option.isSome_iff_exists.mp (show (nowL hi a xs.length).isSome = true from e)
    obtain ⟨hs, hl⟩ := now_ok e3
    obtain ⟨l, w⟩ := seq_im hK hx N R hs
    exact ⟨imL π ys, l, by rw [imL_len, hl]; exact Nat.le_refl _⟩
theorem wk_zip {K : PySem.W.Frag} (hK : K = G.K) {a b : Nat} {xs ys : List V} (hx : seqL h1 a = some xs) (w1 : wfL h1.length xs) (hy : seqL h1 b = some ys) (w2 : wfL h1.length ys) : Wk G (.zip a b xs ys) (Itz K (π1 a) (π1 b)) π1 h1 := by
  constructor
  · intro π hi hi' H i x N R e
    obtain ⟨u, h2, b1, b2⟩ := bd_ok (show bd (look fun h => itemO (nowL h a xs.length) i) (fun x => bd (look fun h => itemO (nowL h b ys.length) i) fun y => alloc (.tup [x, y])) hi = some (.ok x, hi') from e)
    obtain ⟨v, h3, b3, b4⟩ := bd_ok b2
    obtain ⟨e1, e2⟩ := look_ok b1
    obtain ⟨e5, e6⟩ := look_ok b3
    subst e2 e6
    obtain ⟨us, e3, e4⟩ := item_ok e1
    obtain ⟨vs, e7, e8⟩ := item_ok e5
    obtain ⟨hs, _⟩ := now_ok e3
    obtain ⟨ht, _⟩ := now_ok e7
    obtain ⟨l1, wl1⟩ := seq_im hK hx N R hs
    obtain ⟨l2, wl2⟩ := seq_im hK hy N R ht
    unfold alloc at b4
    cases b4
    have wu := wl1 u (List.mem_of_getElem? e4)
    have wv := wl2 v (List.mem_of_getElem? e8)
    refine ⟨⟨imL π us, imL π vs, im π u, im π v, l1, l2, im_at e4, im_at e8⟩, ?_⟩
    rintro x' H' ⟨T, p, q, rfl, hT, rfl, y1, y2⟩
    have z1 := (im_at e4).symm.trans (y1 _ l1)
    have z2 := (im_at e8).symm.trans (y2 _ l2)
    cases z1
    cases z2
    have R' := R.tup (xs := [u, v]) hT (fun t ht => by
      rcases List.mem_cons.mp ht with rfl | ht
      · exact wu
      · rw [List.mem_singleton.mp ht]; exact wv)
    exact ⟨ext π hi.length T, ext_nx _ T, R', (congrArg V.ref ext_at).symm, by show hi.length < _; rw [List.length_append]; exact Nat.lt_succ_self _⟩
  · intro π hi H N R e
    have e : ((nowL hi a xs.length).isSome && (nowL hi b ys.length).isSome) = true := e
    rw [Bool.and_eq_true] at e
    obtain ⟨us, e3⟩ := Option.isSome_iff_exists.mp e.1
    obtain ⟨vs, e4⟩ := Option.isSome_iff_exists.mp e.2
    obtain ⟨hs, hl⟩ := now_ok e3
    obtain ⟨ht, hl2⟩ := now_ok e4
    obtain ⟨l1, _⟩ := seq_im hK hx N R hs
    obtain ⟨l2, _⟩ := seq_im hK hy N R ht
    refine ⟨imL π us, imL π vs, l1, l2, ?_⟩
    rw [imL_len, imL_len, hl, hl2]
    show xs.length ≤ min _ _ ∨ ys.length ≤ min _ _
    omega
end

/-! ### list comprehensions -/
theorem wipe_at : ∀ (vs : List Nat) (σ : L2.St) (j : Nat), (wipe σ vs)[j]? = if j ∈ vs then (if j < σ.length then some none else none) else σ[j]?
  | [], σ, j => by simp [wipe]
  | v :: vs, σ, j => by
    unfold wipe
    by_cases hv : v = j
    · subst hv
      rw [if_pos List.mem_cons_self]
      by_cases hl : v < σ.length
      · rw [if_pos hl, List.getElem?_set_self (by rw [wipe_length]; exact hl)]
      · rw [if_neg hl, List.getElem?_eq_none (by rw [List.length_set, wipe_length]; omega)]
    · rw [List.getElem?_set_ne hv, wipe_at vs σ j]
      have e : j ∈ v :: vs ↔ j ∈ vs := by simp [Ne.symm hv]
      simp only [e]
theorem wipe_eq {σ τ : L2.St} {vs : List Nat} (hl : τ.length = σ.length) (h : ∀ j, j ∉ vs → τ[j]? = σ[j]?) : wipe τ vs = wipe σ vs := by
  refine List.ext_getElem? fun j => ?_
  rw [wipe_at, wipe_at, hl]
  by_cases hj : j ∈ vs
  · rw [if_pos hj, if_pos hj]
  · rw [if_neg hj, if_neg hj, h j hj]
theorem wipe_im {π : Nat → Addr} : ∀ (vs : List Nat) (e : Ev), imE π (wipeE e vs) = wipe (imE π e) vs
  | [], e => rfl
  | v :: vs, e => by
    show ((wipeE e vs).set v none).map (imO π) = (wipe (imE π e) vs).set v none
    rw [List.map_set, ← wipe_im vs e]; rfl
theorem wipeE_wf {n : Nat} : ∀ (vs : List Nat) {e : Ev}, wfE n e → wfE n (wipeE e vs)
  | [], _, w => w
  | v :: vs, e, w => fun u hu => by
    rcases List.mem_or_eq_of_mem_set (show some u ∈ (wipeE e vs).set v none from hu) with z | z
    · exact wipeE_wf vs w u z
    · cases z
def Tg.sl : Tg → List Nat | .nm i => [i] | .tp is => is
theorem setAll_out : ∀ {is : List Nat} {xs : List V} {e e1 : Ev}, setAll is xs e = some e1 → e1.length = e.length ∧ ∀ j, j ∉ is → e1[j]? = e[j]?
  | [], [], _, _, hs => by cases hs; exact ⟨rfl, fun _ _ => rfl⟩
  | i :: is, x :: xs, e, e1, hs => by
    obtain ⟨h1, h2⟩ := setAll_out (is := is) (xs := xs) (e := e.set i (some x)) hs
    refine ⟨h1.trans (List.length_set ..), fun j hj => ?_⟩
    rw [h2 j fun z => hj (List.mem_cons_of_mem _ z), List.getElem?_set_ne fun z => hj (by rw [z]; exact List.mem_cons_self)]
  | [], _ :: _, _, _, hs => by cases hs
  | _ :: _, [], _, _, hs => by cases hs
theorem asg_out {t : Tg} {x : V} {e e1 : Ev} {h : Hh} (hs : asg t x e h = some e1) : e1.length = e.length ∧ ∀ j, j ∉ t.sl → e1[j]? = e[j]? := by
  cases t with
  | nm i =>
    cases hs
    refine ⟨List.length_set .., fun j hj => ?_⟩
    rw [List.getElem?_set_ne fun z => hj (by rw [z]; exact List.mem_singleton.mpr rfl)]
  | tp is =>
    unfold asg at hs
    cases x with
    | ref a =>
      simp only at hs
      split at hs
      · exact setAll_out hs
      · cases hs
    | _ => cases hs
theorem imE_at {π : Nat → Addr} {e : Ev} {j : Nat} : (imE π e)[j]? = (e[j]?).map (imO π) := List.getElem?_map

/-- the turns of a comprehension -/
theorem comp_ok {X : Cx} {G : Gd} {iv : Iv} {J : L2.It} {π1 : Nat → Addr} {h1 h2 : Hh} {H1 : Hp} {e : Ev} {σ : L2.St} {own : List Nat} {t : Tg} {c : Ev → Mo Bool} {el : Ev → Mo V} {tt : TT} {te : TE} {Qd : Hp → Prop} {D : Addr}
    (hK : X.K = G.K) (W : Wk G iv J π1 h1) (S : Sx G σ H1 π1 e h1) (hD : H1 D = none) (ho : ∀ i ∈ t.sl, i ∈ own)
    (ht : ∀ σ H Q, TTh G c σ H Q → tt σ H Q) (he : ∀ σ H Q, TEh G el σ H Q → te σ H Q)
    (hm : compGo iv t c el h1.length (wipeE e own) iv.size 0 (h1 ++ [.lst []]) = some (.ok (), h2))
    (hq : ∀ π' H', Nx π1 h1 π' h2 → HR G π' h2 H' → π' h1.length = D → h1.length < h2.length → Qd H') :
    ∃ W : Nat → Nat → Hp → Prop, (∃ m, W 0 m (upd H1 D (.lst []))) ∧ ∀ i m H, W i m H →
      (J.stop i H ∧ Qd H) ∨ (J.go i H ∧ ∃ Nxt : Hp → Prop, (∀ H', Nxt H' → ∃ m', m' < m ∧ W (i + 1) m' H') ∧ ∀ x H', J.yld i H x H' → tgR X.K t x (wipe σ own) H' fun σ2 H2 => wipe σ2 own = wipe σ own ∧ tt σ2 H2 fun b H3 =>
        if b = true then te σ2 H3 fun y H4 => ∃ acc, H4 D = some (.lst acc) ∧ acc.length < sizeLine ∧ Nxt (upd H4 D (.lst (acc ++ [y]))) else Nxt H3) := by
  have N0 : Nx π1 h1 (ext π1 h1.length D) (h1 ++ [.lst []]) := ext_nx _ D
  have R0 := S.hr.lst (xs := []) hD (fun _ z => nomatch z)
  have l0 : h1.length < (h1 ++ [Ob.lst []]).length := by rw [List.length_append]; exact Nat.lt_succ_self _
  refine ⟨fun i m H => m + i = iv.size ∧ ∃ π hi, Nx π1 h1 π hi ∧ HR G π hi H ∧ π h1.length = D ∧ h1.length < hi.length ∧
      compGo iv t c el h1.length (wipeE e own) m i hi = some (.ok (), h2), ⟨iv.size, rfl, _, _, N0, R0, ext_at, l0, hm⟩, ?_⟩
  rintro i m H ⟨hmi, π, hi, N, R, hπ, hl, hg⟩
  cases m with
  | zero =>
    have e0 : i = iv.size := by omega
    have hg : (if iv.ends hi then some ((.ok () : Rs Unit), hi) else none) = some (.ok (), h2) := hg
    split at hg
    · rename_i hs
      cases hg
      refine .inl ⟨?_, hq π H N R hπ hl⟩
      rw [e0]
      exact W.stop N R hs
    · cases hg
  | succ m =>
    obtain ⟨x, h3, a1, b1⟩ := bd_ok (show bd (iv.at i) _ hi = _ from hg)
    obtain ⟨e1, h4, a2, b2⟩ := bd_ok b1
    obtain ⟨b, h5, a3, b3⟩ := bd_ok b2
    obtain ⟨as2, r2⟩ := look_ok a2
    subst r2
    obtain ⟨go, yl⟩ := W.go N R a1
    refine .inr ⟨go, fun H' => m + (i + 1) = iv.size ∧ ∃ π hi, Nx π1 h1 π hi ∧ HR G π hi H' ∧ π h1.length = D ∧ h1.length < hi.length ∧
      compGo iv t c el h1.length (wipeE e own) m (i + 1) hi = some (.ok (), h2), fun H' z => ⟨m, Nat.lt_succ_self m, z⟩, ?_⟩
    intro x' H' hy
    obtain ⟨π3, N3, R3, rfl, wx⟩ := yl x' H' hy
    have N03 := N.trans N3
    have S3 : Sx G (wipe σ own) H' π3 (wipeE e own) h3 := by
      refine ⟨?_, N03.wfE (wipeE_wf own S.we), R3⟩
      rw [wipe_im, S.sl, N03.imE S.we]
    refine asg_ok hK S3 as2 wx fun S4 => ⟨?_, ?_⟩
    · have out := asg_out as2
      have l1 : (imE π3 e1).length = (wipe σ own).length := by
        rw [S3.sl]
        show (e1.map _).length = ((wipeE e own).map _).length
        rw [List.length_map, List.length_map, out.1]
      have z : wipe (imE π3 e1) own = wipe (wipe σ own) own := wipe_eq l1 fun j hj => by
        rw [S3.sl, imE_at, imE_at, out.2 j fun z => hj (ho j z)]
      rw [z]
      refine wipe_eq (wipe_length ..) fun j hj => ?_
      rw [wipe_at, if_neg hj]
    · refine ht _ _ _ (goT S4 a3 fun π5 H5 N5 S5 _ => ?_)
      have N05 := N03.trans N5
      have hD5 : π5 h1.length = D := (N5.ag _ (Nat.lt_of_lt_of_le hl N3.le)).trans ((N3.ag _ hl).trans hπ)
      have hl5 : h1.length < h5.length := Nat.lt_of_lt_of_le hl (N3.trans N5).le
      cases b with
      | false =>
        rw [if_neg Bool.false_ne_true]
        exact ⟨by omega, π5, h5, N05, S5.hr, hD5, hl5, b3⟩
      | true =>
        rw [if_pos rfl]
        obtain ⟨y, h6, a4, b4⟩ := bd_ok (show bd (el e1) _ h5 = _ from b3)
        obtain ⟨u, h7, a5, b5⟩ := bd_ok b4
        refine he _ _ _ (goE S5 a4 fun π6 H6 N6 S6 w6 => ?_)
        unfold push at a5
        split at a5
        · cases a5
        · rename_i acc hacc
          split at a5
          · rename_i hz
            cases a5
            have hD6 : π6 h1.length = D := (N6.ag _ hl5).trans hD5
            obtain ⟨la, wa⟩ := S6.hr.lstAt hacc
            rw [hD6] at la
            refine ⟨imL π6 acc, la, by rw [imL_len]; exact hz, by omega, π6, _, (N05.trans N6).trans set_nx, ?_, hD6, by rw [List.length_set]; exact Nat.lt_of_lt_of_le hl5 N6.le, b5⟩
            have R7 := S6.hr.setL hacc (ys := acc ++ [y]) (wfL_app wa fun v hv => by rw [List.mem_singleton.mp hv]; exact w6)
            rw [imL_app, hD6] at R7
            exact R7
          · cases a5
end HI

set_option maxRecDepth 100000
set_option maxHeartbeats 4000000
/-! sources of walks; statements -/
namespace HI
open PySem PySem.Spec PyProof.Rows L2

structure PIh (X : Cx) (G : Gd) (tg iter : Expr) (mi : Ev → Mo Iv) : Prop where
  has : ∀ {σ H π e h iv h1}, Sx G σ H π e h → mi e h = some (.ok iv, h1) → ∃ wi : TI, PI X tg iter wi ∧
    ∀ R : L2.It → Hp → Prop, (∀ π1 H1 J, Nx π h π1 h1 → Sx G σ H1 π1 e h1 → Wk G iv J π1 h1 → R J H1) → wi σ H R
section
variable {X : Cx} {G : Gd} {C : Cfg} {tg a b : Expr} {ea eb : Ex} {p pos : Pos}
theorem pix_seq (hK : X.K = G.K) (ha : PEh X G C a ea) : PIh X G tg a (evI C (.seq ea)) := by
  constructor
  intro σ H π e h iv h1 S hm
  simp only [evI] at hm
  obtain ⟨x, h2, a1, m1⟩ := bd_ok hm
  unfold seqO at m1
  split at m1
  · rename_i d
    obtain ⟨b1, b2⟩ := look_ok m1
    subst b2
    split at b1
    · rename_i xs hx
      cases b1
      refine ⟨_, pi_list ha, fun R k => ?_⟩
      refine goE S a1 fun π1 H1 N1 S1 w1 => ?_
      obtain ⟨l1, wl⟩ := S1.hr.seqL hx
      rw [← hK] at l1
      exact ⟨π1 d, rfl, ⟨_, l1⟩, k π1 H1 _ N1 S1 (wk_list hK hx wl)⟩
    · split at b1
      · rename_i xs hx
        cases b1
        refine ⟨_, pi_tup ha, fun R k => ?_⟩
        refine goE S a1 fun π1 H1 N1 S1 w1 => ?_
        obtain ⟨l1, wl⟩ := S1.hr.seqT hx
        rw [← hK] at l1
        exact ⟨π1 d, rfl, ⟨_, l1⟩, k π1 H1 _ N1 S1 (wk_tup hK hx wl)⟩
      · cases b1
  · exact (no_ok m1).elim
theorem evs1 {C : Cfg} {ea : Ex} {e : Ev} {h h1 : Hh} {x : V} (a1 : ev C ea e h = some (.ok x, h1)) : evs C (.cons ea .nil) e h = some (.ok [x], h1) := by
  simp only [evs, bd, a1, rt]
theorem evs2 {C : Cfg} {ea eb : Ex} {e : Ev} {h h1 h2 : Hh} {x y : V} (a1 : ev C ea e h = some (.ok x, h1)) (a2 : ev C eb e h1 = some (.ok y, h2)) : evs C (.cons ea (.cons eb .nil)) e h = some (.ok [x, y], h2) := by
  simp only [evs, bd, a1, a2, rt]
theorem toI_ok {x : V} {i : Int} {h h' : Hh} (e : toI x h = some (.ok i, h')) : x = .int i ∧ h = h' := by
  unfold toI at e
  split at e
  · obtain ⟨e1, e2⟩ := rt_ok e; subst e1; exact ⟨rfl, e2⟩
  · exact (no_ok e).elim
theorem rngO_ok {i j : Int} {iv : Iv} {h h' : Hh} (e : rngO i j h = some (.ok iv, h')) : ((-(2 ^ 62) ≤ i ∧ i < 2 ^ 62) ∧ -(2 ^ 62) ≤ j ∧ j < 2 ^ 62) ∧ iv = .rng i (j - i).toNat ∧ h = h' := by
  unfold rngO at e
  split at e
  · rename_i c
    obtain ⟨e1, e2⟩ := rt_ok e; exact ⟨c, e1.symm, e2⟩
  · exact (no_ok e).elim
theorem lstO_ok {x : V} {q : Nat × List V} {h h' : Hh} (e : lstO x h = some (.ok q, h')) : x = .ref q.1 ∧ seqL h q.1 = some q.2 ∧ h = h' := by
  unfold lstO at e
  split at e
  · rename_i d
    obtain ⟨e1, e2⟩ := look_ok e
    cases hs : seqL h d with
    | none => rw [hs] at e1; cases e1
    | some xs => rw [hs] at e1; cases e1; exact ⟨rfl, hs, e2⟩
  · exact (no_ok e).elim
theorem pix_rng1 (hg : Gl X "range") (hm : X.mg "range" = none) (ha : PEh X G C a ea) (hp : plE a = true) : PIh X G tg (.Call (.Name "range" p) [a] [] pos) (evI C (.rng1 ea)) := by
  constructor
  intro σ H π e h iv h1 S hm'
  simp only [evI] at hm'
  obtain ⟨x, h2, a1, m1⟩ := bd_ok hm'
  obtain ⟨j, h3, a2, m2⟩ := bd_ok m1
  obtain ⟨rfl, e1⟩ := toI_ok a2
  subst e1
  obtain ⟨⟨⟨c1, c2⟩, c3, c4⟩, rfl, e2⟩ := rngO_ok m2
  subst e2
  refine ⟨_, pi_range1 hg hm (pax_cons ha pax_nil hp) (star_cons hp), fun R k => ?_⟩
  refine goA S (evs1 a1) fun π1 H1 N1 S1 w1 => ?_
  have z := k π1 H1 _ N1 S1 (wk_rng (lo := 0) (n := (j - 0).toNat))
  rw [Int.sub_zero] at z
  exact ⟨j, rfl, c3, c4, z⟩
theorem pix_rng2 (hg : Gl X "range") (hm : X.mg "range" = none) (ha : PEh X G C a ea) (hb : PEh X G C b eb) (hp : plE a = true) (hp2 : plE b = true) : PIh X G tg (.Call (.Name "range" p) [a, b] [] pos) (evI C (.rng2 ea eb)) := by
  constructor
  intro σ H π e h iv h1 S hm'
  simp only [evI] at hm'
  obtain ⟨x, h2, a1, m1⟩ := bd_ok hm'
  obtain ⟨y, h3, a2, m2⟩ := bd_ok m1
  obtain ⟨i, h4, a3, m3⟩ := bd_ok m2
  obtain ⟨j, h5, a4, m4⟩ := bd_ok m3
  obtain ⟨rfl, e1⟩ := toI_ok a3
  obtain ⟨rfl, e2⟩ := toI_ok a4
  subst e1 e2
  obtain ⟨c, rfl, e3⟩ := rngO_ok m4
  subst e3
  have s1 : starEach [b] X.env = [(false, eval b X.env)] := star_cons hp2
  refine ⟨_, pi_range2 hg hm (pax_cons ha (pax_cons hb pax_nil hp2) hp) (by rw [star_cons hp, s1]) s1, fun R k => ?_⟩
  refine goA S (evs2 a1 a2) fun π1 H1 N1 S1 w1 => ?_
  exact ⟨i, j, rfl, ⟨c.1.1, c.1.2, c.2.1, c.2.2⟩, k π1 H1 _ N1 S1 wk_rng⟩
theorem pix_enum (hK : X.K = G.K) {elts : List Expr} {kk : Nat} {tpos : Pos} (hg : Gl X "enumerate") (hm : X.mg "enumerate" = none) (ha : PEh X G C a ea) (hp : plE a = true) :
    PIh X G (.Tuple elts kk tpos) (.Call (.Name "enumerate" p) [a] [] pos) (evI C (.enum ea)) := by
  constructor
  intro σ H π e h iv h1 S hm'
  simp only [evI] at hm'
  obtain ⟨x, h2, a1, m1⟩ := bd_ok hm'
  obtain ⟨q, h3, a2, m2⟩ := bd_ok m1
  obtain ⟨rfl, hs, e1⟩ := lstO_ok a2
  subst e1
  obtain ⟨e2, e3⟩ := rt_ok m2
  subst e2 e3
  refine ⟨_, pi_enum hg hm (pax_cons ha pax_nil hp) (star_cons hp), fun R k => ?_⟩
  refine goA S (evs1 a1) fun π1 H1 N1 S1 w1 => ?_
  obtain ⟨l1, wl⟩ := S1.hr.seqL hs
  rw [← hK] at l1
  exact ⟨π1 q.1, imL π1 q.2, rfl, l1, k π1 H1 _ N1 S1 (wk_enum hK hs wl)⟩
theorem pix_zip (hK : X.K = G.K) {elts : List Expr} {kk : Nat} {tpos : Pos} (hg : Gl X "zip") (hm : X.mg "zip" = none) (ha : PEh X G C a ea) (hb : PEh X G C b eb) (hp : plE a = true) (hp2 : plE b = true) :
    PIh X G (.Tuple elts kk tpos) (.Call (.Name "zip" p) [a, b] [] pos) (evI C (.zip ea eb)) := by
  constructor
  intro σ H π e h iv h1 S hm'
  simp only [evI] at hm'
  obtain ⟨x, h2, a1, m1⟩ := bd_ok hm'
  obtain ⟨y, h3, a2, m2⟩ := bd_ok m1
  obtain ⟨q, h4, a3, m3⟩ := bd_ok m2
  obtain ⟨r, h5, a4, m4⟩ := bd_ok m3
  obtain ⟨rfl, hs, e1⟩ := lstO_ok a3
  obtain ⟨rfl, ht, e2⟩ := lstO_ok a4
  subst e1 e2
  obtain ⟨e3, e4⟩ := rt_ok m4
  subst e3 e4
  have s1 : starEach [b] X.env = [(false, eval b X.env)] := star_cons hp2
  refine ⟨_, pi_zip hg hm (pax_cons ha (pax_cons hb pax_nil hp2) hp) (star_cons hp) (back_plain fun z hz => by rw [List.mem_singleton.mp hz]; exact hp2), fun R k => ?_⟩
  refine goA S (evs2 a1 a2) fun π1 H1 N1 S1 w1 => ?_
  obtain ⟨l1, wl⟩ := S1.hr.seqL hs
  obtain ⟨l2, wl2⟩ := S1.hr.seqL ht
  rw [← hK] at l1 l2
  exact ⟨π1 q.1, π1 r.1, imL π1 q.2, imL π1 r.2, rfl, l1, l2, k π1 H1 _ N1 S1 (wk_zip hK hs wl ht wl2)⟩

/-- a list comprehension -/
theorem px_comp (hK : X.K = G.K) (hc : X.calm = true) (hN : X.N.Nodup) {elt iter : Expr} {ifs : List Expr} {scope : Scope} {own : List (Str × Nat)} {t : Tg} {ei : It} {ec el : Ex}
    (hi : PIh X G tg iter (evI C ei)) (ok : BlkOk X.N X.env.scope scope own) (hp : plE iter = true) (ho : ∀ i ∈ t.sl, i ∈ own.map (·.2))
    (hg : ∀ (s : Shared) (H : Hp) (D : Addr) (cl : List (Str × Addr)) (fp : List Addr), PG (X.blk s H scope (compEnvC scope cl D X.env) fp) tg (tgR X.K t))
    (ht : ∀ (s : Shared) (H : Hp) (D : Addr) (cl : List (Str × Addr)) (fp : List Addr), PTs (X.blk s H scope (compEnvC scope cl D X.env) fp) ifs (TTh G (fun e => bd (ev C ec e) tru)))
    (he : ∀ (s : Shared) (H : Hp) (D : Addr) (cl : List (Str × Addr)) (fp : List Addr), PEh (X.blk s H scope (compEnvC scope cl D X.env) fp) G C elt el) :
    PEh X G C (.ListComp elt [⟨tg, iter, ifs, 0⟩] scope pos) (.comp (own.map (·.2)) t ei ec el) := by
  refine pe_pick fun σ H Q ⟨π, e, h, v, h', S, hm, q⟩ => ?_
  simp only [ev] at hm
  obtain ⟨iv, h1, a1, m1⟩ := bd_ok hm
  obtain ⟨wi, P, K1⟩ := hi.has S a1
  refine ⟨_, pe_lc hc hN P ok hg ht he (fold_plain hp), ?_⟩
  refine K1 _ fun π1 H1 J N1 S1 W => ?_
  intro D hD
  unfold compL at m1
  obtain ⟨x, h2, a2, m2⟩ := bd_ok m1
  unfold alloc at a2
  cases a2
  obtain ⟨u, h3, a3, m3⟩ := bd_ok (show bd (compGo _ _ _ _ _ _ _ _) _ _ = _ from m2)
  obtain ⟨e1, e2⟩ := rt_ok m3
  subst e1 e2
  refine comp_ok hK W S1 hD ho (fun _ _ _ z => z) (fun _ _ _ z => z) a3 fun π3 H3 N3 R3 hD3 hl => ?_
  have z := q π3 H3 (N1.trans N3) R3 (show h1.length < h3.length from hl)
  have e3 : im π3 (.ref h1.length) = .ref D := congrArg V.ref hD3
  rw [e3] at z
  exact z
/-- .. given to a name -/
theorem ps_comp (hK : X.K = G.K) (hc : X.calm = true) (hN : X.N.Nodup) {elt iter : Expr} {ifs : List Expr} {scope : Scope} {own : List (Str × Nat)} {t : Tg} {ei : It} {ec el : Ex} {i : Nat} {y : Str} {py spos : Pos}
    (hy : X.N[i]? = some y) (hyl : X.env.scope.names.lookup y = some .local) (hsw : swapsWith (.ListComp elt [⟨tg, iter, ifs, 0⟩] scope pos) (some (.Name y py)) spos.line X.env = pure true)
    (hi : PIh X G tg iter (evI C ei)) (ok : BlkOk X.N X.env.scope scope own) (hp : plE iter = true) (ho : ∀ i ∈ t.sl, i ∈ own.map (·.2))
    (hg : ∀ (s : Shared) (H : Hp) (D : Addr) (cl : List (Str × Addr)) (fp : List Addr), PG (X.blk s H scope (compEnvC scope cl D X.env) fp) tg (tgR X.K t))
    (ht : ∀ (s : Shared) (H : Hp) (D : Addr) (cl : List (Str × Addr)) (fp : List Addr), PTs (X.blk s H scope (compEnvC scope cl D X.env) fp) ifs (TTh G (fun e => bd (ev C ec e) tru)))
    (he : ∀ (s : Shared) (H : Hp) (D : Addr) (cl : List (Str × Addr)) (fp : List Addr), PEh (X.blk s H scope (compEnvC scope cl D X.env) fp) G C elt el) :
    PS X (.Assign [.Name y py] (.ListComp elt [⟨tg, iter, ifs, 0⟩] scope pos) spos) (tAsg (TEh G (ev C (.comp (own.map (·.2)) t ei ec el))) (gName i)) := by
  refine ps_pick fun D0 σ H z => ?_
  obtain ⟨π, e, h, v, h', S, hm, q⟩ := z
  simp only [ev] at hm
  obtain ⟨iv, h1, a1, m1⟩ := bd_ok hm
  obtain ⟨wi, P, K1⟩ := hi.has S a1
  refine ⟨_, ps_setLc hc hN hy hyl hsw P ok hg ht he (fold_plain hp), ?_⟩
  refine K1 _ fun π1 H1 J N1 S1 W => ?_
  intro D hD
  unfold compL at m1
  obtain ⟨x, h2, a2, m2⟩ := bd_ok m1
  unfold alloc at a2
  cases a2
  obtain ⟨u, h3, a3, m3⟩ := bd_ok (show bd (compGo _ _ _ _ _ _ _ _) _ _ = _ from m2)
  obtain ⟨e1, e2⟩ := rt_ok m3
  subst e1 e2
  refine comp_ok hK W S1 hD ho (fun _ _ _ z => z) (fun _ _ _ z => z) a3 fun π3 H3 N3 R3 hD3 hl => ?_
  have z := q π3 H3 (N1.trans N3) R3 (show h1.length < h3.length from hl)
  have e3 : im π3 (.ref h1.length) = .ref D := congrArg V.ref hD3
  rw [e3] at z
  exact z
end

/-! ### statements -/
/-- what follows a statement's outcome -/
def Fo (D : Ends) (π : Nat → Addr) (n : Nat) (H : Hp) : Fl → Prop
  | .nx e => wfE n e → D.nx (imE π e) H
  | .rt v => wf n v → D.rt (im π v) H
  | .bk e => wfE n e → D.bk (imE π e) H
  | .ct e => wfE n e → D.ct (imE π e) H
structure TSh (G : Gd) (m : Ev → Mo Fl) (D : Ends) (σ : L2.St) (H : Hp) : Prop where
  has : ∃ π e h f h', Sx G σ H π e h ∧ m e h = some (.ok f, h') ∧ ∀ π' H', Nx π h π' h' → HR G π' h' H' → Fo D π' h'.length H' f
section
variable {X : Cx} {G : Gd} {C : Cfg} {pos : Pos} {a b c : Expr} {ea eb ec : Ex}
abbrev PSh (X : Cx) (G : Gd) (C : Cfg) (s : Stmt) (ss : Sm) : Prop := PS X s (TSh G (ex C ss))
abbrev PSsh (X : Cx) (G : Gd) (C : Cfg) (s : List Stmt) (ss : Sms) : Prop := PSs X s (TSh G (exs C ss))
theorem pss_nilh : PSsh X G C [] .nil := pss_of pss_nil fun D σ H ⟨π, e, h, f, h', S, hm, q⟩ => by
  simp only [exs] at hm
  obtain ⟨e1, e2⟩ := rt_ok hm
  subst e1 e2
  have z := q π H Nx.refl S.hr S.we
  rw [← S.sl] at z
  exact z
theorem pss_consh {s : Stmt} {r : List Stmt} {ss : Sm} {rr : Sms} (h1 : PSh X G C s ss) (h2 : PSsh X G C r rr) : PSsh X G C (s :: r) (.cons ss rr) :=
  pss_of (pss_cons h1 h2) fun D σ H ⟨π, e, h, f, h', S, hm, q⟩ => by
    simp only [exs] at hm
    obtain ⟨g, h2, a1, m1⟩ := bd_ok hm
    refine ⟨π, e, h, g, h2, S, a1, fun π1 H1 N1 R1 => ?_⟩
    cases g with
    | nx e1 =>
      intro we
      exact ⟨π1, e1, h2, f, h', ⟨rfl, we, R1⟩, m1, fun π2 H2 N2 R2 => q π2 H2 (N1.trans N2) R2⟩
    | rt v =>
      obtain ⟨e1, e2⟩ := rt_ok m1
      subst e1 e2
      exact q π1 H1 N1 R1
    | bk e1 =>
      obtain ⟨e1, e2⟩ := rt_ok m1
      subst e1 e2
      exact q π1 H1 N1 R1
    | ct e1 =>
      obtain ⟨e1, e2⟩ := rt_ok m1
      subst e1 e2
      exact q π1 H1 N1 R1
/-- a target takes a value -/
theorem asg_go (hK : X.K = G.K) {t : Tg} {σ : L2.St} {H : Hp} {π e h x h1 h' f D} (S : Sx G σ H π e h1) (wx : wf h1.length x) (m : bd (look (asg t x e)) (fun e1 => rt (Fl.nx e1)) h1 = some (.ok f, h'))
    (q : ∀ π' H', Nx π h1 π' h' → HR G π' h' H' → Fo D π' h'.length H' f) (hh : h = h1) : tgR X.K t (im π x) σ H D.nx := by
  obtain ⟨e1, h2, a1, m1⟩ := bd_ok m
  obtain ⟨a2, r2⟩ := look_ok a1
  obtain ⟨r3, r4⟩ := rt_ok m1
  subst r2 r3 r4
  exact asg_ok hK S a2 wx fun S1 => q π H Nx.refl S1.hr S1.we
theorem psx_asg (hK : X.K = G.K) {tg : Expr} {t : Tg} (ha : PEh X G C a ea) (hg : PG X tg (tgR X.K t)) (hs : swapsWithSole [tg] a pos.line X.env = pure false) (hw : swappedStores [tg] a X.env = pure none)
    (h1 : (assignEach [tg] X.env).map (·.2) = [assign tg X.env]) : PSh X G C (.Assign [tg] a pos) (.asg t ea) :=
  ps_of (ps_asg ha hg hs hw h1) fun D σ H ⟨π, e, h, f, h', S, hm, q⟩ => by
    simp only [ex] at hm
    obtain ⟨x, h2, a1, m1⟩ := bd_ok hm
    refine goE S a1 fun π1 H1 N1 S1 w1 => ?_
    exact asg_go hK S1 w1 m1 (fun π2 H2 N2 R2 => q π2 H2 (N1.trans N2) R2) rfl
theorem psx_set (hK : X.K = G.K) {i : Nat} {x : Str} {p' : Pos} (hN : X.N.Nodup) (hi : X.N[i]? = some x) (hx : Loc X.env.scope x) (ha : PEh X G C a ea) (hs : swapsWith a (some (.Name x p')) pos.line X.env = pure false)
    (hf : X.fn x = true ∨ X.env.scope.names.lookup x = some .local) : PSh X G C (.Assign [.Name x p'] a pos) (.asg (.nm i) ea) :=
  ps_of (ps_set hN hi hx ha hs hf) fun D σ H ⟨π, e, h, f, h', S, hm, q⟩ => by
    simp only [ex] at hm
    obtain ⟨x, h2, a1, m1⟩ := bd_ok hm
    refine goE S a1 fun π1 H1 N1 S1 w1 => ?_
    exact asg_go (X := X) (t := .nm i) hK S1 w1 m1 (fun π2 H2 N2 R2 => q π2 H2 (N1.trans N2) R2) rfl
/-- by a statement that stores a comprehension at a name -/
theorem psx_setc (hK : X.K = G.K) {i : Nat} {s : Stmt} (p : PS X s (tAsg (TEh G (ev C ea)) (gName i))) : PSh X G C s (.asg (.nm i) ea) :=
  ps_of p fun D σ H ⟨π, e, h, f, h', S, hm, q⟩ => by
    simp only [ex] at hm
    obtain ⟨x, h2, a1, m1⟩ := bd_ok hm
    refine goE S a1 fun π1 H1 N1 S1 w1 => ?_
    exact asg_go (X := X) (t := .nm i) hK S1 w1 m1 (fun π2 H2 N2 R2 => q π2 H2 (N1.trans N2) R2) rfl
theorem psx_sub {o i : Expr} {eo ei : Ex} {p' : Pos} (ha : PEh X G C a ea) (ho : PEh X G C o eo) (hi : PEh X G C i ei) (hp : plE a = true) (hl : ∀ w x y z, a ≠ .ListComp w x y z)
    (hsub : ∀ v, assign (.Subscript o i p') X.env v = (do
      let ov ← holding [v] (eval o X.env)
      let iv ← holding [v, ov] (eval i X.env)
      standAt p'
      holding [v, ov, iv] (setItem ov iv v)
      release [v, ov, iv] [])) : PSh X G C (.Assign [.Subscript o i p'] a pos) (.asgSub eo ei ea) := by
  have g := pg_sub (pos := p') ho hi (set_ok (X := X) (G := G)) hsub
  have hsw : swapsWithSole [.Subscript o i p'] a pos.line X.env = pure false := by
    unfold swapsWithSole
    first
      | exact swap_plain hp hl
      | (split <;> first | exact swap_plain hp hl | rfl)
  refine ps_of (ps_asg ha g hsw rfl rfl) fun D σ H ⟨π, e, h, f, h', S, hm, q⟩ => ?_
  simp only [ex] at hm
  obtain ⟨x, h1, a1, m1⟩ := bd_ok hm
  obtain ⟨y, h2, a2, m2⟩ := bd_ok m1
  obtain ⟨z, h3, a3, m3⟩ := bd_ok m2
  obtain ⟨u, h4, a4, m4⟩ := bd_ok m3
  obtain ⟨e1, e2⟩ := rt_ok m4
  subst e1 e2
  refine goE S a1 fun π1 H1 N1 S1 w1 => ?_
  refine goE S1 a2 fun π2 H2 N2 S2 w2 => ?_
  refine goE S2 a3 fun π3 H3 N3 S3 w3 => ?_
  refine ⟨π3, h3, y, z, x, h4, (N3.im w2).symm, rfl, ((N2.trans N3).im w1).symm, N3.wf w2, w3, (N2.trans N3).wf w1, S3.hr, a4, fun π4 H4 N4 R4 => ?_⟩
  have S4 := S3.nx N4 R4
  have w := q π4 H4 ((N1.trans (N2.trans N3)).trans N4) R4 S4.we
  rw [← S4.sl] at w
  exact w
theorem psx_ex (ha : PEh X G C a ea) (hs : PS X (.Expr a pos) (tDrop (TEh G (ev C ea)))) : PSh X G C (.Expr a pos) (.ex ea) :=
  ps_of hs fun D σ H ⟨π, e, h, f, h', S, hm, q⟩ => by
    simp only [ex] at hm
    obtain ⟨x, h1, a1, m1⟩ := bd_ok hm
    obtain ⟨e1, e2⟩ := rt_ok m1
    subst e1 e2
    refine goE S a1 fun π1 H1 N1 S1 w1 => ?_
    have w := q π1 H1 N1 S1.hr S1.we
    rw [← S1.sl] at w
    exact w
theorem psx_ret (ha : PEh X G C a ea) : PSh X G C (.Return (some a) pos) (.ret ea) :=
  ps_of (ps_ret ha) fun D σ H ⟨π, e, h, f, h', S, hm, q⟩ => by
    simp only [ex] at hm
    obtain ⟨x, h1, a1, m1⟩ := bd_ok hm
    obtain ⟨e1, e2⟩ := rt_ok m1
    subst e1 e2
    exact goE S a1 fun π1 H1 N1 S1 w1 => q π1 H1 N1 S1.hr w1
theorem psx_retN : PSh X G C (.Return none pos) (.ret (.cst .non)) :=
  ps_of ps_retN fun D σ H ⟨π, e, h, f, h', S, hm, q⟩ => by
    simp only [ex, ev] at hm
    obtain ⟨x, h1, a1, m1⟩ := bd_ok hm
    obtain ⟨e3, e4⟩ := rt_ok a1
    obtain ⟨e1, e2⟩ := rt_ok m1
    subst e3 e4 e1 e2
    exact q π H Nx.refl S.hr trivial
theorem psx_if {s t : List Stmt} {ss tt : Sms} (hc : PTh X G C c ec) (hs : PSsh X G C s ss) (ht : PSsh X G C t tt) : PSh X G C (.If c s t pos) (.ite ec ss tt) :=
  ps_of (ps_if hc hs ht) fun D σ H ⟨π, e, h, f, h', S, hm, q⟩ => by
    simp only [ex] at hm
    obtain ⟨k, h1, a1, m1⟩ := bd_ok hm
    refine goT S a1 fun π1 H1 N1 S1 _ => ?_
    cases k with
    | true =>
      rw [if_pos rfl]
      exact ⟨π1, e, h1, f, h', S1, m1, fun π2 H2 N2 R2 => q π2 H2 (N1.trans N2) R2⟩
    | false =>
      rw [if_neg Bool.false_ne_true]
      exact ⟨π1, e, h1, f, h', S1, m1, fun π2 H2 N2 R2 => q π2 H2 (N1.trans N2) R2⟩
theorem psx_brk : PSh X G C (.Break pos) .brk := ps_of ps_break fun D σ H ⟨π, e, h, f, h', S, hm, q⟩ => by
  simp only [ex] at hm
  obtain ⟨e1, e2⟩ := rt_ok hm
  subst e1 e2
  have z := q π H Nx.refl S.hr S.we
  rw [← S.sl] at z
  exact z
theorem psx_cont : PSh X G C (.Continue pos) .cont := ps_of ps_continue fun D σ H ⟨π, e, h, f, h', S, hm, q⟩ => by
  simp only [ex] at hm
  obtain ⟨e1, e2⟩ := rt_ok hm
  subst e1 e2
  have z := q π H Nx.refl S.hr S.we
  rw [← S.sl] at z
  exact z
theorem psx_pass : PSh X G C (.Pass pos) .pass := ps_of ps_pass fun D σ H ⟨π, e, h, f, h', S, hm, q⟩ => by
  simp only [ex] at hm
  obtain ⟨e1, e2⟩ := rt_ok hm
  subst e1 e2
  have z := q π H Nx.refl S.hr S.we
  rw [← S.sl] at z
  exact z
theorem psx_never {s : Stmt} : PSh X G C s .never := ps_of ps_never fun D σ H ⟨π, e, h, f, h', S, hm, q⟩ => by
  simp only [ex] at hm
  exact (no_ok hm).elim
end
end HI

set_option maxRecDepth 100000
set_option maxHeartbeats 4000000
/-! sorted(zip(a, b)) -/
namespace HI
open PySem PySem.Spec PyProof.Rows L2 SrtO
def ZSt (z TI TO i1 i2 a b S : Addr) (xs ys : Array Value) (k : Nat) (h : Heap) : Prop :=
  IsPair h TI (.ref i1) (.ref i2) ∧ h.IsListIter i1 a k ∧ h.IsListIter i2 b k ∧ h.IsList a xs ∧ h.IsList b ys ∧ (∃ o, h.get? TO = some o) ∧
  ((IsZip h z TI TO .none ∧ ∃ u v, IsPair h TO u v) ∨ ∃ T f oT, IsZipHeld h z TI TO T f ∧ h.get? T = some oT ∧ T ≠ z ∧ T ≠ i1 ∧ T ≠ i2 ∧ T ≠ S)
structure ZOff (z TI TO i1 i2 a b S : Addr) : Prop where
  z : S ≠ z
  TI : S ≠ TI
  TO : S ≠ TO
  i1 : S ≠ i1
  i2 : S ≠ i2
  a : S ≠ a
  b : S ≠ b
section
variable {prog : Program} {w : World} {A : Around} {E : Value → Shared → Prop} {s : Shared} {z TI TO i1 i2 a b S : Addr} {xs ys : Array Value} {k : Nat}
theorem ZSt.keep {h h' : Heap} (st : ZSt z TI TO i1 i2 a b S xs ys k h) (o : ZOff z TI TO i1 i2 a b S) (hk : ∀ c u, c ≠ S → h.get? c = some u → h'.get? c = some u) : ZSt z TI TO i1 i2 a b S xs ys k h' := by
  obtain ⟨hTI, h1, h2, hl1, hl2, ⟨oO, hO⟩, hz⟩ := st
  refine ⟨hk _ _ (Ne.symm o.TI) hTI, h1.at fun u e => hk _ u (Ne.symm o.i1) e, h2.at fun u e => hk _ u (Ne.symm o.i2) e, hl1.at fun u e => hk _ u (Ne.symm o.a) e, hl2.at fun u e => hk _ u (Ne.symm o.b) e, ⟨_, hk _ _ (Ne.symm o.TO) hO⟩, ?_⟩
  rcases hz with ⟨hz, u, v, hTO⟩ | ⟨T, f, oT, hz, hT, r1, r2, r3, r4⟩
  · exact .inl ⟨hk _ _ (Ne.symm o.z) hz, u, v, hk _ _ (Ne.symm o.TO) hTO⟩
  · exact .inr ⟨T, f, oT, hk _ _ (Ne.symm o.z) hz, hk _ _ r4 hT, r1, r2, r3, r4⟩
theorem ZSt.lt {h : Heap} (st : ZSt z TI TO i1 i2 a b S xs ys k h) : z < h.objs.size ∧ TI < h.objs.size ∧ TO < h.objs.size ∧ i1 < h.objs.size ∧ i2 < h.objs.size := by
  obtain ⟨hTI, ⟨_, h1, _⟩, ⟨_, h2, _⟩, hl1, hl2, ⟨_, hO⟩, hz⟩ := st
  refine ⟨?_, Heap.lt_size hTI, Heap.lt_size hO, Heap.lt_size h1, Heap.lt_size h2⟩
  rcases hz with ⟨hz, u, v, hTO⟩ | ⟨T, f, oT, hz, hT, r1, r2, r3, r4⟩
  · exact Heap.lt_size hz
  · exact Heap.lt_size hz
theorem zst_item (D : ZipApart z TI TO i1 i2 a b) (st : ZSt z TI TO i1 i2 a b S xs ys k s.heap) {x y : Value} (ex : xs[k]? = some x) (ey : ys[k]? = some y) (hS : S < s.heap.objs.size) {Q : Option Value → Shared → Prop}
    (hQ : ∀ h', ZSt z TI TO i1 i2 a b S xs ys (k + 1) h' → IsPair h' s.heap.objs.size x y → (∀ c o, c ∉ [z, TI, TO, i1, i2] → s.heap.get? c = some o → h'.get? c = some o) → Q (some (.ref s.heap.objs.size)) { s with heap := h' }) :
    wpAny (model prog w) A (pyNext (.ref z)) Q E s := by
  obtain ⟨hTI, h1, h2, hl1, hl2, ⟨oO, hO⟩, hz⟩ := st
  have lt : ∀ {c o}, s.heap.get? c = some o → s.heap.objs.size ≠ c := fun e => Nat.ne_of_gt (Heap.lt_size e)
  have n1 : s.heap.objs.size ≠ i1 := let ⟨_, e, _⟩ := h1; lt e
  have n2 : s.heap.objs.size ≠ i2 := let ⟨_, e, _⟩ := h2; lt e
  rcases hz with ⟨hz, u, v, hTO⟩ | ⟨T, f, oT, hz, hT, r1, r2, r3, r4⟩
  · refine wpAny_pyNext_zip_item D hz hTI hTO h1 h2 hl1 hl2 ex ey fun h' a1 a2 a3 a4 a5 a6 hk => ?_
    exact hQ h' ⟨hk _ _ D.TIz D.TITO D.TIi1 D.TIi2 hTI, a3, a4, hl1.at fun o e => hk _ o D.l1z D.l1TO D.l1i1 D.l1i2 e, hl2.at fun o e => hk _ o D.l2z D.l2TO D.l2i1 D.l2i2 e, ⟨_, a2⟩,
      .inr ⟨s.heap.objs.size, false, _, a1, a5, lt hz, n1, n2, Nat.ne_of_gt hS⟩⟩ a5
      fun c o hc e => hk c o (fun q => hc (by simp [q])) (fun q => hc (by simp [q])) (fun q => hc (by simp [q])) (fun q => hc (by simp [q])) e
  · refine wpAny_pyNext_zip_item_held D hz hT hTI h1 h2 hl1 hl2 ex ey fun h' a1 a3 a4 a5 a6 hk => ?_
    exact hQ h' ⟨hk _ _ D.TIz D.TIi1 D.TIi2 hTI, a3, a4, hl1.at fun o e => hk _ o D.l1z D.l1i1 D.l1i2 e, hl2.at fun o e => hk _ o D.l2z D.l2i1 D.l2i2 e, ⟨_, hk _ _ D.TOz D.TOi1 D.TOi2 hO⟩,
      .inr ⟨T, true, oT, a1, hk _ _ r1 r2 r3 hT, r1, r2, r3, r4⟩⟩ a5
      fun c o hc e => hk c o (fun q => hc (by simp [q])) (fun q => hc (by simp [q])) (fun q => hc (by simp [q])) e
theorem zst_end (hA : A.handled = none) (D : ZipApart z TI TO i1 i2 a b) (st : ZSt z TI TO i1 i2 a b S xs ys k s.heap) (he : xs[k]? = none ∨ ys[k]? = none) {Q : Option Value → Shared → Prop}
    (hQ : ∀ h', (∀ c o, c ∉ [z, TI, TO, i1, i2] → s.heap.get? c = some o → h'.get? c = some o) → Q none { s with heap := h' }) : wpAny (model prog w) A (pyNext (.ref z)) Q E s := by
  obtain ⟨hTI, h1, h2, hl1, hl2, ⟨oO, hO⟩, hz⟩ := st
  rcases hz with ⟨hz, u, v, hTO⟩ | ⟨T, f, oT, hz, hT, r1, r2, r3, r4⟩
  · exact wpAny_pyNext_zip_end hA D hz hTI hTO h1 h2 hl1 hl2 he fun h' hk => hQ h' fun c o hc e => hk c o (fun q => hc (by simp [q])) (fun q => hc (by simp [q])) (fun q => hc (by simp [q])) (fun q => hc (by simp [q])) e
  · exact wpAny_pyNext_zip_end_held hA D hz hT hTI h1 h2 hl1 hl2 he fun h' hk => hQ h' fun c o hc e => hk c o (fun q => hc (by simp [q])) (fun q => hc (by simp [q])) (fun q => hc (by simp [q])) e
end

section
variable {X : Cx} {G : Gd} {pins : List (Addr × Obj)} {σ : L2.St} {z TI TO i1 i2 a b S : Addr} {xs ys : Array Value}
abbrev listAt (h : Heap) (S : Addr) (acc : Array Value) (c : Nat) : Prop := h.get? S = some { cls := .type "list", dict := none, data := .seq acc c, slots := #[] }
theorem zip_loop (hc : X.calm = true) (A1 : Around) (hA : A1.in1.handled = none) (D : ZipApart z TI TO i1 i2 a b) (O : ZOff z TI TO i1 i2 a b S) (res : Value) {R : Result → Shared → Prop} {h2 : Hh} {π0 : Nat → Addr} {h0 : Hh} {H0 : Hp} :
    ∀ (vs us : List V) (k : Nat) (s : Shared) (H : Hp) (acc : Array Value) (c : Nat) (π : Nat → Addr) (h : Hh) (ts r : List V),
      Inv X pins σ H s → (∀ d ∈ [z, TI, TO, i1, i2, S], FpOk X pins H d) → ZSt z TI TO i1 i2 a b S xs ys k s.heap → listAt s.heap S acc c →
      HR G π h H → Nx π0 h0 π h → wfL h.length ts → wfL h.length vs → wfL h.length us → Vals (imL π ts) acc.toList → k + max vs.length us.length ≤ sizeLine → acc.size ≤ k →
      Vals (imL π vs) (xs.toList.drop k) → Vals (imL π us) (ys.toList.drop k) → pairsO vs us h = some (.ok r, h2) →
      (∀ s' H' π' acc' c', Inv X pins σ H' s' → FpOk X pins H' S → HR G π' h2 H' → Nx π0 h0 π' h2 → wfL h2.length (ts ++ r) → listAt s'.heap S acc' c' → Vals (imL π' (ts ++ r)) acc'.toList → R (.ok (.ret res)) s') →
      codeAny (model X.prog X.w) A1 (.builtin "list.extend.loop" ⟨[.ref S, .ref z, res], []⟩) R s := by
  intro vs
  have endc : ∀ (k : Nat) (s : Shared) (H : Hp) (acc : Array Value) (c : Nat) (π : Nat → Addr) (h : Hh) (ts r : List V),
      Inv X pins σ H s → (∀ d ∈ [z, TI, TO, i1, i2, S], FpOk X pins H d) → ZSt z TI TO i1 i2 a b S xs ys k s.heap → listAt s.heap S acc c →
      HR G π h H → Nx π0 h0 π h → wfL h.length ts → Vals (imL π ts) acc.toList → (xs.toList.drop k = [] ∨ ys.toList.drop k = []) → r = [] → h2 = h →
      (∀ s' H' π' acc' c', Inv X pins σ H' s' → FpOk X pins H' S → HR G π' h2 H' → Nx π0 h0 π' h2 → wfL h2.length (ts ++ r) → listAt s'.heap S acc' c' → Vals (imL π' (ts ++ r)) acc'.toList → R (.ok (.ret res)) s') →
      codeAny (model X.prog X.w) A1 (.builtin "list.extend.loop" ⟨[.ref S, .ref z, res], []⟩) R s := by
    intro k s H acc c π h ts r I hf st hS HRR N wt vt he hr hh hR
    subst hr hh
    refine codeAny_builtin PySem.F.entry_extend_loop ?_
    rw [Around.under_plainId PySem.F.plain_extend_loop _]
    show wpAny _ A1.in1 (pyNext (.ref z) >>= _) _ _ s
    have he' : xs[k]? = none ∨ ys[k]? = none := by
      rcases he with q | q
      · left
        rw [← Array.getElem?_toList]
        exact List.getElem?_eq_none (List.drop_eq_nil_iff.mp q)
      · right
        rw [← Array.getElem?_toList]
        exact List.getElem?_eq_none (List.drop_eq_nil_iff.mp q)
    refine wpAny_bind (zst_end hA D st he' fun h' hk => ?_)
    have nS : S ∉ [z, TI, TO, i1, i2] := fun q => by
      simp only [List.mem_cons, List.not_mem_nil, or_false] at q
      rcases q with q | q | q | q | q
      · exact O.z q
      · exact O.TI q
      · exact O.TO q
      · exact O.i1 q
      · exact O.i2 q
    refine wpAny_pure (hR _ H π acc c (I.turnedL (t' := s.toks) (ch := [z, TI, TO, i1, i2]) hk fun d hd => hf d (List.mem_append_left [S] hd)) (hf S (by simp)) HRR N (by rw [List.append_nil]; exact wt) (hk _ _ nS hS) (by rw [List.append_nil]; exact vt))
  have nS : S ∉ [z, TI, TO, i1, i2] := fun q => by
    simp only [List.mem_cons, List.not_mem_nil, or_false] at q
    rcases q with q | q | q | q | q
    · exact O.z q
    · exact O.TI q
    · exact O.TO q
    · exact O.i1 q
    · exact O.i2 q
  induction vs with
  | nil =>
    intro us k s H acc c π h ts r I hf st hS HRR N wt wv wu vt hz hz2 v1 v2 hp hR
    obtain ⟨e1, e2⟩ := rt_ok (show rt [] h = some (.ok r, h2) by cases us <;> exact hp)
    cases hd : xs.toList.drop k with
    | cons u l => rw [hd] at v1; cases v1
    | nil => exact endc k s H acc c π h ts r I hf st hS HRR N wt vt (.inl hd) e1.symm e2.symm hR
  | cons x vs ih =>
    intro us k s H acc c π h ts r I hf st hS HRR N wt wv wu vt hz hz2 v1 v2 hp hR
    cases us with
    | nil =>
      obtain ⟨e1, e2⟩ := rt_ok (show rt [] h = some (.ok r, h2) from hp)
      cases hd : ys.toList.drop k with
      | cons u l => rw [hd] at v2; cases v2
      | nil => exact endc k s H acc c π h ts r I hf st hS HRR N wt vt (.inr hd) e1.symm e2.symm hR
    | cons y us =>
      have hp' : bd (alloc (.tup [x, y])) (fun t => bd (pairsO vs us) fun r => rt (t :: r)) h = some (.ok r, h2) := hp
      obtain ⟨t, h1, e1, m1⟩ := bd_ok hp'
      obtain ⟨r', h2', e2, m2⟩ := bd_ok m1
      obtain ⟨e3, e4⟩ := rt_ok m2
      subst e3 e4
      unfold alloc at e1
      cases e1
      cases hd1 : xs.toList.drop k with
      | nil => rw [hd1] at v1; cases v1
      | cons u l =>
        cases hd2 : ys.toList.drop k with
        | nil => rw [hd2] at v2; cases v2
        | cons u2 l2 =>
          rw [hd1] at v1
          rw [hd2] at v2
          cases v1 with
          | cons ru v1 =>
            cases v2 with
            | cons ru2 v2 =>
              have g1 : xs[k]? = some u := by
                rw [← Array.getElem?_toList]
                have := congrArg List.head? hd1
                rwa [List.head?_drop] at this
              have g2 : ys[k]? = some u2 := by
                rw [← Array.getElem?_toList]
                have := congrArg List.head? hd2
                rwa [List.head?_drop] at this
              have d1 : xs.toList.drop (k + 1) = l := by rw [← List.tail_drop, hd1]; rfl
              have d2 : ys.toList.drop (k + 1) = l2 := by rw [← List.tail_drop, hd2]; rfl
              refine codeAny_builtin PySem.F.entry_extend_loop ?_
              rw [Around.under_plainId PySem.F.plain_extend_loop _]
              show wpAny _ A1.in1 (pyNext (.ref z) >>= _) _ _ s
              have hSl : S < s.heap.objs.size := Heap.lt_size hS
              obtain ⟨lz, lTI, lTO, l1, l2'⟩ := st.lt
              refine wpAny_bind (zst_item D st g1 g2 hSl fun h' st' hT hk => ?_)
              have fresh : H s.heap.objs.size = none := I.hok.fresh (Nat.le_refl _)
              have wxy : wfL h.length [x, y] := fun v hv => by
                simp only [List.mem_cons, List.not_mem_nil, or_false] at hv
                rcases hv with rfl | rfl
                · exact wv _ List.mem_cons_self
                · exact wu _ List.mem_cons_self
              have new : ObjOk X.prog X.w (upd H s.heap.objs.size (.tup (imL π [x, y]))) h' s.heap.objs.size (.tup (imL π [x, y])) :=
                ⟨by show 2 ≤ sizeLine; decide, [u, u2], .cons ru (.cons ru2 .nil), ⟨_, hT, rfl, _, rfl⟩⟩
              have hf5 : ∀ d ∈ [z, TI, TO, i1, i2], FpOk X pins H d := fun d hd => hf d (List.mem_append_left [S] hd)
              have I1 : Inv X pins σ (upd H s.heap.objs.size (.tup (imL π [x, y]))) { s with heap := h' } := I.turnedNew (t' := s.toks) (ch := [z, TI, TO, i1, i2]) hk hf5 (Nat.le_refl _) new
              have hf' : ∀ d ∈ [z, TI, TO, i1, i2, S], FpOk X pins (upd H s.heap.objs.size (.tup (imL π [x, y]))) d := fun d hd => by
                obtain ⟨q1, q2⟩ := hf d hd
                refine ⟨?_, q2⟩
                rw [upd_ne ?_]
                · exact q1
                · simp only [List.mem_cons, List.not_mem_nil, or_false] at hd
                  rcases hd with q | q | q | q | q | q <;> rw [q] <;> exact Nat.ne_of_lt (by assumption)
              have hS' : listAt h' S acc c := hk _ _ nS hS
              show wpAny _ A1.in1 (updateSeq S (·.push (.ref s.heap.objs.size)) >>= _) _ _ _
              refine wpAny_bind (wpAny_updateSeq hS' rfl (wpAny_pure ⟨plainId_quiet PySem.F.plain_extend_loop _, ?_⟩) (by rw [List.length_cons] at hz; omega) (by rw [Array.size_push]; rw [List.length_cons] at hz; omega))
              have N1 := ext_nx (π := π) (h := h) (.tup [x, y]) s.heap.objs.size
              have wn : ∀ {vs : List V}, wfL h.length vs → wfL (h ++ [Ob.tup [x, y]]).length vs := fun w v hv => (w v hv).mono N1.le
              have oth : ∀ d o, d ≠ S → h'.get? d = some o → (h'.update S (Obj.mapSeq (·.push (.ref s.heap.objs.size)))).get? d = some o := fun d o hd e => (Heap.get?_update_other _ _ (Ne.symm hd)).trans e
              refine ih us (k + 1) _ _ (acc.push (.ref s.heap.objs.size)) _ _ _ (ts ++ [.ref h.length]) r' (I1.turnedL (t' := s.toks) (ch := [S]) (fun d o hd e => oth d o (fun q => hd (by simp [q])) e) fun d hd => hf' d (List.mem_append_right [z, TI, TO, i1, i2] hd)) hf' (st'.keep O oth)
                (Heap.get?_update_self _ hS' rfl) (HRR.tup fresh wxy) (N.trans N1) ?_ (wn fun v hv => wv v (List.mem_cons_of_mem _ hv)) (wn fun v hv => wu v (List.mem_cons_of_mem _ hv)) ?_ ?_ (by rw [Array.size_push]; omega) ?_ ?_ e2 ?_
              · intro v hv
                rcases List.mem_append.mp hv with hv | hv
                · exact wn wt v hv
                · rw [List.mem_singleton.mp hv]
                  show h.length < _
                  rw [List.length_append]; exact Nat.lt_succ_self _
              · rw [Array.toList_push, imL_app, N1.imL wt]
                refine vt.append ?_
                show Vals [im _ (V.ref h.length)] _
                rw [show im (ext π h.length s.heap.objs.size) (V.ref h.length) = .ref s.heap.objs.size from congrArg V.ref ext_at]
                exact .cons rfl .nil
              · rw [List.length_cons, List.length_cons] at hz; omega
              · rw [d1, N1.imL (fun v hv => wv v (List.mem_cons_of_mem _ hv))]; exact v1
              · rw [d2, N1.imL (fun v hv => wu v (List.mem_cons_of_mem _ hv))]; exact v2
              · intro s' H' π' acc' c' J1 J2 J3 J4 J5 J6 J7
                rw [List.append_assoc] at J5 J7
                exact hR s' H' π' acc' c' J1 J2 J3 J4 J5 J6 J7
end
end HI

set_option maxRecDepth 100000
set_option maxHeartbeats 4000000
/-! sorted(zip(a, b)): the call -/
namespace HI
open PySem PySem.Spec PyProof.Rows L2 SrtO
theorem nolen_zip : typeLookup (.type "zip") "__len__" = pure none := by rw [typeLookup_type, builtinLookup_eq_fast]; kernel_rfl
theorem nohint_zip : typeLookup (.type "zip") "__length_hint__" = pure none := by rw [typeLookup_type, builtinLookup_eq_fast]; kernel_rfl
section
variable {X : Cx} {G : Gd} {pins : List (Addr × Obj)} {σ : L2.St} {z TI TO i1 i2 a b : Addr} {xs ys : Array Value} {s : Shared} {H : Hp} {E : Value → Shared → Prop}
theorem collect_zip (hc : X.calm = true) {A : Around} (hA : A.handled = none) {π : Nat → Addr} {h h2 : Hh} {vs us r : List V} {Q : List Value → Shared → Prop} (D : ZipApart z TI TO i1 i2 a b)
    (I : Inv X pins σ H s) (hf : ∀ d ∈ [z, TI, TO, i1, i2], FpOk X pins H d) (hz : IsZip s.heap z TI TO .none) (hTI : IsPair s.heap TI (.ref i1) (.ref i2)) (hTO : ∃ u v, IsPair s.heap TO u v)
    (h1 : s.heap.IsListIter i1 a 0) (h2' : s.heap.IsListIter i2 b 0) (hl1 : s.heap.IsList a xs) (hl2 : s.heap.IsList b ys)
    (R : HR G π h H) (wv : wfL h.length vs) (wu : wfL h.length us) (v1 : Vals (imL π vs) xs.toList) (v2 : Vals (imL π us) ys.toList) (hsz : max vs.length us.length ≤ sizeLine) (hp : pairsO vs us h = some (.ok r, h2))
    (hQ : ∀ s' H' π' (acc' : Array Value), Inv X pins σ H' s' → HR G π' h2 H' → Nx π h π' h2 → wfL h2.length r → Vals (imL π' r) acc'.toList → Q acc'.toList s') :
    wpAny (model X.prog X.w) A (collect (.ref z)) Q E s := by
  have lt : ∀ {c o}, s.heap.get? c = some o → s.heap.objs.size ≠ c := fun e => Nat.ne_of_gt (Heap.lt_size e)
  have O : ZOff z TI TO i1 i2 a b s.heap.objs.size := ⟨lt hz, lt hTI, (let ⟨_, _, e⟩ := hTO; lt e), (let ⟨_, e, _⟩ := h1; lt e), (let ⟨_, e, _⟩ := h2'; lt e), (let ⟨_, e, _⟩ := hl1; lt e), (let ⟨_, e, _⟩ := hl2; lt e)⟩
  have st : ZSt z TI TO i1 i2 a b s.heap.objs.size xs ys 0 s.heap := ⟨hTI, h1, h2', hl1, hl2, (let ⟨_, _, e⟩ := hTO; ⟨_, e⟩), .inl ⟨hz, hTO⟩⟩
  unfold collect
  refine wpAny_bind (wpAny_runValue (codeAny_builtin PySem.F.entry_proto_collect ?_))
  rw [Around.under_plainId PySem.F.plain_proto_collect _]
  show wpAny _ A.in1 (newList [] >>= fun l => again (.builtin "list.__iadd__" ⟨[l, .ref z], []⟩)) _ _ s
  refine wpAny_bind (wpAny_newObj_type ?_)
  refine wpAny_pure ⟨plainId_quiet PySem.F.plain_list_iadd _, codeAny_builtin PySem.F.entry_list_iadd ?_⟩
  rw [Around.under_plainId PySem.F.plain_list_iadd _]
  have old₁ : ∀ c o, s.heap.get? c = some o → (s.heap.push { cls := .type "list", data := .seq ([] : List Value).toArray }).get? c = some o := fun c o e => Heap.get?_push_of_some _ e
  have hS₁ : (s.heap.push { cls := .type "list", data := .seq ([] : List Value).toArray }).get? s.heap.objs.size = some { cls := .type "list", data := .seq ([] : List Value).toArray } := Heap.get?_push_size _ rfl
  have hT : ∀ tk, ({ s with heap := s.heap.push { cls := .type "list", data := .seq ([] : List Value).toArray }, toks := tk } : Shared).TypeIs (.ref z) "zip" := fun _ => ⟨_, old₁ _ _ hz, rfl⟩
  show wpAny _ A.in1 (Builtin.List.listExtendWith (.ref s.heap.objs.size) (.ref z) (.ref s.heap.objs.size)) _ _ _
  unfold Builtin.List.listExtendWith
  refine wpAny_bind (wpAny_typeOf (hT _) ?_)
  have e1 : Builtin.List.listSameRef (.ref s.heap.objs.size) (.ref z) = false := by simp [Builtin.List.listSameRef, O.z]
  have e2 : (Value.type "zip" == Value.type "list") = false := by decide
  have e3 : (Value.type "zip" == Value.type "tuple") = false := by decide
  simp only [e1, e2, e3, Bool.or_false, Bool.false_eq_true, if_false]
  refine wpAny_bind (wpAny_pyIter_zip (old₁ _ _ hz) ?_)
  refine wpAny_bind (wpAny_holding ?_)
  unfold Builtin.List.listLengthHint
  refine wpAny_bind (wpAny_specialOf (hT _) nolen_zip ?_)
  show wpAny _ A.in1 (specialOf (Value.ref z) (Str.ofString "__length_hint__") >>= _) _ _ _
  refine wpAny_bind (wpAny_specialOf (hT _) nohint_zip ?_)
  refine wpAny_pure ?_
  show wpAny _ A.in1 (rule "list.extend.makes-room" >>= fun _ => Builtin.List.listTouch (.ref s.heap.objs.size) >>= fun _ =>
    again (.builtin "list.extend.loop" ⟨[.ref s.heap.objs.size, .ref z, .ref s.heap.objs.size], []⟩)) _ _ _
  refine wpAny_bind (wpAny_rule ?_)
  refine wpAny_bind ?_
  show wpAny _ A.in1 (updateSeq s.heap.objs.size (·.push .none) >>= fun _ => updateSeq s.heap.objs.size (·.pop)) _ _ _
  refine wpAny_bind (wpAny_updateSeq hS₁ rfl ?_)
  have hS₂ := Heap.get?_update_self (Obj.mapSeq (·.push Value.none)) hS₁ rfl
  refine wpAny_updateSeq hS₂ rfl ?_
  have hS₃ := Heap.get?_update_self (Obj.mapSeq (·.pop)) hS₂ rfl
  have oth : ∀ b o, s.heap.get? b = some o →
      (((s.heap.push { cls := .type "list", data := .seq ([] : List Value).toArray }).update s.heap.objs.size (Obj.mapSeq (·.push Value.none))).update s.heap.objs.size (Obj.mapSeq (·.pop))).get? b = some o :=
    fun b o e => by
      have hb := lt e
      exact (Heap.get?_update_other _ _ hb).trans ((Heap.get?_update_other _ _ hb).trans (old₁ b o e))
  have fS : FpOk X pins H s.heap.objs.size := I.fpOk (Nat.le_refl _) (I.hok.fresh (Nat.le_refl _))
  refine wpAny_pure ⟨plainId_quiet PySem.F.plain_extend_loop _, zip_loop (G := G) (H0 := H) hc A hA D O _ vs us 0 _ H _ _ π h [] r (I.kept (t' := s.toks) oth) (fun d hd => ?_) (st.keep O fun c o _ e => oth c o e) hS₃ R (Nx.refl) (fun v hv => by cases hv) wv wu .nil (by omega) (Nat.le_refl _) v1 v2 hp ?_⟩
  · rcases List.mem_append.mp (show d ∈ [z, TI, TO, i1, i2] ++ [s.heap.objs.size] from hd) with hd | hd
    · exact hf d hd
    · rw [List.mem_singleton.mp hd]; exact fS
  · intro s' H' π' acc' c' J1 J2 J3 J4 J5 J6 J7
    show wpAny _ A (load s.heap.objs.size >>= _) _ _ s'
    refine wpAny_bind (wpAny_load J6 ?_)
    exact wpAny_pure (hQ s' H' π' acc' J1 J3 J4 J5 J7)
theorem sort_tail (A : Around) {π : Nat → Addr} {h h' : Hh} {xs : List V} {shape : Nat → Bool} {v : V} {Q : VK} (hK : X.K = G.K) (I : Inv X pins σ H s) (R : HR G π h H) (w1 : wfL h.length xs) (hz : xs.length ≤ sizeLine)
    (hks : ∀ x ∈ xs, hasK h shape x = true) (e : alloc (.lst (isort (ltK h shape) xs)) h = some (.ok v, h')) (q : Then G Q π h h' v) :
    wpAny (model X.prog X.w) A.in1 (newList (xs.map (valR π)) >>= fun l => holding [l] (call (.builtin "list.sort") [l] []) >>= fun _ => (ret l : Sem PySem.Fin)) (fun fin s' => ∃ u, fin = .done (.ret u) ∧ EP X pins σ Q u s') E s := by
  have hr : ∀ x ∈ xs, ∃ b, x = .ref b := fun x hm => by
    obtain ⟨b, _, _, e, _⟩ := hasK_ok (hks x hm)
    exact ⟨b, e⟩
  have kv : ∀ x ∈ xs, ∃ l, KeyAt s.heap shape (valR π x) l ∧ keyV h shape x = some l := fun x hm => by
    obtain ⟨b, ks, l, rfl, hs, hi, hk, hne⟩ := hasK_ok (hks x hm)
    obtain ⟨l2, _⟩ := R.seqT hs
    rw [← hK] at l2
    obtain ⟨is, rv2, it, _⟩ := I.tuple l2
    exact ⟨l, ⟨_, _, rfl, it, tupItems_eq 0 rv2 hi, hne⟩, hk⟩
  have hkey : ∀ x ∈ xs, ∀ y ∈ xs, ltVal s.heap shape (valR π x) (valR π y) = ltK h shape x y := fun x hx y hy => by
    obtain ⟨l1, k1, e1⟩ := kv x hx
    obtain ⟨l2, k2, e2⟩ := kv y hy
    unfold ltVal ltK
    rw [k1.key, k2.key, e1, e2]
  have O : Swo (ltVal s.heap shape) := Swo.of swo_lexI fun v => (tupKey s.heap shape v).getD []
  have hz' : (xs.map (valR π)).length ≤ sizeLine := by rw [List.length_map]; exact hz
  refine wpAny_bind (wpAny_newList ?_ hz')
  have hoL : (s.heap.push (seqObj "list" (xs.map (valR π)).toArray 0)).get? s.heap.objs.size = some (seqObj "list" (xs.map (valR π)).toArray 0) := Heap.get?_push_size _ rfl
  have keep : ∀ b o, s.heap.get? b = some o → b ≠ s.heap.objs.size ∧ (s.heap.push (seqObj "list" (xs.map (valR π)).toArray 0)).get? b = some o := fun b o q => ⟨Nat.ne_of_lt (Heap.lt_size q), Heap.get?_push_of_some _ q⟩
  have hS : 2 ≤ (xs.map (valR π)).length → ∀ (h₁ : Heap) (a' : Addr), h₁.get? a' = some (seqObj "list" (xs.map (valR π)).toArray 0) → (∀ b o, s.heap.get? b = some o → b ≠ a' ∧ h₁.get? b = some o) → SortableO X.prog X.w A.in1.in1 { s with heap := h₁ } a' (xs.map (valR π)) (ltVal s.heap shape) := by
    intro h2 h₁ a' ha kk
    have hv1 : ∀ v ∈ xs.map (valR π), ∃ l, KeyAt h₁ shape v l ∧ tupKey s.heap shape v = some l := fun v hm => by
      obtain ⟨x, hx, rfl⟩ := List.mem_map.mp hm
      obtain ⟨l, k, _⟩ := kv x hx
      obtain ⟨c, is, e, t, e2, z⟩ := k.has
      exact ⟨l, ⟨c, is, e, t.keeps fun b o e => (kk b o e).2, e2, z⟩, k.key⟩
    have S := sortable_tups (prog := X.prog) (w := X.w) (A := A.in1.in1) (s := { s with heap := h₁ }) (a := a') (shape := shape) h2 (fun v hm => by obtain ⟨l, k, _⟩ := hv1 v hm; exact ⟨l, k⟩) (fun is ⟨o, ho, hc, _⟩ => by
      rw [ha] at ho
      cases ho
      exact absurd (Value.type.inj hc) (by decide))
    intro h' keep
    obtain ⟨κ, S1, S2⟩ := S h' keep
    refine ⟨κ, S1, fun p q hp hq => ?_⟩
    have z := S2 p q hp hq
    obtain ⟨l1, k1, e1⟩ := hv1 _ hp
    obtain ⟨l2, k2, e2⟩ := hv1 _ hq
    have e3 : ltVal h₁ shape p.1 q.1 = ltVal s.heap shape p.1 q.1 := by
      unfold ltVal
      rw [k1.key, k2.key, e1, e2]
    refine wpAny_mono z (fun r s' hh => ⟨hh.1, hh.2.trans e3⟩) fun _ _ z => z
  refine wpAny_bind (wpAny_holding (wpAny_call_entry slot_list_sort ⟨_, hoL, rfl⟩ entry_list_sort (list_sort_ord O hoL hz' (fun h2 => hS h2 _ _ hoL keep) fun out h1 h2 => ⟨_, rfl, ?_⟩) (args_list_sort _)))
  refine wpAny_pure ⟨_, rfl, ?_⟩
  have eo : out = (isort (ltK h shape) xs).map (valR π) := by
    have s1 : Srtd (ltVal s.heap shape) ((isort (ltK h shape) xs).map (valR π)) := by
      refine List.pairwise_map.mpr ?_
      refine (isort_sorted swo_ltK xs).imp_of_mem fun {x y} hx hy hh => ?_
      rw [hkey y (isort_mem.mp hy) x (isort_mem.mp hx)]
      exact hh
    have s2 : Stb (ltVal s.heap shape) ((isort (ltK h shape) xs).map (valR π)) (xs.map (valR π)) := by
      have t : ∀ xs : List V, (∀ x ∈ xs, ∀ y ∈ xs, ltVal s.heap shape (valR π x) (valR π y) = ltK h shape x y) → isort (ltK h shape) xs = isort (fun x y => ltVal s.heap shape (valR π x) (valR π y)) xs := by
        intro xs
        induction xs with
        | nil => intro _; rfl
        | cons x r ih =>
          intro hk
          show ins _ x (isort _ r) = ins _ x (isort _ r)
          rw [← ih fun y hy z hz => hk y (List.mem_cons_of_mem _ hy) z (List.mem_cons_of_mem _ hz)]
          have hm : ∀ z ∈ isort (ltK h shape) r, ltVal s.heap shape (valR π z) (valR π x) = ltK h shape z x := fun z hz => hk z (List.mem_cons_of_mem _ (isort_mem.mp hz)) x List.mem_cons_self
          revert hm
          generalize isort (ltK h shape) r = l
          intro hm
          induction l with
          | nil => rfl
          | cons y l ihl =>
            show (if ltK h shape y x then _ else _) = (if ltVal s.heap shape (valR π y) (valR π x) then _ else _)
            rw [hm y List.mem_cons_self, ihl fun z hz => hm z (List.mem_cons_of_mem _ hz)]
      rw [t xs hkey]
      exact Stb.map O (valR π) (isort_stb (Swo.of O (valR π)) xs)
    exact stb_uniq O h1 s1 (h2.trans (Stb.sym s2))
  subst eo
  obtain ⟨ep, he'⟩ := PyProof.Rows.sortedHeap_at (out := ((isort (ltK h shape) xs).map (valR π)).toArray) hoL
  have wl : wfL h.length (isort (ltK h shape) xs) := fun v hv => w1 v (isort_mem.mp hv)
  have fr : H s.heap.objs.size = none := I.hok.fresh (Nat.le_refl _)
  have z := new_lst R wl e q fr
  have rl := refs_vals (π := π) (xs := isort (ltK h shape) xs) fun x hx => hr x (isort_mem.mp hx)
  refine ⟨.ref _, upd H s.heap.objs.size (.lst (imL π (isort (ltK h shape) xs))), I.laid (t' := s.toks) (fun b u e => ?_) (Nat.le_refl _) ⟨?_, _, ep, rl, he'⟩, rfl, z⟩
  · have hlt := Heap.lt_size e
    rw [PyProof.Rows.sortedHeap_old (Nat.ne_of_lt hlt) (by rw [size_push']; exact Nat.lt_succ_of_lt hlt)]
    exact (keep b u e).2
  · rw [imL_len, isort_len]
    exact hz
theorem pairsO_len : ∀ (vs us : List V) {h : Hh} {r : List V} {h2 : Hh}, pairsO vs us h = some (.ok r, h2) → r.length ≤ vs.length ∧ ∀ x ∈ r, ∃ j, x = .ref j
  | [], us, h, r, h2, e => by
    obtain ⟨e1, e2⟩ := rt_ok (show rt [] h = some (.ok r, h2) by cases us <;> exact e)
    subst e1
    exact ⟨Nat.le_refl _, fun x hx => by cases hx⟩
  | v :: vs, [], h, r, h2, e => by
    obtain ⟨e1, e2⟩ := rt_ok (show rt [] h = some (.ok r, h2) from e)
    subst e1
    exact ⟨Nat.zero_le _, fun x hx => by cases hx⟩
  | v :: vs, u :: us, h, r, h2, e => by
    have hp' : bd (alloc (.tup [v, u])) (fun t => bd (pairsO vs us) fun r => rt (t :: r)) h = some (.ok r, h2) := e
    obtain ⟨t, h1, e1, m1⟩ := bd_ok hp'
    obtain ⟨r', h2', e2, m2⟩ := bd_ok m1
    obtain ⟨e3, e4⟩ := rt_ok m2
    subst e3 e4
    unfold alloc at e1
    cases e1
    obtain ⟨l, k⟩ := pairsO_len vs us e2
    refine ⟨Nat.succ_le_succ l, fun x hx => ?_⟩
    rcases List.mem_cons.mp hx with rfl | hx
    · exact ⟨_, rfl⟩
    · exact k x hx
theorem cr_sz (hK : X.K = G.K) (hc : X.calm = true) {z TI TO i1 i2 : Addr} {h h' : Hh} {π : Nat → Addr} {a b : Nat} {vs us : List V} {its1 its2 : List Value} {v : V} {Q : VK} (D : ZipApart z TI TO i1 i2 (π a) (π b))
    (I : Inv X pins σ H s) (hf : ∀ d ∈ [z, TI, TO, i1, i2], FpOk X pins H d) (hz : IsZip s.heap z TI TO .none) (hTI : IsPair s.heap TI (.ref i1) (.ref i2)) (hTO : ∃ u v, IsPair s.heap TO u v)
    (h1 : s.heap.IsListIter i1 (π a) 0) (h2' : s.heap.IsListIter i2 (π b) 0) (hl1 : s.heap.IsList (π a) its1.toArray) (hl2 : s.heap.IsList (π b) its2.toArray)
    (R : HR G π h H) (wv : wfL h.length vs) (wu : wfL h.length us) (v1 : Vals (imL π vs) its1) (v2 : Vals (imL π us) its2) (z1 : vs.length ≤ sizeLine) (z2 : us.length ≤ sizeLine) (hp : bd (pairsO vs us) sortV h = some (.ok v, h')) (q : Then G Q π h h' v) :
    wpAny (model X.prog X.w) X.A (call (.builtin "sorted") [.ref z]) (EP X pins σ Q) X.xe s := by
  obtain ⟨r, h2, e1, e2⟩ := bd_ok hp
  refine Calls.call_function_entry kind_sorted plain_sorted entry_sorted (args_sorted1 _) ?_
  unfold Builtin.«sorted»
  refine wpAny_bind (m := checkCount "sorted" 1 1 _) (wpAny_pure ?_)
  refine wpAny_bind (collect_zip (G := G) (A := X.A.in1) hc (I.ok.hd hc) D I hf hz hTI hTO h1 h2' hl1 hl2 R wv wu v1 v2 (by omega) e1 fun s' H' π' acc' J1 J2 J3 J4 J5 => ?_)
  have hlen : r.length ≤ sizeLine := Nat.le_trans (pairsO_len _ _ e1).1 z1
  have q' : Then G Q π' h2 h' v := fun π4 H4 N4 R4 w4 => q π4 H4 (J3.trans N4) R4 w4
  unfold sortV at e2
  split at e2
  · rename_i hi
    have hn : r = [] := by
      cases r with
      | nil => rfl
      | cons x r =>
        obtain ⟨j, rfl⟩ := (pairsO_len _ _ e1).2 x List.mem_cons_self
        rw [List.all_cons, Bool.and_eq_true] at hi
        cases hi.1
    subst hn
    have e0 : acc'.toList = ([] : List V).map (valR π') := by
      cases hq : acc'.toList with
      | nil => rfl
      | cons u l => rw [hq] at J5; cases J5
    rw [e0]
    exact sort_tail X.A (shape := fun _ => true) hK J1 J2 J4 hlen (fun x hx => by cases hx) e2 q'
  · split at e2
    · split at e2
      · split at e2
        · rename_i hall
          have hks := fun x hx => List.all_eq_true.mp hall x hx
          have e0 := vals_refs (fun x hm => by
            obtain ⟨b, _, _, e, _⟩ := hasK_ok (hks x hm)
            exact ⟨b, e⟩) J5
          rw [e0]
          exact sort_tail X.A hK J1 J2 J4 hlen hks e2 q'
        · cases e2
      · cases e2
    · cases e2
end
end HI

set_option maxRecDepth 100000
set_option maxHeartbeats 4000000
/-! sorted(zip(a, b)): the expression -/
namespace HI
open PySem PySem.Spec PyProof.Rows L2 SrtO
section
variable {X : Cx} {G : Gd} {C : Cfg} {pos : Pos} {a b : Expr} {ea eb : Ex}
theorem px_sz (hK : X.K = G.K) (hc : X.calm = true) {p p2 pos2 : Pos} (hg : Gl X "sorted") (hm : X.mg "sorted" = none) (hgz : Gl X "zip") (hmz : X.mg "zip" = none) (ha : PAh X G C [a, b] (.cons ea (.cons eb .nil))) (hp1 : plE a = true) (hp2 : plE b = true) :
    PEh X G C (.Call (.Name "sorted" p) [.Call (.Name "zip" p2) [a, b] [] pos2] [] pos) (.bcall "sortzip" (.cons ea (.cons eb .nil))) := by
  refine ⟨fun pins s σ H Q I hq => ?_⟩
  refine wpAny_Call_Name_kw (ld_blt I hg hm (show bootBuiltins "sorted" = some (.builtin "sorted") by decide +kernel) ?_ (by decide) (by decide))
  refine PyProof.Rows.callWith_builtin1 (PyProof.Rows.spliced_more ?_) rfl rfl
  obtain ⟨π, e, h, v, h', S, hm', q⟩ := hq
  simp only [ev] at hm'
  obtain ⟨xs, h1, m1, m2⟩ := bd_ok hm'
  have hA := goA (Q := fun vs H1 => ∃ π1 h, vs = imL π1 xs ∧ wfL h.length xs ∧ HR G π1 h H1 ∧ bfn "sortzip" xs h = some (.ok v, h') ∧ Then G Q π1 h h' v) S m1 fun π1 H1 N1 S1 w1 => ⟨π1, h1, rfl, w1, S1.hr, m2, fun π2 H2 N2 R2 w2 => q π2 H2 (N1.trans N2) R2 w2⟩
  refine Call_ (ld_blt I hgz hmz PyProof.Rows.boot_zip (PyProof.Rows.callWith_type1 (thn (ha.run pos2 pins s σ H _ I hA) fun us s1 ⟨vs, H1, I1, r1, π1, h, hv, wv, R, hb, q1'⟩ => ?_) (star_cons hp1) (back_plain fun e he => by rw [List.mem_singleton.mp he]; exact hp2)))
  subst hv
  unfold bfn at hb
  split at hb
  · exact (no_ok hb).elim
  · exact (no_ok hb).elim
  · rename_i x y hne _
    replace hb : szO x y h = some (.ok v, h') := hb
    unfold szO at hb
    split at hb
    · rename_i ia ib _
      split at hb
      · rename_i as ha1
        split at hb
        · rename_i bs hb1
          obtain ⟨q1, w1⟩ := R.seqL ha1
          obtain ⟨q2, w2⟩ := R.seqL hb1
          rw [← hK] at q1 q2
          obtain ⟨u1, us', rfl, t1, t2⟩ : ∃ u1 us', us = u1 :: us' ∧ RelV (.ref (π1 ia)) u1 ∧ Vals [.ref (π1 ib)] us' := by
            cases r1 with
            | cons r rr => exact ⟨_, _, rfl, r, rr⟩
          obtain ⟨u2, rfl, t3⟩ := vals1 t2
          obtain rfl : u1 = Value.ref (π1 ia) := t1
          obtain rfl : u2 = Value.ref (π1 ib) := t3
          obtain ⟨its, rv, p1, z1⟩ := I1.list q1
          obtain ⟨its2, rv2, p2, z2⟩ := I1.list q2
          refine call_zip_2 p1.isList p2.isList fun h2 hz hTI hTO g1 g2 hsz hk => ?_
          refine PyProof.Rows.spliced_none ?_
          have I2 : Inv X pins σ H1 { s1 with heap := h2 } := I1.kept (t' := s1.toks) hk
          rw [imL_len] at z1 z2
          refine cr_sz (G := G) hK hc (PySem.W.ktu_apart s1.heap.objs.size _ _ p1.lt p2.lt) I2 (fun c hcm => ?_) hz hTI ⟨_, _, hTO⟩ g1 g2 (p1.isList.at fun o e => hk _ o e) (p2.isList.at fun o e => hk _ o e) R w1 w2 rv rv2 z1 z2 hb q1'
          have e' : c = s1.heap.objs.size + 4 ∨ c = s1.heap.objs.size + 2 ∨ c = s1.heap.objs.size + 3 ∨ c = s1.heap.objs.size ∨ c = s1.heap.objs.size + 1 := by simpa using hcm
          have hle : s1.heap.objs.size ≤ c := by
            rcases e' with z | z | z | z | z
            · rw [z]; exact Nat.le_add_right _ _
            · rw [z]; exact Nat.le_add_right _ _
            · rw [z]; exact Nat.le_add_right _ _
            · rw [z]; exact Nat.le_refl _
            · rw [z]; exact Nat.le_add_right _ _
          exact I1.fpOk hle (I1.hok.fresh hle)
        · cases hb
      · cases hb
    · exact (no_ok hb).elim
  · exact (no_ok hb).elim
end
end HI

set_option maxRecDepth 100000
set_option maxHeartbeats 4000000
/-! stores by an operator, loops, fields -/
namespace HI
open PySem PySem.Spec PyProof.Rows L2
section
variable {X : Cx} {G : Gd} {C : Cfg} {pos : Pos} {a b c : Expr} {ea eb ec : Ex}
/-- an operator in place, by the interpreter -/
def IPh (G : Gd) (o : Op2) : TIp := R2h G (intO o)
theorem ip_ok {op : Operator} {o : Op2} (h : (op = .Add ∧ o = .add) ∨ (op = .Sub ∧ o = .sub) ∨ (op = .Mult ∧ o = .mul)) : PIp X op (IPh G o) := by
  intro pins s σ H x y v u Q I rx ry q
  obtain ⟨π, h', a, b, r, h2, rfl, rfl, wa, wb, R, e, q⟩ := q
  unfold intO at e
  split at e
  · rename_i i j
    obtain ⟨e1, e2⟩ := opt_ok e
    subst e2
    rcases h with ⟨rfl, rfl⟩ | ⟨rfl, rfl⟩ | ⟨rfl, rfl⟩
    · cases e1
      exact iop_add pins s σ H _ _ v u Q I rx ry ⟨i, j, rfl, rfl, same (v := .int _) q R trivial⟩
    · cases e1
      exact iop_sub pins s σ H _ _ v u Q I rx ry ⟨i, j, rfl, rfl, same (v := .int _) q R trivial⟩
    · simp only [intOp] at e1
      split at e1
      · rename_i c
        cases e1
        obtain ⟨t, rfl⟩ := rx
        obtain ⟨t', rfl⟩ := ry
        exact imul_int ⟨.int _, H, I.tok _, ⟨_, rfl⟩, same (v := .int _) q R trivial⟩ (CMulW.ok c)
      · cases e1
  · exact (no_ok e).elim
theorem psx_aug (hK : X.K = G.K) {i : Nat} {x : Str} {p' : Pos} {op : Operator} {o : Op2} (hN : X.N.Nodup) (hi : X.N[i]? = some x) (hx : Loc X.env.scope x) (ha : PEh X G C a ea)
    (ho : (op = .Add ∧ o = .add) ∨ (op = .Sub ∧ o = .sub) ∨ (op = .Mult ∧ o = .mul)) (hf : X.fn x = true ∨ X.env.scope.names.lookup x = some .local) : PSh X G C (.AugAssign (.Name x p') op a pos) (.aug i o ea) :=
  ps_of (ps_aug hN hi hx ha (ip_ok (G := G) ho) hf) fun D σ H ⟨π, e, h, f, h', S, hm, q⟩ => by
    simp only [ex] at hm
    obtain ⟨u, h1, a1, m1⟩ := bd_ok hm
    obtain ⟨y, h2, a2, m2⟩ := bd_ok m1
    obtain ⟨v, h3, a3, m3⟩ := bd_ok m2
    obtain ⟨e1, e2⟩ := rt_ok m3
    subst e1 e2
    unfold getS at a1
    cases hu : e[i]? with
    | none => rw [hu] at a1; exact (no_ok a1).elim
    | some w =>
    rw [hu] at a1
    cases w with
    | none => exact (no_ok a1).elim
    | some w =>
      obtain ⟨e3, e4⟩ := rt_ok a1
      subst e3 e4
      have ww := S.we w (List.mem_of_getElem? hu)
      refine ⟨im π w, ?_, ?_⟩
      · rw [S.sl]
        show (e.map (imO π))[i]? = _
        rw [List.getElem?_map, hu]; rfl
      · refine goE S a2 fun π1 H1 N1 S1 w1 => ?_
        refine ⟨π1, h2, w, y, v, h3, (N1.im ww).symm, rfl, N1.wf ww, w1, S1.hr, a3, fun π2 H2 N2 R2 w2 => ?_⟩
        have S2 := S1.nx N2 R2
        have z := q π2 H2 (N1.trans N2) R2 (S2.we.set w2)
        rw [imE_set, ← S2.sl] at z
        exact z
/-- xs[i] by values, a list -/
theorem get_list (hK : X.K = G.K) : PGet X (fun o i H Q => ∃ π h a k xs v, o = .ref (π a) ∧ i = .int k ∧ seqL h a = some xs ∧ HR G π h H ∧ atI xs k = some v ∧ Q (im π v) H) := by
  intro pins s σ H o i ov iv Q I ro ri q
  obtain ⟨π, h, a, k, xs, v, rfl, rfl, hx, R, he, q⟩ := q
  cases ro
  obtain ⟨t, rfl⟩ := ri
  obtain ⟨l1, w1⟩ := R.seqL hx
  rw [← hK] at l1
  obtain ⟨its, r, pl, hz⟩ := I.list l1
  have he' := atI_map (f := im π) he
  obtain ⟨j, h1, h2, h3, h4, h5⟩ := atI_get he'
  obtain ⟨w, ew, rw'⟩ := r.get h2
  have hl := r.length
  have hn := line63
  have hz' : (imL π xs).length < 2 ^ 63 := Nat.lt_of_le_of_lt hz hn
  have fin : EP X pins σ Q w s := ⟨im π v, H, I, rw', q⟩
  have esz : its.toArray.size = (imL π xs).length := by rw [List.size_toArray]; exact hl.symm
  generalize hlen : (imL π xs).length = n at h1 h4 h5 hz' esz
  by_cases h0 : 0 ≤ k
  · have hj : k.toNat = j := by
      rw [seqIndex_of h0 h5] at h1
      exact Option.some.inj h1
    exact wpAny_getItem_list pl.isList h0 (by omega) (by rw [hj]; simpa using ew) fin
  · have hj : (k + (its.toArray.size : Int)).toNat = j := by
      rw [seqIndex_neg (by omega) h4] at h1
      rw [esz]
      exact Option.some.inj h1
    exact wpAny_getItem_list_neg pl.isList (by omega) (by rw [esz]; omega) (by omega) (by rw [hj]; simpa using ew) fin
theorem psx_augSub (hK : X.K = G.K) {o i : Expr} {eo ei : Ex} {op : Operator} {oo : Op2} {p' : Pos} (ho : PEh X G C o eo) (hi : PEh X G C i ei) (ha : PEh X G C a ea)
    (hop : (op = .Add ∧ oo = .add) ∨ (op = .Sub ∧ oo = .sub) ∨ (op = .Mult ∧ oo = .mul))
    (hs : ∀ ov iv new, augStore i ov iv new = (do holding [new, ov, iv] (setItem ov iv new); release [new, ov, iv] []; pure .next)) : PSh X G C (.AugAssign (.Subscript o i p') op a pos) (.augSub eo ei oo ea) :=
  ps_of (ps_augS ho hi (get_list hK) ha (ip_ok (G := G) hop) (set_ok (X := X) (G := G)) hs) fun D σ H ⟨π, e, h, f, h', S, hm, q⟩ => by
    simp only [ex] at hm
    obtain ⟨x, h1, a1, m1⟩ := bd_ok hm
    obtain ⟨y, h2, a2, m2⟩ := bd_ok m1
    obtain ⟨old, h3, a3, m3⟩ := bd_ok m2
    obtain ⟨z, h4, a4, m4⟩ := bd_ok m3
    obtain ⟨v, h5, a5, m5⟩ := bd_ok m4
    obtain ⟨u, h6, a6, m6⟩ := bd_ok m5
    obtain ⟨e1, e2⟩ := rt_ok m6
    subst e1 e2
    refine goE S a1 fun π1 H1 N1 S1 w1 => ?_
    refine goE S1 a2 fun π2 H2 N2 S2 w2 => ?_
    have lst : ∃ d k xs, x = .ref d ∧ y = .int k ∧ seqL h2 d = some xs ∧ atI xs k = some old ∧ h2 = h3 := by
      unfold indexL at a3
      split at a3
      · rename_i d k
        obtain ⟨b1, b2⟩ := look_ok a3
        split at b1
        · rename_i xs hx
          exact ⟨d, k, xs, rfl, rfl, hx, b1, b2⟩
        · cases b1
      · exact (no_ok a3).elim
    obtain ⟨d, k, xs, rfl, rfl, hx, hat, e3⟩ := lst
    subst e3
    have wold : wf h2.length old := (S2.hr.seqL hx).2 old (atI_mem hat)
    refine ⟨π2, h2, d, k, xs, old, (N2.im w1).symm, rfl, hx, S2.hr, hat, ?_⟩
    refine goE S2 a4 fun π3 H3 N3 S3 w3 => ?_
    refine ⟨π3, h4, old, z, v, h5, (N3.im wold).symm, rfl, N3.wf wold, w3, S3.hr, a5, fun π4 H4 N4 R4 w4 => ?_⟩
    have S4 := S3.nx N4 R4
    refine ⟨π4, h5, .ref d, .int k, v, h6, ((N2.trans (N3.trans N4)).im w1).symm, rfl, rfl, (N2.trans (N3.trans N4)).wf w1, trivial, w4, R4, a6, fun π5 H5 N5 R5 => ?_⟩
    have S5 := S4.nx N5 R5
    have t := q π5 H5 (((N1.trans N2).trans (N3.trans N4)).trans N5) R5 S5.we
    rw [← S5.sl] at t
    exact t
theorem putF_wf {n : Nat} {f : Str} {y : V} (wy : wf n y) : ∀ (fs : List (Str × V)), (∀ p ∈ fs, wf n p.2) → ∀ p ∈ putF f y fs, wf n p.2
  | [], _, p, hp => by
    rw [List.mem_singleton.mp hp]; exact wy
  | (g, w) :: fs, w0, p, hp => by
    unfold putF at hp
    split at hp
    · rcases List.mem_cons.mp hp with rfl | hp
      · exact wy
      · exact w0 p (List.mem_cons_of_mem _ hp)
    · rcases List.mem_cons.mp hp with rfl | hp
      · exact w0 _ List.mem_cons_self
      · exact putF_wf wy fs (fun q hq => w0 q (List.mem_cons_of_mem _ hq)) p hp
theorem putF_im {π : Nat → Addr} {f : Str} {y : V} : ∀ (fs : List (Str × V)), imF π (putF f y fs) = putF f (im π y) (imF π fs)
  | [] => rfl
  | (g, w) :: fs => by
    have e : imF π ((g, w) :: fs) = (g, im π w) :: imF π fs := rfl
    rw [e]
    unfold putF
    split
    · rfl
    · rw [← putF_im fs]; rfl
theorem psx_fld {o : Expr} {eo : Ex} {f : Str} {p' : Pos} (Df : ∀ c, C.fld c f = true → FldOk X G c f) (ho : PEh X G C o eo) (ha : PEh X G C a ea) (hs : swapsWith a (some (.Attribute o f p')) pos.line X.env = pure false)
    : PSh X G C (.Assign [.Attribute o f p'] a pos) (.asgFld eo f ea) :=
  ps_of (ps_fld ho ha hs) fun D σ H ⟨π, e, h, r, h', S, hm, q⟩ => by
    simp only [ex] at hm
    obtain ⟨y, h1, a1, m1⟩ := bd_ok hm
    obtain ⟨x, h2, a2, m2⟩ := bd_ok m1
    obtain ⟨u, h3, a3, m3⟩ := bd_ok m2
    obtain ⟨e1, e2⟩ := rt_ok m3
    subst e1 e2
    refine goE S a1 fun π1 H1 N1 S1 w1 => ?_
    refine goE S1 a2 fun π2 H2 N2 S2 w2 => ?_
    unfold setF at a3
    split at a3
    · rename_i d
      split at a3
      · rename_i c fs hy
        split at a3
        · rename_i hc
          cases a3
          obtain ⟨dx, hd⟩ := S2.hr.ob _ _ hy
          have D' := Df c hc.1
          have wfs : ∀ p ∈ putF f y fs, wf h2.length p.2 := putF_wf (N2.wf w1) fs (S2.hr.wo _ _ hy)
          have epf := putF_im (π := π2) (f := f) (y := y) fs
          have R3 : HR G π2 (h2.set d (.ins c (putF f y fs))) (upd H2 (π2 d) (.ins (G.cls c) dx (putF f (im π1 y) (imF π2 fs)))) := by
            refine S2.hr.put hy rfl rfl wfs ⟨dx, ?_⟩
            rw [upd_same, epf, N2.im w1]
          refine ⟨π2 d, G.cls c, dx, imF π2 fs, rfl, hd, D'.cl, D'.na, by rw [List.length_map]; exact hc.2, ?_⟩
          have S3 := S2.nx set_nx R3
          have t := q π2 _ ((N1.trans N2).trans set_nx) R3 S3.we
          rw [← S3.sl] at t
          exact t
        · cases a3
      · cases a3
    · exact (no_ok a3).elim

/-- a for -/
theorem psx_for (hK : X.K = G.K) (hc : X.calm = true) (hx : X.xe = fun _ _ => False) {tg iter : Expr} {body : List Stmt} {t : Tg} {ei : It} {bb : Sms} (hi : PIh X G tg iter (evI C ei)) (hp : plE iter = true)
    (hg : PG X tg (tgR X.K t)) (hb : PSsh X G C body bb) : PSh X G C (.For tg iter body [] pos) (.for_ t ei bb) := by
  have own : PassesOwn (model X.prog X.w) X.A X.env X.xe := by rw [hx]; exact PassesOwn.never
  refine ps_pick fun D σ H ⟨π, e, h, f, h', S, hm, q⟩ => ?_
  simp only [ex] at hm
  obtain ⟨iv, h1, a1, m1⟩ := bd_ok hm
  obtain ⟨wi, P, K1⟩ := hi.has S a1
  refine ⟨_, ps_for own hc P hg hb (fold_plain hp), ?_⟩
  refine K1 _ fun π1 H1 J N1 S1 W => ?_
  refine ⟨fun i m σ H => m + i = iv.size ∧ ∃ π e hi, Nx π1 h1 π hi ∧ Sx G σ H π e hi ∧ forGo iv t (fun e => exs C bb e) m i e hi = some (.ok f, h'), ⟨iv.size, rfl, π1, e, h1, Nx.refl, S1, m1⟩, ?_⟩
  rintro i m σ2 H2 ⟨hmi, π2, e2, hi, N2, S2, hg2⟩
  cases m with
  | zero =>
    have e0 : i = iv.size := by omega
    have hg2 : (if iv.ends hi then some ((.ok (.nx e2) : Rs Fl), hi) else none) = some (.ok f, h') := hg2
    split at hg2
    · rename_i hs
      cases hg2
      refine .inl ⟨by rw [e0]; exact W.stop N2 S2.hr hs, ?_⟩
      have z := q π2 H2 (N1.trans N2) S2.hr S2.we
      rw [← S2.sl] at z
      exact z
    · cases hg2
  | succ m =>
    obtain ⟨x, h3, b1, c1⟩ := bd_ok (show bd (iv.at i) _ hi = _ from hg2)
    obtain ⟨e3, h4, b2, c2⟩ := bd_ok c1
    obtain ⟨g, h5, b3, c3⟩ := bd_ok c2
    obtain ⟨as2, r2⟩ := look_ok b2
    subst r2
    obtain ⟨go, yl⟩ := W.go N2 S2.hr b1
    refine .inr ⟨go, fun σ H => m + (i + 1) = iv.size ∧ ∃ π e hi, Nx π1 h1 π hi ∧ Sx G σ H π e hi ∧ forGo iv t (fun e => exs C bb e) m (i + 1) e hi = some (.ok f, h'), fun _ _ z => ⟨m, Nat.lt_succ_self m, z⟩, ?_⟩
    intro x' H' hy
    obtain ⟨π3, N3, R3, rfl, wx⟩ := yl x' H' hy
    refine asg_ok hK (S2.nx N3 R3) as2 wx fun S4 => ?_
    refine ⟨π3, e3, h3, g, h5, S4, b3, fun π5 H5 N5 R5 => ?_⟩
    have N15 := (N2.trans N3).trans N5
    cases g with
    | nx e6 => exact fun we => ⟨by omega, π5, e6, h5, N15, ⟨rfl, we, R5⟩, c3⟩
    | ct e6 => exact fun we => ⟨by omega, π5, e6, h5, N15, ⟨rfl, we, R5⟩, c3⟩
    | bk e6 =>
      intro we
      obtain ⟨r1, r2⟩ := rt_ok c3
      subst r1 r2
      exact q π5 H5 (N1.trans N15) R5 we
    | rt v =>
      obtain ⟨r1, r2⟩ := rt_ok c3
      subst r1 r2
      exact q π5 H5 (N1.trans N15) R5
end
end HI

set_option maxRecDepth 100000
set_option maxHeartbeats 4000000
/-! from the linked text's terms to the small language: terms -/
namespace HI
open PySem PySem.Spec PyProof.Rows L2

structure Sc where
  N : List Str
  sc : Scope
  own : Str → Bool
structure Tab where
  defs : List (Str × String × Nat)
  cls : List (Str × Nat × Nat)
  meths : List (Str × String × Nat)
  bns : List Str
  gls : List (Str × V)

def kd (S : Sc) (x : Str) : Option NameKind := S.sc.names.lookup x
def slotN (S : Sc) (x : Str) : Option Nat :=
  match S.N.findIdx? (fun y => decide (y = x)) with
  | some i => if S.N[i]? = some x then some i else none
  | none => none
def visN (S : Sc) (x : Str) : Option Nat :=
  if (kd S x = some .local ∨ kd S x = some .cell ∨ kd S x = some .free) ∧ (x == ("__debug__" : Str)) = false ∧ (x == ("__classdict__" : Str)) = false then slotN S x else none
def stoN (S : Sc) (x : Str) : Option Nat :=
  if kd S x = some .local ∨ (kd S x = some .cell ∧ S.own x = true) then slotN S x else none
def gloN (S : Sc) (x : Str) : Bool := decide (kd S x = some .globalImplicit) && !(x == ("__debug__" : Str))

def cOp : Operator → Option Op2
  | .Add => some .add
  | .Sub => some .sub
  | .Mult => some .mul
  | .Mod => some .mod
  | .Pow => some .pow
  | .LShift => some .shl
  | .RShift => some .shr
  | .BitAnd => some .band
  | .FloorDiv => some .fdiv
  | _ => none
def cCm : CmpOp → Op2
  | .Eq => .eq
  | .NotEq => .ne
  | .Lt => .lt
  | .LtE => .le
  | .Gt => .gt
  | .GtE => .ge
  | .Is => .is_
  | .IsNot => .isnot
  | .In => .in_
  | .NotIn => .notin
def cCst : Const → Option V
  | .none => some .non
  | .bool b => some (.bl b)
  | .int i => some (.int i)
  | .str s => some (.str s)
  | _ => none
def isIf : Expr → Bool
  | .IfExp .. => true
  | _ => false
def isLc : Expr → Bool
  | .ListComp .. => true
  | _ => false
def isTp : Expr → Bool
  | .Tuple .. => true
  | _ => false

def cEs (f : Expr → Option Ex) : List Expr → Option Exs
  | [] => some .nil
  | e :: r => if plE e = true then (f e).bind fun a => (cEs f r).map fun b => .cons a b else none
def cBool (f : Expr → Option Ex) (op : BoolOp) : List Expr → Option Ex
  | [] => none
  | [e] => if isIf e = false then f e else none
  | e :: e2 :: r => if isIf e = false then (f e).bind fun a => (cBool f op (e2 :: r)).map fun b => (match op with | .And => .and a b | .Or => .or a b) else none
def cPart (f : Expr → Option Ex) : Option Expr → Option (Bool × Ex)
  | none => some (false, .cst .non)
  | some e => (f e).map (true, ·)
def cNames (S : Sc) : List Expr → Option (List Nat)
  | [] => some []
  | .Name x _ :: r => (stoN S x).bind fun i => (cNames S r).map (i :: ·)
  | _ :: _ => none
def cTg (S : Sc) : Expr → Option Tg
  | .Name x _ => (stoN S x).map .nm
  | .Tuple es _ _ => (cNames S es).map .tp
  | _ => none
/-- a walk's source -/
def cCall1 (T : Tab) (S : Sc) (f : Expr → Option Ex) (tg iter : Expr) (x : Str) (a : Expr) : Option It :=
  if gloN S x = true ∧ x ∈ T.bns ∧ plE a = true ∧ x = ("range" : Str) then (f a).map .rng1
  else if gloN S x = true ∧ x ∈ T.bns ∧ plE a = true ∧ x = ("enumerate" : Str) ∧ isTp tg = true then (f a).map .enum
  else (f iter).map .seq
def cCall2 (T : Tab) (S : Sc) (f : Expr → Option Ex) (tg iter : Expr) (x : Str) (a b : Expr) : Option It :=
  if gloN S x = true ∧ x ∈ T.bns ∧ plE a = true ∧ plE b = true ∧ x = ("range" : Str) then (f a).bind fun u => (f b).map fun v => .rng2 u v
  else if gloN S x = true ∧ x ∈ T.bns ∧ plE a = true ∧ plE b = true ∧ x = ("zip" : Str) ∧ isTp tg = true then (f a).bind fun u => (f b).map fun v => .zip u v
  else (f iter).map .seq
def cIt (T : Tab) (S : Sc) (f : Expr → Option Ex) (tg iter : Expr) : Option It := match iter with
  | .Call (.Name x _) [a] [] _ => cCall1 T S f tg iter x a
  | .Call (.Name x _) [a, b] [] _ => cCall2 T S f tg iter x a b
  | _ => (f iter).map .seq

/-- the built-in functions: name, key, id, is it a class -/
def bTab : List (Str × String × String × Bool) :=
  [("len", "len", "len", false), ("abs", "abs", "abs", false), ("max", "max", "max", false), ("min", "min", "min", false), ("repr", "repr", "repr", false), ("sorted", "sorted", "sorted", false),
   ("all", "all", "all", false), ("any", "any", "any", false), ("sum", "sum", "sum", false),
   ("int", "int", "int", true), ("tuple", "tuple", "tuple", true), ("list", "list", "list", true)]
def isTab : List (Str × String) := [("int", "is int"), ("bool", "is bool"), ("list", "is list"), ("tuple", "is tuple"), ("str", "is str")]
def cIs (T : Tab) (S : Sc) (f : Expr → Option Ex) (x : Str) (es : List Expr) : Option Ex := match es with
  | [a, .Name y _] => if x = ("isinstance" : Str) ∧ gloN S x = true ∧ gloN S y = true ∧ x ∈ T.bns ∧ y ∈ T.bns ∧ plE a = true then (isTab.lookup y).bind fun k => (f a).map fun ea => .bcall k (.cons ea .nil) else none
  | [.Call (.Name y _) [a, b] [] _] => if x = ("sorted" : Str) ∧ y = ("zip" : Str) ∧ gloN S x = true ∧ gloN S y = true ∧ x ∈ T.bns ∧ y ∈ T.bns ∧ plE a = true ∧ plE b = true then (f a).bind fun ea => (f b).map fun eb => .bcall "sortzip" (.cons ea (.cons eb .nil)) else none
  | _ => none
def cCallN (T : Tab) (S : Sc) (f : Expr → Option Ex) (x : Str) (es : List Expr) : Option Ex :=
  if gloN S x = true then
    (cEs f es).bind fun ee => match T.defs.lookup x with
      | some (q, n) => if ee.len = n then some (.call q ee) else none
      | none => match T.cls.lookup x with
        | some (c, n) => if ee.len = n ∧ es ≠ [] then some (.mk c ee) else none
        | none => if x ∈ T.bns ∧ es ≠ [] then match bTab.lookup x with
            | some (g, _, _) => some (.bcall g ee)
            | none => none
          else none
  else none
def cCallM (T : Tab) (f : Expr → Option Ex) (o : Expr) (m : Str) (apos pos : Pos) (es : List Expr) : Option Ex :=
  if plE o = true ∧ (apos.endLine == pos.line) = true ∧ es.length < 30 then
    (f o).bind fun eo => (cEs f es).bind fun ee => match T.meths.lookup m with
      | some (ms, n) => if ee.len = n then some (.meth m ms eo ee) else none
      | none => none
  else none
def cCall (T : Tab) (S : Sc) (f : Expr → Option Ex) (fn : Expr) (es : List Expr) (pos : Pos) : Option Ex := match fn with
  | .Name x _ => match cIs T S f x es with
    | some e => some e
    | none => cCallN T S f x es
  | .Attribute o m apos => cCallM T f o m apos pos es
  | _ => none
def cSub (f : Expr → Option Ex) (a i : Expr) : Option Ex := match i with
  | .Slice none none (some (.UnaryOp .USub (.Constant (.int 1) _ _) _)) _ => (f a).map fun ea => .bcall "[::-1]" (.cons ea .nil)
  | .Slice lo hi none _ => (f a).bind fun ea => (cPart f lo).bind fun l => (cPart f hi).map fun h => .slc ea l.1 l.2 h.1 h.2
  | i => if plE i = true then (f a).bind fun ea => (f i).map fun ei => .idx ea ei else none
def cCmp (f : Expr → Option Ex) (a : Expr) (ops : List CmpOp) (bs : List Expr) : Option Ex := match ops, bs with
  | [o], [b] => if plE b = true then (f a).bind fun ea => (f b).map fun eb => .bin (cCm o) ea eb else none
  | [o, p], [b, c] => if lastMarks [o, p] [b, c] = false then (f a).bind fun ea => (f b).bind fun eb => (f c).map fun ec => .chain (cCm o) (cCm p) ea eb ec else none
  | _, _ => none
def cUn (f : Expr → Option Ex) (op : UnaryOp) (a : Expr) : Option Ex := match op with
  | .Not => if isIf a = false then (f a).map .not else none
  | .USub => (f a).map .neg
  | _ => none
/-- a comprehension's scope -/
def Sc.blk (S : Sc) (scope : Scope) : Sc := ⟨S.N, relS scope S.sc, fun x => scope.names.lookup x == some .cell⟩
def ownOf (S : Sc) (scope : Scope) : List (Str × Nat) := scope.names.filterMap fun y => if y.2 = .local ∨ y.2 = .cell then (slotN S y.1).map fun i => (y.1, i) else none
def cIfs (f : Expr → Option Ex) : List Expr → Option Ex
  | [] => some (.cst (.bl true))
  | [c] => if isIf c = false then f c else none
  | _ => none
def cComp (T : Tab) (S : Sc) (f : Sc → Expr → Option Ex) (el : Expr) (gs : List Comprehension) (scope : Scope) : Option Ex := match gs with
  | [⟨tg, iter, ifs, k⟩] =>
    if k = 0 ∧ plE iter = true ∧ blkC S.N S.sc scope (ownOf S scope) = true then
      (cTg (S.blk scope) tg).bind fun t => if t.sl.all (fun i => decide (i ∈ (ownOf S scope).map (·.2))) = true then
        (cIt T S (f S) tg iter).bind fun it => (cIfs (f (S.blk scope)) ifs).bind fun c => (f (S.blk scope) el).map fun e => .comp ((ownOf S scope).map (·.2)) t it c e
      else none
    else none
  | _ => none
def cE (T : Tab) : Nat → Sc → Expr → Option Ex
  | 0, _, _ => none
  | n + 1, S, e => match e with
    | .Name x _ => match visN S x with
      | some i => some (.slot i)
      | none => if gloN S x = true then (T.gls.lookup x).map .cst else none
    | .Constant c _ _ => (cCst c).map .cst
    | .BinOp a op b _ => (cOp op).bind fun o => (cE T n S a).bind fun ea => (cE T n S b).map fun eb => .bin o ea eb
    | .UnaryOp op a _ => cUn (cE T n S) op a
    | .BoolOp op es _ => cBool (cE T n S) op es
    | .Compare a ops bs _ => cCmp (cE T n S) a ops bs
    | .IfExp c a b _ => if isIf c = false then (cE T n S c).bind fun ec => (cE T n S a).bind fun ea => (cE T n S b).map fun eb => .ite ec ea eb else none
    | .Tuple es _ _ => (cEs (cE T n S) es).map .tup
    | .List es _ => (cEs (cE T n S) es).map .lst
    | .Subscript a i _ => cSub (cE T n S) a i
    | .Call fn es kws pos => if kws.length = 0 then cCall T S (cE T n S) fn es pos else none
    | .Attribute o x _ => if plE o = true then (cE T n S o).map fun eo => .fld eo x else none
    | .ListComp el gs scope _ => cComp T S (cE T n) el gs scope
    | _ => none

/-! ### it says what the text says -/
/-- what a context of any block has -/
structure Bs (X : Cx) (G : Gd) : Prop where
  K : X.K = G.K
  gd : X.A.guards = some []
  un : X.A.units + 200 < cLine
  calm : X.calm = true
structure Cg (X : Cx) (G : Gd) (C : Cfg) (T : Tab) (k : Nat) (S : Sc) : Prop where
  N : X.N = S.N
  nd : X.N.Nodup
  sc : X.env.scope = S.sc
  fn : ∀ x, S.own x = true → X.fn x = true
  kind : X.env.scope.kind = .function
  calm : X.calm = true
  gd : X.A.guards = some []
  room : Room (k + 1) X.A
  K : X.K = G.K
  defs : ∀ x q n, T.defs.lookup x = some (q, n) → DefOk X G k x n (C.call q)
  cls : ∀ x c n, T.cls.lookup x = some (c, n) → MkOk X G k x c n (C.call (C.cname c ++ ".__init__"))
  meths : ∀ m ms n, T.meths.lookup m = some (ms, n) → (∀ c, C.hasM c ms = true → MethOk X G k c m n (C.call (C.cname c ++ "." ++ ms))) ∧ ((∀ X', Bs X' G → LMeth X' G m ms) ∨ ∀ a vs h, lmeth ms a vs h = none)
  flds : ∀ c f, C.fld c f = true → FldOk X G c f
  bns : ∀ x ∈ T.bns, X.mg x = none
  gls : ∀ x v, T.gls.lookup x = some v → (∃ u, X.mg x = some u ∧ RelV v u) ∧ (∀ π, im π v = v) ∧ ∀ n, wf n v

section
variable {X : Cx} {G : Gd} {C : Cfg} {T : Tab} {k : Nat} {S : Sc} {pos : Pos}
theorem slotN_ok (g : Cg X G C T k S) {x : Str} {i : Nat} (h : slotN S x = some i) : X.N[i]? = some x := by
  unfold slotN at h
  split at h
  · split at h
    · cases h; rw [g.N]; assumption
    · cases h
  · cases h
theorem visN_ok (g : Cg X G C T k S) {x : Str} {i : Nat} (h : visN S x = some i) : PEh X G C (.Name x pos) (.slot i) := by
  unfold visN at h
  split at h
  · rename_i c
    refine px_slot (slotN_ok g h) ?_ c.2.1 c.2.2
    have e := c.1
    unfold kd at e
    rw [← g.sc] at e
    exact e
  · cases h
theorem stoN_ok (g : Cg X G C T k S) {x : Str} {i : Nat} (h : stoN S x = some i) : X.N[i]? = some x ∧ Loc X.env.scope x ∧ (X.fn x = true ∨ X.env.scope.names.lookup x = some .local) := by
  unfold stoN at h
  split at h
  · rename_i c
    unfold kd at c
    rw [← g.sc] at c
    refine ⟨slotN_ok g h, ?_, ?_⟩
    · rcases c with c | c
      · exact .inl c
      · exact .inr c.1
    · rcases c with c | c
      · exact .inr c
      · exact .inl (g.fn x c.2)
  · cases h
theorem gloN_ok (g : Cg X G C T k S) {x : Str} (h : gloN S x = true) : Gl X x ∧ (x == ("__debug__" : Str)) = false := by
  unfold gloN kd at h
  rw [Bool.and_eq_true, ← g.sc] at h
  refine ⟨of_decide_eq_true (p := X.env.scope.names.lookup x = some .globalImplicit) h.1, ?_⟩
  have := h.2
  simpa using this
theorem names_ok (g : Cg X G C T k S) : ∀ {es : List Expr} {is : List Nat}, cNames S es = some is → PGs X es (gNames is) ∧ (assignEach es X.env).length = is.length ∧ (assignEach es X.env).findIdx? (·.1) = none
  | [], is, h => by
    cases h
    exact ⟨pgs_nil, rfl, rfl⟩
  | e :: r, is, h => by
    cases e with
    | Name x p =>
      have h : ((stoN S x).bind fun i => (cNames S r).map (i :: ·)) = some is := h
      obtain ⟨i, hi, h⟩ := Option.bind_eq_some_iff.mp h
      obtain ⟨js, hj, h⟩ := Option.map_eq_some_iff.mp h
      subst h
      obtain ⟨p1, p2, p3⟩ := names_ok g hj
      obtain ⟨q1, q2, q3⟩ := stoN_ok g hi
      refine ⟨pgs_cons (pg_name g.nd q1 q2 q3) p1 rfl, ?_, ?_⟩
      · show (assignEach r X.env).length + 1 = js.length + 1
        rw [p2]
      · show List.findIdx? _ ((false, _) :: assignEach r X.env) = none
        rw [List.findIdx?_cons, p3]; rfl
    | _ => cases h
theorem tg_ok (g : Cg X G C T k S) {tg : Expr} {t : Tg} (h : cTg S tg = some t) : PG X tg (tgR X.K t) := by
  cases tg with
  | Name x p =>
    obtain ⟨i, hi, h⟩ := Option.map_eq_some_iff.mp (show (stoN S x).map Tg.nm = some t from h)
    subst h
    obtain ⟨q1, q2, q3⟩ := stoN_ok g hi
    exact pg_name g.nd q1 q2 q3
  | Tuple es kk p =>
    obtain ⟨is, hi, h⟩ := Option.map_eq_some_iff.mp (show (cNames S es).map Tg.tp = some t from h)
    subst h
    obtain ⟨q1, q2, q3⟩ := names_ok g hi
    exact pg_tup g.calm q1 q2 q3
  | _ => cases h

theorem opR_of (g : Cg X G C T k S) {op : Operator} {o : Op2} (h : cOp op = some o) : OpR X (binaryOp op) (R2h G (op2 o)) := by
  have hK := g.K
  cases op <;> simp only [cOp] at h <;> cases h
  · exact or_add hK
  · exact or_sub
  · exact or_mul hK
  · exact or_mod
  · exact or_pow
  · exact or_shl
  · exact or_shr
  · exact or_band
  · exact or_fdiv
theorem cmR_of (g : Cg X G C T k S) (op : CmpOp) : OpR X (compareOp op) (R2h G (op2 (cCm op))) := by
  have hK := g.K
  have hu := g.room.un
  cases op
  · exact or_eq hK (by omega)
  · exact or_ne hK (by omega)
  · exact or_lt
  · exact or_le
  · exact or_gt
  · exact or_ge
  · exact or_is
  · exact or_isnot
  · exact or_in hK (by omega)
  · exact or_notin hK (by omega)
theorem boolCm (op : CmpOp) : boolOp (cCm op) = true := by cases op <;> rfl

/-- a term and what it is compiled to -/
def Rx (X : Cx) (G : Gd) (C : Cfg) (e : Expr) (ee : Ex) : Prop := PEh X G C e ee ∧ (isIf e = false → PTh X G C e ee)
/-- what is asked of a part's compiler -/
def Fo1 (X : Cx) (G : Gd) (C : Cfg) (f : Expr → Option Ex) : Prop := ∀ e ee, f e = some ee → Rx X G C e ee
theorem Rx.plain (g : Cg X G C T k S) {e : Expr} {ee : Ex} (h : PEh X G C e ee) (h1 : ∀ a b, e ≠ .UnaryOp .Not a b) (h2 : ∀ a b c, e ≠ .BoolOp a b c) (h4 : ∀ a b c d, e ≠ .Compare a b c d) : Rx X G C e ee :=
  ⟨h, fun hi => pc_tru g.K h (truth_plain h1 h2 (fun a b c d z => by subst z; cases hi) h4)⟩
theorem cEs_ok {f : Expr → Option Ex} (F : Fo1 X G C f) : ∀ {es : List Expr} {ee : Exs}, cEs f es = some ee → PAh X G C es ee ∧ (∀ e ∈ es, plE e = true) ∧ ee.len = es.length
  | [], ee, h => by
    cases h
    exact ⟨pax_nil, (fun _ z => nomatch z), rfl⟩
  | e :: r, ee, h => by
    unfold cEs at h
    split at h
    · rename_i hp
      obtain ⟨a, ha, h⟩ := Option.bind_eq_some_iff.mp h
      obtain ⟨b, hb, h⟩ := Option.map_eq_some_iff.mp h
      subst h
      obtain ⟨q1, q2, q3⟩ := cEs_ok F hb
      refine ⟨pax_cons (F e a ha).1 q1 hp, fun x hx => ?_, by show b.len + 1 = r.length + 1; rw [q3]⟩
      rcases List.mem_cons.mp hx with rfl | hx
      · exact hp
      · exact q2 x hx
    · cases h
theorem cBool_ok (g : Cg X G C T k S) {f : Expr → Option Ex} (F : Fo1 X G C f) {op : BoolOp} : ∀ {es : List Expr} {ee : Ex}, cBool f op es = some ee → PEh X G C (.BoolOp op es pos) ee ∧ PWh X G C (.BoolOp op es pos) ee
  | [], ee, h => by cases h
  | [e], ee, h => by
    unfold cBool at h
    split at h
    · rename_i hi
      have q := F e ee h
      refine ⟨pe_one q.1, ?_⟩
      cases op with
      | And => exact pw_and1 (q.2 hi)
      | Or => exact pw_or1 (q.2 hi)
    · cases h
  | e :: e2 :: r, ee, h => by
    unfold cBool at h
    split at h
    · rename_i hi
      obtain ⟨a, ha, h⟩ := Option.bind_eq_some_iff.mp h
      obtain ⟨b, hb, h⟩ := Option.map_eq_some_iff.mp h
      obtain ⟨r1, r2⟩ := cBool_ok g F hb
      have q := F e a ha
      cases op with
      | And => subst h; exact ⟨px_and g.K q.1 r1, pw_andh (q.2 hi) r2⟩
      | Or => subst h; exact ⟨px_or g.K q.1 r1, pw_orh (q.2 hi) r2⟩
    · cases h
theorem cPart_ok {f : Expr → Option Ex} (F : Fo1 X G C f) {o : Option Expr} {r : Bool × Ex} (h : cPart f o = some r) : PO X o (TOh G fun e => partO r.1 (ev C r.2 e)) := by
  cases o with
  | none => cases h; exact pox_none
  | some e =>
    obtain ⟨a, ha, h⟩ := Option.map_eq_some_iff.mp (show (f e).map (true, ·) = some r from h)
    subst h
    exact pox_some (F e a ha).1
theorem cSub_ok (g : Cg X G C T k S) {f : Expr → Option Ex} (F : Fo1 X G C f) {a i : Expr} {ee : Ex} (h : cSub f a i = some ee) : PEh X G C (.Subscript a i pos) ee := by
  unfold cSub at h
  split at h
  · obtain ⟨ea, ha, h⟩ := Option.map_eq_some_iff.mp h
    subst h
    exact px_rev g.K (F _ _ ha).1
  · obtain ⟨ea, ha, h⟩ := Option.bind_eq_some_iff.mp h
    obtain ⟨l, hl, h⟩ := Option.bind_eq_some_iff.mp h
    obtain ⟨u, hu, h⟩ := Option.map_eq_some_iff.mp h
    subst h
    exact px_slc g.K (F _ _ ha).1 (cPart_ok F hl) (cPart_ok F hu)
  · split at h
    · rename_i hp
      obtain ⟨ea, ha, h⟩ := Option.bind_eq_some_iff.mp h
      obtain ⟨ei, hi, h⟩ := Option.map_eq_some_iff.mp h
      subst h
      exact px_idx g.K (F _ _ ha).1 (F _ _ hi).1 hp
    · cases h
theorem cCmp_ok (g : Cg X G C T k S) {f : Expr → Option Ex} (F : Fo1 X G C f) {a : Expr} {ops : List CmpOp} {bs : List Expr} {ee : Ex} (h : cCmp f a ops bs = some ee) : Rx X G C (.Compare a ops bs pos) ee := by
  unfold cCmp at h
  split at h
  · split at h
    · rename_i hp
      obtain ⟨ea, ha, h⟩ := Option.bind_eq_some_iff.mp h
      obtain ⟨eb, hb, h⟩ := Option.map_eq_some_iff.mp h
      subst h
      exact ⟨px_cmp (cmR_of g _) (F _ _ ha).1 (F _ _ hb).1 hp, fun _ => pc_cmp (cmR_of g _) (boolCm _) (F _ _ ha).1 (F _ _ hb).1 hp⟩
    · cases h
  · split at h
    · rename_i hp
      obtain ⟨ea, ha, h⟩ := Option.bind_eq_some_iff.mp h
      obtain ⟨eb, hb, h⟩ := Option.bind_eq_some_iff.mp h
      obtain ⟨ec, hc, h⟩ := Option.map_eq_some_iff.mp h
      subst h
      exact ⟨px_chain (cmR_of g _) (cmR_of g _) (boolCm _) (F _ _ ha).1 (F _ _ hb).1 (F _ _ hc).1 hp,
        fun _ => pc_chain (cmR_of g _) (cmR_of g _) (boolCm _) (boolCm _) (F _ _ ha).1 (F _ _ hb).1 (F _ _ hc).1 hp⟩
    · cases h
  · cases h
theorem cUn_ok (g : Cg X G C T k S) {f : Expr → Option Ex} (F : Fo1 X G C f) {op : UnaryOp} {a : Expr} {ee : Ex} (h : cUn f op a = some ee) : Rx X G C (.UnaryOp op a pos) ee := by
  unfold cUn at h
  split at h
  · split at h
    · rename_i hi
      obtain ⟨ea, ha, h⟩ := Option.map_eq_some_iff.mp h
      subst h
      exact ⟨px_not g.K (F _ _ ha).1, fun _ => pc_not ((F _ _ ha).2 hi)⟩
    · cases h
  · obtain ⟨ea, ha, h⟩ := Option.map_eq_some_iff.mp h
    subst h
    exact Rx.plain g (px_neg (F _ _ ha).1) (fun _ _ z => by cases z) (fun _ _ _ z => by cases z) fun _ _ _ _ z => by cases z
  · cases h

theorem lookup_in {α β : Type} [BEq α] [LawfulBEq α] {x : α} {v : β} : ∀ {l : List (α × β)}, l.lookup x = some v → (x, v) ∈ l
  | (y, w) :: r, h => by
    rw [List.lookup_cons] at h
    split at h
    · rename_i e
      cases h
      rw [eq_of_beq e]; exact List.mem_cons_self
    · exact List.mem_cons_of_mem _ (lookup_in h)
theorem px_bt (g : Cg X G C T k S) {x : Str} {f i : String} {ty : Bool} {p : Pos} {e1 : Expr} {es : List Expr} {ee : Exs} (h : bTab.lookup x = some (f, i, ty)) (hg : Gl X x) (hm : X.mg x = none)
    (ha : PAh X G C (e1 :: es) ee) (hp : ∀ e ∈ e1 :: es, plE e = true) : PEh X G C (.Call (.Name x p) (e1 :: es) [] pos) (.bcall f ee) := by
  have m := lookup_in h
  have hu := g.room.un
  have hK := g.K
  unfold bTab at m
  simp only [List.mem_cons, Prod.mk.injEq, List.mem_nil_iff, or_false, List.not_mem_nil] at m
  rcases m with m | m | m | m | m | m | m | m | m | m | m | m
  · obtain ⟨rfl, rfl, rfl, rfl⟩ := m
    exact px_bcall (cr_len hK) hg hm PySem.boot_len (by decide) (by decide) ha hp
  · obtain ⟨rfl, rfl, rfl, rfl⟩ := m
    exact px_bcall cr_abs hg hm (by decide +kernel) (by decide) (by decide) ha hp
  · obtain ⟨rfl, rfl, rfl, rfl⟩ := m
    exact px_bcall (cr_max g.calm hK) hg hm (by decide +kernel) (by decide) (by decide) ha hp
  · obtain ⟨rfl, rfl, rfl, rfl⟩ := m
    exact px_bcall (cr_min g.calm hK) hg hm (by decide +kernel) (by decide) (by decide) ha hp
  · obtain ⟨rfl, rfl, rfl, rfl⟩ := m
    exact px_bcall (cr_repr hK g.gd (by omega)) hg hm (by decide +kernel) (by decide) (by decide) ha hp
  · obtain ⟨rfl, rfl, rfl, rfl⟩ := m
    exact px_bcall (cr_sorted hK) hg hm (by decide +kernel) (by decide) (by decide) ha hp
  · obtain ⟨rfl, rfl, rfl, rfl⟩ := m
    exact px_bcall (cr_all g.calm hK) hg hm (by decide +kernel) (by decide) (by decide) ha hp
  · obtain ⟨rfl, rfl, rfl, rfl⟩ := m
    exact px_bcall (cr_any g.calm hK) hg hm (by decide +kernel) (by decide) (by decide) ha hp
  · obtain ⟨rfl, rfl, rfl, rfl⟩ := m
    exact px_bcall (cr_sum g.calm hK) hg hm (by decide +kernel) (by decide) (by decide) ha hp
  · obtain ⟨rfl, rfl, rfl, rfl⟩ := m
    exact px_tcall cr_int hg hm (by decide +kernel) (by decide) (by decide) ha hp
  · obtain ⟨rfl, rfl, rfl, rfl⟩ := m
    exact px_tcall (cr_tuple hK) hg hm (by decide +kernel) (by decide) (by decide) ha hp
  · obtain ⟨rfl, rfl, rfl, rfl⟩ := m
    exact px_tcall (cr_list hK) hg hm (by decide +kernel) (by decide) (by decide) ha hp
theorem cCallN_ok (g : Cg X G C T k S) {f : Expr → Option Ex} (F : Fo1 X G C f) {x : Str} {p : Pos} {es : List Expr} {ee : Ex} (h : cCallN T S f x es = some ee) : PEh X G C (.Call (.Name x p) es [] pos) ee := by
  unfold cCallN at h
  split at h
  · rename_i hgl
    obtain ⟨g1, g2⟩ := gloN_ok g hgl
    obtain ⟨aa, ha, h⟩ := Option.bind_eq_some_iff.mp h
    obtain ⟨q1, q2, q3⟩ := cEs_ok F ha
    have r1 : Room k X.A := g.room.mono (Nat.le_succ k)
    split at h
    · rename_i q n hd
      split at h
      · rename_i hn
        cases h
        have D := g.defs x q n hd
        cases es with
        | nil =>
          cases ha
          subst hn
          exact px_call0 D g.gd r1 g1 g2
        | cons e1 es => exact px_call D g.gd r1 g1 g2 q1 hn q2
      · cases h
    · split at h
      · rename_i c n hd
        split at h
        · rename_i hn
          cases h
          have D := g.cls x c n hd
          cases es with
          | nil => exact absurd rfl hn.2
          | cons e1 es => exact px_mk D g.gd g.room g1 g2 q1 hn.1 q2
        · cases h
      · split at h
        · rename_i hb
          split at h
          · rename_i gg i ty hl
            cases h
            cases es with
            | nil => exact absurd rfl hb.2
            | cons e1 es => exact px_bt g hl g1 (g.bns x hb.1) q1 q2
          · cases h
        · cases h
  · cases h
theorem cCallM_ok (g : Cg X G C T k S) {f : Expr → Option Ex} (F : Fo1 X G C f) {o : Expr} {m : Str} {apos : Pos} {es : List Expr} {ee : Ex} (h : cCallM T f o m apos pos es = some ee) : PEh X G C (.Call (.Attribute o m apos) es [] pos) ee := by
  unfold cCallM at h
  split at h
  · rename_i hc
    obtain ⟨eo, ho, h⟩ := Option.bind_eq_some_iff.mp h
    obtain ⟨aa, ha, h⟩ := Option.bind_eq_some_iff.mp h
    obtain ⟨q1, q2, q3⟩ := cEs_ok F ha
    have r1 : Room k X.A := g.room.mono (Nat.le_succ k)
    have hu := r1.un
    split at h
    · rename_i ms n hm
      split at h
      · rename_i hn
        cases h
        obtain ⟨D, L⟩ := g.meths m ms n hm
        have L : LMeth X G m ms ∨ ∀ a vs h, lmeth ms a vs h = none := L.imp_left fun L => L X ⟨g.K, g.gd, by omega, g.calm⟩
        subst hn
        cases es with
        | nil =>
          cases ha
          exact px_meth0 D L g.gd r1 (F _ _ ho).1 hc.1 hc.2.1
        | cons e1 es => exact px_meth D L g.gd r1 (F _ _ ho).1 hc.1 q1 q2 hc.2.1 hc.2.2
      · cases h
    · cases h
  · cases h
theorem cIs_ok (g : Cg X G C T k S) {f : Expr → Option Ex} (F : Fo1 X G C f) {x : Str} {p : Pos} {es : List Expr} {ee : Ex} (h : cIs T S f x es = some ee) : PEh X G C (.Call (.Name x p) es [] pos) ee := by
  unfold cIs at h
  split at h
  · rename_i a y p2
    split at h
    · rename_i c
      obtain ⟨rfl, c1, c2, c3, c4, c5⟩ := c
      obtain ⟨kk, hk, h⟩ := Option.bind_eq_some_iff.mp h
      obtain ⟨ea, ha, h⟩ := Option.map_eq_some_iff.mp h
      subst h
      have m := lookup_in hk
      unfold isTab at m
      simp only [List.mem_cons, Prod.mk.injEq, List.mem_nil_iff, or_false, List.not_mem_nil] at m
      rcases m with m | m | m | m | m
      · obtain ⟨rfl, rfl⟩ := m
        exact px_is (t := "int") g.K (fun _ => rfl) (by decide) (gloN_ok g c1).1 (g.bns _ c3) (gloN_ok g c2).1 (g.bns _ c4) (by decide +kernel) (by decide) (by decide) (F _ _ ha).1 c5
      · obtain ⟨rfl, rfl⟩ := m
        exact px_is (t := "bool") g.K (fun _ => rfl) (by decide) (gloN_ok g c1).1 (g.bns _ c3) (gloN_ok g c2).1 (g.bns _ c4) (by decide +kernel) (by decide) (by decide) (F _ _ ha).1 c5
      · obtain ⟨rfl, rfl⟩ := m
        exact px_is (t := "list") g.K (fun _ => rfl) (by decide) (gloN_ok g c1).1 (g.bns _ c3) (gloN_ok g c2).1 (g.bns _ c4) (by decide +kernel) (by decide) (by decide) (F _ _ ha).1 c5
      · obtain ⟨rfl, rfl⟩ := m
        exact px_is (t := "tuple") g.K (fun _ => rfl) (by decide) (gloN_ok g c1).1 (g.bns _ c3) (gloN_ok g c2).1 (g.bns _ c4) (by decide +kernel) (by decide) (by decide) (F _ _ ha).1 c5
      · obtain ⟨rfl, rfl⟩ := m
        exact px_is (t := "str") g.K (fun _ => rfl) (by decide) (gloN_ok g c1).1 (g.bns _ c3) (gloN_ok g c2).1 (g.bns _ c4) (by decide +kernel) (by decide) (by decide) (F _ _ ha).1 c5
    · cases h
  · rename_i y p2 a b pos2
    split at h
    · rename_i c
      obtain ⟨rfl, rfl, c1, c2, c3, c4, c5, c6⟩ := c
      obtain ⟨ea, ha, h⟩ := Option.bind_eq_some_iff.mp h
      obtain ⟨eb, hb, h⟩ := Option.map_eq_some_iff.mp h
      subst h
      exact px_sz g.K g.calm (gloN_ok g c1).1 (g.bns _ c3) (gloN_ok g c2).1 (g.bns _ c4) (pax_cons (F _ _ ha).1 (pax_cons (F _ _ hb).1 pax_nil c6) c5) c5 c6
    · cases h
  · cases h
theorem cCall_ok (g : Cg X G C T k S) {f : Expr → Option Ex} (F : Fo1 X G C f) {fn : Expr} {es : List Expr} {ee : Ex} (h : cCall T S f fn es pos = some ee) : PEh X G C (.Call fn es [] pos) ee := by
  unfold cCall at h
  split at h
  · split at h
    · rename_i hi
      cases h
      exact cIs_ok g F hi
    · exact cCallN_ok g F h
  · exact cCallM_ok g F h
  · cases h
theorem cIt_ok (g : Cg X G C T k S) {f : Expr → Option Ex} (F : Fo1 X G C f) {tg iter : Expr} {it : It} (h : cIt T S f tg iter = some it) : PIh X G tg iter (evI C it) := by
  have sq : ∀ {it : It}, (f iter).map It.seq = some it → PIh X G tg iter (evI C it) := by
    intro it h
    obtain ⟨a, ha, h⟩ := Option.map_eq_some_iff.mp h
    subst h
    exact pix_seq g.K (F _ _ ha).1
  unfold cIt at h
  split at h
  · unfold cCall1 at h
    split at h
    · rename_i c
      obtain ⟨c1, c2, c3, rfl⟩ := c
      obtain ⟨a, ha, h⟩ := Option.map_eq_some_iff.mp h
      subst h
      exact pix_rng1 (gloN_ok g c1).1 (g.bns _ c2) (F _ _ ha).1 c3
    · split at h
      · rename_i c
        obtain ⟨c1, c2, c3, rfl, c5⟩ := c
        obtain ⟨a, ha, h⟩ := Option.map_eq_some_iff.mp h
        subst h
        cases tg with
        | Tuple elts kk tp => exact pix_enum g.K (gloN_ok g c1).1 (g.bns _ c2) (F _ _ ha).1 c3
        | _ => cases c5
      · exact sq h
  · unfold cCall2 at h
    split at h
    · rename_i c
      obtain ⟨c1, c2, c3, c4, rfl⟩ := c
      obtain ⟨a, ha, h⟩ := Option.bind_eq_some_iff.mp h
      obtain ⟨b, hb, h⟩ := Option.map_eq_some_iff.mp h
      subst h
      exact pix_rng2 (gloN_ok g c1).1 (g.bns _ c2) (F _ _ ha).1 (F _ _ hb).1 c3 c4
    · split at h
      · rename_i c
        obtain ⟨c1, c2, c3, c4, rfl, c5⟩ := c
        obtain ⟨a, ha, h⟩ := Option.bind_eq_some_iff.mp h
        obtain ⟨b, hb, h⟩ := Option.map_eq_some_iff.mp h
        subst h
        cases tg with
        | Tuple elts kk tp => exact pix_zip g.K (gloN_ok g c1).1 (g.bns _ c2) (F _ _ ha).1 (F _ _ hb).1 c3 c4
        | _ => cases c5
      · exact sq h
  · exact sq h
/-- a comprehension's context -/
theorem Cg.blk (g : Cg X G C T k S) {s : Shared} {H : Hp} {scope : Scope} {D : Addr} {cl : List (Str × Addr)} {fp : List Addr} (hk : scope.kind = .function) : Cg (X.blk s H scope (compEnvC scope cl D X.env) fp) G C T k (S.blk scope) where
  N := g.N
  nd := g.nd
  sc := by
    show relS scope X.env.scope = relS scope S.sc
    rw [g.sc]
  fn := fun x z => z
  kind := hk
  calm := g.calm
  gd := g.gd
  room := g.room
  K := g.K
  defs := fun x q n h => ⟨(g.defs x q n h).has⟩
  cls := fun x q n h => ⟨(g.cls x q n h).has⟩
  meths := fun m ms n h => ⟨fun c hc => ⟨((g.meths m ms n h).1 c hc).has⟩, (g.meths m ms n h).2⟩
  flds := fun c f h => ⟨(g.flds c f h).cl, (g.flds c f h).na⟩
  bns := g.bns
  gls := g.gls
end
end HI

set_option maxRecDepth 100000
set_option maxHeartbeats 4000000
/-! .. comprehensions, statements -/
namespace HI
open PySem PySem.Spec PyProof.Rows L2

section
variable {X : Cx} {G : Gd} {C : Cfg} {T : Tab} {k : Nat} {S : Sc} {pos : Pos}
theorem cIfs_ok {f : Expr → Option Ex} (F : Fo1 X G C f) {ifs : List Expr} {c : Ex} (h : cIfs f ifs = some c) : PTs X ifs (TTh G (fun e => bd (ev C c e) tru)) := by
  unfold cIfs at h
  split at h
  · cases h
    refine ⟨fun pins s σ H Q I ⟨π, e, h, b, h', S, hm, q⟩ => ?_⟩
    simp only [ev] at hm
    obtain ⟨x, h1, a1, m1⟩ := bd_ok hm
    obtain ⟨e1, e2⟩ := rt_ok a1
    subst e1 e2
    obtain ⟨e3, e4⟩ := tru_bl m1
    subst e3 e4
    exact pts_nil.run pins s σ H Q I (q π H Nx.refl S.hr trivial)
  · split at h
    · rename_i hi
      exact pts_one ((F _ _ h).2 hi)
    · cases h
  · cases h
/-- what a comprehension's compiler says -/
structure CompOk (X : Cx) (G : Gd) (C : Cfg) (S : Sc) (tg iter el : Expr) (ifs : List Expr) (scope : Scope) (own : List (Str × Nat)) (t : Tg) (ei : It) (ec ee : Ex) : Prop where
  pl : plE iter = true
  bl : BlkOk X.N X.env.scope scope own
  ho : ∀ i ∈ t.sl, i ∈ own.map (·.2)
  hi : PIh X G tg iter (evI C ei)
  hg : ∀ (s : Shared) (H : Hp) (D : Addr) (cl : List (Str × Addr)) (fp : List Addr), PG (X.blk s H scope (compEnvC scope cl D X.env) fp) tg (tgR X.K t)
  ht : ∀ (s : Shared) (H : Hp) (D : Addr) (cl : List (Str × Addr)) (fp : List Addr), PTs (X.blk s H scope (compEnvC scope cl D X.env) fp) ifs (TTh G (fun e => bd (ev C ec e) tru))
  he : ∀ (s : Shared) (H : Hp) (D : Addr) (cl : List (Str × Addr)) (fp : List Addr), PEh (X.blk s H scope (compEnvC scope cl D X.env) fp) G C el ee
theorem cComp_ok (g : Cg X G C T k S) {f : Sc → Expr → Option Ex} (F : ∀ X' S', Cg X' G C T k S' → Fo1 X' G C (f S')) {el : Expr} {gs : List Comprehension} {scope : Scope} {r : Ex} (h : cComp T S f el gs scope = some r) :
    ∃ tg iter ifs own t ei ec ee, gs = [⟨tg, iter, ifs, 0⟩] ∧ r = .comp (own.map (·.2)) t ei ec ee ∧ CompOk X G C S tg iter el ifs scope own t ei ec ee := by
  unfold cComp at h
  split at h
  · rename_i tg iter ifs kk
    split at h
    · rename_i c
      obtain ⟨rfl, c2, c3⟩ := c
      obtain ⟨t, ht, h⟩ := Option.bind_eq_some_iff.mp h
      split at h
      · rename_i ho
        obtain ⟨it, hit, h⟩ := Option.bind_eq_some_iff.mp h
        obtain ⟨ec, hc, h⟩ := Option.bind_eq_some_iff.mp h
        obtain ⟨ee, he, h⟩ := Option.map_eq_some_iff.mp h
        have B : BlkOk X.N X.env.scope scope (ownOf S scope) := by
          rw [g.N, g.sc]
          exact blkOk_by c3
        refine ⟨tg, iter, ifs, ownOf S scope, t, it, ec, ee, rfl, h.symm, c2, B, fun i hi => ?_, cIt_ok g (F X S g) hit, fun s H D cl fp => ?_, fun s H D cl fp => ?_, fun s H D cl fp => ?_⟩
        · exact of_decide_eq_true (List.all_eq_true.mp ho i hi)
        · exact tg_ok (g.blk (s := s) (H := H) (D := D) (cl := cl) (fp := fp) B.kind) ht
        · exact cIfs_ok (F _ _ (g.blk (s := s) (H := H) (D := D) (cl := cl) (fp := fp) B.kind)) hc
        · exact (F _ _ (g.blk (s := s) (H := H) (D := D) (cl := cl) (fp := fp) B.kind) _ _ he).1
      · cases h
    · cases h
  · cases h
theorem cE_ok : ∀ (n : Nat) (X : Cx) (S : Sc), Cg X G C T k S → Fo1 X G C (cE T n S)
  | 0, X, S, g, e, ee, h => by cases h
  | n + 1, X, S, g, e, ee, h => by
    have F := cE_ok n X S g
    cases e with
    | Name x p =>
      have h : (match visN S x with | some i => some (.slot i) | none => if gloN S x = true then (T.gls.lookup x).map .cst else none) = some ee := h
      split at h
      · rename_i i hi
        cases h
        exact Rx.plain g (visN_ok g hi) (fun _ _ z => by cases z) (fun _ _ _ z => by cases z) fun _ _ _ _ z => by cases z
      · split at h
        · rename_i hgl
          obtain ⟨v, hv, h⟩ := Option.map_eq_some_iff.mp h
          subst h
          obtain ⟨⟨u, mu, ru⟩, q1, q2⟩ := g.gls x v hv
          exact Rx.plain g (px_cst (pe_glob (gloN_ok g hgl).1 mu ru (gloN_ok g hgl).2) q1 q2) (fun _ _ z => by cases z) (fun _ _ _ z => by cases z) fun _ _ _ _ z => by cases z
        · cases h
    | Constant c kk p =>
      obtain ⟨v, hv, h⟩ := Option.map_eq_some_iff.mp (show (cCst c).map Ex.cst = some ee from h)
      subst h
      refine Rx.plain g ?_ (fun _ _ z => by cases z) (fun _ _ _ z => by cases z) fun _ _ _ _ z => by cases z
      cases c <;> simp only [cCst] at hv <;> cases hv
      · exact px_cst pe_non (fun _ => rfl) fun _ => trivial
      · exact px_cst pe_bl (fun _ => rfl) fun _ => trivial
      · exact px_cst pe_int (fun _ => rfl) fun _ => trivial
      · exact px_cst pe_str (fun _ => rfl) fun _ => trivial
    | BinOp a op b p =>
      obtain ⟨o, ho, h⟩ := Option.bind_eq_some_iff.mp (show ((cOp op).bind fun o => (cE T n S a).bind fun ea => (cE T n S b).map fun eb => Ex.bin o ea eb) = some ee from h)
      obtain ⟨ea, ha, h⟩ := Option.bind_eq_some_iff.mp h
      obtain ⟨eb, hb, h⟩ := Option.map_eq_some_iff.mp h
      subst h
      exact Rx.plain g (px_bin (opR_of g ho) (F _ _ ha).1 (F _ _ hb).1) (fun _ _ z => by cases z) (fun _ _ _ z => by cases z) fun _ _ _ _ z => by cases z
    | UnaryOp op a p => exact cUn_ok g F (show cUn (cE T n S) op a = some ee from h)
    | BoolOp op es p =>
      obtain ⟨q1, q2⟩ := cBool_ok g F (pos := p) (show cBool (cE T n S) op es = some ee from h)
      exact ⟨q1, fun _ => q2.pt⟩
    | Compare a ops bs p => exact cCmp_ok g F (show cCmp (cE T n S) a ops bs = some ee from h)
    | IfExp c a b p =>
      have h : (if isIf c = false then (cE T n S c).bind fun ec => (cE T n S a).bind fun ea => (cE T n S b).map fun eb => Ex.ite ec ea eb else none) = some ee := h
      split at h
      · rename_i hi
        obtain ⟨ec, hc, h⟩ := Option.bind_eq_some_iff.mp h
        obtain ⟨ea, ha, h⟩ := Option.bind_eq_some_iff.mp h
        obtain ⟨eb, hb, h⟩ := Option.map_eq_some_iff.mp h
        subst h
        exact ⟨px_ite ((F _ _ hc).2 hi) (F _ _ ha).1 (F _ _ hb).1, fun z => by cases z⟩
      · cases h
    | Tuple es kk p =>
      obtain ⟨aa, ha, h⟩ := Option.map_eq_some_iff.mp (show (cEs (cE T n S) es).map Ex.tup = some ee from h)
      subst h
      exact Rx.plain g (px_tup (cEs_ok F ha).1) (fun _ _ z => by cases z) (fun _ _ _ z => by cases z) fun _ _ _ _ z => by cases z
    | List es p =>
      obtain ⟨aa, ha, h⟩ := Option.map_eq_some_iff.mp (show (cEs (cE T n S) es).map Ex.lst = some ee from h)
      subst h
      exact Rx.plain g (px_lst (cEs_ok F ha).1) (fun _ _ z => by cases z) (fun _ _ _ z => by cases z) fun _ _ _ _ z => by cases z
    | Subscript a i p =>
      exact Rx.plain g (cSub_ok g F (show cSub (cE T n S) a i = some ee from h)) (fun _ _ z => by cases z) (fun _ _ _ z => by cases z) fun _ _ _ _ z => by cases z
    | Call fn es kws p =>
      have h : (if kws.length = 0 then cCall T S (cE T n S) fn es p else none) = some ee := h
      split at h
      · rename_i hk
        obtain rfl := List.length_eq_zero_iff.mp hk
        exact Rx.plain g (cCall_ok g F h) (fun _ _ z => by cases z) (fun _ _ _ z => by cases z) fun _ _ _ _ z => by cases z
      · cases h
    | Attribute o x p =>
      have h : (if plE o = true then (cE T n S o).map fun eo => Ex.fld eo x else none) = some ee := h
      split at h
      · rename_i hp
        obtain ⟨eo, ho, h⟩ := Option.map_eq_some_iff.mp h
        subst h
        exact Rx.plain g (px_fld (fun c => g.flds c x) (F _ _ ho).1 hp) (fun _ _ z => by cases z) (fun _ _ _ z => by cases z) fun _ _ _ _ z => by cases z
      · cases h
    | ListComp el gs scope p =>
      obtain ⟨tg, iter, ifs, own, t, ei, ec, e2, rfl, rfl, K⟩ := cComp_ok g (fun X' S' g' => cE_ok n X' S' g') (show cComp T S (cE T n) el gs scope = some ee from h)
      exact Rx.plain g (px_comp g.K g.calm g.nd K.hi K.bl K.pl K.ho K.hg K.ht K.he) (fun _ _ z => by cases z) (fun _ _ _ z => by cases z) fun _ _ _ _ z => by cases z
    | _ => cases h
end

/-! ### statements -/
/-- is a comprehension stored at a name a store of its own -/
def swD (S : Sc) (x : Str) (px lp : Pos) (scope : Scope) : Bool := kd S x == some .local && px.line == lp.line && !(scope.names.any fun (n, k) => n == x && (k == .local || k == .cell))
def noStar : Expr → Bool
  | .Starred .. => false
  | _ => true
/-- names stored at once -/
def cPar (S : Sc) (ts vs : List Expr) : Option (List Nat) := match ts, vs with
  | [.Name x px, .Name y py], [a, b] =>
    if kd S x = some .local ∧ kd S y = some .local ∧ px.line = py.line ∧ x ≠ y ∧ noStar a = true ∧ noStar b = true ∧ (foldedForSure 8 a && foldedForSure 8 b) = false ∧ (constantsAlone 8 a && constantsAlone 8 b) = false then
      (slotN S x).bind fun i => (slotN S y).bind fun j => if i ≠ j then some [i, j] else none
    else none
  | [.Name x px, .Name y py, .Name z pz], [a, b, c] =>
    if kd S x = some .local ∧ kd S y = some .local ∧ kd S z = some .local ∧ px.line = py.line ∧ px.line = pz.line ∧ x ≠ y ∧ x ≠ z ∧ y ≠ z ∧ noStar a = true ∧ noStar b = true ∧ noStar c = true ∧
        (foldedForSure 8 a && (foldedForSure 8 b && foldedForSure 8 c)) = false ∧ (constantsAlone 8 a && (constantsAlone 8 b && constantsAlone 8 c)) = false then
      (slotN S x).bind fun i => (slotN S y).bind fun j => (slotN S z).bind fun l => if i ≠ j ∧ i ≠ l ∧ j ≠ l then some [i, j, l] else none
    else none
  | _, _ => none
/-- .. not at once: all constants, or too many -/
def notPar (ts vs : List Expr) : Bool := decide (3 < ts.length) || vs.all (foldedForSure 8)
/-- names of which one is not of this block alone -/
def oneCell (S : Sc) (ts : List Expr) : Bool := ts.any fun e => match e with | .Name x _ => !(decide (kd S x = some .local)) | _ => false

def cAsgN (S : Sc) (f : Expr → Option Ex) (x : Str) (px : Pos) (a : Expr) : Option Sm :=
  if plE a = true ∧ isLc a = false then (stoN S x).bind fun i => (f a).map fun ea => .asg (.nm i) ea else none
def cAsgC (T : Tab) (S : Sc) (f : Sc → Expr → Option Ex) (x : Str) (px : Pos) (el : Expr) (gs : List Comprehension) (scope : Scope) (lp : Pos) : Option Sm :=
  (stoN S x).bind fun i => if swD S x px lp scope = true then (cComp T S f el gs scope).map fun e => .asg (.nm i) e else (f S (.ListComp el gs scope lp)).map fun e => .asg (.nm i) e
def cAsgT (S : Sc) (f : Expr → Option Ex) (ts : List Expr) (a : Expr) : Option Sm := match a with
  | .Tuple vs _ _ => match cPar S ts vs with
    | some is => (cEs f vs).map fun es => .par is es
    | none => if (notPar ts vs = true ∨ oneCell S ts = true) ∧ vs.length < 30 then (cNames S ts).bind fun is => (cEs f vs).map fun es => .par is es else if notPar ts vs = true then (cNames S ts).bind fun is => (f a).map fun ea => .asg (.tp is) ea else none
  | _ => (cNames S ts).bind fun is => (f a).map fun ea => .asg (.tp is) ea
def isSl : Expr → Bool
  | .Slice .. => true
  | _ => false
def cAsg (T : Tab) (S : Sc) (f : Sc → Expr → Option Ex) (t a : Expr) : Option Sm := match t with
  | .Name x px => match a with
    | .ListComp el gs scope lp => cAsgC T S f x px el gs scope lp
    | a => cAsgN S (f S) x px a
  | .Tuple ts _ _ => cAsgT S (f S) ts a
  | .Subscript o i _ => if plE a = true ∧ isLc a = false ∧ plE i = true then (f S a).bind fun ea => (f S o).bind fun eo => (f S i).map fun ei => .asgSub eo ei ea else none
  | .Attribute o x _ => if plE a = true ∧ isLc a = false then (f S o).bind fun eo => (f S a).map fun ea => .asgFld eo x ea else none
  | _ => none
def augOp : Operator → Option Op2
  | .Add => some .add
  | .Sub => some .sub
  | .Mult => some .mul
  | _ => none
def cAug (S : Sc) (f : Expr → Option Ex) (t : Expr) (op : Operator) (a : Expr) : Option Sm := match t with
  | .Name x _ => (augOp op).bind fun o => (stoN S x).bind fun i => (f a).map fun ea => .aug i o ea
  | .Subscript o i _ => if plE i = true then (augOp op).bind fun oo => (f o).bind fun eo => (f i).bind fun ei => (f a).map fun ea => .augSub eo ei oo ea else none
  | _ => none
def cSs (f : Stmt → Option Sm) : List Stmt → Option Sms
  | [] => some .nil
  | s :: r => (f s).bind fun a => (cSs f r).map fun b => .cons a b
def cS (T : Tab) : Nat → Sc → Stmt → Option Sm
  | 0, _, _ => none
  | n + 1, S, s => match s with
    | .Assign [t] a _ => cAsg T S (cE T n) t a
    | .AugAssign t op a _ => cAug S (cE T n S) t op a
    | .For tg iter b els _ => if els.length = 0 ∧ plE iter = true then (cTg S tg).bind fun t => (cIt T S (cE T n S) tg iter).bind fun it => (cSs (cS T n S) b).map fun bb => .for_ t it bb else none
    | .While c b els _ => if els.length = 0 ∧ isIf c = false then (cE T n S c).bind fun ec => (cSs (cS T n S) b).map fun bb => .while_ 1000000000 ec bb else none
    | .If c a b _ => if isIf c = false then (cE T n S c).bind fun ec => (cSs (cS T n S) a).bind fun aa => (cSs (cS T n S) b).map fun bb => .ite ec aa bb else none
    | .Return none _ => some (.ret (.cst .non))
    | .Return (some a) _ => (cE T n S a).map .ret
    | .Expr a _ => if plE a = true ∧ isLc a = false then (cE T n S a).map .ex else none
    | .Break _ => some .brk
    | .Continue _ => some .cont
    | .Pass _ => some .pass
    | .Raise .. => some .never
    | _ => none
end HI

set_option maxRecDepth 100000
set_option maxHeartbeats 4000000
/-! .. statements: it says what the text says -/
namespace HI
open PySem PySem.Spec PyProof.Rows L2

section
variable {X : Cx} {G : Gd} {C : Cfg} {T : Tab} {k : Nat} {S : Sc} {pos : Pos}
/-- a while -/
theorem psx_while (hx : X.xe = fun _ _ => False) {c : Expr} {ec : Ex} {b : List Stmt} {bb : Sms} {n : Nat} (hc : PTh X G C c ec) (hb : PSsh X G C b bb) : PSh X G C (.While c b [] pos) (.while_ n ec bb) := by
  have own : PassesOwn (model X.prog X.w) X.A X.env X.xe := by rw [hx]; exact PassesOwn.never
  refine ps_of (ps_while own hc hb) fun D σ H ⟨π, e, h, f, h', S, hm, q⟩ => ?_
  simp only [ex] at hm
  refine ⟨fun m σ H => ∃ π1 e1 h1, Nx π h π1 h1 ∧ Sx G σ H π1 e1 h1 ∧ whileGo (fun e => evT C ec e) (fun e => exs C bb e) m e1 h1 = some (.ok f, h'), ⟨n, π, e, h, Nx.refl, S, hm⟩, ?_⟩
  rintro m σ2 H2 ⟨π2, e2, h2, N2, S2, g2⟩
  cases m with
  | zero => exact (no_ok g2).elim
  | succ m =>
    obtain ⟨kk, h3, a1, m1⟩ := bd_ok (show bd (evT C ec e2) _ h2 = _ from g2)
    refine goT S2 a1 fun π3 H3 N3 S3 _ => ?_
    cases kk with
    | false =>
      rw [if_neg Bool.false_ne_true]
      obtain ⟨r1, r2⟩ := rt_ok m1
      subst r1 r2
      have z := q π3 H3 (N2.trans N3) S3.hr S3.we
      rw [← S3.sl] at z
      exact z
    | true =>
      rw [if_pos rfl]
      obtain ⟨g, h5, b3, c3⟩ := bd_ok m1
      refine ⟨fun σ H => ∃ π1 e1 h1, Nx π h π1 h1 ∧ Sx G σ H π1 e1 h1 ∧ whileGo (fun e => evT C ec e) (fun e => exs C bb e) m e1 h1 = some (.ok f, h'), fun _ _ z => ⟨m, Nat.lt_succ_self m, z⟩, ?_⟩
      refine ⟨π3, e2, h3, g, h5, S3, b3, fun π5 H5 N5 R5 => ?_⟩
      have N15 := (N2.trans N3).trans N5
      cases g with
      | nx e6 => exact fun we => ⟨π5, e6, h5, N15, ⟨rfl, we, R5⟩, c3⟩
      | ct e6 => exact fun we => ⟨π5, e6, h5, N15, ⟨rfl, we, R5⟩, c3⟩
      | bk e6 =>
        intro we
        obtain ⟨r1, r2⟩ := rt_ok c3
        subst r1 r2
        exact q π5 H5 N15 R5 we
      | rt v =>
        obtain ⟨r1, r2⟩ := rt_ok c3
        subst r1 r2
        exact q π5 H5 N15 R5
theorem par_go {G : Gd} {σ : L2.St} {H : Hp} {D : Ends} {f : Fl} {π e h h' is vs} (S : Sx G σ H π e h) (w : wfL h.length vs) (m : bd (opt (setAll is vs e)) (fun e1 => rt (Fl.nx e1)) h = some (.ok f, h'))
    (q : ∀ π' H', Nx π h π' h' → HR G π' h' H' → Fo D π' h'.length H' f) : gNames is (imL π vs) σ H D.nx := by
  obtain ⟨e1, h2, a1, m1⟩ := bd_ok m
  obtain ⟨a2, r2⟩ := opt_ok a1
  obtain ⟨r3, r4⟩ := rt_ok m1
  subst r2 r3 r4
  rw [S.sl]
  exact setAll_ok a2 S.we w fun we => q π H Nx.refl S.hr we
theorem cPar_ok (g : Cg X G C T k S) {ts vs : List Expr} {is : List Nat} {es : Exs} {kt k2 : Nat} {pt pt2 : Pos} (h : cPar S ts vs = some is) (ha : PAh X G C vs es) : PSh X G C (.Assign [.Tuple ts kt pt] (.Tuple vs k2 pt2) pos) (.par is es) := by
  have hb : X.env.blockKind = .function := by unfold Env.blockKind; rw [g.kind]; rfl
  have kk : ∀ x, kd S x = some .local → X.env.kindOf x = some .local := fun x e => by
    show X.env.scope.names.lookup x = _
    rw [g.sc]; exact e
  unfold cPar at h
  split at h
  · rename_i x px y py a b
    split at h
    · rename_i c
      obtain ⟨c1, c2, c3, c4, c5, c6, c7, c8⟩ := c
      obtain ⟨i, hi, h⟩ := Option.bind_eq_some_iff.mp h
      obtain ⟨j, hj, h⟩ := Option.bind_eq_some_iff.mp h
      split at h
      · rename_i hij
        cases h
        have hx := kk x c1
        have hy := kk y c2
        have hw : swappedStores [.Tuple [.Name x px, .Name y py] kt pt] (.Tuple [a, b] k2 pt2) X.env = pure (some [x, y]) := by
          unfold swappedStores
          simp only [hb, hx, hy, List.any_cons, List.any_nil, List.all_cons, List.all_nil, c7, c8, Bool.and_true, List.filterMap_cons, List.filterMap_nil, List.head?_cons, Option.map_some, Option.getD_some, Expr.pos, c3, List.length_cons, List.length_nil]
          simp [List.eraseDups_cons, Ne.symm c4, c4]
          intro hz
          exfalso
          rcases hz with hz | hz
          · cases a <;> first | exact absurd hz Bool.false_ne_true | exact absurd c5 Bool.false_ne_true
          · cases b <;> first | exact absurd hz Bool.false_ne_true | exact absurd c6 Bool.false_ne_true
        refine ps_of (ps_par g.calm g.nd (slotN_ok g hi) (slotN_ok g hj) hij hx hy ha hw) fun D σ H ⟨π, e, h, f, h', S, hm, q⟩ => ?_
        simp only [ex] at hm
        obtain ⟨ws, h1, a1, m1⟩ := bd_ok hm
        refine goA S a1 fun π1 H1 N1 S1 w1 => ?_
        have z := par_go S1 w1 m1 fun π2 H2 N2 R2 => q π2 H2 (N1.trans N2) R2
        obtain ⟨v, r, e1, v2, r2, e2, e3, z⟩ := z
        exact ⟨v, v2, by rw [e1, e2, e3], z⟩
      · cases h
    · cases h
  · rename_i x px y py z pz a b c
    split at h
    · rename_i cc
      obtain ⟨c1, c2, c3, c4, c5, c6, c7, c8, c9, c10, c11, c12, c13⟩ := cc
      obtain ⟨i, hi, h⟩ := Option.bind_eq_some_iff.mp h
      obtain ⟨j, hj, h⟩ := Option.bind_eq_some_iff.mp h
      obtain ⟨l, hl, h⟩ := Option.bind_eq_some_iff.mp h
      split at h
      · rename_i hij
        cases h
        have hx := kk x c1
        have hy := kk y c2
        have hz := kk z c3
        have hw : swappedStores [.Tuple [.Name x px, .Name y py, .Name z pz] kt pt] (.Tuple [a, b, c] k2 pt2) X.env = pure (some [x, y, z]) := by
          unfold swappedStores
          simp only [hb, hx, hy, hz, List.any_cons, List.any_nil, List.all_cons, List.all_nil, c12, c13, Bool.and_true, List.filterMap_cons, List.filterMap_nil, List.head?_cons, Option.map_some, Option.getD_some, Expr.pos, ← c4, ← c5, List.length_cons, List.length_nil]
          simp [List.eraseDups_cons, Ne.symm c6, c6, Ne.symm c7, c7, Ne.symm c8, c8]
          intro hz
          exfalso
          rcases hz with hz | hz | hz
          · cases a <;> first | exact absurd hz Bool.false_ne_true | exact absurd c9 Bool.false_ne_true
          · cases b <;> first | exact absurd hz Bool.false_ne_true | exact absurd c10 Bool.false_ne_true
          · cases c <;> first | exact absurd hz Bool.false_ne_true | exact absurd c11 Bool.false_ne_true
        refine ps_of (ps_par3 g.calm g.nd (slotN_ok g hi) (slotN_ok g hj) (slotN_ok g hl) hij.1 hij.2.1 hij.2.2 hx hy hz ha hw) fun D σ H ⟨π, e, h, f, h', S, hm, q⟩ => ?_
        simp only [ex] at hm
        obtain ⟨ws, h1, a1, m1⟩ := bd_ok hm
        refine goA S a1 fun π1 H1 N1 S1 w1 => ?_
        have z := par_go S1 w1 m1 fun π2 H2 N2 R2 => q π2 H2 (N1.trans N2) R2
        obtain ⟨v, r, e1, v2, r2, e2, v3, r3, e3, e4, z⟩ := z
        exact ⟨v, v2, v3, by rw [e1, e2, e3, e4], z⟩
      · cases h
    · cases h
  · cases h
theorem swT_false (g : Cg X G C T k S) {ts : List Expr} {kt : Nat} {pt : Pos} {a : Expr} {l : Nat} : swapsWithSole [.Tuple ts kt pt] a l X.env = pure false := by
  unfold swapsWithSole swapsWith
  cases a <;> rfl
theorem names_names {S : Sc} : ∀ {ts : List Expr} {is : List Nat}, cNames S ts = some is → is.length = ts.length
  | [], is, h => by cases h; rfl
  | e :: r, is, h => by
    cases e with
    | Name x p =>
      obtain ⟨i, hi, h⟩ := Option.bind_eq_some_iff.mp (show ((stoN S x).bind fun i => (cNames S r).map (i :: ·)) = some is from h)
      obtain ⟨js, hj, h⟩ := Option.map_eq_some_iff.mp h
      subst h
      exact congrArg (· + 1) (names_names hj)
    | _ => cases h
theorem HR.more {G : Gd} {π : Nat → Addr} {h : Hh} {H : Hp} {p : Addr} {o : HO} (R : HR G π h H) (hd : H p = none) : HR G π h (upd H p o) :=
  ⟨fun i ob e => (R.ob i ob e).move (R.wo i ob e) (fun _ _ => rfl) fun u hu => by rw [upd_ne (ne_of_none hu hd)]; exact hu, R.wo, R.inj⟩
/-- names stored by way of a tuple -/
theorem psx_parT (g : Cg X G C T k S) {ts vs : List Expr} {is : List Nat} {es : Exs} {kt k2 : Nat} {pt pt2 : Pos} (hi : cNames S ts = some is) (ha : PAh X G C vs es) (hl : vs.length < 30) (he : es.len = vs.length)
    (hw : swappedStores [.Tuple ts kt pt] (.Tuple vs k2 pt2) X.env = pure none) : PSh X G C (.Assign [.Tuple ts kt pt] (.Tuple vs k2 pt2) pos) (.par is es) := by
  obtain ⟨q1, q2, q3⟩ := names_ok g hi
  refine ps_of (ps_asg (pe_tup ha) (pg_tup g.calm q1 q2 q3) (swT_false g) hw rfl) fun D σ H ⟨π, e, h, f, h', S, hm, q⟩ => ?_
  simp only [ex] at hm
  obtain ⟨ws, h1, a1, m1⟩ := bd_ok hm
  refine goA S a1 fun π1 H1 N1 S1 w1 => ⟨?_, fun p hp => ?_⟩
  · rw [imL_len, evs_length es a1, he]
    have : (30 : Nat) ≤ sizeLine := by decide
    omega
  · have S2 : Sx G σ (upd H1 p (.tup (imL π1 ws))) π1 e h1 := ⟨S1.sl, S1.we, S1.hr.more hp⟩
    have z := par_go S2 w1 m1 fun π2 H2 N2 R2 => q π2 H2 (N1.trans N2) R2
    have hlen : ws.length = is.length := by
      obtain ⟨e1, h2, a2, m2⟩ := bd_ok m1
      obtain ⟨a3, _⟩ := opt_ok a2
      exact (setAll_len a3).symm
    exact ⟨p, imL π1 ws, rfl, .inl (.inl upd_same), by rw [imL_len]; exact hlen, z⟩
theorem oneCell_none {ts vs : List Expr} {kt k2 : Nat} {pt pt2 : Pos} (g : Cg X G C T k S) (h : oneCell S ts = true) : swappedStores [.Tuple ts kt pt] (.Tuple vs k2 pt2) X.env = pure none := by
  have hlt : ∀ (l : Nat) (ts : List Expr), oneCell S ts = true → (ts.filterMap fun e => match e with | .Name id pos => if X.env.kindOf id == some .local && pos.line == l then some id else none | _ => none).length < ts.length := by
    intro l ts
    induction ts with
    | nil => intro h; cases h
    | cons e r ih =>
      intro h
      unfold oneCell at h
      rw [List.any_cons] at h
      rw [List.filterMap_cons]
      have le := List.length_filterMap_le (fun e => match e with | .Name id pos => if X.env.kindOf id == some .local && pos.line == l then some id else none | _ => none) r
      rw [Bool.or_eq_true] at h
      rcases h with h | h
      · have : (match e with | .Name id pos => if X.env.kindOf id == some .local && pos.line == l then some id else none | _ => none) = none := by
          cases e with
          | Name x p =>
            have h : (!(decide (kd S x = some .local))) = true := h
            have hk : X.env.kindOf x ≠ some .local := by
              show X.env.scope.names.lookup x ≠ _
              rw [g.sc]
              exact (show ¬ kd S x = some .local from by simpa using h)
            have : (X.env.kindOf x == some .local) = false := beq_eq_false_iff_ne.mpr hk
            simp only [this, Bool.false_and, Bool.false_eq_true, if_false]
          | _ => rfl
        rw [this]
        exact Nat.lt_succ_of_le le
      · have := ih h
        split
        · exact Nat.lt_succ_of_lt this
        · exact Nat.succ_lt_succ this
  unfold swappedStores
  have e1 := hlt ((ts.head?.map (·.pos.line)).getD 0) ts h
  dsimp only
  split
  · rfl
  · split
    · rfl
    · rw [if_pos]
      rw [Bool.or_eq_true]
      exact .inl (by rw [bne_iff_ne]; exact Nat.ne_of_lt e1)
theorem notPar_none {ts vs : List Expr} {kt k2 : Nat} {pt pt2 : Pos} (hn : notPar ts vs = true) : swappedStores [.Tuple ts kt pt] (.Tuple vs k2 pt2) X.env = pure none := by
  unfold notPar at hn
  rw [Bool.or_eq_true] at hn
  unfold swappedStores
  rcases hn with hn | hn
  · have hn : 3 < ts.length := of_decide_eq_true hn
    have e1 : (ts.length == 2 || ts.length == 3) = false := by
      rw [Bool.or_eq_false_iff]
      exact ⟨beq_eq_false_iff_ne.mpr (by omega), beq_eq_false_iff_ne.mpr (by omega)⟩
    simp only [e1, Bool.not_false, Bool.true_or, if_true, pure_bind]
  · simp only [hn, if_true]
    split
    · rfl
    · split
      · rfl
      · split
        · rfl
        · rfl
theorem sole (e : Expr) (he : ∀ a b, e ≠ .Starred a b) : True := trivial
theorem cAsgT_ok (g : Cg X G C T k S) {f : Expr → Option Ex} (F : Fo1 X G C f) {ts : List Expr} {a : Expr} {kt : Nat} {pt : Pos} {r : Sm} (h : cAsgT S f ts a = some r) : PSh X G C (.Assign [.Tuple ts kt pt] a pos) r := by
  have nrm : ∀ {r : Sm}, swappedStores [.Tuple ts kt pt] a X.env = pure none → ((cNames S ts).bind fun is => (f a).map fun ea => Sm.asg (.tp is) ea) = some r → PSh X G C (.Assign [.Tuple ts kt pt] a pos) r := by
    intro r hw h
    obtain ⟨is, hi, h⟩ := Option.bind_eq_some_iff.mp h
    obtain ⟨ea, ha, h⟩ := Option.map_eq_some_iff.mp h
    subst h
    obtain ⟨q1, q2, q3⟩ := names_ok g hi
    exact psx_asg g.K (F _ _ ha).1 (pg_tup g.calm q1 q2 q3) (swT_false g) hw rfl
  unfold cAsgT at h
  split at h
  · rename_i vs k2 p2
    split at h
    · rename_i is hp
      obtain ⟨es, he, h⟩ := Option.map_eq_some_iff.mp h
      subst h
      exact cPar_ok g hp (cEs_ok F he).1
    · split at h
      · rename_i hc
        obtain ⟨is, hi, h⟩ := Option.bind_eq_some_iff.mp h
        obtain ⟨es, he, h⟩ := Option.map_eq_some_iff.mp h
        subst h
        obtain ⟨z1, _, z3⟩ := cEs_ok F he
        exact psx_parT g hi z1 hc.2 z3 (hc.1.elim notPar_none (oneCell_none g))
      · split at h
        · rename_i hn
          exact nrm (notPar_none hn) h
        · cases h
  · rename_i hnt
    refine nrm ?_ h
    unfold swappedStores
    cases a <;> first | rfl | exact absurd rfl (hnt _ _ _)
theorem swLc {env : Env} (hk : env.scope.kind = .function) {el : Expr} {gs : List Comprehension} {scope : Scope} {lp px : Pos} {x : Str} {l : Nat} (hs : env.scope = S.sc) :
    swapsWith (.ListComp el gs scope lp) (some (.Name x px)) l env = pure (swD S x px lp scope) := by
  have hb : env.blockKind = .function := by unfold Env.blockKind; rw [hk]; rfl
  have e : env.kindOf x = kd S x := by
    show env.scope.names.lookup x = _
    rw [hs]; rfl
  unfold swapsWith swD
  simp only [hb, e, Expr.pos]
  rfl
theorem isLc_ne {a : Expr} (h : isLc a = false) : ∀ w x y z, a ≠ .ListComp w x y z := fun w x y z e => by subst e; cases h
theorem asgSub_at {o i : Expr} {p : Pos} (h : plE i = true) : ∀ v, assign (.Subscript o i p) X.env v = (do
      let ov ← holding [v] (eval o X.env)
      let iv ← holding [v, ov] (eval i X.env)
      standAt p
      holding [v, ov, iv] (setItem ov iv v)
      release [v, ov, iv] []) := by
  intro v
  cases i <;> first | rfl | cases h
theorem augSub_at {i : Expr} (h : plE i = true) : ∀ ov iv new, augStore i ov iv new = (do holding [new, ov, iv] (setItem ov iv new); release [new, ov, iv] []; pure .next) := by
  intro ov iv new
  cases i <;> first | rfl | cases h
theorem cAsg_ok (g : Cg X G C T k S) {n : Nat} {t a : Expr} {r : Sm} (h : cAsg T S (cE T n) t a = some r) : PSh X G C (.Assign [t] a pos) r := by
  have F : Fo1 X G C (cE T n S) := cE_ok n X S g
  unfold cAsg at h
  split at h
  · split at h
    · rename_i x px _ el gs scope lp
      unfold cAsgC at h
      obtain ⟨i, hi, h⟩ := Option.bind_eq_some_iff.mp h
      obtain ⟨q1, q2, q3⟩ := stoN_ok g hi
      have sw := swLc (env := X.env) (S := S) (el := el) (gs := gs) (scope := scope) (lp := lp) (px := px) (x := x) (l := pos.line) g.kind g.sc
      split at h
      · rename_i hs
        obtain ⟨ee, he, h⟩ := Option.map_eq_some_iff.mp h
        subst h
        obtain ⟨tg, iter, ifs, own, t, ei, ec, e2, rfl, rfl, K⟩ := cComp_ok g (fun X' S' g' => cE_ok n X' S' g') he
        rw [hs] at sw
        have hl : X.env.scope.names.lookup x = some .local := by
          unfold swD at hs
          rw [Bool.and_eq_true, Bool.and_eq_true] at hs
          rw [g.sc]
          exact eq_of_beq hs.1.1
        exact psx_setc g.K (ps_comp g.K g.calm g.nd q1 hl sw K.hi K.bl K.pl K.ho K.hg K.ht K.he)
      · rename_i hs
        obtain ⟨ea, ha, h⟩ := Option.map_eq_some_iff.mp h
        subst h
        rw [Bool.not_eq_true] at hs
        rw [hs] at sw
        exact psx_set g.K g.nd q1 q2 (F _ _ ha).1 sw q3
    · unfold cAsgN at h
      split at h
      · rename_i c
        obtain ⟨i, hi, h⟩ := Option.bind_eq_some_iff.mp h
        obtain ⟨ea, ha, h⟩ := Option.map_eq_some_iff.mp h
        subst h
        obtain ⟨q1, q2, q3⟩ := stoN_ok g hi
        exact psx_set g.K g.nd q1 q2 (F _ _ ha).1 (swap_plain c.1 (isLc_ne c.2)) q3
      · cases h
  · exact cAsgT_ok g F h
  · split at h
    · rename_i c
      obtain ⟨ea, ha, h⟩ := Option.bind_eq_some_iff.mp h
      obtain ⟨eo, ho, h⟩ := Option.bind_eq_some_iff.mp h
      obtain ⟨ei, hi, h⟩ := Option.map_eq_some_iff.mp h
      subst h
      exact psx_sub (F _ _ ha).1 (F _ _ ho).1 (F _ _ hi).1 c.1 (isLc_ne c.2.1) (asgSub_at c.2.2)
    · cases h
  · split at h
    · rename_i c
      obtain ⟨eo, ho, h⟩ := Option.bind_eq_some_iff.mp h
      obtain ⟨ea, ha, h⟩ := Option.map_eq_some_iff.mp h
      subst h
      exact psx_fld (fun c => g.flds c _) (F _ _ ho).1 (F _ _ ha).1 (swap_plain c.1 (isLc_ne c.2))
    · cases h
  · cases h
theorem augOp_ok {op : Operator} {o : Op2} (h : augOp op = some o) : (op = .Add ∧ o = .add) ∨ (op = .Sub ∧ o = .sub) ∨ (op = .Mult ∧ o = .mul) := by
  cases op <;> simp only [augOp] at h <;> cases h
  · exact .inl ⟨rfl, rfl⟩
  · exact .inr (.inl ⟨rfl, rfl⟩)
  · exact .inr (.inr ⟨rfl, rfl⟩)
theorem cAug_ok (g : Cg X G C T k S) {f : Expr → Option Ex} (F : Fo1 X G C f) {t a : Expr} {op : Operator} {r : Sm} (h : cAug S f t op a = some r) : PSh X G C (.AugAssign t op a pos) r := by
  unfold cAug at h
  split at h
  · obtain ⟨o, ho, h⟩ := Option.bind_eq_some_iff.mp h
    obtain ⟨i, hi, h⟩ := Option.bind_eq_some_iff.mp h
    obtain ⟨ea, ha, h⟩ := Option.map_eq_some_iff.mp h
    subst h
    obtain ⟨q1, q2, q3⟩ := stoN_ok g hi
    exact psx_aug g.K g.nd q1 q2 (F _ _ ha).1 (augOp_ok ho) q3
  · split at h
    · rename_i hp
      obtain ⟨oo, hoo, h⟩ := Option.bind_eq_some_iff.mp h
      obtain ⟨eo, ho, h⟩ := Option.bind_eq_some_iff.mp h
      obtain ⟨ei, hi, h⟩ := Option.bind_eq_some_iff.mp h
      obtain ⟨ea, ha, h⟩ := Option.map_eq_some_iff.mp h
      subst h
      exact psx_augSub g.K (F _ _ ho).1 (F _ _ hi).1 (F _ _ ha).1 (augOp_ok hoo) (augSub_at hp)
    · cases h
  · cases h
theorem cSs_ok {f : Stmt → Option Sm} (F : ∀ s r, f s = some r → PSh X G C s r) : ∀ {ss : List Stmt} {r : Sms}, cSs f ss = some r → PSsh X G C ss r
  | [], r, h => by cases h; exact pss_nilh
  | s :: ss, r, h => by
    obtain ⟨a, ha, h⟩ := Option.bind_eq_some_iff.mp (show ((f s).bind fun a => (cSs f ss).map fun b => Sms.cons a b) = some r from h)
    obtain ⟨b, hb, h⟩ := Option.map_eq_some_iff.mp h
    subst h
    exact pss_consh (F _ _ ha) (cSs_ok F hb)
theorem cS_ok (hx : X.xe = fun _ _ => False) (g : Cg X G C T k S) : ∀ (n : Nat) (s : Stmt) (r : Sm), cS T n S s = some r → PSh X G C s r
  | 0, s, r, h => by cases h
  | n + 1, s, r, h => by
    have F : Fo1 X G C (cE T n S) := cE_ok n X S g
    have Fs : ∀ {ss : List Stmt} {r : Sms}, cSs (cS T n S) ss = some r → PSsh X G C ss r := fun h => cSs_ok (fun s r h => cS_ok hx g n s r h) h
    unfold cS at h
    split at h
    · exact cAsg_ok g h
    · exact cAug_ok g F h
    · split at h
      · rename_i c
        obtain ⟨t, ht, h⟩ := Option.bind_eq_some_iff.mp h
        obtain ⟨it, hi, h⟩ := Option.bind_eq_some_iff.mp h
        obtain ⟨bb, hb, h⟩ := Option.map_eq_some_iff.mp h
        subst h
        obtain rfl := List.length_eq_zero_iff.mp c.1
        exact psx_for g.K g.calm hx (cIt_ok g F hi) c.2 (tg_ok g ht) (Fs hb)
      · cases h
    · split at h
      · rename_i c
        obtain ⟨ec, hc, h⟩ := Option.bind_eq_some_iff.mp h
        obtain ⟨bb, hb, h⟩ := Option.map_eq_some_iff.mp h
        subst h
        obtain rfl := List.length_eq_zero_iff.mp c.1
        exact psx_while hx ((F _ _ hc).2 c.2) (Fs hb)
      · cases h
    · split at h
      · rename_i c
        obtain ⟨ec, hc, h⟩ := Option.bind_eq_some_iff.mp h
        obtain ⟨aa, ha, h⟩ := Option.bind_eq_some_iff.mp h
        obtain ⟨bb, hb, h⟩ := Option.map_eq_some_iff.mp h
        subst h
        exact psx_if ((F _ _ hc).2 c) (Fs ha) (Fs hb)
      · cases h
    · cases h; exact psx_retN
    · obtain ⟨ea, ha, h⟩ := Option.map_eq_some_iff.mp h
      subst h
      exact psx_ret (F _ _ ha).1
    · split at h
      · rename_i c
        obtain ⟨ea, ha, h⟩ := Option.map_eq_some_iff.mp h
        subst h
        exact psx_ex (F _ _ ha).1 (ps_expr (F _ _ ha).1 (swap_plain c.1 (isLc_ne c.2)))
      · cases h
    · cases h; exact psx_brk
    · cases h; exact psx_cont
    · cases h; exact psx_pass
    · cases h; exact psx_never
    · cases h
end
end HI

set_option maxRecDepth 100000
set_option maxHeartbeats 4000000
/-! defs, the law -/
namespace HI
open PySem PySem.Spec PyProof.Rows L2

structure Df where
  x : Str
  q : String
  st : Stmt
  N : List Str
  ps : List Str
  b : Sms
  own : Option Nat := none
def callD (D : List (String × Nat × Sms)) (cf : Cfg) : Nat → String → List V → Mo V
  | 0, _, _ => no
  | k + 1, q, vs => match D.lookup q with
    | some (n, b) => body { cf with call := callD D cf k } n b vs
    | none => no
def tabOf (D : List Df) : List (String × Nat × Sms) := D.map fun d => (d.q, d.N.length, d.b)
def cfOf (CT : List Ci) : Cfg := { call := fun _ _ => no, glob := fun _ => none, fld := fldOf CT, hasM := hasMOf CT, cname := cnameOf CT }
def lmT : List (Str × String × Nat) := [("append", "append", 1), ("insert", "insert", 2), ("clear", "clear", 0), ("reverse", "reverse", 0)]
def lmNames : List String := ["append", "insert", "clear", "reverse"]
def clsT : Nat → List Ci → List (Str × Nat × Nat)
  | _, [] => []
  | k, i :: r => (i.x, k, i.n) :: clsT (k + 1) r
def tab0 (D : List Df) (CT : List Ci) (mt : List (Str × String × Nat)) (bns : List Str) (gls : List (Str × V)) : Tab :=
  ⟨(D.filter fun d => d.own.isNone).map fun d => (d.x, d.q, d.ps.length), clsT 0 CT, lmT ++ mt, bns, gls⟩
theorem lmT_ok {X : Cx} {G : Gd} (h : Bs X G) {m : Str} {ms : String} {n : Nat} (e : (m, ms, n) ∈ lmT) : LMeth X G m ms := by
  have z := e
  unfold lmT at z
  simp only [List.mem_cons, Prod.mk.injEq, List.not_mem_nil, or_false] at z
  rcases z with ⟨rfl, rfl, rfl⟩ | ⟨rfl, rfl, rfl⟩ | ⟨rfl, rfl, rfl⟩ | ⟨rfl, rfl, rfl⟩
  · exact ⟨_, PySem.F.slot_list_append, PySem.F.type_list_append, mr_append⟩
  · exact ⟨_, PySem.F.slot_list_insert, PySem.F.type_list_insert, mr_insert⟩
  · exact ⟨_, PySem.F.slot_list_clear, PySem.F.type_list_clear, mr_clear⟩
  · exact ⟨_, PySem.F.slot_list_reverse, PySem.F.type_list_reverse, mr_reverse⟩
theorem lmeth_no {ms : String} (hn : lmNames.contains ms = false) (a : Nat) (vs : List V) (h : Hh) : lmeth ms a vs h = none := by
  unfold lmeth
  split
  · rfl
  · split <;> first
      | rfl
      | (exact absurd hn (by decide))
/-- where a def stands -/
def Plc (K : PySem.W.Frag) (mg : Str → Option Value) (G : Gd) (d : Df) (f : Addr) : Prop := match d.own with
  | none => mg d.x = some (.ref f) ∧ PySem.W.keepIn K (.ref f) = true
  | some c => if d.x = "__init__" then Mk K (G.cls c) f else Meth K (G.cls c) d.x f
/-- what is checked of a def, and where it stands -/
structure DfOk (K : PySem.W.Frag) (mg : Str → Option Value) (G : Gd) (T : Tab) (d : Df) : Prop where
  cmp : cSs (cS T 60 ⟨d.N, defScope d.st, fun _ => true⟩) (defBody d.st) = some d.b
  scp : FnScope d.N d.ps (defScope d.st)
  pl : ∃ (f : Addr) (fd : FuncData), Plc K mg G d f ∧ Fun K d.x d.q d.st f fd ∧ Binds K fd d.ps []
/-- the classes' facts -/
structure ClOk (K : PySem.W.Frag) (mg : Str → Option Value) (G : Gd) (CT : List Ci) : Prop where
  cl : ∀ (c : Nat) (i : Ci), CT[c]? = some i → Cls K (G.cls c) ∧ mg i.x = some (.ref (G.cls c)) ∧ ∀ f ∈ i.fs, NoAttr K (G.cls c) f
def initChk (D : List Df) (i : Ci) (c : Nat) : Bool := D.any fun d => d.q == i.name ++ ".__init__" && (d.own == some c && (decide (d.x = "__init__") && d.ps.length == i.n + 1))
def methChk (D : List Df) (i : Ci) (c : Nat) (m : Str) (ms : String) (n : Nat) : Bool := !i.ms.contains ms || D.any fun d => d.q == i.name ++ "." ++ ms && (d.own == some c && (decide (d.x = m) && (!decide (m = "__init__") && d.ps.length == n + 1)))
def clsChk (D : List Df) (mt : List (Str × String × Nat)) : Nat → List Ci → Bool
  | _, [] => true
  | c, i :: r => initChk D i c && ((lmT ++ mt).all (fun p => methChk D i c p.1 p.2.1 p.2.2) && clsChk D mt (c + 1) r)
def mtChk (mt : List (Str × String × Nat)) : Bool := mt.all fun p => !lmNames.contains p.2.1
theorem clsT_in : ∀ {CT : List Ci} {k : Nat} {x : Str} {c n : Nat}, (x, c, n) ∈ clsT k CT → ∃ i j, CT[j]? = some i ∧ c = k + j ∧ x = i.x ∧ n = i.n
  | [], k, x, c, n, h => by cases h
  | i :: r, k, x, c, n, h => by
    rcases List.mem_cons.mp h with h | h
    · cases h
      exact ⟨i, 0, rfl, rfl, rfl, rfl⟩
    · obtain ⟨i2, j, h1, h2, h3, h4⟩ := clsT_in h
      exact ⟨i2, j + 1, h1, by omega, h3, h4⟩
theorem clsChk_at {D : List Df} {mt : List (Str × String × Nat)} : ∀ {CT : List Ci} {k j : Nat} {i : Ci}, clsChk D mt k CT = true → CT[j]? = some i → initChk D i (k + j) = true ∧ ∀ p ∈ lmT ++ mt, methChk D i (k + j) p.1 p.2.1 p.2.2 = true
  | [], k, j, i, h, e => by simp at e
  | i0 :: r, k, j, i, h, e => by
    unfold clsChk at h
    rw [Bool.and_eq_true, Bool.and_eq_true] at h
    cases j with
    | zero =>
      cases e
      exact ⟨h.1, fun p hp => List.all_eq_true.mp h.2.1 p hp⟩
    | succ j =>
      have := clsChk_at h.2.2 (show r[j]? = some i from e)
      rw [show k + 1 + j = k + (j + 1) by omega] at this
      exact this
theorem tab_at {D : List Df} (nd : (D.map (·.q)).Nodup) : ∀ {d : Df}, d ∈ D → (tabOf D).lookup d.q = some (d.N.length, d.b) := by
  induction D with
  | nil => intro d h; cases h
  | cons c r ih =>
    intro d h
    have nd' : c.q ∉ r.map (·.q) ∧ (r.map (·.q)).Nodup := List.nodup_cons.mp nd
    show List.lookup d.q ((c.q, c.N.length, c.b) :: tabOf r) = _
    rw [List.lookup_cons]
    rcases List.mem_cons.mp h with rfl | h
    · rw [beq_self_eq_true]
    · have ne : (d.q == c.q) = false := beq_eq_false_iff_ne.mpr fun e => nd'.1 (by rw [← e]; exact List.mem_map_of_mem h)
      rw [ne]
      exact ih nd'.2 h
theorem fo_body {D : Ends} {b : Sms} {C : Cfg} {n : Nat} {as : List V} {h h' : Hh} {v : V} (hm : body C n b as h = some (.ok v, h')) :
    ∃ f, exs C b (as.map some ++ List.replicate (n - as.length) none) h = some (.ok f, h') ∧ ((∃ e, f = .nx e ∧ v = .non) ∨ f = .rt v) := by
  unfold body at hm
  obtain ⟨f, h1, a1, m1⟩ := bd_ok hm
  cases f with
  | nx e =>
    obtain ⟨e1, e2⟩ := rt_ok m1
    subst e1 e2
    exact ⟨_, a1, .inl ⟨e, rfl, rfl⟩⟩
  | rt u =>
    obtain ⟨e1, e2⟩ := rt_ok m1
    subst e1 e2
    exact ⟨_, a1, .inr rfl⟩
  | bk e => exact (no_ok m1).elim
  | ct e => exact (no_ok m1).elim
/-- what is told of the whole text -/
structure Tx0 (K : PySem.W.Frag) (mg : Str → Option Value) (G : Gd) (D : List Df) (CT : List Ci) (mt : List (Str × String × Nat)) (bns : List Str) (gls : List (Str × V)) : Prop where
  hK : G.K = K
  nd : (D.map (·.q)).Nodup
  ok : ∀ d ∈ D, DfOk K mg G (tab0 D CT mt bns gls) d
  cl : ClOk K mg G CT
  ck : clsChk D mt 0 CT = true
  mt : mtChk mt = true
  hb : ∀ x ∈ bns, mg x = none
  hg : ∀ x v, gls.lookup x = some v → (∃ u, mg x = some u ∧ RelV v u) ∧ (∀ π, im π v = v) ∧ ∀ n, wf n v
theorem def_one {P : Program} {w : World} {K : PySem.W.Frag} {mg : Str → Option Value} {base : Heap} {D : List Df} {CT : List Ci} {mt : List (Str × String × Nat)} {bns : List Str} {gls : List (Str × V)} {G : Gd} (Z : Tx0 K mg G D CT mt bns gls) (j : Nat)
    (ih : ∀ d : Df, d ∈ D → ∃ (f : Addr) (fd : FuncData), Plc K mg G d f ∧ Binds K fd d.ps [] ∧ FnG P w K mg base CX0 (2 * j) f fd d.ps (spH G d.ps.length (callD (tabOf D) (cfOf CT) j d.q)))
    {d : Df} (hd : d ∈ D) (cmp : cSs (cS (tab0 D CT mt bns gls) 60 ⟨d.N, defScope d.st, fun _ => true⟩) (defBody d.st) = some d.b) (scp : FnScope d.N d.ps (defScope d.st)) {f : Addr} {fd : FuncData} (F : Fun K d.x d.q d.st f fd) :
    FnG P w K mg base CX0 (2 * j + 1 + 1) f fd d.ps (spH G d.ps.length (callD (tabOf D) (cfOf CT) (j + 1) d.q)) := by
  refine (fnG_of (k := 2 * j + 1) F scp (fun vs H Q E ⟨π, h, as, v, h', e1, e2, _⟩ => by rw [e1, imL_len, e2]) ?_)
  intro cdv A outer s H vs Q E hg hr ⟨π, h, as, v, h', e1, e2, e3, R, e, q⟩
  let C : Cfg := { cfOf CT with call := callD (tabOf D) (cfOf CT) j }
  have g : Cg (cxOf CX0 P w K mg base d.N d.q (defScope d.st) f cdv A outer s H E).nox G C (tab0 D CT mt bns gls) (2 * j) ⟨d.N, defScope d.st, fun _ => true⟩ := by
    refine ⟨rfl, scp.nd, rfl, fun _ _ => rfl, scp.kind, rfl, hg, hr, Z.hK.symm, ?_, ?_, ?_, ?_, Z.hb, Z.hg⟩
    · intro x qq n hl
      have m := lookup_in hl
      obtain ⟨d2, hd2, e⟩ := List.mem_map.mp m
      cases e
      obtain ⟨hd2, ho⟩ := List.mem_filter.mp hd2
      obtain ⟨f2, fd2, k1, k3, k4⟩ := ih d2 hd2
      have ho : d2.own = none := by simpa using ho
      unfold Plc at k1
      rw [ho] at k1
      exact ⟨f2, fd2, d2.ps, k1.1, k1.2, k3, k4⟩
    · intro x c n hl
      obtain ⟨i, jj, h1, h2, rfl, rfl⟩ := clsT_in (lookup_in hl)
      obtain rfl : c = jj := by omega
      obtain ⟨ck, _⟩ := clsChk_at Z.ck h1
      unfold initChk at ck
      obtain ⟨d2, hd2, ck⟩ := List.any_eq_true.mp ck
      simp only [Bool.and_eq_true, beq_iff_eq, decide_eq_true_eq] at ck
      obtain ⟨q1, q2, q3, q4⟩ := ck
      rw [Nat.zero_add] at q2
      obtain ⟨f2, fd2, k1, k3, k4⟩ := ih d2 hd2
      unfold Plc at k1
      rw [q2] at k1
      dsimp only at k1
      rw [if_pos q3] at k1
      refine ⟨f2, fd2, d2.ps, (Z.cl.cl c i h1).2.1, k1, k3, ?_⟩
      have en : C.cname c = i.name := by
        show cnameOf CT c = _
        unfold cnameOf
        rw [h1]
      rw [en, ← q1, ← q4]
      exact k4
    · intro m ms n hl
      have hm := lookup_in hl
      refine ⟨fun c hc => ?_, ?_⟩
      · have hc : hasMOf CT c ms = true := hc
        unfold hasMOf at hc
        split at hc
        · rename_i i hi
          obtain ⟨_, ck⟩ := clsChk_at Z.ck hi
          have ck := ck _ hm
          unfold methChk at ck
          rw [hc, Bool.not_true, Bool.false_or] at ck
          obtain ⟨d2, hd2, ck⟩ := List.any_eq_true.mp ck
          simp only [Bool.and_eq_true, beq_iff_eq, decide_eq_true_eq, Bool.not_eq_true', decide_eq_false_iff_not] at ck
          obtain ⟨q1, q2, q3, q4, q5⟩ := ck
          rw [Nat.zero_add] at q2
          obtain ⟨f2, fd2, k1, k3, k4⟩ := ih d2 hd2
          unfold Plc at k1
          rw [q2] at k1
          dsimp only at k1
          rw [q3, if_neg q4] at k1
          refine ⟨f2, fd2, d2.ps, (Z.cl.cl c i hi).1, k1, k3, ?_⟩
          have en : C.cname c = i.name := by
            show cnameOf CT c = _
            unfold cnameOf
            rw [hi]
          rw [en, ← q1, ← q5]
          exact k4
        · cases hc
      · rcases List.mem_append.mp hm with hm | hm
        · exact .inl fun X' B => lmT_ok B hm
        · refine .inr fun a vs h => lmeth_no ?_ a vs h
          have := List.all_eq_true.mp Z.mt _ hm
          simpa using this
    · intro c f hc
      have hc : fldOf CT c f = true := hc
      unfold fldOf at hc
      split at hc
      · rename_i i hi
        obtain ⟨z1, _, z3⟩ := Z.cl.cl c i hi
        exact ⟨z1, z3 f (by simpa using hc)⟩
      · cases hc
  have p := cSs_ok (fun s r h => cS_ok rfl g 60 s r h) cmp
  refine ⟨_, p.nox, ?_⟩
  have hc : callD (tabOf D) (cfOf CT) (j + 1) d.q as h = body C d.N.length d.b as h := by
    show (match (tabOf D).lookup d.q with | some (n, b) => body { cfOf CT with call := callD (tabOf D) (cfOf CT) j } n b as | none => no) h = _
    rw [tab_at Z.nd hd]
  rw [hc] at e
  obtain ⟨fl, e5, hf⟩ := fo_body (D := { nx := fun _ H' => Q .non H', rt := Q }) e
  refine ⟨π, _, h, fl, h', ⟨?_, ?_, R⟩, e5, fun π' H' N R' => ?_⟩
  · unfold L2.start
    rw [e1, imL_len]
    show List.map some (as.map (im π)) ++ _ = List.map (imO π) (as.map some ++ List.replicate (d.N.length - as.length) none)
    rw [List.map_append, List.map_map, List.map_map, List.map_replicate]
    rfl
  · intro u hu
    rcases List.mem_append.mp hu with z | z
    · obtain ⟨x, hx, e⟩ := List.mem_map.mp z
      cases e
      exact e3 u hx
    · have := (List.mem_replicate.mp z).2
      cases this
  · rcases hf with ⟨e6, rfl, rfl⟩ | rfl
    · exact fun _ => q π' H' N R' trivial
    · exact q π' H' N R'
theorem defs_ok {P : Program} {w : World} {K : PySem.W.Frag} {mg : Str → Option Value} {base : Heap} {D : List Df} {CT : List Ci} {mt : List (Str × String × Nat)} {bns : List Str} {gls : List (Str × V)} {G : Gd} (Z : Tx0 K mg G D CT mt bns gls) : ∀ (j : Nat) (d : Df), d ∈ D →
    ∃ (f : Addr) (fd : FuncData), Plc K mg G d f ∧ Binds K fd d.ps [] ∧ FnG P w K mg base CX0 (2 * j) f fd d.ps (spH G d.ps.length (callD (tabOf D) (cfOf CT) j d.q)) := by
  intro j
  induction j with
  | zero =>
    intro d hd
    obtain ⟨f, fd, h1, F, h2⟩ := (Z.ok d hd).pl
    refine ⟨f, fd, h1, h2, ⟨fun vs H Q E ⟨π, h, as, v, h', e1, e2, _⟩ => ?_, fun A outer s H args us vs Q E _ _ _ _ _ ⟨π, h, as, v, h', e1, e2, e3, R, e, q⟩ => ?_⟩⟩
    · rw [e1, imL_len, e2]
    · exact (no_ok e).elim
  | succ j ih =>
    intro d hd
    obtain ⟨f, fd, h1, F, h2⟩ := (Z.ok d hd).pl
    exact ⟨f, fd, h1, h2, def_one Z j ih hd (Z.ok d hd).cmp (Z.ok d hd).scp F⟩
/-- the law's def -/
theorem law_fn {P : Program} {w : World} {K : PySem.W.Frag} {mg : Str → Option Value} {D : List Df} {CT : List Ci} {mt : List (Str × String × Nat)} {bns : List Str} {gls : List (Str × V)} {G : Gd} (Z : Tx0 K mg G D CT mt bns gls) (j : Nat)
    {d : Df} (hd : d ∈ D) {f : Addr} {fd : FuncData} (F : Fun K d.x d.q d.st f fd) (hn : d.ps.length = 1) : ∀ base : Heap, FnG P w K mg base CX0 (2 * j + 1 + 1) f fd d.ps (spH G 1 (callD (tabOf D) (cfOf CT) (j + 1) d.q)) := by
  intro base
  have := def_one (P := P) (w := w) (base := base) Z j (defs_ok Z j) hd (Z.ok d hd).cmp (Z.ok d hd).scp F
  rwa [hn] at this

/-! ### the law -/
/-- the heap in which no more than the script is told -/
def scriptH (t : Option Obj) (a : Addr) (xs : List V) : Hp := fun b => match t with
  | some o => if b = a then some (.frz o (.lst xs)) else none
  | none => none
theorem law_go {P : Program} {w : World} {K : PySem.W.Frag} {mg mb : Str → Option Value} {G : Gd} {k : Nat} {fa a : Addr} {fd : FuncData} {x : Str} {F : List V → Mo V} {s : Shared} {us : List Value} {ns : List Int} {hF : Hh}
    (hG : G.K = K) (kin : K.In s.heap) (hmg : s.heap.Ns mainGlobals mg) (hmb : s.heap.Ns builtinsNs mb) (boot : ∀ x : Str, x ≠ "__name__" → mb x = bootBuiltins x) (nl : s.heap.NoLimit) (ng : s.gens = #[])
    (hobj : s.heap.get? a = some { cls := .type "list", data := .seq us.toArray }) (hints : IntsAre us ns) (short : ns.length ≤ sizeLine) (room : Room k callerA)
    (fn : ∀ base : Heap, FnG P w K mg base CX0 k fa fd [x] (spH G 1 F)) (bind : ∀ (s : Shared) (u : Value), BindsTo s fd ⟨[u], []⟩ [(x, u)])
    (run : F [.ref 0] [.rol (ns.map V.int)] = some (.ok (.bl true), hF)) :
    codeAny (model P w) callerA (.call (.ref fa) ⟨[.ref a], []⟩) (fun r s' => r = .ok (.ret (.bool true)) ∧ OldK s.heap s'.heap ∧ s'.os = s.os ∧ AllBare s'.gens) s := by
  have vals := vals_ints hints
  have len := hints.length
  have nt : ∀ t : Option Obj, (t = none ∧ K.lookup a ≠ none) ∨ (t = some { cls := .type "list", data := .seq us.toArray } ∧ K.lookup a = none) →
      codeAny (model P w) callerA (.call (.ref fa) ⟨[.ref a], []⟩) (fun r s' => r = .ok (.ret (.bool true)) ∧ OldK s.heap s'.heap ∧ s'.os = s.os ∧ AllBare s'.gens) s := by
    intro t ht
    generalize hH : scriptH t a (ns.map V.int) = H
    -- what is told
    have told : ∀ b u, H b = some u → b = a ∧ u = .frz { cls := .type "list", data := .seq us.toArray } (.lst (ns.map V.int)) ∧ K.lookup a = none := by
      intro b u e
      subst hH
      unfold scriptH at e
      rcases ht with ⟨rfl, _⟩ | ⟨rfl, hk⟩
      · cases e
      · dsimp only at e
        split at e
        · rename_i hb
          cases e
          exact ⟨hb, rfl, hk⟩
        · cases e
    have hid : ∀ {b : Addr} {o : Obj}, s.heap.get? b = some o → b ≠ a ∨ K.lookup a ≠ none → (hidT s.heap H).get? b = some o := by
      intro b o e hb
      refine hidT_get e ?_
      cases q : H b with
      | none => rfl
      | some u =>
        obtain ⟨z1, _, z2⟩ := told b u q
        rcases hb with z | z
        · exact absurd z1 z
        · exact absurd z2 z
    have nsOf : ∀ {b : Addr} {m : Str → Option Value}, s.heap.Ns b m → (hidT s.heap H).Ns b m := by
      rintro b m ⟨o, es, ep, e, d, r⟩
      refine ⟨o, es, ep, hid e (.inl fun z => ?_), d, r⟩
      subst z
      rw [hobj] at e
      cases e
      have d' : Data.seq us.toArray _ = Data.dict es ep := d
      cases d'
    have kin' : K.In (hidT s.heap H) := by
      intro b o e
      by_cases hb : b = a
      · subst hb
        exact hid (kin _ o e) (.inr (by rw [e]; exact fun z => by cases z))
      · exact hid (kin b o e) (.inl hb)
    have md : Mod K mg (hidT s.heap H) := ⟨kin', nsOf hmg, ⟨mb, nsOf hmb, boot⟩, let ⟨mc, z1, z2⟩ := nl; ⟨mc, nsOf z1, z2⟩⟩
    have lay : HOk P w H s.heap := by
      intro b u e
      obtain ⟨rfl, rfl, _⟩ := told b u e
      exact ⟨hobj, by rw [List.length_map]; exact short, us, _, vals, hobj⟩
    have env : Env0 P w K mg (hidT s.heap H) callerA [] s H :=
      ⟨rfl, md, fun b o e => of_hidT e, Nat.le_of_eq (hidT_size _ _), trivial, fun b hb => absurd (show b ∈ ([] : List Addr) from hb) (by simp), lay, .of_eq ng⟩
    have hr : HR G (fun _ => a) [.rol (ns.map V.int)] H := by
      have ei : imL (fun _ => a) (ns.map V.int) = ns.map V.int := by
        show List.map _ (List.map _ _) = _
        rw [List.map_map]; rfl
      refine ⟨fun i o e => ?_, fun i o e => ?_, fun i j o u e1 e2 m1 m2 hj => ?_⟩
      · cases i with
        | zero =>
          cases e
          rcases ht with ⟨rfl, hk⟩ | ⟨rfl, _⟩
          · refine .inr ?_
            cases q : K.lookup a with
            | none => exact absurd q hk
            | some o =>
              have z := kin a o q
              rw [hobj] at z
              cases z
              refine ⟨_, us.toArray, _, by rw [hG]; exact q, rfl, fun _ => rfl, rfl, by rw [List.size_toArray, len]; exact short, ?_⟩
              rw [ei]
              simpa using vals
          · refine .inl ⟨{ cls := .type "list", data := .seq us.toArray }, ?_⟩
            rw [← hH, ei]
            exact if_pos rfl
        | succ i => cases e
      · cases i with
        | zero =>
          cases e
          intro v hv
          obtain ⟨n, _, rfl⟩ := List.mem_map.mp hv
          trivial
        | succ i => cases e
      · cases i with
        | zero => cases e1; cases m1
        | succ i => cases e1
    have sp : spH G 1 F [.ref a] H (fun v _ => v = .bl true) fun _ _ _ => False :=
      ⟨fun _ => a, _, [.ref 0], .bl true, hF, rfl, rfl, fun v hv => by rw [List.mem_singleton.mp hv]; exact Nat.zero_lt_one, hr, run, fun _ _ _ _ _ => rfl⟩
    refine codeAny_mono ((fn _).run callerA [] s H ⟨[.ref a], []⟩ [.ref a] [.ref a] _ _ rfl room env (bind s (.ref a)) (.cons rfl .nil) sp) fun r s' hq => ?_
    match r, hq with
    | .ok (.ret u), hq =>
      obtain ⟨v, H', os, bare, un, hok', r', q⟩ := hq
      obtain rfl : v = .bl true := q
      obtain rfl : u = Value.bool true := r'
      refine ⟨rfl, OldK.of_keep fun b o e => ?_, os, bare⟩
      cases q : H b with
      | none => exact un.keep b o e q (by intro z; exact absurd (show b ∈ ([] : List Addr) from z) (by simp)) (by simp)
      | some u =>
        obtain ⟨rfl, rfl, _⟩ := told b u q
        obtain ⟨z, _⟩ := hok' _ _ (un.frzs _ _ _ q)
        rw [hobj] at e
        cases e
        exact z
    | .error e, hq => exact hq.elim
  cases hk : K.lookup a with
  | some o => exact nt none (.inl ⟨rfl, by rw [hk]; exact fun z => by cases z⟩)
  | none => exact nt _ (.inr ⟨rfl, hk⟩)

/-- the goal that the head leaves -/
theorem walk_go {l : PySem.W.OpenLaw} {n k : Nat} {q : Program} {loose : List Str} {XP : (Str → Option Value) → Heap → Prop} {YP : World → Heap → Prop} {d : DefRec} {K : Params → PySem.W.Frag} {x : Str} {F : List V → Mo V}
    (hn : l.most = some n) (hn2 : n ≤ sizeLine) (hdf : d.params.defaults = []) (hr : Room k callerA)
    (hY : ∀ (w : World) (h : Heap), YP w h → (K w.params).In h)
    (fn : ∀ (w : World) (mg : Str → Option Value) (fa : Addr) (h : Heap), (K w.params).In h → h.Ns mainGlobals mg → mg d.name = some (.ref fa) →
      ∃ (fd : FuncData) (G : Gd), G.K = K w.params ∧ (∀ (s : Shared) (u : Value), BindsTo s fd ⟨[u], []⟩ [(x, u)]) ∧ ∀ base : Heap, FnG l.prog w (K w.params) mg base CX0 k fa fd [x] (spH G 1 F))
    (law : ∀ ns : List Int, ns.length ≤ n → ∃ h', F [.ref 0] [.rol (ns.map V.int)] = some (.ok (.bl true), h')) :
    PySem.W.WalkO q loose XP YP l.row.toRowW d [] (fun f vs => PySem.call f vs) := by
  refine Att.attach_call hn hdf fun w s₀ s₁ mg mb fa o pm cd doc a vs ns Gr Y ho hd hcd hmg hobj hints hlen hg => ?_
  have kin := hY w _ Y
  obtain ⟨fd, G, hG, hb, hF⟩ := fn w mg fa _ kin Gr.T.g hmg
  obtain ⟨h', e⟩ := law ns hlen
  exact law_go hG kin Gr.T.g Gr.T.b Gr.T.builtins Gr.T.nolimit hg hobj hints (Nat.le_trans hlen hn2) hr hF hb e
end HI

/-! the small language over data alone: a list that changes belongs to one name -/
namespace HI
open PySem L2

/-- what a name holds: data that nobody changes any more, or a list of its own -/
inductive Va | fz (d : PyData) | own (d : PyData) | rol (xs : List PyData)
/-- what a term comes to: such data, a new list, or the list of a name -/
inductive Re | fz (d : PyData) | own (d : PyData) | var (i : Nat) | rol (xs : List PyData)
abbrev Dn := List (Option Va)
abbrev Md (α : Type) := Dn → Option (α × Dn)
section
variable {α β : Type}
def mb (m : Md α) (f : α → Md β) : Md β := fun E => match m E with
  | some (a, E1) => f a E1
  | none => none
def mr (a : α) : Md α := fun E => some (a, E)
def mo (o : Option α) : Md α := fun E => o.map fun a => (a, E)
def mg (f : Dn → Option α) : Md α := fun E => (f E).map fun a => (a, E)
def mn : Md α := fun _ => none
end
def Va.d : Va → Option PyData
  | .fz d => some d
  | .own d => some d
  | .rol _ => none
def slotV (E : Dn) (i : Nat) : Option Va := match E[i]? with
  | some (some v) => some v
  | _ => none
def datO (E : Dn) : Re → Option PyData
  | .fz d => some d
  | .own d => some d
  | .var i => (slotV E i).bind Va.d
  | .rol _ => none
def dat (r : Re) : Md PyData := mg fun E => datO E r
def datR (r : Re) : Md PyData := match r with
  | .rol xs => mr (.list xs)
  | r => dat r
/-- given away: no more a list of its own -/
def frz (r : Re) : Md PyData := fun E => match r with
  | .fz d => some (d, E)
  | .own d => some (d, E)
  | .var i => match slotV E i with
    | some (.fz d) => some (d, E)
    | some (.own d) => some (d, E.set i (some (.fz d)))
    | _ => none
  | .rol _ => none
def frzs : List Re → Md (List PyData)
  | [] => mr []
  | r :: rs => mb (frz r) fun d => mb (frzs rs) fun ds => mr (d :: ds)
/-- taken by a name -/
def resv (r : Re) : Md Va := match r with
  | .own d => mr (.own d)
  | .rol xs => mr (.rol xs)
  | r => mb (frz r) fun d => mr (.fz d)
def resvs : List Re → Md (List Va)
  | [] => mr []
  | r :: rs => mb (resv r) fun d => mb (resvs rs) fun ds => mr (d :: ds)
def rdv (i : Nat) : Md Re := mg fun E => match slotV E i with
  | some (.fz d) => some (.fz d)
  | some (.own _) => some (.var i)
  | some (.rol xs) => some (.rol xs)
  | none => none
def vD : V → Option PyData
  | .non => some .none
  | .bl b => some (.bool b)
  | .int i => some (.int i)
  | .str s => some (.str s)
  | _ => none
def isNoneD : PyData → Bool
  | .none => true
  | _ => false
def isnB (b : Bool) : PyData → Option Bool
  | .bool a => some (decide (a = b))
  | _ => none
def isnD (x : PyData) : PyData → Option Bool
  | .none => some (isNoneD x)
  | .bool b => isnB b x
  | _ => none
def intD (o : Op2) : PyData → PyData → Option PyData
  | .int i, .int j => (intOp o i j).bind vD
  | _, _ => none
def eqP0 (x y : PyData) : Option Bool := if SeqAt.shaped x = true ∧ SeqAt.shaped y = true then some (PyData.eqv x y) else none
def eqP : PyData → PyData → Option Bool
  | .str s, .str t => some (decide (s = t))
  | x, y => eqP0 x y
def inP (x y : PyData) : Option Bool := if SeqAt.shaped x = true ∧ SeqAt.shaped y = true then (match y with | .list es => some (es.any fun z => PyData.eqv z x) | _ => none) else none
def addD : PyData → PyData → Option Re
  | .int i, .int j => some (.fz (.int (i + j)))
  | .str s, .str t => if s.length + t.length ≤ sizeLine then some (.fz (.str (s ++ t))) else none
  | .list xs, .list ys => if xs.length + ys.length ≤ sizeLine then some (.own (.list (xs ++ ys))) else none
  | .tuple xs, .tuple ys => if xs.length + ys.length ≤ sizeLine then some (.fz (.tuple (xs ++ ys))) else none
  | _, _ => none
def mulD : PyData → PyData → Option Re
  | .int i, .int j => (intD .mul (.int i) (.int j)).map .fz
  | .list xs, .int k => if (-(2 ^ 63) ≤ k ∧ k < 2 ^ 63) ∧ xs.length * k.toNat ≤ sizeLine then some (.own (.list (List.replicate k.toNat xs).flatten)) else none
  | .tuple xs, .int k => if (-(2 ^ 63) ≤ k ∧ k < 2 ^ 63) ∧ xs.length * k.toNat ≤ sizeLine then some (.fz (.tuple (List.replicate k.toNat xs).flatten)) else none
  | _, _ => none
def opD (o : Op2) (x y : PyData) : Option Re := match o with
  | .eq => (eqP x y).map fun b => .fz (.bool b)
  | .ne => (eqP x y).map fun b => .fz (.bool !b)
  | .in_ => (inP x y).map fun b => .fz (.bool b)
  | .notin => (inP x y).map fun b => .fz (.bool !b)
  | .is_ => (isnD x y).map fun b => .fz (.bool b)
  | .isnot => (isnD x y).map fun b => .fz (.bool !b)
  | .add => addD x y
  | .mul => mulD x y
  | o => (intD o x y).map .fz
def truD : PyData → Option Bool
  | .none => some false
  | .bool b => some b
  | .int i => some (i != 0)
  | .str y => if y.length ≤ sizeLine then some ((y.length : Int) != 0) else none
  | .list xs => some (!xs.isEmpty)
  | .tuple xs => some (!xs.isEmpty)
  | .dict _ => none
def indexD : PyData → PyData → Option PyData
  | .list xs, .int k => atI xs k
  | .tuple xs, .int k => atI xs k
  | .str z, .int k => if z.length ≤ sizeLine then (atI z.cps.toList k).map fun c => .str ⟨#[c]⟩ else none
  | _, _ => none
def cutD (xs : List PyData) (lo hi : Option Int) : List PyData := (xs.drop (HT.sIx xs.length 0 lo)).take (HT.sIx xs.length xs.length hi - HT.sIx xs.length 0 lo)
def sliceD (x : PyData) (lo hi : Option Int) : Option Re := match x with
  | .list xs => some (.own (.list (cutD xs lo hi)))
  | .tuple xs => if HT.sIx xs.length 0 lo = 0 ∧ HT.sIx xs.length xs.length hi = xs.length then none else some (.fz (.tuple (cutD xs lo hi)))
  | _ => none
/-- sorting by keys -/
def kItemsD (shape : Nat → Bool) : Nat → List PyData → Option (List Kit)
  | _, [] => some []
  | i, .int n :: r => if shape i = true then none else (kItemsD shape (i + 1) r).map (Sum.inl n :: ·)
  | i, .str x :: r => if shape i = true then (kItemsD shape (i + 1) r).map (Sum.inr x.cps.toList :: ·) else none
  | _, _ :: _ => none
def shapeD (k : List PyData) (i : Nat) : Bool := match k[i]? with | some (.str _) => true | _ => false
def keyD (shape : Nat → Bool) : PyData → Option (List Kit)
  | .tuple xs => kItemsD shape 0 xs
  | _ => none
def ltD (shape : Nat → Bool) (u v : PyData) : Bool := PyProof.Rows.lexLt PyProof.Rows.itemOrd ((keyD shape u).getD []) ((keyD shape v).getD [])
def ltID : PyData → PyData → Bool
  | .int i, .int j => decide (i < j)
  | _, _ => false
def isID : PyData → Bool
  | .int _ => true
  | _ => false
def hasKD (shape : Nat → Bool) (v : PyData) : Bool := match keyD shape v with | some (_ :: _) => true | _ => false
def sortD (xs : List PyData) : Option (List PyData) :=
  if xs.all isID = true then some (isort ltID xs)
  else match xs with
    | .tuple k :: _ => if xs.all (hasKD (shapeD k)) = true then some (isort (ltD (shapeD k)) xs) else none
    | _ => none
def lenD : PyData → Option PyData
  | .list xs => some (.int xs.length)
  | .tuple xs => some (.int xs.length)
  | .str z => if z.length ≤ sizeLine then some (.int z.length) else none
  | _ => none
def reprD (d : PyData) : Option PyData := if SeqAt.shaped d = true ∧ d.showable = true ∧ d.hasDict = false ∧ d.shown.length ≤ sizeLine then some (.str d.shown) else none
def boolL (xs : List PyData) : Option (List Bool) := xs.mapM fun x => match x with | .bool b => some b | _ => none
def intL (xs : List PyData) : Option (List Int) := xs.mapM fun x => match x with | .int i => some i | _ => none
def boolsD : PyData → Option (List Bool)
  | .list xs => boolL xs
  | _ => none
def intsD : PyData → Option (List Int)
  | .list xs => intL xs
  | _ => none
def tyD : PyData → Option String
  | .none => some "NoneType"
  | .bool _ => some "bool"
  | .int _ => some "int"
  | .str _ => some "str"
  | .list _ => some "list"
  | .tuple _ => some "tuple"
  | .dict _ => none
def isD (t : String) (x : PyData) : Option Re := (tyD x).map fun s => .fz (.bool (subTy s t))
def bfnD (f : String) (vs : List PyData) : Option Re := match vs with
  | [x] => match f with
    | "len" => (lenD x).map .fz
    | "abs" => match x with | .int i => some (.fz (.int (if i < 0 then -i else i))) | _ => none
    | "int" => match x with | .int i => some (.fz (.int i)) | .bool b => some (.fz (.int (if b then 1 else 0))) | _ => none
    | "tuple" => match x with | .list xs => some (.fz (.tuple xs)) | .tuple xs => some (.fz (.tuple xs)) | _ => none
    | "list" => match x with | .list xs => some (.own (.list xs)) | .tuple xs => some (.own (.list xs)) | _ => none
    | "repr" => (reprD x).map .fz
    | "sorted" => match x with | .list xs => (sortD xs).map fun ys => .own (.list ys) | _ => none
    | "all" => (boolsD x).map fun bs => .fz (.bool (bs.all id))
    | "any" => (boolsD x).map fun bs => .fz (.bool (bs.any id))
    | "sum" => (intsD x).map fun ns => .fz (.int ns.sum)
    | "max" => ((intsD x).bind maxI).map fun m => .fz (.int m)
    | "min" => ((intsD x).bind minI).map fun m => .fz (.int m)
    | "[::-1]" => match x with | .list xs => some (.own (.list xs.reverse)) | _ => none
    | "is int" => isD "int" x
    | "is bool" => isD "bool" x
    | "is list" => isD "list" x
    | "is tuple" => isD "tuple" x
    | "is str" => isD "str" x
    | _ => none
  | [.int i, .int j] => match f with
    | "max" => some (.fz (.int (if j > i then j else i)))
    | "min" => some (.fz (.int (if j < i then j else i)))
    | _ => none
  | [.list xs, .list ys] => match f with
    | "sortzip" => (sortD (List.zipWith (fun x y => .tuple [x, y]) xs ys)).map fun zs => .own (.list zs)
    | _ => none
  | _ => none
def lmethD (m : String) (xs : List PyData) (vs : List PyData) : Option (List PyData) := match m, vs with
  | "append", [y] => if xs.length < sizeLine then some (xs ++ [y]) else none
  | "insert", [.int i, y] => if xs.length < sizeLine ∧ 0 ≤ i ∧ i < 2 ^ 63 then some (xs.take i.toNat ++ [y] ++ xs.drop i.toNat) else none
  | "clear", [] => some []
  | "reverse", [] => some xs.reverse
  | _, _ => none
/-- a name's list, changed -/
def modV (i : Nat) (f : PyData → Option PyData) : Md Unit := fun E => match slotV E i with
  | some (.own d) => (f d).map fun d' => ((), E.set i (some (.own d')))
  | _ => none
def setD (k : PyData) (d : PyData) (x : PyData) : Option PyData := match k, x with
  | .int k, .list xs => (ixN xs.length k).map fun j => .list (xs.set j d)
  | _, _ => none
def lmethL (ms : String) (ds : List PyData) : PyData → Option PyData
  | .list xs => (lmethD ms xs ds).map .list
  | _ => none
/-! ### instances -/
def encF : List (Str × PyData) → List (PyData × PyData)
  | [] => []
  | (f, d) :: r => (.str f, d) :: encF r
def insD (c : Nat) (fs : List (Str × PyData)) : PyData := .dict ((.none, .int c) :: encF fs)
def decF : List (PyData × PyData) → Option (List (Str × PyData))
  | [] => some []
  | (.str f, d) :: r => (decF r).map fun z => (f, d) :: z
  | _ => none
def insOf : PyData → Option (Nat × List (Str × PyData))
  | .dict ((.none, .int (.ofNat c)) :: r) => (decF r).map fun z => (c, z)
  | _ => none
def putD (f : Str) (d : PyData) : List (Str × PyData) → List (Str × PyData)
  | [] => [(f, d)]
  | (g, e) :: r => if g = f then (g, d) :: r else (g, e) :: putD f d r

/-! ### walks -/
inductive Src | fz (xs : List PyData) | var (i n : Nat)
inductive Wd | seq (s : Src) | rng (lo : Int) (n : Nat) | enum (s : Src) | zip (s t : Src)
def Src.n : Src → Nat | .fz xs => xs.length | .var _ n => n
def Wd.n : Wd → Nat | .seq s => s.n | .rng _ n => n | .enum s => s.n | .zip s t => min s.n t.n
def Src.vars : Src → List Nat | .fz _ => [] | .var i _ => [i]
def Wd.vars : Wd → List Nat | .seq s => s.vars | .rng _ _ => [] | .enum s => s.vars | .zip s t => s.vars ++ t.vars
def Src.now (E : Dn) : Src → Option (List PyData)
  | .fz xs => some xs
  | .var j n => match (slotV E j).bind Va.d with
    | some (.list xs) => if xs.length = n then some xs else none
    | _ => none
def Src.at (E : Dn) (s : Src) (i : Nat) : Option PyData := match s.now E with
  | some xs => xs[i]?
  | none => none
def Wd.at (w : Wd) (i : Nat) (E : Dn) : Option PyData := match w with
  | .seq s => s.at E i
  | .rng lo n => if i < n then some (.int (lo + i)) else none
  | .enum s => (s.at E i).map fun x => .tuple [.int (i : Nat), x]
  | .zip s t => (s.at E i).bind fun x => (t.at E i).map fun y => .tuple [x, y]
def Wd.ends (w : Wd) (E : Dn) : Bool := match w with
  | .seq s => (s.now E).isSome
  | .rng _ _ => true
  | .enum s => (s.now E).isSome
  | .zip s t => (s.now E).isSome && (t.now E).isSome
/-- data to names -/
def setsD : List Nat → List PyData → Dn → Option Dn
  | [], [], E => some E
  | i :: is, d :: ds, E => setsD is ds (E.set i (some (.fz d)))
  | _, _, _ => none
def asgD (t : Tg) (d : PyData) (E : Dn) : Option Dn := match t with
  | .nm i => some (E.set i (some (.fz d)))
  | .tp is => match d with
    | .tuple ds => setsD is ds E
    | _ => none
def mset (f : Dn → Option Dn) : Md Unit := fun E => (f E).map fun E1 => ((), E1)
def wipeD (E : Dn) : List Nat → Dn
  | [] => E
  | v :: vs => (wipeD E vs).set v none
/-- the names of own as they were -/
def backD (E0 E : Dn) : List Nat → Dn
  | [] => E
  | v :: vs => match E0[v]? with
    | some o => (backD E0 E vs).set v o
    | none => backD E0 E vs
def compGoD (w : Wd) (own : List Nat) (t : Tg) (c : Md Bool) (el : Md Re) : Nat → Nat → List PyData → Md (List PyData)
  | 0, _, acc => fun E => if w.ends E then some (acc, E) else none
  | n + 1, i, acc => mb (mg (w.at i)) fun d => mb (mset (asgD t d)) fun _ => mb c fun b =>
    if b then mb el fun r => mb (frz r) fun y => if acc.length < sizeLine then mb (mset fun E => some (wipeD E own)) fun _ => compGoD w own t c el n (i + 1) (acc ++ [y]) else mn
    else mb (mset fun E => some (wipeD E own)) fun _ => compGoD w own t c el n (i + 1) acc
def tsl : Tg → List Nat
  | .nm i => [i]
  | .tp is => is
def compD (w : Wd) (own : List Nat) (t : Tg) (c : Md Bool) (el : Md Re) : Md Re := fun E =>
  if (tsl t).all (fun i => decide (i ∈ own)) = true ∧ (w.vars.all fun i => !decide (i ∈ own)) = true then
    match compGoD w own t c el w.n 0 [] (wipeD E own) with
    | some (acc, E1) => some (.own (.list acc), backD E E1 own)
    | none => none
  else none

structure DC where
  call : String → List Va → Option (Re × List (Option Va))
  I : List Ci
def resO (E : Dn) : Re → Option Va
  | .fz d => some (.fz d)
  | .own d => some (.own d)
  | .var i => slotV E i
  | .rol xs => some (.rol xs)
def resL (E : Dn) : List Re → Option (List Va)
  | [] => some []
  | r :: rs => (resO E r).bind fun v => (resL E rs).map fun vs => v :: vs
def varsOf : List Re → List Nat
  | [] => []
  | .var i :: r => i :: varsOf r
  | _ :: r => varsOf r
/-- the names' lists after the call -/
def outAt : List Re → List (Option Va) → Nat → Option (Option Va)
  | .var i :: rs, o :: os, k => if i = k then some o else outAt rs os k
  | _ :: rs, _ :: os, k => outAt rs os k
  | _, _, _ => none
def outV (rs : List Re) (os : List (Option Va)) (k : Nat) (o : Option Va) : Option Va := match o with
  | some (.own d) => (match outAt rs os k with
    | some o' => o'
    | none => some (.own d))
  | o => o
def outs (rs : List Re) (os : List (Option Va)) (E : Dn) : Dn := E.mapIdx (outV rs os)
def nodupB : List Nat → Bool
  | [] => true
  | x :: r => !r.contains x && nodupB r
def callR (C : DC) (f : String) (rs : List Re) : Md Re := fun E =>
  if nodupB (varsOf rs) = true then
    match resL E rs with
    | some vs => match C.call f vs with
      | some (r, os) => match r with
        | .var _ => none
        | .rol _ => none
        | r => some (r, outs rs os E)
      | none => none
    | none => none
  else none
/-- a new instance -/
def mkR (C : DC) (c : Nat) (rs : List Re) : Md Re := fun E =>
  if nodupB (varsOf rs) = true then
    match resL E rs with
    | some vs => match C.call (cnameOf C.I c ++ ".__init__") (.own (insD c []) :: vs) with
      | some (.fz .none, some (.own d) :: os) => some (.own d, outs rs os E)
      | some (.fz .none, some (.fz d) :: os) => some (.fz d, outs rs os E)
      | _ => none
    | none => none
  else none
/-- what a method is asked of: a name's list, an instance -/
def recvI (m : Str) (d : PyData) : Option (Nat ⊕ Nat) := match insOf d with
  | some (c, fs) => if fs.lookup m = none then some (.inr c) else none
  | none => none
def recvD (m : Str) (E : Dn) : Re → Option (Nat ⊕ Nat)
  | .fz d => recvI m d
  | .own d => recvI m d
  | .var i => match slotV E i with
    | some (.own (.list _)) => some (.inl i)
    | some (.own d) => recvI m d
    | some (.fz d) => recvI m d
    | _ => none
  | .rol _ => none
def fldD (I : List Ci) (f : Str) (d : PyData) : Option PyData := match insOf d with
  | some (c, fs) => if fldOf I c f = true then fs.lookup f else none
  | none => none
def setFD (I : List Ci) (f : Str) (v : PyData) (d : PyData) : Option PyData := match insOf d with
  | some (c, fs) => if fldOf I c f = true ∧ fs.length < 1000 then some (insD c (putD f v fs)) else none
  | none => none
def intP : PyData → Option Int
  | .int i => some i
  | _ => none
def srcR (tup : Bool) (r : Re) : Md Src := fun E => match r with
  | .fz (.list xs) => some (.fz xs, E)
  | .fz (.tuple xs) => if tup then some (.fz xs, E) else none
  | .own (.list xs) => some (.fz xs, E)
  | .rol xs => some (.fz xs, E)
  | .var i => match (slotV E i).bind Va.d with
    | some (.list xs) => some (.var i xs.length, E)
    | _ => none
  | _ => none
def rngD (i j : Int) : Option Wd := if (-(2 ^ 62) ≤ i ∧ i < 2 ^ 62) ∧ -(2 ^ 62) ≤ j ∧ j < 2 ^ 62 then some (.rng i (j - i).toNat) else none
def testD (m : Md Re) : Md Bool := mb m fun r => mb (dat r) fun d => mo (truD d)
def partD (b : Bool) (m : Md Re) : Md (Option Int) := if b then mb m fun r => mb (dat r) fun d => mb (mo (intP d)) fun i => mr (some i) else mr none
def dats : List Re → Md (List PyData)
  | [] => mr []
  | r :: rs => mb (dat r) fun d => mb (dats rs) fun ds => mr (d :: ds)
def chk (n : Nat) : Md Unit := if n ≤ sizeLine then mr () else mn

mutual
def evD (C : DC) : Ex → Md Re
  | .slot i => rdv i
  | .cst v => mo ((vD v).map .fz)
  | .glob _ => mn
  | .bin o a b => mb (evD C a) fun x => mb (evD C b) fun y => mb (dat x) fun dx => mb (dat y) fun dy => mo (opD o dx dy)
  | .neg a => mb (evD C a) fun x => mb (dat x) fun d => mb (mo (intP d)) fun i => mr (.fz (.int (-i)))
  | .not a => mb (testD (evD C a)) fun b => mr (.fz (.bool !b))
  | .and a b => mb (evD C a) fun x => mb (dat x) fun d => mb (mo (truD d)) fun k => if k then evD C b else mr x
  | .or a b => mb (evD C a) fun x => mb (dat x) fun d => mb (mo (truD d)) fun k => if k then mr x else evD C b
  | .chain o p a b c => mb (evD C a) fun x => mb (evD C b) fun y => mb (dat x) fun dx => mb (dat y) fun dy => mb (mo (opD o dx dy)) fun r => match r with
    | .fz (.bool true) => mb (evD C c) fun z => mb (dat y) fun dy => mb (dat z) fun dz => mo (opD p dy dz)
    | .fz (.bool false) => mr (.fz (.bool false))
    | _ => mn
  | .ite c a b => mb (testD (evD C c)) fun k => if k then evD C a else evD C b
  | .tup es => mb (evsD C es) fun rs => mb (frzs rs) fun ds => mb (chk ds.length) fun _ => mr (.fz (.tuple ds))
  | .lst es => mb (evsD C es) fun rs => mb (frzs rs) fun ds => mb (chk ds.length) fun _ => mr (.own (.list ds))
  | .idx a i => mb (evD C a) fun x => mb (evD C i) fun y => mb (datR x) fun dx => mb (dat y) fun dy => mo ((indexD dx dy).map .fz)
  | .slc a bl lo bh hi => mb (evD C a) fun x => mb (partD bl (evD C lo)) fun l => mb (partD bh (evD C hi)) fun u => mb (datR x) fun d => mo (sliceD d l u)
  | .call f es => mb (evsD C es) fun rs => callR C f rs
  | .bcall f es => mb (evsD C es) fun rs => mb (dats rs) fun ds => mo (bfnD f ds)
  | .mk c es => mb (evsD C es) fun rs => mkR C c rs
  | .meth m ms o es => mb (evD C o) fun r => mb (mg fun E => recvD m E r) fun k => match k with
    | .inl i => mb (evsD C es) fun rs => mb (frzs rs) fun ds => mb (modV i (lmethL ms ds)) fun _ => mr (.fz .none)
    | .inr c => if hasMOf C.I c ms = true then mb (evsD C es) fun rs => callR C (cnameOf C.I c ++ "." ++ ms) (r :: rs) else mn
  | .fld o f => mb (evD C o) fun r => mb (dat r) fun d => mo ((fldD C.I f d).map .fz)
  | .comp own t it c el => mb (evID C it) fun w => compD w own t (testD (evD C c)) (evD C el)
def evsD (C : DC) : Exs → Md (List Re)
  | .nil => mr []
  | .cons a r => mb (evD C a) fun x => mb (evsD C r) fun xs => mr (x :: xs)
def evID (C : DC) : It → Md Wd
  | .seq a => mb (evD C a) fun x => mb (srcR true x) fun s => mr (.seq s)
  | .rng1 a => mb (evD C a) fun x => mb (dat x) fun d => mb (mo (intP d)) fun j => mo (rngD 0 j)
  | .rng2 a b => mb (evD C a) fun x => mb (evD C b) fun y => mb (dat x) fun d => mb (dat y) fun e => mb (mo (intP d)) fun i => mb (mo (intP e)) fun j => mo (rngD i j)
  | .enum a => mb (evD C a) fun x => mb (srcR false x) fun s => mr (.enum s)
  | .zip a b => mb (evD C a) fun x => mb (evD C b) fun y => mb (srcR false x) fun s => mb (srcR false y) fun t => mr (.zip s t)
end

inductive Fd | nx | rt (r : Re) | bk | ct
/-- a value to a name; the lists of the caller stay with their names -/
def stoD (P : List Nat) (i : Nat) (v : Va) : Md Unit := if i ∈ P then mn else mset fun E => if i < E.length then some (E.set i (some v)) else none
def stosD (P : List Nat) : List Nat → List Va → Md Unit
  | [], [] => mr ()
  | i :: is, v :: vs => mb (stoD P i v) fun _ => stosD P is vs
  | _, _ => mn
def asgR (P : List Nat) (t : Tg) (r : Re) : Md Unit := match t with
  | .nm i => mb (resv r) fun v => stoD P i v
  | .tp is => match r with
    | .fz (.tuple ds) => stosD P is (ds.map .fz)
    | _ => mn
def asgP (P : List Nat) (t : Tg) (d : PyData) : Md Unit := asgR P t (.fz d)
def forD (w : Wd) (P : List Nat) (t : Tg) (body : Md Fd) : Nat → Nat → Md Fd
  | 0, _ => fun E => if w.ends E then some (.nx, E) else none
  | n + 1, i => mb (mg (w.at i)) fun d => mb (asgP P t d) fun _ => mb body fun f => match f with
    | .nx => forD w P t body n (i + 1)
    | .ct => forD w P t body n (i + 1)
    | .bk => mr .nx
    | .rt r => mr (.rt r)
def whileD (c : Md Bool) (body : Md Fd) : Nat → Md Fd
  | 0 => mn
  | n + 1 => mb c fun k => if k then mb body fun f => match f with
      | .nx => whileD c body n
      | .ct => whileD c body n
      | .bk => mr .nx
      | .rt r => mr (.rt r)
    else mr .nx
def varR (r : Re) : Option Nat := match r with
  | .var i => some i
  | _ => none
def atV (E : Dn) (j : Nat) (k : PyData) : Option PyData := match slotV E j with
  | some (.own (.list xs)) => indexD (.list xs) k
  | _ => none
mutual
def exD (C : DC) (P : List Nat) : Sm → Md Fd
  | .asg t a => mb (evD C a) fun r => mb (asgR P t r) fun _ => mr .nx
  | .asgSub o i a => mb (evD C a) fun r => mb (evD C o) fun q => mb (evD C i) fun y => mb (mo (varR q)) fun j => mb (dat y) fun k => mb (frz r) fun d => mb (modV j (setD k d)) fun _ => mr .nx
  | .asgFld o f a => mb (evD C a) fun r => mb (evD C o) fun q => mb (mo (varR q)) fun j => mb (frz r) fun d => mb (modV j (setFD C.I f d)) fun _ => mr .nx
  | .aug i o a => mb (mg fun E => match slotV E i with | some (.fz d) => some d | _ => none) fun x => mb (evD C a) fun r => mb (dat r) fun y => mb (mo (intD o x y)) fun v => mb (stoD P i (.fz v)) fun _ => mr .nx
  | .augSub o i op a => mb (evD C o) fun q => mb (evD C i) fun y => mb (mo (varR q)) fun j => mb (dat y) fun k => mb (mg fun E => atV E j k) fun x =>
      mb (evD C a) fun r => mb (dat r) fun z => mb (mo (intD op x z)) fun v => mb (modV j (setD k v)) fun _ => mr .nx
  | .ex a => mb (evD C a) fun _ => mr .nx
  | .ite c a b => mb (testD (evD C c)) fun k => if k then exsD C P a else exsD C P b
  | .for_ t it b => mb (evID C it) fun w => forD w (w.vars ++ P) t (exsD C (w.vars ++ P) b) w.n 0
  | .while_ n c b => whileD (testD (evD C c)) (exsD C P b) n
  | .par is es => mb (evsD C es) fun rs => mb (resvs rs) fun vs => mb (stosD P is vs) fun _ => mr .nx
  | .ret a => mb (evD C a) fun r => mr (.rt r)
  | .brk => mr .bk
  | .cont => mr .ct
  | .pass => mr .nx
  | .never => mn
def exsD (C : DC) (P : List Nat) : Sms → Md Fd
  | .nil => mr .nx
  | .cons s r => mb (exD C P s) fun f => match f with
    | .nx => exsD C P r
    | f => mr f
end
/-- the arguments that are lists of the caller's names -/
def ownIx : Nat → List Va → List Nat
  | _, [] => []
  | i, .own _ :: r => i :: ownIx (i + 1) r
  | i, _ :: r => ownIx (i + 1) r
def retD (P : List Nat) (r : Re) : Md Re := match r with
  | .var i => if i ∈ P then mb (frz (.var i)) fun d => mr (.fz d) else fun E => match slotV E i with
    | some (.own d) => some (.own d, E.set i none)
    | some (.fz d) => some (.fz d, E)
    | _ => none
  | r => mr r
def bodyD (C : DC) (n : Nat) (b : Sms) (vs : List Va) : Option (Re × List (Option Va)) :=
  let P := ownIx 0 vs
  match (mb (exsD C P b) fun f => match f with
    | .nx => mr (.fz .none)
    | .rt r => retD P r
    | _ => mn) (vs.map some ++ List.replicate (n - vs.length) none) with
  | some (r, E) => some (r, (E.take vs.length).mapIdx fun j o => if j ∈ P then o else none)
  | none => none
/-- a program: its defs, its classes -/
structure Pr where
  D : List (String × Nat × Sms)
  I : List Ci
def Pr.lookup (T : Pr) (q : String) : Option (Nat × Sms) := T.D.lookup q
def callDD (T : Pr) : Nat → String → List Va → Option (Re × List (Option Va))
  | 0, _, _ => none
  | k + 1, q, vs => match T.lookup q with
    | some (n, b) => bodyD ⟨callDD T k, T.I⟩ n b vs
    | none => none
end HI

set_option maxRecDepth 100000
set_option maxHeartbeats 4000000
/-! data in a heap; what no step disturbs -/
namespace HI
open PySem L2

abbrev Av := Nat → Prop
theorem lt_of_get {h : Hh} {b : Nat} {o : Ob} (e : h[b]? = some o) : b < h.length := by
  rcases Nat.lt_or_ge b h.length with z | z
  · exact z
  · rw [List.getElem?_eq_none z] at e; cases e
mutual
/-- v reads as this data, and no list on the way is one that may change -/
def Fz (h : Hh) (A : Av) : PyData → V → Prop
  | .none, v => v = .non
  | .bool b, v => v = .bl b
  | .int i, v => v = .int i
  | .str s, v => v = .str s
  | .list ds, v => ∃ (a : Nat) (xs : List V), v = .ref a ∧ h[a]? = some (.lst xs) ∧ ¬ A a ∧ FzL h A ds xs
  | .tuple ds, v => ∃ a xs, v = .ref a ∧ seqT h a = some xs ∧ FzL h A ds xs
  | .dict kvs, v => ∃ (a : Nat) (c : Nat) (fs : List (Str × V)), v = .ref a ∧ h[a]? = some (.ins c fs) ∧ ¬ A a ∧ FzI h A c kvs fs
def FzL (h : Hh) (A : Av) : List PyData → List V → Prop
  | [], xs => xs = []
  | d :: ds, xs => ∃ x r, xs = x :: r ∧ Fz h A d x ∧ FzL h A ds r
def FzI (h : Hh) (A : Av) (c : Nat) : List (PyData × PyData) → List (Str × V) → Prop
  | [], _ => False
  | (k, x) :: r, fs => k = .none ∧ x = .int c ∧ FzF h A r fs
def FzF (h : Hh) (A : Av) : List (PyData × PyData) → List (Str × V) → Prop
  | [], fs => fs = []
  | (k, d) :: r, fs => ∃ f x fr, fs = (f, x) :: fr ∧ k = .str f ∧ Fz h A d x ∧ FzF h A r fr
end
/-- the object of a thing that may change -/
def Cn (h : Hh) (A : Av) : PyData → Ob → Prop
  | .list ds, o => ∃ xs, o = .lst xs ∧ FzL h A ds xs
  | .dict kvs, o => ∃ c fs, o = .ins c fs ∧ FzI h A c kvs fs
  | _, _ => False
/-- what was read reads so still -/
structure Ok (h : Hh) (A : Av) (h' : Hh) (A' : Av) : Prop where
  l : ∀ (b : Nat) (o : Ob), h[b]? = some o → Mu o = true → ¬ A b → h'[b]? = some o ∧ ¬ A' b
  t : ∀ b xs, seqT h b = some xs → seqT h' b = some xs
  r : ∀ (b : Nat) (xs : List V), h[b]? = some (.rol xs) → h'[b]? = some (.rol xs)
mutual
theorem Fz.ok {h h' : Hh} {A A' : Av} (k : Ok h A h' A') : ∀ (d : PyData) (v : V), Fz h A d v → Fz h' A' d v
  | .none, v, z => by simpa only [Fz] using z
  | .bool b, v, z => by simpa only [Fz] using z
  | .int i, v, z => by simpa only [Fz] using z
  | .str s, v, z => by simpa only [Fz] using z
  | .list ds, v, z => by
    simp only [Fz] at z ⊢
    obtain ⟨a, xs, e, s, na, r⟩ := z
    exact ⟨a, xs, e, (k.l a _ s rfl na).1, (k.l a _ s rfl na).2, FzL.ok k ds xs r⟩
  | .tuple ds, v, z => by
    simp only [Fz] at z ⊢
    obtain ⟨a, xs, e, s, r⟩ := z
    exact ⟨a, xs, e, k.t a xs s, FzL.ok k ds xs r⟩
  | .dict kvs, v, z => by
    simp only [Fz] at z ⊢
    obtain ⟨a, c, fs, e, s, na, r⟩ := z
    exact ⟨a, c, fs, e, (k.l a _ s rfl na).1, (k.l a _ s rfl na).2, FzI.ok k c kvs fs r⟩
theorem FzL.ok {h h' : Hh} {A A' : Av} (k : Ok h A h' A') : ∀ (ds : List PyData) (xs : List V), FzL h A ds xs → FzL h' A' ds xs
  | [], xs, z => by simpa only [FzL] using z
  | d :: ds, xs, z => by
    simp only [FzL] at z ⊢
    obtain ⟨x, r, e, f, g⟩ := z
    exact ⟨x, r, e, Fz.ok k d x f, FzL.ok k ds r g⟩
theorem FzI.ok {h h' : Hh} {A A' : Av} (k : Ok h A h' A') (c : Nat) : ∀ (ds : List (PyData × PyData)) (xs : List (Str × V)), FzI h A c ds xs → FzI h' A' c ds xs
  | [], xs, z => by simp only [FzI] at z
  | (k0, x) :: r, xs, z => by
    simp only [FzI] at z ⊢
    exact ⟨z.1, z.2.1, FzF.ok k r xs z.2.2⟩
theorem FzF.ok {h h' : Hh} {A A' : Av} (k : Ok h A h' A') : ∀ (ds : List (PyData × PyData)) (xs : List (Str × V)), FzF h A ds xs → FzF h' A' ds xs
  | [], xs, z => by simpa only [FzF] using z
  | (k0, d) :: r, xs, z => by
    simp only [FzF] at z ⊢
    obtain ⟨f, x, fr, e1, e2, g1, g2⟩ := z
    exact ⟨f, x, fr, e1, e2, Fz.ok k d x g1, FzF.ok k r fr g2⟩
end
theorem Cn.ok {h h' : Hh} {A A' : Av} (k : Ok h A h' A') {d : PyData} {o : Ob} (z : Cn h A d o) : Cn h' A' d o := by
  cases d with
  | list ds =>
    obtain ⟨xs, e, r⟩ := z
    exact ⟨xs, e, FzL.ok k ds xs r⟩
  | dict kvs =>
    obtain ⟨c, fs, e, r⟩ := z
    exact ⟨c, fs, e, FzI.ok k c kvs fs r⟩
  | _ => exact z.elim
theorem Cn.mu {h : Hh} {A : Av} {d : PyData} {o : Ob} (z : Cn h A d o) : Mu o = true := by
  cases d with
  | list ds =>
    obtain ⟨xs, rfl, r⟩ := z
    rfl
  | dict kvs =>
    obtain ⟨c, fs, rfl, r⟩ := z
    rfl
  | _ => exact z.elim
theorem Cn.fz {h : Hh} {A : Av} {d : PyData} {o : Ob} {a : Nat} (z : Cn h A d o) (g : h[a]? = some o) (na : ¬ A a) : Fz h A d (.ref a) := by
  cases d with
  | list ds =>
    obtain ⟨xs, rfl, r⟩ := z
    simp only [Fz]
    exact ⟨a, xs, rfl, g, na, r⟩
  | dict kvs =>
    obtain ⟨c, fs, rfl, r⟩ := z
    simp only [Fz]
    exact ⟨a, c, fs, rfl, g, na, r⟩
  | _ => exact z.elim
theorem Ok.mono {h : Hh} {A A' : Av} (m : ∀ b, A' b → A b) : Ok h A h A' := ⟨fun b xs e _ n => ⟨e, fun z => n (m b z)⟩, fun b xs e => e, fun b xs e => e⟩
section
variable {h : Hh} {A : Av}
theorem FzL.nil : FzL h A [] [] := by simp only [FzL]
theorem FzL.cons {d : PyData} {ds : List PyData} {x : V} {xs : List V} (a : Fz h A d x) (b : FzL h A ds xs) : FzL h A (d :: ds) (x :: xs) := by
  simp only [FzL]; exact ⟨x, xs, rfl, a, b⟩
theorem FzL.iff : ∀ {ds : List PyData} {xs : List V}, FzL h A ds xs ↔ ∃ ps : List (PyData × V), ds = ps.map (·.1) ∧ xs = ps.map (·.2) ∧ ∀ p ∈ ps, Fz h A p.1 p.2
  | [], xs => by
    simp only [FzL]
    constructor
    · rintro rfl; exact ⟨[], rfl, rfl, fun _ z => nomatch z⟩
    · rintro ⟨ps, e, rfl, _⟩
      cases ps with
      | nil => rfl
      | cons p r => cases e
  | d :: ds, xs => by
    simp only [FzL]
    constructor
    · rintro ⟨x, r, rfl, f, g⟩
      obtain ⟨ps, rfl, rfl, k⟩ := FzL.iff.mp g
      refine ⟨(d, x) :: ps, rfl, rfl, fun p hp => ?_⟩
      rcases List.mem_cons.mp hp with rfl | hp
      · exact f
      · exact k p hp
    · rintro ⟨ps, e, rfl, k⟩
      cases ps with
      | nil => cases e
      | cons p r =>
        cases e
        exact ⟨p.2, r.map (·.2), rfl, k p List.mem_cons_self, FzL.iff.mpr ⟨r, rfl, rfl, fun q hq => k q (List.mem_cons_of_mem _ hq)⟩⟩
theorem FzL.len {ds : List PyData} {xs : List V} (r : FzL h A ds xs) : ds.length = xs.length := by
  obtain ⟨ps, rfl, rfl, _⟩ := FzL.iff.mp r
  rw [List.length_map, List.length_map]
theorem FzL.get {ds : List PyData} {xs : List V} (r : FzL h A ds xs) {i : Nat} {d : PyData} (e : ds[i]? = some d) : ∃ x, xs[i]? = some x ∧ Fz h A d x := by
  obtain ⟨ps, rfl, rfl, k⟩ := FzL.iff.mp r
  rw [List.getElem?_map] at e
  obtain ⟨p, hp, rfl⟩ := Option.map_eq_some_iff.mp e
  exact ⟨p.2, by rw [List.getElem?_map, hp]; rfl, k p (List.mem_of_getElem? hp)⟩
theorem FzL.app {ds es : List PyData} {xs ys : List V} (r : FzL h A ds xs) (s : FzL h A es ys) : FzL h A (ds ++ es) (xs ++ ys) := by
  obtain ⟨ps, rfl, rfl, k⟩ := FzL.iff.mp r
  obtain ⟨qs, rfl, rfl, l⟩ := FzL.iff.mp s
  refine FzL.iff.mpr ⟨ps ++ qs, by rw [List.map_append], by rw [List.map_append], fun p hp => ?_⟩
  exact (List.mem_append.mp hp).elim (k p) (l p)
theorem FzL.drop {ds : List PyData} {xs : List V} (r : FzL h A ds xs) (n : Nat) : FzL h A (ds.drop n) (xs.drop n) := by
  obtain ⟨ps, rfl, rfl, k⟩ := FzL.iff.mp r
  exact FzL.iff.mpr ⟨ps.drop n, by rw [List.map_drop], by rw [List.map_drop], fun p hp => k p (List.mem_of_mem_drop hp)⟩
theorem FzL.take {ds : List PyData} {xs : List V} (r : FzL h A ds xs) (n : Nat) : FzL h A (ds.take n) (xs.take n) := by
  obtain ⟨ps, rfl, rfl, k⟩ := FzL.iff.mp r
  exact FzL.iff.mpr ⟨ps.take n, by rw [List.map_take], by rw [List.map_take], fun p hp => k p (List.mem_of_mem_take hp)⟩
theorem FzL.set {ds : List PyData} {xs : List V} {d : PyData} {x : V} (r : FzL h A ds xs) (f : Fz h A d x) (n : Nat) : FzL h A (ds.set n d) (xs.set n x) := by
  obtain ⟨ps, rfl, rfl, k⟩ := FzL.iff.mp r
  refine FzL.iff.mpr ⟨ps.set n (d, x), by rw [List.map_set], by rw [List.map_set], fun p hp => ?_⟩
  rcases List.mem_or_eq_of_mem_set hp with z | rfl
  · exact k p z
  · exact f
theorem FzL.rev {ds : List PyData} {xs : List V} (r : FzL h A ds xs) : FzL h A ds.reverse xs.reverse := by
  obtain ⟨ps, rfl, rfl, k⟩ := FzL.iff.mp r
  exact FzL.iff.mpr ⟨ps.reverse, by rw [List.map_reverse], by rw [List.map_reverse], fun p hp => k p (List.mem_reverse.mp hp)⟩
theorem FzL.rep {ds : List PyData} {xs : List V} (r : FzL h A ds xs) : ∀ n, FzL h A (List.replicate n ds).flatten (List.replicate n xs).flatten
  | 0 => FzL.nil
  | n + 1 => by
    rw [List.replicate_succ, List.replicate_succ, List.flatten_cons, List.flatten_cons]
    exact r.app (FzL.rep r n)
theorem FzL.one {d : PyData} {x : V} (f : Fz h A d x) : FzL h A [d] [x] := FzL.cons f FzL.nil
theorem FzL.atI {ds : List PyData} {xs : List V} (r : FzL h A ds xs) {i : Int} {d : PyData} (e : L2.atI ds i = some d) : ∃ x, L2.atI xs i = some x ∧ Fz h A d x := by
  unfold L2.atI at *
  rw [← r.len]
  obtain ⟨j, hj, e⟩ := Option.bind_eq_some_iff.mp e
  rw [hj]
  exact r.get e
end
mutual
theorem rd_of {h : Hh} {A : Av} : ∀ (d : PyData) (n : Nat) (v : V), Fz h A d v → d.canLay0 = true → d.depth < n → rd h n v = some d
  | d, 0, v, _, _, l => absurd l (Nat.not_lt_zero _)
  | .none, n + 1, v, z, _, _ => by simp only [Fz] at z; subst z; rfl
  | .bool b, n + 1, v, z, _, _ => by simp only [Fz] at z; subst z; rfl
  | .int i, n + 1, v, z, _, _ => by simp only [Fz] at z; subst z; rfl
  | .str s, n + 1, v, z, _, _ => by simp only [Fz] at z; subst z; rfl
  | .list ds, n + 1, v, z, cl, l => by
    simp only [Fz] at z
    obtain ⟨a, xs, rfl, s, na, r⟩ := z
    have l : PyData.depthAll ds < n := by
      have : PyData.depthAll ds + 1 < n + 1 := by simpa only [PyData.depth] using l
      omega
    show (match seqL h a with | some xs => (xs.mapM (rd h n)).map PyData.list | none => _) = _
    rw [show seqL h a = some xs by unfold seqL; rw [s]]
    show (xs.mapM (rd h n)).map PyData.list = _
    rw [rdL_of ds n xs r (by simpa only [PyData.canLay0] using cl) l]; rfl
  | .tuple ds, n + 1, v, z, cl, l => by
    simp only [Fz] at z
    obtain ⟨a, xs, rfl, s, r⟩ := z
    have l : PyData.depthAll ds < n := by
      have : PyData.depthAll ds + 1 < n + 1 := by simpa only [PyData.depth] using l
      omega
    have s2 : seqL h a = none := by
      unfold seqT at s
      unfold seqL
      split at s
      · rename_i e; rw [e]
      · rename_i e; rw [e]
      · cases s
    show (match seqL h a with | some xs => _ | none => match seqT h a with | some xs => (xs.mapM (rd h n)).map PyData.tuple | none => none) = _
    rw [s2, s]
    show (xs.mapM (rd h n)).map PyData.tuple = _
    rw [rdL_of ds n xs r (by simpa only [PyData.canLay0] using cl) l]; rfl
  | .dict _, n + 1, v, z, cl, _ => by simp [PyData.canLay0] at cl
theorem rdL_of {h : Hh} {A : Av} : ∀ (ds : List PyData) (n : Nat) (xs : List V), FzL h A ds xs → PyData.canLayAll0 ds = true → PyData.depthAll ds < n → xs.mapM (rd h n) = some ds
  | [], n, xs, z, _, _ => by simp only [FzL] at z; subst z; rfl
  | d :: ds, n, xs, z, cl, l => by
    simp only [FzL] at z
    obtain ⟨x, r, rfl, f, g⟩ := z
    have l : max d.depth (PyData.depthAll ds) < n := by simpa only [PyData.depthAll] using l
    have cl : d.canLay0 = true ∧ PyData.canLayAll0 ds = true := by simpa only [PyData.canLayAll0, Bool.and_eq_true] using cl
    rw [List.mapM_cons, rd_of d n x f cl.1 (by omega), rdL_of ds n r g cl.2 (by omega)]; rfl
end
theorem rdS_of {h : Hh} {A : Av} {d : PyData} {v : V} (z : Fz h A d v) (s : SeqAt.shaped d = true) : rdS h v = some d := by
  have l := SeqAt.depth_of_shaped s
  unfold rdS
  rw [rd_of d 66 v z (SeqAt.canLay_of_shaped s) (by omega)]
  show (if SeqAt.shaped d = true then some d else none) = _
  rw [if_pos s]

/-- the lists that the names own -/
def Oa (e : Ev) (E : Dn) (b : Nat) : Prop := ∃ (i : Nat) (d : PyData), e[i]? = some (some (V.ref b)) ∧ E[i]? = some (some (.own d))
structure RelE (h : Hh) (A : Av) (e : Ev) (E : Dn) : Prop where
  len : e.length = E.length
  fz : ∀ (i : Nat) (d : PyData), E[i]? = some (some (.fz d)) → ∃ v, e[i]? = some (some v) ∧ Fz h A d v
  ow : ∀ (i : Nat) (d : PyData), E[i]? = some (some (.own d)) → ∃ (a : Nat) (o : Ob), e[i]? = some (some (.ref a)) ∧ h[a]? = some o ∧ A a ∧ Cn h A d o
  ro : ∀ (i : Nat) (xs : List PyData), E[i]? = some (some (.rol xs)) → ∃ (a : Nat) (vs : List V), e[i]? = some (some (.ref a)) ∧ h[a]? = some (.rol vs) ∧ FzL h A xs vs
  inj : ∀ (i j a : Nat) (xs ys : PyData), e[i]? = some (some (.ref a)) → e[j]? = some (some (.ref a)) → E[i]? = some (some (.own xs)) → E[j]? = some (some (.own ys)) → i = j
  lt : ∀ b : Nat, A b → ∃ o : Ob, h[b]? = some o ∧ Mu o = true
theorem RelE.mine {h : Hh} {A : Av} {e : Ev} {E : Dn} (R : RelE h A e E) {b : Nat} (o : Oa e E b) : A b ∧ ∃ vs : Ob, h[b]? = some vs ∧ Mu vs = true := by
  obtain ⟨i, xs, h1, h2⟩ := o
  obtain ⟨a, vs, h3, h4, h5, h6⟩ := R.ow i xs h2
  rw [h1] at h3
  cases h3
  exact ⟨h5, vs, h4, h6.mu⟩
/-- steps of a term: the names stand, the lists of others too -/
structure Pst (n : Nat) (e : Ev) (h : Hh) (A : Av) (E : Dn) (h' : Hh) (A' : Av) (E' : Dn) : Prop where
  le : h.length ≤ h'.length
  sub : ∀ b, A' b → A b ∨ h.length ≤ b
  keep : ∀ b, b < n → A b → ¬ Oa e E b → A' b
  same : ∀ b : Nat, b < h.length → ¬ Oa e E b → (A b → b < n) → h'[b]? = h[b]?
  rel : RelE h' A' e E'
  mine : ∀ b, Oa e E' b → Oa e E b
  dom : ∀ (i : Nat) (v : Va), E[i]? = some (some v) → ∃ v', E'[i]? = some (some v')
theorem Pst.refl {n e h A E} (R : RelE h A e E) : Pst n e h A E h A E := ⟨Nat.le_refl _, fun _ z => .inl z, fun _ _ z _ => z, fun _ _ _ _ => rfl, R, fun _ z => z, fun _ v z => ⟨v, z⟩⟩
theorem Pst.mono {n m e h A E h' A' E'} (l : m ≤ n) (p : Pst n e h A E h' A' E') : Pst m e h A E h' A' E' := ⟨p.le, p.sub, fun b hb => p.keep b (Nat.lt_of_lt_of_le hb l), fun b hb o q => p.same b hb o fun z => Nat.lt_of_lt_of_le (q z) l, p.rel, p.mine, p.dom⟩
theorem Pst.trans {n e h A E h1 A1 E1 h2 A2 E2} (p : Pst n e h A E h1 A1 E1) (q : Pst n e h1 A1 E1 h2 A2 E2) : Pst n e h A E h2 A2 E2 := by
  refine ⟨Nat.le_trans p.le q.le, fun b z => ?_, fun b hb z n => q.keep b hb (p.keep b hb z n) fun o => n (p.mine b o), fun b l n z => (q.same b (Nat.lt_of_lt_of_le l p.le) (fun o => n (p.mine b o)) fun y => (p.sub b y).elim z fun y => absurd l (Nat.not_lt_of_le y)).trans (p.same b l n z), q.rel, fun b o => p.mine b (q.mine b o), fun i v z => ?_⟩
  · rcases q.sub b z with z | z
    · exact p.sub b z
    · exact .inr (Nat.le_trans p.le z)
  · obtain ⟨v', z'⟩ := p.dom i v z
    exact q.dom i v' z'
theorem Pst.ok {n e h A E h' A' E'} (R : RelE h A e E) (p : Pst n e h A E h' A' E') : Ok h A h' A' := by
  constructor
  · intro b xs s _ n
    have l := lt_of_get s
    have e := p.same b l (fun o => n (R.mine o).1) fun y => absurd y n
    refine ⟨e.trans s, fun z => ?_⟩
    rcases p.sub b z with z | z
    · exact n z
    · omega
  · intro b xs s
    have l := seqT_lt s
    have na : ¬ A b := fun o => by
      obtain ⟨vs, z, mz⟩ := R.lt b o
      unfold seqT at s
      rw [z] at s
      cases vs <;> first | (cases s; done) | (cases mz; done)
    have e := p.same b l (fun o => na (R.mine o).1) fun y => absurd y na
    unfold seqT at *
    rw [e]; exact s
  · intro b xs s
    have l := lt_of_get s
    have na : ¬ A b := fun o => by
      obtain ⟨vs, z, mz⟩ := R.lt b o
      rw [z] at s
      cases s
      cases mz
    have e := p.same b l (fun o => na (R.mine o).1) fun y => absurd y na
    exact e.trans s
/-- what a term comes to, in the heap -/
def RR (n : Nat) (h : Hh) (A : Av) (e : Ev) (E : Dn) : Re → V → Prop
  | .fz d, v => Fz h A d v
  | .own d, v => ∃ (a : Nat) (o : Ob), v = .ref a ∧ n ≤ a ∧ h[a]? = some o ∧ A a ∧ ¬ Oa e E a ∧ Cn h A d o
  | .var i, v => e[i]? = some (some v) ∧ ∃ va, E[i]? = some (some va)
  | .rol xs, v => ∃ (a : Nat) (vs : List V), v = .ref a ∧ h[a]? = some (.rol vs) ∧ FzL h A xs vs
theorem RR.step {n e h A E h' A' E' r v} (R : RelE h A e E) (p : Pst h.length e h A E h' A' E') (z : RR n h A e E r v) : RR n h' A' e E' r v := by
  cases r with
  | fz d => exact Fz.ok (p.ok R) d v z
  | own xs =>
    obtain ⟨a, vs, rfl, l, g, ha, na, r⟩ := z
    exact ⟨a, vs, rfl, l, (p.same a (lt_of_get g) na fun _ => lt_of_get g).trans g, p.keep a (lt_of_get g) ha na, fun o => na (p.mine a o), r.ok (p.ok R)⟩
  | var i =>
    obtain ⟨h1, va, h2⟩ := z
    exact ⟨h1, p.dom i va h2⟩
  | rol xs =>
    obtain ⟨a, vs, rfl, g, r⟩ := z
    exact ⟨a, vs, rfl, (p.ok R).r a vs g, FzL.ok (p.ok R) xs vs r⟩
theorem RR.mono {n m h A e E r v} (l : m ≤ n) (z : RR n h A e E r v) : RR m h A e E r v := by
  cases r with
  | own xs =>
    obtain ⟨a, vs, e1, l1, g⟩ := z
    exact ⟨a, vs, e1, Nat.le_trans l l1, g⟩
  | fz d => exact z
  | var i => exact z
  | rol xs => exact z
/-- v as data, now -/
def Vw (h : Hh) (A : Av) (d : PyData) (v : V) : Prop := match d with
  | .list ds => ∃ (a : Nat) (xs : List V), v = .ref a ∧ h[a]? = some (.lst xs) ∧ FzL h A ds xs
  | .dict kvs => ∃ (a : Nat) (c : Nat) (fs : List (Str × V)), v = .ref a ∧ h[a]? = some (.ins c fs) ∧ FzI h A c kvs fs
  | d => Fz h A d v
theorem Cn.vw {h : Hh} {A : Av} {d : PyData} {o : Ob} {a : Nat} (z : Cn h A d o) (g : h[a]? = some o) : Vw h A d (.ref a) := by
  cases d with
  | list ds =>
    obtain ⟨xs, rfl, r⟩ := z
    exact ⟨a, xs, rfl, g, r⟩
  | dict kvs =>
    obtain ⟨c, fs, rfl, r⟩ := z
    exact ⟨a, c, fs, rfl, g, r⟩
  | _ => exact z.elim
/-- .. or the script -/
def VwR (h : Hh) (A : Av) (d : PyData) (v : V) : Prop := match d with
  | .list ds => ∃ (a : Nat) (xs : List V), v = .ref a ∧ seqL h a = some xs ∧ FzL h A ds xs
  | .dict kvs => ∃ (a : Nat) (c : Nat) (fs : List (Str × V)), v = .ref a ∧ h[a]? = some (.ins c fs) ∧ FzI h A c kvs fs
  | d => Fz h A d v
theorem Vw.of {h A d v} (z : Fz h A d v) : Vw h A d v := by
  cases d with
  | list ds =>
    simp only [Fz] at z
    obtain ⟨a, xs, e, s, _, r⟩ := z
    exact ⟨a, xs, e, s, r⟩
  | dict kvs =>
    simp only [Fz] at z
    obtain ⟨a, c, fs, e, s, _, r⟩ := z
    exact ⟨a, c, fs, e, s, r⟩
  | _ => exact z
theorem Vw.r {h A d v} (z : Vw h A d v) : VwR h A d v := by
  cases d with
  | list ds =>
    obtain ⟨a, xs, e, s, r⟩ := z
    exact ⟨a, xs, e, by unfold seqL; rw [s], r⟩
  | _ => exact z
theorem Vw.fz {h A d v} (z : Vw h A d v) : Fz h (fun _ => False) d v := by
  have k : Ok h A h (fun _ => False) := Ok.mono fun _ z => z.elim
  cases d with
  | list ds =>
    obtain ⟨a, xs, e, s, r⟩ := z
    simp only [Fz]
    exact ⟨a, xs, e, s, fun z => z, FzL.ok k ds xs r⟩
  | none => exact Fz.ok k _ v z
  | bool b => exact Fz.ok k _ v z
  | int b => exact Fz.ok k _ v z
  | str b => exact Fz.ok k _ v z
  | tuple b => exact Fz.ok k _ v z
  | dict b =>
    obtain ⟨a, c, fs, e, s, r⟩ := z
    simp only [Fz]
    exact ⟨a, c, fs, e, s, fun z => z, FzI.ok k c b fs r⟩
theorem seqL_of {h : Hh} {a : Nat} {vs : List V} (g : h[a]? = some (.lst vs)) : seqL h a = some vs := by unfold seqL; rw [g]
theorem slotV_ok {E : Dn} {i : Nat} {v : Va} (e : slotV E i = some v) : E[i]? = some (some v) := by
  unfold slotV at e
  split at e
  · cases e; assumption
  · cases e
/-- a name's value as data -/
theorem va_vw {h A e E} {i : Nat} {va : Va} {v : V} {d : PyData} (R : RelE h A e E) (z : E[i]? = some (some va)) (ev : e[i]? = some (some v)) (hd : va.d = some d) : Vw h A d v := by
  cases va with
  | fz d' =>
    cases hd
    obtain ⟨u, h1, h2⟩ := R.fz i d z
    rw [ev] at h1
    cases h1
    exact Vw.of h2
  | own xs =>
    cases hd
    obtain ⟨a, vs, h1, h2, h3, h4⟩ := R.ow i _ z
    rw [ev] at h1
    cases h1
    exact h4.vw h2
  | rol xs => cases hd
theorem dat_ok {n h A e E r v d E'} (R : RelE h A e E) (z : RR n h A e E r v) (m : dat r E = some (d, E')) : E' = E ∧ Vw h A d v := by
  unfold dat mg at m
  obtain ⟨d', hd, m⟩ := Option.map_eq_some_iff.mp m
  cases m
  refine ⟨rfl, ?_⟩
  cases r with
  | fz d => cases hd; exact Vw.of z
  | own xs =>
    cases hd
    obtain ⟨a, vs, rfl, _, g, _, _, r⟩ := z
    exact r.vw g
  | var i =>
    obtain ⟨va, h1, h2⟩ := Option.bind_eq_some_iff.mp (show (slotV E i).bind Va.d = some d from hd)
    exact va_vw R (slotV_ok h1) z.1 h2
  | rol xs => cases hd
theorem datR_ok {n h A e E r v d E'} (R : RelE h A e E) (z : RR n h A e E r v) (m : datR r E = some (d, E')) : E' = E ∧ VwR h A d v := by
  cases r with
  | rol xs =>
    cases m
    obtain ⟨a, vs, rfl, g, r⟩ := z
    exact ⟨rfl, a, vs, rfl, by unfold seqL; rw [g], r⟩
  | fz d =>
    obtain ⟨e1, e2⟩ := dat_ok R z m
    exact ⟨e1, e2.r⟩
  | own d =>
    obtain ⟨e1, e2⟩ := dat_ok R z m
    exact ⟨e1, e2.r⟩
  | var d =>
    obtain ⟨e1, e2⟩ := dat_ok R z m
    exact ⟨e1, e2.r⟩
/-! ### new objects -/
theorem get_app {h : Hh} {o : Ob} {b : Nat} (l : b < h.length) : (h ++ [o])[b]? = h[b]? := List.getElem?_append_left l
theorem getNew {h : Hh} {o : Ob} : (h ++ [o])[h.length]? = some o := by simp
theorem ok_app {h : Hh} {A A' : Av} {o : Ob} (m : ∀ b, b < h.length → A' b → A b) : Ok h A (h ++ [o]) A' := by
  constructor
  · intro b xs s _ n
    have l := lt_of_get s
    exact ⟨(get_app l).trans s, fun z => n (m b l z)⟩
  · intro b xs s
    have l := seqT_lt s
    unfold seqT at *
    rw [get_app l]; exact s
  · intro b xs s
    exact (get_app (lt_of_get s)).trans s
theorem RelE.app {h A e E o A'} (R : RelE h A e E) (m : ∀ b, b < h.length → A' b → A b) (k : ∀ b, A b → A' b) (lt : ∀ b, A' b → ∃ u : Ob, (h ++ [o])[b]? = some u ∧ Mu u = true) : RelE (h ++ [o]) A' e E := by
  have ok := ok_app (o := o) m
  refine ⟨R.len, fun i d z => ?_, fun i xs z => ?_, fun i xs z => ?_, R.inj, lt⟩
  · obtain ⟨v, h1, h2⟩ := R.fz i d z
    exact ⟨v, h1, Fz.ok ok d v h2⟩
  · obtain ⟨a, vs, h1, h2, h3, h4⟩ := R.ow i xs z
    exact ⟨a, vs, h1, (get_app (lt_of_get h2)).trans h2, k a h3, h4.ok ok⟩
  · obtain ⟨a, vs, h1, h2, h4⟩ := R.ro i xs z
    exact ⟨a, vs, h1, ok.r a vs h2, FzL.ok ok xs vs h4⟩
theorem pst_tup {n h A e E o} (R : RelE h A e E) : Pst n e h A E (h ++ [o]) A E := by
  refine ⟨by rw [List.length_append]; omega, fun _ z => .inl z, fun _ _ z _ => z, fun b l _ _ => get_app l, R.app (fun _ _ z => z) (fun _ z => z) fun b z => ?_, fun _ z => z, fun _ v z => ⟨v, z⟩⟩
  obtain ⟨xs, g, m⟩ := R.lt b z
  exact ⟨xs, (get_app (lt_of_get g)).trans g, m⟩
/-- with a new list -/
def plus (A : Av) (a : Nat) : Av := fun b => A b ∨ b = a
theorem pst_obj {n h A e E} {ob : Ob} (R : RelE h A e E) (mo : Mu ob = true) : Pst n e h A E (h ++ [ob]) (plus A h.length) E := by
  refine ⟨by rw [List.length_append]; omega, fun b z => ?_, fun _ _ z _ => .inl z, fun b l _ _ => get_app l, R.app (fun b l z => ?_) (fun _ z => .inl z) fun b z => ?_, fun _ z => z, fun _ v z => ⟨v, z⟩⟩
  · rcases z with z | rfl
    · exact .inl z
    · exact .inr (Nat.le_refl _)
  · rcases z with z | rfl
    · exact z
    · exact absurd l (Nat.lt_irrefl _)
  · rcases z with z | rfl
    · obtain ⟨xs, g, m⟩ := R.lt b z
      exact ⟨xs, (get_app (lt_of_get g)).trans g, m⟩
    · exact ⟨ob, getNew, mo⟩
theorem pst_lst {n h A e E vs} (R : RelE h A e E) : Pst n e h A E (h ++ [.lst vs]) (plus A h.length) E := pst_obj R rfl
theorem RelE.lt_mine {h A e E} (R : RelE h A e E) {b : Nat} (o : Oa e E b) : b < h.length := by
  obtain ⟨_, vs, g, _⟩ := R.mine o
  exact lt_of_get g
/-- a step comes to this -/
def Out (h : Hh) (A : Av) (e : Ev) (E : Dn) (r : Re) (E' : Dn) (o : Option (Rs V × Hh)) : Prop := ∃ v h' A', o = some (.ok v, h') ∧ Pst h.length e h A E h' A' E' ∧ RR h.length h' A' e E' r v
theorem out_lst {h A e E ds vs} (R : RelE h A e E) (r : FzL h A ds vs) : Out h A e E (.own (.list ds)) E (alloc (.lst vs) h) := by
  refine ⟨_, _, plus A h.length, rfl, pst_lst R, h.length, .lst vs, rfl, Nat.le_refl _, getNew, .inr rfl, fun o => Nat.lt_irrefl _ (R.lt_mine o), vs, rfl, ?_⟩
  exact FzL.ok (ok_app fun b l z => z.elim id fun q => absurd l (by omega)) ds vs r
theorem out_tup {h A e E ds vs} (R : RelE h A e E) (r : FzL h A ds vs) : Out h A e E (.fz (.tuple ds)) E (alloc (.tup vs) h) := by
  refine ⟨_, _, A, rfl, pst_tup R, ?_⟩
  show Fz _ _ (.tuple ds) _
  simp only [Fz]
  refine ⟨h.length, vs, rfl, ?_, FzL.ok (ok_app fun b l z => z) ds vs r⟩
  unfold seqT
  rw [getNew]
theorem out_same {h A e E d v} (R : RelE h A e E) (r : Fz h A d v) : Out h A e E (.fz d) E (some (.ok v, h)) := ⟨v, h, A, rfl, Pst.refl R, r⟩
end HI

set_option maxRecDepth 100000
set_option maxHeartbeats 4000000
/-! operations: over data as in the heap -/
namespace HI
open PySem L2

section
variable {h : Hh} {A : Av} {e : Ev} {E : Dn} {x y v : V}
theorem vw_int {i : Int} (z : Vw h A (.int i) x) : x = .int i := by simpa only [Vw, Fz] using z
theorem vw_str {i : Str} (z : Vw h A (.str i) x) : x = .str i := by simpa only [Vw, Fz] using z
theorem vw_bool {i : Bool} (z : Vw h A (.bool i) x) : x = .bl i := by simpa only [Vw, Fz] using z
theorem vw_none (z : Vw h A .none x) : x = .non := by simpa only [Vw, Fz] using z
theorem vw_list {ds : List PyData} (z : Vw h A (.list ds) x) : ∃ (a : Nat) (xs : List V), x = .ref a ∧ h[a]? = some (.lst xs) ∧ FzL h A ds xs := z
theorem lstAt_of {a : Nat} {xs : List V} (g : h[a]? = some (.lst xs)) : lstAt h a = some xs := by unfold lstAt; rw [g]
theorem vr_list {ds : List PyData} (z : VwR h A (.list ds) x) : ∃ (a : Nat) (xs : List V), x = .ref a ∧ seqL h a = some xs ∧ FzL h A ds xs := z
theorem vr_str {i : Str} (z : VwR h A (.str i) x) : x = .str i := by simpa only [VwR, Fz] using z
theorem vr_tup {ds : List PyData} (z : VwR h A (.tuple ds) x) : ∃ a xs, x = .ref a ∧ seqT h a = some xs ∧ FzL h A ds xs := by
  have z : Fz h A (.tuple ds) x := z
  simpa only [Fz] using z
theorem vw_tup {ds : List PyData} (z : Vw h A (.tuple ds) x) : ∃ a xs, x = .ref a ∧ seqT h a = some xs ∧ FzL h A ds xs := by
  have z : Fz h A (.tuple ds) x := z
  simpa only [Fz] using z
theorem vw_dict {ds : List (PyData × PyData)} (z : Vw h A (.dict ds) x) : ∃ (a : Nat) (c : Nat) (fs : List (Str × V)), x = .ref a ∧ h[a]? = some (.ins c fs) ∧ FzI h A c ds fs := z
theorem fz_bool {b : Bool} : Fz h A (.bool b) (.bl b) := by simp only [Fz]
theorem fz_int {b : Int} : Fz h A (.int b) (.int b) := by simp only [Fz]
theorem fz_str {b : Str} : Fz h A (.str b) (.str b) := by simp only [Fz]
theorem fz_none : Fz h A .none .non := by simp only [Fz]
theorem vD_ok {d : PyData} (z : vD v = some d) : Fz h A d v := by
  cases v <;> simp only [vD] at z <;> cases z
  · exact fz_none
  · exact fz_bool
  · exact fz_int
  · exact fz_str
theorem seqT_notL {a : Nat} {xs : List V} (s : seqT h a = some xs) : seqL h a = none := by
  unfold seqT at s
  unfold seqL
  split at s
  · rename_i e; rw [e]
  · rename_i e; rw [e]
  · cases s
theorem seqT_notl {a : Nat} {xs : List V} (s : seqT h a = some xs) : lstAt h a = none := by
  unfold seqT at s
  unfold lstAt
  split at s
  · rename_i e; rw [e]
  · rename_i e; rw [e]
  · cases s
theorem eqP0_ok {dx dy : PyData} {b : Bool} (vx : Vw h A dx x) (vy : Vw h A dy y) (m : eqP0 dx dy = some b) : eqD h x y = some b := by
  unfold eqP0 at m
  split at m
  · rename_i c
    cases m
    unfold eqD
    rw [rdS_of vx.fz c.1, rdS_of vy.fz c.2]
  · cases m
theorem eqS_none {dx dy : PyData} (vx : Vw h A dx x) (vy : Vw h A dy y) (hn : ∀ s t, ¬ (dx = .str s ∧ dy = .str t)) : eqS x y = none := by
  have str : ∀ {d : PyData} {v : V} {s : Str}, Vw h A d v → v = .str s → d = .str s := fun {d v s} z e => by
    subst e
    cases d with
    | none => exact absurd (vw_none z) (by intro q; cases q)
    | bool b => exact absurd (vw_bool z) (by intro q; cases q)
    | int b => exact absurd (vw_int z) (by intro q; cases q)
    | str t => have := vw_str z; cases this; rfl
    | list ds => obtain ⟨_, _, q, _⟩ := vw_list z; cases q
    | tuple ds => obtain ⟨_, _, q, _⟩ := vw_tup z; cases q
    | dict ds => obtain ⟨_, _, _, q, _⟩ := vw_dict z; cases q
  cases x with
  | str s =>
    cases y with
    | str t => exact absurd ⟨str vx rfl, str vy rfl⟩ (hn s t)
    | _ => rfl
  | _ => rfl
theorem eqP_ok {dx dy : PyData} {b : Bool} (vx : Vw h A dx x) (vy : Vw h A dy y) (m : eqP dx dy = some b) : eqO h x y = some b := by
  by_cases hs : ∃ s t, dx = .str s ∧ dy = .str t
  · obtain ⟨s, t, rfl, rfl⟩ := hs
    obtain rfl := vw_str vx
    obtain rfl := vw_str vy
    have m : some (decide (s = t)) = some b := m
    cases m
    show some (decide (V.str s = V.str t)) = _
    congr 1
    rw [Bool.eq_iff_iff]
    simp
  · have hn : ∀ s t, ¬ (dx = .str s ∧ dy = .str t) := fun s t q => hs ⟨s, t, q⟩
    have m0 : eqP0 dx dy = some b := by
      unfold eqP at m
      split at m
      · exact absurd ⟨rfl, rfl⟩ (hn _ _)
      · exact m
    unfold eqO
    rw [eqS_none vx vy hn]
    exact eqP0_ok vx vy m0
theorem inP_ok {dx dy : PyData} {b : Bool} (vx : Vw h A dx x) (vy : Vw h A dy y) (m : inP dx dy = some b) : inD h x y = some b := by
  unfold inP at m
  split at m
  · rename_i c
    unfold inD
    rw [rdS_of vx.fz c.1, rdS_of vy.fz c.2]
    split at m
    · cases m; rfl
    · cases m
  · cases m
theorem intD_ok {o : Op2} {dx dy d : PyData} (vx : Vw h A dx x) (vy : Vw h A dy y) (m : intD o dx dy = some d) : ∃ v, intO o x y h = some (.ok v, h) ∧ Fz h A d v := by
  unfold intD at m
  split at m
  · obtain ⟨v, hv, m⟩ := Option.bind_eq_some_iff.mp m
    obtain rfl := vw_int vx
    obtain rfl := vw_int vy
    refine ⟨v, ?_, vD_ok m⟩
    show opt (intOp o _ _) h = _
    unfold opt
    rw [hv]; rfl
  · cases m
theorem addD_ok (R : RelE h A e E) {dx dy : PyData} {r : Re} (vx : Vw h A dx x) (vy : Vw h A dy y) (m : addD dx dy = some r) : Out h A e E r E (addO x y h) := by
  unfold addD at m
  split at m
  · cases m
    obtain rfl := vw_int vx
    obtain rfl := vw_int vy
    exact out_same R fz_int
  · split at m
    · rename_i c
      cases m
      obtain rfl := vw_str vx
      obtain rfl := vw_str vy
      refine ⟨_, h, A, ?_, Pst.refl R, show Fz h A (.str _) (.str _) from fz_str⟩
      show (if _ then rt _ else no : Mo V) h = _
      rw [if_pos c]; rfl
    · cases m
  · rename_i ds es
    split at m
    · rename_i c
      cases m
      obtain ⟨a, xs, rfl, hx, rx⟩ := vw_list vx
      obtain ⟨b, ys, rfl, hy, ry⟩ := vw_list vy
      replace hx := lstAt_of hx
      replace hy := lstAt_of hy
      have c' : xs.length + ys.length ≤ sizeLine := by rw [← rx.len, ← ry.len]; exact c
      have e : addO (.ref a) (.ref b) h = alloc (.lst (xs ++ ys)) h := by
        unfold addO
        simp only [hx, hy, c', if_true]
      rw [e]
      exact out_lst R (rx.app ry)
    · cases m
  · rename_i ds es
    split at m
    · rename_i c
      cases m
      obtain ⟨a, xs, rfl, hx, rx⟩ := vw_tup vx
      obtain ⟨b, ys, rfl, hy, ry⟩ := vw_tup vy
      have c' : xs.length + ys.length ≤ sizeLine := by rw [← rx.len, ← ry.len]; exact c
      have e : addO (.ref a) (.ref b) h = catT a b xs ys h := by
        unfold addO
        simp only [seqT_notl hx, seqT_notl hy, hx, hy]
      rw [e]
      unfold catT
      by_cases h1 : xs = []
      · subst h1
        rw [if_pos rfl]
        have e0 : ds = [] := List.eq_nil_of_length_eq_zero (by rw [rx.len]; rfl)
        subst e0
        refine out_same R ?_
        simp only [Fz]
        exact ⟨b, ys, rfl, hy, ry⟩
      · rw [if_neg h1]
        by_cases h2 : ys = []
        · subst h2
          rw [if_pos rfl]
          have e0 : es = [] := List.eq_nil_of_length_eq_zero (by rw [ry.len]; rfl)
          subst e0
          refine out_same R ?_
          simp only [Fz, List.append_nil]
          exact ⟨a, xs, rfl, hx, rx⟩
        · rw [if_neg h2, if_pos c']
          exact out_tup R (rx.app ry)
    · cases m
  · cases m
theorem mulD_ok (R : RelE h A e E) {dx dy : PyData} {r : Re} (vx : Vw h A dx x) (vy : Vw h A dy y) (m : mulD dx dy = some r) : Out h A e E r E (mulO x y h) := by
  unfold mulD at m
  split at m
  · obtain ⟨d, hd, m⟩ := Option.map_eq_some_iff.mp m
    subst m
    obtain ⟨v, h1, h2⟩ := intD_ok (o := .mul) vx vy hd
    obtain rfl := vw_int vx
    obtain rfl := vw_int vy
    exact ⟨v, h, A, h1, Pst.refl R, h2⟩
  · rename_i ds k
    split at m
    · rename_i c
      cases m
      obtain rfl := vw_int vy
      obtain ⟨a, xs, rfl, hx, rx⟩ := vw_list vx
      replace hx := lstAt_of hx
      have c' : xs.length * k.toNat ≤ sizeLine := by rw [← rx.len]; exact c.2
      have e : mulO (.ref a) (.int k) h = alloc (.lst (List.replicate k.toNat xs).flatten) h := by
        unfold mulO
        try dsimp only
        rw [if_pos c.1]
        try dsimp only
        rw [hx]
        try dsimp only
        rw [if_pos c']
      rw [e]
      exact out_lst R (rx.rep _)
    · cases m
  · rename_i ds k
    split at m
    · rename_i c
      cases m
      obtain rfl := vw_int vy
      obtain ⟨a, xs, rfl, hx, rx⟩ := vw_tup vx
      have c' : xs.length * k.toNat ≤ sizeLine := by rw [← rx.len]; exact c.2
      have e : mulO (.ref a) (.int k) h = if xs = [] ∨ k = 1 then rt (.ref a) h else alloc (.tup (List.replicate k.toNat xs).flatten) h := by
        unfold mulO
        try dsimp only
        rw [if_pos c.1]
        try dsimp only
        rw [seqT_notl hx]
        try dsimp only
        rw [hx]
        try dsimp only
        rw [if_pos c']
      rw [e]
      split
      · rename_i c2
        refine out_same R ?_
        simp only [Fz]
        refine ⟨a, xs, rfl, hx, ?_⟩
        rcases c2 with rfl | rfl
        · have e0 : ds = [] := List.eq_nil_of_length_eq_zero (by rw [rx.len]; rfl)
          subst e0
          have : (List.replicate k.toNat ([] : List PyData)).flatten = [] := by
            induction k.toNat with
            | zero => rfl
            | succ n ih => rw [List.replicate_succ, List.flatten_cons, ih]; rfl
          rw [this]; exact FzL.nil
        · show FzL h A (List.replicate 1 ds).flatten xs
          simpa using rx
      · exact out_tup R (rx.rep _)
    · cases m
  · cases m
theorem opD_ok (R : RelE h A e E) {o : Op2} {dx dy : PyData} {r : Re} (vx : Vw h A dx x) (vy : Vw h A dy y) (m : opD o dx dy = some r) : Out h A e E r E (op2 o x y h) := by
  have int : ∀ o, (intD o dx dy).map Re.fz = some r → Out h A e E r E (intO o x y h) := by
    intro o m
    obtain ⟨d, hd, m⟩ := Option.map_eq_some_iff.mp m
    subst m
    obtain ⟨v, h1, h2⟩ := intD_ok vx vy hd
    exact ⟨v, h, A, h1, Pst.refl R, h2⟩
  have bl : ∀ (f : Hh → Option Bool) (g : Bool → Bool) (ob : Option Bool), (∀ b, ob = some b → f h = some b) → ob.map (fun b => Re.fz (.bool (g b))) = some r → Out h A e E r E (look (fun h => (f h).map fun b => V.bl (g b)) h) := by
    intro f g ob hf m
    obtain ⟨b, hb, m⟩ := Option.map_eq_some_iff.mp m
    subst m
    have q : look (fun h => (f h).map fun b => V.bl (g b)) h = some (.ok (.bl (g b)), h) := by
      unfold look
      simp only [hf b hb, Option.map_some]
    rw [q]
    exact out_same R fz_bool
  have isn : ∀ b, isnD dx dy = some b → isO2 x y = some b := by
    intro b m
    unfold isnD at m
    split at m
    · cases m
      obtain rfl := vw_none vy
      show some (decide (x = .non)) = _
      congr 1
      cases dx with
      | none => obtain rfl := vw_none vx; rfl
      | int i => obtain rfl := vw_int vx; rfl
      | bool i => obtain rfl := vw_bool vx; rfl
      | str i => obtain rfl := vw_str vx; rfl
      | list i => obtain ⟨a, xs, rfl, _⟩ := vw_list vx; rfl
      | tuple i => obtain ⟨a, xs, rfl, _⟩ := vw_tup vx; rfl
      | dict i => obtain ⟨_, _, _, rfl, _⟩ := vw_dict vx; rfl
    · unfold isnB at m
      split at m
      · cases m
        obtain rfl := vw_bool vx
        obtain rfl := vw_bool vy
        rfl
      · cases m
    · cases m
  cases o
  case eq => exact bl (fun h => eqO h x y) id _ (fun b hb => eqP_ok vx vy hb) m
  case ne => exact bl (fun h => eqO h x y) not _ (fun b hb => eqP_ok vx vy hb) m
  case in_ => exact bl (fun h => inD h x y) id _ (fun b hb => inP_ok vx vy hb) m
  case notin => exact bl (fun h => inD h x y) not _ (fun b hb => inP_ok vx vy hb) m
  case is_ =>
    obtain ⟨b, hb, m⟩ := Option.map_eq_some_iff.mp (show (isnD dx dy).map (fun b => Re.fz (.bool b)) = some r from m)
    subst m
    refine ⟨.bl b, h, A, ?_, Pst.refl R, (show Fz h A (.bool b) (.bl b) from fz_bool)⟩
    show opt ((isO2 x y).map V.bl) h = _
    rw [isn b hb]; rfl
  case isnot =>
    obtain ⟨b, hb, m⟩ := Option.map_eq_some_iff.mp (show (isnD dx dy).map (fun b => Re.fz (.bool !b)) = some r from m)
    subst m
    refine ⟨.bl !b, h, A, ?_, Pst.refl R, (show Fz h A (.bool !b) (.bl !b) from fz_bool)⟩
    show opt ((isO2 x y).map fun b => V.bl !b) h = _
    rw [isn b hb]; rfl
  case add => exact addD_ok R vx vy m
  case mul => exact mulD_ok R vx vy m
  all_goals exact int _ m
theorem truD_ok {d : PyData} {b : Bool} (z : Vw h A d v) (m : truD d = some b) : truth h v = some b := by
  cases d with
  | none => obtain rfl := vw_none z; exact m
  | int i => obtain rfl := vw_int z; exact m
  | bool i => obtain rfl := vw_bool z; exact m
  | str i => obtain rfl := vw_str z; exact m
  | list ds =>
    obtain ⟨a, xs, rfl, s, r⟩ := vw_list z
    have m : some (!ds.isEmpty) = some b := m
    unfold truth
    simp only [seqL_of s]
    rw [← m]
    congr 2
    have := r.len
    cases ds <;> cases xs <;> first | rfl | cases this
  | tuple ds =>
    obtain ⟨a, xs, rfl, s, r⟩ := vw_tup z
    have m : some (!ds.isEmpty) = some b := m
    unfold truth
    simp only [seqT_notL s, s]
    rw [← m]
    congr 2
    have := r.len
    cases ds <;> cases xs <;> first | rfl | cases this
  | dict i => cases m
theorem tru_ok' {d : PyData} {b : Bool} (z : Vw h A d v) (m : truD d = some b) : tru v h = some (.ok b, h) := by
  show (truth h v).map (fun a => ((Rs.ok a : Rs Bool), h)) = _
  rw [truD_ok z m]; rfl
theorem indexD_ok {dx dy d : PyData} (vx : VwR h A dx x) (vy : Vw h A dy y) (m : indexD dx dy = some d) : ∃ v, index x y h = some (.ok v, h) ∧ Fz h A d v := by
  unfold indexD at m
  split at m
  · obtain rfl := vw_int vy
    obtain ⟨a, xs, rfl, s, r⟩ := vr_list vx
    obtain ⟨v, h1, h2⟩ := r.atI m
    refine ⟨v, ?_, h2⟩
    unfold index look
    simp only [s, h1]; rfl
  · obtain rfl := vw_int vy
    obtain ⟨a, xs, rfl, s, r⟩ := vr_tup vx
    obtain ⟨v, h1, h2⟩ := r.atI m
    refine ⟨v, ?_, h2⟩
    unfold index look
    simp only [seqT_notL s, s, h1]; rfl
  · obtain rfl := vw_int vy
    obtain rfl := vr_str vx
    split at m
    · rename_i c
      obtain ⟨u, hu, m⟩ := Option.map_eq_some_iff.mp m
      subst m
      refine ⟨.str ⟨#[u]⟩, ?_, fz_str⟩
      unfold index
      simp only [c, if_true]
      unfold opt
      rw [hu]; rfl
    · cases m
  · cases m
theorem sliceD_ok (R : RelE h A e E) {d : PyData} {lo hi : Option Int} {r : Re} (z : VwR h A d v) (m : sliceD d lo hi = some r) : Out h A e E r E (slice v lo hi h) := by
  unfold sliceD at m
  split at m
  · cases m
    obtain ⟨a, xs, rfl, s, rr⟩ := vr_list z
    have e1 : slice (.ref a) lo hi h = alloc (.lst (cutV xs lo hi)) h := by
      unfold slice
      simp only [s]
    rw [e1]
    refine out_lst R ?_
    unfold cutD cutV
    rw [rr.len]
    exact (rr.drop _).take _
  · split at m
    · cases m
    · rename_i c
      cases m
      obtain ⟨a, xs, rfl, s, rr⟩ := vr_tup z
      rw [rr.len] at c
      have e1 : slice (.ref a) lo hi h = alloc (.tup (cutV xs lo hi)) h := by
        unfold slice
        simp only [seqT_notL s, s]
        rw [if_neg c]
      rw [e1]
      refine out_tup R ?_
      unfold cutD cutV
      rw [rr.len]
      exact (rr.drop _).take _
  · cases m
/-! sorted -/
theorem kItems_eq {shape : Nat → Bool} : ∀ {ds : List PyData} {xs : List V} (i : Nat), FzL h A ds xs → ∀ l, kItemsD shape i ds = some l → kItems shape i xs = some l
  | [], xs, i, r, l, m => by
    simp only [FzL] at r
    subst r
    exact m
  | d :: ds, xs, i, r, l, m => by
    simp only [FzL] at r
    obtain ⟨x, rr, rfl, f, g⟩ := r
    cases d <;> simp only [kItemsD] at m <;> (try cases m)
    · obtain rfl : x = .int _ := by simpa only [Fz] using f
      simp only [kItems]
      split at m
      · cases m
      · rename_i c
        obtain ⟨l', h1, rfl⟩ := Option.map_eq_some_iff.mp m
        rw [if_neg c, kItems_eq (i + 1) g l' h1]; rfl
    · obtain rfl : x = .str _ := by simpa only [Fz] using f
      simp only [kItems]
      split at m
      · rename_i c
        obtain ⟨l', h1, rfl⟩ := Option.map_eq_some_iff.mp m
        rw [if_pos c, kItems_eq (i + 1) g l' h1]; rfl
      · cases m
theorem key_eq {shape : Nat → Bool} {d : PyData} {l : List Kit} (f : Fz h A d x) (m : keyD shape d = some l) : keyV h shape x = some l := by
  cases d <;> simp only [keyD] at m <;> (try cases m)
  simp only [Fz] at f
  obtain ⟨a, xs, rfl, s, r⟩ := f
  unfold keyV
  simp only [s]
  exact kItems_eq 0 r l m
theorem hasK_eq {shape : Nat → Bool} {d : PyData} (f : Fz h A d x) (m : hasKD shape d = true) : hasK h shape x = true ∧ keyV h shape x = keyD shape d := by
  unfold hasKD at m
  split at m
  · rename_i k l hk
    have q := key_eq f hk
    refine ⟨?_, q.trans hk.symm⟩
    unfold hasK
    rw [q]
  · cases m
theorem ins_congr {α : Type} {f g : α → α → Bool} {x : α} : ∀ {l : List α}, (∀ y ∈ l, f y x = g y x) → ins f x l = ins g x l
  | [], _ => rfl
  | y :: r, k => by
    show (if f y x then y :: ins f x r else x :: y :: r) = (if g y x then y :: ins g x r else x :: y :: r)
    rw [k y List.mem_cons_self, ins_congr fun z hz => k z (List.mem_cons_of_mem _ hz)]
theorem isort_congr {α : Type} {f g : α → α → Bool} : ∀ {l : List α}, (∀ x ∈ l, ∀ y ∈ l, f x y = g x y) → isort f l = isort g l
  | [], _ => rfl
  | x :: r, k => by
    show ins f x (isort f r) = ins g x (isort g r)
    rw [isort_congr fun y hy z hz => k y (List.mem_cons_of_mem _ hy) z (List.mem_cons_of_mem _ hz)]
    exact ins_congr fun y hy => k y (List.mem_cons_of_mem _ (isort_mem.mp hy)) x List.mem_cons_self
theorem isort_fz {ds : List PyData} {xs : List V} {f : PyData → PyData → Bool} {g : V → V → Bool} (r : FzL h A ds xs) (k : ∀ d d' u u', d ∈ ds → d' ∈ ds → Fz h A d u → Fz h A d' u' → g u u' = f d d') : FzL h A (isort f ds) (isort g xs) := by
  obtain ⟨ps, rfl, rfl, z⟩ := FzL.iff.mp r
  rw [isort_map, isort_map]
  have e : isort (fun x y : PyData × V => g x.2 y.2) ps = isort (fun x y => f x.1 y.1) ps := isort_congr fun x hx y hy => k _ _ _ _ (List.mem_map_of_mem hx) (List.mem_map_of_mem hy) (z x hx) (z y hy)
  rw [e]
  exact FzL.iff.mpr ⟨_, rfl, rfl, fun p hp => z p (isort_mem.mp hp)⟩
theorem sortV_ok (R : RelE h A e E) {ds zs : List PyData} {xs : List V} (r : FzL h A ds xs) (m : sortD ds = some zs) : Out h A e E (.own (.list zs)) E (sortV xs h) := by
  have alli : ds.all isID = true → xs.all isI = true := fun q => by
    obtain ⟨ps, rfl, rfl, k⟩ := FzL.iff.mp r
    rw [List.all_eq_true] at q ⊢
    intro u hu
    obtain ⟨p, hp, rfl⟩ := List.mem_map.mp hu
    have q1 := q p.1 (List.mem_map_of_mem hp)
    have q2 := k p hp
    cases hp1 : p.1 with
    | int i =>
      rw [hp1] at q2
      have : p.2 = .int i := by simpa only [Fz] using q2
      rw [this]; rfl
    | _ => rw [hp1] at q1; cases q1
  unfold sortD at m
  split at m
  · rename_i c
    cases m
    have e1 : sortV xs h = alloc (.lst (isort ltI xs)) h := by
      unfold sortV
      simp only [alli c, if_true]
    rw [e1]
    refine out_lst R (isort_fz r fun d d' u u' hd hd' f1 f2 => ?_)
    have q1 := List.all_eq_true.mp c d hd
    have q2 := List.all_eq_true.mp c d' hd'
    cases d <;> (try cases q1)
    cases d' <;> (try cases q2)
    obtain rfl : u = .int _ := by simpa only [Fz] using f1
    obtain rfl : u' = .int _ := by simpa only [Fz] using f2
    rfl
  · split at m
    · rename_i k rest _
      split at m
      · rename_i hall
        cases m
        have hk : ∀ d ∈ (PyData.tuple k :: rest), hasKD (shapeD k) d = true := List.all_eq_true.mp hall
        have r' := r
        simp only [FzL, Fz] at r'
        obtain ⟨x, xr, rfl, ⟨b, ks, rfl, hs, rk⟩, rr⟩ := r'
        have esh : shapeOf ks = shapeD k := by
          funext i
          unfold shapeOf shapeD
          cases hi : k[i]? with
          | none =>
            have : ks[i]? = none := List.getElem?_eq_none (by rw [← rk.len]; exact List.getElem?_eq_none_iff.mp hi)
            rw [this]
          | some d =>
            obtain ⟨u, hu, f⟩ := rk.get hi
            rw [hu]
            cases d with
            | none => obtain rfl : u = .non := by simpa only [Fz] using f
                      rfl
            | bool i => obtain rfl : u = .bl _ := by simpa only [Fz] using f
                        rfl
            | int i => obtain rfl : u = .int _ := by simpa only [Fz] using f
                       rfl
            | str i => obtain rfl : u = .str _ := by simpa only [Fz] using f
                       rfl
            | list i =>
              simp only [Fz] at f
              obtain ⟨a, xs, rfl, _⟩ := f
              rfl
            | tuple i =>
              simp only [Fz] at f
              obtain ⟨a, xs, rfl, _⟩ := f
              rfl
            | dict i =>
              simp only [Fz] at f
              obtain ⟨a, c, fs, rfl, _⟩ := f
              rfl
        have hall2 : (V.ref b :: xr).all (hasK h (shapeOf ks)) = true := by
          obtain ⟨ps, e1, e2, kk⟩ := FzL.iff.mp r
          rw [e2, esh, List.all_eq_true]
          intro u hu
          obtain ⟨p, hp, rfl⟩ := List.mem_map.mp hu
          exact (hasK_eq (kk p hp) (hk p.1 (by rw [e1]; exact List.mem_map_of_mem hp))).1
        have ni : ¬ (V.ref b :: xr).all isI = true := by
          intro z
          rw [List.all_cons, Bool.and_eq_true] at z
          cases z.1
        have e1 : sortV (V.ref b :: xr) h = alloc (.lst (isort (ltK h (shapeOf ks)) (V.ref b :: xr))) h := by
          unfold sortV
          rw [if_neg ni]
          simp only [hs]
          rw [if_pos hall2]
        rw [e1, esh]
        refine out_lst R (isort_fz r fun d d' u u' hd hd' f1 f2 => ?_)
        unfold ltK ltD
        rw [(hasK_eq f1 (hk d hd)).2, (hasK_eq f2 (hk d' hd')).2]
      · cases m
    · cases m
theorem sortD_ok (R : RelE h A e E) {ds zs : List PyData} (z : Vw h A (.list ds) v) (m : sortD ds = some zs) : Out h A e E (.own (.list zs)) E (sortO v h) := by
  obtain ⟨a, xs, rfl, s, r⟩ := vw_list z
  replace s := seqL_of s
  have e1 : sortO (.ref a) h = sortV xs h := by
    unfold sortO
    simp only [s]
  rw [e1]
  exact sortV_ok R r m
end
end HI

set_option maxRecDepth 100000
set_option maxHeartbeats 4000000
/-! giving away, changing a list, results in a row -/
namespace HI
open PySem L2

section
variable {α β : Type} {a : α} {b : β} {E E1 E2 : Dn}
theorem mb_some {m : Md α} {f : α → Md β} (e : mb m f E = some (b, E2)) : ∃ a E1, m E = some (a, E1) ∧ f a E1 = some (b, E2) := by
  unfold mb at e
  split at e
  · exact ⟨_, _, by assumption, e⟩
  · cases e
theorem mr_some {b : α} (e : mr a E = some (b, E1)) : a = b ∧ E = E1 := by
  unfold mr at e; cases e; exact ⟨rfl, rfl⟩
theorem mo_some {o : Option α} (e : mo o E = some (a, E1)) : o = some a ∧ E = E1 := by
  unfold mo at e
  obtain ⟨x, h1, h2⟩ := Option.map_eq_some_iff.mp e
  cases h2; exact ⟨h1, rfl⟩
theorem mg_some {o : Dn → Option α} (e : mg o E = some (a, E1)) : o E = some a ∧ E = E1 := by
  unfold mg at e
  obtain ⟨x, h1, h2⟩ := Option.map_eq_some_iff.mp e
  cases h2; exact ⟨h1, rfl⟩
theorem mn_some (e : (mn : Md α) E = some (a, E1)) : False := by unfold mn at e; cases e
theorem mset_some {f : Dn → Option Dn} {u : Unit} (e : mset f E = some (u, E1)) : f E = some E1 := by
  unfold mset at e
  obtain ⟨x, h1, h2⟩ := Option.map_eq_some_iff.mp e
  cases h2; exact h1
theorem bd_eq {m : Mo α} {f : α → Mo β} {h h1 : Hh} (e : m h = some (.ok a, h1)) : bd m f h = f a h1 := by unfold bd; rw [e]
end

/-- what giving away keeps -/
structure FzS (n : Nat) (h : Hh) (A : Av) (e : Ev) (E : Dn) (A' : Av) (E' : Dn) : Prop where
  rel : RelE h A' e E'
  sub : ∀ b, A' b → A b
  keep : ∀ b, b < n → A b → ¬ Oa e E b → A' b
  mine : ∀ b, Oa e E' b → Oa e E b
  dom : ∀ (i : Nat) (v : Va), E[i]? = some (some v) → ∃ v', E'[i]? = some (some v')
theorem FzS.refl {n h A e E} (R : RelE h A e E) : FzS n h A e E A E := ⟨R, fun _ z => z, fun _ _ z _ => z, fun _ z => z, fun _ v z => ⟨v, z⟩⟩
theorem FzS.mono {n m h A e E A' E'} (l : m ≤ n) (p : FzS n h A e E A' E') : FzS m h A e E A' E' := ⟨p.rel, p.sub, fun b hb => p.keep b (Nat.lt_of_lt_of_le hb l), p.mine, p.dom⟩
theorem FzS.trans {n h A e E A1 E1 A2 E2} (p : FzS n h A e E A1 E1) (q : FzS n h A1 e E1 A2 E2) : FzS n h A e E A2 E2 := by
  refine ⟨q.rel, fun b z => p.sub b (q.sub b z), fun b l z n => q.keep b l (p.keep b l z n) fun o => n (p.mine b o), fun b o => p.mine b (q.mine b o), fun i v z => ?_⟩
  obtain ⟨v', z'⟩ := p.dom i v z
  exact q.dom i v' z'
theorem FzS.pst {n h A e E A' E'} (p : FzS n h A e E A' E') : Pst n e h A E h A' E' := ⟨Nat.le_refl _, fun b z => .inl (p.sub b z), p.keep, fun _ _ _ _ => rfl, p.rel, p.mine, p.dom⟩
theorem FzS.ok {n h A e E A' E'} (p : FzS n h A e E A' E') : Ok h A h A' := Ok.mono p.sub
/-- a pending result stays, if it lies below the bound -/
theorem FzS.rr {n m h A e E A' E' r v} (p : FzS n h A e E A' E') (z : RR m h A e E r v) (l : ∀ a xs, r = .own xs → v = .ref a → a < n) : RR m h A' e E' r v := by
  cases r with
  | fz d => exact Fz.ok p.ok d v z
  | own xs =>
    obtain ⟨a, vs, rfl, l1, g, ha, na, r⟩ := z
    exact ⟨a, vs, rfl, l1, g, p.keep a (l a xs rfl rfl) ha na, fun o => na (p.mine a o), r.ok p.ok⟩
  | var i =>
    obtain ⟨h1, va, h2⟩ := z
    exact ⟨h1, p.dom i va h2⟩
  | rol xs =>
    obtain ⟨a, vs, rfl, g, r⟩ := z
    exact ⟨a, vs, rfl, g, FzL.ok p.ok xs vs r⟩
theorem RelE.shrink {h A e E A'} (R : RelE h A e E) (s : ∀ b, A' b → A b) (k : ∀ b, Oa e E b → A' b) : RelE h A' e E := by
  have ok : Ok h A h A' := Ok.mono s
  refine ⟨R.len, fun i d z => ?_, fun i xs z => ?_, fun i xs z => ?_, R.inj, fun b z => R.lt b (s b z)⟩
  · obtain ⟨v, h1, h2⟩ := R.fz i d z
    exact ⟨v, h1, Fz.ok ok d v h2⟩
  · obtain ⟨a, vs, h1, h2, h3, h4⟩ := R.ow i xs z
    exact ⟨a, vs, h1, h2, k a ⟨i, xs, h1, z⟩, h4.ok ok⟩
  · obtain ⟨a, vs, h1, h2, h4⟩ := R.ro i xs z
    exact ⟨a, vs, h1, h2, FzL.ok ok xs vs h4⟩
/-- without one -/
def less (A : Av) (a : Nat) : Av := fun b => A b ∧ b ≠ a
theorem setE {E : Dn} {i j : Nat} {o u : Option Va} (z : (E.set i o)[j]? = some u) : (j = i ∧ u = o ∧ i < E.length) ∨ (j ≠ i ∧ E[j]? = some u) := by
  by_cases h : j = i
  · subst h
    have l : j < E.length := by
      have := lt_of_getE z
      rwa [List.length_set] at this
    rw [List.getElem?_set_self l] at z
    cases z
    exact .inl ⟨rfl, rfl, l⟩
  · rw [List.getElem?_set_ne (Ne.symm h)] at z
    exact .inr ⟨h, z⟩
where
  lt_of_getE {E : Dn} {i : Nat} {o : Option Va} (e : E[i]? = some o) : i < E.length := by
    rcases Nat.lt_or_ge i E.length with z | z
    · exact z
    · rw [List.getElem?_eq_none z] at e; cases e
theorem setE_dom {E : Dn} {i : Nat} {va : Va} : ∀ (j : Nat) (v : Va), E[j]? = some (some v) → ∃ v', (E.set i (some va))[j]? = some (some v') := by
  intro j v z
  by_cases h : j = i
  · subst h
    have l : j < E.length := setE.lt_of_getE z
    exact ⟨va, List.getElem?_set_self l⟩
  · exact ⟨v, by rw [List.getElem?_set_ne (Ne.symm h)]; exact z⟩
/-- a name's list given away -/
theorem freeze {n h A e E} {i : Nat} {xs : PyData} (R : RelE h A e E) (z : E[i]? = some (some (.own xs))) :
    ∃ a A', e[i]? = some (some (.ref a)) ∧ FzS n h A e E A' (E.set i (some (.fz xs))) ∧ Fz h A' xs (.ref a) := by
  obtain ⟨a, vs, h1, h2, h3, h4⟩ := R.ow i xs z
  have ok : Ok h A h (less A a) := Ok.mono fun b z => z.1
  have f : Fz h (less A a) xs (.ref a) := (h4.ok ok).fz h2 fun q => q.2 rfl
  refine ⟨a, less A a, h1, ⟨⟨?_, fun j d q => ?_, fun j ys q => ?_, fun j ys q => ?_, fun j k c ys ws q1 q2 q3 q4 => ?_, fun b q => R.lt b q.1⟩, fun b q => q.1, fun b _ q1 q2 => ⟨q1, fun q => q2 (by subst q; exact ⟨i, xs, h1, z⟩)⟩, fun b ⟨j, ys, q1, q2⟩ => ?_, setE_dom⟩, f⟩
  · rw [List.length_set]; exact R.len
  · rcases setE q with ⟨rfl, q, _⟩ | ⟨_, q⟩
    · cases q
      exact ⟨_, h1, f⟩
    · obtain ⟨v, k1, k2⟩ := R.fz j d q
      exact ⟨v, k1, Fz.ok ok d v k2⟩
  · rcases setE q with ⟨rfl, q, _⟩ | ⟨hne, q⟩
    · cases q
    · obtain ⟨c, ws, k1, k2, k3, k4⟩ := R.ow j ys q
      refine ⟨c, ws, k1, k2, ⟨k3, fun y => ?_⟩, k4.ok ok⟩
      subst y
      exact hne (R.inj j i c ys xs k1 h1 q z)
  · rcases setE q with ⟨rfl, q, _⟩ | ⟨hne, q⟩
    · cases q
    · obtain ⟨c, ws, k1, k2, k4⟩ := R.ro j ys q
      exact ⟨c, ws, k1, k2, FzL.ok ok ys ws k4⟩
  · rcases setE q3 with ⟨_, y, _⟩ | ⟨_, q3⟩
    · cases y
    · rcases setE q4 with ⟨_, y, _⟩ | ⟨_, q4⟩
      · cases y
      · exact R.inj j k c ys ws q1 q2 q3 q4
  · rcases setE q2 with ⟨_, y, _⟩ | ⟨_, q2⟩
    · cases y
    · exact ⟨j, ys, q1, q2⟩
theorem frz_ok {n h A e E r v d E'} (R : RelE h A e E) (z : RR n h A e E r v) (m : frz r E = some (d, E')) : ∃ A', FzS n h A e E A' E' ∧ Fz h A' d v := by
  cases r with
  | fz d' => cases m; exact ⟨A, FzS.refl R, z⟩
  | own xs =>
    cases m
    obtain ⟨a, vs, rfl, l, g, ha, na, r⟩ := z
    have ok : Ok h A h (less A a) := Ok.mono fun b z => z.1
    refine ⟨less A a, ⟨R.shrink (fun b z => z.1) fun b o => ⟨(R.mine o).1, fun q => na (by subst q; exact o)⟩, fun b z => z.1, fun b l2 z _ => ⟨z, by omega⟩, fun _ z => z, fun _ v z => ⟨v, z⟩⟩, ?_⟩
    exact (r.ok ok).fz g fun q => q.2 rfl
  | var i =>
    have m : (match slotV E i with
      | some (.fz d) => some (d, E)
      | some (.own d) => some (d, E.set i (some (.fz d)))
      | _ => none) = some (d, E') := m
    split at m
    · rename_i d' hs
      cases m
      obtain ⟨u, h1, h2⟩ := R.fz i _ (slotV_ok hs)
      rw [z.1] at h1
      cases h1
      exact ⟨A, FzS.refl R, h2⟩
    · rename_i xs hs
      cases m
      obtain ⟨a, A', h1, h2, h3⟩ := freeze (n := n) R (slotV_ok hs)
      rw [z.1] at h1
      cases h1
      exact ⟨A', h2, h3⟩
    · cases m
  | rol xs => cases m

/-- results in a row -/
def RRs (h : Hh) (A : Av) (e : Ev) (E : Dn) : Nat → List Re → List V → Prop
  | _, [], vs => vs = []
  | n, r :: rs, vs => ∃ v ws m, vs = v :: ws ∧ n ≤ m ∧ RR n h A e E r v ∧ (∀ a xs, r = .own xs → v = .ref a → a < m) ∧ RRs h A e E m rs ws
theorem RRs.fzs {k h A e E A' E'} (p : FzS k h A e E A' E') : ∀ {rs : List Re} {vs : List V} {n : Nat}, RRs h A e E n rs vs → (∀ a xs r v, (r, v) ∈ rs.zip vs → r = .own xs → v = .ref a → a < k) → RRs h A' e E' n rs vs
  | [], vs, n, z, _ => z
  | r :: rs, vs, n, ⟨v, ws, m, e1, l, z, lt, zs⟩, b => by
    subst e1
    refine ⟨v, ws, m, rfl, l, p.rr z fun a xs h1 h2 => b a xs r v (by simp) h1 h2, lt, RRs.fzs p zs fun a xs r' v' hm h1 h2 => b a xs r' v' (by simp [hm]) h1 h2⟩
/-- pending results stay while one of them, or a name's list, is given away -/
theorem RRs.frz {h A e E A' E'} (ok : Ok h A h A') (dom : ∀ (i : Nat) (v : Va), E[i]? = some (some v) → ∃ v', E'[i]? = some (some v')) (mine : ∀ b, Oa e E' b → Oa e E b) : ∀ {rs : List Re} {vs : List V} {n : Nat}, RRs h A e E n rs vs →
    (∀ b, n ≤ b → A b → ¬ Oa e E b → A' b) → RRs h A' e E' n rs vs
  | [], vs, n, z, _ => z
  | r :: rs, vs, n, ⟨v, ws, m, e1, l, z, lt, zs⟩, kp => by
    subst e1
    refine ⟨v, ws, m, rfl, l, ?_, lt, RRs.frz ok dom mine zs fun b hb => kp b (Nat.le_trans l hb)⟩
    cases r with
    | fz d => exact Fz.ok ok d v z
    | own xs =>
      obtain ⟨a, vs, rfl, l1, g, ha, na, r⟩ := z
      exact ⟨a, vs, rfl, l1, g, kp a l1 ha na, fun o => na (mine a o), r.ok ok⟩
    | var i =>
      obtain ⟨h1, va, h2⟩ := z
      exact ⟨h1, dom i va h2⟩
    | rol xs =>
      obtain ⟨a, vs, rfl, g, r⟩ := z
      exact ⟨a, vs, rfl, g, FzL.ok ok xs vs r⟩
theorem RRs.step {h A e E h' A' E'} (R : RelE h A e E) (p : Pst h.length e h A E h' A' E') : ∀ {rs : List Re} {vs : List V} {n : Nat}, RRs h A e E n rs vs → RRs h' A' e E' n rs vs
  | [], vs, n, z => z
  | r :: rs, vs, n, ⟨v, ws, m, e1, l, z, lt, zs⟩ => ⟨v, ws, m, e1, l, z.step R p, lt, RRs.step R p zs⟩
/-- one given away: what of the others -/
theorem frz_keep {n m : Nat} {h : Hh} {A : Av} {e : Ev} {E E' : Dn} {r : Re} {v : V} {d : PyData} (R : RelE h A e E) (z : RR n h A e E r v) (lt : ∀ a xs, r = .own xs → v = .ref a → a < m) (mm : frz r E = some (d, E')) :
    ∃ A', FzS n h A e E A' E' ∧ Fz h A' d v ∧ ∀ b, m ≤ b → A b → ¬ Oa e E b → A' b := by
  cases r with
  | fz d' => cases mm; exact ⟨A, FzS.refl R, z, fun _ _ z _ => z⟩
  | own xs =>
    cases mm
    obtain ⟨a, vs, rfl, l, g, ha, na, r⟩ := z
    have ok : Ok h A h (less A a) := Ok.mono fun b z => z.1
    have la := lt a _ rfl rfl
    refine ⟨less A a, ⟨R.shrink (fun b z => z.1) fun b o => ⟨(R.mine o).1, fun q => na (by subst q; exact o)⟩, fun b z => z.1, fun b l2 z _ => ⟨z, by omega⟩, fun _ z => z, fun _ v z => ⟨v, z⟩⟩, ?_, fun b l2 z _ => ⟨z, fun q => Nat.lt_irrefl _ (Nat.lt_of_lt_of_le la (q ▸ l2))⟩⟩
    exact (r.ok ok).fz g fun q => q.2 rfl
  | var i =>
    have mm : (match slotV E i with
      | some (.fz d) => some (d, E)
      | some (.own d) => some (d, E.set i (some (.fz d)))
      | _ => none) = some (d, E') := mm
    split at mm
    · rename_i d' hs
      cases mm
      obtain ⟨u, h1, h2⟩ := R.fz i _ (slotV_ok hs)
      rw [z.1] at h1
      cases h1
      exact ⟨A, FzS.refl R, h2, fun _ _ z _ => z⟩
    · rename_i xs hs
      cases mm
      obtain ⟨a, A', h1, h2, h3⟩ := freeze (n := h.length) R (slotV_ok hs)
      rw [z.1] at h1
      cases h1
      refine ⟨A', ⟨h2.rel, h2.sub, fun b l q1 q2 => ?_, h2.mine, h2.dom⟩, h3, fun b _ q1 q2 => ?_⟩
      all_goals
        obtain ⟨ws, g, _⟩ := R.lt b q1
        exact h2.keep b (lt_of_get g) q1 q2
    · cases mm
  | rol xs => cases mm
theorem frzs_ok {h : Hh} {e : Ev} {E' : Dn} : ∀ {rs : List Re} {vs : List V} {n : Nat} {A : Av} {E : Dn} {ds : List PyData}, RelE h A e E → RRs h A e E n rs vs → frzs rs E = some (ds, E') → ∃ A', FzS n h A e E A' E' ∧ FzL h A' ds vs
  | [], vs, n, A, E, ds, R, z, m => by
    obtain ⟨e1, e2⟩ := mr_some (a := ([] : List PyData)) m
    subst e1 e2
    have z : vs = [] := z
    subst z
    exact ⟨A, FzS.refl R, FzL.nil⟩
  | r :: rs, vs, n, A, E, ds, R, ⟨v, ws, mm, e1, l, z, lt, zs⟩, m => by
    subst e1
    obtain ⟨d, E1, m1, m2⟩ := mb_some (show mb (frz r) (fun d => mb (frzs rs) fun ds => mr (d :: ds)) E = some (ds, E') from m)
    obtain ⟨ds', E2, m3, m4⟩ := mb_some m2
    obtain ⟨e1, e2⟩ := mr_some m4
    subst e1 e2
    obtain ⟨A1, p, f, kp⟩ := frz_keep R z lt m1
    have zs1 := RRs.frz p.ok p.dom p.mine zs kp
    obtain ⟨A2, q, g⟩ := frzs_ok p.rel zs1 m3
    exact ⟨A2, p.trans (q.mono l), FzL.cons (Fz.ok q.ok d v f) g⟩
/-- .. as data -/
def VwL (h : Hh) (A : Av) : List PyData → List V → Prop
  | [], vs => vs = []
  | d :: ds, vs => ∃ v ws, vs = v :: ws ∧ Vw h A d v ∧ VwL h A ds ws
theorem dats_ok {h : Hh} {A : Av} {e : Ev} {E E' : Dn} (R : RelE h A e E) : ∀ {rs : List Re} {vs : List V} {n : Nat} {ds : List PyData}, RRs h A e E n rs vs → dats rs E = some (ds, E') → E' = E ∧ VwL h A ds vs
  | [], vs, n, ds, z, m => by
    obtain ⟨e1, e2⟩ := mr_some (a := ([] : List PyData)) m
    subst e1 e2
    exact ⟨rfl, z⟩
  | r :: rs, vs, n, ds, ⟨v, ws, mm, e1, l, z, lt, zs⟩, m => by
    subst e1
    obtain ⟨d, E1, m1, m2⟩ := mb_some (show mb (dat r) (fun d => mb (dats rs) fun ds => mr (d :: ds)) E = some (ds, E') from m)
    obtain ⟨e0, w⟩ := dat_ok R z m1
    subst e0
    obtain ⟨ds', E2, m3, m4⟩ := mb_some m2
    obtain ⟨e1, e2⟩ := mr_some m4
    subst e1 e2
    obtain ⟨e3, ww⟩ := dats_ok R zs m3
    exact ⟨e3, v, ws, rfl, w, ww⟩
/-- a name's list changed -/
theorem change {n h A e E} {i a : Nat} {xs ys : PyData} {vs' : Ob} (R : RelE h A e E) (z : E[i]? = some (some (.own xs))) (ev : e[i]? = some (some (.ref a))) (f : Cn h A ys vs') :
    Pst n e h A E (h.set a vs') A (E.set i (some (.own ys))) := by
  obtain ⟨a', vs, h1, h2, h3, h4⟩ := R.ow i xs z
  rw [ev] at h1
  cases h1
  have la := lt_of_get h2
  have get : ∀ b, b ≠ a → (h.set a vs')[b]? = h[b]? := fun b hb => List.getElem?_set_ne (Ne.symm hb)
  have ok : Ok h A (h.set a vs') A := by
    refine ⟨fun b ws s _ nb => ⟨(get b fun q => nb (by subst q; exact h3)).trans s, nb⟩, fun b ws s => ?_, fun b ws s => ?_⟩
    · have hb : b ≠ a := fun q => by
        subst q
        unfold seqT at s
        rw [h2] at s
        have mz := h4.mu
        cases vs <;> first | (cases s; done) | (cases mz; done)
      unfold seqT at *
      rw [get b hb]; exact s
    · exact (get b fun q => by subst q; rw [h2] at s; cases s; cases h4.mu).trans s
  refine ⟨by rw [List.length_set]; exact Nat.le_refl _, fun _ z => .inl z, fun _ _ z _ => z, fun b _ nb _ => get b fun q => nb (by subst q; exact ⟨i, xs, ev, z⟩), ⟨?_, fun j d q => ?_, fun j ws q => ?_, fun j ws q => ?_, fun j k c us ws q1 q2 q3 q4 => ?_, fun b q => ?_⟩, fun b ⟨j, ws, q1, q2⟩ => ?_, setE_dom⟩
  · rw [List.length_set]; exact R.len
  · rcases setE q with ⟨rfl, q, _⟩ | ⟨_, q⟩
    · cases q
    · obtain ⟨v, k1, k2⟩ := R.fz j d q
      exact ⟨v, k1, Fz.ok ok d v k2⟩
  · rcases setE q with ⟨rfl, q, _⟩ | ⟨hne, q⟩
    · cases q
      exact ⟨a, vs', ev, List.getElem?_set_self la, h3, f.ok ok⟩
    · obtain ⟨c, us, k1, k2, k3, k4⟩ := R.ow j ws q
      refine ⟨c, us, k1, (get c fun y => ?_).trans k2, k3, k4.ok ok⟩
      subst y
      exact hne (R.inj j i c ws xs k1 ev q z)
  · rcases setE q with ⟨rfl, q, _⟩ | ⟨hne, q⟩
    · cases q
    · obtain ⟨c, us, k1, k2, k4⟩ := R.ro j ws q
      exact ⟨c, us, k1, ok.r c us k2, FzL.ok ok ws us k4⟩
  · have own : ∀ {j : Nat} {ws : PyData}, (E.set i (some (.own ys)))[j]? = some (some (.own ws)) → ∃ us, E[j]? = some (some (.own us)) := by
      intro j ws q
      rcases setE q with ⟨rfl, q, _⟩ | ⟨hne, q⟩
      · exact ⟨xs, z⟩
      · exact ⟨ws, q⟩
    obtain ⟨us', q3⟩ := own q3
    obtain ⟨ws', q4⟩ := own q4
    exact R.inj j k c us' ws' q1 q2 q3 q4
  · obtain ⟨us, g, mg⟩ := R.lt b q
    by_cases hb : b = a
    · subst hb
      exact ⟨vs', List.getElem?_set_self la, f.mu⟩
    · exact ⟨us, (get b hb).trans g, mg⟩
  · rcases setE q2 with ⟨rfl, y, _⟩ | ⟨_, q2⟩
    · exact ⟨j, xs, q1, z⟩
    · exact ⟨j, ws, q1, q2⟩
end HI

set_option maxRecDepth 100000
set_option maxHeartbeats 4000000
/-! calls: over data as in the heap -/
namespace HI
open PySem L2

/-- what is kept, whatever the names -/
structure Gst (n : Nat) (h : Hh) (A M : Av) (h' : Hh) (A' : Av) : Prop where
  le : h.length ≤ h'.length
  sub : ∀ b, A' b → A b ∨ h.length ≤ b
  keep : ∀ b, b < n → A b → ¬ M b → A' b
  same : ∀ b : Nat, b < h.length → ¬ M b → (A b → b < n) → h'[b]? = h[b]?
theorem Pst.g {n e h A E h' A' E'} (p : Pst n e h A E h' A' E') : Gst n h A (Oa e E) h' A' := ⟨p.le, p.sub, p.keep, p.same⟩
theorem Gst.refl {n h A M} : Gst n h A M h A := ⟨Nat.le_refl _, fun _ z => .inl z, fun _ _ z _ => z, fun _ _ _ _ => rfl⟩
theorem Gst.trans {n h A M h1 A1 M1 h2 A2} (hn : n ≤ h.length) (p : Gst n h A M h1 A1) (q : Gst n h1 A1 M1 h2 A2) (m : ∀ b, M1 b → M b ∨ h.length ≤ b) : Gst n h A M h2 A2 := by
  refine ⟨Nat.le_trans p.le q.le, fun b z => ?_, fun b l z k => q.keep b l (p.keep b l z k) fun y => (m b y).elim k fun y => absurd (Nat.lt_of_lt_of_le l hn) (Nat.not_lt_of_le y), fun b l k z => ?_⟩
  · rcases q.sub b z with z | z
    · exact p.sub b z
    · exact .inr (Nat.le_trans p.le z)
  · refine (q.same b (Nat.lt_of_lt_of_le l p.le) (fun y => (m b y).elim k fun y => absurd l (Nat.not_lt_of_le y)) fun y => ?_).trans (p.same b l k z)
    rcases p.sub b y with y | y
    · exact z y
    · exact absurd l (Nat.not_lt_of_le y)
theorem Gst.weak {n h A M M' h' A'} (p : Gst n h A M h' A') (m : ∀ b, M b → M' b) : Gst n h A M' h' A' := ⟨p.le, p.sub, fun b l z k => p.keep b l z fun y => k (m b y), fun b l k z => p.same b l (fun y => k (m b y)) z⟩
theorem Gst.mono {n m h A M h' A'} (l : m ≤ n) (p : Gst n h A M h' A') : Gst m h A M h' A' := ⟨p.le, p.sub, fun b hb => p.keep b (Nat.lt_of_lt_of_le hb l), fun b hb o q => p.same b hb o fun z => Nat.lt_of_lt_of_le (q z) l⟩
theorem Gst.ok {n h A M h' A'} (lt : ∀ b : Nat, A b → ∃ o : Ob, h[b]? = some o ∧ Mu o = true) (ma : ∀ b, M b → A b) (p : Gst n h A M h' A') : Ok h A h' A' := by
  have na : ∀ {b : Nat} {o : Ob}, h[b]? = some o → Mu o = false → ¬ A b := fun {b o} s k z => by
    obtain ⟨xs, y, my⟩ := lt b z
    rw [s] at y
    cases y
    rw [k] at my
    cases my
  refine ⟨fun b xs s _ n => ⟨(p.same b (lt_of_get s) (fun o => n (ma b o)) fun y => absurd y n).trans s, fun z => ?_⟩, fun b xs s => ?_, fun b xs s => ?_⟩
  · rcases p.sub b z with z | z
    · exact n z
    · exact absurd (lt_of_get s) (Nat.not_lt_of_le z)
  · have nb : ¬ A b := fun z => by
      obtain ⟨ys, y, my⟩ := lt b z
      unfold seqT at s
      rw [y] at s
      cases ys <;> first | (cases s; done) | (cases my; done)
    have e := p.same b (seqT_lt s) (fun o => nb (ma b o)) fun y => absurd y nb
    unfold seqT at *
    rw [e]; exact s
  · have nb := na s rfl
    exact (p.same b (lt_of_get s) (fun o => nb (ma b o)) fun y => absurd y nb).trans s

structure CallOk (C : Cfg) (D : DC) : Prop where
  cn : ∀ c, C.cname c = cnameOf D.I c
  hm : ∀ c ms, C.hasM c ms = hasMOf D.I c ms
  fd : ∀ c f, C.fld c f = fldOf D.I c f
  go : ∀ (f : String) (vas : List Va) (r : Re) (os : List (Option Va)), D.call f vas = some (r, os) → ∀ (vs : List V) (h : Hh) (A : Av), RelE h A (vs.map some) (vas.map some) →
    ∃ v h' A', C.call f vs h = some (.ok v, h') ∧ Gst h.length h A (Oa (vs.map some) (vas.map some)) h' A' ∧ RelE h' A' (vs.map some) os ∧
      (∀ (j : Nat) (xs : PyData), (vas.map some)[j]? = some (some (.own xs)) → ∃ v', os[j]? = some (some v')) ∧ RR h.length h' A' (vs.map some) os r v
section
variable {h : Hh} {A : Av} {e : Ev} {E : Dn}
theorem RRs.get : ∀ {rs : List Re} {vs : List V} {n : Nat}, RRs h A e E n rs vs → rs.length = vs.length ∧ ∀ (j : Nat) (r : Re), rs[j]? = some r → ∃ v, vs[j]? = some v ∧ RR n h A e E r v
  | [], vs, n, z => by
    have z : vs = [] := z
    subst z
    exact ⟨rfl, fun j r q => by cases q⟩
  | r :: rs, vs, n, ⟨v, ws, m, e1, l, z, lt, zs⟩ => by
    subst e1
    obtain ⟨q1, q2⟩ := RRs.get zs
    refine ⟨congrArg (· + 1) q1, fun j r' q => ?_⟩
    cases j with
    | zero => cases q; exact ⟨v, rfl, z⟩
    | succ j =>
      obtain ⟨v', k1, k2⟩ := q2 j r' q
      exact ⟨v', k1, k2.mono l⟩
theorem RRs.inj : ∀ {rs : List Re} {vs : List V} {n : Nat}, RRs h A e E n rs vs → ∀ (i j : Nat) (xs ys : PyData) (v : V), rs[i]? = some (.own xs) → rs[j]? = some (.own ys) → vs[i]? = some v → vs[j]? = some v → i = j
  | [], vs, n, z, i, j, xs, ys, v, q, _, _, _ => by cases q
  | r :: rs, vs, n, ⟨v, ws, m, e1, l, z, lt, zs⟩, i, j, xs, ys, u, q1, q2, q3, q4 => by
    subst e1
    have far : ∀ (j : Nat) (ys : PyData) (u : V), rs[j]? = some (.own ys) → ws[j]? = some u → ∃ a, u = .ref a ∧ m ≤ a := fun j ys u k1 k2 => by
      obtain ⟨v', k3, k4⟩ := zs.get.2 j _ k1
      rw [k2] at k3
      cases k3
      obtain ⟨a, vs, e1, e2, _⟩ := k4
      exact ⟨a, e1, e2⟩
    cases i with
    | zero =>
      cases q1
      cases q3
      cases j with
      | zero => rfl
      | succ j =>
        obtain ⟨a, rfl, l2⟩ := far j ys _ q2 q4
        exact absurd (Nat.lt_of_lt_of_le (lt a xs rfl rfl) l2) (Nat.lt_irrefl _)
    | succ i =>
      cases j with
      | zero =>
        cases q2
        cases q4
        obtain ⟨a, rfl, l2⟩ := far i xs _ q1 q3
        exact absurd (Nat.lt_of_lt_of_le (lt a ys rfl rfl) l2) (Nat.lt_irrefl _)
      | succ j => exact congrArg (· + 1) (RRs.inj zs i j xs ys u q1 q2 q3 q4)
/-- results, all apart -/
structure RRi (h : Hh) (A : Av) (e : Ev) (E : Dn) (n : Nat) (rs : List Re) (vs : List V) : Prop where
  get : rs.length = vs.length ∧ ∀ (j : Nat) (r : Re), rs[j]? = some r → ∃ v, vs[j]? = some v ∧ RR n h A e E r v
  inj : ∀ (i j : Nat) (xs ys : PyData) (v : V), rs[i]? = some (.own xs) → rs[j]? = some (.own ys) → vs[i]? = some v → vs[j]? = some v → i = j
theorem RRs.i {rs : List Re} {vs : List V} {n : Nat} (z : RRs h A e E n rs vs) : RRi h A e E n rs vs := ⟨z.get, z.inj⟩
theorem resL_get : ∀ {rs : List Re} {vas : List Va}, resL E rs = some vas → rs.length = vas.length ∧ ∀ (j : Nat) (va : Va), vas[j]? = some va → ∃ r, rs[j]? = some r ∧ resO E r = some va
  | [], vas, m => by
    cases m
    exact ⟨rfl, fun j r q => by cases q⟩
  | r :: rs, vas, m => by
    obtain ⟨v, h1, m⟩ := Option.bind_eq_some_iff.mp (show ((resO E r).bind fun v => (resL E rs).map fun vs => v :: vs) = some vas from m)
    obtain ⟨ws, h2, m⟩ := Option.map_eq_some_iff.mp m
    subst m
    obtain ⟨q1, q2⟩ := resL_get h2
    refine ⟨congrArg (· + 1) q1, fun j va q => ?_⟩
    cases j with
    | zero => cases q; exact ⟨r, rfl, h1⟩
    | succ j => exact q2 j va q
theorem vars_mem : ∀ {rs : List Re} {j k : Nat}, rs[j]? = some (.var k) → k ∈ varsOf rs
  | r :: rs, 0, k, q => by cases q; exact List.mem_cons_self
  | r :: rs, j + 1, k, q => by
    have := vars_mem (rs := rs) (j := j) q
    cases r <;> first | exact this | exact List.mem_cons_of_mem _ this
theorem vars_inj : ∀ {rs : List Re} {i j k : Nat}, nodupB (varsOf rs) = true → rs[i]? = some (.var k) → rs[j]? = some (.var k) → i = j
  | [], i, j, k, _, q, _ => by cases q
  | r :: rs, i, j, k, nd, q1, q2 => by
    have nd' : nodupB (varsOf rs) = true := by
      cases r <;> first | exact nd | exact (Bool.and_eq_true_iff.mp nd).2
    cases i with
    | zero =>
      cases q1
      cases j with
      | zero => rfl
      | succ j =>
        have z := vars_mem (rs := rs) (j := j) q2
        have y := (Bool.and_eq_true_iff.mp (show (!(varsOf rs).contains k && nodupB (varsOf rs)) = true from nd)).1
        rw [List.contains_iff_mem.mpr z] at y
        cases y
    | succ i =>
      cases j with
      | zero =>
        cases q2
        have z := vars_mem (rs := rs) (j := i) q1
        have y := (Bool.and_eq_true_iff.mp (show (!(varsOf rs).contains k && nodupB (varsOf rs)) = true from nd)).1
        rw [List.contains_iff_mem.mpr z] at y
        cases y
      | succ j => exact congrArg (· + 1) (vars_inj nd' q1 q2)
theorem outAt_some : ∀ {rs : List Re} {os : List (Option Va)} {k : Nat} {o : Option Va}, outAt rs os k = some o → ∃ j : Nat, rs[j]? = some (.var k) ∧ os[j]? = some o
  | [], os, k, o, m => by cases os <;> cases m
  | r :: rs, [], k, o, m => by cases r <;> cases m
  | r :: rs, o' :: os, k, o, m => by
    have rest : outAt rs os k = some o → ∃ j : Nat, (r :: rs)[j]? = some (.var k) ∧ (o' :: os)[j]? = some o := fun m => by
      obtain ⟨j, h1, h2⟩ := outAt_some m
      exact ⟨j + 1, h1, h2⟩
    cases r with
    | var i =>
      replace m : (if i = k then some o' else outAt rs os k) = some o := m
      split at m
      · rename_i hi
        subst hi
        cases m
        exact ⟨0, rfl, rfl⟩
      · exact rest m
    | fz d => exact rest m
    | own d => exact rest m
    | rol d => exact rest m
theorem outAt_none : ∀ {rs : List Re} {os : List (Option Va)} {k : Nat}, rs.length = os.length → outAt rs os k = none → ∀ j : Nat, rs[j]? ≠ some (.var k)
  | [], os, k, _, m, j, q => by cases q
  | r :: rs, [], k, l, m, j, q => by cases l
  | r :: rs, o' :: os, k, l, m, j, q => by
    have l' : rs.length = os.length := Nat.succ.inj l
    have rest : outAt rs os k = none → ∀ j : Nat, rs[j]? ≠ some (.var k) := fun m => outAt_none l' m
    cases r with
    | var i =>
      replace m : (if i = k then some o' else outAt rs os k) = none := m
      split at m
      · cases m
      · rename_i hi
        cases j with
        | zero => cases q; exact hi rfl
        | succ j => exact rest m j q
    | fz d =>
      cases j with
      | zero => cases q
      | succ j => exact rest m j q
    | own d =>
      cases j with
      | zero => cases q
      | succ j => exact rest m j q
    | rol d =>
      cases j with
      | zero => cases q
      | succ j => exact rest m j q
theorem map_get {α β : Type} {f : α → β} {xs : List α} {i : Nat} {y : β} (q : (xs.map f)[i]? = some y) : ∃ x, xs[i]? = some x ∧ f x = y := by
  rw [List.getElem?_map] at q
  exact Option.map_eq_some_iff.mp q
/-- the arguments, as a state of their own -/
theorem args_rel (R : RelE h A e E) {rs : List Re} {vs : List V} {n : Nat} {vas : List Va} (z : RRi h A e E n rs vs) (nd : nodupB (varsOf rs) = true) (m : resL E rs = some vas) :
    RelE h A (vs.map some) (vas.map some) ∧ (∀ b, Oa (vs.map some) (vas.map some) b → Oa e E b ∨ (n ≤ b ∧ ¬ Oa e E b)) := by
  obtain ⟨l1, g1⟩ := z.get
  obtain ⟨l2, g2⟩ := resL_get m
  have at_ : ∀ (j : Nat) (va : Va), (vas.map some)[j]? = some (some va) → ∃ r v, rs[j]? = some r ∧ vs[j]? = some v ∧ resO E r = some va ∧ RR n h A e E r v := fun j va q => by
    obtain ⟨va', q1, q2⟩ := map_get q
    cases q2
    obtain ⟨r, k1, k2⟩ := g2 j va q1
    obtain ⟨v, k3, k4⟩ := g1 j r k1
    exact ⟨r, v, k1, k3, k2, k4⟩
  have vat : ∀ {j : Nat} {v : V}, vs[j]? = some v → (vs.map some)[j]? = some (some v) := fun q => by rw [List.getElem?_map, q]; rfl
  -- what an own argument is
  have own : ∀ (j : Nat) (xs : PyData), (vas.map some)[j]? = some (some (.own xs)) → ∃ (a : Nat) (ws : Ob), vs[j]? = some (.ref a) ∧ h[a]? = some ws ∧ A a ∧ Cn h A xs ws ∧
      ((rs[j]? = some (.own xs) ∧ n ≤ a ∧ ¬ Oa e E a) ∨ ∃ i, rs[j]? = some (.var i) ∧ E[i]? = some (some (.own xs)) ∧ e[i]? = some (some (.ref a))) := fun j xs q => by
    obtain ⟨r, v, k1, k2, k3, k4⟩ := at_ j _ q
    cases r with
    | fz d => cases k3
    | own ys =>
      cases k3
      obtain ⟨a, ws, rfl, c1, c2, c3, c4, c5⟩ := k4
      exact ⟨a, ws, k2, c2, c3, c5, .inl ⟨k1, c1, c4⟩⟩
    | rol ys => cases k3
    | var i =>
      have hs := slotV_ok (show slotV E i = some (.own xs) from k3)
      obtain ⟨a, ws, c1, c2, c3, c4⟩ := R.ow i xs hs
      rw [k4.1] at c1
      cases c1
      exact ⟨a, ws, k2, c2, c3, c4, .inr ⟨i, k1, hs, k4.1⟩⟩
  refine ⟨⟨by rw [List.length_map, List.length_map, ← l1, l2], fun j d q => ?_, fun j xs q => ?_, fun j xs q => ?_, fun i j a xs ys q1 q2 q3 q4 => ?_, R.lt⟩, fun b ⟨j, xs, q1, q2⟩ => ?_⟩
  · obtain ⟨r, v, k1, k2, k3, k4⟩ := at_ j _ q
    refine ⟨v, vat k2, ?_⟩
    cases r with
    | fz d => cases k3; exact k4
    | own ys => cases k3
    | rol ys => cases k3
    | var i =>
      have hs := slotV_ok (show slotV E i = some (.fz d) from k3)
      obtain ⟨u, c1, c2⟩ := R.fz i d hs
      rw [k4.1] at c1
      cases c1
      exact c2
  · obtain ⟨a, ws, c1, c2, c3, c4, _⟩ := own j xs q
    exact ⟨a, ws, vat c1, c2, c3, c4⟩
  · obtain ⟨r, v, k1, k2, k3, k4⟩ := at_ j _ q
    cases r with
    | fz d => cases k3
    | own ys => cases k3
    | rol ys =>
      cases k3
      obtain ⟨a, ws, rfl, c1, c2⟩ := k4
      exact ⟨a, ws, vat k2, c1, c2⟩
    | var i =>
      have hs := slotV_ok (show slotV E i = some (.rol xs) from k3)
      obtain ⟨a, ws, c1, c2, c3⟩ := R.ro i xs hs
      rw [k4.1] at c1
      cases c1
      exact ⟨a, ws, vat k2, c2, c3⟩
  · obtain ⟨v1, u1, u2⟩ := map_get q1
    obtain ⟨v2, u3, u4⟩ := map_get q2
    cases u2
    cases u4
    obtain ⟨a1, _, c1, _, _, _, c2⟩ := own i xs q3
    obtain ⟨a2, _, d1, _, _, _, d2⟩ := own j ys q4
    rw [u1] at c1
    rw [u3] at d1
    cases c1
    cases d1
    rcases c2 with ⟨c2, c3, c4⟩ | ⟨k, c2, c3, c4⟩ <;> rcases d2 with ⟨d2, d3, d4⟩ | ⟨l, d2, d3, d4⟩
    · exact z.inj i j xs ys _ c2 d2 u1 u3
    · exact absurd ⟨l, ys, d4, d3⟩ c4
    · exact absurd ⟨k, xs, c4, c3⟩ d4
    · have := R.inj k l a xs ys c4 d4 c3 d3
      subst this
      exact vars_inj nd c2 d2
  · obtain ⟨v1, u1, u2⟩ := map_get q1
    cases u2
    obtain ⟨a1, _, c1, _, _, _, c2⟩ := own j xs q2
    rw [u1] at c1
    cases c1
    rcases c2 with ⟨c2, c3, c4⟩ | ⟨k, c2, c3, c4⟩
    · exact .inr ⟨c3, c4⟩
    · exact .inl ⟨k, xs, c4, c3⟩
theorem callC_ok {C : Cfg} {D : DC} (K : CallOk C D) (R : RelE h A e E) {f : String} {rs : List Re} {vs : List V} {n : Nat} {r0 : Re} {vas : List Va} {os : List (Option Va)} (z : RRi h A e E n rs vs) (hn : n ≤ h.length) (nd : nodupB (varsOf rs) = true)
    (hv : resL E rs = some vas) (hc : D.call f vas = some (r0, os)) :
    ∃ v h' A', C.call f vs h = some (.ok v, h') ∧ Pst n e h A E h' A' (outs rs os E) ∧ RelE h' A' (vs.map some) os ∧ ((∀ i, r0 ≠ .var i) → (∀ xs, r0 ≠ .rol xs) → RR n h' A' e (outs rs os E) r0 v) := by
  obtain ⟨R0, mine0⟩ := args_rel R z nd hv
  obtain ⟨v, h', A', c1, p, prel, pdom, rr⟩ := K.go f vas r0 os hc vs h A R0
  obtain ⟨l1, g1⟩ := z.get
  obtain ⟨l2, g2⟩ := resL_get hv
  have lo : rs.length = os.length := by
    have := prel.len
    rw [List.length_map] at this
    rw [l1, this]
  have ok := Gst.ok R0.lt (fun b z => (R0.mine z).1) p
  have at_ : ∀ k, (outs rs os E)[k]? = (E[k]?).map (outV rs os k) := fun k => List.getElem?_mapIdx
  -- what stands after the call: as before, or a list of its own as the callee left it
  have cas : ∀ (k : Nat) (u : Option Va), (outs rs os E)[k]? = some u → (E[k]? = some u ∧ ∀ xs, u = some (.own xs) → ∀ j : Nat, rs[j]? ≠ some (.var k)) ∨ ∃ (j : Nat) (xs : PyData), E[k]? = some (some (.own xs)) ∧ rs[j]? = some (.var k) ∧ os[j]? = some u := by
    intro k u q
    rw [at_] at q
    obtain ⟨w, q1, q2⟩ := Option.map_eq_some_iff.mp q
    cases w with
    | none => cases q2; exact .inl ⟨q1, (fun xs z => by cases z)⟩
    | some w =>
      cases w with
      | fz d => cases q2; exact .inl ⟨q1, (fun xs z => by cases z)⟩
      | rol d => cases q2; exact .inl ⟨q1, (fun xs z => by cases z)⟩
      | own xs =>
        have q2 : (match outAt rs os k with | some o' => o' | none => some (.own xs)) = u := q2
        split at q2
        · rename_i o' ho
          subst q2
          obtain ⟨j, h1, h2⟩ := outAt_some ho
          exact .inr ⟨j, xs, q1, h1, h2⟩
        · rename_i ho
          subst q2
          exact .inl ⟨q1, fun _ _ => outAt_none lo ho⟩
  have e0 : ∀ {j k : Nat}, rs[j]? = some (.var k) → ∃ v, vs[j]? = some v ∧ (vs.map some)[j]? = some (some v) ∧ e[k]? = some (some v) := fun {j k} q => by
    obtain ⟨v, h1, h2⟩ := g1 j _ q
    exact ⟨v, h1, by rw [List.getElem?_map, h1]; rfl, h2.1⟩
  have v0 : ∀ {j k : Nat} {xs : PyData}, rs[j]? = some (.var k) → E[k]? = some (some (.own xs)) → (vas.map some)[j]? = some (some (.own xs)) := fun {j k xs} q1 q2 => by
    have hj : j < vas.length := by
      rw [← l2]
      exact Nat.lt_of_not_le fun q => by rw [List.getElem?_eq_none q] at q1; cases q1
    obtain ⟨va, hva⟩ : ∃ va, vas[j]? = some va := ⟨vas[j], List.getElem?_eq_getElem hj⟩
    obtain ⟨r', k1, k2⟩ := g2 j va hva
    rw [q1] at k1
    cases k1
    have : slotV E k = some va := k2
    have := slotV_ok this
    rw [q2] at this
    cases this
    rw [List.getElem?_map, hva]; rfl
  have mine : ∀ b, Oa e (outs rs os E) b → Oa e E b := fun b ⟨k, xs, q1, q2⟩ => by
    rcases cas k _ q2 with ⟨q3, _⟩ | ⟨j, ys, q3, _, _⟩
    · exact ⟨k, xs, q1, q3⟩
    · exact ⟨k, ys, q1, q3⟩
  have ownE : ∀ {k : Nat} {xs : PyData}, (outs rs os E)[k]? = some (some (.own xs)) → ∃ ys, E[k]? = some (some (.own ys)) := fun {k xs} q => by
    rcases cas k _ q with ⟨q3, _⟩ | ⟨j, ys, q3, _, _⟩
    · exact ⟨xs, q3⟩
    · exact ⟨ys, q3⟩
  have P : Pst n e h A E h' A' (outs rs os E) := by
    refine ⟨p.le, p.sub, fun b hb q1 q2 => p.keep b (Nat.lt_of_lt_of_le hb hn) q1 fun o => ?_, fun b hb q1 q2 => p.same b hb (fun o => ?_) fun _ => hb, ⟨?_, fun k d q => ?_, fun k xs q => ?_, fun k xs q => ?_, fun i j a xs ys q1 q2 q3 q4 => ?_, prel.lt⟩, mine, fun k va q => ?_⟩
    · rcases mine0 b o with y | ⟨y, _⟩
      · exact q2 y
      · omega
    · rcases mine0 b o with y | ⟨y, _⟩
      · exact q1 y
      · have := q2 (R0.mine o).1
        omega
    · show e.length = (E.mapIdx _).length
      rw [List.length_mapIdx]; exact R.len
    · rcases cas k _ q with ⟨q3, _⟩ | ⟨j, ys, q3, q4, q5⟩
      · obtain ⟨u, h1, h2⟩ := R.fz k d q3
        exact ⟨u, h1, Fz.ok ok d u h2⟩
      · obtain ⟨u, h1, h2, h3⟩ := e0 q4
        obtain ⟨u', h4, h5⟩ := prel.fz j d q5
        rw [h2] at h4
        cases h4
        exact ⟨u, h3, h5⟩
    · rcases cas k _ q with ⟨q3, q4⟩ | ⟨j, ys, q3, q4, q5⟩
      · obtain ⟨a, ws, h1, h2, h3, h4⟩ := R.ow k xs q3
        have no0 : ¬ Oa (vs.map some) (vas.map some) a := fun ⟨j, ys, y1, y2⟩ => by
          obtain ⟨va', w1, w2⟩ := map_get y2
          cases w2
          obtain ⟨r', w3, w4⟩ := g2 j _ w1
          obtain ⟨u, w5, w6⟩ := g1 j r' w3
          obtain ⟨u', w7, w8⟩ := map_get y1
          cases w8
          rw [w5] at w7
          cases w7
          cases r' with
          | fz d => cases w4
          | rol d => cases w4
          | own d =>
            obtain ⟨a', _, w9, _, _, _, w10, _⟩ := w6
            cases w9
            exact w10 ⟨k, xs, h1, q3⟩
          | var i =>
            have hs := slotV_ok (show slotV E i = some (.own ys) from w4)
            have := R.inj i k a ys xs w6.1 h1 hs q3
            subst this
            exact q4 xs rfl j w3
        have la := lt_of_get h2
        exact ⟨a, ws, h1, (p.same a la no0 fun _ => la).trans h2, p.keep a la h3 no0, h4.ok ok⟩
      · obtain ⟨u, h1, h2, h3⟩ := e0 q4
        obtain ⟨a, ws, h4, h5, h6, h7⟩ := prel.ow j xs q5
        rw [h2] at h4
        cases h4
        exact ⟨a, ws, h3, h5, h6, h7⟩
    · rcases cas k _ q with ⟨q3, _⟩ | ⟨j, ys, q3, q4, q5⟩
      · obtain ⟨a, ws, h1, h2, h3⟩ := R.ro k xs q3
        exact ⟨a, ws, h1, ok.r a ws h2, FzL.ok ok _ ws h3⟩
      · obtain ⟨u, h1, h2, h3⟩ := e0 q4
        obtain ⟨a, ws, h4, h5, h7⟩ := prel.ro j xs q5
        rw [h2] at h4
        cases h4
        exact ⟨a, ws, h3, h5, h7⟩
    · obtain ⟨us, y3⟩ := ownE q3
      obtain ⟨ws, y4⟩ := ownE q4
      exact R.inj i j a us ws q1 q2 y3 y4
    · have q' : (outs rs os E)[k]? = some (outV rs os k (some va)) := by rw [at_, q]; rfl
      cases hu : outV rs os k (some va) with
      | some u => exact ⟨u, by rw [q', hu]⟩
      | none =>
        rw [hu] at q'
        rcases cas k _ q' with ⟨q3, _⟩ | ⟨j, ys, q3, q4, q5⟩
        · rw [q] at q3; cases q3
        · obtain ⟨u', y⟩ := pdom j _ (v0 q4 q3)
          rw [q5] at y
          cases y
  refine ⟨v, h', A', c1, P, prel, fun nv nr => ?_⟩
  cases r0 with
  | var i => exact absurd rfl (nv i)
  | rol i => exact absurd rfl (nr i)
  | fz d => exact rr
  | own xs =>
    obtain ⟨a, ws, rfl, y1, y2, y3, y4, y5⟩ := rr
    refine ⟨a, ws, rfl, Nat.le_trans hn y1, y2, y3, fun o => ?_, y5⟩
    have := R.lt_mine (mine a o)
    omega
theorem callR_ok {C : Cfg} {D : DC} (K : CallOk C D) (R : RelE h A e E) {f : String} {rs : List Re} {vs : List V} {n : Nat} {r : Re} {E' : Dn} (z : RRs h A e E n rs vs) (hn : n ≤ h.length) (m : callR D f rs E = some (r, E')) :
    ∃ v h' A', C.call f vs h = some (.ok v, h') ∧ Pst n e h A E h' A' E' ∧ RR n h' A' e E' r v := by
  unfold callR at m
  split at m
  · rename_i nd
    split at m
    · rename_i vas hv
      split at m
      · rename_i r0 os hc
        obtain ⟨v, h', A', c1, p, _, rr⟩ := callC_ok K R z.i hn nd hv hc
        have res : r0 = r ∧ E' = outs rs os E ∧ (∀ i, r ≠ .var i) ∧ ∀ xs, r ≠ .rol xs := by
          cases r0 with
          | var i => cases m
          | rol i => cases m
          | fz d => cases m; exact ⟨rfl, rfl, (fun _ z => by cases z), (fun _ z => by cases z)⟩
          | own d => cases m; exact ⟨rfl, rfl, (fun _ z => by cases z), (fun _ z => by cases z)⟩
        obtain ⟨rfl, rfl, nv, nr⟩ := res
        exact ⟨v, h', A', c1, p, rr nv nr⟩
      · cases m
    · cases m
  · cases m
/-- a call with a receiver ahead of the arguments -/
theorem callI_ok {C : Cfg} {D : DC} (K : CallOk C D) (R : RelE h A e E) {f : String} {rs : List Re} {vs : List V} {n : Nat} {r : Re} {E' : Dn} (z : RRi h A e E n rs vs) (hn : n ≤ h.length) (m : callR D f rs E = some (r, E')) :
    ∃ v h' A', C.call f vs h = some (.ok v, h') ∧ Pst n e h A E h' A' E' ∧ RR n h' A' e E' r v := by
  unfold callR at m
  split at m
  · rename_i nd
    split at m
    · rename_i vas hv
      split at m
      · rename_i r0 os hc
        obtain ⟨v, h', A', c1, p, _, rr⟩ := callC_ok K R z hn nd hv hc
        have res : r0 = r ∧ E' = outs rs os E ∧ (∀ i, r ≠ .var i) ∧ ∀ xs, r ≠ .rol xs := by
          cases r0 with
          | var i => cases m
          | rol i => cases m
          | fz d => cases m; exact ⟨rfl, rfl, (fun _ z => by cases z), (fun _ z => by cases z)⟩
          | own d => cases m; exact ⟨rfl, rfl, (fun _ z => by cases z), (fun _ z => by cases z)⟩
        obtain ⟨rfl, rfl, nv, nr⟩ := res
        exact ⟨v, h', A', c1, p, rr nv nr⟩
      · cases m
    · cases m
  · cases m
/-- a new instance, its __init__ run -/
theorem mkR_ok {C : Cfg} {D : DC} (K : CallOk C D) (R : RelE h A e E) {c : Nat} {rs : List Re} {vs : List V} {n : Nat} {r : Re} {E' : Dn} (z : RRs h A e E n rs vs) (hn : n ≤ h.length) (m : mkR D c rs E = some (r, E')) :
    ∃ v h' A', makeO C c vs h = some (.ok v, h') ∧ Pst n e h A E h' A' E' ∧ RR n h' A' e E' r v := by
  unfold mkR at m
  split at m
  · rename_i nd
    split at m
    · rename_i vas hv
      let A0 := plus A h.length
      let h0 := h ++ [Ob.ins c []]
      have p0 : Pst n e h A E h0 A0 E := pst_obj R rfl
      have p0' : Pst h.length e h A E h0 A0 E := pst_obj R rfl
      have z0 := (RRs.step R p0' z).i
      have rnew : RR n h0 A0 e E (.own (insD c [])) (.ref h.length) := by
        refine ⟨h.length, .ins c [], rfl, hn, getNew, .inr rfl, fun o => Nat.lt_irrefl _ (R.lt_mine o), c, [], rfl, ?_⟩
        show FzI h0 A0 c ((.none, .int c) :: encF []) []
        simp only [FzI, encF, FzF]
        exact ⟨trivial, trivial, trivial⟩
      have far : ∀ (j : Nat) (xs : PyData) (u : V), rs[j]? = some (.own xs) → vs[j]? = some u → ∃ a, u = .ref a ∧ a < h.length := fun j xs u q1 q2 => by
        obtain ⟨v', k1, k2⟩ := z.i.get.2 j _ q1
        rw [q2] at k1
        cases k1
        obtain ⟨a, o, e1, _, g, _⟩ := k2
        exact ⟨a, e1, lt_of_get g⟩
      have zi : RRi h0 A0 e E n (.own (insD c []) :: rs) (.ref h.length :: vs) := by
        refine ⟨⟨congrArg (· + 1) z0.get.1, fun j r q => ?_⟩, fun i j xs ys v q1 q2 q3 q4 => ?_⟩
        · cases j with
          | zero => cases q; exact ⟨_, rfl, rnew⟩
          | succ j => exact z0.get.2 j r q
        · cases i with
          | zero =>
            cases q3
            cases j with
            | zero => rfl
            | succ j =>
              obtain ⟨a, e1, l⟩ := far j ys _ q2 q4
              cases e1
              exact absurd l (Nat.lt_irrefl _)
          | succ i =>
            cases j with
            | zero =>
              cases q4
              obtain ⟨a, e1, l⟩ := far i xs _ q1 q3
              cases e1
              exact absurd l (Nat.lt_irrefl _)
            | succ j => exact congrArg (· + 1) (z0.inj i j xs ys v q1 q2 q3 q4)
      have hv0 : resL E (.own (insD c []) :: rs) = some (.own (insD c []) :: vas) := by
        show ((some (Va.own (insD c []))).bind fun v => (resL E rs).map fun vs => v :: vs) = _
        rw [hv]; rfl
      have fin : ∀ (os : List (Option Va)) (o : Option Va), outs (.own (insD c []) :: rs) (o :: os) E = outs rs os E := fun os o => by
        unfold outs
        congr 1
      have go : ∀ (o : Va) (os : List (Option Va)), D.call (cnameOf D.I c ++ ".__init__") (.own (insD c []) :: vas) = some (.fz .none, some o :: os) →
          ∃ h' A', makeO C c vs h = some (.ok (.ref h.length), h') ∧ Pst n e h A E h' A' (outs rs os E) ∧ RelE h' A' ((V.ref h.length :: vs).map some) (some o :: os) := by
        intro o os hc
        obtain ⟨v, h', A', c1, p, prel, rr⟩ := callC_ok K p0.rel zi (Nat.le_trans hn p0.le) nd hv0 hc
        rw [fin] at p
        have rn := rr (fun _ z => by cases z) (fun _ z => by cases z)
        have rn : v = .non := by
          have : Fz h' A' .none v := rn
          simpa only [Fz] using this
        subst rn
        refine ⟨h', A', ?_, p0.trans p, prel⟩
        unfold makeO
        rw [bd_eq (show alloc (Ob.ins c []) h = some (.ok (.ref h.length), h0) from rfl)]
        show bd (C.call (C.cname c ++ ".__init__") (V.ref h.length :: vs)) _ h0 = _
        rw [K.cn, bd_eq c1, if_pos rfl]; rfl
      split at m
      · rename_i d os hc
        cases m
        obtain ⟨h', A', c1, p, prel⟩ := go _ _ hc
        refine ⟨_, h', A', c1, p, ?_⟩
        obtain ⟨a, o, q1, q2, q3, q4⟩ := prel.ow 0 d rfl
        cases q1
        refine ⟨h.length, o, rfl, hn, q2, q3, fun oo => ?_, q4⟩
        exact Nat.lt_irrefl _ (R.lt_mine (p.mine _ oo))
      · rename_i d os hc
        cases m
        obtain ⟨h', A', c1, p, prel⟩ := go _ _ hc
        refine ⟨_, h', A', c1, p, ?_⟩
        obtain ⟨v, q1, q2⟩ := prel.fz 0 d rfl
        cases q1
        exact q2
      · cases m
    · cases m
  · cases m
end
end HI

set_option maxRecDepth 100000
set_option maxHeartbeats 4000000
/-! walks and comprehensions: over data as in the heap -/
namespace HI
open PySem L2

theorem RelE.of_sub {h A e E e' E'} (R : RelE h A e E) (l : e'.length = E'.length) (k : ∀ (j : Nat) (v : Va), E'[j]? = some (some v) → E[j]? = some (some v) ∧ e'[j]? = e[j]?) : RelE h A e' E' := by
  refine ⟨l, fun j d z => ?_, fun j xs z => ?_, fun j xs z => ?_, fun i j a xs ys z1 z2 z3 z4 => ?_, R.lt⟩
  · obtain ⟨z, y⟩ := k j _ z
    rw [y]; exact R.fz j d z
  · obtain ⟨z, y⟩ := k j _ z
    rw [y]; exact R.ow j xs z
  · obtain ⟨z, y⟩ := k j _ z
    rw [y]; exact R.ro j xs z
  · obtain ⟨z3, y3⟩ := k i _ z3
    obtain ⟨z4, y4⟩ := k j _ z4
    rw [y3] at z1
    rw [y4] at z2
    exact R.inj i j a xs ys z1 z2 z3 z4
theorem ev_set {e : Ev} {i j : Nat} {o : Option V} (hj : j ≠ i) : (e.set i o)[j]? = e[j]? := List.getElem?_set_ne (Ne.symm hj)
theorem RelE.bound {h A e E} (R : RelE h A e E) {i : Nat} (l : i < E.length) : i < e.length := by rw [R.len]; exact l
/-- a name takes data -/
theorem RelE.setFz {h A e E} (R : RelE h A e E) {i : Nat} {d : PyData} {v : V} (f : Fz h A d v) : RelE h A (e.set i (some v)) (E.set i (some (.fz d))) := by
  have own : ∀ {j : Nat} {xs : PyData}, (E.set i (some (.fz d)))[j]? = some (some (.own xs)) → E[j]? = some (some (.own xs)) ∧ (e.set i (some v))[j]? = e[j]? := fun {j xs} z => by
    rcases setE z with ⟨rfl, y, _⟩ | ⟨hj, y⟩
    · cases y
    · exact ⟨y, ev_set hj⟩
  refine ⟨by rw [List.length_set, List.length_set]; exact R.len, fun j c z => ?_, fun j xs z => ?_, fun j xs z => ?_, fun j k a xs ys z1 z2 z3 z4 => ?_, R.lt⟩
  · rcases setE z with ⟨rfl, y, l⟩ | ⟨hj, y⟩
    · cases y
      exact ⟨v, List.getElem?_set_self (R.bound l), f⟩
    · rw [ev_set hj]; exact R.fz j c y
  · obtain ⟨y, y2⟩ := own z
    rw [y2]; exact R.ow j xs y
  · rcases setE z with ⟨rfl, y, l⟩ | ⟨hj, y⟩
    · cases y
    · rw [ev_set hj]; exact R.ro j xs y
  · obtain ⟨y3, w3⟩ := own z3
    obtain ⟨y4, w4⟩ := own z4
    rw [w3] at z1
    rw [w4] at z2
    exact R.inj j k a xs ys z1 z2 y3 y4
theorem oa_setFz {e : Ev} {E : Dn} {i : Nat} {d : PyData} {v : V} {b : Nat} (o : Oa (e.set i (some v)) (E.set i (some (.fz d))) b) : Oa e E b := by
  obtain ⟨j, xs, z1, z2⟩ := o
  rcases setE z2 with ⟨rfl, y, _⟩ | ⟨hj, y⟩
  · cases y
  · rw [ev_set hj] at z1
    exact ⟨j, xs, z1, y⟩
theorem setsD_ok {h : Hh} {A : Av} : ∀ {is : List Nat} {ds : List PyData} {xs : List V} {e : Ev} {E E' : Dn}, RelE h A e E → FzL h A ds xs → setsD is ds E = some E' → ∃ e', setAll is xs e = some e' ∧ RelE h A e' E' ∧ (∀ b, Oa e' E' b → Oa e E b)
  | [], [], xs, e, E, E', R, r, m => by
    simp only [FzL] at r
    subst r
    cases m
    exact ⟨e, rfl, R, fun _ z => z⟩
  | i :: is, d :: ds, xs, e, E, E', R, r, m => by
    simp only [FzL] at r
    obtain ⟨x, xr, rfl, f, g⟩ := r
    obtain ⟨e', h1, h2, h3⟩ := setsD_ok (R.setFz (i := i) f) g (show setsD is ds (E.set i (some (.fz d))) = some E' from m)
    exact ⟨e', h1, h2, fun b o => oa_setFz (h3 b o)⟩
  | [], _ :: _, _, _, _, _, _, _, m => by cases m
  | _ :: _, [], _, _, _, _, _, _, m => by cases m
theorem asgD_ok {h : Hh} {A : Av} {e : Ev} {E E' : Dn} {t : Tg} {d : PyData} {x : V} (R : RelE h A e E) (f : Fz h A d x) (m : asgD t d E = some E') : ∃ e', asg t x e h = some e' ∧ RelE h A e' E' ∧ (∀ b, Oa e' E' b → Oa e E b) := by
  cases t with
  | nm i =>
    cases m
    exact ⟨_, rfl, R.setFz f, fun b o => oa_setFz o⟩
  | tp is =>
    unfold asgD at m
    dsimp only at m
    split at m
    · rename_i ds
      simp only [Fz] at f
      obtain ⟨a, xs, rfl, s, r⟩ := f
      obtain ⟨e', h1, h2, h3⟩ := setsD_ok R r m
      refine ⟨e', ?_, h2, h3⟩
      show (match seqT h a with | some xs => setAll is xs e | none => none) = _
      rw [s]; exact h1
    · cases m

/-! ### walks -/
def SrcR (h : Hh) (A : Av) (e : Ev) (E : Dn) : Src → Nat → Nat → Prop
  | .fz xs, a, len => len = xs.length ∧ ∃ vs, FzL h A xs vs ∧ ((h[a]? = some (.lst vs) ∧ ¬ Oa e E a) ∨ h[a]? = some (.rol vs))
  | .var i n, a, len => len = n ∧ e[i]? = some (some (.ref a))
def SrcT (h : Hh) (A : Av) : Src → Nat → Nat → Prop
  | .fz xs, a, len => len = xs.length ∧ ∃ vs, FzL h A xs vs ∧ seqT h a = some vs
  | .var _ _, _, _ => False
def WR (h : Hh) (A : Av) (e : Ev) (E : Dn) : Wd → Iv → Prop
  | .seq s, .lst a xs => SrcR h A e E s a xs.length
  | .seq s, .tup a xs => SrcT h A s a xs.length
  | .rng lo n, .rng lo' n' => lo = lo' ∧ n = n'
  | .enum s, .enum a xs => SrcR h A e E s a xs.length
  | .zip s t, .zip a b xs ys => SrcR h A e E s a xs.length ∧ SrcR h A e E t b ys.length
  | _, _ => False
section
variable {h : Hh} {A : Av} {e : Ev} {E : Dn}
theorem SrcR.now (R : RelE h A e E) {s : Src} {a len : Nat} {ds : List PyData} (z : SrcR h A e E s a len) (m : s.now E = some ds) : ∃ vs, nowL h a len = some vs ∧ FzL h A ds vs := by
  cases s with
  | fz xs =>
    cases m
    obtain ⟨l, vs, r, g⟩ := z
    refine ⟨vs, ?_, r⟩
    have s : seqL h a = some vs := by
      unfold seqL
      rcases g with ⟨g, _⟩ | g <;> rw [g]
    unfold nowL
    rw [s]
    dsimp only
    rw [if_pos (r.len.symm.trans l.symm)]
  | var i n =>
    obtain ⟨rfl, ev⟩ := z
    have m : (match (slotV E i).bind Va.d with | some (.list xs) => if xs.length = len then some xs else none | _ => none) = some ds := m
    split at m
    · rename_i xs hd
      split at m
      · rename_i hl
        cases m
        obtain ⟨va, h1, h2⟩ := Option.bind_eq_some_iff.mp hd
        obtain ⟨a', vs, e1, g, r⟩ := vw_list (va_vw R (slotV_ok h1) ev h2)
        cases e1
        refine ⟨vs, ?_, r⟩
        unfold nowL
        rw [seqL_of g]
        dsimp only
        rw [if_pos (r.len.symm.trans hl)]
      · cases m
    · cases m
theorem SrcT.now {s : Src} {a len : Nat} {ds : List PyData} (z : SrcT h A s a len) (m : s.now E = some ds) : ∃ vs, nowT h a len = some vs ∧ FzL h A ds vs := by
  cases s with
  | fz xs =>
    cases m
    obtain ⟨l, vs, r, g⟩ := z
    refine ⟨vs, ?_, r⟩
    unfold nowT
    rw [g]
    dsimp only
    rw [if_pos (r.len.symm.trans l.symm)]
  | var i n => exact z.elim
theorem SrcR.n {s : Src} {a len : Nat} (z : SrcR h A e E s a len) : s.n = len := by
  cases s with
  | fz xs => exact z.1.symm
  | var i n => exact z.1.symm
theorem SrcT.n {s : Src} {a len : Nat} (z : SrcT h A s a len) : s.n = len := by
  cases s with
  | fz xs => exact z.1.symm
  | var i n => exact z.elim
theorem WR.size {w : Wd} {iv : Iv} (z : WR h A e E w iv) : w.n = iv.size := by
  cases w <;> cases iv <;> first | exact z.elim | skip
  · exact SrcR.n z
  · exact SrcT.n z
  · exact z.2
  · exact SrcR.n z
  · exact congr (congrArg min (SrcR.n z.1)) (SrcR.n z.2)
theorem SrcR.at (R : RelE h A e E) {s : Src} {a len i : Nat} {d : PyData} (z : SrcR h A e E s a len) (m : s.at E i = some d) : ∃ x, look (fun h => itemO (nowL h a len) i) h = some (.ok x, h) ∧ Fz h A d x := by
  unfold Src.at at m
  split at m
  · rename_i ds hd
    obtain ⟨vs, h1, h2⟩ := z.now R hd
    obtain ⟨x, h3, h4⟩ := h2.get m
    refine ⟨x, ?_, h4⟩
    show (itemO (nowL h a len) i).map _ = _
    rw [h1]
    show (vs[i]?).map _ = _
    rw [h3]; rfl
  · cases m
theorem SrcT.at {s : Src} {a len i : Nat} {d : PyData} (z : SrcT h A s a len) (m : s.at E i = some d) : ∃ x, look (fun h => itemO (nowT h a len) i) h = some (.ok x, h) ∧ Fz h A d x := by
  unfold Src.at at m
  split at m
  · rename_i ds hd
    obtain ⟨vs, h1, h2⟩ := z.now hd
    obtain ⟨x, h3, h4⟩ := h2.get m
    refine ⟨x, ?_, h4⟩
    show (itemO (nowT h a len) i).map _ = _
    rw [h1]
    show (vs[i]?).map _ = _
    rw [h3]; rfl
  · cases m
theorem new_fz {n : Nat} (R : RelE h A e E) {ds : List PyData} {vs : List V} (r : FzL h A ds vs) : Pst n e h A E (h ++ [.tup vs]) A E ∧ Fz (h ++ [.tup vs]) A (.tuple ds) (.ref h.length) := by
  refine ⟨pst_tup R, ?_⟩
  simp only [Fz]
  refine ⟨h.length, vs, rfl, ?_, FzL.ok (ok_app fun b l z => z) ds vs r⟩
  unfold seqT
  rw [getNew]
theorem WR.at {n : Nat} (R : RelE h A e E) {w : Wd} {iv : Iv} {i : Nat} {d : PyData} (z : WR h A e E w iv) (m : w.at i E = some d) : ∃ x h1, iv.at i h = some (.ok x, h1) ∧ Pst n e h A E h1 A E ∧ Fz h1 A d x := by
  cases w <;> cases iv <;> first | exact z.elim | skip
  · obtain ⟨x, h1, h2⟩ := SrcR.at R z m
    exact ⟨x, h, h1, Pst.refl R, h2⟩
  · obtain ⟨x, h1, h2⟩ := SrcT.at z m
    exact ⟨x, h, h1, Pst.refl R, h2⟩
  · rename_i lo k lo' k'
    obtain ⟨rfl, rfl⟩ := z
    have m : (if i < k then some (PyData.int (lo + i)) else none) = some d := m
    split at m
    · rename_i c
      cases m
      refine ⟨.int (lo + i), h, ?_, Pst.refl R, fz_int⟩
      show (if i < k then rt (.int (lo + i)) else no : Mo V) h = _
      rw [if_pos c]; rfl
    · cases m
  · rename_i s a xs
    obtain ⟨u, hu, m⟩ := Option.map_eq_some_iff.mp (show (s.at E i).map (fun x => PyData.tuple [.int (i : Nat), x]) = some d from m)
    subst m
    obtain ⟨x, h1, h2⟩ := SrcR.at R z hu
    obtain ⟨p, f⟩ := new_fz (n := n) R (FzL.cons (fz_int (b := (i : Nat))) (FzL.one h2))
    refine ⟨_, _, ?_, p, f⟩
    show bd (look fun h => itemO (nowL h a xs.length) i) (fun x => alloc (.tup [.int (i : Nat), x])) h = _
    rw [bd_eq h1]; rfl
  · rename_i s t a b xs ys
    obtain ⟨u, hu, m⟩ := Option.bind_eq_some_iff.mp (show ((s.at E i).bind fun x => (t.at E i).map fun y => PyData.tuple [x, y]) = some d from m)
    obtain ⟨v, hv, m⟩ := Option.map_eq_some_iff.mp m
    subst m
    obtain ⟨x, h1, h2⟩ := SrcR.at R z.1 hu
    obtain ⟨y, h3, h4⟩ := SrcR.at R z.2 hv
    obtain ⟨p, f⟩ := new_fz (n := n) R (FzL.cons h2 (FzL.one h4))
    refine ⟨_, _, ?_, p, f⟩
    show bd (look fun h => itemO (nowL h a xs.length) i) (fun x => bd (look fun h => itemO (nowL h b ys.length) i) fun y => alloc (.tup [x, y])) h = _
    rw [bd_eq h1, bd_eq h3]; rfl
theorem WR.ends (R : RelE h A e E) {w : Wd} {iv : Iv} (z : WR h A e E w iv) (m : w.ends E = true) : iv.ends h = true := by
  have one : ∀ {s : Src} {a len : Nat}, SrcR h A e E s a len → (s.now E).isSome = true → (nowL h a len).isSome = true := fun {s a len} z m => by
    obtain ⟨ds, hd⟩ := Option.isSome_iff_exists.mp m
    obtain ⟨vs, h1, _⟩ := z.now R hd
    rw [h1]; rfl
  cases w <;> cases iv <;> first | exact z.elim | skip
  · exact one z m
  · obtain ⟨ds, hd⟩ := Option.isSome_iff_exists.mp (show (Src.now E _).isSome = true from m)
    obtain ⟨vs, h1, _⟩ := SrcT.now z hd
    show (nowT h _ _).isSome = true
    rw [h1]; rfl
  · rfl
  · exact one z m
  · have m : ((Src.now E _).isSome && (Src.now E _).isSome) = true := m
    rw [Bool.and_eq_true] at m
    show ((nowL h _ _).isSome && (nowL h _ _).isSome) = true
    rw [one z.1 m.1, one z.2 m.2]; rfl
/-- the walk goes on elsewhere, over names that stand -/
theorem SrcR.go {h' : Hh} {A' : Av} {e' : Ev} {E' : Dn} {s : Src} {a len : Nat} (ok : Ok h A h' A') (sm : ∀ (b : Nat) (vs : List V), h[b]? = some (.lst vs) → ¬ Oa e E b → h'[b]? = some (.lst vs) ∧ ¬ Oa e' E' b) (ve : ∀ i ∈ s.vars, e'[i]? = e[i]?) (z : SrcR h A e E s a len) : SrcR h' A' e' E' s a len := by
  cases s with
  | fz xs =>
    obtain ⟨l, vs, r, g⟩ := z
    refine ⟨l, vs, FzL.ok ok xs vs r, ?_⟩
    rcases g with ⟨g, o⟩ | g
    · exact .inl (sm a vs g o)
    · exact .inr (ok.r a vs g)
  | var i n => exact ⟨z.1, (ve i (List.mem_singleton.mpr rfl)).trans z.2⟩
theorem WR.go {h' : Hh} {A' : Av} {e' : Ev} {E' : Dn} {w : Wd} {iv : Iv} (ok : Ok h A h' A') (sm : ∀ (b : Nat) (vs : List V), h[b]? = some (.lst vs) → ¬ Oa e E b → h'[b]? = some (.lst vs) ∧ ¬ Oa e' E' b) (ve : ∀ i ∈ w.vars, e'[i]? = e[i]?) (z : WR h A e E w iv) : WR h' A' e' E' w iv := by
  cases w <;> cases iv <;> first | exact z.elim | skip
  · exact SrcR.go ok sm ve z
  · rename_i s a xs
    cases s with
    | fz ys =>
      obtain ⟨l, vs, r, g⟩ := z
      exact ⟨l, vs, FzL.ok ok ys vs r, ok.t a vs g⟩
    | var i n => exact z.elim
  · exact z
  · exact SrcR.go ok sm ve z
  · exact ⟨SrcR.go ok sm (fun i hi => ve i (List.mem_append_left _ hi)) z.1, SrcR.go ok sm (fun i hi => ve i (List.mem_append_right _ hi)) z.2⟩
theorem sm_of {n : Nat} {h' : Hh} {A' M : Av} {e' : Ev} {E' : Dn} (g : Gst h.length h A (Oa e E) h' A') (m : ∀ b, Oa e' E' b → Oa e E b ∨ h.length ≤ b) : ∀ (b : Nat) (vs : List V), h[b]? = some (.lst vs) → ¬ Oa e E b → h'[b]? = some (.lst vs) ∧ ¬ Oa e' E' b := fun b vs s o =>
  ⟨(g.same b (lt_of_get s) o fun _ => lt_of_get s).trans s, fun z => (m b z).elim o fun y => absurd (lt_of_get s) (Nat.not_lt_of_le y)⟩
end
end HI

set_option maxRecDepth 100000
set_option maxHeartbeats 4000000
/-! list comprehensions: over data as in the heap -/
namespace HI
open PySem L2

section
variable {h : Hh} {A : Av} {e : Ev} {E : Dn}
theorem ok_set {d : Nat} {va vb : List V} (g : h[d]? = some (.lst va)) (ad : A d) : Ok h A (h.set d (.lst vb)) A := by
  have get : ∀ b, b ≠ d → (h.set d (.lst vb))[b]? = h[b]? := fun b hb => List.getElem?_set_ne (Ne.symm hb)
  refine ⟨fun b ws s _ nb => ⟨(get b fun q => nb (by subst q; exact ad)).trans s, nb⟩, fun b ws s => ?_, fun b ws s => ?_⟩
  · have hb : b ≠ d := fun q => by
      subst q
      unfold seqT at s
      rw [g] at s
      cases s
    unfold seqT at *
    rw [get b hb]; exact s
  · exact (get b fun q => by subst q; rw [g] at s; cases s).trans s
theorem RelE.heapSet (R : RelE h A e E) {d : Nat} {va vb : List V} (g : h[d]? = some (.lst va)) (ad : A d) (no : ¬ Oa e E d) : RelE (h.set d (.lst vb)) A e E := by
  have ok := ok_set (vb := vb) g ad
  have get : ∀ b, b ≠ d → (h.set d (.lst vb))[b]? = h[b]? := fun b hb => List.getElem?_set_ne (Ne.symm hb)
  refine ⟨R.len, fun j c z => ?_, fun j xs z => ?_, fun j xs z => ?_, R.inj, fun b z => ?_⟩
  · obtain ⟨v, h1, h2⟩ := R.fz j c z
    exact ⟨v, h1, Fz.ok ok c v h2⟩
  · obtain ⟨a, vs, h1, h2, h3, h4⟩ := R.ow j xs z
    exact ⟨a, vs, h1, (get a fun q => no (by subst q; exact ⟨j, xs, h1, z⟩)).trans h2, h3, h4.ok ok⟩
  · obtain ⟨a, vs, h1, h2, h3⟩ := R.ro j xs z
    exact ⟨a, vs, h1, ok.r a vs h2, FzL.ok ok xs vs h3⟩
  · obtain ⟨xs, q, mq⟩ := R.lt b z
    by_cases hb : b = d
    · subst hb
      exact ⟨.lst vb, List.getElem?_set_self (lt_of_get g), rfl⟩
    · exact ⟨xs, (get b hb).trans q, mq⟩
theorem wipeD_at : ∀ (vs : List Nat) (E : Dn) (j : Nat) (v : Va), (wipeD E vs)[j]? = some (some v) → j ∉ vs ∧ E[j]? = some (some v)
  | [], E, j, v, z => ⟨(fun y => nomatch y), z⟩
  | i :: vs, E, j, v, z => by
    rcases setE (show ((wipeD E vs).set i none)[j]? = some (some v) from z) with ⟨_, y, _⟩ | ⟨hj, y⟩
    · cases y
    · obtain ⟨h1, h2⟩ := wipeD_at vs E j v y
      exact ⟨fun q => (List.mem_cons.mp q).elim hj h1, h2⟩
theorem wipeD_get : ∀ (vs : List Nat) (E : Dn) (j : Nat), j ∉ vs → (wipeD E vs)[j]? = E[j]?
  | [], E, j, _ => rfl
  | i :: vs, E, j, n => by
    show ((wipeD E vs).set i none)[j]? = _
    rw [List.getElem?_set_ne fun q => n (by rw [q]; exact List.mem_cons_self), wipeD_get vs E j fun q => n (List.mem_cons_of_mem _ q)]
theorem wipeD_len : ∀ (vs : List Nat) (E : Dn), (wipeD E vs).length = E.length
  | [], E => rfl
  | i :: vs, E => by
    show ((wipeD E vs).set i none).length = _
    rw [List.length_set, wipeD_len vs E]
theorem wipeE_get : ∀ (vs : List Nat) (e : Ev) (j : Nat), j ∉ vs → (wipeE e vs)[j]? = e[j]?
  | [], E, j, _ => rfl
  | i :: vs, E, j, n => by
    show ((wipeE E vs).set i none)[j]? = _
    rw [List.getElem?_set_ne fun q => n (by rw [q]; exact List.mem_cons_self), wipeE_get vs E j fun q => n (List.mem_cons_of_mem _ q)]
theorem wipeE_len : ∀ (vs : List Nat) (e : Ev), (wipeE e vs).length = e.length
  | [], E => rfl
  | i :: vs, E => by
    show ((wipeE E vs).set i none).length = _
    rw [List.length_set, wipeE_len vs E]
theorem backD_len : ∀ (vs : List Nat) (E0 E : Dn), (backD E0 E vs).length = E.length
  | [], E0, E => rfl
  | i :: vs, E0, E => by
    show (match E0[i]? with | some o => (backD E0 E vs).set i o | none => backD E0 E vs).length = _
    split
    · rw [List.length_set, backD_len vs E0 E]
    · exact backD_len vs E0 E
theorem backD_at : ∀ (vs : List Nat) (E0 E : Dn) (j : Nat) (u : Option Va), E0.length = E.length → (backD E0 E vs)[j]? = some u → (j ∈ vs ∧ E0[j]? = some u) ∨ (j ∉ vs ∧ E[j]? = some u)
  | [], E0, E, j, u, _, z => .inr ⟨fun y => (nomatch y), z⟩
  | i :: vs, E0, E, j, u, l, z => by
    have z : (match E0[i]? with | some o => (backD E0 E vs).set i o | none => backD E0 E vs)[j]? = some u := z
    split at z
    · rename_i o ho
      rcases setE z with ⟨rfl, y, _⟩ | ⟨hj, y⟩
      · exact .inl ⟨List.mem_cons_self, by rw [ho, y]⟩
      · rcases backD_at vs E0 E j u l y with ⟨h1, h2⟩ | ⟨h1, h2⟩
        · exact .inl ⟨List.mem_cons_of_mem _ h1, h2⟩
        · exact .inr ⟨fun q => (List.mem_cons.mp q).elim hj h1, h2⟩
    · rename_i ho
      rcases backD_at vs E0 E j u l z with ⟨h1, h2⟩ | ⟨h1, h2⟩
      · exact .inl ⟨List.mem_cons_of_mem _ h1, h2⟩
      · refine .inr ⟨fun q => (List.mem_cons.mp q).elim (fun q => ?_) h1, h2⟩
        subst q
        have lj : j < E.length := setE.lt_of_getE h2
        rw [List.getElem?_eq_getElem (by omega)] at ho
        cases ho
theorem backD_in : ∀ (vs : List Nat) (E0 E : Dn) (j : Nat) (u : Option Va), E0.length = E.length → j ∈ vs → E0[j]? = some u → (backD E0 E vs)[j]? = some u := fun vs E0 E j u l hj hu => by
  have lj : j < (backD E0 E vs).length := by
    rw [backD_len, ← l]
    exact setE.lt_of_getE hu
  rcases backD_at vs E0 E j _ l (List.getElem?_eq_getElem lj) with ⟨_, h2⟩ | ⟨h1, _⟩
  · rw [List.getElem?_eq_getElem lj, ← h2, hu]
  · exact absurd hj h1
theorem backD_out : ∀ (vs : List Nat) (E0 E : Dn) (j : Nat) (u : Option Va), E0.length = E.length → j ∉ vs → E[j]? = some u → (backD E0 E vs)[j]? = some u := fun vs E0 E j u l hj hu => by
  have lj : j < (backD E0 E vs).length := by
    rw [backD_len]
    exact setE.lt_of_getE hu
  rcases backD_at vs E0 E j _ l (List.getElem?_eq_getElem lj) with ⟨h1, _⟩ | ⟨_, h2⟩
  · exact absurd h1 hj
  · rw [List.getElem?_eq_getElem lj, ← h2, hu]
theorem tsl_eq (t : Tg) : tsl t = t.sl := by cases t <;> rfl
end
/-- the walk does not go over the new list -/
def Wne : Iv → Nat → Prop
  | .lst a _, d => a ≠ d
  | .tup _ _, _ => True
  | .rng _ _, _ => True
  | .enum a _, d => a ≠ d
  | .zip a b _ _, d => a ≠ d ∧ b ≠ d
theorem SrcR.set {h : Hh} {A : Av} {e : Ev} {E : Dn} {s : Src} {a len d : Nat} {va vb : List V} (z : SrcR h A e E s a len) (ne : a ≠ d) (g : h[d]? = some (.lst va)) (ad : A d) : SrcR (h.set d (.lst vb)) A e E s a len := by
  have ok := ok_set (vb := vb) g ad
  cases s with
  | fz xs =>
    obtain ⟨l, vs, r, q⟩ := z
    refine ⟨l, vs, FzL.ok ok xs vs r, ?_⟩
    rcases q with ⟨q, o⟩ | q
    · exact .inl ⟨(List.getElem?_set_ne (Ne.symm ne)).trans q, o⟩
    · exact .inr (ok.r a vs q)
  | var i n => exact z
theorem WR.set {h : Hh} {A : Av} {e : Ev} {E : Dn} {w : Wd} {iv : Iv} {d : Nat} {va vb : List V} (z : WR h A e E w iv) (ne : Wne iv d) (g : h[d]? = some (.lst va)) (ad : A d) : WR (h.set d (.lst vb)) A e E w iv := by
  have ok := ok_set (vb := vb) g ad
  cases w <;> cases iv <;> first | exact z.elim | skip
  · exact SrcR.set z ne g ad
  · rename_i s a xs
    cases s with
    | fz ys =>
      obtain ⟨l, vs, r, q⟩ := z
      exact ⟨l, vs, FzL.ok ok ys vs r, ok.t a vs q⟩
    | var i n => exact z.elim
  · exact z
  · exact SrcR.set z ne g ad
  · exact ⟨SrcR.set z.1 ne.1 g ad, SrcR.set z.2 ne.2 g ad⟩
/-- what is asked of a test, of a term -/
def SndC (mc : Ev → Mo Bool) (c : Md Bool) : Prop := ∀ (h : Hh) (A : Av) (e : Ev) (E : Dn) (b : Bool) (E' : Dn), RelE h A e E → c E = some (b, E') → ∃ h' A', mc e h = some (.ok b, h') ∧ Pst h.length e h A E h' A' E'
def SndE (mv : Ev → Mo V) (m : Md Re) : Prop := ∀ (h : Hh) (A : Av) (e : Ev) (E : Dn) (r : Re) (E' : Dn), RelE h A e E → m E = some (r, E') → Out h A e E r E' (mv e h)
/-- the state of the new list -/
structure New (h : Hh) (A : Av) (e : Ev) (E : Dn) (d : Nat) (acc : List PyData) (va : List V) : Prop where
  at_ : h[d]? = some (.lst va)
  av : A d
  no : ¬ Oa e E d
  fz : FzL h A acc va
theorem compGo_ok {mc : Ev → Mo Bool} {mel : Ev → Mo V} {c : Md Bool} {el : Md Re} (Kc : SndC mc c) (Ke : SndE mel el) {own : List Nat} {t : Tg} (hs : ∀ i ∈ tsl t, i ∈ own) {w : Wd} {iv : Iv} {e : Ev} {d n0 : Nat} (l0 : n0 ≤ d) (ne : Wne iv d) :
    ∀ (n i : Nat) (acc acc' : List PyData) (h : Hh) (A : Av) (E E' : Dn) (va : List V), RelE h A e E → WR h A e E w iv → n0 ≤ h.length → New h A e E d acc va →
      compGoD w own t c el n i acc E = some (acc', E') → ∃ h' A' va', compGo iv t mc mel d e n i h = some (.ok (), h') ∧ Gst n0 h A (Oa e E) h' A' ∧ RelE h' A' e E' ∧ (∀ b, Oa e E' b → Oa e E b) ∧
        (∀ (j : Nat) (v : Va), j ∉ own → E[j]? = some (some v) → ∃ v', E'[j]? = some (some v')) ∧ New h' A' e E' d acc' va' := by
  intro n
  induction n with
  | zero =>
    intro i acc acc' h A E E' va R W ln N m
    have m : (if w.ends E then some (acc, E) else none) = some (acc', E') := m
    split at m
    · rename_i he
      cases m
      refine ⟨h, A, va, ?_, Gst.refl, R, fun _ z => z, fun _ v _ z => ⟨v, z⟩, N⟩
      show (if iv.ends h then some ((.ok () : Rs Unit), h) else none) = _
      rw [if_pos (W.ends R he)]
    · cases m
  | succ n ih =>
    intro i acc acc' h A E E' va R W ln N m
    obtain ⟨y, E0, m1, m2⟩ := mb_some (show mb (mg (w.at i)) (fun d => mb (mset (asgD t d)) fun _ => mb c fun b =>
      if b then mb el fun r => mb (frz r) fun y => if acc.length < sizeLine then mb (mset fun E => some (wipeD E own)) fun _ => compGoD w own t c el n (i + 1) (acc ++ [y]) else mn
      else mb (mset fun E => some (wipeD E own)) fun _ => compGoD w own t c el n (i + 1) acc) E = some (acc', E') from m)
    obtain ⟨w1, e0⟩ := mg_some m1
    subst e0
    obtain ⟨x, h1, k1, p1, f1⟩ := WR.at (n := h.length) R W w1
    obtain ⟨u, E2, m3, m4⟩ := mb_some m2
    have m3 := mset_some m3
    obtain ⟨e2, k2, R2, mi2⟩ := asgD_ok p1.rel f1 m3
    obtain ⟨b, E3, m5, m6⟩ := mb_some m4
    obtain ⟨h2, A2, k3, p3⟩ := Kc h1 A e2 E2 b E3 R2 m5
    have k2' : look (asg t x e) h1 = some (.ok e2, h1) := by
      show (asg t x e h1).map _ = _
      rw [k2]; rfl
    have eo := asg_out k2
    have l1 := p1.le
    have l2 := p3.le
    -- the new list so far
    have d1 : h1[d]? = some (.lst va) := (p1.same d (lt_of_get N.at_) N.no fun _ => lt_of_get N.at_).trans N.at_
    have ld := lt_of_get d1
    have no2 : ¬ Oa e2 E2 d := fun z => N.no (mi2 d z)
    have d2 : h2[d]? = some (.lst va) := (p3.same d ld no2 fun _ => ld).trans d1
    have a2 : A2 d := p3.keep d ld N.av no2
    have no3 : ¬ Oa e2 E3 d := fun z => no2 (p3.mine d z)
    have ok12 := (p1.ok R)
    have ok23 := p3.ok R2
    have g13 : Gst n0 h A (Oa e E) h2 A2 := Gst.trans ln (p1.g.mono ln) (p3.g.mono (Nat.le_trans ln l1)) fun b z => .inl (mi2 b z)
    -- names after a turn
    have back : ∀ {h3 : Hh} {A3 : Av} {E5 : Dn}, RelE h3 A3 e2 E5 → RelE h3 A3 e (wipeD E5 own) := fun {h3 A3 E5} R5 => by
      refine R5.of_sub ?_ fun j v z => ?_
      · rw [wipeD_len, ← R5.len, eo.1]
      · obtain ⟨h1, h2⟩ := wipeD_at own E5 j v z
        exact ⟨h2, (eo.2 j fun q => h1 (hs j (by rw [tsl_eq]; exact q))).symm⟩
    have mineW : ∀ {E5 : Dn} {b : Nat}, Oa e (wipeD E5 own) b → Oa e2 E5 b := fun {E5 b} ⟨j, xs, z1, z2⟩ => by
      obtain ⟨q1, q2⟩ := wipeD_at own E5 j _ z2
      exact ⟨j, xs, (eo.2 j fun q => q1 (hs j (by rw [tsl_eq]; exact q))).trans z1, q2⟩
    have domW : ∀ {E5 : Dn}, (∀ (j : Nat) (v : Va), E2[j]? = some (some v) → ∃ v', E5[j]? = some (some v')) → ∀ (j : Nat) (v : Va), j ∉ own → E[j]? = some (some v) → ∃ v', (wipeD E5 own)[j]? = some (some v') := fun {E5} k j v hj z => by
      have z2 : ∃ v', E2[j]? = some (some v') := by
        have out : ∀ {is : List Nat} {ds : List PyData} {E E' : Dn}, setsD is ds E = some E' → j ∉ is → E'[j]? = E[j]? := by
          intro is
          induction is with
          | nil => intro ds E E' m _; cases ds <;> cases m; rfl
          | cons i is ih =>
            intro ds E E' m hn
            cases ds with
            | nil => cases m
            | cons d ds =>
              rw [ih (show setsD is ds (E.set i (some (.fz d))) = some E' from m) fun q => hn (List.mem_cons_of_mem _ q), List.getElem?_set_ne fun q => hn (by rw [q]; exact List.mem_cons_self)]
        refine ⟨v, ?_⟩
        unfold asgD at m3
        split at m3
        · rename_i i'
          cases m3
          rw [List.getElem?_set_ne fun q => hj (hs j (by rw [← q]; exact List.mem_singleton.mpr rfl))]
          exact z
        · split at m3
          · rw [out m3 fun q => hj (hs j q)]; exact z
          · cases m3
      obtain ⟨v', z2⟩ := z2
      obtain ⟨v2, z3⟩ := k j v' z2
      exact ⟨v2, (wipeD_get own E5 j hj).trans z3⟩
    cases b with
    | false =>
      obtain ⟨u2, E6, m7, m8⟩ := mb_some (show mb (mset fun E => some (wipeD E own)) (fun _ => compGoD w own t c el n (i + 1) acc) E3 = some (acc', E') from m6)
      have m7 := mset_some m7
      cases m7
      have R6 := back p3.rel
      have mi6 : ∀ b, Oa e (wipeD E3 own) b → Oa e E b := fun b z => mi2 b (p3.mine b (mineW z))
      have okW : Ok h A h2 A2 := Gst.ok R.lt (fun b z => (R.mine z).1) (p1.g.trans (Nat.le_refl _) (p3.g.mono l1) fun b z => .inl (mi2 b z))
      have W6 : WR h2 A2 e (wipeD E3 own) w iv := WR.go okW (sm_of (n := 0) (M := fun _ => False) (p1.g.trans (Nat.le_refl _) (p3.g.mono l1) fun b z => .inl (mi2 b z)) fun b z => .inl (mi6 b z)) (fun _ _ => rfl) W
      have N6 : New h2 A2 e (wipeD E3 own) d acc va := ⟨d2, a2, fun z => N.no (mi6 d z), FzL.ok okW acc va N.fz⟩
      obtain ⟨h', A', va', q1, q2, q3, q4, q5, q6⟩ := ih (i + 1) acc acc' h2 A2 _ E' va R6 W6 (Nat.le_trans ln (Nat.le_trans l1 l2)) N6 m8
      refine ⟨h', A', va', ?_, Gst.trans ln g13 q2 fun b z => .inl (mi6 b z), q3, fun b z => mi6 b (q4 b z), fun j v hj z => ?_, q6⟩
      · show bd (iv.at i) _ h = _
        rw [bd_eq k1, bd_eq k2', bd_eq k3]
        exact q1
      · obtain ⟨v', z'⟩ := domW (fun j v z => p3.dom j v z) j v hj z
        exact q5 j v' hj z'
    | true =>
      obtain ⟨r, E4, m7, m8⟩ := mb_some (show mb el (fun r => mb (frz r) fun y => if acc.length < sizeLine then mb (mset fun E => some (wipeD E own)) fun _ => compGoD w own t c el n (i + 1) (acc ++ [y]) else mn) E3 = some (acc', E') from m6)
      obtain ⟨v, h3, A3, k4, p4, rr⟩ := Ke h2 A2 e2 E3 r E4 p3.rel m7
      obtain ⟨y2, E5, m9, m10⟩ := mb_some m8
      obtain ⟨A4, s5, f5⟩ := frz_ok p4.rel rr m9
      split at m10
      · rename_i hl
        obtain ⟨u2, E6, m11, m12⟩ := mb_some m10
        have m11 := mset_some m11
        cases m11
        have ld2 := lt_of_get d2
        have l3 := p4.le
        have d3 : h3[d]? = some (.lst va) := (p4.same d ld2 no3 fun _ => ld2).trans d2
        have a3 : A3 d := p4.keep d ld2 a2 no3
        have no4 : ¬ Oa e2 E4 d := fun z => no3 (p4.mine d z)
        have a4 : A4 d := s5.keep d ld2 a3 no4
        have no5 : ¬ Oa e2 E5 d := fun z => no4 (s5.mine d z)
        have no6 : ¬ Oa e (wipeD E5 own) d := fun z => no5 (mineW z)
        have R6 := (back s5.rel).heapSet (vb := va ++ [v]) d3 a4 no6
        have mi6 : ∀ b, Oa e (wipeD E5 own) b → Oa e E b := fun b z => mi2 b (p3.mine b (p4.mine b (s5.mine b (mineW z))))
        have oks := ok_set (vb := va ++ [v]) d3 a4
        have g34 : Gst n0 h2 A2 (Oa e2 E3) h3 A4 := Gst.trans (Nat.le_trans ln (Nat.le_trans l1 l2)) (p4.g.mono (Nat.le_trans ln (Nat.le_trans l1 l2))) (s5.pst.g.mono (Nat.le_trans ln (Nat.le_trans l1 l2))) fun b z => .inl (p4.mine b z)
        have gs : Gst n0 h3 A4 (fun _ => False) (h3.set d (.lst (va ++ [v]))) A4 := ⟨by rw [List.length_set]; exact Nat.le_refl _, fun _ z => .inl z, fun _ _ z _ => z, fun b hb _ q => List.getElem?_set_ne fun z => by
          subst z
          exact absurd (q a4) (Nat.not_lt_of_le l0)⟩
        have g16 : Gst n0 h A (Oa e E) (h3.set d (.lst (va ++ [v]))) A4 := Gst.trans ln (Gst.trans ln g13 g34 fun b z => .inl (mi2 b (p3.mine b z))) gs fun b z => z.elim
        -- the first walker's object stays
        have gW : Gst h.length h A (Oa e E) h3 A4 := by
          have q1 : Gst h.length h A (Oa e E) h2 A2 := p1.g.trans (Nat.le_refl _) (p3.g.mono l1) fun b z => .inl (mi2 b z)
          have q2 : Gst h.length h2 A2 (Oa e2 E3) h3 A4 := Gst.trans (Nat.le_trans l1 l2) (p4.g.mono (Nat.le_trans l1 l2)) (s5.pst.g.mono (Nat.le_trans l1 l2)) fun b z => .inl (p4.mine b z)
          exact q1.trans (Nat.le_refl _) q2 fun b z => .inl (mi2 b (p3.mine b z))
        have okW3 : Ok h A h3 A4 := Gst.ok R.lt (fun b z => (R.mine z).1) gW
        have W3 : WR h3 A4 e (wipeD E5 own) w iv := WR.go okW3 (sm_of (n := 0) (M := fun _ => False) gW fun b z => .inl (mi6 b z)) (fun _ _ => rfl) W
        have W6 := W3.set (vb := va ++ [v]) ne d3 a4
        have N6 : New (h3.set d (.lst (va ++ [v]))) A4 e (wipeD E5 own) d (acc ++ [y2]) (va ++ [v]) := by
          refine ⟨List.getElem?_set_self (lt_of_get d3), a4, no6, ?_⟩
          exact (FzL.ok oks acc va (FzL.ok okW3 acc va N.fz)).app (FzL.one (Fz.ok oks y2 v f5))
        have l6 : n0 ≤ (h3.set d (.lst (va ++ [v]))).length := by
          rw [List.length_set]
          omega
        obtain ⟨h', A', va', q1, q2, q3, q4, q5, q6⟩ := ih (i + 1) (acc ++ [y2]) acc' _ A4 _ E' _ R6 W6 l6 N6 m12
        refine ⟨h', A', va', ?_, Gst.trans ln g16 q2 fun b z => .inl (mi6 b z), q3, fun b z => mi6 b (q4 b z), fun j v hj z => ?_, q6⟩
        · show bd (iv.at i) _ h = _
          rw [bd_eq k1, bd_eq k2', bd_eq k3]
          show bd (mel e2) _ h2 = _
          rw [bd_eq k4]
          have pu : push d v h3 = some (.ok (), h3.set d (.lst (va ++ [v]))) := by
            unfold push
            rw [lstAt_of d3]
            dsimp only
            rw [if_pos (by rw [← N.fz.len]; exact hl)]
          rw [bd_eq pu]
          exact q1
        · obtain ⟨v', z'⟩ := domW (fun j v z => by
            obtain ⟨v1, z1⟩ := p3.dom j v z
            obtain ⟨v2, z2⟩ := p4.dom j v1 z1
            exact s5.dom j v2 z2) j v hj z
          exact q5 j v' hj z'
      · exact (mn_some m10).elim
end HI

set_option maxRecDepth 100000
set_option maxHeartbeats 4000000
/-! terms: over data as in the heap -/
namespace HI
open PySem L2

theorem compD_ok {mc : Ev → Mo Bool} {mel : Ev → Mo V} {c : Md Bool} {el : Md Re} (Kc : SndC mc c) (Ke : SndE mel el) {own : List Nat} {t : Tg} {w : Wd} {iv : Iv} {h : Hh} {A : Av} {e : Ev} {E E' : Dn} {r : Re}
    (R : RelE h A e E) (W : WR h A e E w iv) (lv : ∀ d, h.length ≤ d → Wne iv d) (m : compD w own t c el E = some (r, E')) : Out h A e E r E' (compL iv t mc mel (wipeE e own) h) := by
  unfold compD at m
  split at m
  · rename_i hs1
    obtain ⟨hs0, hv⟩ := hs1
    have hs : ∀ i ∈ tsl t, i ∈ own := fun i hi => of_decide_eq_true (List.all_eq_true.mp hs0 i hi)
    split at m
    · rename_i acc E1 hc
      cases m
      -- the names of the block forgotten
      have Rw : RelE h A (wipeE e own) (wipeD E own) := R.of_sub (by rw [wipeE_len, wipeD_len]; exact R.len) fun j v z => by
        obtain ⟨h1, h2⟩ := wipeD_at own E j v z
        exact ⟨h2, wipeE_get own e j h1⟩
      have mw : ∀ b, Oa (wipeE e own) (wipeD E own) b → Oa e E b := fun b ⟨j, xs, z1, z2⟩ => by
        obtain ⟨h1, h2⟩ := wipeD_at own E j _ z2
        exact ⟨j, xs, (wipeE_get own e j h1).symm.trans z1, h2⟩
      -- the new list
      have p0 : Pst h.length (wipeE e own) h A (wipeD E own) (h ++ [.lst []]) (plus A h.length) (wipeD E own) := pst_lst Rw
      have okn : Ok h A (h ++ [.lst []]) (plus A h.length) := p0.ok Rw
      have W1 : WR (h ++ [.lst []]) (plus A h.length) (wipeE e own) (wipeD E own) w iv := by
        refine WR.go okn (fun b vs s o => ⟨(get_app (lt_of_get s)).trans s, fun z => o (mw b z)⟩) (fun i hi => ?_) W
        have := List.all_eq_true.mp hv i hi
        exact wipeE_get own e i (by simpa using this)
      have N1 : New (h ++ [.lst []]) (plus A h.length) (wipeE e own) (wipeD E own) h.length [] [] := ⟨getNew, .inr rfl, fun z => Nat.lt_irrefl _ (R.lt_mine (mw _ z)), FzL.nil⟩
      obtain ⟨h', A', va', q1, g, R1, mi, dom, N'⟩ := compGo_ok Kc Ke hs (Nat.le_refl _) (lv _ (Nat.le_refl _)) w.n 0 [] acc (h ++ [.lst []]) (plus A h.length) (wipeD E own) E1 [] p0.rel W1 p0.le N1 hc
      have gw : Gst h.length h A (Oa (wipeE e own) (wipeD E own)) h' A' := p0.g.trans (Nat.le_refl _) g fun b z => .inl z
      have ok : Ok h A h' A' := Gst.ok R.lt (fun b z => (Rw.mine z).1) gw
      have len : E.length = E1.length := by
        have := R1.len
        rw [wipeE_len, R.len] at this
        exact this
      have mi2 : ∀ b, Oa e (backD E E1 own) b → Oa e E b := fun b ⟨j, xs, z1, z2⟩ => by
        rcases backD_at own E E1 j _ len z2 with ⟨k1, k2⟩ | ⟨k1, k2⟩
        · exact ⟨j, xs, z1, k2⟩
        · exact mw b (mi b ⟨j, xs, (wipeE_get own e j k1).trans z1, k2⟩)
      have RR' : RelE h' A' e (backD E E1 own) := by
        have notw : ∀ {j : Nat} {a : Nat} {xs : PyData}, j ∈ own → e[j]? = some (some (.ref a)) → E[j]? = some (some (.own xs)) → ¬ Oa (wipeE e own) (wipeD E own) a := fun {j a xs} hj z1 z2 ⟨k, ys, y1, y2⟩ => by
          obtain ⟨c1, c2⟩ := wipeD_at own E k _ y2
          have := R.inj k j a ys xs ((wipeE_get own e k c1).symm.trans y1) z1 c2 z2
          subst this
          exact c1 hj
        refine ⟨by rw [backD_len, ← len]; exact R.len, fun j d z => ?_, fun j xs z => ?_, fun j xs z => ?_, fun i j a xs ys z1 z2 z3 z4 => ?_, R1.lt⟩
        · rcases backD_at own E E1 j _ len z with ⟨k1, k2⟩ | ⟨k1, k2⟩
          · obtain ⟨v, y1, y2⟩ := R.fz j d k2
            exact ⟨v, y1, Fz.ok ok d v y2⟩
          · obtain ⟨v, y1, y2⟩ := R1.fz j d k2
            exact ⟨v, (wipeE_get own e j k1).symm.trans y1, y2⟩
        · rcases backD_at own E E1 j _ len z with ⟨k1, k2⟩ | ⟨k1, k2⟩
          · obtain ⟨a, vs, y1, y2, y3, y4⟩ := R.ow j xs k2
            have no := notw k1 y1 k2
            have la := lt_of_get y2
            exact ⟨a, vs, y1, (gw.same a la no fun _ => la).trans y2, gw.keep a la y3 no, y4.ok ok⟩
          · obtain ⟨a, vs, y1, y2⟩ := R1.ow j xs k2
            exact ⟨a, vs, (wipeE_get own e j k1).symm.trans y1, y2⟩
        · rcases backD_at own E E1 j _ len z with ⟨k1, k2⟩ | ⟨k1, k2⟩
          · obtain ⟨a, vs, y1, y2, y3⟩ := R.ro j xs k2
            exact ⟨a, vs, y1, ok.r a vs y2, FzL.ok ok xs vs y3⟩
          · obtain ⟨a, vs, y1, y2⟩ := R1.ro j xs k2
            exact ⟨a, vs, (wipeE_get own e j k1).symm.trans y1, y2⟩
        · have cross : ∀ {i j : Nat} {xs ys : PyData}, i ∈ own → j ∉ own → e[i]? = some (some (.ref a)) → e[j]? = some (some (.ref a)) → E[i]? = some (some (.own xs)) → E1[j]? = some (some (.own ys)) → False := fun {i j xs ys} hi hj y1 y2 y3 y4 =>
            notw hi y1 y3 (mi a ⟨j, ys, (wipeE_get own e j hj).trans y2, y4⟩)
          rcases backD_at own E E1 i _ len z3 with ⟨k1, k2⟩ | ⟨k1, k2⟩ <;> rcases backD_at own E E1 j _ len z4 with ⟨k3, k4⟩ | ⟨k3, k4⟩
          · exact R.inj i j a xs ys z1 z2 k2 k4
          · exact (cross k1 k3 z1 z2 k2 k4).elim
          · exact (cross k3 k1 z2 z1 k4 k2).elim
          · exact R1.inj i j a xs ys ((wipeE_get own e i k1).trans z1) ((wipeE_get own e j k3).trans z2) k2 k4
      refine ⟨.ref h.length, h', A', ?_, ⟨gw.le, gw.sub, fun b l z k => gw.keep b l z fun y => k (mw b y), fun b l k z => gw.same b l (fun y => k (mw b y)) z, RR', mi2, fun j v z => ?_⟩, ?_⟩
      · unfold compL
        have al : alloc (.lst []) h = some (.ok (.ref h.length), h ++ [.lst []]) := rfl
        rw [bd_eq al]
        show bd (compGo iv t mc mel h.length (wipeE e own) iv.size 0) (fun _ => rt (V.ref h.length)) (h ++ [.lst []]) = _
        rw [← WR.size W, bd_eq q1]; rfl
      · by_cases hj : j ∈ own
        · exact ⟨v, backD_in own E E1 j _ len hj z⟩
        · obtain ⟨v', z'⟩ := dom j v hj ((wipeD_get own E j hj).trans z)
          exact ⟨v', backD_out own E E1 j _ len hj z'⟩
      · exact ⟨h.length, .lst va', rfl, Nat.le_refl _, N'.at_, N'.av, fun z => Nat.lt_irrefl _ (R.lt_mine (mi2 _ z)), va', rfl, N'.fz⟩
    · cases m
  · cases m
end HI

set_option maxRecDepth 100000
set_option maxHeartbeats 4000000
/-! all terms: over data as in the heap -/
namespace HI
open PySem L2

section
variable {h : Hh} {A : Av} {e : Ev} {E : Dn}
theorem srcR_ok (R : RelE h A e E) {n : Nat} {r : Re} {v : V} {tup : Bool} {s : Src} {E' : Dn} (z : RR n h A e E r v) (m : srcR tup r E = some (s, E')) :
    E' = E ∧ ∃ (a : Nat) (xs : List V), v = .ref a ∧ a < h.length ∧ ((seqL h a = some xs ∧ SrcR h A e E s a xs.length) ∨ (tup = true ∧ seqL h a = none ∧ seqT h a = some xs ∧ SrcT h A s a xs.length)) := by
  unfold srcR at m
  split at m
  · cases m
    have z : Fz h A (.list _) v := z
    simp only [Fz] at z
    obtain ⟨a, xs, rfl, g, na, r⟩ := z
    exact ⟨rfl, a, xs, rfl, lt_of_get g, .inl ⟨seqL_of g, r.len.symm, xs, r, .inl ⟨g, fun o => na (R.mine o).1⟩⟩⟩
  · split at m
    · rename_i ht
      cases m
      have z : Fz h A (.tuple _) v := z
      simp only [Fz] at z
      obtain ⟨a, xs, rfl, g, r⟩ := z
      exact ⟨rfl, a, xs, rfl, seqT_lt g, .inr ⟨ht, seqT_notL g, g, r.len.symm, xs, r, g⟩⟩
    · cases m
  · cases m
    obtain ⟨a, ob, rfl, _, g, _, no, xs, rfl, r⟩ := z
    exact ⟨rfl, a, xs, rfl, lt_of_get g, .inl ⟨seqL_of g, r.len.symm, xs, r, .inl ⟨g, no⟩⟩⟩
  · cases m
    obtain ⟨a, xs, rfl, g, r⟩ := z
    exact ⟨rfl, a, xs, rfl, lt_of_get g, .inl ⟨by unfold seqL; rw [g], r.len.symm, xs, r, .inr g⟩⟩
  · rename_i i
    split at m
    · rename_i xs hd
      cases m
      obtain ⟨va, h1, h2⟩ := Option.bind_eq_some_iff.mp hd
      obtain ⟨a, vs, rfl, g, r⟩ := vw_list (va_vw R (slotV_ok h1) z.1 h2)
      exact ⟨rfl, a, vs, rfl, lt_of_get g, .inl ⟨seqL_of g, r.len.symm, z.1⟩⟩
    · cases m
  · cases m
theorem intP_ok {d : PyData} {i : Int} {v : V} (z : Vw h A d v) (m : intP d = some i) : v = .int i := by
  cases d <;> simp only [intP] at m <;> cases m
  exact vw_int z
theorem toI_eq {i : Int} : toI (.int i) h = some (.ok i, h) := rfl
theorem rngD_ok {i j : Int} {w : Wd} (m : rngD i j = some w) : rngO i j h = some (.ok (.rng i (j - i).toNat), h) ∧ w = .rng i (j - i).toNat := by
  unfold rngD at m
  split at m
  · rename_i c
    cases m
    refine ⟨?_, rfl⟩
    unfold rngO
    rw [if_pos c]; rfl
  · cases m
/-- what is asked of arguments -/
def SndA (mv : Ev → Mo (List V)) (m : Md (List Re)) : Prop := ∀ (h : Hh) (A : Av) (e : Ev) (E : Dn) (rs : List Re) (E' : Dn), RelE h A e E → m E = some (rs, E') → ∃ vs h' A', mv e h = some (.ok vs, h') ∧ Pst h.length e h A E h' A' E' ∧ RRs h' A' e E' h.length rs vs
def SndI (mv : Ev → Mo Iv) (m : Md Wd) : Prop := ∀ (h : Hh) (A : Av) (e : Ev) (E : Dn) (w : Wd) (E' : Dn), RelE h A e E → m E = some (w, E') → ∃ iv h' A', mv e h = some (.ok iv, h') ∧ Pst h.length e h A E h' A' E' ∧ WR h' A' e E' w iv ∧ ∀ d, h'.length ≤ d → Wne iv d
theorem testD_ok {mv : Ev → Mo V} {m : Md Re} (K : SndE mv m) : SndC (fun e => bd (mv e) tru) (testD m) := by
  intro h A e E b E' R q
  obtain ⟨r, E1, q1, q2⟩ := mb_some (show mb m (fun r => mb (dat r) fun d => mo (truD d)) E = some (b, E') from q)
  obtain ⟨v, h1, A1, k1, p1, z1⟩ := K h A e E r E1 R q1
  obtain ⟨d, E2, q3, q4⟩ := mb_some q2
  obtain ⟨e2, w⟩ := dat_ok p1.rel z1 q3
  subst e2
  obtain ⟨t, e3⟩ := mo_some q4
  subst e3
  refine ⟨h1, A1, ?_, p1⟩
  show bd (mv e) tru h = _
  rw [bd_eq k1]
  exact tru_ok' w t
theorem partD_ok {mv : Ev → Mo V} {m : Md Re} (K : SndE mv m) {b : Bool} {o : Option Int} {E' : Dn} (R : RelE h A e E) (q : partD b m E = some (o, E')) : ∃ h' A', partO b (mv e) h = some (.ok o, h') ∧ Pst h.length e h A E h' A' E' := by
  unfold partD at q
  split at q
  · rename_i hb
    obtain ⟨r, E1, q1, q2⟩ := mb_some q
    obtain ⟨v, h1, A1, k1, p1, z1⟩ := K h A e E r E1 R q1
    obtain ⟨d, E2, q3, q4⟩ := mb_some q2
    obtain ⟨e2, w⟩ := dat_ok p1.rel z1 q3
    subst e2
    obtain ⟨i, E3, q5, q6⟩ := mb_some q4
    obtain ⟨t, e3⟩ := mo_some q5
    subst e3
    obtain ⟨e4, e5⟩ := mr_some q6
    subst e4 e5
    obtain rfl := intP_ok w t
    refine ⟨h1, A1, ?_, p1⟩
    unfold partO
    rw [if_pos hb, bd_eq k1]
    show bd (toI (.int i)) (fun i => rt (some i)) h1 = _
    rw [bd_eq toI_eq]; rfl
  · rename_i hb
    obtain ⟨e4, e5⟩ := mr_some q
    subst e4 e5
    refine ⟨h, A, ?_, Pst.refl R⟩
    unfold partO
    rw [if_neg hb]; rfl
theorem chk_ok {n : Nat} {u : Unit} {E' : Dn} (q : chk n E = some (u, E')) : n ≤ sizeLine ∧ E' = E := by
  unfold chk at q
  split at q
  · obtain ⟨_, e⟩ := mr_some q
    exact ⟨by assumption, e.symm⟩
  · exact (mn_some q).elim
theorem look_of {α : Type} {f : Hh → Option α} {a : α} (q : f h = some a) : look f h = some (.ok a, h) := by unfold look; rw [q]; rfl
theorem Out.eq' {r : Re} {E' : Dn} {o o' : Option (Rs V × Hh)} (z : Out h A e E r E' o) (q : o' = o) : Out h A e E r E' o' := by rw [q]; exact z
theorem all_look {a : Nat} {xs : List V} {c : List Bool} (g : seqL h a = some xs) (e1 : boolsO xs = some c) : allO (.ref a) h = some (.ok (.bl (c.all id)), h) := by
  unfold allO look; simp [g, e1]
theorem any_look {a : Nat} {xs : List V} {c : List Bool} (g : seqL h a = some xs) (e1 : boolsO xs = some c) : anyO (.ref a) h = some (.ok (.bl (c.any id)), h) := by
  unfold anyO look; simp [g, e1]
theorem sum_look {a : Nat} {xs : List V} {c : List Int} (g : seqL h a = some xs) (e1 : intsO xs = some c) : sumO (.ref a) h = some (.ok (.int c.sum), h) := by
  unfold sumO look; simp [g, e1]
theorem max_look {a : Nat} {xs : List V} {ns : List Int} {c : Int} (g : seqL h a = some xs) (e1 : intsO xs = some ns) (e2 : maxI ns = some c) : maxO (.ref a) h = some (.ok (.int c), h) := by
  unfold maxO look; simp [g, e1, e2]
theorem min_look {a : Nat} {xs : List V} {ns : List Int} {c : Int} (g : seqL h a = some xs) (e1 : intsO xs = some ns) (e2 : minI ns = some c) : minO (.ref a) h = some (.ok (.int c), h) := by
  unfold minO look; simp [g, e1, e2]
theorem boolL_ok : ∀ {ds : List PyData} {xs : List V} {bs : List Bool}, FzL h A ds xs → boolL ds = some bs → boolsO xs = some bs
  | [], xs, bs, r, m => by
    simp only [FzL] at r
    subst r
    unfold boolL at m
    rw [List.mapM_nil] at m
    cases m; rfl
  | d :: ds, xs, bs, r, m => by
    simp only [FzL] at r
    obtain ⟨x, xr, rfl, f, g⟩ := r
    unfold boolL at m
    rw [List.mapM_cons] at m
    cases d with
    | bool b =>
      obtain rfl : x = .bl b := by simpa only [Fz] using f
      cases hr : boolL ds with
      | none => unfold boolL at hr; simp only [hr] at m; cases m
      | some cs =>
        have e2 := boolL_ok g hr
        unfold boolL at hr; simp only [hr] at m
        cases m
        unfold boolsO at *
        rw [List.mapM_cons]
        simp only [e2]; rfl
    | _ => cases m
theorem intL_ok : ∀ {ds : List PyData} {xs : List V} {bs : List Int}, FzL h A ds xs → intL ds = some bs → intsO xs = some bs
  | [], xs, bs, r, m => by
    simp only [FzL] at r
    subst r
    unfold intL at m
    rw [List.mapM_nil] at m
    cases m; rfl
  | d :: ds, xs, bs, r, m => by
    simp only [FzL] at r
    obtain ⟨x, xr, rfl, f, g⟩ := r
    unfold intL at m
    rw [List.mapM_cons] at m
    cases d with
    | int b =>
      obtain rfl : x = .int b := by simpa only [Fz] using f
      cases hr : intL ds with
      | none => unfold intL at hr; simp only [hr] at m; cases m
      | some cs =>
        have e2 := intL_ok g hr
        unfold intL at hr; simp only [hr] at m
        cases m
        unfold intsO at *
        rw [List.mapM_cons]
        simp only [e2]; rfl
    | _ => cases m
theorem boolsD_ok {d : PyData} {v : V} {bs : List Bool} (z : Vw h A d v) (m : boolsD d = some bs) : ∃ (a : Nat) (xs : List V), v = .ref a ∧ h[a]? = some (.lst xs) ∧ boolsO xs = some bs := by
  unfold boolsD at m
  split at m
  · obtain ⟨a, xs, e, g, r⟩ := vw_list z
    exact ⟨a, xs, e, g, boolL_ok r m⟩
  · cases m
theorem intsD_ok {d : PyData} {v : V} {bs : List Int} (z : Vw h A d v) (m : intsD d = some bs) : ∃ (a : Nat) (xs : List V), v = .ref a ∧ h[a]? = some (.lst xs) ∧ intsO xs = some bs := by
  unfold intsD at m
  split at m
  · obtain ⟨a, xs, e, g, r⟩ := vw_list z
    exact ⟨a, xs, e, g, intL_ok r m⟩
  · cases m
theorem isD_ok (R : RelE h A e E) {d : PyData} {v : V} {t : String} {r : Re} (z : Vw h A d v) (m : isD t d = some r) : Out h A e E r E (isO t v h) := by
  unfold isD at m
  obtain ⟨s, hs, m⟩ := Option.map_eq_some_iff.mp m
  subst m
  refine (out_same R fz_bool).eq' (look_of ?_)
  have : tyO h v = some s := by
    cases d with
    | none => obtain rfl := vw_none z; exact hs
    | bool b => obtain rfl := vw_bool z; exact hs
    | int b => obtain rfl := vw_int z; exact hs
    | str b => obtain rfl := vw_str z; exact hs
    | list ds =>
      obtain ⟨a, xs, rfl, g, _⟩ := vw_list z
      unfold tyO
      simp only [seqL_of g]
      exact hs
    | tuple ds =>
      obtain ⟨a, xs, rfl, g, _⟩ := vw_tup z
      unfold tyO
      simp only [seqT_notL g, g]
      exact hs
    | dict ds => cases hs
  rw [this]; rfl
theorem Out.afterX {h1 : Hh} {A1 : Av} {E1 E2 : Dn} {r : Re} {o : Option (Rs V × Hh)} (p : Pst h.length e h A E h1 A1 E1) (q : Out h1 A1 e E1 r E2 o) : Out h A e E r E2 o := by
  obtain ⟨v, h2, A2, k, p2, z⟩ := q
  exact ⟨v, h2, A2, k, p.trans (p2.mono p.le), z.mono p.le⟩
theorem pairs_ok {n : Nat} : ∀ (ds es : List PyData) {xs ys : List V} {h : Hh}, RelE h A e E → FzL h A ds xs → FzL h A es ys →
    ∃ vs h', pairsO xs ys h = some (.ok vs, h') ∧ Pst n e h A E h' A E ∧ FzL h' A (List.zipWith (fun x y => PyData.tuple [x, y]) ds es) vs ∧ ∀ d v, Fz h A d v → Fz h' A d v
  | [], es, xs, ys, h, R, r1, r2 => by
    simp only [FzL] at r1
    subst r1
    exact ⟨[], h, (by cases ys <;> rfl), Pst.refl R, by simp only [List.zipWith_nil_left, FzL], fun _ _ z => z⟩
  | d :: ds, [], xs, ys, h, R, r1, r2 => by
    simp only [FzL] at r2
    subst r2
    exact ⟨[], h, (by cases xs <;> rfl), Pst.refl R, by simp only [List.zipWith_nil_right, FzL], fun _ _ z => z⟩
  | d :: ds, f :: es, xs, ys, h, R, r1, r2 => by
    simp only [FzL] at r1 r2
    obtain ⟨x, xr, rfl, z1, r1⟩ := r1
    obtain ⟨y, yr, rfl, z2, r2⟩ := r2
    have o : Ok h A (h ++ [.tup [x, y]]) A := ok_app fun b l z => z
    have p1 : Pst n e h A E (h ++ [.tup [x, y]]) A E := pst_tup R
    obtain ⟨vs, h', k, p2, r3, mo⟩ := pairs_ok (n := n) ds es p1.rel (FzL.ok o _ _ r1) (FzL.ok o _ _ r2)
    have zt : Fz (h ++ [.tup [x, y]]) A (.tuple [d, f]) (.ref h.length) := by
      simp only [Fz]
      refine ⟨h.length, [x, y], rfl, ?_, ?_⟩
      · unfold seqT
        rw [getNew]
      · simp only [FzL]
        exact ⟨x, [y], rfl, Fz.ok o _ _ z1, y, [], rfl, Fz.ok o _ _ z2, rfl⟩
    refine ⟨.ref h.length :: vs, h', ?_, p1.trans p2, ?_, fun d v z => mo _ _ (Fz.ok o _ _ z)⟩
    · rw [pairsO]
      have k0 : alloc (.tup [x, y]) h = some (.ok (.ref h.length), h ++ [.tup [x, y]]) := rfl
      rw [bd_eq k0, bd_eq k]; rfl
    · simp only [List.zipWith_cons_cons, FzL]
      exact ⟨_, vs, rfl, mo _ _ zt, r3⟩
theorem bfnD_ok (R : RelE h A e E) {f : String} {ds : List PyData} {vs : List V} {r : Re} (z : VwL h A ds vs) (m : bfnD f ds = some r) : Out h A e E r E (bfn f vs h) := by
  unfold bfnD at m
  split at m
  · rename_i d
    obtain ⟨v, ws, rfl, zv, zw⟩ := z
    have zw : ws = [] := zw
    subst zw
    split at m
    · obtain ⟨c, hc, m⟩ := Option.map_eq_some_iff.mp m
      subst m
      show Out h A e E _ E (lenO v h)
      cases d <;> simp only [lenD] at hc <;> (try cases hc)
      · split at hc
        · rename_i c
          cases hc
          obtain rfl := vw_str zv
          refine ⟨.int _, h, A, ?_, Pst.refl R, (show Fz h A (.int _) (.int _) from fz_int)⟩
          show (if _ then rt _ else no : Mo V) h = _
          rw [if_pos c]; rfl
        · cases hc
      · obtain ⟨a, xs, rfl, g, r⟩ := vw_list zv
        refine ⟨.int _, h, A, ?_, Pst.refl R, (show Fz h A (.int _) (.int _) from fz_int)⟩
        unfold lenO look
        simp only [seqL_of g, r.len]; rfl
      · obtain ⟨a, xs, rfl, g, r⟩ := vw_tup zv
        refine ⟨.int _, h, A, ?_, Pst.refl R, (show Fz h A (.int _) (.int _) from fz_int)⟩
        unfold lenO look
        simp only [seqT_notL g, g, r.len]; rfl
    · split at m
      · cases m
        obtain rfl := vw_int zv
        exact out_same R fz_int
      · cases m
    · split at m
      · cases m
        obtain rfl := vw_int zv
        exact out_same R fz_int
      · cases m
        obtain rfl := vw_bool zv
        exact out_same R fz_int
      · cases m
    · show Out h A e E _ E (tupleO v h)
      split at m
      · cases m
        obtain ⟨a, xs, rfl, g, r⟩ := vw_list zv
        have : tupleO (.ref a) h = alloc (.tup xs) h := by
          unfold tupleO
          simp only [seqL_of g]
        rw [this]
        exact out_tup R r
      · cases m
        obtain ⟨a, xs, rfl, g, r⟩ := vw_tup zv
        have : tupleO (.ref a) h = some (.ok (.ref a), h) := by
          unfold tupleO
          simp only [seqT_notL g, g]; rfl
        rw [this]
        refine out_same R ?_
        simp only [Fz]
        exact ⟨a, xs, rfl, g, r⟩
      · cases m
    · show Out h A e E _ E (listO v h)
      split at m
      · cases m
        obtain ⟨a, xs, rfl, g, r⟩ := vw_list zv
        have : listO (.ref a) h = alloc (.lst xs) h := by
          unfold listO
          simp only [seqL_of g]
        rw [this]
        exact out_lst R r
      · cases m
        obtain ⟨a, xs, rfl, g, r⟩ := vw_tup zv
        have : listO (.ref a) h = alloc (.lst xs) h := by
          unfold listO
          simp only [seqT_notL g, g]
        rw [this]
        exact out_lst R r
      · cases m
    · show Out h A e E _ E (reprO v h)
      obtain ⟨c, hc, m⟩ := Option.map_eq_some_iff.mp m
      subst m
      unfold reprD at hc
      split at hc
      · rename_i k
        cases hc
        refine ⟨.str _, h, A, ?_, Pst.refl R, (show Fz h A (.str _) (.str _) from fz_str)⟩
        unfold reprO look
        simp only [rdS_of zv.fz k.1]
        rw [if_pos ⟨k.2.1, k.2.2.1, k.2.2.2⟩]; rfl
      · cases hc
    · show Out h A e E _ E (sortO v h)
      split at m
      · obtain ⟨c, hc, m⟩ := Option.map_eq_some_iff.mp m
        subst m
        exact sortD_ok R zv hc
      · cases m
    · obtain ⟨c, hc, m⟩ := Option.map_eq_some_iff.mp m
      subst m
      obtain ⟨a, xs, rfl, g, e1⟩ := boolsD_ok zv hc
      show Out h A e E _ E (allO (.ref a) h)
      exact (out_same R (fz_bool (b := c.all id))).eq' (all_look (seqL_of g) e1)
    · obtain ⟨c, hc, m⟩ := Option.map_eq_some_iff.mp m
      subst m
      obtain ⟨a, xs, rfl, g, e1⟩ := boolsD_ok zv hc
      show Out h A e E _ E (anyO (.ref a) h)
      exact (out_same R (fz_bool (b := c.any id))).eq' (any_look (seqL_of g) e1)
    · obtain ⟨c, hc, m⟩ := Option.map_eq_some_iff.mp m
      subst m
      obtain ⟨a, xs, rfl, g, e1⟩ := intsD_ok zv hc
      show Out h A e E _ E (sumO (.ref a) h)
      exact (out_same R (fz_int (b := c.sum))).eq' (sum_look (seqL_of g) e1)
    · obtain ⟨c, hc, m⟩ := Option.map_eq_some_iff.mp m
      subst m
      obtain ⟨ns, hn, hc⟩ := Option.bind_eq_some_iff.mp hc
      obtain ⟨a, xs, rfl, g, e1⟩ := intsD_ok zv hn
      show Out h A e E _ E (maxO (.ref a) h)
      exact (out_same R (fz_int (b := c))).eq' (max_look (seqL_of g) e1 hc)
    · obtain ⟨c, hc, m⟩ := Option.map_eq_some_iff.mp m
      subst m
      obtain ⟨ns, hn, hc⟩ := Option.bind_eq_some_iff.mp hc
      obtain ⟨a, xs, rfl, g, e1⟩ := intsD_ok zv hn
      show Out h A e E _ E (minO (.ref a) h)
      exact (out_same R (fz_int (b := c))).eq' (min_look (seqL_of g) e1 hc)
    · show Out h A e E _ E (revO v h)
      split at m
      · cases m
        obtain ⟨a, xs, rfl, g, r⟩ := vw_list zv
        have : revO (.ref a) h = alloc (.lst xs.reverse) h := by
          unfold revO
          simp only [seqL_of g]
        rw [this]
        exact out_lst R r.rev
      · cases m
    · exact isD_ok R zv m
    · exact isD_ok R zv m
    · exact isD_ok R zv m
    · exact isD_ok R zv m
    · exact isD_ok R zv m
    · cases m
  · obtain ⟨v, ws, rfl, zv, w2, ws2, rfl, zw, zz⟩ := z
    have zz : ws2 = [] := zz
    subst zz
    obtain rfl := vw_int zv
    obtain rfl := vw_int zw
    split at m
    · cases m
      exact out_same R fz_int
    · cases m
      exact out_same R fz_int
    · cases m
  · obtain ⟨v, ws, rfl, zv, w2, ws2, rfl, zw, zz⟩ := z
    have zz : ws2 = [] := zz
    subst zz
    obtain ⟨a, xs, rfl, g1, r1⟩ := vw_list zv
    obtain ⟨b, ys, rfl, g2, r2⟩ := vw_list zw
    split at m
    · obtain ⟨c, hc, m⟩ := Option.map_eq_some_iff.mp m
      subst m
      obtain ⟨vs, h', k, p, r3, _⟩ := pairs_ok (n := h.length) _ _ R r1 r2
      refine (Out.afterX p (sortV_ok p.rel r3 hc)).eq' ?_
      show szO (.ref a) (.ref b) h = _
      unfold szO
      simp only [seqL_of g1, seqL_of g2]
      rw [bd_eq k]
    · cases m
  · cases m
/-- a name's list changed by a method -/
theorem lmeth_ok {xs ys ds : List PyData} {ms : String} {a : Nat} {vs ws : List V} (g : h[a]? = some (.lst vs)) (r : FzL h A xs vs) (s : FzL h A ds ws) (m : lmethD ms xs ds = some ys) : ∃ vs', lmeth ms a ws h = some (.ok .non, h.set a (.lst vs')) ∧ FzL h A ys vs' := by
  unfold lmethD at m
  have gl := lstAt_of g
  split at m
  · simp only [FzL] at s
    obtain ⟨x, _, rfl, f, rfl⟩ := s
    split at m
    · rename_i c
      cases m
      refine ⟨vs ++ [x], ?_, r.app (FzL.one f)⟩
      unfold lmeth
      rw [gl]
      exact if_pos (by rw [← r.len]; exact c)
    · cases m
  · simp only [FzL] at s
    obtain ⟨x0, _, rfl, f0, x, _, rfl, f, rfl⟩ := s
    obtain rfl : x0 = .int _ := by simpa only [Fz] using f0
    split at m
    · rename_i c
      cases m
      refine ⟨vs.take _ ++ [x] ++ vs.drop _, ?_, ((r.take _).app (FzL.one f)).app (r.drop _)⟩
      unfold lmeth
      rw [gl]
      exact if_pos (by rw [← r.len]; exact c)
    · cases m
  · simp only [FzL] at s
    subst s
    cases m
    refine ⟨[], ?_, FzL.nil⟩
    unfold lmeth
    rw [gl]; rfl
  · simp only [FzL] at s
    subst s
    cases m
    refine ⟨vs.reverse, ?_, r.rev⟩
    unfold lmeth
    rw [gl]; rfl
  · cases m
end
end HI

set_option maxRecDepth 100000
set_option maxHeartbeats 4000000
/-! the induction over terms -/
namespace HI
open PySem L2

section
variable {h : Hh} {A : Av} {e : Ev} {E : Dn}
theorem rr_bool {n : Nat} {b : Bool} : RR n h A e E (.fz (.bool b)) (.bl b) := (fz_bool : Fz h A (.bool b) (.bl b))
theorem rr_int {n : Nat} {b : Int} : RR n h A e E (.fz (.int b)) (.int b) := (fz_int : Fz h A (.int b) (.int b))
theorem rr_none {n : Nat} : RR n h A e E (.fz .none) .non := (fz_none : Fz h A .none .non)
/-- then a step that ends -/
theorem Out.after {h1 : Hh} {A1 : Av} {E1 E2 : Dn} {r : Re} {o : Option (Rs V × Hh)} (p : Pst h.length e h A E h1 A1 E1) (q : Out h1 A1 e E1 r E2 o) : Out h A e E r E2 o := by
  obtain ⟨v, h2, A2, k, p2, z⟩ := q
  exact ⟨v, h2, A2, k, p.trans (p2.mono p.le), z.mono p.le⟩
theorem Out.eq {r : Re} {E' : Dn} {o o' : Option (Rs V × Hh)} (q : o' = o) (z : Out h A e E r E' o) : Out h A e E r E' o' := by rw [q]; exact z
/-- two terms one after the other -/
theorem two {mx my : Ev → Mo V} {dx dy : Md Re} (Kx : SndE mx dx) (Ky : SndE my dy) (R : RelE h A e E) {rx ry : Re} {E1 E2 : Dn} (q1 : dx E = some (rx, E1)) (q2 : dy E1 = some (ry, E2)) :
    ∃ x y h1 h2 A2, mx e h = some (.ok x, h1) ∧ my e h1 = some (.ok y, h2) ∧ Pst h.length e h A E h2 A2 E2 ∧ RR h.length h2 A2 e E2 rx x ∧ RR h.length h2 A2 e E2 ry y := by
  obtain ⟨x, h1, A1, k1, p1, z1⟩ := Kx h A e E rx E1 R q1
  obtain ⟨y, h2, A2, k2, p2, z2⟩ := Ky h1 A1 e E1 ry E2 p1.rel q2
  exact ⟨x, y, h1, h2, A2, k1, k2, p1.trans (p2.mono p1.le), z1.step p1.rel p2, z2.mono p1.le⟩
end
section
variable {C : Cfg} {D : DC}
abbrev SE (C : Cfg) (D : DC) (x : Ex) : Prop := SndE (fun e => ev C x e) (evD D x)
theorem s_bin {o : Op2} {a b : Ex} (Ka : SE C D a) (Kb : SE C D b) : SE C D (.bin o a b) := by
  intro h A e E r E' R m
  simp only [evD] at m
  obtain ⟨rx, E1, q1, m1_⟩ := mb_some m
  obtain ⟨ry, E2, q2, m2_⟩ := mb_some m1_
  obtain ⟨x, y, h1, h2, A2, k1, k2, p, z1, z2⟩ := two Ka Kb R q1 q2
  obtain ⟨dx, E3, q3, m3_⟩ := mb_some m2_
  obtain ⟨e3, w1⟩ := dat_ok p.rel z1 q3
  subst e3
  obtain ⟨dy, E4, q4, m4_⟩ := mb_some m3_
  obtain ⟨e4, w2⟩ := dat_ok p.rel z2 q4
  subst e4
  obtain ⟨t, e5⟩ := mo_some m4_
  subst e5
  refine ((opD_ok p.rel w1 w2 t).after p).eq ?_
  simp only [ev]
  rw [bd_eq k1, bd_eq k2]
theorem s_idx {a b : Ex} (Ka : SE C D a) (Kb : SE C D b) : SE C D (.idx a b) := by
  intro h A e E r E' R m
  simp only [evD] at m
  obtain ⟨rx, E1, q1, m1_⟩ := mb_some m
  obtain ⟨ry, E2, q2, m2_⟩ := mb_some m1_
  obtain ⟨x, y, h1, h2, A2, k1, k2, p, z1, z2⟩ := two Ka Kb R q1 q2
  obtain ⟨dx, E3, q3, m3_⟩ := mb_some m2_
  obtain ⟨e3, w1⟩ := datR_ok p.rel z1 q3
  subst e3
  obtain ⟨dy, E4, q4, m4_⟩ := mb_some m3_
  obtain ⟨e4, w2⟩ := dat_ok p.rel z2 q4
  subst e4
  obtain ⟨t, e5⟩ := mo_some m4_
  subst e5
  obtain ⟨d, hd, t⟩ := Option.map_eq_some_iff.mp t
  subst t
  obtain ⟨v, k3, f⟩ := indexD_ok w1 w2 hd
  refine (((out_same p.rel f).after p)).eq ?_
  simp only [ev]
  rw [bd_eq k1, bd_eq k2, k3]
theorem s_chain {o o2 : Op2} {a b c : Ex} (Ka : SE C D a) (Kb : SE C D b) (Kc : SE C D c) : SE C D (.chain o o2 a b c) := by
  intro h A e E r E' R m
  simp only [evD] at m
  obtain ⟨rx, E1, q1, m1_⟩ := mb_some m
  obtain ⟨ry, E2, q2, m2_⟩ := mb_some m1_
  obtain ⟨x, y, h1, h2, A2, k1, k2, p, z1, z2⟩ := two Ka Kb R q1 q2
  obtain ⟨dx, E3, q3, m3_⟩ := mb_some m2_
  obtain ⟨e3, w1⟩ := dat_ok p.rel z1 q3
  subst e3
  obtain ⟨dy, E4, q4, m4_⟩ := mb_some m3_
  obtain ⟨e4, w2⟩ := dat_ok p.rel z2 q4
  subst e4
  obtain ⟨u, E5, q5, m5_⟩ := mb_some m4_
  obtain ⟨t, e5⟩ := mo_some q5
  subst e5
  obtain ⟨v, h3, A3, k3, p3, z3⟩ := opD_ok p.rel w1 w2 t
  have pp := p.trans (p3.mono p.le)
  split at m5_
  · obtain rfl : v = .bl true := by
      have z3 : Fz h3 A3 (.bool true) v := z3
      simpa only [Fz] using z3
    obtain ⟨rz, E6, q6, m6_⟩ := mb_some m5_
    obtain ⟨z, h4, A4, k4, p4, z4⟩ := Kc h3 A3 e _ rz E6 p3.rel q6
    have zy := ((z2.step p.rel (p3.mono (Nat.le_refl _))).step p3.rel p4)
    obtain ⟨dy2, E7, q7, m7_⟩ := mb_some m6_
    obtain ⟨e7, w7⟩ := dat_ok p4.rel zy q7
    subst e7
    obtain ⟨dz, E8, q8, m8_⟩ := mb_some m7_
    obtain ⟨e8, w8⟩ := dat_ok p4.rel z4 q8
    subst e8
    obtain ⟨t2, e9⟩ := mo_some m8_
    subst e9
    refine ((opD_ok p4.rel w7 w8 t2).after (pp.trans (p4.mono pp.le))).eq ?_
    simp only [ev]
    rw [bd_eq k1, bd_eq k2, bd_eq k3]
    show bd (ev C c e) (fun z => op2 o2 y z) h3 = _
    rw [bd_eq k4]
  · obtain rfl : v = .bl false := by
      have z3 : Fz h3 A3 (.bool false) v := z3
      simpa only [Fz] using z3
    obtain ⟨e6, e7⟩ := mr_some m5_
    subst e6 e7
    refine ⟨.bl false, h3, A3, ?_, pp, rr_bool⟩
    simp only [ev]
    rw [bd_eq k1, bd_eq k2, bd_eq k3]; rfl
  · exact (mn_some m5_).elim
theorem s_and {a b : Ex} (Ka : SE C D a) (Kb : SE C D b) : SE C D (.and a b) := by
  intro h A e E r E' R m
  simp only [evD] at m
  obtain ⟨rx, E1, q1, m1_⟩ := mb_some m
  obtain ⟨x, h1, A1, k1, p1, z1⟩ := Ka h A e E rx E1 R q1
  obtain ⟨d, E2, q2, m2_⟩ := mb_some m1_
  obtain ⟨e2, w⟩ := dat_ok p1.rel z1 q2
  subst e2
  obtain ⟨k, E3, q3, m3_⟩ := mb_some m2_
  obtain ⟨t, e3⟩ := mo_some q3
  subst e3
  have kt := tru_ok' w t
  cases k with
  | true =>
    refine ((Kb h1 A1 e _ r E' p1.rel m3_).after p1).eq ?_
    simp only [ev]
    rw [bd_eq k1, bd_eq kt]; rfl
  | false =>
    obtain ⟨e4, e5⟩ := mr_some m3_
    subst e4 e5
    refine ⟨x, h1, A1, ?_, p1, z1⟩
    simp only [ev]
    rw [bd_eq k1, bd_eq kt]; rfl
theorem s_or {a b : Ex} (Ka : SE C D a) (Kb : SE C D b) : SE C D (.or a b) := by
  intro h A e E r E' R m
  simp only [evD] at m
  obtain ⟨rx, E1, q1, m1_⟩ := mb_some m
  obtain ⟨x, h1, A1, k1, p1, z1⟩ := Ka h A e E rx E1 R q1
  obtain ⟨d, E2, q2, m2_⟩ := mb_some m1_
  obtain ⟨e2, w⟩ := dat_ok p1.rel z1 q2
  subst e2
  obtain ⟨k, E3, q3, m3_⟩ := mb_some m2_
  obtain ⟨t, e3⟩ := mo_some q3
  subst e3
  have kt := tru_ok' w t
  cases k with
  | false =>
    refine ((Kb h1 A1 e _ r E' p1.rel m3_).after p1).eq ?_
    simp only [ev]
    rw [bd_eq k1, bd_eq kt]; rfl
  | true =>
    obtain ⟨e4, e5⟩ := mr_some m3_
    subst e4 e5
    refine ⟨x, h1, A1, ?_, p1, z1⟩
    simp only [ev]
    rw [bd_eq k1, bd_eq kt]; rfl
theorem evT_eq {a : Ex} {e : Ev} {h h1 : Hh} {b : Bool} (k : bd (ev C a e) tru h = some (.ok b, h1)) : ∃ x h2, ev C a e h = some (.ok x, h2) ∧ tru x h2 = some (.ok b, h1) := by
  unfold bd at k
  split at k
  · exact ⟨_, _, by assumption, k⟩
  · cases k
  · cases k
theorem s_ite {c a b : Ex} (Kc : SE C D c) (Ka : SE C D a) (Kb : SE C D b) : SE C D (.ite c a b) := by
  intro h A e E r E' R m
  simp only [evD] at m
  obtain ⟨k, E1, q1, m1_⟩ := mb_some m
  obtain ⟨h1, A1, k1, p1⟩ := testD_ok Kc h A e E k E1 R q1
  obtain ⟨x, h2, y1, y2⟩ := evT_eq k1
  cases k with
  | true =>
    refine ((Ka h1 A1 e _ r E' p1.rel m1_).after p1).eq ?_
    simp only [ev]
    rw [bd_eq y1, bd_eq y2]; rfl
  | false =>
    refine ((Kb h1 A1 e _ r E' p1.rel m1_).after p1).eq ?_
    simp only [ev]
    rw [bd_eq y1, bd_eq y2]; rfl
theorem s_not {a : Ex} (Ka : SE C D a) : SE C D (.not a) := by
  intro h A e E r E' R m
  simp only [evD] at m
  obtain ⟨k, E1, q1, m1_⟩ := mb_some m
  obtain ⟨h1, A1, k1, p1⟩ := testD_ok Ka h A e E k E1 R q1
  obtain ⟨x, h2, y1, y2⟩ := evT_eq k1
  obtain ⟨e4, e5⟩ := mr_some m1_
  subst e4 e5
  refine ⟨.bl (!k), h1, A1, ?_, p1, rr_bool⟩
  simp only [ev]
  rw [bd_eq y1, bd_eq y2]; rfl
theorem s_neg {a : Ex} (Ka : SE C D a) : SE C D (.neg a) := by
  intro h A e E r E' R m
  simp only [evD] at m
  obtain ⟨rx, E1, q1, m1_⟩ := mb_some m
  obtain ⟨x, h1, A1, k1, p1, z1⟩ := Ka h A e E rx E1 R q1
  obtain ⟨d, E2, q2, m2_⟩ := mb_some m1_
  obtain ⟨e2, w⟩ := dat_ok p1.rel z1 q2
  subst e2
  obtain ⟨i, E3, q3, m3_⟩ := mb_some m2_
  obtain ⟨t, e3⟩ := mo_some q3
  subst e3
  obtain rfl := intP_ok w t
  obtain ⟨e4, e5⟩ := mr_some m3_
  subst e4 e5
  refine ⟨.int (-i), h1, A1, ?_, p1, rr_int⟩
  simp only [ev]
  rw [bd_eq k1]
  show bd (toI (.int i)) (fun i => rt (V.int (-i))) h1 = _
  rw [bd_eq toI_eq]; rfl
abbrev SA (C : Cfg) (D : DC) (x : Exs) : Prop := SndA (fun e => evs C x e) (evsD D x)
abbrev SI (C : Cfg) (D : DC) (x : It) : Prop := SndI (fun e => evI C x e) (evID D x)
theorem s_tup {es : Exs} (K : SA C D es) : SE C D (.tup es) := by
  intro h A e E r E' R m
  simp only [evD] at m
  obtain ⟨rs, E1, q1, m1_⟩ := mb_some m
  obtain ⟨vs, h1, A1, k1, p1, z1⟩ := K h A e E rs E1 R q1
  obtain ⟨ds, E2, q2, m2_⟩ := mb_some m1_
  obtain ⟨A2, s2, f2⟩ := frzs_ok p1.rel z1 q2
  obtain ⟨u, E3, q3, m3_⟩ := mb_some m2_
  obtain ⟨hl, e3⟩ := chk_ok q3
  subst e3
  obtain ⟨e4, e5⟩ := mr_some m3_
  subst e4 e5
  refine (((out_tup s2.rel f2).after (s2.pst.mono (Nat.le_refl _) |> fun q => p1.trans q))).eq ?_
  simp only [ev]
  rw [bd_eq k1, if_pos (by rw [← f2.len]; exact hl)]
theorem s_lst {es : Exs} (K : SA C D es) : SE C D (.lst es) := by
  intro h A e E r E' R m
  simp only [evD] at m
  obtain ⟨rs, E1, q1, m1_⟩ := mb_some m
  obtain ⟨vs, h1, A1, k1, p1, z1⟩ := K h A e E rs E1 R q1
  obtain ⟨ds, E2, q2, m2_⟩ := mb_some m1_
  obtain ⟨A2, s2, f2⟩ := frzs_ok p1.rel z1 q2
  obtain ⟨u, E3, q3, m3_⟩ := mb_some m2_
  obtain ⟨hl, e3⟩ := chk_ok q3
  subst e3
  obtain ⟨e4, e5⟩ := mr_some m3_
  subst e4 e5
  refine (((out_lst s2.rel f2).after (p1.trans s2.pst))).eq ?_
  simp only [ev]
  rw [bd_eq k1, if_pos (by rw [← f2.len]; exact hl)]
theorem s_slc {a lo hi : Ex} {bl bh : Bool} (Ka : SE C D a) (Kl : SE C D lo) (Kh : SE C D hi) : SE C D (.slc a bl lo bh hi) := by
  intro h A e E r E' R m
  simp only [evD] at m
  obtain ⟨rx, E1, q1, m1_⟩ := mb_some m
  obtain ⟨x, h1, A1, k1, p1, z1⟩ := Ka h A e E rx E1 R q1
  obtain ⟨l, E2, q2, m2_⟩ := mb_some m1_
  obtain ⟨h2, A2, k2, p2⟩ := partD_ok Kl p1.rel q2
  obtain ⟨u, E3, q3, m3_⟩ := mb_some m2_
  obtain ⟨h3, A3, k3, p3⟩ := partD_ok Kh p2.rel q3
  have z3 := (z1.step p1.rel p2).step p2.rel p3
  obtain ⟨d, E4, q4, m4_⟩ := mb_some m3_
  obtain ⟨e4, w⟩ := datR_ok p3.rel z3 q4
  subst e4
  obtain ⟨t, e5⟩ := mo_some m4_
  subst e5
  have p12 := p1.trans (p2.mono p1.le)
  refine ((sliceD_ok p3.rel w t).after (p12.trans (p3.mono p12.le))).eq ?_
  simp only [ev]
  rw [bd_eq k1, bd_eq k2, bd_eq k3]
theorem s_call {f : String} {es : Exs} (Kd : CallOk C D) (K : SA C D es) : SE C D (.call f es) := by
  intro h A e E r E' R m
  simp only [evD] at m
  obtain ⟨rs, E1, q1, m1_⟩ := mb_some m
  obtain ⟨vs, h1, A1, k1, p1, z1⟩ := K h A e E rs E1 R q1
  obtain ⟨v, h2, A2, k2, p2, z2⟩ := callR_ok Kd p1.rel z1 p1.le m1_
  refine ⟨v, h2, A2, ?_, p1.trans p2, z2⟩
  simp only [ev]
  rw [bd_eq k1, k2]
theorem s_bcall {f : String} {es : Exs} (K : SA C D es) : SE C D (.bcall f es) := by
  intro h A e E r E' R m
  simp only [evD] at m
  obtain ⟨rs, E1, q1, m1_⟩ := mb_some m
  obtain ⟨vs, h1, A1, k1, p1, z1⟩ := K h A e E rs E1 R q1
  obtain ⟨ds, E2, q2, m2_⟩ := mb_some m1_
  obtain ⟨e2, w⟩ := dats_ok p1.rel z1 q2
  subst e2
  obtain ⟨t, e3⟩ := mo_some m2_
  subst e3
  refine ((bfnD_ok p1.rel w t).after p1).eq ?_
  simp only [ev]
  rw [bd_eq k1]
theorem modV_some {i : Nat} {f : PyData → Option PyData} {E E' : Dn} {u : Unit} (m : modV i f E = some (u, E')) : ∃ xs ys, E[i]? = some (some (.own xs)) ∧ f xs = some ys ∧ E' = E.set i (some (.own ys)) := by
  unfold modV at m
  split at m
  · rename_i xs hs
    obtain ⟨ys, h1, h2⟩ := Option.map_eq_some_iff.mp m
    cases h2
    exact ⟨xs, ys, slotV_ok hs, h1, rfl⟩
  · cases m
theorem decF_ok : ∀ {r : List (PyData × PyData)} {fs : List (Str × PyData)} {vs : List (Str × V)}, FzF h A r vs → decF r = some fs →
    r = encF fs ∧ fs.length = vs.length ∧ (∀ f, fs.lookup f = none → vs.lookup f = none) ∧ ∀ f d, fs.lookup f = some d → ∃ v, vs.lookup f = some v ∧ Fz h A d v
  | [], fs, vs, z, m => by
    simp only [FzF] at z
    subst z
    cases m
    exact ⟨rfl, rfl, fun _ _ => rfl, fun f d e => by cases e⟩
  | (k, d) :: r, fs, vs, z, m => by
    simp only [FzF] at z
    obtain ⟨f, x, fr, rfl, rfl, z1, z2⟩ := z
    obtain ⟨gs, hg, m⟩ := Option.map_eq_some_iff.mp (show (decF r).map (fun z => (f, d) :: z) = some fs from m)
    subst m
    obtain ⟨e1, e2, e3, e4⟩ := decF_ok z2 hg
    subst e1
    refine ⟨rfl, congrArg (· + 1) e2, fun g e => ?_, fun g d' e => ?_⟩
    · rw [List.lookup_cons] at e ⊢
      cases hq : g == f with
      | true => rw [hq] at e; cases e
      | false => rw [hq] at e; exact e3 g e
    · rw [List.lookup_cons] at e ⊢
      cases hq : g == f with
      | true => rw [hq] at e; cases e; exact ⟨x, rfl, z1⟩
      | false => rw [hq] at e; exact e4 g d' e
/-- an instance's data and its object -/
theorem insOf_ok {d : PyData} {c : Nat} {fs : List (Str × PyData)} {x : V} (z : Vw h A d x) (m : insOf d = some (c, fs)) :
    d = insD c fs ∧ ∃ (a : Nat) (vs : List (Str × V)), x = .ref a ∧ h[a]? = some (.ins c vs) ∧ FzF h A (encF fs) vs ∧ fs.length = vs.length ∧ (∀ f, fs.lookup f = none → vs.lookup f = none) ∧ ∀ f d, fs.lookup f = some d → ∃ v, vs.lookup f = some v ∧ Fz h A d v := by
  unfold insOf at m
  split at m
  · rename_i c' r
    obtain ⟨gs, hg, m⟩ := Option.map_eq_some_iff.mp m
    cases m
    obtain ⟨a, c2, vs, rfl, g, q⟩ := vw_dict z
    simp only [FzI] at q
    obtain ⟨_, q1, q2⟩ := q
    have : c = c2 := by
      have : (Int.ofNat c) = (c2 : Int) := by
        have := q1
        injection this
      exact Int.ofNat.inj this
    subst this
    obtain ⟨e1, e2, e3, e4⟩ := decF_ok q2 hg
    subst e1
    exact ⟨rfl, a, vs, rfl, g, q2, e2, e3, e4⟩
  · cases m
theorem recv_ins {mm : Str} {a c : Nat} {vs : List (Str × V)} (g : h[a]? = some (.ins c vs)) (hl : vs.lookup mm = none) : recv mm (.ref a) h = some (.ok (.ins c a), h) := by
  show ((match h[a]? with
    | some (.lst _) => some (Rc.lst a)
    | some (.ins c fs) => if fs.lookup mm = none then some (.ins c a) else none
    | _ => none).map fun a => ((Rs.ok a : Rs Rc), h)) = _
  rw [g]
  dsimp only
  rw [if_pos hl]; rfl
theorem recv_lst {mm : Str} {a : Nat} {vs : List V} (g : h[a]? = some (.lst vs)) : recv mm (.ref a) h = some (.ok (.lst a), h) := by
  show ((match h[a]? with
    | some (.lst _) => some (Rc.lst a)
    | some (.ins c fs) => if fs.lookup mm = none then some (.ins c a) else none
    | _ => none).map fun a => ((Rs.ok a : Rs Rc), h)) = _
  rw [g]; rfl
theorem RRs.low : ∀ {rs : List Re} {vs : List V} {n m : Nat}, m ≤ n → RRs h A e E n rs vs → RRs h A e E m rs vs
  | [], vs, n, m, l, z => z
  | r :: rs, vs, n, m, l, ⟨v, ws, k, e1, l1, z, lt, zs⟩ => ⟨v, ws, k, e1, Nat.le_trans l l1, z.mono l, lt, zs⟩
/-- the receiver's data, at hand -/
theorem recvI_vw (R : RelE h A e E) {mm : Str} {c n : Nat} {r : Re} {x : V} (z : RR n h A e E r x) (m : recvD mm E r = some (.inr c)) : ∃ a vs, x = .ref a ∧ h[a]? = some (.ins c vs) ∧ vs.lookup mm = none := by
  have go : ∀ d, Vw h A d x → recvI mm d = some (.inr c) → ∃ a vs, x = .ref a ∧ h[a]? = some (.ins c vs) ∧ vs.lookup mm = none := by
    intro d w q
    unfold recvI at q
    split at q
    · rename_i c2 fs hi
      split at q
      · rename_i hl
        cases q
        obtain ⟨_, a, vs, e1, g, _, _, e3, _⟩ := insOf_ok w hi
        exact ⟨a, vs, e1, g, e3 mm hl⟩
      · cases q
    · cases q
  unfold recvD at m
  split at m
  · exact go _ (Vw.of z) m
  · obtain ⟨a, o, rfl, _, g, _, _, q⟩ := z
    exact go _ (q.vw g) m
  · split at m
    · cases m
    · rename_i d _ hs
      exact go _ (va_vw R (slotV_ok hs) z.1 rfl) m
    · rename_i d hs
      exact go _ (va_vw R (slotV_ok hs) z.1 rfl) m
    · cases m
  · cases m
theorem s_meth {mm : Str} {ms : String} {o : Ex} {es : Exs} (Kd : CallOk C D) (Ko : SE C D o) (K : SA C D es) : SE C D (.meth mm ms o es) := by
  intro h A e E r E' R m
  simp only [evD] at m
  obtain ⟨rx, E1, q1, m1_⟩ := mb_some m
  obtain ⟨x, h1, A1, k1, p1, z1⟩ := Ko h A e E rx E1 R q1
  obtain ⟨kk, E1', q1', m1_⟩ := mb_some m1_
  obtain ⟨hk, e0⟩ := mg_some q1'
  subst e0
  split at m1_
  · rename_i i
    obtain ⟨rs, E2, q2, m2_⟩ := mb_some m1_
    obtain ⟨vs, h2, A2, k2, p2, z2⟩ := K h1 A1 e E1 rs E2 p1.rel q2
    obtain ⟨ds, E3, q3, m3_⟩ := mb_some m2_
    obtain ⟨A3, s3, f3⟩ := frzs_ok p2.rel z2 q3
    obtain ⟨u, E4, q4, m4_⟩ := mb_some m3_
    obtain ⟨e5, e6⟩ := mr_some m4_
    subst e5 e6
    obtain ⟨xs, ys, hs, hf, rfl⟩ := modV_some q4
    obtain ⟨a, ws, g1, g2, g3, g4⟩ := s3.rel.ow i xs hs
    -- the receiver was a list then, too
    have rc : ∃ vs1, e[i]? = some (some x) ∧ x = .ref a ∧ h1[a]? = some (.lst vs1) := by
      have hk : recvD mm E1 rx = some (.inl i) := hk
      unfold recvD at hk
      split at hk
      · exact absurd hk (by unfold recvI; split <;> (try split) <;> intro q <;> cases q)
      · exact absurd hk (by unfold recvI; split <;> (try split) <;> intro q <;> cases q)
      · split at hk
        · rename_i j ls hls
          cases hk
          obtain ⟨b, o, c1, c2, c3, vs1, rfl, c4⟩ := p1.rel.ow i _ (slotV_ok hls)
          have z11 := z1.1
          rw [g1] at c1
          cases c1
          rw [g1] at z11
          cases z11
          exact ⟨vs1, g1, rfl, c2⟩
        · exact absurd hk (by unfold recvI; split <;> (try split) <;> intro q <;> cases q)
        · exact absurd hk (by unfold recvI; split <;> (try split) <;> intro q <;> cases q)
        · cases hk
      · cases hk
    obtain ⟨vs1, _, rfl, gl⟩ := rc
    obtain ⟨ls, ms', rfl, hf', rfl⟩ : ∃ ls ls', xs = .list ls ∧ lmethD ms ls ds = some ls' ∧ ys = .list ls' := by
      unfold lmethL at hf
      split at hf
      · obtain ⟨l', h1, h2⟩ := Option.map_eq_some_iff.mp hf
        exact ⟨_, l', rfl, h1, h2.symm⟩
      · cases hf
    obtain ⟨ws', rfl, g5⟩ := g4
    obtain ⟨vs', k3, f4⟩ := lmeth_ok g2 g5 f3 hf'
    have pc : Pst h2.length e h2 A3 E3 (h2.set a (.lst vs')) A3 (E3.set i (some (.own (.list ms')))) := change s3.rel hs g1 ⟨vs', rfl, f4⟩
    have p12 := p1.trans (p2.mono p1.le)
    have p3 : Pst h.length e h A E h2 A3 E3 := p12.trans (s3.mono p1.le).pst
    refine ⟨.non, _, A3, ?_, p3.trans (pc.mono p12.le), rr_none⟩
    simp only [ev]
    rw [bd_eq k1, bd_eq (recv_lst gl), bd_eq k2]
    exact k3
  · rename_i c
    split at m1_
    · rename_i hm
      obtain ⟨rs, E2, q2, m2_⟩ := mb_some m1_
      obtain ⟨vs, h2, A2, k2, p2, z2⟩ := K h1 A1 e E1 rs E2 p1.rel q2
      obtain ⟨a, us, rfl, g, hl⟩ := recvI_vw p1.rel z1 hk
      have p12 := p1.trans (p2.mono p1.le)
      have zr := z1.step p1.rel p2
      have far : ∀ (j : Nat) (xs : PyData) (u : V), rs[j]? = some (.own xs) → vs[j]? = some u → ∃ b, u = .ref b ∧ h1.length ≤ b := fun j xs u y1 y2 => by
        obtain ⟨v', k1, k2⟩ := z2.get.2 j _ y1
        rw [y2] at k1
        cases k1
        obtain ⟨b, o, e1, l, _⟩ := k2
        exact ⟨b, e1, l⟩
      have la := lt_of_get g
      have zi : RRi h2 A2 e E2 h.length (rx :: rs) (.ref a :: vs) := by
        have z2' := (RRs.low p1.le z2).i
        refine ⟨⟨congrArg (· + 1) z2'.get.1, fun j r q => ?_⟩, fun i j xs ys v y1 y2 y3 y4 => ?_⟩
        · cases j with
          | zero => cases q; exact ⟨_, rfl, zr⟩
          | succ j => exact z2'.get.2 j r q
        · cases i with
          | zero =>
            cases y3
            cases j with
            | zero => rfl
            | succ j =>
              obtain ⟨b, e1, l⟩ := far j ys _ y2 y4
              cases e1
              omega
          | succ i =>
            cases j with
            | zero =>
              cases y4
              obtain ⟨b, e1, l⟩ := far i xs _ y1 y3
              cases e1
              omega
            | succ j => exact congrArg (· + 1) (z2'.inj i j xs ys v y1 y2 y3 y4)
      obtain ⟨v, h', A', c1, p, rr⟩ := callI_ok Kd p12.rel zi p12.le m2_
      refine ⟨v, h', A', ?_, p12.trans p, rr⟩
      simp only [ev]
      rw [bd_eq k1, bd_eq (recv_ins g hl), bd_eq k2]
      show (if C.hasM c ms = true then C.call (C.cname c ++ "." ++ ms) (.ref a :: vs) else no) h2 = _
      rw [Kd.hm, if_pos hm, Kd.cn]
      exact c1
    · exact (mn_some m1_).elim
theorem s_mk {c : Nat} {es : Exs} (Kd : CallOk C D) (K : SA C D es) : SE C D (.mk c es) := by
  intro h A e E r E' R m
  simp only [evD] at m
  obtain ⟨rs, E1, q1, m1⟩ := mb_some m
  obtain ⟨vs, h1, A1, k1, p1, z1⟩ := K h A e E rs E1 R q1
  obtain ⟨v, h2, A2, k2, p2, z2⟩ := mkR_ok Kd p1.rel z1 p1.le m1
  refine ⟨v, h2, A2, ?_, p1.trans p2, z2⟩
  simp only [ev]
  rw [bd_eq k1]
  exact k2
theorem s_fld {o : Ex} {f : Str} (Kd : CallOk C D) (Ko : SE C D o) : SE C D (.fld o f) := by
  intro h A e E r E' R m
  simp only [evD] at m
  obtain ⟨rx, E1, q1, m1⟩ := mb_some m
  obtain ⟨x, h1, A1, k1, p1, z1⟩ := Ko h A e E rx E1 R q1
  obtain ⟨d, E2, q2, m2⟩ := mb_some m1
  obtain ⟨e2, w⟩ := dat_ok p1.rel z1 q2
  subst e2
  obtain ⟨t, e3⟩ := mo_some m2
  subst e3
  obtain ⟨d', hd, t⟩ := Option.map_eq_some_iff.mp t
  subst t
  unfold fldD at hd
  split at hd
  · rename_i c fs hi
    split at hd
    · rename_i hf
      obtain ⟨_, a, vs, rfl, g, _, _, _, e4⟩ := insOf_ok w hi
      obtain ⟨v, hv, fv⟩ := e4 f d' hd
      refine ⟨v, h1, A1, ?_, p1, fv⟩
      simp only [ev]
      rw [bd_eq k1]
      have hf' : C.fld c f = true := by rw [Kd.fd]; exact hf
      unfold fldO look
      simp only [g, hf', if_true, hv]; rfl
    · cases hd
  · cases hd
theorem s_slot {i : Nat} : SE C D (.slot i) := by
  intro h A e E r E' R m
  simp only [evD] at m
  unfold rdv at m
  obtain ⟨mm, e1⟩ := mg_some m
  subst e1
  split at mm
  · rename_i d hs
    cases mm
    obtain ⟨v, h1, h2⟩ := R.fz i d (slotV_ok hs)
    refine ⟨v, h, A, ?_, Pst.refl R, h2⟩
    simp only [ev]
    unfold getS
    rw [h1]; rfl
  · rename_i xs hs
    cases mm
    obtain ⟨a, vs, h1, h2, _⟩ := R.ow i xs (slotV_ok hs)
    refine ⟨.ref a, h, A, ?_, Pst.refl R, h1, _, slotV_ok hs⟩
    simp only [ev]
    unfold getS
    rw [h1]; rfl
  · rename_i xs hs
    cases mm
    obtain ⟨a, vs, h1, h2, h3⟩ := R.ro i xs (slotV_ok hs)
    refine ⟨.ref a, h, A, ?_, Pst.refl R, a, vs, rfl, h2, h3⟩
    simp only [ev]
    unfold getS
    rw [h1]; rfl
  · cases mm
theorem s_cst {v : V} : SE C D (.cst v) := by
  intro h A e E r E' R m
  simp only [evD] at m
  obtain ⟨t, e1⟩ := mo_some m
  subst e1
  obtain ⟨d, hd, t⟩ := Option.map_eq_some_iff.mp t
  subst t
  refine ⟨v, h, A, ?_, Pst.refl R, vD_ok hd⟩
  simp only [ev]; rfl
theorem s_comp {own : List Nat} {t : Tg} {it : It} {c el : Ex} (Ki : SI C D it) (Kc : SE C D c) (Ke : SE C D el) : SE C D (.comp own t it c el) := by
  intro h A e E r E' R m
  simp only [evD] at m
  obtain ⟨w, E1, q1, m1_⟩ := mb_some m
  obtain ⟨iv, h1, A1, k1, p1, z1, lv⟩ := Ki h A e E w E1 R q1
  refine ((compD_ok (testD_ok Kc) Ke p1.rel z1 lv m1_).after p1).eq ?_
  simp only [ev]
  rw [bd_eq k1]
theorem s_nil : SA C D .nil := by
  intro h A e E rs E' R m
  simp only [evsD] at m
  obtain ⟨e1, e2⟩ := mr_some m
  subst e1 e2
  refine ⟨[], h, A, ?_, Pst.refl R, rfl⟩
  simp only [evs]; rfl
theorem s_cons {a : Ex} {r : Exs} (Ka : SE C D a) (Kr : SA C D r) : SA C D (.cons a r) := by
  intro h A e E rs E' R m
  simp only [evsD] at m
  obtain ⟨rx, E1, q1, m1_⟩ := mb_some m
  obtain ⟨x, h1, A1, k1, p1, z1⟩ := Ka h A e E rx E1 R q1
  obtain ⟨ss, E2, q2, m2_⟩ := mb_some m1_
  obtain ⟨ws, h2, A2, k2, p2, z2⟩ := Kr h1 A1 e E1 ss E2 p1.rel q2
  obtain ⟨e3, e4⟩ := mr_some m2_
  subst e3 e4
  refine ⟨x :: ws, h2, A2, ?_, p1.trans (p2.mono p1.le), x, ws, h1.length, rfl, p1.le, z1.step p1.rel p2, fun a xs hr hv => ?_, z2⟩
  · simp only [evs]
    rw [bd_eq k1, bd_eq k2]; rfl
  · subst hr
    obtain ⟨a', vs, e1, _, g, _⟩ := z1
    rw [hv] at e1
    cases e1
    exact lt_of_get g
theorem s_seq {a : Ex} (Ka : SE C D a) : SI C D (.seq a) := by
  intro h A e E w E' R m
  simp only [evID] at m
  obtain ⟨rx, E1, q1, m1_⟩ := mb_some m
  obtain ⟨x, h1, A1, k1, p1, z1⟩ := Ka h A e E rx E1 R q1
  obtain ⟨s, E2, q2, m2_⟩ := mb_some m1_
  obtain ⟨e2, a', xs, rfl, la, cas⟩ := srcR_ok p1.rel z1 q2
  subst e2
  obtain ⟨e3, e4⟩ := mr_some m2_
  subst e3 e4
  rcases cas with ⟨g, z⟩ | ⟨_, g0, g, z⟩
  · refine ⟨.lst a' xs, h1, A1, ?_, p1, z, fun d hd => Nat.ne_of_lt (Nat.lt_of_lt_of_le la hd)⟩
    simp only [evI]
    rw [bd_eq k1]
    unfold seqO look
    simp only [g]; rfl
  · refine ⟨.tup a' xs, h1, A1, ?_, p1, z, fun d hd => trivial⟩
    simp only [evI]
    rw [bd_eq k1]
    unfold seqO look
    simp only [g0, g]; rfl
theorem lstO_eq {a : Nat} {xs : List V} {h : Hh} (g : seqL h a = some xs) : lstO (.ref a) h = some (.ok (a, xs), h) := by
  unfold lstO look
  simp only [g]; rfl
theorem s_enum {a : Ex} (Ka : SE C D a) : SI C D (.enum a) := by
  intro h A e E w E' R m
  simp only [evID] at m
  obtain ⟨rx, E1, q1, m1_⟩ := mb_some m
  obtain ⟨x, h1, A1, k1, p1, z1⟩ := Ka h A e E rx E1 R q1
  obtain ⟨s, E2, q2, m2_⟩ := mb_some m1_
  obtain ⟨e2, a', xs, rfl, la, cas⟩ := srcR_ok p1.rel z1 q2
  subst e2
  obtain ⟨e3, e4⟩ := mr_some m2_
  subst e3 e4
  rcases cas with ⟨g, z⟩ | ⟨h0, _⟩
  · refine ⟨.enum a' xs, h1, A1, ?_, p1, z, fun d hd => Nat.ne_of_lt (Nat.lt_of_lt_of_le la hd)⟩
    simp only [evI]
    rw [bd_eq k1, bd_eq (lstO_eq g)]; rfl
  · cases h0
theorem s_zip {a b : Ex} (Ka : SE C D a) (Kb : SE C D b) : SI C D (.zip a b) := by
  intro h A e E w E' R m
  simp only [evID] at m
  obtain ⟨rx, E1, q1, m1_⟩ := mb_some m
  obtain ⟨ry, E2, q2, m2_⟩ := mb_some m1_
  obtain ⟨x, y, h1, h2, A2, k1, k2, p, z1, z2⟩ := two Ka Kb R q1 q2
  obtain ⟨s, E3, q3, m3_⟩ := mb_some m2_
  obtain ⟨e3, a', xs, rfl, la, cas⟩ := srcR_ok p.rel z1 q3
  subst e3
  obtain ⟨t, E4, q4, m4_⟩ := mb_some m3_
  obtain ⟨e4, b', ys, rfl, lb, cas2⟩ := srcR_ok p.rel z2 q4
  subst e4
  obtain ⟨e5, e6⟩ := mr_some m4_
  subst e5 e6
  rcases cas with ⟨g, z⟩ | ⟨h0, _⟩
  · rcases cas2 with ⟨g2, zz⟩ | ⟨h0, _⟩
    · refine ⟨.zip a' b' xs ys, h2, A2, ?_, p, ⟨z, zz⟩, fun d hd => ⟨Nat.ne_of_lt (Nat.lt_of_lt_of_le la hd), Nat.ne_of_lt (Nat.lt_of_lt_of_le lb hd)⟩⟩
      simp only [evI]
      rw [bd_eq k1, bd_eq k2, bd_eq (lstO_eq g), bd_eq (lstO_eq g2)]; rfl
    · cases h0
  · cases h0
theorem s_rng1 {a : Ex} (Ka : SE C D a) : SI C D (.rng1 a) := by
  intro h A e E w E' R m
  simp only [evID] at m
  obtain ⟨rx, E1, q1, m1_⟩ := mb_some m
  obtain ⟨x, h1, A1, k1, p1, z1⟩ := Ka h A e E rx E1 R q1
  obtain ⟨d, E2, q2, m2_⟩ := mb_some m1_
  obtain ⟨e2, w⟩ := dat_ok p1.rel z1 q2
  subst e2
  obtain ⟨i, E3, q3, m3_⟩ := mb_some m2_
  obtain ⟨t, e3⟩ := mo_some q3
  subst e3
  obtain rfl := intP_ok w t
  obtain ⟨t2, e4⟩ := mo_some m3_
  subst e4
  obtain ⟨k2, rfl⟩ := rngD_ok (h := h1) t2
  refine ⟨.rng 0 (i - 0).toNat, h1, A1, ?_, p1, ⟨rfl, rfl⟩, fun _ _ => trivial⟩
  simp only [evI]
  rw [bd_eq k1, bd_eq toI_eq, k2]
theorem s_rng2 {a b : Ex} (Ka : SE C D a) (Kb : SE C D b) : SI C D (.rng2 a b) := by
  intro h A e E w E' R m
  simp only [evID] at m
  obtain ⟨rx, E1, q1, m1_⟩ := mb_some m
  obtain ⟨ry, E2, q2, m2_⟩ := mb_some m1_
  obtain ⟨x, y, h1, h2, A2, k1, k2, p, z1, z2⟩ := two Ka Kb R q1 q2
  obtain ⟨dx, E3, q3, m3_⟩ := mb_some m2_
  obtain ⟨e3, w1⟩ := dat_ok p.rel z1 q3
  subst e3
  obtain ⟨dy, E4, q4, m4_⟩ := mb_some m3_
  obtain ⟨e4, w2⟩ := dat_ok p.rel z2 q4
  subst e4
  obtain ⟨i, E5, q5, m5_⟩ := mb_some m4_
  obtain ⟨t, e5⟩ := mo_some q5
  subst e5
  obtain ⟨j, E6, q6, m6_⟩ := mb_some m5_
  obtain ⟨t2, e6⟩ := mo_some q6
  subst e6
  obtain rfl := intP_ok w1 t
  obtain rfl := intP_ok w2 t2
  obtain ⟨t3, e7⟩ := mo_some m6_
  subst e7
  obtain ⟨k3, rfl⟩ := rngD_ok (h := h2) t3
  refine ⟨.rng i (j - i).toNat, h2, A2, ?_, p, ⟨rfl, rfl⟩, fun _ _ => trivial⟩
  simp only [evI]
  rw [bd_eq k1, bd_eq k2, bd_eq toI_eq, bd_eq toI_eq, k3]
mutual
theorem evD_ok (Kd : CallOk C D) : ∀ x : Ex, SE C D x
  | .slot i => s_slot
  | .cst v => s_cst
  | .glob x => fun h A e E r E' R m => by simp only [evD] at m; exact (mn_some m).elim
  | .bin o a b => s_bin (evD_ok Kd a) (evD_ok Kd b)
  | .neg a => s_neg (evD_ok Kd a)
  | .not a => s_not (evD_ok Kd a)
  | .and a b => s_and (evD_ok Kd a) (evD_ok Kd b)
  | .or a b => s_or (evD_ok Kd a) (evD_ok Kd b)
  | .chain o p a b c => s_chain (evD_ok Kd a) (evD_ok Kd b) (evD_ok Kd c)
  | .ite c a b => s_ite (evD_ok Kd c) (evD_ok Kd a) (evD_ok Kd b)
  | .tup es => s_tup (evsD_ok Kd es)
  | .lst es => s_lst (evsD_ok Kd es)
  | .idx a i => s_idx (evD_ok Kd a) (evD_ok Kd i)
  | .slc a bl lo bh hi => s_slc (evD_ok Kd a) (evD_ok Kd lo) (evD_ok Kd hi)
  | .call f es => s_call Kd (evsD_ok Kd es)
  | .bcall f es => s_bcall (evsD_ok Kd es)
  | .mk c es => s_mk Kd (evsD_ok Kd es)
  | .meth m ms o es => s_meth Kd (evD_ok Kd o) (evsD_ok Kd es)
  | .fld o f => s_fld Kd (evD_ok Kd o)
  | .comp own t it c e => s_comp (evID_ok Kd it) (evD_ok Kd c) (evD_ok Kd e)
theorem evsD_ok (Kd : CallOk C D) : ∀ x : Exs, SA C D x
  | .nil => s_nil
  | .cons a r => s_cons (evD_ok Kd a) (evsD_ok Kd r)
theorem evID_ok (Kd : CallOk C D) : ∀ x : It, SI C D x
  | .seq a => s_seq (evD_ok Kd a)
  | .rng1 a => s_rng1 (evD_ok Kd a)
  | .rng2 a b => s_rng2 (evD_ok Kd a) (evD_ok Kd b)
  | .enum a => s_enum (evD_ok Kd a)
  | .zip a b => s_zip (evD_ok Kd a) (evD_ok Kd b)
end
end
end HI

set_option maxRecDepth 100000
set_option maxHeartbeats 4000000
/-! statements: over data as in the heap -/
namespace HI
open PySem L2

def Va.re : Va → Re
  | .fz d => .fz d
  | .own xs => .own xs
  | .rol xs => .rol xs
section
variable {h : Hh} {A : Av} {e : Ev} {E : Dn}
theorem resv_ok (R : RelE h A e E) {n : Nat} {r : Re} {v : V} {va : Va} {E' : Dn} (z : RR n h A e E r v) (m : resv r E = some (va, E')) : ∃ A', FzS h.length h A e E A' E' ∧ RR n h A' e E' va.re v := by
  have gen : (∀ xs, r ≠ .own xs) → mb (frz r) (fun d => mr (Va.fz d)) E = some (va, E') → ∃ A', FzS h.length h A e E A' E' ∧ RR n h A' e E' va.re v := by
    intro no q
    obtain ⟨d, E1, q1, q2⟩ := mb_some q
    obtain ⟨e1, e2⟩ := mr_some q2
    subst e1 e2
    have z' : RR h.length h A e E r v := by
      cases r with
      | own xs => exact absurd rfl (no xs)
      | fz d => exact z
      | var i => exact z
      | rol xs => exact z
    obtain ⟨A', s, f⟩ := frz_ok R z' q1
    exact ⟨A', s, f⟩
  cases r with
  | own xs =>
    obtain ⟨e1, e2⟩ := mr_some m
    subst e1 e2
    exact ⟨A, FzS.refl R, z⟩
  | rol xs =>
    obtain ⟨e1, e2⟩ := mr_some m
    subst e1 e2
    exact ⟨A, FzS.refl R, z⟩
  | fz d => exact gen (fun _ z => by cases z) m
  | var i => exact gen (fun _ z => by cases z) m
theorem resvs_ok : ∀ {rs : List Re} {vs : List V} {n : Nat} {A : Av} {E E' : Dn} {vas : List Va}, RelE h A e E → RRs h A e E n rs vs → resvs rs E = some (vas, E') → ∃ A', FzS h.length h A e E A' E' ∧ RRs h A' e E' n (vas.map Va.re) vs
  | [], vs, n, A, E, E', vas, R, z, m => by
    obtain ⟨e1, e2⟩ := mr_some (a := ([] : List Va)) m
    subst e1 e2
    exact ⟨A, FzS.refl R, z⟩
  | r :: rs, vs, n, A, E, E', vas, R, ⟨v, ws, mm, e1, l, z, lt, zs⟩, m => by
    subst e1
    obtain ⟨va, E1, q1, q2⟩ := mb_some (show mb (resv r) (fun d => mb (resvs rs) fun ds => mr (d :: ds)) E = some (vas, E') from m)
    obtain ⟨A1, s1, z1⟩ := resv_ok R z q1
    obtain ⟨was, E2, q3, q4⟩ := mb_some q2
    obtain ⟨e1, e2⟩ := mr_some q4
    subst e1 e2
    obtain ⟨A2, s2, z2⟩ := resvs_ok s1.rel (RRs.step R s1.pst zs) q3
    refine ⟨A2, s1.trans s2, v, ws, mm, rfl, l, z1.step s1.rel s2.pst, fun a xs h1 h2 => ?_, z2⟩
    have hr : r = .own xs := by
      cases va with
      | fz d => cases h1
      | rol d => cases h1
      | own d =>
        cases h1
        cases r with
        | own ys => obtain ⟨e1, _⟩ := mr_some q1; cases e1; rfl
        | rol ys => obtain ⟨e1, _⟩ := mr_some q1; cases e1
        | fz d =>
          obtain ⟨d, E1, q1, q2⟩ := mb_some (show mb (frz (.fz d)) (fun d => mr (Va.fz d)) E = _ from q1)
          obtain ⟨e1, _⟩ := mr_some q2; cases e1
        | var i =>
          obtain ⟨d, E1, q1, q2⟩ := mb_some (show mb (frz (.var i)) (fun d => mr (Va.fz d)) E = _ from q1)
          obtain ⟨e1, _⟩ := mr_some q2; cases e1
    exact lt a xs hr h2
theorem e_set {i : Nat} {o : Option V} {j : Nat} {u : Option V} (z : (e.set i o)[j]? = some u) : (j = i ∧ u = o) ∨ (j ≠ i ∧ e[j]? = some u) := by
  by_cases hj : j = i
  · subst hj
    have l : j < e.length := by
      rcases Nat.lt_or_ge j e.length with y | y
      · exact y
      · rw [List.getElem?_eq_none (by rw [List.length_set]; exact y)] at z; cases z
    rw [List.getElem?_set_self l] at z
    cases z
    exact .inl ⟨rfl, rfl⟩
  · rw [ev_set hj] at z
    exact .inr ⟨hj, z⟩
/-- a name takes a value -/
theorem put_ok (R : RelE h A e E) {n i : Nat} {va : Va} {v : V} (z : RR n h A e E va.re v) (l : i < E.length) : RelE h A (e.set i (some v)) (E.set i (some va)) ∧
    ∀ b, Oa (e.set i (some v)) (E.set i (some va)) b → Oa e E b ∨ ((∃ xs, va = .own xs) ∧ v = .ref b) := by
  have le : i < e.length := R.bound l
  have mi : ∀ b, Oa (e.set i (some v)) (E.set i (some va)) b → Oa e E b ∨ ((∃ xs, va = .own xs) ∧ v = .ref b) := fun b ⟨j, xs, z1, z2⟩ => by
    rcases setE z2 with ⟨rfl, y, _⟩ | ⟨hj, y⟩
    · cases y
      rcases e_set z1 with ⟨_, y⟩ | ⟨y, _⟩
      · cases y
        exact .inr ⟨⟨xs, rfl⟩, rfl⟩
      · exact absurd rfl y
    · rw [ev_set hj] at z1
      exact .inl ⟨j, xs, z1, y⟩
  refine ⟨?_, mi⟩
  cases va with
  | fz d => exact R.setFz z
  | own xs =>
    obtain ⟨a, vs, rfl, _, g, ha, no, r⟩ := z
    refine ⟨by rw [List.length_set, List.length_set]; exact R.len, fun j c y => ?_, fun j ys y => ?_, fun j ys y => ?_, fun j k c us ws y1 y2 y3 y4 => ?_, R.lt⟩
    · rcases setE y with ⟨rfl, y, _⟩ | ⟨hj, y⟩
      · cases y
      · rw [ev_set hj]; exact R.fz j c y
    · rcases setE y with ⟨rfl, y, _⟩ | ⟨hj, y⟩
      · cases y
        exact ⟨a, vs, List.getElem?_set_self le, g, ha, r⟩
      · rw [ev_set hj]; exact R.ow j ys y
    · rcases setE y with ⟨rfl, y, _⟩ | ⟨hj, y⟩
      · cases y
      · rw [ev_set hj]; exact R.ro j ys y
    · rcases setE y3 with ⟨ej, w3, _⟩ | ⟨hj, w3⟩ <;> rcases setE y4 with ⟨ek, w4, _⟩ | ⟨hk, w4⟩
      · exact ej.trans ek.symm
      · subst ej
        rw [List.getElem?_set_self le] at y1
        cases y1
        rw [ev_set hk] at y2
        exact absurd ⟨k, ws, y2, w4⟩ no
      · subst ek
        rw [List.getElem?_set_self le] at y2
        cases y2
        rw [ev_set hj] at y1
        exact absurd ⟨j, us, y1, w3⟩ no
      · rw [ev_set hj] at y1
        rw [ev_set hk] at y2
        exact R.inj j k c us ws y1 y2 w3 w4
  | rol xs =>
    obtain ⟨a, vs, rfl, g, r⟩ := z
    refine ⟨by rw [List.length_set, List.length_set]; exact R.len, fun j c y => ?_, fun j ys y => ?_, fun j ys y => ?_, fun j k c us ws y1 y2 y3 y4 => ?_, R.lt⟩
    · rcases setE y with ⟨rfl, y, _⟩ | ⟨hj, y⟩
      · cases y
      · rw [ev_set hj]; exact R.fz j c y
    · rcases setE y with ⟨rfl, y, _⟩ | ⟨hj, y⟩
      · cases y
      · rw [ev_set hj]; exact R.ow j ys y
    · rcases setE y with ⟨rfl, y, _⟩ | ⟨hj, y⟩
      · cases y
        exact ⟨a, vs, List.getElem?_set_self le, g, r⟩
      · rw [ev_set hj]; exact R.ro j ys y
    · rcases setE y3 with ⟨rfl, y3, _⟩ | ⟨hj, y3⟩
      · cases y3
      · rcases setE y4 with ⟨rfl, y4, _⟩ | ⟨hk, y4⟩
        · cases y4
        · rw [ev_set hj] at y1
          rw [ev_set hk] at y2
          exact R.inj j k c us ws y1 y2 y3 y4
/-- the protected names stay -/
def Pro (P : List Nat) (e : Ev) (E : Dn) (e' : Ev) (E' : Dn) : Prop := ∀ i ∈ P, e'[i]? = e[i]? ∧ ∀ v, E[i]? = some (some v) → ∃ v', E'[i]? = some (some v')
theorem Pro.refl {P e E} : Pro P e E e E := fun i _ => ⟨rfl, fun v z => ⟨v, z⟩⟩
theorem Pro.trans {P e E e1 E1 e2 E2} (p : Pro P e E e1 E1) (q : Pro P e1 E1 e2 E2) : Pro P e E e2 E2 := fun i hi => ⟨(q i hi).1.trans (p i hi).1, fun v z => by
  obtain ⟨v1, z1⟩ := (p i hi).2 v z
  exact (q i hi).2 v1 z1⟩
theorem Pro.sub {P Q e E e1 E1} (s : ∀ i ∈ Q, i ∈ P) (p : Pro P e E e1 E1) : Pro Q e E e1 E1 := fun i hi => p i (s i hi)
theorem Pro.of {P n e h A E h' A' E'} (p : Pst n e h A E h' A' E') : Pro P e E e E' := fun i _ => ⟨rfl, fun v z => p.dom i v z⟩
theorem stoD_some {P : List Nat} {i : Nat} {va : Va} {u : Unit} {E' : Dn} (m : stoD P i va E = some (u, E')) : i ∉ P ∧ i < E.length ∧ E' = E.set i (some va) := by
  unfold stoD at m
  split at m
  · exact (mn_some m).elim
  · have m := mset_some m
    split at m
    · cases m
      exact ⟨by assumption, by assumption, rfl⟩
    · cases m
theorem stosD_ok {P : List Nat} : ∀ {is : List Nat} {vas : List Va} {vs : List V} {n : Nat} {e : Ev} {E E' : Dn} {u : Unit}, RelE h A e E → RRs h A e E n (vas.map Va.re) vs → stosD P is vas E = some (u, E') →
    ∃ e', setAll is vs e = some e' ∧ RelE h A e' E' ∧ (∀ b, Oa e' E' b → Oa e E b ∨ n ≤ b) ∧ Pro P e E e' E' ∧ e'.length = e.length
  | [], [], vs, n, e, E, E', u, R, z, m => by
    obtain ⟨_, e2⟩ := mr_some (a := ()) m
    subst e2
    have z : vs = [] := z
    subst z
    exact ⟨e, rfl, R, fun b o => .inl o, Pro.refl, rfl⟩
  | i :: is, va :: vas, vs, n, e, E, E', u, R, ⟨v, ws, mm, e1, l, z, lt, zs⟩, m => by
    subst e1
    obtain ⟨u1, E1, q1, q2⟩ := mb_some (show mb (stoD P i va) (fun _ => stosD P is vas) E = some (u, E') from m)
    obtain ⟨hp, hl, rfl⟩ := stoD_some q1
    obtain ⟨R1, mi⟩ := put_ok R z hl
    have own : ∀ b, ((∃ xs, va = .own xs) ∧ v = .ref b) → n ≤ b ∧ b < mm := fun b ⟨⟨xs, h1⟩, h2⟩ => by
      subst h1
      obtain ⟨a, _, e1, k, _⟩ := z
      rw [h2] at e1
      cases e1
      exact ⟨k, lt b xs rfl h2⟩
    have keep : ∀ {rs : List Re} {vs : List V} {k : Nat}, mm ≤ k → RRs h A e E k rs vs → (∀ j, Re.var j ∉ rs) → RRs h A (e.set i (some v)) (E.set i (some va)) k rs vs := by
      intro rs
      induction rs with
      | nil => intro vs k _ z _; exact z
      | cons r rs ih =>
        rintro vs k hk ⟨v', ws, m', e1, l', z', lt', zs'⟩ nv
        subst e1
        refine ⟨v', ws, m', rfl, l', ?_, lt', ih (Nat.le_trans hk l') zs' fun j hj => nv j (List.mem_cons_of_mem _ hj)⟩
        cases r with
        | fz d => exact z'
        | own xs =>
          obtain ⟨a, vs, rfl, l1, g, ha, na, r⟩ := z'
          refine ⟨a, vs, rfl, l1, g, ha, fun o => ?_, r⟩
          rcases mi a o with y | y
          · exact na y
          · have := (own a y).2
            exact absurd (Nat.lt_of_lt_of_le this (Nat.le_trans hk l1)) (Nat.lt_irrefl _)
        | var j => exact absurd List.mem_cons_self (nv j)
        | rol xs => exact z'
    obtain ⟨e', h1, h2, h3, h4, h5⟩ := stosD_ok R1 (keep (Nat.le_refl _) zs (fun j hj => by
      obtain ⟨va, _, y⟩ := List.mem_map.mp hj
      cases va <;> cases y)) q2
    refine ⟨e', h1, h2, fun b o => ?_, Pro.trans (fun j hj => ?_) h4, by rw [h5, List.length_set]⟩
    · rcases h3 b o with y | y
      · rcases mi b y with y | y
        · exact .inl y
        · exact .inr (own b y).1
      · exact .inr (Nat.le_trans l y)
    · have hj' : j ≠ i := fun y => hp (by rw [← y]; exact hj)
      exact ⟨ev_set hj', fun v z => ⟨v, by rw [List.getElem?_set_ne (Ne.symm hj')]; exact z⟩⟩
  | [], _ :: _, _, _, _, _, _, _, _, _, m => (mn_some m).elim
  | _ :: _, [], _, _, _, _, _, _, _, _, m => (mn_some m).elim
theorem fzs_rrs : ∀ {ds : List PyData} {vs : List V} (n : Nat), FzL h A ds vs → RRs h A e E n ((ds.map Va.fz).map Va.re) vs
  | [], vs, n, r => by
    simp only [FzL] at r
    exact r
  | d :: ds, vs, n, r => by
    simp only [FzL] at r
    obtain ⟨x, xr, rfl, f, g⟩ := r
    exact ⟨x, xr, n, rfl, Nat.le_refl _, f, (fun _ _ z => by cases z), fzs_rrs n g⟩
/-- what a target's store comes to -/
structure Sto (P : List Nat) (n : Nat) (h : Hh) (A : Av) (e : Ev) (E : Dn) (A' : Av) (e' : Ev) (E' : Dn) : Prop where
  rel : RelE h A' e' E'
  g : Gst h.length h A (Oa e E) h A'
  mine : ∀ b, Oa e' E' b → Oa e E b ∨ n ≤ b
  pro : Pro P e E e' E'
  len : e'.length = e.length
theorem asgR_ok (R : RelE h A e E) {P : List Nat} {n : Nat} {t : Tg} {r : Re} {v : V} {u : Unit} {E' : Dn} (z : RR n h A e E r v) (m : asgR P t r E = some (u, E')) : ∃ A' e', asg t v e h = some e' ∧ Sto P n h A e E A' e' E' := by
  cases t with
  | nm i =>
    obtain ⟨va, E1, q1, q2⟩ := mb_some (show mb (resv r) (fun v => stoD P i v) E = some (u, E') from m)
    obtain ⟨A1, s, z1⟩ := resv_ok R z q1
    obtain ⟨hp, hl, rfl⟩ := stoD_some q2
    obtain ⟨R1, mi⟩ := put_ok s.rel z1 hl
    refine ⟨A1, _, rfl, R1, s.pst.g, fun b o => ?_, Pro.trans (Pro.of s.pst) (fun j hj => ?_), List.length_set ..⟩
    · rcases mi b o with y | ⟨⟨xs, y1⟩, y2⟩
      · exact .inl (s.mine b y)
      · subst y1
        obtain ⟨a, _, e1, k, _⟩ := z1
        rw [y2] at e1
        cases e1
        exact .inr k
    · have hj' : j ≠ i := fun y => hp (by rw [← y]; exact hj)
      exact ⟨ev_set hj', fun v z => ⟨v, by rw [List.getElem?_set_ne (Ne.symm hj')]; exact z⟩⟩
  | tp is =>
    unfold asgR at m
    dsimp only at m
    split at m
    · rename_i ds
      have z : Fz h A (.tuple ds) v := z
      simp only [Fz] at z
      obtain ⟨a, xs, rfl, s, f⟩ := z
      obtain ⟨e', h1, h2, h3, h4, h5⟩ := stosD_ok R (fzs_rrs n f) m
      refine ⟨A, e', ?_, h2, Gst.refl, h3, h4, h5⟩
      show (match seqT h a with | some xs => setAll is xs e | none => none) = _
      rw [s]; exact h1
    · exact (mn_some m).elim
end
end HI

set_option maxRecDepth 100000
set_option maxHeartbeats 4000000
/-! the induction over statements -/
namespace HI
open PySem L2

/-- from one state to a later one -/
structure Mid (P : List Nat) (h : Hh) (A : Av) (e : Ev) (E : Dn) (h' : Hh) (A' : Av) (e' : Ev) (E' : Dn) : Prop where
  rel : RelE h' A' e' E'
  g : Gst h.length h A (Oa e E) h' A'
  mine : ∀ b, Oa e' E' b → Oa e E b ∨ h.length ≤ b
  pro : Pro P e E e' E'
  len : e'.length = e.length
theorem Mid.refl {P h A e E} (R : RelE h A e E) : Mid P h A e E h A e E := ⟨R, Gst.refl, fun _ z => .inl z, Pro.refl, rfl⟩
theorem Mid.trans {P h A e E h1 A1 e1 E1 h2 A2 e2 E2} (p : Mid P h A e E h1 A1 e1 E1) (q : Mid P h1 A1 e1 E1 h2 A2 e2 E2) : Mid P h A e E h2 A2 e2 E2 := by
  refine ⟨q.rel, p.g.trans (Nat.le_refl _) (q.g.mono p.g.le) p.mine, fun b z => ?_, p.pro.trans q.pro, q.len.trans p.len⟩
  rcases q.mine b z with y | y
  · exact p.mine b y
  · exact .inr (Nat.le_trans p.g.le y)
theorem Mid.of {P h A e E h' A' E'} (p : Pst h.length e h A E h' A' E') : Mid P h A e E h' A' e E' := ⟨p.rel, p.g, fun b z => .inl (p.mine b z), Pro.of p, rfl⟩
theorem Mid.sto {P h A e E h1 A1 E1 A2 e2 E2} (p : Pst h.length e h A E h1 A1 E1) (s : Sto P h.length h1 A1 e E1 A2 e2 E2) : Mid P h A e E h1 A2 e2 E2 := by
  refine ⟨s.rel, p.g.trans (Nat.le_refl _) (s.g.mono p.le) fun b z => .inl (p.mine b z), fun b z => ?_, (Pro.of p).trans s.pro, s.len⟩
  rcases s.mine b z with y | y
  · exact .inl (p.mine b y)
  · exact .inr y
theorem Mid.sub {P Q h A e E h' A' e' E'} (s : ∀ i ∈ Q, i ∈ P) (p : Mid P h A e E h' A' e' E') : Mid Q h A e E h' A' e' E' := ⟨p.rel, p.g, p.mine, p.pro.sub s, p.len⟩
def FlR (n : Nat) (h : Hh) (A : Av) (e : Ev) (E : Dn) : Fd → Fl → Prop
  | .nx, .nx e2 => e2 = e
  | .bk, .bk e2 => e2 = e
  | .ct, .ct e2 => e2 = e
  | .rt r, .rt v => RR n h A e E r v
  | _, _ => False
theorem FlR.mono {n m h A e E f fl} (l : m ≤ n) (z : FlR n h A e E f fl) : FlR m h A e E f fl := by
  cases f <;> cases fl <;> first | exact z | exact RR.mono l z
def SRes (P : List Nat) (h : Hh) (A : Av) (e : Ev) (E : Dn) (f : Fd) (E' : Dn) (o : Option (Rs Fl × Hh)) : Prop := ∃ fl h' A' e', o = some (.ok fl, h') ∧ Mid P h A e E h' A' e' E' ∧ FlR h.length h' A' e' E' f fl
theorem SRes.after {P h A e E h1 A1 e1 E1 f E2 o} (p : Mid P h A e E h1 A1 e1 E1) (q : SRes P h1 A1 e1 E1 f E2 o) : SRes P h A e E f E2 o := by
  obtain ⟨fl, h', A', e', k, m, z⟩ := q
  exact ⟨fl, h', A', e', k, p.trans m, z.mono p.g.le⟩
theorem SRes.eq {P h A e E f E' o o'} (q : o' = o) (z : SRes P h A e E f E' o) : SRes P h A e E f E' o' := by rw [q]; exact z
theorem SRes.sub {P Q h A e E f E' o} (s : ∀ i ∈ Q, i ∈ P) (z : SRes P h A e E f E' o) : SRes Q h A e E f E' o := by
  obtain ⟨fl, h', A', e', k, m, z⟩ := z
  exact ⟨fl, h', A', e', k, m.sub s, z⟩
theorem sres_nx {P h A e E h' A' e' E'} (m : Mid P h A e E h' A' e' E') : SRes P h A e E .nx E' (some (.ok (.nx e'), h')) := ⟨.nx e', h', A', e', rfl, m, rfl⟩
abbrev SS (C : Cfg) (D : DC) (P : List Nat) (ms : Ev → Mo Fl) (m : Md Fd) : Prop := ∀ (h : Hh) (A : Av) (e : Ev) (E : Dn) (f : Fd) (E' : Dn), RelE h A e E → m E = some (f, E') → SRes P h A e E f E' (ms e h)
section
variable {C : Cfg} {D : DC} {P : List Nat}
theorem t_asg {t : Tg} {a : Ex} (K : SE C D a) : SS C D P (fun e => ex C (.asg t a) e) (exD D P (.asg t a)) := by
  intro h A e E f E' R m
  simp only [exD] at m
  obtain ⟨r, E1, q1, m1⟩ := mb_some m
  obtain ⟨v, h1, A1, k1, p1, z1⟩ := K h A e E r E1 R q1
  obtain ⟨u, E2, q2, m2⟩ := mb_some m1
  obtain ⟨A2, e2, k2, s⟩ := asgR_ok p1.rel z1 q2
  obtain ⟨e3, e4⟩ := mr_some m2
  subst e3 e4
  refine (sres_nx (Mid.sto p1 s)).eq ?_
  simp only [ex]
  rw [bd_eq k1]
  have : look (asg t v e) h1 = some (.ok e2, h1) := by
    show (asg t v e h1).map _ = _
    rw [k2]; rfl
  rw [bd_eq this]; rfl
theorem setD_ok {h : Hh} {A : Av} {k d : PyData} {xs ys : PyData} {ob : Ob} {a : Nat} {y v : V} (g : h[a]? = some ob) (r : Cn h A xs ob) (w : Vw h A k y) (f : Fz h A d v) (m : setD k d xs = some ys) :
    ∃ vs', setAt (.ref a) y v h = some (.ok (), h.set a vs') ∧ Cn h A ys vs' := by
  unfold setD at m
  split at m
  · rename_i k
    obtain rfl := vw_int w
    obtain ⟨j, hj, rfl⟩ := Option.map_eq_some_iff.mp m
    obtain ⟨vs, rfl, r⟩ := r
    refine ⟨.lst (vs.set j v), ?_, _, rfl, r.set f j⟩
    unfold setAt
    dsimp only
    rw [lstAt_of g]
    dsimp only
    rw [← r.len, hj]; rfl
  · cases m
theorem varR_some {q : Re} {j : Nat} (m : varR q = some j) : q = .var j := by
  cases q <;> simp only [varR] at m <;> cases m
  rfl
theorem t_asgSub {o i a : Ex} (Ko : SE C D o) (Ki : SE C D i) (Ka : SE C D a) : SS C D P (fun e => ex C (.asgSub o i a) e) (exD D P (.asgSub o i a)) := by
  intro h A e E f E' R m
  simp only [exD] at m
  obtain ⟨r, E1, q1, m1⟩ := mb_some m
  obtain ⟨v, h1, A1, k1, p1, z1⟩ := Ka h A e E r E1 R q1
  obtain ⟨qo, E2, q2, m2⟩ := mb_some m1
  obtain ⟨y, h2, A2, k2, p2, z2⟩ := Ko h1 A1 e E1 qo E2 p1.rel q2
  obtain ⟨qi, E3, q3, m3⟩ := mb_some m2
  obtain ⟨z, h3, A3, k3, p3, z3⟩ := Ki h2 A2 e E2 qi E3 p2.rel q3
  obtain ⟨j, E4, q4, m4⟩ := mb_some m3
  obtain ⟨t4, e4⟩ := mo_some q4
  subst e4
  obtain rfl := varR_some t4
  obtain ⟨dk, E5, q5, m5⟩ := mb_some m4
  obtain ⟨e5, w⟩ := dat_ok p3.rel z3 q5
  subst e5
  obtain ⟨d, E6, q6, m6⟩ := mb_some m5
  have zr := (z1.step p1.rel p2).step p2.rel p3
  have p12 := p1.trans (p2.mono p1.le)
  have p13 := p12.trans (p3.mono p12.le)
  obtain ⟨A6, s6, f6⟩ := frz_ok p3.rel zr q6
  obtain ⟨u, E7, q7, m7⟩ := mb_some m6
  obtain ⟨e8, e9⟩ := mr_some m7
  subst e8 e9
  obtain ⟨xs, ys, hs, hf, rfl⟩ := modV_some q7
  obtain ⟨a', ws, g1, g2, g3, g4⟩ := s6.rel.ow j xs hs
  have w6 : Vw h3 A6 dk z := by
    have ok := s6.ok
    cases dk with
    | list ds =>
      obtain ⟨b, us, c1, c2, c3⟩ := w
      exact ⟨b, us, c1, c2, FzL.ok ok ds us c3⟩
    | none => exact Fz.ok ok _ z w
    | bool b => exact Fz.ok ok _ z w
    | int b => exact Fz.ok ok _ z w
    | str b => exact Fz.ok ok _ z w
    | tuple b => exact Fz.ok ok _ z w
    | dict b =>
      obtain ⟨b1, c, us, c1, c2, c3⟩ := w
      exact ⟨b1, c, us, c1, c2, FzI.ok ok c b us c3⟩
  obtain ⟨vs', k4, f4⟩ := setD_ok g2 g4 w6 f6 hf
  have ey : y = .ref a' := by
    have := z2.1
    rw [g1] at this
    cases this; rfl
  subst ey
  have pc : Pst h.length e h3 A6 E6 (h3.set a' vs') A6 (E6.set j (some (.own ys))) := change s6.rel hs g1 f4
  have p : Pst h.length e h A E (h3.set a' vs') A6 (E6.set j (some (.own ys))) := (p13.trans s6.pst).trans pc
  refine (sres_nx (Mid.of p)).eq ?_
  simp only [ex]
  rw [bd_eq k1, bd_eq k2, bd_eq k3, bd_eq k4]; rfl
theorem putF_fz {h : Hh} {A : Av} {f : Str} {d : PyData} {v : V} (z : Fz h A d v) : ∀ {fs : List (Str × PyData)} {vs : List (Str × V)}, FzF h A (encF fs) vs → FzF h A (encF (putD f d fs)) (putF f v vs)
  | [], vs, q => by
    simp only [encF, FzF] at q
    subst q
    show FzF h A [(.str f, d)] [(f, v)]
    simp only [FzF]
    exact ⟨f, v, [], rfl, rfl, z, rfl⟩
  | (g, d0) :: r, vs, q => by
    simp only [encF, FzF] at q
    obtain ⟨g', x, fr, rfl, e1, q1, q2⟩ := q
    cases e1
    show FzF h A (encF (if g = f then (g, d) :: r else (g, d0) :: putD f d r)) (if g = f then (g, v) :: fr else (g, x) :: putF f v fr)
    by_cases hg : g = f
    · rw [if_pos hg, if_pos hg]
      simp only [encF, FzF]
      exact ⟨g, v, fr, rfl, rfl, z, q2⟩
    · rw [if_neg hg, if_neg hg]
      simp only [encF, FzF]
      exact ⟨g, x, _, rfl, rfl, q1, putF_fz z q2⟩
theorem t_asgFld {o a : Ex} {fn : Str} (Kd : CallOk C D) (Ko : SE C D o) (Ka : SE C D a) : SS C D P (fun e => ex C (.asgFld o fn a) e) (exD D P (.asgFld o fn a)) := by
  intro h A e E f E' R m
  simp only [exD] at m
  obtain ⟨r, E1, q1, m1⟩ := mb_some m
  obtain ⟨v, h1, A1, k1, p1, z1⟩ := Ka h A e E r E1 R q1
  obtain ⟨qo, E2, q2, m2⟩ := mb_some m1
  obtain ⟨y, h2, A2, k2, p2, z2⟩ := Ko h1 A1 e E1 qo E2 p1.rel q2
  obtain ⟨j, E4, q4, m4⟩ := mb_some m2
  obtain ⟨t4, e4⟩ := mo_some q4
  subst e4
  obtain rfl := varR_some t4
  obtain ⟨d, E6, q6, m6⟩ := mb_some m4
  have zr := z1.step p1.rel p2
  have p12 := p1.trans (p2.mono p1.le)
  obtain ⟨A6, s6, f6⟩ := frz_ok p2.rel zr q6
  obtain ⟨u, E7, q7, m7⟩ := mb_some m6
  obtain ⟨e8, e9⟩ := mr_some m7
  subst e8 e9
  obtain ⟨xs, ys, hs, hf, rfl⟩ := modV_some q7
  obtain ⟨a', ws, g1, g2, g3, g4⟩ := s6.rel.ow j xs hs
  have ey : y = .ref a' := by
    have := z2.1
    rw [g1] at this
    cases this; rfl
  subst ey
  unfold setFD at hf
  split at hf
  · rename_i c fs hi
    split at hf
    · rename_i hc
      cases hf
      obtain ⟨_, b, vs, e1, gb, qf, ql, _⟩ := insOf_ok (g4.vw g2) hi
      cases e1
      rw [g2] at gb
      cases gb
      have cn : Cn h2 A6 (insD c (putD fn d fs)) (.ins c (putF fn v vs)) := by
        refine ⟨c, _, rfl, ?_⟩
        show FzI h2 A6 c ((.none, .int c) :: encF (putD fn d fs)) _
        simp only [FzI]
        exact ⟨trivial, trivial, putF_fz f6 qf⟩
      have pc : Pst h.length e h2 A6 E6 (h2.set a' (.ins c (putF fn v vs))) A6 (E6.set j (some (.own (insD c (putD fn d fs))))) := change s6.rel hs g1 cn
      have p := (p12.trans s6.pst).trans pc
      refine (sres_nx (Mid.of p)).eq ?_
      simp only [ex]
      rw [bd_eq k1, bd_eq k2]
      have hs' : setF C (.ref a') fn v h2 = some (.ok (), h2.set a' (.ins c (putF fn v vs))) := by
        unfold setF
        dsimp only
        rw [g2]
        dsimp only
        rw [Kd.fd, if_pos ⟨hc.1, by rw [← ql]; exact hc.2⟩]
      rw [bd_eq hs']; rfl
    · cases hf
  · cases hf
theorem stoD_ok {h : Hh} {A : Av} {e : Ev} {E E' : Dn} {i : Nat} {d : PyData} {v : V} {u : Unit} (R : RelE h A e E) (f : Fz h A d v) (m : stoD P i (.fz d) E = some (u, E')) (n : Nat) : Sto P n h A e E A (e.set i (some v)) E' := by
  obtain ⟨hp, hl, rfl⟩ := stoD_some m
  refine ⟨R.setFz f, Gst.refl, fun b o => .inl (oa_setFz o), fun j hj => ?_, List.length_set ..⟩
  have hj' : j ≠ i := fun y => hp (by rw [← y]; exact hj)
  exact ⟨ev_set hj', fun v z => ⟨v, by rw [List.getElem?_set_ne (Ne.symm hj')]; exact z⟩⟩
theorem t_aug {i : Nat} {o : Op2} {a : Ex} (K : SE C D a) : SS C D P (fun e => ex C (.aug i o a) e) (exD D P (.aug i o a)) := by
  intro h A e E f E' R m
  simp only [exD] at m
  obtain ⟨x, E0, q0, m0⟩ := mb_some m
  obtain ⟨t0, e0⟩ := mg_some q0
  subst e0
  have hs : E[i]? = some (some (.fz x)) := by
    split at t0
    · rename_i d hd
      cases t0
      exact slotV_ok hd
    · cases t0
  obtain ⟨vx, g1, fx⟩ := R.fz i x hs
  obtain ⟨r, E1, q1, m1⟩ := mb_some m0
  obtain ⟨v, h1, A1, k1, p1, z1⟩ := K h A e E r E1 R q1
  obtain ⟨dy, E2, q2, m2⟩ := mb_some m1
  obtain ⟨e2, w⟩ := dat_ok p1.rel z1 q2
  subst e2
  obtain ⟨dv, E3, q3, m3⟩ := mb_some m2
  obtain ⟨t3, e3⟩ := mo_some q3
  subst e3
  obtain ⟨nv, k3, f3⟩ := intD_ok (Vw.of (Fz.ok (p1.ok R) x vx fx)) w t3
  obtain ⟨u, E4, q4, m4⟩ := mb_some m3
  obtain ⟨e5, e6⟩ := mr_some m4
  subst e5 e6
  refine (sres_nx (Mid.sto p1 (stoD_ok p1.rel f3 q4 h.length))).eq ?_
  simp only [ex]
  have gs : getS e i h = some (.ok vx, h) := by
    unfold getS
    rw [g1]; rfl
  rw [bd_eq gs, bd_eq k1]
  show bd (intO o vx v) _ h1 = _
  rw [bd_eq k3]; rfl
theorem t_augSub {o i a : Ex} {op : Op2} (Ko : SE C D o) (Ki : SE C D i) (Ka : SE C D a) : SS C D P (fun e => ex C (.augSub o i op a) e) (exD D P (.augSub o i op a)) := by
  intro h A e E f E' R m
  simp only [exD] at m
  obtain ⟨qo, E1, q1, m1⟩ := mb_some m
  obtain ⟨y, h1, A1, k1, p1, z1⟩ := Ko h A e E qo E1 R q1
  obtain ⟨qi, E2, q2, m2⟩ := mb_some m1
  obtain ⟨z, h2, A2, k2, p2, z2⟩ := Ki h1 A1 e E1 qi E2 p1.rel q2
  obtain ⟨j, E4, q4, m4⟩ := mb_some m2
  obtain ⟨t4, e4⟩ := mo_some q4
  subst e4
  obtain rfl := varR_some t4
  obtain ⟨dk, E5, q5, m5⟩ := mb_some m4
  obtain ⟨e5, w⟩ := dat_ok p2.rel z2 q5
  subst e5
  obtain ⟨dx, E6, q6, m6⟩ := mb_some m5
  obtain ⟨t6, e6⟩ := mg_some q6
  subst e6
  obtain ⟨ra, E7, q7, m7⟩ := mb_some m6
  obtain ⟨va, h3, A3, k3, p3, z3⟩ := Ka h2 A2 e _ ra E7 p2.rel q7
  obtain ⟨dz, E8, q8, m8⟩ := mb_some m7
  obtain ⟨e8, wz⟩ := dat_ok p3.rel z3 q8
  subst e8
  obtain ⟨dv, E9, q9, m9⟩ := mb_some m8
  obtain ⟨t9, e9⟩ := mo_some q9
  subst e9
  obtain ⟨u, E10, q10, m10⟩ := mb_some m9
  obtain ⟨e11, e12⟩ := mr_some m10
  subst e11 e12
  -- the old item
  unfold atV at t6
  split at t6
  · rename_i xs0 hs0
    obtain ⟨a0, wo, b1, b2, b3, ws0, rfl, b4⟩ := p2.rel.ow j _ (slotV_ok hs0)
    have ey : y = .ref a0 := by
      have := z1.1
      rw [b1] at this
      cases this; rfl
    subst ey
    have vwl : VwR h2 A2 (.list xs0) (.ref a0) := ⟨a0, ws0, rfl, seqL_of b2, b4⟩
    obtain ⟨ov, k5, f5⟩ := indexD_ok vwl w t6
    have k5' : indexL (.ref a0) z h2 = some (.ok ov, h2) := by
      cases dk <;> simp only [indexD] at t6 <;> (try cases t6)
      obtain rfl := vw_int w
      unfold index look at k5
      unfold indexL look
      simp only [seqL_of b2] at k5 ⊢
      exact k5
    obtain ⟨nv, k6, f6⟩ := intD_ok (Vw.of (Fz.ok (p3.ok p2.rel) dx ov f5)) wz t9
    obtain ⟨xs, ys, hs, hf, rfl⟩ := modV_some q10
    obtain ⟨a', ws, g1, g2, g3, g4⟩ := p3.rel.ow j xs hs
    rw [b1] at g1
    cases g1
    have w6 : Vw h3 A3 dk z := by
      unfold setD at hf
      split at hf
      · obtain rfl := vw_int w
        exact (show Fz h3 A3 (.int _) (.int _) from fz_int)
      · cases hf
    obtain ⟨vs', k7, f7⟩ := setD_ok g2 g4 w6 f6 hf
    have p12 := p1.trans (p2.mono p1.le)
    have p13 := p12.trans (p3.mono p12.le)
    have pc : Pst h.length e h3 A3 _ (h3.set a0 vs') A3 _ := change p3.rel hs b1 f7
    refine (sres_nx (Mid.of (p13.trans pc))).eq ?_
    simp only [ex]
    rw [bd_eq k1, bd_eq k2, bd_eq k5', bd_eq k3]
    show bd (intO op ov va) _ h3 = _
    rw [bd_eq k6, bd_eq k7]; rfl
  · cases t6
theorem t_ex {a : Ex} (K : SE C D a) : SS C D P (fun e => ex C (.ex a) e) (exD D P (.ex a)) := by
  intro h A e E f E' R m
  simp only [exD] at m
  obtain ⟨r, E1, q1, m1⟩ := mb_some m
  obtain ⟨v, h1, A1, k1, p1, z1⟩ := K h A e E r E1 R q1
  obtain ⟨e3, e4⟩ := mr_some m1
  subst e3 e4
  refine (sres_nx (Mid.of p1)).eq ?_
  simp only [ex]
  rw [bd_eq k1]; rfl
theorem t_ret {a : Ex} (K : SE C D a) : SS C D P (fun e => ex C (.ret a) e) (exD D P (.ret a)) := by
  intro h A e E f E' R m
  simp only [exD] at m
  obtain ⟨r, E1, q1, m1⟩ := mb_some m
  obtain ⟨v, h1, A1, k1, p1, z1⟩ := K h A e E r E1 R q1
  obtain ⟨e3, e4⟩ := mr_some m1
  subst e3 e4
  refine ⟨.rt v, h1, A1, e, ?_, Mid.of p1, z1⟩
  simp only [ex]
  rw [bd_eq k1]; rfl
theorem t_par {is : List Nat} {es : Exs} (K : SA C D es) : SS C D P (fun e => ex C (.par is es) e) (exD D P (.par is es)) := by
  intro h A e E f E' R m
  simp only [exD] at m
  obtain ⟨rs, E1, q1, m1⟩ := mb_some m
  obtain ⟨vs, h1, A1, k1, p1, z1⟩ := K h A e E rs E1 R q1
  obtain ⟨vas, E2, q2, m2⟩ := mb_some m1
  obtain ⟨A2, s2, z2⟩ := resvs_ok p1.rel z1 q2
  obtain ⟨u, E3, q3, m3⟩ := mb_some m2
  obtain ⟨e', k2, R3, mi, pr, ln⟩ := stosD_ok s2.rel z2 q3
  obtain ⟨e4, e5⟩ := mr_some m3
  subst e4 e5
  have p2 := p1.trans ((s2.mono p1.le).pst)
  refine (sres_nx (P := P) (A' := A2) (e' := e') (Mid.sto p2 ⟨R3, Gst.refl, mi, pr, ln⟩)).eq ?_
  simp only [ex]
  rw [bd_eq k1]
  have : opt (setAll is vs e) h1 = some (.ok e', h1) := by
    unfold opt
    rw [k2]; rfl
  rw [bd_eq this]; rfl
theorem go_wr {P : List Nat} {h h' : Hh} {A A' : Av} {e e' : Ev} {E E' : Dn} {w : Wd} {iv : Iv} (R : RelE h A e E) (m : Mid P h A e E h' A' e' E') (hv : ∀ i ∈ w.vars, i ∈ P) (W : WR h A e E w iv) : WR h' A' e' E' w iv :=
  WR.go (Gst.ok R.lt (fun b z => (R.mine z).1) m.g) (sm_of (n := 0) (M := fun _ => False) m.g m.mine) (fun i hi => (m.pro i (hv i hi)).1) W
theorem for_ok {w : Wd} {iv : Iv} {t : Tg} {mb' : Ev → Mo Fl} {body : Md Fd} (hv : ∀ i ∈ w.vars, i ∈ P) (K : SS C D P mb' body) : ∀ (n i : Nat) (h : Hh) (A : Av) (e : Ev) (E : Dn) (f : Fd) (E' : Dn), RelE h A e E → WR h A e E w iv →
    forD w P t body n i E = some (f, E') → SRes P h A e E f E' (forGo iv t mb' n i e h) := by
  intro n
  induction n with
  | zero =>
    intro i h A e E f E' R W m
    have m : (if w.ends E then some (Fd.nx, E) else none) = some (f, E') := m
    split at m
    · rename_i he
      cases m
      refine (sres_nx (Mid.refl R)).eq ?_
      show (if iv.ends h then some ((.ok (.nx e) : Rs Fl), h) else none) = _
      rw [if_pos (W.ends R he)]
    · cases m
  | succ n ih =>
    intro i h A e E f E' R W m
    obtain ⟨y, E0, q0, m0⟩ := mb_some (show mb (mg (w.at i)) (fun d => mb (asgP P t d) fun _ => mb body fun f => match f with
      | .nx => forD w P t body n (i + 1)
      | .ct => forD w P t body n (i + 1)
      | .bk => mr .nx
      | .rt r => mr (.rt r)) E = some (f, E') from m)
    obtain ⟨w1, e0⟩ := mg_some q0
    subst e0
    obtain ⟨x, h1, k1, p1, f1⟩ := WR.at (n := h.length) R W w1
    obtain ⟨u, E1, q1, m1⟩ := mb_some m0
    obtain ⟨A2, e2, k2, s2⟩ := asgR_ok (n := h.length) (r := .fz y) (v := x) p1.rel f1 (show asgR P t (.fz y) E = _ from q1)
    have md := Mid.sto p1 s2
    obtain ⟨g, E3, q3, m3⟩ := mb_some m1
    obtain ⟨fl, h3, A3, e3, k3, md3, z3⟩ := K h1 A2 e2 E1 g E3 md.rel q3
    have md13 := md.trans md3
    have k2' : look (asg t x e) h1 = some (.ok e2, h1) := by
      show (asg t x e h1).map _ = _
      rw [k2]; rfl
    have hd : forGo iv t mb' (n + 1) i e h = (match fl with
      | .nx e2 => forGo iv t mb' n (i + 1) e2
      | .ct e2 => forGo iv t mb' n (i + 1) e2
      | .bk e2 => rt (.nx e2)
      | .rt v => rt (.rt v)) h3 := by
      show bd (iv.at i) _ h = _
      rw [bd_eq k1, bd_eq k2', bd_eq k3]
      all_goals (cases fl <;> rfl)
    have W3 := go_wr R md13 hv W
    refine SRes.eq hd ?_
    cases g with
    | nx =>
      cases fl with
      | nx e4 =>
        obtain rfl : e4 = e3 := z3
        exact (ih (i + 1) h3 A3 _ E3 f E' md13.rel W3 m3).after md13
      | _ => exact z3.elim
    | ct =>
      cases fl with
      | ct e4 =>
        obtain rfl : e4 = e3 := z3
        exact (ih (i + 1) h3 A3 _ E3 f E' md13.rel W3 m3).after md13
      | _ => exact z3.elim
    | bk =>
      cases fl with
      | bk e4 =>
        obtain rfl : e4 = e3 := z3
        obtain ⟨e5, e6⟩ := mr_some m3
        subst e5 e6
        exact sres_nx md13
      | _ => exact z3.elim
    | rt r =>
      cases fl with
      | rt v =>
        obtain ⟨e5, e6⟩ := mr_some m3
        subst e5 e6
        exact ⟨.rt v, h3, A3, e3, rfl, md13, FlR.mono (f := .rt r) (fl := .rt v) p1.le z3⟩
      | _ => exact z3.elim
theorem while_ok {mc : Ev → Mo Bool} {c : Md Bool} {mb' : Ev → Mo Fl} {body : Md Fd} (Kc : SndC mc c) (K : SS C D P mb' body) : ∀ (n : Nat) (h : Hh) (A : Av) (e : Ev) (E : Dn) (f : Fd) (E' : Dn), RelE h A e E →
    whileD c body n E = some (f, E') → SRes P h A e E f E' (whileGo mc mb' n e h) := by
  intro n
  induction n with
  | zero => intro h A e E f E' R m; exact (mn_some m).elim
  | succ n ih =>
    intro h A e E f E' R m
    obtain ⟨b, E1, q1, m1⟩ := mb_some (show mb c (fun k => if k then mb body fun f => match f with
      | .nx => whileD c body n
      | .ct => whileD c body n
      | .bk => mr .nx
      | .rt r => mr (.rt r)
      else mr .nx) E = some (f, E') from m)
    obtain ⟨h1, A1, k1, p1⟩ := Kc h A e E b E1 R q1
    have md : Mid P h A e E h1 A1 e E1 := Mid.of p1
    cases b with
    | false =>
      obtain ⟨e5, e6⟩ := mr_some m1
      subst e5 e6
      refine (sres_nx md).eq ?_
      show bd (mc e) _ h = _
      rw [bd_eq k1]; rfl
    | true =>
      obtain ⟨g, E3, q3, m3⟩ := mb_some m1
      obtain ⟨fl, h3, A3, e3, k3, md3, z3⟩ := K h1 A1 e E1 g E3 md.rel q3
      have md13 := md.trans md3
      have hd : whileGo mc mb' (n + 1) e h = (match fl with
        | .nx e2 => whileGo mc mb' n e2
        | .ct e2 => whileGo mc mb' n e2
        | .bk e2 => rt (.nx e2)
        | .rt v => rt (.rt v)) h3 := by
        show bd (mc e) _ h = _
        rw [bd_eq k1]
        show bd (mb' e) _ h1 = _
        rw [bd_eq k3]
        all_goals (cases fl <;> rfl)
      refine SRes.eq hd ?_
      cases g with
      | nx =>
        cases fl with
        | nx e4 =>
          obtain rfl : e4 = e3 := z3
          exact (ih h3 A3 _ E3 f E' md13.rel m3).after md13
        | _ => exact z3.elim
      | ct =>
        cases fl with
        | ct e4 =>
          obtain rfl : e4 = e3 := z3
          exact (ih h3 A3 _ E3 f E' md13.rel m3).after md13
        | _ => exact z3.elim
      | bk =>
        cases fl with
        | bk e4 =>
          obtain rfl : e4 = e3 := z3
          obtain ⟨e5, e6⟩ := mr_some m3
          subst e5 e6
          exact sres_nx md13
        | _ => exact z3.elim
      | rt r =>
        cases fl with
        | rt v =>
          obtain ⟨e5, e6⟩ := mr_some m3
          subst e5 e6
          exact ⟨.rt v, h3, A3, e3, rfl, md13, FlR.mono (f := .rt r) (fl := .rt v) p1.le z3⟩
        | _ => exact z3.elim
mutual
theorem exD_ok (Kd : CallOk C D) : ∀ (s : Sm) (P : List Nat), SS C D P (fun e => ex C s e) (exD D P s)
  | .asg t a, P => t_asg (evD_ok Kd a)
  | .asgSub o i a, P => t_asgSub (evD_ok Kd o) (evD_ok Kd i) (evD_ok Kd a)
  | .asgFld o f a, P => t_asgFld Kd (evD_ok Kd o) (evD_ok Kd a)
  | .aug i o a, P => t_aug (evD_ok Kd a)
  | .augSub o i op a, P => t_augSub (evD_ok Kd o) (evD_ok Kd i) (evD_ok Kd a)
  | .ex a, P => t_ex (evD_ok Kd a)
  | .ite c a b, P => fun h A e E f E' R m => by
    simp only [exD] at m
    obtain ⟨k, E1, q1, m1⟩ := mb_some m
    obtain ⟨h1, A1, k1, p1⟩ := testD_ok (evD_ok Kd c) h A e E k E1 R q1
    have k1' : evT C c e h = some (.ok k, h1) := k1
    cases k with
    | true =>
      refine ((exsD_ok Kd a P h1 A1 e E1 f E' p1.rel m1).after (Mid.of p1)).eq ?_
      simp only [ex]
      rw [bd_eq k1']; rfl
    | false =>
      refine ((exsD_ok Kd b P h1 A1 e E1 f E' p1.rel m1).after (Mid.of p1)).eq ?_
      simp only [ex]
      rw [bd_eq k1']; rfl
  | .for_ t it b, P => fun h A e E f E' R m => by
    simp only [exD] at m
    obtain ⟨w, E1, q1, m1⟩ := mb_some m
    obtain ⟨iv, h1, A1, k1, p1, z1, _⟩ := evID_ok Kd it h A e E w E1 R q1
    have hv : ∀ i ∈ w.vars, i ∈ w.vars ++ P := fun i hi => List.mem_append_left _ hi
    have q := for_ok (iv := iv) hv (exsD_ok Kd b (w.vars ++ P)) w.n 0 h1 A1 e E1 f E' p1.rel z1 m1
    refine (((q.sub fun i hi => List.mem_append_right _ hi)).after (Mid.of p1)).eq ?_
    simp only [ex]
    rw [bd_eq k1, WR.size z1]
  | .while_ n c b, P => fun h A e E f E' R m => by
    simp only [exD] at m
    refine (while_ok (mc := fun e => evT C c e) (testD_ok (evD_ok Kd c)) (exsD_ok Kd b P) n h A e E f E' R m).eq ?_
    simp only [ex]
  | .par is es, P => t_par (evsD_ok Kd es)
  | .ret a, P => t_ret (evD_ok Kd a)
  | .brk, P => fun h A e E f E' R m => by
    simp only [exD] at m
    obtain ⟨e5, e6⟩ := mr_some m
    subst e5 e6
    exact ⟨.bk e, h, A, e, by simp only [ex]; rfl, Mid.refl R, rfl⟩
  | .cont, P => fun h A e E f E' R m => by
    simp only [exD] at m
    obtain ⟨e5, e6⟩ := mr_some m
    subst e5 e6
    exact ⟨.ct e, h, A, e, by simp only [ex]; rfl, Mid.refl R, rfl⟩
  | .pass, P => fun h A e E f E' R m => by
    simp only [exD] at m
    obtain ⟨e5, e6⟩ := mr_some m
    subst e5 e6
    exact ⟨.nx e, h, A, e, by simp only [ex]; rfl, Mid.refl R, rfl⟩
  | .never, P => fun h A e E f E' R m => by simp only [exD] at m; exact (mn_some m).elim
theorem exsD_ok (Kd : CallOk C D) : ∀ (s : Sms) (P : List Nat), SS C D P (fun e => exs C s e) (exsD D P s)
  | .nil, P => fun h A e E f E' R m => by
    simp only [exsD] at m
    obtain ⟨e5, e6⟩ := mr_some m
    subst e5 e6
    exact ⟨.nx e, h, A, e, by simp only [exs]; rfl, Mid.refl R, rfl⟩
  | .cons s r, P => fun h A e E f E' R m => by
    simp only [exsD] at m
    obtain ⟨g, E1, q1, m1⟩ := mb_some m
    obtain ⟨fl, h1, A1, e1, k1, md, z1⟩ := exD_ok Kd s P h A e E g E1 R q1
    have k1' : ex C s e h = some (.ok fl, h1) := k1
    cases g with
    | nx =>
      cases fl with
      | nx e4 =>
        obtain rfl : e4 = e1 := z1
        refine ((exsD_ok Kd r P h1 A1 _ E1 f E' md.rel m1).after md).eq ?_
        simp only [exs]
        rw [bd_eq k1']
      | _ => exact z1.elim
    | bk =>
      cases fl with
      | bk e4 =>
        obtain ⟨e5, e6⟩ := mr_some m1
        subst e5 e6
        refine ⟨.bk e4, h1, A1, e1, ?_, md, z1⟩
        simp only [exs]
        rw [bd_eq k1']; rfl
      | _ => exact z1.elim
    | ct =>
      cases fl with
      | ct e4 =>
        obtain ⟨e5, e6⟩ := mr_some m1
        subst e5 e6
        refine ⟨.ct e4, h1, A1, e1, ?_, md, z1⟩
        simp only [exs]
        rw [bd_eq k1']; rfl
      | _ => exact z1.elim
    | rt rr =>
      cases fl with
      | rt v =>
        obtain ⟨e5, e6⟩ := mr_some m1
        subst e5 e6
        refine ⟨.rt v, h1, A1, e1, ?_, md, z1⟩
        simp only [exs]
        rw [bd_eq k1']; rfl
      | _ => exact z1.elim
end
end
end HI

set_option maxRecDepth 100000
set_option maxHeartbeats 4000000
/-! defs, the law: over data alone -/
namespace HI
open PySem L2

theorem ownIx_mem : ∀ {vas : List Va} {k j : Nat}, j ∈ ownIx k vas ↔ ∃ i xs, j = k + i ∧ vas[i]? = some (.own xs)
  | [], k, j => by
    constructor
    · intro z; cases z
    · rintro ⟨i, xs, _, z⟩; cases z
  | v :: r, k, j => by
    have ih := ownIx_mem (vas := r) (k := k + 1) (j := j)
    have step : (∃ i xs, j = k + 1 + i ∧ r[i]? = some (.own xs)) ↔ ∃ i xs, j = k + (i + 1) ∧ (v :: r)[i + 1]? = some (.own xs) := by
      constructor
      · rintro ⟨i, xs, h1, h2⟩; exact ⟨i, xs, by omega, h2⟩
      · rintro ⟨i, xs, h1, h2⟩; exact ⟨i, xs, by omega, h2⟩
    cases v with
    | own ys =>
      show j ∈ k :: ownIx (k + 1) r ↔ _
      constructor
      · intro z
        rcases List.mem_cons.mp z with rfl | z
        · exact ⟨0, ys, rfl, rfl⟩
        · obtain ⟨i, xs, h1, h2⟩ := step.mp (ih.mp z)
          exact ⟨i + 1, xs, h1, h2⟩
      · rintro ⟨i, xs, h1, h2⟩
        cases i with
        | zero => rw [h1]; exact List.mem_cons_self
        | succ i => exact List.mem_cons_of_mem _ (ih.mpr (step.mpr ⟨i, xs, h1, h2⟩))
    | fz d =>
      show j ∈ ownIx (k + 1) r ↔ _
      constructor
      · intro z
        obtain ⟨i, xs, h1, h2⟩ := step.mp (ih.mp z)
        exact ⟨i + 1, xs, h1, h2⟩
      · rintro ⟨i, xs, h1, h2⟩
        cases i with
        | zero => cases h2
        | succ i => exact ih.mpr (step.mpr ⟨i, xs, h1, h2⟩)
    | rol d =>
      show j ∈ ownIx (k + 1) r ↔ _
      constructor
      · intro z
        obtain ⟨i, xs, h1, h2⟩ := step.mp (ih.mp z)
        exact ⟨i + 1, xs, h1, h2⟩
      · rintro ⟨i, xs, h1, h2⟩
        cases i with
        | zero => cases h2
        | succ i => exact ih.mpr (step.mpr ⟨i, xs, h1, h2⟩)
section
variable {h : Hh} {A : Av} {e : Ev} {E : Dn}
/-- what is given back -/
theorem retD_ok {P : List Nat} (R : RelE h A e E) {n : Nat} {r r' : Re} {v : V} {E' : Dn} (z : RR n h A e E r v) (far : ∀ i xs (a : Nat), i ∉ P → e[i]? = some (some (.ref a)) → E[i]? = some (some (.own xs)) → n ≤ a) (m : retD P r E = some (r', E')) :
    ∃ A', FzS n h A e E A' E' ∧ RR n h A' e E' r' v ∧ (∀ i ∈ P, ∀ v, E[i]? = some (some v) → ∃ v', E'[i]? = some (some v')) ∨ (∃ A', RelE h A' e E' ∧ A' = A ∧ (∀ b, Oa e E' b → Oa e E b) ∧ RR n h A' e E' r' v ∧ (∀ i ∈ P, ∀ v, E[i]? = some (some v) → ∃ v', E'[i]? = some (some v'))) := by
  cases r with
  | fz d =>
    obtain ⟨e1, e2⟩ := mr_some m
    subst e1 e2
    exact ⟨A, .inl ⟨FzS.refl R, z, fun i _ v z => ⟨v, z⟩⟩⟩
  | own d =>
    obtain ⟨e1, e2⟩ := mr_some m
    subst e1 e2
    exact ⟨A, .inl ⟨FzS.refl R, z, fun i _ v z => ⟨v, z⟩⟩⟩
  | rol d =>
    obtain ⟨e1, e2⟩ := mr_some m
    subst e1 e2
    exact ⟨A, .inl ⟨FzS.refl R, z, fun i _ v z => ⟨v, z⟩⟩⟩
  | var i =>
    unfold retD at m
    dsimp only at m
    split at m
    · obtain ⟨d, E1, q1, q2⟩ := mb_some m
      obtain ⟨e1, e2⟩ := mr_some q2
      subst e1 e2
      obtain ⟨A', s, f⟩ := frz_ok (n := n) R z q1
      exact ⟨A', .inl ⟨s, f, fun i _ v z => s.dom i v z⟩⟩
    · rename_i hp
      dsimp only at m
      split at m
      · rename_i xs hs
        cases m
        have hs := slotV_ok hs
        obtain ⟨a, vs, h1, h2, h3, h4⟩ := R.ow i xs hs
        have ev : v = .ref a := by
          have := z.1
          rw [h1] at this
          cases this; rfl
        subst ev
        have sub : ∀ (j : Nat) (v : Va), (E.set i none)[j]? = some (some v) → E[j]? = some (some v) ∧ j ≠ i := fun j v y => by
          rcases setE y with ⟨_, y, _⟩ | ⟨hj, y⟩
          · cases y
          · exact ⟨y, hj⟩
        have mi : ∀ b, Oa e (E.set i none) b → Oa e E b := fun b ⟨j, ys, y1, y2⟩ => ⟨j, ys, y1, (sub j _ y2).1⟩
        refine ⟨A, .inr ⟨A, R.of_sub (by rw [List.length_set]; exact R.len) (fun j v y => ⟨(sub j v y).1, rfl⟩), rfl, mi, ⟨a, vs, rfl, far i xs a hp h1 hs, h2, h3, fun ⟨j, ys, y1, y2⟩ => ?_, h4⟩, fun j hj v y => ?_⟩⟩
        · obtain ⟨y3, y4⟩ := sub j _ y2
          exact y4 (R.inj j i a ys xs y1 h1 y3 hs)
        · refine ⟨v, ?_⟩
          rw [List.getElem?_set_ne fun q => hp (by rw [q]; exact hj)]
          exact y
      · rename_i d hs
        cases m
        obtain ⟨u, h1, h2⟩ := R.fz i d (slotV_ok hs)
        have := z.1
        rw [h1] at this
        cases this
        exact ⟨A, .inl ⟨FzS.refl R, h2, fun i _ v z => ⟨v, z⟩⟩⟩
      · cases m
end
theorem getE_app {α : Type} {xs ys : List α} {j : Nat} {x : α} (z : (xs ++ ys)[j]? = some x) (h : x ∉ ys) : xs[j]? = some x := by
  by_cases l : j < xs.length
  · rwa [List.getElem?_append_left l] at z
  · rw [List.getElem?_append_right (by omega)] at z
    exact absurd (List.mem_of_getElem? z) h
theorem body_ok {C : Cfg} {D : DC} (Kd : CallOk C D) {n : Nat} {b : Sms} {vas : List Va} {r : Re} {os : List (Option Va)} (m : bodyD D n b vas = some (r, os)) {vs : List V} {h : Hh} {A : Av} (R : RelE h A (vs.map some) (vas.map some)) :
    ∃ v h' A', body C n b vs h = some (.ok v, h') ∧ Gst h.length h A (Oa (vs.map some) (vas.map some)) h' A' ∧ RelE h' A' (vs.map some) os ∧
      (∀ (j : Nat) (xs : PyData), (vas.map some)[j]? = some (some (.own xs)) → ∃ v', os[j]? = some (some v')) ∧ RR h.length h' A' (vs.map some) os r v := by
  have len : vs.length = vas.length := by
    have := R.len
    rwa [List.length_map, List.length_map] at this
  let e0 : Ev := vs.map some ++ List.replicate (n - vs.length) none
  let E0 : Dn := vas.map some ++ List.replicate (n - vas.length) none
  have pick : ∀ (j : Nat) (v : Va), E0[j]? = some (some v) → (vas.map some)[j]? = some (some v) := fun j v z => getE_app z fun q => by cases (List.mem_replicate.mp q).2
  have pick2 : ∀ (j : Nat), j < vs.length → e0[j]? = (vs.map some)[j]? := fun j l => List.getElem?_append_left (by rw [List.length_map]; exact l)
  have lt_of : ∀ {j : Nat} {v : Va}, (vas.map some)[j]? = some (some v) → j < vs.length := fun {j v} z => by
    rw [len]
    have := setE.lt_of_getE (E := vas.map some) z
    rwa [List.length_map] at this
  have R0 : RelE h A e0 E0 := R.of_sub (by simp only [e0, E0, List.length_append, List.length_map, List.length_replicate, len]) fun j v z => ⟨pick j v z, pick2 j (lt_of (pick j v z))⟩
  have mine0 : ∀ b, Oa e0 E0 b → Oa (vs.map some) (vas.map some) b := fun b ⟨j, xs, z1, z2⟩ => by
    have z3 := pick j _ z2
    exact ⟨j, xs, (pick2 j (lt_of z3)).symm.trans z1, z3⟩
  unfold bodyD at m
  dsimp only at m
  split at m
  · rename_i r0 E2 hm
    cases m
    obtain ⟨f, E1, q1, q2⟩ := mb_some hm
    obtain ⟨fl, h1, A1, e1, k1, md, z1⟩ := exsD_ok Kd b (ownIx 0 vas) h A e0 E0 f E1 R0 q1
    have k1 : exs C b e0 h = some (.ok fl, h1) := k1
    -- a list of a name that is no list of the caller's
    have pin : ∀ {j : Nat} {xs : PyData}, (vas.map some)[j]? = some (some (.own xs)) → j ∈ ownIx 0 vas := fun {j xs} z => by
      obtain ⟨va, y1, y2⟩ := map_get z
      cases y2
      exact ownIx_mem.mpr ⟨j, xs, by omega, y1⟩
    have far : ∀ i xs (a : Nat), i ∉ ownIx 0 vas → e1[i]? = some (some (.ref a)) → E1[i]? = some (some (.own xs)) → h.length ≤ a := fun i xs a hp y1 y2 => by
      rcases md.mine a ⟨i, xs, y1, y2⟩ with ⟨j, ys, z2, z3⟩ | y
      · have hj := pin (pick j _ z3)
        obtain ⟨p1, p2⟩ := md.pro j hj
        obtain ⟨va, p3⟩ := p2 _ z3
        rw [z2] at p1
        obtain ⟨c, ws, g1, g2, g3, g9⟩ := md.rel.ow i xs y2
        have gm := g9.mu
        rw [y1] at g1
        cases g1
        cases va with
        | own us =>
          have := md.rel.inj i j a xs us y1 p1 y2 p3
          subst this
          exact absurd hj hp
        | rol us =>
          obtain ⟨c, ws', g4, g5, _⟩ := md.rel.ro j us p3
          rw [p1] at g4
          cases g4
          rw [g2] at g5
          cases g5
          cases gm
        | fz d =>
          obtain ⟨u, g4, g5⟩ := md.rel.fz j d p3
          rw [p1] at g4
          cases g4
          cases d with
          | list ds =>
            simp only [Fz] at g5
            obtain ⟨c, ws', g6, _, g7, _⟩ := g5
            cases g6
            exact absurd g3 g7
          | tuple ds =>
            simp only [Fz] at g5
            obtain ⟨c, ws', g6, g7, _⟩ := g5
            cases g6
            unfold seqT at g7
            rw [g2] at g7
            cases ws <;> first | (cases g7; done) | (cases gm; done)
          | none => simp only [Fz] at g5; cases g5
          | bool b => simp only [Fz] at g5; cases g5
          | int b => simp only [Fz] at g5; cases g5
          | str b => simp only [Fz] at g5; cases g5
          | dict b =>
            simp only [Fz] at g5
            obtain ⟨c, _, _, g6, _, g7, _⟩ := g5
            cases g6
            exact absurd g3 g7
      · exact y
    -- the end
    have fin : ∀ (v : V) (A2 : Av), body C n b vs h = some (.ok v, h1) → RelE h1 A2 e1 E2 → Gst h.length h A (Oa e0 E0) h1 A2 → (∀ b, Oa e1 E2 b → Oa e1 E1 b) → RR h.length h1 A2 e1 E2 r v →
        (∀ i ∈ ownIx 0 vas, ∀ v, E1[i]? = some (some v) → ∃ v', E2[i]? = some (some v')) → ∃ v h' A', body C n b vs h = some (.ok v, h') ∧ Gst h.length h A (Oa (vs.map some) (vas.map some)) h' A' ∧
        RelE h' A' (vs.map some) ((E2.take vas.length).mapIdx fun j o => if j ∈ ownIx 0 vas then o else none) ∧
        (∀ (j : Nat) (xs : PyData), (vas.map some)[j]? = some (some (.own xs)) → ∃ v', ((E2.take vas.length).mapIdx fun j o => if j ∈ ownIx 0 vas then o else none)[j]? = some (some v')) ∧
        RR h.length h' A' (vs.map some) ((E2.take vas.length).mapIdx fun j o => if j ∈ ownIx 0 vas then o else none) r v := by
      intro v A2 kb R2 g2 mi2 z2 dm
      have at_ : ∀ j : Nat, ((E2.take vas.length).mapIdx fun j o => if j ∈ ownIx 0 vas then o else none)[j]? = ((E2.take vas.length)[j]?).map fun o => if j ∈ ownIx 0 vas then o else none := fun j => List.getElem?_mapIdx
      have cas : ∀ (j : Nat) (v : Va), ((E2.take vas.length).mapIdx fun j o => if j ∈ ownIx 0 vas then o else none)[j]? = some (some v) → j ∈ ownIx 0 vas ∧ E2[j]? = some (some v) ∧ (vs.map some)[j]? = e1[j]? := fun j v y => by
        rw [at_] at y
        obtain ⟨o, y1, y2⟩ := Option.map_eq_some_iff.mp y
        split at y2
        · rename_i hj
          subst y2
          have lj : j < vas.length := by
            obtain ⟨i, xs, h1, h2⟩ := ownIx_mem.mp hj
            have := setE.lt_of_getE (E := vas.map some) (i := i) (o := some (.own xs)) (by rw [List.getElem?_map, h2]; rfl)
            rw [List.length_map] at this
            omega
          rw [List.getElem?_take, if_pos lj] at y1
          exact ⟨hj, y1, ((md.pro j hj).1.trans (pick2 j (by omega))).symm⟩
        · cases y2
      have lenE : E2.length = e0.length := by
        have := R2.len
        rw [md.len] at this
        exact this.symm
      have le0 : vas.length ≤ E2.length := by
        rw [lenE]
        simp only [e0, List.length_append, List.length_map]
        omega
      refine ⟨v, h1, A2, kb, g2.weak mine0, R2.of_sub ?_ fun j v y => ⟨(cas j v y).2.1, (cas j v y).2.2⟩, fun j xs y => ?_, ?_⟩
      · rw [List.length_map, List.length_mapIdx, List.length_take, len]
        omega
      · have hj := pin y
        have y0 : E0[j]? = some (some (.own xs)) := by
          show (vas.map some ++ _)[j]? = _
          rw [List.getElem?_append_left (setE.lt_of_getE (E := vas.map some) y)]
          exact y
        obtain ⟨v1, z3⟩ := (md.pro j hj).2 _ y0
        obtain ⟨v2, z4⟩ := dm j hj v1 z3
        refine ⟨v2, ?_⟩
        have lj := lt_of y
        rw [at_, List.getElem?_take, if_pos (by omega), z4]
        show some (if j ∈ ownIx 0 vas then some v2 else none) = _
        rw [if_pos hj]
      · cases r with
        | fz d => exact z2
        | own xs =>
          obtain ⟨a, ws, rfl, y1, y2, y3, y4, y5⟩ := z2
          refine ⟨a, ws, rfl, y1, y2, y3, fun ⟨j, us, c1, c2⟩ => y4 ?_, y5⟩
          obtain ⟨_, c3, c4⟩ := cas j _ c2
          exact ⟨j, us, c4.symm.trans c1, c3⟩
        | rol xs => exact z2
        | var i =>
          -- no name is given back
          exfalso
          cases f with
          | nx => obtain ⟨e3, _⟩ := mr_some q2; cases e3
          | bk => exact (mn_some q2).elim
          | ct => exact (mn_some q2).elim
          | rt rr =>
            have q2 : retD (ownIx 0 vas) rr E1 = some (.var i, E2) := q2
            cases rr with
            | fz d => obtain ⟨e3, _⟩ := mr_some q2; cases e3
            | own d => obtain ⟨e3, _⟩ := mr_some q2; cases e3
            | rol d => obtain ⟨e3, _⟩ := mr_some q2; cases e3
            | var j =>
              unfold retD at q2
              dsimp only at q2
              split at q2
              · obtain ⟨d, E3, q3, q4⟩ := mb_some q2
                obtain ⟨e3, _⟩ := mr_some q4
                cases e3
              · dsimp only at q2
                split at q2 <;> cases q2
    cases f with
    | nx =>
      cases fl with
      | nx e2 =>
        have q2 : mr (Re.fz .none) E1 = some (r, E2) := q2
        obtain ⟨e3, e4⟩ := mr_some q2
        subst e3 e4
        refine fin .non A1 ?_ md.rel md.g (fun _ z => z) rr_none fun i _ v z => ⟨v, z⟩
        unfold body
        rw [bd_eq k1]; rfl
      | _ => exact z1.elim
    | bk => exact (mn_some q2).elim
    | ct => exact (mn_some q2).elim
    | rt rr =>
      cases fl with
      | rt v =>
        have q2 : retD (ownIx 0 vas) rr E1 = some (r, E2) := q2
        have kb : body C n b vs h = some (.ok v, h1) := by
          unfold body
          rw [bd_eq k1]; rfl
        obtain ⟨A2, cas⟩ := retD_ok md.rel z1 far q2
        rcases cas with ⟨s, z2, dm⟩ | ⟨A3, R2, e5, mi, z2, dm⟩
        · refine fin v A2 kb s.rel (md.g.trans (Nat.le_refl _) s.pst.g md.mine) s.mine z2 dm
        · subst e5
          exact fin v _ kb R2 md.g mi z2 dm
      | _ => exact z1.elim
  · cases m
theorem callDD_ok (T : Pr) : ∀ k, CallOk { cfOf T.I with call := callD T.D (cfOf T.I) k } ⟨callDD T k, T.I⟩
  | 0 => ⟨fun _ => rfl, fun _ _ => rfl, fun _ _ => rfl, fun f vas r os m => by cases m⟩
  | k + 1 => ⟨fun _ => rfl, fun _ _ => rfl, fun _ _ => rfl, fun f vas r os m vs h A R => by
    have m : (match T.D.lookup f with | some (n, b) => bodyD ⟨callDD T k, T.I⟩ n b vas | none => none) = some (r, os) := m
    show ∃ v h' A', (match T.D.lookup f with | some (n, b) => body { cfOf T.I with call := callD T.D (cfOf T.I) k } n b vs | none => no) h = some (.ok v, h') ∧ _
    split at m
    · rename_i n b hl
      rw [hl]
      exact body_ok (callDD_ok T k) m R
    · cases m⟩
/-- the law by data -/
theorem law_dd {T : Pr} {k : Nat} {q : String} {ns : List Int} {os : List (Option Va)} (m : callDD T k q [.rol (ns.map PyData.int)] = some (.fz (.bool true), os)) :
    ∃ h', callD T.D (cfOf T.I) k q [.ref 0] [.rol (ns.map V.int)] = some (.ok (.bl true), h') := by
  have fz : ∀ ns : List Int, FzL [.rol (ns.map V.int)] (fun _ => False) (ns.map PyData.int) (ns.map V.int) := by
    intro ns
    have : ∀ (h : Hh) (l : List Int), FzL h (fun _ => False) (l.map PyData.int) (l.map V.int) := by
      intro h l
      induction l with
      | nil => exact FzL.nil
      | cons i l ih => exact FzL.cons fz_int ih
    exact this _ ns
  have R : RelE [.rol (ns.map V.int)] (fun _ => False) ([V.ref 0].map some) ([Va.rol (ns.map PyData.int)].map some) := by
    refine ⟨rfl, fun i d z => ?_, fun i d z => ?_, fun i d z => ?_, fun i j a xs ys _ _ z _ => ?_, fun b z => z.elim⟩
    · cases i with
      | zero => cases z
      | succ i => cases z
    · cases i with
      | zero => cases z
      | succ i => cases z
    · cases i with
      | zero => cases z; exact ⟨0, ns.map V.int, rfl, rfl, fz ns⟩
      | succ i => cases z
    · cases i with
      | zero => cases z
      | succ i => cases z
  obtain ⟨v, h', A', k1, _, _, _, z⟩ := (callDD_ok T k).go q _ _ os m [.ref 0] _ _ R
  have : v = .bl true := by
    have z : Fz h' A' (.bool true) v := z
    simpa only [Fz] using z
  subst this
  exact ⟨h', k1⟩
end HI

set_option maxRecDepth 100000
set_option maxHeartbeats 1000000
/-! the data level, walked: what must hold ahead -/
namespace HI
open PySem L2
/-- m runs from E to an end of which Q holds -/
def wp {α : Type} (m : Md α) (E : Dn) (Q : α → Dn → Prop) : Prop := ∃ a E', m E = some (a, E') ∧ Q a E'
section
variable {α β : Type} {m : Md α} {f : α → Md β} {E : Dn} {Q : β → Dn → Prop} {R : α → Dn → Prop}
theorem w_mb (h : wp m E fun a E1 => wp (f a) E1 Q) : wp (mb m f) E Q := by
  obtain ⟨a, E1, h1, b, E2, h2, q⟩ := h
  exact ⟨b, E2, by unfold mb; rw [h1]; exact h2, q⟩
theorem w_mr {a : α} (h : R a E) : wp (mr a) E R := ⟨a, E, rfl, h⟩
theorem w_mo {o : Option α} {a : α} (e : o = some a) (h : R a E) : wp (mo o) E R := ⟨a, E, by unfold mo; rw [e]; rfl, h⟩
theorem w_mg {g : Dn → Option α} {a : α} (e : g E = some a) (h : R a E) : wp (mg g) E R := ⟨a, E, by unfold mg; rw [e]; rfl, h⟩
theorem wp_mono {R' : α → Dn → Prop} (h : wp m E R) (k : ∀ a E, R a E → R' a E) : wp m E R' := by
  obtain ⟨a, E1, h1, q⟩ := h
  exact ⟨a, E1, h1, k _ _ q⟩
theorem wp_of {a : α} {E' : Dn} (e : m E = some (a, E')) (h : R a E') : wp m E R := ⟨a, E', e, h⟩
theorem w_cong {m' : Md α} (e : m = m') (h : wp m' E R) : wp m E R := by rw [e]; exact h
end
/-- a name's value set -/
def setK : Dn → Nat → Option Va → (Dn → Prop) → Prop
  | [], _, _, _ => False
  | _ :: r, 0, v, K => K (v :: r)
  | x :: r, i + 1, v, K => setK r i v fun r' => K (x :: r')
theorem setK_iff : ∀ {E : Dn} {i : Nat} {v : Option Va} {K : Dn → Prop}, setK E i v K ↔ i < E.length ∧ K (E.set i v)
  | [], i, v, K => by simp [setK]
  | x :: r, 0, v, K => by simp [setK]
  | x :: r, i + 1, v, K => by
    show setK r i v (fun r' => K (x :: r')) ↔ _
    rw [setK_iff]
    simp
theorem k_0 {x v : Option Va} {r : Dn} {K : Dn → Prop} (h : K (v :: r)) : setK (x :: r) 0 v K := h
theorem k_s {x v : Option Va} {r : Dn} {i : Nat} {K : Dn → Prop} (h : setK r i v fun r' => K (x :: r')) : setK (x :: r) (i + 1) v K := h
/-- a thing of a name changed -/
def ModQ (E : Dn) (i : Nat) (f : PyData → Option PyData) (K : Dn → Prop) : Prop := ∃ x y, slotV E i = some (.own x) ∧ f x = some y ∧ setK E i (some (.own y)) K
def setLK : List PyData → Nat → PyData → (List PyData → Prop) → Prop
  | [], _, _, _ => False
  | _ :: r, 0, v, K => K (v :: r)
  | x :: r, i + 1, v, K => setLK r i v fun r' => K (x :: r')
theorem setLK_iff : ∀ {E : List PyData} {i : Nat} {v : PyData} {K : List PyData → Prop}, setLK E i v K ↔ i < E.length ∧ K (E.set i v)
  | [], i, v, K => by simp [setLK]
  | x :: r, 0, v, K => by simp [setLK]
  | x :: r, i + 1, v, K => by
    show setLK r i v (fun r' => K (x :: r')) ↔ _
    rw [setLK_iff]
    simp
theorem kl_0 {x v : PyData} {r : List PyData} {K : List PyData → Prop} (h : K (v :: r)) : setLK (x :: r) 0 v K := h
theorem kl_s {x v : PyData} {r : List PyData} {i : Nat} {K : List PyData → Prop} (h : setLK r i v fun r' => K (x :: r')) : setLK (x :: r) (i + 1) v K := h
theorem m_setn {E : Dn} {i n : Nat} {xs : List PyData} {d : PyData} {K : Dn → Prop} (e : slotV E i = some (.own (.list xs))) (h : setLK xs n d fun ys => setK E i (some (.own (.list ys))) K) : ModQ E i (setD (.int (n : Int)) d) K := by
  obtain ⟨l, q⟩ := setLK_iff.mp h
  refine ⟨_, _, e, ?_, q⟩
  show (ixN xs.length (n : Int)).map _ = _
  unfold ixN
  rw [if_pos (by omega), if_pos (by omega)]; rfl
theorem m_set0 {E : Dn} {i : Nat} {xs : List PyData} {d : PyData} {K : Dn → Prop} (e : slotV E i = some (.own (.list xs))) (h : setLK xs 0 d fun ys => setK E i (some (.own (.list ys))) K) : ModQ E i (setD (.int 0) d) K := m_setn (n := 0) e h
theorem m_set1 {E : Dn} {i : Nat} {xs : List PyData} {d : PyData} {K : Dn → Prop} (e : slotV E i = some (.own (.list xs))) (h : setLK xs 1 d fun ys => setK E i (some (.own (.list ys))) K) : ModQ E i (setD (.int 1) d) K := m_setn (n := 1) e h
theorem m_set2 {E : Dn} {i : Nat} {xs : List PyData} {d : PyData} {K : Dn → Prop} (e : slotV E i = some (.own (.list xs))) (h : setLK xs 2 d fun ys => setK E i (some (.own (.list ys))) K) : ModQ E i (setD (.int 2) d) K := m_setn (n := 2) e h
theorem m_seti {E : Dn} {i : Nat} {k : Int} {xs : List PyData} {d : PyData} {K : Dn → Prop} (e : slotV E i = some (.own (.list xs))) (h0 : 0 ≤ k) (h1 : k < xs.length) (h : setK E i (some (.own (.list (xs.set k.toNat d)))) K) : ModQ E i (setD (.int k) d) K := by
  refine ⟨_, _, e, ?_, h⟩
  show (ixN xs.length k).map _ = _
  unfold ixN
  rw [if_pos h0, if_pos h1]; rfl
theorem m_append {E : Dn} {i : Nat} {xs : List PyData} {d : PyData} {K : Dn → Prop} (e : slotV E i = some (.own (.list xs))) (l : xs.length < sizeLine) (h : setK E i (some (.own (.list (xs ++ [d])))) K) : ModQ E i (lmethL "append" [d]) K := by
  refine ⟨_, _, e, ?_, h⟩
  show (lmethD "append" xs [d]).map PyData.list = _
  rw [show lmethD "append" xs [d] = some (xs ++ [d]) from if_pos l]; rfl
theorem m_insert {E : Dn} {i : Nat} {k : Int} {xs : List PyData} {d : PyData} {K : Dn → Prop} (e : slotV E i = some (.own (.list xs))) (l : xs.length < sizeLine ∧ 0 ≤ k ∧ k < 2 ^ 63) (h : setK E i (some (.own (.list (xs.take k.toNat ++ [d] ++ xs.drop k.toNat)))) K) : ModQ E i (lmethL "insert" [.int k, d]) K := by
  refine ⟨_, _, e, ?_, h⟩
  show (lmethD "insert" xs [.int k, d]).map PyData.list = _
  rw [show lmethD "insert" xs [.int k, d] = some (xs.take k.toNat ++ [d] ++ xs.drop k.toNat) from if_pos l]; rfl
theorem m_clear {E : Dn} {i : Nat} {xs : List PyData} {K : Dn → Prop} (e : slotV E i = some (.own (.list xs))) (h : setK E i (some (.own (.list []))) K) : ModQ E i (lmethL "clear" []) K := ⟨_, _, e, rfl, h⟩
theorem w_set {E : Dn} {i : Nat} {v : Va} {Q : Unit → Dn → Prop} {P : List Nat} (hp : decide (i ∈ P) = false) (h : setK E i (some v) (Q ())) : wp (stoD P i v) E Q := by
  obtain ⟨l, q⟩ := setK_iff.mp h
  refine ⟨(), E.set i (some v), ?_, q⟩
  unfold stoD
  rw [if_neg (of_decide_eq_false hp)]
  show (if i < E.length then some (E.set i (some v)) else none).map _ = _
  rw [if_pos l]; rfl

section
variable {C : DC} {P : List Nat} {E : Dn} {Q : Re → Dn → Prop} {a b c : Ex} {es : Exs}
theorem w_fz {i : Nat} {d : PyData} (e : slotV E i = some (.fz d)) (h : Q (.fz d) E) : wp (evD C (.slot i)) E Q := by
  simp only [evD]
  exact w_mg (g := fun E => match slotV E i with | some (.fz d) => some (.fz d) | some (.own _) => some (.var i) | some (.rol xs) => some (.rol xs) | none => none) (by simp [e]) h
theorem w_own {i : Nat} {d : PyData} (e : slotV E i = some (.own d)) (h : Q (.var i) E) : wp (evD C (.slot i)) E Q := by
  simp only [evD]
  exact w_mg (g := fun E => match slotV E i with | some (.fz d) => some (.fz d) | some (.own _) => some (.var i) | some (.rol xs) => some (.rol xs) | none => none) (by simp [e]) h
theorem w_rol {i : Nat} {d : List PyData} (e : slotV E i = some (.rol d)) (h : Q (.rol d) E) : wp (evD C (.slot i)) E Q := by
  simp only [evD]
  exact w_mg (g := fun E => match slotV E i with | some (.fz d) => some (.fz d) | some (.own _) => some (.var i) | some (.rol xs) => some (.rol xs) | none => none) (by simp [e]) h
theorem w_cst {v : V} {d : PyData} (e : vD v = some d) (h : Q (.fz d) E) : wp (evD C (.cst v)) E Q := by
  simp only [evD]
  exact w_mo (by rw [e]; rfl) h
/-! data of results -/
def DatQ (r : Re) (E : Dn) (K : PyData → Prop) : Prop := ∃ d, datO E r = some d ∧ K d
theorem q_dat {r : Re} {d : PyData} {K : PyData → Prop} (e : datO E r = some d) (h : K d) : DatQ r E K := ⟨d, e, h⟩
theorem w_dat {r : Re} {R : PyData → Dn → Prop} (h : DatQ r E fun d => R d E) : wp (dat r) E R := by
  obtain ⟨d, e, q⟩ := h
  exact w_mg e q
def DatRQ (r : Re) (E : Dn) (K : PyData → Prop) : Prop := ∃ d, datR r E = some (d, E) ∧ K d
theorem q_datR {r : Re} {d : PyData} {K : PyData → Prop} (e : datO E r = some d) (h : K d) : DatRQ r E K := by
  refine ⟨d, ?_, h⟩
  unfold datR
  cases r with
  | rol xs => cases e
  | _ => unfold dat mg; simp only [e]; rfl
theorem q_datRr {xs : List PyData} {K : PyData → Prop} (h : K (.list xs)) : DatRQ (.rol xs) E K := ⟨_, rfl, h⟩
theorem w_datR {r : Re} {R : PyData → Dn → Prop} (h : DatRQ r E fun d => R d E) : wp (datR r) E R := by
  obtain ⟨d, e, q⟩ := h
  exact ⟨d, E, e, q⟩
/-! operations -/
def OpQ (o : Op2) (x y : PyData) (K : Re → Prop) : Prop := ∃ r, opD o x y = some r ∧ K r
theorem q_op {o : Op2} {x y : PyData} {r : Re} {K : Re → Prop} (e : opD o x y = some r) (h : K r) : OpQ o x y K := ⟨r, e, h⟩
theorem w_bin {o : Op2} (h : wp (evD C a) E fun x E1 => wp (evD C b) E1 fun y E2 => DatQ x E2 fun dx => DatQ y E2 fun dy => OpQ o dx dy fun r => Q r E2) : wp (evD C (.bin o a b)) E Q := by
  simp only [evD]
  refine w_mb (wp_mono h fun x E1 h => w_mb (wp_mono h fun y E2 h => w_mb (w_dat ?_)))
  obtain ⟨dx, e1, dy, e2, r, e3, q⟩ := h
  exact ⟨dx, e1, w_mb (w_dat ⟨dy, e2, w_mo e3 q⟩)⟩
def TruQ (r : Re) (E : Dn) (K : Bool → Prop) : Prop := ∃ d k, datO E r = some d ∧ truD d = some k ∧ K k
theorem q_tru {r : Re} {d : PyData} {k : Bool} {K : Bool → Prop} (e : datO E r = some d) (t : truD d = some k) (h : K k) : TruQ r E K := ⟨d, k, e, t, h⟩
theorem q_truB {r : Re} {k : Bool} {K : Bool → Prop} (e : datO E r = some (.bool k)) (h : K k) : TruQ r E K := ⟨_, k, e, rfl, h⟩
theorem w_tru {m : Md Re} {R : Bool → Dn → Prop} (h : wp m E fun r E1 => TruQ r E1 fun k => R k E1) : wp (testD m) E R := by
  refine w_mb (wp_mono h fun r E1 ⟨d, k, e, t, q⟩ => w_mb (w_dat ⟨d, e, w_mo t q⟩))
theorem w_not (h : wp (evD C a) E fun r E1 => TruQ r E1 fun k => Q (.fz (.bool !k)) E1) : wp (evD C (.not a)) E Q := by
  simp only [evD]
  exact w_mb (w_tru (wp_mono h fun r E1 ⟨d, k, e, t, q⟩ => ⟨d, k, e, t, w_mr q⟩))
theorem w_neg (h : wp (evD C a) E fun r E1 => DatQ r E1 fun d => ∃ i, d = .int i ∧ Q (.fz (.int (-i))) E1) : wp (evD C (.neg a)) E Q := by
  simp only [evD]
  refine w_mb (wp_mono h fun r E1 ⟨d, e, i, ed, q⟩ => w_mb (w_dat ⟨d, e, ?_⟩))
  subst ed
  exact w_mb (w_mo rfl (w_mr q))
def IfQ (k : Bool) (A B : Prop) : Prop := if k = true then A else B
theorem q_t {A B : Prop} (h : A) : IfQ true A B := h
theorem q_f {A B : Prop} (h : B) : IfQ false A B := h
theorem q_if {k : Bool} {A B : Prop} (h1 : k = true → A) (h2 : k = false → B) : IfQ k A B := by
  cases k with
  | true => exact h1 rfl
  | false => exact h2 rfl
theorem q_dec {p : Prop} [Decidable p] {A B : Prop} (h1 : p → A) (h2 : ¬ p → B) : IfQ (decide p) A B := by
  by_cases h : p
  · rw [decide_eq_true h]; exact h1 h
  · rw [decide_eq_false h]; exact h2 h
theorem w_and (h : wp (evD C a) E fun x E1 => TruQ x E1 fun k => IfQ k (wp (evD C b) E1 Q) (Q x E1)) : wp (evD C (.and a b)) E Q := by
  simp only [evD]
  refine w_mb (wp_mono h fun x E1 ⟨d, k, e, t, q⟩ => w_mb (w_dat ⟨d, e, w_mb (w_mo t ?_)⟩))
  cases k with
  | true => exact q
  | false => exact w_mr q
theorem w_or (h : wp (evD C a) E fun x E1 => TruQ x E1 fun k => IfQ k (Q x E1) (wp (evD C b) E1 Q)) : wp (evD C (.or a b)) E Q := by
  simp only [evD]
  refine w_mb (wp_mono h fun x E1 ⟨d, k, e, t, q⟩ => w_mb (w_dat ⟨d, e, w_mb (w_mo t ?_)⟩))
  cases k with
  | true => exact w_mr q
  | false => exact q
theorem w_chain {o p : Op2} (h : wp (evD C a) E fun x E1 => wp (evD C b) E1 fun y E2 => DatQ x E2 fun dx => DatQ y E2 fun dy => OpQ o dx dy fun r => ∃ k, r = .fz (.bool k) ∧
    IfQ k (wp (evD C c) E2 fun z E3 => DatQ y E3 fun dy => DatQ z E3 fun dz => OpQ p dy dz fun r => Q r E3) (Q (.fz (.bool false)) E2)) : wp (evD C (.chain o p a b c)) E Q := by
  simp only [evD]
  refine w_mb (wp_mono h fun x E1 h => w_mb (wp_mono h fun y E2 h => w_mb (w_dat ?_)))
  obtain ⟨dx, e1, dy, e2, r, e3, k, rfl, q⟩ := h
  refine ⟨dx, e1, w_mb (w_dat ⟨dy, e2, w_mb (w_mo e3 ?_)⟩)⟩
  cases k with
  | false => exact w_mr q
  | true =>
    refine w_mb (wp_mono (show wp (evD C c) E2 _ from q) fun z E3 h => w_mb (w_dat ?_))
    obtain ⟨dy, e4, dz, e5, r, e6, q⟩ := h
    exact ⟨dy, e4, w_mb (w_dat ⟨dz, e5, w_mo e6 q⟩)⟩
theorem w_ife (h : wp (evD C c) E fun r E1 => TruQ r E1 fun k => IfQ k (wp (evD C a) E1 Q) (wp (evD C b) E1 Q)) : wp (evD C (.ite c a b)) E Q := by
  simp only [evD]
  refine w_mb (w_tru (wp_mono h fun r E1 ⟨d, k, e, t, q⟩ => ⟨d, k, e, t, ?_⟩))
  cases k <;> exact q
/-! results in a row, given away -/
theorem w_nil {R : List Re → Dn → Prop} (h : R [] E) : wp (evsD C .nil) E R := by
  simp only [evsD]
  exact w_mr h
theorem w_cons {R : List Re → Dn → Prop} (h : wp (evD C a) E fun x E1 => wp (evsD C es) E1 fun xs E2 => R (x :: xs) E2) : wp (evsD C (.cons a es)) E R := by
  simp only [evsD]
  exact w_mb (wp_mono h fun x E1 h => w_mb (wp_mono h fun xs E2 q => w_mr q))
def FrzQ (r : Re) (E : Dn) (K : PyData → Dn → Prop) : Prop := wp (frz r) E K
theorem f_fz {d : PyData} {K : PyData → Dn → Prop} (h : K d E) : FrzQ (.fz d) E K := ⟨d, E, rfl, h⟩
theorem f_own {d : PyData} {K : PyData → Dn → Prop} (h : K d E) : FrzQ (.own d) E K := ⟨d, E, rfl, h⟩
theorem f_var {i : Nat} {d : PyData} {K : PyData → Dn → Prop} (e : slotV E i = some (.own d)) (h : setK E i (some (.fz d)) (K d)) : FrzQ (.var i) E K := by
  refine ⟨d, E.set i (some (.fz d)), ?_, (setK_iff.mp h).2⟩
  unfold frz
  simp only [e]
theorem f_varF {i : Nat} {d : PyData} {K : PyData → Dn → Prop} (e : slotV E i = some (.fz d)) (h : K d E) : FrzQ (.var i) E K := by
  refine ⟨d, E, ?_, h⟩
  unfold frz
  simp only [e]
def FrzsQ (rs : List Re) (E : Dn) (K : List PyData → Dn → Prop) : Prop := wp (frzs rs) E K
theorem f_nil {K : List PyData → Dn → Prop} (h : K [] E) : FrzsQ [] E K := w_mr h
theorem f_cons {r : Re} {rs : List Re} {K : List PyData → Dn → Prop} (h : FrzQ r E fun d E1 => FrzsQ rs E1 fun ds E2 => K (d :: ds) E2) : FrzsQ (r :: rs) E K :=
  w_mb (wp_mono h fun d E1 h => w_mb (wp_mono h fun ds E2 q => w_mr q))
theorem w_chk {n : Nat} {R : Unit → Dn → Prop} (l : n ≤ sizeLine) (h : R () E) : wp (chk n) E R := by
  unfold chk
  rw [if_pos l]
  exact w_mr h
theorem w_lst (h : wp (evsD C es) E fun rs E1 => FrzsQ rs E1 fun ds E2 => ds.length ≤ sizeLine ∧ Q (.own (.list ds)) E2) : wp (evD C (.lst es)) E Q := by
  simp only [evD]
  exact w_mb (wp_mono h fun rs E1 h => w_mb (wp_mono (show wp (frzs rs) E1 _ from h) fun ds E2 ⟨l, q⟩ => w_mb (w_chk l (w_mr q))))
theorem w_tup (h : wp (evsD C es) E fun rs E1 => FrzsQ rs E1 fun ds E2 => ds.length ≤ sizeLine ∧ Q (.fz (.tuple ds)) E2) : wp (evD C (.tup es)) E Q := by
  simp only [evD]
  exact w_mb (wp_mono h fun rs E1 h => w_mb (wp_mono (show wp (frzs rs) E1 _ from h) fun ds E2 ⟨l, q⟩ => w_mb (w_chk l (w_mr q))))
def IdxQ (x y : PyData) (K : PyData → Prop) : Prop := ∃ d, indexD x y = some d ∧ K d
theorem q_idx {x y d : PyData} {K : PyData → Prop} (e : indexD x y = some d) (h : K d) : IdxQ x y K := ⟨d, e, h⟩
theorem w_idx (h : wp (evD C a) E fun x E1 => wp (evD C b) E1 fun y E2 => DatRQ x E2 fun dx => DatQ y E2 fun dy => IdxQ dx dy fun d => Q (.fz d) E2) : wp (evD C (.idx a b)) E Q := by
  simp only [evD]
  refine w_mb (wp_mono h fun x E1 h => w_mb (wp_mono h fun y E2 h => w_mb (w_datR ?_)))
  obtain ⟨dx, e1, dy, e2, d, e3, q⟩ := h
  exact ⟨dx, e1, w_mb (w_dat ⟨dy, e2, w_mo (by rw [e3]; rfl) q⟩)⟩
def PartQ (b : Bool) (m : Md Re) (E : Dn) (K : Option Int → Dn → Prop) : Prop := wp (partD b m) E K
theorem p_no {m : Md Re} {K : Option Int → Dn → Prop} (h : K none E) : PartQ false m E K := w_mr h
theorem p_yes {m : Md Re} {K : Option Int → Dn → Prop} (h : wp m E fun r E1 => DatQ r E1 fun d => ∃ i, d = .int i ∧ K (some i) E1) : PartQ true m E K := by
  refine w_mb (wp_mono h fun r E1 ⟨d, e, i, ed, q⟩ => w_mb (w_dat ⟨d, e, ?_⟩))
  subst ed
  exact w_mb (w_mo rfl (w_mr q))
def SlcQ (d : PyData) (lo hi : Option Int) (K : Re → Prop) : Prop := ∃ r, sliceD d lo hi = some r ∧ K r
theorem q_slcL {xs : List PyData} {lo hi : Option Int} {K : Re → Prop} (h : K (.own (.list (cutD xs lo hi)))) : SlcQ (.list xs) lo hi K := ⟨_, rfl, h⟩
theorem w_slc {lo hi : Ex} {bl bh : Bool} (h : wp (evD C a) E fun x E1 => PartQ bl (evD C lo) E1 fun l E2 => PartQ bh (evD C hi) E2 fun u E3 => DatRQ x E3 fun d => SlcQ d l u fun r => Q r E3) : wp (evD C (.slc a bl lo bh hi)) E Q := by
  simp only [evD]
  refine w_mb (wp_mono h fun x E1 h => w_mb (wp_mono (show wp (partD bl _) _ _ from h) fun l E2 h => w_mb (wp_mono (show wp (partD bh _) _ _ from h) fun u E3 h => w_mb (w_datR ?_))))
  obtain ⟨d, e, r, e2, q⟩ := h
  exact ⟨d, e, w_mo e2 q⟩
def DatsQ (rs : List Re) (E : Dn) (K : List PyData → Prop) : Prop := ∃ ds, dats rs E = some (ds, E) ∧ K ds
theorem d_nil {K : List PyData → Prop} (h : K []) : DatsQ [] E K := ⟨[], rfl, h⟩
theorem d_cons {r : Re} {rs : List Re} {K : List PyData → Prop} (h : DatQ r E fun d => DatsQ rs E fun ds => K (d :: ds)) : DatsQ (r :: rs) E K := by
  obtain ⟨d, e, ds, e2, q⟩ := h
  refine ⟨d :: ds, ?_, q⟩
  show mb (dat r) _ E = _
  unfold mb dat mg
  simp only [e, Option.map_some]
  show mb (dats rs) _ E = _
  unfold mb
  rw [e2]; rfl
def BfnQ (f : String) (ds : List PyData) (K : Re → Prop) : Prop := ∃ r, bfnD f ds = some r ∧ K r
theorem q_bfn {f : String} {ds : List PyData} {r : Re} {K : Re → Prop} (e : bfnD f ds = some r) (h : K r) : BfnQ f ds K := ⟨r, e, h⟩
theorem w_bcall {f : String} (h : wp (evsD C es) E fun rs E1 => DatsQ rs E1 fun ds => BfnQ f ds fun r => Q r E1) : wp (evD C (.bcall f es)) E Q := by
  simp only [evD]
  refine w_mb (wp_mono h fun rs E1 ⟨ds, e, r, e2, q⟩ => w_mb ⟨ds, E1, e, w_mo e2 q⟩)
/-! calls -/
def cp (T : Pr) (k : Nat) (f : String) (vs : List Va) (Q : Re → List (Option Va) → Prop) : Prop := ∃ r os, callDD T k f vs = some (r, os) ∧ Q r os
theorem cp_mono {T : Pr} {k : Nat} {f : String} {vs : List Va} {Q Q' : Re → List (Option Va) → Prop} (h : cp T k f vs Q) (m : ∀ r os, Q r os → Q' r os) : cp T k f vs Q' := by
  obtain ⟨r, os, e, q⟩ := h
  exact ⟨r, os, e, m _ _ q⟩
/-- the names' values behind a call -/
def outsK : List Re → List (Option Va) → Dn → (Dn → Prop) → Prop
  | [], _, E, K => K E
  | .var i :: rs, o :: os, E, K => (∃ d, slotV E i = some (.own d)) ∧ setK E i o fun E' => outsK rs os E' K
  | .var _ :: _, [], _, _ => False
  | _ :: rs, o :: os, E, K => outsK rs os E K
  | _ :: rs, [], E, K => outsK rs [] E K
theorem o_nil {os : List (Option Va)} {K : Dn → Prop} (h : K E) : outsK [] os E K := by unfold outsK; exact h
theorem o_fz {d : PyData} {rs : List Re} {o : Option Va} {os : List (Option Va)} {K : Dn → Prop} (h : outsK rs os E K) : outsK (.fz d :: rs) (o :: os) E K := by unfold outsK; exact h
theorem o_own {d : PyData} {rs : List Re} {o : Option Va} {os : List (Option Va)} {K : Dn → Prop} (h : outsK rs os E K) : outsK (.own d :: rs) (o :: os) E K := by unfold outsK; exact h
theorem o_rol {d : List PyData} {rs : List Re} {o : Option Va} {os : List (Option Va)} {K : Dn → Prop} (h : outsK rs os E K) : outsK (.rol d :: rs) (o :: os) E K := by unfold outsK; exact h
theorem o_var {i : Nat} {d : PyData} {rs : List Re} {o : Option Va} {os : List (Option Va)} {K : Dn → Prop} (e : slotV E i = some (.own d)) (h : setK E i o fun E' => outsK rs os E' K) : outsK (.var i :: rs) (o :: os) E K := by
  unfold outsK; exact ⟨⟨d, e⟩, h⟩
theorem outs_skip {r : Re} {rs : List Re} {o : Option Va} {os : List (Option Va)} (h : ∀ i, r ≠ .var i) : outs (r :: rs) (o :: os) E = outs rs os E := by
  unfold outs
  congr 1
  funext k u
  cases u with
  | none => rfl
  | some u => cases u <;> cases r <;> first | rfl | exact absurd rfl (h _)
theorem outs_nil {os : List (Option Va)} : outs [] os E = E := by
  refine List.ext_getElem? fun k => ?_
  unfold outs
  rw [List.getElem?_mapIdx]
  cases E[k]? with
  | none => rfl
  | some u => cases u with
    | none => rfl
    | some u => cases u <;> rfl
theorem outs_none {rs : List Re} : outs rs [] E = E := by
  refine List.ext_getElem? fun k => ?_
  unfold outs
  rw [List.getElem?_mapIdx]
  have : outAt rs [] k = none := by
    cases rs with
    | nil => rfl
    | cons r rs => cases r <;> rfl
  cases E[k]? with
  | none => rfl
  | some u => cases u with
    | none => rfl
    | some u => cases u <;> first | rfl | (show some (match outAt rs [] k with | some o' => o' | none => _) = _; rw [this])
theorem outAt_no : ∀ {rs : List Re} {os : List (Option Va)} {k : Nat}, k ∉ varsOf rs → outAt rs os k = none
  | [], os, k, h => by cases os <;> rfl
  | r :: rs, [], k, h => by cases r <;> rfl
  | r :: rs, o :: os, k, h => by
    cases r with
    | var i =>
      have h : k ∉ i :: varsOf rs := h
      show (if i = k then some o else outAt rs os k) = none
      rw [if_neg fun e => h (by rw [e]; exact List.mem_cons_self)]
      exact outAt_no fun z => h (List.mem_cons_of_mem _ z)
    | _ => exact outAt_no (rs := rs) h
theorem outs_var {i : Nat} {d : PyData} {rs : List Re} {o : Option Va} {os : List (Option Va)} (e : slotV E i = some (.own d)) (nd : i ∉ varsOf rs) : outs (.var i :: rs) (o :: os) E = outs rs os (E.set i o) := by
  have hE := slotV_ok e
  have li := setE.lt_of_getE hE
  refine List.ext_getElem? fun k => ?_
  unfold outs
  rw [List.getElem?_mapIdx, List.getElem?_mapIdx]
  by_cases hk : k = i
  · subst hk
    rw [hE, List.getElem?_set_self li]
    show some (match (if k = k then some o else outAt rs os k) with | some o' => o' | none => _) = some (outV rs os k o)
    rw [if_pos rfl]
    cases o with
    | none => rfl
    | some o =>
      cases o with
      | own d => show _ = some (match outAt rs os k with | some o' => o' | none => some (.own d)); rw [outAt_no nd]
      | fz d => rfl
      | rol d => rfl
  · rw [List.getElem?_set_ne (Ne.symm hk)]
    cases E[k]? with
    | none => rfl
    | some u => cases u with
      | none => rfl
      | some u =>
        cases u with
        | own x =>
          show some (match (if i = k then some o else outAt rs os k) with | some o' => o' | none => _) = some (match outAt rs os k with | some o' => o' | none => _)
          rw [if_neg fun z => hk z.symm]
        | fz d => rfl
        | rol d => rfl
theorem outsK_ok : ∀ {rs : List Re} {os : List (Option Va)} {E : Dn} {K : Dn → Prop}, nodupB (varsOf rs) = true → outsK rs os E K → K (outs rs os E)
  | [], os, E, K, _, h => by rw [outs_nil]; unfold outsK at h; exact h
  | .var i :: rs, o :: os, E, K, nd, h => by
    unfold outsK at h
    obtain ⟨⟨d, e⟩, h⟩ := h
    obtain ⟨l, h⟩ := setK_iff.mp h
    have nd' := Bool.and_eq_true_iff.mp (show (!(varsOf rs).contains i && nodupB (varsOf rs)) = true from nd)
    rw [outs_var e (by simpa using nd'.1)]
    exact outsK_ok nd'.2 h
  | .var i :: rs, [], E, K, nd, h => by unfold outsK at h; exact h.elim
  | .fz d :: rs, o :: os, E, K, nd, h => by rw [outs_skip fun _ z => by cases z]; unfold outsK at h; exact outsK_ok nd h
  | .own d :: rs, o :: os, E, K, nd, h => by rw [outs_skip fun _ z => by cases z]; unfold outsK at h; exact outsK_ok nd h
  | .rol d :: rs, o :: os, E, K, nd, h => by rw [outs_skip fun _ z => by cases z]; unfold outsK at h; exact outsK_ok nd h
  | .fz d :: rs, [], E, K, nd, h => by
    have := outsK_ok (rs := rs) (os := []) (E := E) (K := K) nd (by unfold outsK at h; exact h)
    rwa [outs_none] at this ⊢
  | .own d :: rs, [], E, K, nd, h => by
    have := outsK_ok (rs := rs) (os := []) (E := E) (K := K) nd (by unfold outsK at h; exact h)
    rwa [outs_none] at this ⊢
  | .rol d :: rs, [], E, K, nd, h => by
    have := outsK_ok (rs := rs) (os := []) (E := E) (K := K) nd (by unfold outsK at h; exact h)
    rwa [outs_none] at this ⊢
def plainRe : Re → Bool
  | .fz _ => true
  | .own _ => true
  | _ => false
theorem w_callR {T : Pr} {k : Nat} {f : String} {rs : List Re} {vs : List Va} (nd : nodupB (varsOf rs) = true) (hv : resL E rs = some vs)
    (h : cp T k f vs fun r os => plainRe r = true ∧ outsK rs os E (Q r)) : wp (callR ⟨callDD T k, T.I⟩ f rs) E Q := by
  obtain ⟨r, os, e, pr, q⟩ := h
  refine ⟨r, outs rs os E, ?_, outsK_ok nd q⟩
  unfold callR
  rw [if_pos nd, hv]
  dsimp only
  rw [e]
  cases r <;> first | rfl | cases pr
def CallQ (C : DC) (f : String) (rs : List Re) (E : Dn) (Q : Re → Dn → Prop) : Prop := wp (callR C f rs) E Q
theorem w_call {f : String} (h : wp (evsD C es) E fun rs E1 => CallQ C f rs E1 Q) : wp (evD C (.call f es)) E Q := by
  simp only [evD]
  exact w_mb (wp_mono h fun rs E1 q => q)
theorem q_call {T : Pr} {k : Nat} {f : String} {rs : List Re} {vs : List Va} (nd : nodupB (varsOf rs) = true) (hv : resL E rs = some vs)
    (h : cp T k f vs fun r os => plainRe r = true ∧ outsK rs os E (Q r)) : CallQ ⟨callDD T k, T.I⟩ f rs E Q := w_callR nd hv h
/-! methods, instances -/
def RecQ (m : Str) (E : Dn) (r : Re) (K : Nat ⊕ Nat → Prop) : Prop := ∃ k, recvD m E r = some k ∧ K k
theorem q_rec {m : Str} {r : Re} {k : Nat ⊕ Nat} {K : Nat ⊕ Nat → Prop} (e : recvD m E r = some k) (h : K k) : RecQ m E r K := ⟨k, e, h⟩
def MethQ (C : DC) (ms : String) (es : Exs) (r : Re) (E : Dn) (Q : Re → Dn → Prop) : Nat ⊕ Nat → Prop
  | .inl i => wp (evsD C es) E fun rs E1 => FrzsQ rs E1 fun ds E2 => ModQ E2 i (lmethL ms ds) fun E3 => Q (.fz .none) E3
  | .inr c => hasMOf C.I c ms = true ∧ wp (evsD C es) E fun rs E1 => CallQ C (cnameOf C.I c ++ "." ++ ms) (r :: rs) E1 Q
theorem w_modV {i : Nat} {f : PyData → Option PyData} {x y : PyData} {R : Unit → Dn → Prop} (e : slotV E i = some (.own x)) (e2 : f x = some y) (h : setK E i (some (.own y)) (R ())) : wp (modV i f) E R := by
  refine ⟨(), E.set i (some (.own y)), ?_, (setK_iff.mp h).2⟩
  unfold modV
  simp only [e, e2]; rfl
theorem w_meth {m : Str} {ms : String} (h : wp (evD C a) E fun r E1 => RecQ m E1 r fun k => MethQ C ms es r E1 Q k) : wp (evD C (.meth m ms a es)) E Q := by
  simp only [evD]
  refine w_mb (wp_mono h fun r E1 ⟨k, e, q⟩ => w_mb (w_mg e ?_))
  cases k with
  | inl i => exact w_mb (wp_mono (show wp (evsD C es) _ _ from q) fun rs E2 h => w_mb (wp_mono (show wp (frzs rs) _ _ from h) fun ds E3 ⟨x, y, e1, e2, q⟩ => w_mb (w_modV e1 e2 (by
      obtain ⟨l, q⟩ := setK_iff.mp q
      exact setK_iff.mpr ⟨l, w_mr q⟩))))
  | inr c =>
    obtain ⟨hm, q⟩ := q
    dsimp only
    rw [if_pos hm]
    exact w_mb (wp_mono q fun rs E2 q => q)
def FldQ (I : List Ci) (f : Str) (d : PyData) (K : PyData → Prop) : Prop := ∃ x, fldD I f d = some x ∧ K x
theorem q_fld {I : List Ci} {f : Str} {d x : PyData} {K : PyData → Prop} (e : fldD I f d = some x) (h : K x) : FldQ I f d K := ⟨x, e, h⟩
theorem w_fld {f : Str} (h : wp (evD C a) E fun r E1 => DatQ r E1 fun d => FldQ C.I f d fun x => Q (.fz x) E1) : wp (evD C (.fld a f)) E Q := by
  simp only [evD]
  exact w_mb (wp_mono h fun r E1 ⟨d, e, x, e2, q⟩ => w_mb (w_dat ⟨d, e, w_mo (by rw [e2]; rfl) q⟩))
def MkQ (C : DC) (c : Nat) (rs : List Re) (E : Dn) (Q : Re → Dn → Prop) : Prop := wp (mkR C c rs) E Q
theorem w_mk {c : Nat} (h : wp (evsD C es) E fun rs E1 => MkQ C c rs E1 Q) : wp (evD C (.mk c es)) E Q := by
  simp only [evD]
  exact w_mb (wp_mono h fun rs E1 q => q)
theorem q_mk {T : Pr} {k c : Nat} {rs : List Re} {vs : List Va} (nd : nodupB (varsOf rs) = true) (hv : resL E rs = some vs)
    (h : cp T k (cnameOf T.I c ++ ".__init__") (.own (insD c []) :: vs) fun r os => r = .fz .none ∧ ∃ d os', os = some (.own d) :: os' ∧ outsK rs os' E (Q (.own d))) : MkQ ⟨callDD T k, T.I⟩ c rs E Q := by
  obtain ⟨r, os, e, rfl, d, os', rfl, q⟩ := h
  refine ⟨.own d, outs rs os' E, ?_, outsK_ok nd q⟩
  unfold mkR
  rw [if_pos nd, hv]
  dsimp only
  rw [e]
end

/-! ### walks -/
section
variable {C : DC} {P : List Nat} {E : Dn} {a b : Ex} {R : Wd → Dn → Prop}
def SrcQ (tup : Bool) (r : Re) (E : Dn) (K : Src → Prop) : Prop := ∃ s, srcR tup r E = some (s, E) ∧ K s
theorem q_src {tup : Bool} {r : Re} {s : Src} {K : Src → Prop} (e : srcR tup r E = some (s, E)) (h : K s) : SrcQ tup r E K := ⟨s, e, h⟩
theorem s_fzl {tup : Bool} {xs : List PyData} {K : Src → Prop} (h : K (.fz xs)) : SrcQ tup (.fz (.list xs)) E K := ⟨_, rfl, h⟩
theorem s_fzt {xs : List PyData} {K : Src → Prop} (h : K (.fz xs)) : SrcQ true (.fz (.tuple xs)) E K := ⟨_, rfl, h⟩
theorem s_own {tup : Bool} {xs : List PyData} {K : Src → Prop} (h : K (.fz xs)) : SrcQ tup (.own (.list xs)) E K := ⟨_, rfl, h⟩
theorem s_rol {tup : Bool} {xs : List PyData} {K : Src → Prop} (h : K (.fz xs)) : SrcQ tup (.rol xs) E K := ⟨_, rfl, h⟩
theorem s_var {tup : Bool} {i : Nat} {xs : List PyData} {K : Src → Prop} (e : slotV E i = some (.own (.list xs))) (h : K (.var i xs.length)) : SrcQ tup (.var i) E K := by
  refine ⟨_, ?_, h⟩
  unfold srcR
  simp only [e]; rfl
theorem i_seq (h : wp (evD C a) E fun r E1 => SrcQ true r E1 fun s => R (.seq s) E1) : wp (evID C (.seq a)) E R := by
  simp only [evID]
  exact w_mb (wp_mono h fun r E1 ⟨s, e, q⟩ => w_mb ⟨s, E1, e, w_mr q⟩)
theorem i_enum (h : wp (evD C a) E fun r E1 => SrcQ false r E1 fun s => R (.enum s) E1) : wp (evID C (.enum a)) E R := by
  simp only [evID]
  exact w_mb (wp_mono h fun r E1 ⟨s, e, q⟩ => w_mb ⟨s, E1, e, w_mr q⟩)
theorem i_zip (h : wp (evD C a) E fun x E1 => wp (evD C b) E1 fun y E2 => SrcQ false x E2 fun s => SrcQ false y E2 fun t => R (.zip s t) E2) : wp (evID C (.zip a b)) E R := by
  simp only [evID]
  exact w_mb (wp_mono h fun x E1 h => w_mb (wp_mono h fun y E2 ⟨s, e, t, e2, q⟩ => w_mb ⟨s, E2, e, w_mb ⟨t, E2, e2, w_mr q⟩⟩))
def RngQ (i j : Int) (K : Wd → Prop) : Prop := ∃ w, rngD i j = some w ∧ K w
theorem q_rng {i j : Int} {K : Wd → Prop} (l : (-(2 ^ 62) ≤ i ∧ i < 2 ^ 62) ∧ -(2 ^ 62) ≤ j ∧ j < 2 ^ 62) (h : K (.rng i (j - i).toNat)) : RngQ i j K := ⟨_, if_pos l, h⟩
theorem i_rng1 (h : wp (evD C a) E fun r E1 => DatQ r E1 fun d => ∃ j, d = .int j ∧ RngQ 0 j fun w => R w E1) : wp (evID C (.rng1 a)) E R := by
  simp only [evID]
  refine w_mb (wp_mono h fun r E1 ⟨d, e, j, ed, w, e2, q⟩ => w_mb (w_dat ⟨d, e, ?_⟩))
  subst ed
  exact w_mb (w_mo rfl (w_mo e2 q))
theorem i_rng2 (h : wp (evD C a) E fun x E1 => wp (evD C b) E1 fun y E2 => DatQ x E2 fun d => DatQ y E2 fun d' => ∃ i j, d = .int i ∧ d' = .int j ∧ RngQ i j fun w => R w E2) : wp (evID C (.rng2 a b)) E R := by
  simp only [evID]
  refine w_mb (wp_mono h fun x E1 h => w_mb (wp_mono h fun y E2 ⟨d, e, d', e', i, j, ed, ed', w, e2, q⟩ => w_mb (w_dat ⟨d, e, w_mb (w_dat ⟨d', e', ?_⟩)⟩)))
  subst ed ed'
  exact w_mb (w_mo rfl (w_mb (w_mo rfl (w_mo e2 q))))
end
/-! ### statements -/
section
variable {C : DC} {P : List Nat} {E : Dn} {Q : Fd → Dn → Prop} {a c : Ex} {es : Exs}
def kont (C : DC) (P : List Nat) (r : Sms) (Q : Fd → Dn → Prop) : Fd → Dn → Prop
  | .nx, E => wp (exsD C P r) E Q
  | .rt x, E => Q (.rt x) E
  | .bk, E => Q .bk E
  | .ct, E => Q .ct E
theorem x_nx {r : Sms} (h : wp (exsD C P r) E Q) : kont C P r Q .nx E := h
theorem x_rt {r : Sms} {x : Re} (h : Q (.rt x) E) : kont C P r Q (.rt x) E := h
theorem x_bk {r : Sms} (h : Q .bk E) : kont C P r Q .bk E := h
theorem x_ct {r : Sms} (h : Q .ct E) : kont C P r Q .ct E := h
theorem x_nil (h : Q .nx E) : wp (exsD C P .nil) E Q := by
  simp only [exsD]
  exact w_mr h
theorem x_cons {s : Sm} {r : Sms} (h : wp (exD C P s) E (kont C P r Q)) : wp (exsD C P (.cons s r)) E Q := by
  simp only [exsD]
  refine w_mb (wp_mono h fun f E1 q => ?_)
  cases f with
  | nx => exact q
  | rt x => exact w_mr q
  | bk => exact w_mr q
  | ct => exact w_mr q
def ResQ (r : Re) (E : Dn) (K : Va → Dn → Prop) : Prop := wp (resv r) E K
theorem r_fz {d : PyData} {K : Va → Dn → Prop} (h : K (.fz d) E) : ResQ (.fz d) E K := ⟨_, E, rfl, h⟩
theorem r_own {d : PyData} {K : Va → Dn → Prop} (h : K (.own d) E) : ResQ (.own d) E K := ⟨_, E, rfl, h⟩
theorem r_rol {d : List PyData} {K : Va → Dn → Prop} (h : K (.rol d) E) : ResQ (.rol d) E K := ⟨_, E, rfl, h⟩
theorem r_var {i : Nat} {d : PyData} {K : Va → Dn → Prop} (e : slotV E i = some (.own d)) (h : setK E i (some (.fz d)) (K (.fz d))) : ResQ (.var i) E K :=
  w_mb (wp_mono (f_var e h : FrzQ (.var i) E fun d' E' => K (.fz d') E') fun d E q => w_mr q)
theorem x_asg {i : Nat} (h : wp (evD C a) E fun r E1 => ResQ r E1 fun v E2 => (decide (i ∈ P) = false ∧ setK E2 i (some v) (Q .nx))) : wp (exD C P (.asg (.nm i) a)) E Q := by
  simp only [exD]
  refine w_mb (wp_mono h fun r E1 h => w_mb (w_mb (wp_mono (show wp (resv r) E1 _ from h) fun v E2 ⟨hp, q⟩ => w_set hp ?_)))
  obtain ⟨l, q⟩ := setK_iff.mp q
  exact setK_iff.mpr ⟨l, w_mr q⟩
/-- several names set -/
def setsK : List Nat → List PyData → List Nat → Dn → (Dn → Prop) → Prop
  | [], [], _, E, K => K E
  | i :: is, d :: ds, P, E, K => decide (i ∈ P) = false ∧ setK E i (some (.fz d)) fun E' => setsK is ds P E' K
  | _, _, _, _, _ => False
theorem w_sets : ∀ {is : List Nat} {ds : List PyData} {E : Dn} {R : Unit → Dn → Prop}, setsK is ds P E (R ()) → wp (stosD P is (ds.map .fz)) E R
  | [], [], E, R, h => w_mr h
  | i :: is, d :: ds, E, R, h => by
    obtain ⟨hp, h⟩ := h
    refine w_mb (w_set hp ?_)
    obtain ⟨l, q⟩ := setK_iff.mp h
    exact setK_iff.mpr ⟨l, w_sets q⟩
  | [], _ :: _, E, R, h => h.elim
  | _ :: _, [], E, R, h => h.elim
theorem ss_nil {K : Dn → Prop} (h : K E) : setsK [] [] P E K := h
theorem ss_cons {i : Nat} {is : List Nat} {d : PyData} {ds : List PyData} {K : Dn → Prop} (hp : decide (i ∈ P) = false) (h : setK E i (some (.fz d)) fun E' => setsK is ds P E' K) : setsK (i :: is) (d :: ds) P E K := ⟨hp, h⟩
def TupQ (r : Re) (K : List PyData → Prop) : Prop := ∃ ds, r = .fz (.tuple ds) ∧ K ds
theorem q_tup {ds : List PyData} {K : List PyData → Prop} (h : K ds) : TupQ (.fz (.tuple ds)) K := ⟨ds, rfl, h⟩
theorem x_asgT {is : List Nat} (h : wp (evD C a) E fun r E1 => TupQ r fun ds => setsK is ds P E1 (Q .nx)) : wp (exD C P (.asg (.tp is) a)) E Q := by
  simp only [exD]
  refine w_mb (wp_mono h fun r E1 ⟨ds, e, q⟩ => w_mb ?_)
  subst e
  exact w_sets (R := fun _ E => wp (mr Fd.nx) E Q) (setsK_mono q fun E q => w_mr q)
where
  setsK_mono : ∀ {is : List Nat} {ds : List PyData} {E : Dn} {K K' : Dn → Prop}, setsK is ds P E K → (∀ E, K E → K' E) → setsK is ds P E K'
    | [], [], E, K, K', h, m => m _ h
    | i :: is, d :: ds, E, K, K', ⟨hp, h⟩, m => by
      refine ⟨hp, ?_⟩
      obtain ⟨l, q⟩ := setK_iff.mp h
      exact setK_iff.mpr ⟨l, setsK_mono q m⟩
    | [], _ :: _, E, K, K', h, m => h.elim
    | _ :: _, [], E, K, K', h, m => h.elim
theorem x_asgS {o i : Ex} (h : wp (evD C a) E fun r E1 => wp (evD C o) E1 fun q E2 => wp (evD C i) E2 fun y E3 => ∃ j, q = .var j ∧ DatQ y E3 fun k => FrzQ r E3 fun d E4 => ModQ E4 j (setD k d) (Q .nx)) :
    wp (exD C P (.asgSub o i a)) E Q := by
  simp only [exD]
  refine w_mb (wp_mono h fun r E1 h1 => w_mb (wp_mono h1 fun q E2 h2 => w_mb (wp_mono h2 fun y E3 ⟨j, ej, k, ek, h3⟩ => ?_)))
  subst ej
  refine w_mb (w_mo rfl (w_mb (w_dat ⟨k, ek, w_mb (wp_mono (show wp (frz r) E3 _ from h3) fun d E4 ⟨x, x', e1, e2, q⟩ => w_mb (w_modV e1 e2 ?_))⟩)))
  obtain ⟨l, q⟩ := setK_iff.mp q
  exact setK_iff.mpr ⟨l, w_mr q⟩
theorem x_asgF {o : Ex} {f : Str} (h : wp (evD C a) E fun r E1 => wp (evD C o) E1 fun q E2 => ∃ j, q = .var j ∧ FrzQ r E2 fun d E4 => ModQ E4 j (setFD C.I f d) (Q .nx)) :
    wp (exD C P (.asgFld o f a)) E Q := by
  simp only [exD]
  refine w_mb (wp_mono h fun r E1 h1 => w_mb (wp_mono h1 fun q E2 ⟨j, ej, h3⟩ => ?_))
  subst ej
  refine w_mb (w_mo rfl (w_mb (wp_mono (show wp (frz r) E2 _ from h3) fun d E4 ⟨x, x', e1, e2, q⟩ => w_mb (w_modV e1 e2 ?_))))
  obtain ⟨l, q⟩ := setK_iff.mp q
  exact setK_iff.mpr ⟨l, w_mr q⟩
theorem x_aug {i : Nat} {o : Op2} {x : PyData} (e : slotV E i = some (.fz x)) (h : wp (evD C a) E fun r E1 => DatQ r E1 fun y => ∃ v, intD o x y = some v ∧ decide (i ∈ P) = false ∧ setK E1 i (some (.fz v)) (Q .nx)) : wp (exD C P (.aug i o a)) E Q := by
  simp only [exD]
  refine w_mb (w_mg (g := fun E => match slotV E i with | some (.fz d) => some d | _ => none) (by simp only [e]) (w_mb (wp_mono h fun r E1 ⟨y, ey, v, ev, hp, q⟩ => w_mb (w_dat ⟨y, ey, w_mb (w_mo ev (w_mb (w_set hp ?_)))⟩))))
  obtain ⟨l, q⟩ := setK_iff.mp q
  exact setK_iff.mpr ⟨l, w_mr q⟩
theorem x_augS {o i : Ex} {op : Op2} (h : wp (evD C o) E fun q E1 => wp (evD C i) E1 fun y E2 => ∃ j, q = .var j ∧ DatQ y E2 fun k => ∃ x, atV E2 j k = some x ∧
    wp (evD C a) E2 fun r E3 => DatQ r E3 fun z => ∃ v, intD op x z = some v ∧ ModQ E3 j (setD k v) (Q .nx)) : wp (exD C P (.augSub o i op a)) E Q := by
  simp only [exD]
  refine w_mb (wp_mono h fun q E1 h1 => w_mb (wp_mono h1 fun y E2 ⟨j, ej, k, ek, x, ex, h3⟩ => ?_))
  subst ej
  refine w_mb (w_mo rfl (w_mb (w_dat ⟨k, ek, w_mb (w_mg ex (w_mb (wp_mono h3 fun r E3 ⟨z, ez, v, ev, l, l', e1, e2, q⟩ => w_mb (w_dat ⟨z, ez, w_mb (w_mo ev (w_mb (w_modV e1 e2 ?_)))⟩))))⟩)))
  obtain ⟨l, q⟩ := setK_iff.mp q
  exact setK_iff.mpr ⟨l, w_mr q⟩
theorem x_ex (h : wp (evD C a) E fun _ E1 => Q .nx E1) : wp (exD C P (.ex a)) E Q := by
  simp only [exD]
  exact w_mb (wp_mono h fun r E1 q => w_mr q)
theorem x_ite {s t : Sms} (h : wp (evD C c) E fun r E1 => TruQ r E1 fun k => IfQ k (wp (exsD C P s) E1 Q) (wp (exsD C P t) E1 Q)) : wp (exD C P (.ite c s t)) E Q := by
  simp only [exD]
  refine w_mb (w_tru (wp_mono h fun r E1 ⟨d, k, e, t, q⟩ => ⟨d, k, e, t, ?_⟩))
  cases k <;> exact q
theorem x_ret (h : wp (evD C a) E fun r E1 => Q (.rt r) E1) : wp (exD C P (.ret a)) E Q := by
  simp only [exD]
  exact w_mb (wp_mono h fun r E1 q => w_mr q)
theorem x_brk (h : Q .bk E) : wp (exD C P .brk) E Q := by simp only [exD]; exact w_mr h
theorem x_cont (h : Q .ct E) : wp (exD C P .cont) E Q := by simp only [exD]; exact w_mr h
theorem x_pass (h : Q .nx E) : wp (exD C P .pass) E Q := by simp only [exD]; exact w_mr h
def RessQ (rs : List Re) (E : Dn) (K : List Va → Dn → Prop) : Prop := wp (resvs rs) E K
theorem rs_nil {K : List Va → Dn → Prop} (h : K [] E) : RessQ [] E K := w_mr h
theorem rs_cons {r : Re} {rs : List Re} {K : List Va → Dn → Prop} (h : ResQ r E fun v E1 => RessQ rs E1 fun vs E2 => K (v :: vs) E2) : RessQ (r :: rs) E K :=
  w_mb (wp_mono h fun d E1 h => w_mb (wp_mono h fun ds E2 q => w_mr q))
def setvK : List Nat → List Va → List Nat → Dn → (Dn → Prop) → Prop
  | [], [], _, E, K => K E
  | i :: is, d :: ds, P, E, K => decide (i ∈ P) = false ∧ setK E i (some d) fun E' => setvK is ds P E' K
  | _, _, _, _, _ => False
theorem sv_nil {K : Dn → Prop} (h : K E) : setvK [] [] P E K := h
theorem sv_cons {i : Nat} {is : List Nat} {d : Va} {ds : List Va} {K : Dn → Prop} (hp : decide (i ∈ P) = false) (h : setK E i (some d) fun E' => setvK is ds P E' K) : setvK (i :: is) (d :: ds) P E K := ⟨hp, h⟩
theorem w_setv : ∀ {is : List Nat} {ds : List Va} {E : Dn} {R : Unit → Dn → Prop}, setvK is ds P E (R ()) → wp (stosD P is ds) E R
  | [], [], E, R, h => w_mr h
  | i :: is, d :: ds, E, R, h => by
    obtain ⟨hp, h⟩ := h
    refine w_mb (w_set hp ?_)
    obtain ⟨l, q⟩ := setK_iff.mp h
    exact setK_iff.mpr ⟨l, w_setv q⟩
  | [], _ :: _, E, R, h => h.elim
  | _ :: _, [], E, R, h => h.elim
theorem setvK_mono : ∀ {is : List Nat} {ds : List Va} {E : Dn} {K K' : Dn → Prop}, setvK is ds P E K → (∀ E, K E → K' E) → setvK is ds P E K'
  | [], [], E, K, K', h, m => m _ h
  | i :: is, d :: ds, E, K, K', ⟨hp, h⟩, m => by
    refine ⟨hp, ?_⟩
    obtain ⟨l, q⟩ := setK_iff.mp h
    exact setK_iff.mpr ⟨l, setvK_mono q m⟩
  | [], _ :: _, E, K, K', h, m => h.elim
  | _ :: _, [], E, K, K', h, m => h.elim
theorem x_par {is : List Nat} (h : wp (evsD C es) E fun rs E1 => RessQ rs E1 fun vs E2 => setvK is vs P E2 (Q .nx)) : wp (exD C P (.par is es)) E Q := by
  simp only [exD]
  exact w_mb (wp_mono h fun rs E1 h => w_mb (wp_mono (show wp (resvs rs) E1 _ from h) fun vs E2 q => w_mb (w_setv (R := fun _ E => wp (mr Fd.nx) E Q) (setvK_mono q fun E q => w_mr q))))
/-- a for by its walk -/
theorem x_for {t : Tg} {it : It} {s : Sms} (h : wp (evID C it) E fun w E1 => wp (forD w (w.vars ++ P) t (exsD C (w.vars ++ P) s) w.n 0) E1 Q) : wp (exD C P (.for_ t it s)) E Q := by
  simp only [exD]
  exact w_mb (wp_mono h fun w E1 q => q)
def asgK (P : List Nat) : Tg → PyData → Dn → (Dn → Prop) → Prop
  | .nm i, d, E, K => decide (i ∈ P) = false ∧ setK E i (some (.fz d)) K
  | .tp is, .tuple ds, E, K => setsK is ds P E K
  | .tp _, _, _, _ => False
theorem a_nm {i : Nat} {d : PyData} {K : Dn → Prop} (hp : decide (i ∈ P) = false) (h : setK E i (some (.fz d)) K) : asgK P (.nm i) d E K := ⟨hp, h⟩
theorem a_tp {is : List Nat} {ds : List PyData} {K : Dn → Prop} (h : setsK is ds P E K) : asgK P (.tp is) (.tuple ds) E K := h
theorem w_asgP {t : Tg} {d : PyData} {R : Unit → Dn → Prop} (h : asgK P t d E (R ())) : wp (asgP P t d) E R := by
  cases t with
  | nm i =>
    obtain ⟨hp, q⟩ := h
    show wp (mb (resv (.fz d)) fun v => stoD P i v) E R
    exact w_mb ⟨Va.fz d, E, rfl, w_set hp q⟩
  | tp is =>
    cases d with
    | tuple ds => exact w_sets h
    | _ => exact h.elim
/-- turns by an invariant; a turn may return -/
theorem for_wp {w : Wd} {P : List Nat} {t : Tg} {body : Md Fd} {N : Nat} {Q : Fd → Dn → Prop} (Inv : Nat → Dn → Prop)
    (step : ∀ i E, i < N → Inv i E → ∃ d, w.at i E = some d ∧ asgK P t d E fun E1 => wp body E1 fun f E2 => match f with
      | .nx => Inv (i + 1) E2
      | .ct => Inv (i + 1) E2
      | .bk => Q .nx E2
      | .rt r => Q (.rt r) E2)
    (ends : ∀ E, Inv N E → w.ends E = true ∧ Q .nx E) : ∀ (n i : Nat) (E : Dn), i + n = N → Inv i E → wp (forD w P t body n i) E Q
  | 0, i, E, hi, v => by
    obtain rfl : i = N := by omega
    obtain ⟨e, q⟩ := ends E v
    refine ⟨.nx, E, ?_, q⟩
    show (if w.ends E then some (Fd.nx, E) else none) = _
    rw [if_pos e]
  | n + 1, i, E, hi, v => by
    obtain ⟨d, e, h⟩ := step i E (by omega) v
    refine w_mb (w_mg e (w_mb (w_asgP (R := fun _ E1 => wp (mb body _) E1 Q) ?_)))
    refine asgK_mono h fun E1 h => w_mb (wp_mono h fun f E2 q => ?_)
    cases f with
    | nx => exact for_wp Inv step ends n (i + 1) E2 (by omega) q
    | ct => exact for_wp Inv step ends n (i + 1) E2 (by omega) q
    | bk => exact w_mr q
    | rt r => exact w_mr q
where
  asgK_mono {t : Tg} {d : PyData} {E : Dn} {K K' : Dn → Prop} (h : asgK P t d E K) (m : ∀ E, K E → K' E) : asgK P t d E K' := by
    cases t with
    | nm i =>
      obtain ⟨hp, q⟩ := h
      obtain ⟨l, q⟩ := setK_iff.mp q
      exact ⟨hp, setK_iff.mpr ⟨l, m _ q⟩⟩
    | tp is =>
      cases d with
      | tuple ds => exact x_asgT.setsK_mono h m
      | _ => exact h.elim
/-- a comprehension by an invariant of what is made so far -/
theorem comp_wp {w : Wd} {own : List Nat} {t : Tg} {c : Md Bool} {el : Md Re} {N : Nat} {R : List PyData → Dn → Prop} (Inv : Nat → List PyData → Dn → Prop)
    (step : ∀ i acc E, i < N → Inv i acc E → ∃ d E1, w.at i E = some d ∧ asgD t d E = some E1 ∧ wp c E1 fun k E2 => IfQ k (acc.length < sizeLine ∧ wp el E2 fun r E3 => FrzQ r E3 fun y E4 => Inv (i + 1) (acc ++ [y]) (wipeD E4 own)) (Inv (i + 1) acc (wipeD E2 own)))
    (ends : ∀ acc E, Inv N acc E → w.ends E = true ∧ R acc E) : ∀ (n i : Nat) (acc : List PyData) (E : Dn), i + n = N → Inv i acc E → wp (compGoD w own t c el n i acc) E R
  | 0, i, acc, E, hi, v => by
    obtain rfl : i = N := by omega
    obtain ⟨e, q⟩ := ends acc E v
    refine ⟨acc, E, ?_, q⟩
    show (if w.ends E then some (acc, E) else none) = _
    rw [if_pos e]
  | n + 1, i, acc, E, hi, v => by
    obtain ⟨d, E1, e, e2, h⟩ := step i acc E (by omega) v
    refine w_mb (w_mg e (w_mb ⟨(), E1, by unfold mset; rw [e2]; rfl, w_mb (wp_mono h fun k E2 h => ?_)⟩))
    cases k with
    | true =>
      obtain ⟨l, h⟩ := (show _ ∧ _ from h)
      refine w_mb (wp_mono h fun r E3 h => w_mb (wp_mono (show wp (frz r) E3 _ from h) fun y E4 q => ?_))
      rw [if_pos l]
      show wp (mb (mset fun E => some (wipeD E own)) fun _ => compGoD w own t c el n (i + 1) (acc ++ [y])) E4 R
      exact w_mb ⟨(), wipeD E4 own, rfl, comp_wp Inv step ends n (i + 1) (acc ++ [y]) _ (by omega) q⟩
    | false =>
      show wp (mb (mset fun E => some (wipeD E own)) fun _ => compGoD w own t c el n (i + 1) acc) E2 R
      exact w_mb ⟨(), wipeD E2 own, rfl, comp_wp Inv step ends n (i + 1) acc _ (by omega) h⟩
theorem w_comp {own : List Nat} {t : Tg} {it : It} {el : Ex} {Q : Re → Dn → Prop} (h : wp (evID C it) E fun w E1 => ((tsl t).all (fun i => decide (i ∈ own)) = true ∧ (w.vars.all fun i => !decide (i ∈ own)) = true) ∧
    wp (compGoD w own t (testD (evD C c)) (evD C el) w.n 0 []) (wipeD E1 own) fun acc E2 => Q (.own (.list acc)) (backD E1 E2 own)) : wp (evD C (.comp own t it c el)) E Q := by
  simp only [evD]
  refine w_mb (wp_mono h fun w E1 ⟨hc, acc, E2, e, q⟩ => ⟨_, _, ?_, q⟩)
  unfold compD
  rw [if_pos hc]
  simp only [e]
/-! ### defs -/
def mkOs (P : List Nat) (m : Nat) (E : Dn) : List (Option Va) := (E.take m).mapIdx fun j o => if j ∈ P then o else none
def FunQ (P : List Nat) (m : Nat) (Q : Re → List (Option Va) → Prop) : Fd → Dn → Prop
  | .nx, E => Q (.fz .none) (mkOs P m E)
  | .rt r, E => wp (retD P r) E fun r' E' => Q r' (mkOs P m E')
  | _, _ => False
theorem cp_of {T : Pr} {k n : Nat} {f : String} {b : Sms} {vs : List Va} {Q : Re → List (Option Va) → Prop} (hT : T.lookup f = some (n, b))
    (h : wp (exsD ⟨callDD T k, T.I⟩ (ownIx 0 vs) b) (vs.map some ++ List.replicate (n - vs.length) none) (FunQ (ownIx 0 vs) vs.length Q)) : cp T (k + 1) f vs Q := by
  obtain ⟨fd, E1, e, q⟩ := h
  have st : ∀ x, bodyD ⟨callDD T k, T.I⟩ n b vs = x → callDD T (k + 1) f vs = x := fun x hx => by
    show (match T.lookup f with | some (n, b) => bodyD ⟨callDD T k, T.I⟩ n b vs | none => none) = _
    rw [hT]
    exact hx
  cases fd with
  | nx =>
    refine ⟨_, _, st _ ?_, q⟩
    unfold bodyD mb
    simp only [e]; rfl
  | rt r =>
    obtain ⟨r', E2, e2, q⟩ := (show wp (retD _ r) E1 _ from q)
    refine ⟨_, _, st _ ?_, q⟩
    unfold bodyD mb
    simp only [e, e2]; rfl
  | bk => exact q.elim
  | ct => exact q.elim
theorem t_fz {P : List Nat} {d : PyData} {R : Re → Dn → Prop} (h : R (.fz d) E) : wp (retD P (.fz d)) E R := ⟨_, E, rfl, h⟩
theorem t_own {P : List Nat} {d : PyData} {R : Re → Dn → Prop} (h : R (.own d) E) : wp (retD P (.own d)) E R := ⟨_, E, rfl, h⟩
theorem t_var {P : List Nat} {i : Nat} {d : PyData} {R : Re → Dn → Prop} (hp : decide (i ∈ P) = false) (e : slotV E i = some (.own d)) (h : setK E i none fun E' => R (.own d) E') : wp (retD P (.var i)) E R := by
  refine ⟨.own d, E.set i none, ?_, (setK_iff.mp h).2⟩
  unfold retD
  simp only [if_neg (of_decide_eq_false hp), e]
theorem t_varP {P : List Nat} {i : Nat} {d : PyData} {R : Re → Dn → Prop} (hp : decide (i ∈ P) = true) (e : slotV E i = some (.own d)) (h : setK E i (some (.fz d)) fun E' => R (.fz d) E') : wp (retD P (.var i)) E R := by
  refine ⟨.fz d, E.set i (some (.fz d)), ?_, (setK_iff.mp h).2⟩
  unfold retD
  simp only [if_pos (of_decide_eq_true hp)]
  unfold mb frz
  simp only [e]; rfl
end
end HI

set_option maxRecDepth 100000
set_option maxHeartbeats 1000000
/-! the rules, their heads closed -/
namespace HI
open PySem L2
@[irreducible] def WE (C : DC) (e : Ex) (E : Dn) (Q : Re → Dn → Prop) : Prop := wp (evD C e) E Q
@[irreducible] def WA (C : DC) (e : Exs) (E : Dn) (Q : List Re → Dn → Prop) : Prop := wp (evsD C e) E Q
@[irreducible] def WI (C : DC) (e : It) (E : Dn) (Q : Wd → Dn → Prop) : Prop := wp (evID C e) E Q
@[irreducible] def WS (C : DC) (P : List Nat) (s : Sm) (E : Dn) (Q : Fd → Dn → Prop) : Prop := wp (exD C P s) E Q
@[irreducible] def WB (C : DC) (P : List Nat) (s : Sms) (E : Dn) (Q : Fd → Dn → Prop) : Prop := wp (exsD C P s) E Q
theorem WE_eq {C : DC} {e : Ex} {E : Dn} {Q : Re → Dn → Prop} : WE C e E Q = wp (evD C e) E Q := by unfold WE; rfl
theorem WA_eq {C : DC} {e : Exs} {E : Dn} {Q : List Re → Dn → Prop} : WA C e E Q = wp (evsD C e) E Q := by unfold WA; rfl
theorem WI_eq {C : DC} {e : It} {E : Dn} {Q : Wd → Dn → Prop} : WI C e E Q = wp (evID C e) E Q := by unfold WI; rfl
theorem WS_eq {C : DC} {P : List Nat} {e : Sm} {E : Dn} {Q : Fd → Dn → Prop} : WS C P e E Q = wp (exD C P e) E Q := by unfold WS; rfl
theorem WB_eq {C : DC} {P : List Nat} {e : Sms} {E : Dn} {Q : Fd → Dn → Prop} : WB C P e E Q = wp (exsD C P e) E Q := by unfold WB; rfl
theorem WE_of {C : DC} {e : Ex} {E : Dn} {Q : Re → Dn → Prop} (h : WE C e E Q) : wp (evD C e) E Q := by rwa [WE_eq] at h
theorem WB_of {C : DC} {P : List Nat} {e : Sms} {E : Dn} {Q : Fd → Dn → Prop} (h : WB C P e E Q) : wp (exsD C P e) E Q := by rwa [WB_eq] at h
theorem WT_of {C : DC} {e : Ex} {E : Dn} {R : Bool → Dn → Prop} (h : WE C e E fun r E1 => TruQ r E1 fun k => R k E1) : wp (testD (evD C e)) E R := by rw [WE_eq] at h; exact w_tru h
theorem WE_mono {C : DC} {e : Ex} {E : Dn} {Q Q1 : Re → Dn → Prop} (h : WE C e E Q) (m : ∀ r E, Q r E → Q1 r E) : WE C e E Q1 := by rw [WE_eq] at *; exact wp_mono h m
theorem WB_mono {C : DC} {P : List Nat} {e : Sms} {E : Dn} {Q Q1 : Fd → Dn → Prop} (h : WB C P e E Q) (m : ∀ r E, Q r E → Q1 r E) : WB C P e E Q1 := by rw [WB_eq] at *; exact wp_mono h m
theorem WS_mono {C : DC} {P : List Nat} {e : Sm} {E : Dn} {Q Q1 : Fd → Dn → Prop} (h : WS C P e E Q) (m : ∀ r E, Q r E → Q1 r E) : WS C P e E Q1 := by rw [WS_eq] at *; exact wp_mono h m
@[irreducible] def zK (E : Dn) (i : Nat) (v : Option Va) (K : Dn → Prop) : Prop := setK E i v K
theorem zK_eq {E : Dn} {i : Nat} {v : Option Va} {K : Dn → Prop} : zK E i v K = setK E i v K := by unfold zK; rfl
@[irreducible] def zL (E : List PyData) (i : Nat) (v : PyData) (K : List PyData → Prop) : Prop := setLK E i v K
theorem zL_eq {E : List PyData} {i : Nat} {v : PyData} {K : List PyData → Prop} : zL E i v K = setLK E i v K := by unfold zL; rfl
@[irreducible] def zS (is : List Nat) (ds : List PyData) (P : List Nat) (E : Dn) (K : Dn → Prop) : Prop := setsK is ds P E K
theorem zS_eq {is : List Nat} {ds : List PyData} {P : List Nat} {E : Dn} {K : Dn → Prop} : zS is ds P E K = setsK is ds P E K := by unfold zS; rfl
@[irreducible] def zV (is : List Nat) (ds : List Va) (P : List Nat) (E : Dn) (K : Dn → Prop) : Prop := setvK is ds P E K
theorem zV_eq {is : List Nat} {ds : List Va} {P : List Nat} {E : Dn} {K : Dn → Prop} : zV is ds P E K = setvK is ds P E K := by unfold zV; rfl
@[irreducible] def zO (rs : List Re) (os : List (Option Va)) (E : Dn) (K : Dn → Prop) : Prop := outsK rs os E K
theorem zO_eq {rs : List Re} {os : List (Option Va)} {E : Dn} {K : Dn → Prop} : zO rs os E K = outsK rs os E K := by unfold zO; rfl
@[irreducible] def zI (k : Bool) (A B : Prop) : Prop := IfQ k A B
theorem zI_eq {k : Bool} {A B : Prop} : zI k A B = IfQ k A B := by unfold zI; rfl
@[irreducible] def zA (P : List Nat) (t : Tg) (d : PyData) (E : Dn) (K : Dn → Prop) : Prop := asgK P t d E K
theorem zA_eq {P : List Nat} {t : Tg} {d : PyData} {E : Dn} {K : Dn → Prop} : zA P t d E K = asgK P t d E K := by unfold zA; rfl
@[irreducible] def zF (P : List Nat) (m : Nat) (Q : Re → List (Option Va) → Prop) (f : Fd) (E : Dn) : Prop := FunQ P m Q f E
theorem zF_eq {P : List Nat} {m : Nat} {Q : Re → List (Option Va) → Prop} {f : Fd} {E : Dn} : zF P m Q f E = FunQ P m Q f E := by unfold zF; rfl
section
variable {C : DC} {P : List Nat} {E : Dn} {a b c : Ex} {es : Exs}
theorem ek_0 {x v : Option Va} {r : Dn} {K : Dn → Prop} (h : K (v :: r)) : zK (x :: r) 0 v K := by
  simp only [WE_eq, WA_eq, WI_eq, WS_eq, WB_eq, zK_eq, zL_eq, zS_eq, zV_eq, zO_eq, zI_eq, zA_eq] at *; exact k_0 h
theorem ek_s {x v : Option Va} {r : Dn} {i : Nat} {K : Dn → Prop} (h : zK r i v fun r' => K (x :: r')) : zK (x :: r) (i + 1) v K := by
  simp only [WE_eq, WA_eq, WI_eq, WS_eq, WB_eq, zK_eq, zL_eq, zS_eq, zV_eq, zO_eq, zI_eq, zA_eq] at *; exact k_s h
theorem ekl_0 {x v : PyData} {r : List PyData} {K : List PyData → Prop} (h : K (v :: r)) : zL (x :: r) 0 v K := by
  simp only [WE_eq, WA_eq, WI_eq, WS_eq, WB_eq, zK_eq, zL_eq, zS_eq, zV_eq, zO_eq, zI_eq, zA_eq] at *; exact kl_0 h
theorem ekl_s {x v : PyData} {r : List PyData} {i : Nat} {K : List PyData → Prop} (h : zL r i v fun r' => K (x :: r')) : zL (x :: r) (i + 1) v K := by
  simp only [WE_eq, WA_eq, WI_eq, WS_eq, WB_eq, zK_eq, zL_eq, zS_eq, zV_eq, zO_eq, zI_eq, zA_eq] at *; exact kl_s h
theorem ess_nil {K : Dn → Prop} (h : K E) : zS [] [] P E K := by
  simp only [WE_eq, WA_eq, WI_eq, WS_eq, WB_eq, zK_eq, zL_eq, zS_eq, zV_eq, zO_eq, zI_eq, zA_eq] at *; exact ss_nil h
theorem ess_cons {i : Nat} {is : List Nat} {d : PyData} {ds : List PyData} {K : Dn → Prop} (hp : decide (i ∈ P) = false) (h : zK E i (some (.fz d)) fun E' => zS is ds P E' K) : zS (i :: is) (d :: ds) P E K := by
  simp only [WE_eq, WA_eq, WI_eq, WS_eq, WB_eq, zK_eq, zL_eq, zS_eq, zV_eq, zO_eq, zI_eq, zA_eq] at *; exact ss_cons hp h
theorem esv_nil {K : Dn → Prop} (h : K E) : zV [] [] P E K := by
  simp only [WE_eq, WA_eq, WI_eq, WS_eq, WB_eq, zK_eq, zL_eq, zS_eq, zV_eq, zO_eq, zI_eq, zA_eq] at *; exact sv_nil h
theorem esv_cons {i : Nat} {is : List Nat} {d : Va} {ds : List Va} {K : Dn → Prop} (hp : decide (i ∈ P) = false) (h : zK E i (some d) fun E' => zV is ds P E' K) : zV (i :: is) (d :: ds) P E K := by
  simp only [WE_eq, WA_eq, WI_eq, WS_eq, WB_eq, zK_eq, zL_eq, zS_eq, zV_eq, zO_eq, zI_eq, zA_eq] at *; exact sv_cons hp h
theorem eq_t {A B : Prop} (h : A) : zI true A B := by
  simp only [WE_eq, WA_eq, WI_eq, WS_eq, WB_eq, zK_eq, zL_eq, zS_eq, zV_eq, zO_eq, zI_eq, zA_eq] at *; exact q_t h
theorem eq_f {A B : Prop} (h : B) : zI false A B := by
  simp only [WE_eq, WA_eq, WI_eq, WS_eq, WB_eq, zK_eq, zL_eq, zS_eq, zV_eq, zO_eq, zI_eq, zA_eq] at *; exact q_f h
theorem eq_if {k : Bool} {A B : Prop} (h1 : k = true → A) (h2 : k = false → B) : zI k A B := by
  simp only [WE_eq, WA_eq, WI_eq, WS_eq, WB_eq, zK_eq, zL_eq, zS_eq, zV_eq, zO_eq, zI_eq, zA_eq] at *; exact q_if h1 h2
theorem eq_dec {p : Prop} [Decidable p] {A B : Prop} (h1 : p → A) (h2 : ¬ p → B) : zI (decide p) A B := by
  simp only [WE_eq, WA_eq, WI_eq, WS_eq, WB_eq, zK_eq, zL_eq, zS_eq, zV_eq, zO_eq, zI_eq, zA_eq] at *; exact q_dec h1 h2
theorem eo_nil {os : List (Option Va)} {K : Dn → Prop} (h : K E) : zO [] os E K := by
  simp only [WE_eq, WA_eq, WI_eq, WS_eq, WB_eq, zK_eq, zL_eq, zS_eq, zV_eq, zO_eq, zI_eq, zA_eq] at *; exact o_nil h
theorem eo_fz {d : PyData} {rs : List Re} {o : Option Va} {os : List (Option Va)} {K : Dn → Prop} (h : zO rs os E K) : zO (.fz d :: rs) (o :: os) E K := by
  simp only [WE_eq, WA_eq, WI_eq, WS_eq, WB_eq, zK_eq, zL_eq, zS_eq, zV_eq, zO_eq, zI_eq, zA_eq] at *; exact o_fz h
theorem eo_own {d : PyData} {rs : List Re} {o : Option Va} {os : List (Option Va)} {K : Dn → Prop} (h : zO rs os E K) : zO (.own d :: rs) (o :: os) E K := by
  simp only [WE_eq, WA_eq, WI_eq, WS_eq, WB_eq, zK_eq, zL_eq, zS_eq, zV_eq, zO_eq, zI_eq, zA_eq] at *; exact o_own h
theorem eo_rol {d : List PyData} {rs : List Re} {o : Option Va} {os : List (Option Va)} {K : Dn → Prop} (h : zO rs os E K) : zO (.rol d :: rs) (o :: os) E K := by
  simp only [WE_eq, WA_eq, WI_eq, WS_eq, WB_eq, zK_eq, zL_eq, zS_eq, zV_eq, zO_eq, zI_eq, zA_eq] at *; exact o_rol h
theorem eo_var {i : Nat} {d : PyData} {rs : List Re} {o : Option Va} {os : List (Option Va)} {K : Dn → Prop} (e : slotV E i = some (.own d)) (h : zK E i o fun E' => zO rs os E' K) : zO (.var i :: rs) (o :: os) E K := by
  simp only [WE_eq, WA_eq, WI_eq, WS_eq, WB_eq, zK_eq, zL_eq, zS_eq, zV_eq, zO_eq, zI_eq, zA_eq] at *; exact o_var e h
theorem ea_nm {i : Nat} {d : PyData} {K : Dn → Prop} (hp : decide (i ∈ P) = false) (h : zK E i (some (.fz d)) K) : zA P (.nm i) d E K := by
  simp only [WE_eq, WA_eq, WI_eq, WS_eq, WB_eq, zK_eq, zL_eq, zS_eq, zV_eq, zO_eq, zI_eq, zA_eq] at *; exact a_nm hp h
theorem ea_tp {is : List Nat} {ds : List PyData} {K : Dn → Prop} (h : zS is ds P E K) : zA P (.tp is) (.tuple ds) E K := by
  simp only [WE_eq, WA_eq, WI_eq, WS_eq, WB_eq, zK_eq, zL_eq, zS_eq, zV_eq, zO_eq, zI_eq, zA_eq] at *; exact a_tp h
theorem ef_var {i : Nat} {d : PyData} {K : PyData → Dn → Prop} (e : slotV E i = some (.own d)) (h : zK E i (some (.fz d)) (K d)) : FrzQ (.var i) E K := by
  simp only [WE_eq, WA_eq, WI_eq, WS_eq, WB_eq, zK_eq, zL_eq, zS_eq, zV_eq, zO_eq, zI_eq, zA_eq] at *; exact f_var e h
theorem er_var {i : Nat} {d : PyData} {K : Va → Dn → Prop} (e : slotV E i = some (.own d)) (h : zK E i (some (.fz d)) (K (.fz d))) : ResQ (.var i) E K := by
  simp only [WE_eq, WA_eq, WI_eq, WS_eq, WB_eq, zK_eq, zL_eq, zS_eq, zV_eq, zO_eq, zI_eq, zA_eq] at *; exact r_var e h
theorem em_setn {E : Dn} {i n : Nat} {xs : List PyData} {d : PyData} {K : Dn → Prop} (e : slotV E i = some (.own (.list xs))) (h : zL xs n d fun ys => zK E i (some (.own (.list ys))) K) : ModQ E i (setD (.int (n : Int)) d) K := by
  simp only [WE_eq, WA_eq, WI_eq, WS_eq, WB_eq, zK_eq, zL_eq, zS_eq, zV_eq, zO_eq, zI_eq, zA_eq] at *; exact m_setn e h
theorem em_set0 {E : Dn} {i : Nat} {xs : List PyData} {d : PyData} {K : Dn → Prop} (e : slotV E i = some (.own (.list xs))) (h : zL xs 0 d fun ys => zK E i (some (.own (.list ys))) K) : ModQ E i (setD (.int 0) d) K := by
  simp only [WE_eq, WA_eq, WI_eq, WS_eq, WB_eq, zK_eq, zL_eq, zS_eq, zV_eq, zO_eq, zI_eq, zA_eq] at *; exact m_set0 e h
theorem em_set1 {E : Dn} {i : Nat} {xs : List PyData} {d : PyData} {K : Dn → Prop} (e : slotV E i = some (.own (.list xs))) (h : zL xs 1 d fun ys => zK E i (some (.own (.list ys))) K) : ModQ E i (setD (.int 1) d) K := by
  simp only [WE_eq, WA_eq, WI_eq, WS_eq, WB_eq, zK_eq, zL_eq, zS_eq, zV_eq, zO_eq, zI_eq, zA_eq] at *; exact m_set1 e h
theorem em_set2 {E : Dn} {i : Nat} {xs : List PyData} {d : PyData} {K : Dn → Prop} (e : slotV E i = some (.own (.list xs))) (h : zL xs 2 d fun ys => zK E i (some (.own (.list ys))) K) : ModQ E i (setD (.int 2) d) K := by
  simp only [WE_eq, WA_eq, WI_eq, WS_eq, WB_eq, zK_eq, zL_eq, zS_eq, zV_eq, zO_eq, zI_eq, zA_eq] at *; exact m_set2 e h
theorem em_seti {E : Dn} {i : Nat} {k : Int} {xs : List PyData} {d : PyData} {K : Dn → Prop} (e : slotV E i = some (.own (.list xs))) (h0 : 0 ≤ k) (h1 : k < xs.length) (h : zK E i (some (.own (.list (xs.set k.toNat d)))) K) : ModQ E i (setD (.int k) d) K := by
  simp only [WE_eq, WA_eq, WI_eq, WS_eq, WB_eq, zK_eq, zL_eq, zS_eq, zV_eq, zO_eq, zI_eq, zA_eq] at *; exact m_seti e h0 h1 h
theorem em_append {E : Dn} {i : Nat} {xs : List PyData} {d : PyData} {K : Dn → Prop} (e : slotV E i = some (.own (.list xs))) (l : xs.length < sizeLine) (h : zK E i (some (.own (.list (xs ++ [d])))) K) : ModQ E i (lmethL "append" [d]) K := by
  simp only [WE_eq, WA_eq, WI_eq, WS_eq, WB_eq, zK_eq, zL_eq, zS_eq, zV_eq, zO_eq, zI_eq, zA_eq] at *; exact m_append e l h
theorem em_insert {E : Dn} {i : Nat} {k : Int} {xs : List PyData} {d : PyData} {K : Dn → Prop} (e : slotV E i = some (.own (.list xs))) (l : xs.length < sizeLine ∧ 0 ≤ k ∧ k < 2 ^ 63) (h : zK E i (some (.own (.list (xs.take k.toNat ++ [d] ++ xs.drop k.toNat)))) K) : ModQ E i (lmethL "insert" [.int k, d]) K := by
  simp only [WE_eq, WA_eq, WI_eq, WS_eq, WB_eq, zK_eq, zL_eq, zS_eq, zV_eq, zO_eq, zI_eq, zA_eq] at *; exact m_insert e l h
theorem em_clear {E : Dn} {i : Nat} {xs : List PyData} {K : Dn → Prop} (e : slotV E i = some (.own (.list xs))) (h : zK E i (some (.own (.list []))) K) : ModQ E i (lmethL "clear" []) K := by
  simp only [WE_eq, WA_eq, WI_eq, WS_eq, WB_eq, zK_eq, zL_eq, zS_eq, zV_eq, zO_eq, zI_eq, zA_eq] at *; exact m_clear e h
theorem et_var {P : List Nat} {i : Nat} {d : PyData} {R : Re → Dn → Prop} (hp : decide (i ∈ P) = false) (e : slotV E i = some (.own d)) (h : zK E i none fun E' => R (.own d) E') : wp (retD P (.var i)) E R := by
  simp only [WE_eq, WA_eq, WI_eq, WS_eq, WB_eq, zK_eq, zL_eq, zS_eq, zV_eq, zO_eq, zI_eq, zA_eq] at *; exact t_var hp e h
theorem et_varP {P : List Nat} {i : Nat} {d : PyData} {R : Re → Dn → Prop} (hp : decide (i ∈ P) = true) (e : slotV E i = some (.own d)) (h : zK E i (some (.fz d)) fun E' => R (.fz d) E') : wp (retD P (.var i)) E R := by
  simp only [WE_eq, WA_eq, WI_eq, WS_eq, WB_eq, zK_eq, zL_eq, zS_eq, zV_eq, zO_eq, zI_eq, zA_eq] at *; exact t_varP hp e h
theorem eq_call {Q : Re → Dn → Prop} {T : Pr} {k : Nat} {f : String} {rs : List Re} {vs : List Va} (nd : nodupB (varsOf rs) = true) (hv : resL E rs = some vs)
    (h : cp T k f vs fun r os => plainRe r = true ∧ zO rs os E (Q r)) : CallQ ⟨callDD T k, T.I⟩ f rs E Q := by
  simp only [WE_eq, WA_eq, WI_eq, WS_eq, WB_eq, zK_eq, zL_eq, zS_eq, zV_eq, zO_eq, zI_eq, zA_eq] at *; exact q_call nd hv h
theorem eq_mk {Q : Re → Dn → Prop} {T : Pr} {k c : Nat} {rs : List Re} {vs : List Va} (nd : nodupB (varsOf rs) = true) (hv : resL E rs = some vs)
    (h : cp T k (cnameOf T.I c ++ ".__init__") (.own (insD c []) :: vs) fun r os => r = .fz .none ∧ ∃ d os', os = some (.own d) :: os' ∧ zO rs os' E (Q (.own d))) : MkQ ⟨callDD T k, T.I⟩ c rs E Q := by
  simp only [WE_eq, WA_eq, WI_eq, WS_eq, WB_eq, zK_eq, zL_eq, zS_eq, zV_eq, zO_eq, zI_eq, zA_eq] at *; exact q_mk nd hv h
theorem ew_fz {Q : Re → Dn → Prop} {i : Nat} {d : PyData} (e : slotV E i = some (.fz d)) (h : Q (.fz d) E) : WE C (.slot i) E Q := by
  simp only [WE_eq, WA_eq, WI_eq, WS_eq, WB_eq, zK_eq, zL_eq, zS_eq, zV_eq, zO_eq, zI_eq, zA_eq] at *; exact w_fz e h
theorem ew_own {Q : Re → Dn → Prop} {i : Nat} {d : PyData} (e : slotV E i = some (.own d)) (h : Q (.var i) E) : WE C (.slot i) E Q := by
  simp only [WE_eq, WA_eq, WI_eq, WS_eq, WB_eq, zK_eq, zL_eq, zS_eq, zV_eq, zO_eq, zI_eq, zA_eq] at *; exact w_own e h
theorem ew_rol {Q : Re → Dn → Prop} {i : Nat} {d : List PyData} (e : slotV E i = some (.rol d)) (h : Q (.rol d) E) : WE C (.slot i) E Q := by
  simp only [WE_eq, WA_eq, WI_eq, WS_eq, WB_eq, zK_eq, zL_eq, zS_eq, zV_eq, zO_eq, zI_eq, zA_eq] at *; exact w_rol e h
theorem ew_cst {Q : Re → Dn → Prop} {v : V} {d : PyData} (e : vD v = some d) (h : Q (.fz d) E) : WE C (.cst v) E Q := by
  simp only [WE_eq, WA_eq, WI_eq, WS_eq, WB_eq, zK_eq, zL_eq, zS_eq, zV_eq, zO_eq, zI_eq, zA_eq] at *; exact w_cst e h
theorem ew_bin {Q : Re → Dn → Prop} {o : Op2} (h : WE C a E fun x E1 => WE C b E1 fun y E2 => DatQ x E2 fun dx => DatQ y E2 fun dy => OpQ o dx dy fun r => Q r E2) : WE C (.bin o a b) E Q := by
  simp only [WE_eq, WA_eq, WI_eq, WS_eq, WB_eq, zK_eq, zL_eq, zS_eq, zV_eq, zO_eq, zI_eq, zA_eq] at *; exact w_bin h
theorem ew_not {Q : Re → Dn → Prop} (h : WE C a E fun r E1 => TruQ r E1 fun k => Q (.fz (.bool !k)) E1) : WE C (.not a) E Q := by
  simp only [WE_eq, WA_eq, WI_eq, WS_eq, WB_eq, zK_eq, zL_eq, zS_eq, zV_eq, zO_eq, zI_eq, zA_eq] at *; exact w_not h
theorem ew_neg {Q : Re → Dn → Prop} (h : WE C a E fun r E1 => DatQ r E1 fun d => ∃ i, d = .int i ∧ Q (.fz (.int (-i))) E1) : WE C (.neg a) E Q := by
  simp only [WE_eq, WA_eq, WI_eq, WS_eq, WB_eq, zK_eq, zL_eq, zS_eq, zV_eq, zO_eq, zI_eq, zA_eq] at *; exact w_neg h
theorem ew_and {Q : Re → Dn → Prop} (h : WE C a E fun x E1 => TruQ x E1 fun k => zI k (WE C b E1 Q) (Q x E1)) : WE C (.and a b) E Q := by
  simp only [WE_eq, WA_eq, WI_eq, WS_eq, WB_eq, zK_eq, zL_eq, zS_eq, zV_eq, zO_eq, zI_eq, zA_eq] at *; exact w_and h
theorem ew_or {Q : Re → Dn → Prop} (h : WE C a E fun x E1 => TruQ x E1 fun k => zI k (Q x E1) (WE C b E1 Q)) : WE C (.or a b) E Q := by
  simp only [WE_eq, WA_eq, WI_eq, WS_eq, WB_eq, zK_eq, zL_eq, zS_eq, zV_eq, zO_eq, zI_eq, zA_eq] at *; exact w_or h
theorem ew_chain {Q : Re → Dn → Prop} {o p : Op2} (h : WE C a E fun x E1 => WE C b E1 fun y E2 => DatQ x E2 fun dx => DatQ y E2 fun dy => OpQ o dx dy fun r => ∃ k, r = .fz (.bool k) ∧
    zI k (WE C c E2 fun z E3 => DatQ y E3 fun dy => DatQ z E3 fun dz => OpQ p dy dz fun r => Q r E3) (Q (.fz (.bool false)) E2)) : WE C (.chain o p a b c) E Q := by
  simp only [WE_eq, WA_eq, WI_eq, WS_eq, WB_eq, zK_eq, zL_eq, zS_eq, zV_eq, zO_eq, zI_eq, zA_eq] at *; exact w_chain h
theorem ew_ife {Q : Re → Dn → Prop} (h : WE C c E fun r E1 => TruQ r E1 fun k => zI k (WE C a E1 Q) (WE C b E1 Q)) : WE C (.ite c a b) E Q := by
  simp only [WE_eq, WA_eq, WI_eq, WS_eq, WB_eq, zK_eq, zL_eq, zS_eq, zV_eq, zO_eq, zI_eq, zA_eq] at *; exact w_ife h
theorem ew_nil  {R : List Re → Dn → Prop} (h : R [] E) : WA C .nil E R := by
  simp only [WE_eq, WA_eq, WI_eq, WS_eq, WB_eq, zK_eq, zL_eq, zS_eq, zV_eq, zO_eq, zI_eq, zA_eq] at *; exact w_nil h
theorem ew_cons  {R : List Re → Dn → Prop} (h : WE C a E fun x E1 => WA C es E1 fun xs E2 => R (x :: xs) E2) : WA C (.cons a es) E R := by
  simp only [WE_eq, WA_eq, WI_eq, WS_eq, WB_eq, zK_eq, zL_eq, zS_eq, zV_eq, zO_eq, zI_eq, zA_eq] at *; exact w_cons h
theorem ew_lst {Q : Re → Dn → Prop} (h : WA C es E fun rs E1 => FrzsQ rs E1 fun ds E2 => ds.length ≤ sizeLine ∧ Q (.own (.list ds)) E2) : WE C (.lst es) E Q := by
  simp only [WE_eq, WA_eq, WI_eq, WS_eq, WB_eq, zK_eq, zL_eq, zS_eq, zV_eq, zO_eq, zI_eq, zA_eq] at *; exact w_lst h
theorem ew_tup {Q : Re → Dn → Prop} (h : WA C es E fun rs E1 => FrzsQ rs E1 fun ds E2 => ds.length ≤ sizeLine ∧ Q (.fz (.tuple ds)) E2) : WE C (.tup es) E Q := by
  simp only [WE_eq, WA_eq, WI_eq, WS_eq, WB_eq, zK_eq, zL_eq, zS_eq, zV_eq, zO_eq, zI_eq, zA_eq] at *; exact w_tup h
theorem ew_idx {Q : Re → Dn → Prop} (h : WE C a E fun x E1 => WE C b E1 fun y E2 => DatRQ x E2 fun dx => DatQ y E2 fun dy => IdxQ dx dy fun d => Q (.fz d) E2) : WE C (.idx a b) E Q := by
  simp only [WE_eq, WA_eq, WI_eq, WS_eq, WB_eq, zK_eq, zL_eq, zS_eq, zV_eq, zO_eq, zI_eq, zA_eq] at *; exact w_idx h
theorem ew_slc {Q : Re → Dn → Prop} {lo hi : Ex} {bl bh : Bool} (h : WE C a E fun x E1 => PartQ bl (evD C lo) E1 fun l E2 => PartQ bh (evD C hi) E2 fun u E3 => DatRQ x E3 fun d => SlcQ d l u fun r => Q r E3) : WE C (.slc a bl lo bh hi) E Q := by
  simp only [WE_eq, WA_eq, WI_eq, WS_eq, WB_eq, zK_eq, zL_eq, zS_eq, zV_eq, zO_eq, zI_eq, zA_eq] at *; exact w_slc h
theorem ew_bcall {Q : Re → Dn → Prop} {f : String} (h : WA C es E fun rs E1 => DatsQ rs E1 fun ds => BfnQ f ds fun r => Q r E1) : WE C (.bcall f es) E Q := by
  simp only [WE_eq, WA_eq, WI_eq, WS_eq, WB_eq, zK_eq, zL_eq, zS_eq, zV_eq, zO_eq, zI_eq, zA_eq] at *; exact w_bcall h
theorem ew_call {Q : Re → Dn → Prop} {f : String} (h : WA C es E fun rs E1 => CallQ C f rs E1 Q) : WE C (.call f es) E Q := by
  simp only [WE_eq, WA_eq, WI_eq, WS_eq, WB_eq, zK_eq, zL_eq, zS_eq, zV_eq, zO_eq, zI_eq, zA_eq] at *; exact w_call h
theorem ew_fld {Q : Re → Dn → Prop} {f : Str} (h : WE C a E fun r E1 => DatQ r E1 fun d => FldQ C.I f d fun x => Q (.fz x) E1) : WE C (.fld a f) E Q := by
  simp only [WE_eq, WA_eq, WI_eq, WS_eq, WB_eq, zK_eq, zL_eq, zS_eq, zV_eq, zO_eq, zI_eq, zA_eq] at *; exact w_fld h
theorem ew_mk {Q : Re → Dn → Prop} {c : Nat} (h : WA C es E fun rs E1 => MkQ C c rs E1 Q) : WE C (.mk c es) E Q := by
  simp only [WE_eq, WA_eq, WI_eq, WS_eq, WB_eq, zK_eq, zL_eq, zS_eq, zV_eq, zO_eq, zI_eq, zA_eq] at *; exact w_mk h
theorem ei_seq {R : Wd → Dn → Prop} (h : WE C a E fun r E1 => SrcQ true r E1 fun s => R (.seq s) E1) : WI C (.seq a) E R := by
  simp only [WE_eq, WA_eq, WI_eq, WS_eq, WB_eq, zK_eq, zL_eq, zS_eq, zV_eq, zO_eq, zI_eq, zA_eq] at *; exact i_seq h
theorem ei_enum {R : Wd → Dn → Prop} (h : WE C a E fun r E1 => SrcQ false r E1 fun s => R (.enum s) E1) : WI C (.enum a) E R := by
  simp only [WE_eq, WA_eq, WI_eq, WS_eq, WB_eq, zK_eq, zL_eq, zS_eq, zV_eq, zO_eq, zI_eq, zA_eq] at *; exact i_enum h
theorem ei_zip {R : Wd → Dn → Prop} (h : WE C a E fun x E1 => WE C b E1 fun y E2 => SrcQ false x E2 fun s => SrcQ false y E2 fun t => R (.zip s t) E2) : WI C (.zip a b) E R := by
  simp only [WE_eq, WA_eq, WI_eq, WS_eq, WB_eq, zK_eq, zL_eq, zS_eq, zV_eq, zO_eq, zI_eq, zA_eq] at *; exact i_zip h
theorem ei_rng1 {R : Wd → Dn → Prop} (h : WE C a E fun r E1 => DatQ r E1 fun d => ∃ j, d = .int j ∧ RngQ 0 j fun w => R w E1) : WI C (.rng1 a) E R := by
  simp only [WE_eq, WA_eq, WI_eq, WS_eq, WB_eq, zK_eq, zL_eq, zS_eq, zV_eq, zO_eq, zI_eq, zA_eq] at *; exact i_rng1 h
theorem ei_rng2 {R : Wd → Dn → Prop} (h : WE C a E fun x E1 => WE C b E1 fun y E2 => DatQ x E2 fun d => DatQ y E2 fun d' => ∃ i j, d = .int i ∧ d' = .int j ∧ RngQ i j fun w => R w E2) : WI C (.rng2 a b) E R := by
  simp only [WE_eq, WA_eq, WI_eq, WS_eq, WB_eq, zK_eq, zL_eq, zS_eq, zV_eq, zO_eq, zI_eq, zA_eq] at *; exact i_rng2 h
theorem ex_nil {Q : Fd → Dn → Prop} (h : Q .nx E) : WB C P .nil E Q := by
  simp only [WE_eq, WA_eq, WI_eq, WS_eq, WB_eq, zK_eq, zL_eq, zS_eq, zV_eq, zO_eq, zI_eq, zA_eq] at *; exact x_nil h
theorem ex_asg {Q : Fd → Dn → Prop} {i : Nat} (h : WE C a E fun r E1 => ResQ r E1 fun v E2 => (decide (i ∈ P) = false ∧ zK E2 i (some v) (Q .nx))) : WS C P (.asg (.nm i) a) E Q := by
  simp only [WE_eq, WA_eq, WI_eq, WS_eq, WB_eq, zK_eq, zL_eq, zS_eq, zV_eq, zO_eq, zI_eq, zA_eq] at *; exact x_asg h
theorem ex_asgT {Q : Fd → Dn → Prop} {is : List Nat} (h : WE C a E fun r E1 => TupQ r fun ds => zS is ds P E1 (Q .nx)) : WS C P (.asg (.tp is) a) E Q := by
  simp only [WE_eq, WA_eq, WI_eq, WS_eq, WB_eq, zK_eq, zL_eq, zS_eq, zV_eq, zO_eq, zI_eq, zA_eq] at *; exact x_asgT h
theorem ex_asgS {Q : Fd → Dn → Prop} {o i : Ex} (h : WE C a E fun r E1 => WE C o E1 fun q E2 => WE C i E2 fun y E3 => ∃ j, q = .var j ∧ DatQ y E3 fun k => FrzQ r E3 fun d E4 => ModQ E4 j (setD k d) (Q .nx)) :
    WS C P (.asgSub o i a) E Q := by
  simp only [WE_eq, WA_eq, WI_eq, WS_eq, WB_eq, zK_eq, zL_eq, zS_eq, zV_eq, zO_eq, zI_eq, zA_eq] at *; exact x_asgS h
theorem ex_asgF {Q : Fd → Dn → Prop} {o : Ex} {f : Str} (h : WE C a E fun r E1 => WE C o E1 fun q E2 => ∃ j, q = .var j ∧ FrzQ r E2 fun d E4 => ModQ E4 j (setFD C.I f d) (Q .nx)) :
    WS C P (.asgFld o f a) E Q := by
  simp only [WE_eq, WA_eq, WI_eq, WS_eq, WB_eq, zK_eq, zL_eq, zS_eq, zV_eq, zO_eq, zI_eq, zA_eq] at *; exact x_asgF h
theorem ex_aug {Q : Fd → Dn → Prop} {i : Nat} {o : Op2} {x : PyData} (e : slotV E i = some (.fz x)) (h : WE C a E fun r E1 => DatQ r E1 fun y => ∃ v, intD o x y = some v ∧ decide (i ∈ P) = false ∧ zK E1 i (some (.fz v)) (Q .nx)) : WS C P (.aug i o a) E Q := by
  simp only [WE_eq, WA_eq, WI_eq, WS_eq, WB_eq, zK_eq, zL_eq, zS_eq, zV_eq, zO_eq, zI_eq, zA_eq] at *; exact x_aug e h
theorem ex_augS {Q : Fd → Dn → Prop} {o i : Ex} {op : Op2} (h : WE C o E fun q E1 => WE C i E1 fun y E2 => ∃ j, q = .var j ∧ DatQ y E2 fun k => ∃ x, atV E2 j k = some x ∧
    WE C a E2 fun r E3 => DatQ r E3 fun z => ∃ v, intD op x z = some v ∧ ModQ E3 j (setD k v) (Q .nx)) : WS C P (.augSub o i op a) E Q := by
  simp only [WE_eq, WA_eq, WI_eq, WS_eq, WB_eq, zK_eq, zL_eq, zS_eq, zV_eq, zO_eq, zI_eq, zA_eq] at *; exact x_augS h
theorem ex_ex {Q : Fd → Dn → Prop} (h : WE C a E fun _ E1 => Q .nx E1) : WS C P (.ex a) E Q := by
  simp only [WE_eq, WA_eq, WI_eq, WS_eq, WB_eq, zK_eq, zL_eq, zS_eq, zV_eq, zO_eq, zI_eq, zA_eq] at *; exact x_ex h
theorem ex_ite {Q : Fd → Dn → Prop} {s t : Sms} (h : WE C c E fun r E1 => TruQ r E1 fun k => zI k (WB C P s E1 Q) (WB C P t E1 Q)) : WS C P (.ite c s t) E Q := by
  simp only [WE_eq, WA_eq, WI_eq, WS_eq, WB_eq, zK_eq, zL_eq, zS_eq, zV_eq, zO_eq, zI_eq, zA_eq] at *; exact x_ite h
theorem ex_ret {Q : Fd → Dn → Prop} (h : WE C a E fun r E1 => Q (.rt r) E1) : WS C P (.ret a) E Q := by
  simp only [WE_eq, WA_eq, WI_eq, WS_eq, WB_eq, zK_eq, zL_eq, zS_eq, zV_eq, zO_eq, zI_eq, zA_eq] at *; exact x_ret h
theorem ex_brk {Q : Fd → Dn → Prop} (h : Q .bk E) : WS C P .brk E Q := by
  simp only [WE_eq, WA_eq, WI_eq, WS_eq, WB_eq, zK_eq, zL_eq, zS_eq, zV_eq, zO_eq, zI_eq, zA_eq] at *; exact x_brk h
theorem ex_cont {Q : Fd → Dn → Prop} (h : Q .ct E) : WS C P .cont E Q := by
  simp only [WE_eq, WA_eq, WI_eq, WS_eq, WB_eq, zK_eq, zL_eq, zS_eq, zV_eq, zO_eq, zI_eq, zA_eq] at *; exact x_cont h
theorem ex_pass {Q : Fd → Dn → Prop} (h : Q .nx E) : WS C P .pass E Q := by
  simp only [WE_eq, WA_eq, WI_eq, WS_eq, WB_eq, zK_eq, zL_eq, zS_eq, zV_eq, zO_eq, zI_eq, zA_eq] at *; exact x_pass h
theorem ex_par {Q : Fd → Dn → Prop} {is : List Nat} (h : WA C es E fun rs E1 => RessQ rs E1 fun vs E2 => zV is vs P E2 (Q .nx)) : WS C P (.par is es) E Q := by
  simp only [WE_eq, WA_eq, WI_eq, WS_eq, WB_eq, zK_eq, zL_eq, zS_eq, zV_eq, zO_eq, zI_eq, zA_eq] at *; exact x_par h
theorem ew_comp  {own : List Nat} {t : Tg} {it : It} {el : Ex} {Q : Re → Dn → Prop} (h : WI C it E fun w E1 => ((tsl t).all (fun i => decide (i ∈ own)) = true ∧ (w.vars.all fun i => !decide (i ∈ own)) = true) ∧
    wp (compGoD w own t (testD (evD C c)) (evD C el) w.n 0 []) (wipeD E1 own) fun acc E2 => Q (.own (.list acc)) (backD E1 E2 own)) : WE C (.comp own t it c el) E Q := by
  simp only [WE_eq, WA_eq, WI_eq, WS_eq, WB_eq, zK_eq, zL_eq, zS_eq, zV_eq, zO_eq, zI_eq, zA_eq] at *; exact w_comp h
theorem ex_for {Q : Fd → Dn → Prop} {t : Tg} {it : It} {s : Sms} (h : WI C it E fun w E1 => wp (forD w (w.vars ++ P) t (exsD C (w.vars ++ P) s) w.n 0) E1 Q) : WS C P (.for_ t it s) E Q := by
  simp only [WE_eq, WA_eq, WI_eq, WS_eq, WB_eq, zK_eq, zL_eq, zS_eq, zV_eq, zO_eq, zI_eq, zA_eq] at *; exact x_for h
theorem ep_yes {K : Option Int → Dn → Prop} (h : WE C a E fun r E1 => DatQ r E1 fun d => ∃ i, d = .int i ∧ K (some i) E1) : PartQ true (evD C a) E K := by
  rw [WE_eq] at h; exact p_yes h
@[irreducible] def kon (C : DC) (P : List Nat) (r : Sms) (Q : Fd → Dn → Prop) : Fd → Dn → Prop := kont C P r Q
theorem ex_cons {Q : Fd → Dn → Prop} {s : Sm} {r : Sms} (h : WS C P s E (kon C P r Q)) : WB C P (.cons s r) E Q := by
  rw [WB_eq]
  rw [WS_eq] at h
  unfold kon at h
  exact x_cons h
theorem ex_nx {Q : Fd → Dn → Prop} {r : Sms} (h : WB C P r E Q) : kon C P r Q .nx E := by
  unfold kon; rw [WB_eq] at h; exact h
theorem ex_rt {Q : Fd → Dn → Prop} {r : Sms} {x : Re} (h : Q (.rt x) E) : kon C P r Q (.rt x) E := by unfold kon; exact h
theorem ex_bk {Q : Fd → Dn → Prop} {r : Sms} (h : Q .bk E) : kon C P r Q .bk E := by unfold kon; exact h
theorem ex_ct {Q : Fd → Dn → Prop} {r : Sms} (h : Q .ct E) : kon C P r Q .ct E := by unfold kon; exact h
theorem kon_mono {Q : Fd → Dn → Prop} {r : Sms} {f : Fd} (h : kon C P r Q f E) : kont C P r Q f E := by unfold kon at h; exact h
theorem em_l {ms : String} {r : Re} {Q : Re → Dn → Prop} {i : Nat} (h : WA C es E fun rs E1 => FrzsQ rs E1 fun ds E2 => ModQ E2 i (lmethL ms ds) fun E3 => Q (.fz .none) E3) : MethQ C ms es r E Q (.inl i) := by
  rw [WA_eq] at h; exact h
theorem em_r {ms : String} {r : Re} {Q : Re → Dn → Prop} {c : Nat} (hm : hasMOf C.I c ms = true) (h : WA C es E fun rs E1 => CallQ C (cnameOf C.I c ++ "." ++ ms) (r :: rs) E1 Q) : MethQ C ms es r E Q (.inr c) := by
  rw [WA_eq] at h; exact ⟨hm, h⟩
theorem ew_meth {Q : Re → Dn → Prop} {m : Str} {ms : String} (h : WE C a E fun r E1 => RecQ m E1 r fun k => MethQ C ms es r E1 Q k) : WE C (.meth m ms a es) E Q := by
  rw [WE_eq] at *; exact w_meth h
theorem ecp_of {T : Pr} {k n : Nat} {f : String} {b : Sms} {vs : List Va} {Q : Re → List (Option Va) → Prop} (hT : T.lookup f = some (n, b))
    (h : WB ⟨callDD T k, T.I⟩ (ownIx 0 vs) b (vs.map some ++ List.replicate (n - vs.length) none) (zF (ownIx 0 vs) vs.length Q)) : cp T (k + 1) f vs Q := by
  rw [WB_eq] at h; exact cp_of hT (wp_mono h fun f E q => by rwa [zF_eq] at q)
theorem fq_nx {m : Nat} {Q : Re → List (Option Va) → Prop} (h : Q (.fz .none) (mkOs P m E)) : zF P m Q .nx E := by rw [zF_eq]; exact h
theorem fq_rt {m : Nat} {r : Re} {Q : Re → List (Option Va) → Prop} (h : wp (retD P r) E fun r' E' => Q r' (mkOs P m E')) : zF P m Q (.rt r) E := by rw [zF_eq]; exact h
theorem efor {w : Wd} {P : List Nat} {t : Tg} {s : Sms} {N : Nat} {Q : Fd → Dn → Prop} (Inv : Nat → Dn → Prop) (hn : w.n = N) (h0 : Inv 0 E)
    (step : ∀ i E, i < N → Inv i E → ∃ d, w.at i E = some d ∧ zA (w.vars ++ P) t d E fun E1 => WB C (w.vars ++ P) s E1 fun f E2 => match f with
      | .nx => Inv (i + 1) E2
      | .ct => Inv (i + 1) E2
      | .bk => Q .nx E2
      | .rt r => Q (.rt r) E2)
    (ends : ∀ E, Inv N E → w.ends E = true ∧ Q .nx E) : wp (forD w (w.vars ++ P) t (exsD C (w.vars ++ P) s) w.n 0) E Q := by
  subst hn
  refine for_wp Inv (fun i E hi v => ?_) ends w.n 0 E (by omega) h0
  obtain ⟨d, e, h⟩ := step i E hi v
  refine ⟨d, e, ?_⟩
  rw [zA_eq] at h
  refine for_wp.asgK_mono h fun E1 q => ?_
  rw [WB_eq] at q
  exact wp_mono q fun f E2 q => by cases f <;> exact q
theorem ecomp {w : Wd} {own : List Nat} {t : Tg} {c el : Ex} {N : Nat} {R : List PyData → Dn → Prop} (Inv : Nat → List PyData → Dn → Prop) (hn : w.n = N) (h0 : Inv 0 [] E)
    (step : ∀ i acc E, i < N → Inv i acc E → ∃ d E1, w.at i E = some d ∧ asgD t d E = some E1 ∧ WE C c E1 fun r E2 => TruQ r E2 fun k => zI k (acc.length < sizeLine ∧ WE C el E2 fun r E3 => FrzQ r E3 fun y E4 => Inv (i + 1) (acc ++ [y]) (wipeD E4 own)) (Inv (i + 1) acc (wipeD E2 own)))
    (ends : ∀ acc E, Inv N acc E → w.ends E = true ∧ R acc E) : wp (compGoD w own t (testD (evD C c)) (evD C el) w.n 0 []) E R := by
  subst hn
  refine comp_wp Inv (fun i acc E hi v => ?_) ends w.n 0 [] E (by omega) h0
  obtain ⟨d, E1, e, e2, h⟩ := step i acc E hi v
  rw [WE_eq] at h
  refine ⟨d, E1, e, e2, w_tru (wp_mono h fun r E2 ⟨d, k, e1, e2, q⟩ => ⟨d, k, e1, e2, ?_⟩)⟩
  have q := (show zI k _ _ from q)
  rw [zI_eq] at q
  cases k with
  | true =>
    obtain ⟨l, q⟩ := (show _ ∧ _ from q)
    rw [WE_eq] at q
    exact ⟨l, q⟩
  | false => exact q
/-! operations, by kinds -/
section
variable {K : Re → Prop} {i j : Int} {x y : PyData}
theorem q_add_i (h : K (.fz (.int (i + j)))) : OpQ .add (.int i) (.int j) K := ⟨_, rfl, h⟩
theorem q_sub_i (h : K (.fz (.int (i - j)))) : OpQ .sub (.int i) (.int j) K := ⟨_, rfl, h⟩
theorem q_lt_i (h : K (.fz (.bool (decide (i < j))))) : OpQ .lt (.int i) (.int j) K := ⟨_, rfl, h⟩
theorem q_le_i (h : K (.fz (.bool (decide (i ≤ j))))) : OpQ .le (.int i) (.int j) K := ⟨_, rfl, h⟩
theorem q_gt_i (h : K (.fz (.bool (decide (j < i))))) : OpQ .gt (.int i) (.int j) K := ⟨_, rfl, h⟩
theorem q_ge_i (h : K (.fz (.bool (decide (j ≤ i))))) : OpQ .ge (.int i) (.int j) K := ⟨_, rfl, h⟩
theorem shaped_i (i : Int) : SeqAt.shaped (.int i) = true := by
  simp [SeqAt.shaped, PyData.canLay0, PyData.depth]
theorem eqP_i (i j : Int) : eqP (.int i) (.int j) = some (decide (i = j)) := by
  have : (i == j) = decide (i = j) := by rw [Bool.eq_iff_iff]; simp
  simp [eqP, eqP0, shaped_i, PyData.eqv, this]
theorem q_eq_i (h : K (.fz (.bool (decide (i = j))))) : OpQ .eq (.int i) (.int j) K := ⟨_, by simp only [opD, eqP_i, Option.map_some], h⟩
theorem q_ne_i (h : K (.fz (.bool (!decide (i = j))))) : OpQ .ne (.int i) (.int j) K := ⟨_, by simp only [opD, eqP_i, Option.map_some], h⟩
theorem q_eq_s {s t : Str} (h : K (.fz (.bool (decide (s = t))))) : OpQ .eq (.str s) (.str t) K := ⟨_, rfl, h⟩
theorem q_ne_s {s t : Str} (h : K (.fz (.bool (!decide (s = t))))) : OpQ .ne (.str s) (.str t) K := ⟨_, rfl, h⟩
theorem log2_lt {n : Nat} (h : n < 2 ^ 200) : n.log2 < 200 := by
  by_cases hn : n = 0
  · subst hn; decide
  · exact (Nat.log2_lt hn).mpr h
theorem q_mul_i (hi : i.natAbs < 2 ^ 200) (hj : j.natAbs < 2 ^ 200) (h : K (.fz (.int (i * j)))) : OpQ .mul (.int i) (.int j) K := by
  have a := log2_lt hi
  have b := log2_lt hj
  have e : intOp .mul i j = some (.int (i * j)) := if_pos (by omega)
  exact ⟨_, by simp only [opD, mulD, intD, e, Option.bind_some, vD, Option.map_some], h⟩
theorem q_fdiv_i (h0 : 0 < j) (h1 : j.natAbs < 2 ^ 200) (h : K (.fz (.int (i / j)))) : OpQ .fdiv (.int i) (.int j) K := by
  have b := log2_lt h1
  have e : intOp .fdiv i j = some (.int (i / j)) := if_pos ⟨h0, by omega⟩
  exact ⟨_, by simp only [opD, intD, e, Option.bind_some, vD, Option.map_some], h⟩
theorem q_mod_i (h0 : 0 < j) (h : K (.fz (.int (i % j)))) : OpQ .mod (.int i) (.int j) K := by
  have e : intOp .mod i j = some (.int (i % j)) := if_pos h0
  exact ⟨_, by simp only [opD, intD, e, Option.bind_some, vD, Option.map_some], h⟩
theorem q_pow_18 (h : K (.fz (.int 1000000000000000000))) : OpQ .pow (.int 10) (.int 18) K := ⟨_, by rfl, h⟩
theorem q_is_b {a b : Bool} (h : K (.fz (.bool (decide (a = b))))) : OpQ .is_ (.bool a) (.bool b) K := ⟨_, rfl, h⟩
theorem q_isn_b {a b : Bool} (h : K (.fz (.bool (!decide (a = b))))) : OpQ .isnot (.bool a) (.bool b) K := ⟨_, rfl, h⟩
theorem q_is_n (h : K (.fz (.bool (isNoneD x)))) : OpQ .is_ x .none K := ⟨_, rfl, h⟩
theorem q_isn_n (h : K (.fz (.bool (!isNoneD x)))) : OpQ .isnot x .none K := ⟨_, rfl, h⟩
theorem q_add_l {xs ys : List PyData} (l : xs.length + ys.length ≤ sizeLine) (h : K (.own (.list (xs ++ ys)))) : OpQ .add (.list xs) (.list ys) K := ⟨_, if_pos l, h⟩
theorem q_add_t {xs ys : List PyData} (l : xs.length + ys.length ≤ sizeLine) (h : K (.fz (.tuple (xs ++ ys)))) : OpQ .add (.tuple xs) (.tuple ys) K := ⟨_, if_pos l, h⟩
theorem q_mul_l {xs : List PyData} (l : (-(2 ^ 63) ≤ j ∧ j < 2 ^ 63) ∧ xs.length * j.toNat ≤ sizeLine) (h : K (.own (.list (List.replicate j.toNat xs).flatten))) : OpQ .mul (.list xs) (.int j) K := ⟨_, if_pos l, h⟩
end
theorem q_ndec {p : Prop} [Decidable p] {A B : Prop} (h1 : ¬ p → A) (h2 : p → B) : zI (!decide p) A B := by
  rw [zI_eq]
  by_cases h : p
  · rw [decide_eq_true h]; exact h2 h
  · rw [decide_eq_false h]; exact h1 h
theorem q_idx_nn {xs : List PyData} {k : Int} {K : PyData → Prop} (h0 : 0 ≤ k) (h1 : k < xs.length) (h : ∀ d, xs[k.toNat]? = some d → K d) : IdxQ (.list xs) (.int k) K := by
  have hk : k.toNat < xs.length := by omega
  refine ⟨xs[k.toNat], ?_, h _ (List.getElem?_eq_getElem hk)⟩
  show atI xs k = _
  unfold atI ixN
  rw [if_pos h0, if_pos h1]
  exact List.getElem?_eq_getElem hk
theorem q_idxT_nn {xs : List PyData} {k : Int} {K : PyData → Prop} (h0 : 0 ≤ k) (h1 : k < xs.length) (h : ∀ d, xs[k.toNat]? = some d → K d) : IdxQ (.tuple xs) (.int k) K := by
  have hk : k.toNat < xs.length := by omega
  refine ⟨xs[k.toNat], ?_, h _ (List.getElem?_eq_getElem hk)⟩
  show atI xs k = _
  unfold atI ixN
  rw [if_pos h0, if_pos h1]
  exact List.getElem?_eq_getElem hk
def tlS : Sms → Sms
  | .cons _ r => r
  | r => r
def thS : Sms → Sms
  | .cons (.ite _ t _) _ => t
  | _ => .nil
def elS : Sms → Sms
  | .cons (.ite _ _ t) _ => t
  | _ => .nil
def foS : Sms → Sms
  | .cons (.for_ _ _ t) _ => t
  | _ => .nil
theorem side {A B : Prop} (a : A) (b : B) : A ∧ B := ⟨a, b⟩
theorem side_int {d : PyData} {i : Int} {K : Int → Prop} (e : d = .int i) (h : K i) : ∃ i, d = .int i ∧ K i := ⟨i, e, h⟩
theorem side_int2 {d d' : PyData} {i j : Int} {K : Int → Int → Prop} (e : d = .int i) (e' : d' = .int j) (h : K i j) : ∃ i j, d = .int i ∧ d' = .int j ∧ K i j := ⟨i, j, e, e', h⟩
theorem side_bool {r : Re} {k : Bool} {K : Bool → Prop} (e : r = .fz (.bool k)) (h : K k) : ∃ k, r = .fz (.bool k) ∧ K k := ⟨k, e, h⟩
theorem side_var {r : Re} {j : Nat} {K : Nat → Prop} (e : r = .var j) (h : K j) : ∃ j, r = .var j ∧ K j := ⟨j, e, h⟩
theorem m_fld {E : Dn} {i : Nat} {x y : PyData} {I : List Ci} {f : Str} {d : PyData} {K : Dn → Prop} (e : slotV E i = some (.own x)) (e2 : setFD I f d x = some y) (h : zK E i (some (.own y)) K) : ModQ E i (setFD I f d) K := by rw [zK_eq] at h; exact ⟨x, y, e, e2, h⟩
theorem side_some {α : Type} {o : Option α} {v : α} {K : α → Prop} (e : o = some v) (h : K v) : ∃ v, o = some v ∧ K v := ⟨v, e, h⟩
end
end HI

set_option maxRecDepth 100000
set_option maxHeartbeats 1000000
/-! data that are equal to themselves and print -/
namespace HI
open PySem L2
structure Nice (d : PyData) (w dp : Nat) : Prop where
  lay : d.canLay0 = true
  dep : d.depth ≤ dp
  sho : d.showable = true
  ish : d.intsShort 50 = true
  wt : d.weight ≤ w
structure NiceL (ds : List PyData) (w dp : Nat) : Prop where
  lay : PyData.canLayAll0 ds = true
  dep : PyData.depthAll ds ≤ dp
  sho : PyData.showableAll ds = true
  ish : PyData.intsShortAll 50 ds = true
  wt : PyData.weightAll ds ≤ w
theorem Nice.mono {d : PyData} {w w' dp dp' : Nat} (n : Nice d w dp) (h : w ≤ w') (h2 : dp ≤ dp') : Nice d w' dp' := ⟨n.lay, Nat.le_trans n.dep h2, n.sho, n.ish, Nat.le_trans n.wt h⟩
theorem NiceL.mono {d : List PyData} {w w' dp dp' : Nat} (n : NiceL d w dp) (h : w ≤ w') (h2 : dp ≤ dp') : NiceL d w' dp' := ⟨n.lay, Nat.le_trans n.dep h2, n.sho, n.ish, Nat.le_trans n.wt h⟩
theorem int_small {i : Int} (h : i.natAbs < 10 ^ 40) : i.natAbs.log2 < 134 := by
  by_cases hn : i.natAbs = 0
  · rw [hn]; decide
  · refine (Nat.log2_lt hn).mpr (Nat.lt_of_lt_of_le h (by decide))
theorem nice_int {i : Int} (h : i.natAbs < 10 ^ 40) : Nice (.int i) 134 0 := by
  have hl := int_small h
  refine ⟨by simp [PyData.canLay0], by simp [PyData.depth], ?_, ?_, ?_⟩
  · simp only [PyData.showable, decide_eq_true_eq]; omega
  · simp only [PyData.intsShort, decide_eq_true_eq]
    have e := int_text_length_le10 (a := i) (k := 40) (by decide) h
    show (Str.ofString (toString i)).length ≤ 50
    rw [ofString_length]; omega
  · simp only [PyData.weight]
    split <;> omega
theorem nice_bool {b : Bool} : Nice (.bool b) 0 0 := ⟨by simp [PyData.canLay0], by simp [PyData.depth], by simp [PyData.showable], by simp [PyData.intsShort], by simp [PyData.weight]⟩
theorem nice_none : Nice .none 0 0 := ⟨by simp [PyData.canLay0], by simp [PyData.depth], by simp [PyData.showable], by simp [PyData.intsShort], by simp [PyData.weight]⟩
theorem nice_str {s : Str} {n : Nat} (h1 : PyData.strOk s = true) (h2 : s.cps.size ≤ n) : Nice (.str s) n 0 := ⟨by simpa [PyData.canLay0] using h1, by simp [PyData.depth], by simp [PyData.showable], by simp [PyData.intsShort], by simpa [PyData.weight] using h2⟩
theorem nl_nil {dp : Nat} : NiceL [] 0 dp := ⟨by simp [PyData.canLayAll0], by simp [PyData.depthAll], by simp [PyData.showableAll], by simp [PyData.intsShortAll], by simp [PyData.weightAll]⟩
theorem nl_cons {d : PyData} {ds : List PyData} {w w' dp : Nat} (a : Nice d w dp) (b : NiceL ds w' dp) : NiceL (d :: ds) (w + 1 + w') dp := by
  refine ⟨?_, ?_, ?_, ?_, ?_⟩
  · simp only [PyData.canLayAll0, a.lay, b.lay]; rfl
  · have := a.dep
    have := b.dep
    simp only [PyData.depthAll]; omega
  · simp only [PyData.showableAll, a.sho, b.sho]; rfl
  · simp only [PyData.intsShortAll, a.ish, b.ish]; rfl
  · have := a.wt
    have := b.wt
    simp only [PyData.weightAll]; omega
theorem nl_all {w dp : Nat} : ∀ {ds : List PyData}, (∀ d ∈ ds, Nice d w dp) → NiceL ds (ds.length * (w + 1)) dp
  | [], _ => (nl_nil : NiceL [] 0 dp).mono (Nat.zero_le _) (Nat.le_refl _)
  | d :: ds, h => by
    have := nl_cons (h d List.mem_cons_self) (nl_all fun x hx => h x (List.mem_cons_of_mem _ hx))
    refine this.mono ?_ (Nat.le_refl _)
    rw [List.length_cons, Nat.add_mul]
    omega
theorem nice_tup {ds : List PyData} {w dp : Nat} (a : NiceL ds w dp) : Nice (.tuple ds) w (dp + 1) := by
  refine ⟨by simpa only [PyData.canLay0] using a.lay, ?_, by simpa only [PyData.showable] using a.sho, by simpa only [PyData.intsShort] using a.ish, by simpa only [PyData.weight] using a.wt⟩
  have := a.dep
  simp only [PyData.depth]; omega
theorem nice_lst {ds : List PyData} {w dp : Nat} (a : NiceL ds w dp) : Nice (.list ds) w (dp + 1) := by
  refine ⟨by simpa only [PyData.canLay0] using a.lay, ?_, by simpa only [PyData.showable] using a.sho, by simpa only [PyData.intsShort] using a.ish, by simpa only [PyData.weight] using a.wt⟩
  have := a.dep
  simp only [PyData.depth]; omega
theorem nl_mem {ds : List PyData} {w dp : Nat} (a : NiceL ds w dp) : ∀ d ∈ ds, Nice d w dp := by
  induction ds generalizing w with
  | nil => intro d h; cases h
  | cons x ds ih =>
    have h1 : x.canLay0 = true ∧ PyData.canLayAll0 ds = true := by simpa only [PyData.canLayAll0, Bool.and_eq_true] using a.lay
    have h2 : max x.depth (PyData.depthAll ds) ≤ dp := by simpa only [PyData.depthAll] using a.dep
    have h3 : x.showable = true ∧ PyData.showableAll ds = true := by simpa only [PyData.showableAll, Bool.and_eq_true] using a.sho
    have h4 : x.intsShort 50 = true ∧ PyData.intsShortAll 50 ds = true := by simpa only [PyData.intsShortAll, Bool.and_eq_true] using a.ish
    have h5 : x.weight + 1 + PyData.weightAll ds ≤ w := by simpa only [PyData.weightAll] using a.wt
    intro d hd
    rcases List.mem_cons.mp hd with rfl | hd
    · exact ⟨h1.1, by omega, h3.1, h4.1, by omega⟩
    · exact ih (w := w) ⟨h1.2, by omega, h3.2, h4.2, by omega⟩ d hd
section
variable {d : PyData} {w dp : Nat}
theorem Nice.shaped (n : Nice d w dp) (h : dp ≤ 64) : SeqAt.shaped d = true := by
  unfold SeqAt.shaped
  rw [n.lay, Bool.true_and, decide_eq_true_eq]
  exact Nat.le_trans n.dep h
theorem Nice.repr (n : Nice d w dp) (h : dp ≤ 64) (hw : w ≤ 300000) : reprD d = some (.str d.shown) := by
  have l := PyData.shown_le 50 (by decide) d (PyData.leavesShort_of_canLay0 50 d n.lay n.ish)
  have wl := n.wt
  refine if_pos ⟨n.shaped h, n.sho, PyData.hasDict_of_canLay _ n.lay, ?_⟩
  unfold sizeLine
  omega
theorem Nice.eq (n : Nice d w dp) (h : dp ≤ 64) : eqP d d = some true := by
  have : eqP0 d d = some true := by
    unfold eqP0
    rw [if_pos ⟨n.shaped h, n.shaped h⟩, SeqAt.eqv_refl _ n.lay]
  cases d with
  | str s => show some (decide (s = s)) = _; simp
  | _ => exact this
theorem q_eq_refl {K : Re → Prop} (n : Nice d w dp) (h : dp ≤ 64) (k : K (.fz (.bool true))) : OpQ .eq d d K := ⟨_, by simp only [opD, n.eq h, Option.map_some], k⟩
theorem q_ne_refl {K : Re → Prop} (n : Nice d w dp) (h : dp ≤ 64) (k : K (.fz (.bool false))) : OpQ .ne d d K := ⟨_, by simp only [opD, n.eq h, Option.map_some]; rfl, k⟩
theorem q_repr {K : Re → Prop} (n : Nice d w dp) (h : dp ≤ 64) (hw : w ≤ 300000) (k : K (.fz (.str d.shown))) : BfnQ "repr" [d] K := ⟨_, by show (reprD d).map Re.fz = _; rw [n.repr h hw]; rfl, k⟩
end
end HI

set_option maxRecDepth 100000
namespace B
open PySem L2 HI
def meets_bound : Sms := (.cons (.asg (.tp [2, 3, 4]) (.slot 1)) (.cons (.ite (.bin .eq (.slot 3) (.cst (.str "least"))) (.cons (.ret (.bin .ge (.idx (.slot 0) (.slot 2)) (.slot 4))) .nil) .nil) (.cons (.ret (.bin .le (.idx (.slot 0) (.slot 2)) (.slot 4))) .nil)))
def meets : Sms := (.cons (.ret (.bcall "all" (.cons (.comp [2] (.nm 2) (.seq (.slot 1)) (.cst (.bl true)) (.call "meets_bound" (.cons (.slot 0) (.cons (.slot 2) .nil)))) .nil))) .nil)
def missed : Sms := (.cons (.ret (.bcall "sorted" (.cons (.comp [2] (.nm 2) (.seq (.slot 1)) (.not (.call "meets_bound" (.cons (.slot 0) (.cons (.slot 2) .nil)))) (.slot 2)) .nil))) .nil)
def _law_bag : Sms := (.cons (.ret (.lst (.cons (.cst (.int (0))) (.cons (.cst (.int (1234567891))) (.cons (.cst (.int (0))) (.cons (.comp [1] (.nm 1) (.seq (.slc (.slot 0) false (.cst .non) true (.cst (.int (63))))) (.cst (.bl true)) (.bcall "abs" (.cons (.slot 1) .nil))) .nil)))))) .nil)
def _law_take : Sms := (.cons (.ite (.bin .eq (.idx (.slot 0) (.cst (.int (0)))) (.cst (.int (0)))) (.cons (.asg (.nm 4) (.cst (.int (0)))) (.cons (.ite (.bin .lt (.idx (.slot 0) (.cst (.int (2)))) (.bcall "len" (.cons (.idx (.slot 0) (.cst (.int (3)))) .nil))) (.cons (.asg (.nm 4) (.idx (.idx (.slot 0) (.cst (.int (3)))) (.idx (.slot 0) (.cst (.int (2)))))) .nil) .nil) (.cons (.augSub (.slot 0) (.cst (.int (2))) .add (.cst (.int (1)))) (.cons (.ite (.bin .ge (.slot 4) (.cst (.int (1000000000000000000)))) (.cons (.asgSub (.slot 0) (.cst (.int (0))) (.slot 4)) .nil) .nil) (.cons (.asgSub (.slot 0) (.cst (.int (1))) (.bin .mod (.bin .add (.bin .add (.bin .mul (.idx (.slot 0) (.cst (.int (1)))) (.cst (.int (48271)))) (.bin .mod (.slot 4) (.cst (.int (2147483647))))) (.bin .mul (.cst (.int (7919))) (.idx (.slot 0) (.cst (.int (2)))))) (.cst (.int (2147483647))))) .nil))))) .nil) (.cons (.ite (.bin .gt (.idx (.slot 0) (.cst (.int (0)))) (.cst (.int (0)))) (.cons (.asg (.nm 5) (.bin .mod (.idx (.slot 0) (.cst (.int (0)))) (.slot 1))) (.cons (.asgSub (.slot 0) (.cst (.int (0))) (.bin .fdiv (.idx (.slot 0) (.cst (.int (0)))) (.slot 1))) (.cons (.ret (.slot 5)) .nil))) .nil) (.cons (.asg (.nm 2) (.bin .mod (.bin .mul (.bin .add (.idx (.slot 0) (.cst (.int (1)))) (.cst (.int (1)))) (.cst (.int (39373)))) (.cst (.int (1000000007))))) (.cons (.asg (.nm 3) (.bin .mod (.bin .mul (.bin .mod (.bin .mul (.slot 2) (.slot 2)) (.cst (.int (998244353)))) (.cst (.int (30011)))) (.cst (.int (998244353))))) (.cons (.ite (.bin .gt (.slot 1) (.cst (.int (1000000)))) (.cons (.ret (.bin .mod (.bin .add (.bin .mul (.slot 3) (.cst (.int (1000000007)))) (.slot 2)) (.slot 1))) .nil) .nil) (.cons (.ret (.bin .mod (.bin .fdiv (.slot 3) (.cst (.int (7)))) (.slot 1))) .nil))))))
def _law_alike : Sms := (.cons (.ret (.and (.bin .eq (.slot 0) (.slot 1)) (.bin .eq (.bcall "repr" (.cons (.slot 0) .nil)) (.bcall "repr" (.cons (.slot 1) .nil))))) .nil)
def _law_meets : Sms := (.cons (.for_ (.tp [2, 3, 4]) (.seq (.slot 1)) (.cons (.ite (.or (.and (.bin .eq (.slot 3) (.cst (.str "least"))) (.bin .lt (.idx (.slot 0) (.slot 2)) (.slot 4))) (.and (.bin .eq (.slot 3) (.cst (.str "most"))) (.bin .gt (.idx (.slot 0) (.slot 2)) (.slot 4)))) (.cons (.ret (.cst (.bl false))) .nil) .nil) .nil)) (.cons (.ret (.cst (.bl true))) .nil))
def _law_wide_value : Sms := (.cons (.asg (.nm 1) (.bin .pow (.cst (.int (10))) (.cst (.int (18))))) (.cons (.asg (.nm 2) (.lst (.cons (.bin .sub (.call "_law_take" (.cons (.slot 0) (.cons (.cst (.int (5))) .nil))) (.cst (.int (2)))) (.cons (.bin .sub (.call "_law_take" (.cons (.slot 0) (.cons (.cst (.int (5))) .nil))) (.cst (.int (2)))) (.cons (.bin .sub (.slot 1) (.call "_law_take" (.cons (.slot 0) (.cons (.cst (.int (3))) .nil)))) (.cons (.bin .sub (.call "_law_take" (.cons (.slot 0) (.cons (.cst (.int (3))) .nil))) (.slot 1)) .nil)))))) (.cons (.ret (.idx (.bin .add (.slot 2) (.lst (.cons (.bin .sub (.call "_law_take" (.cons (.slot 0) (.cons (.bin .add (.bin .mul (.cst (.int (2))) (.slot 1)) (.cst (.int (1)))) .nil))) (.slot 1)) .nil))) (.call "_law_take" (.cons (.slot 0) (.cons (.cst (.int (5))) .nil))))) .nil)))
def _law_beside : Sms := (.cons (.asg (.nm 2) (.lst .nil)) (.cons (.for_ (.nm 3) (.rng1 (.call "_law_take" (.cons (.slot 0) (.cons (.bin .add (.bin .mul (.cst (.int (2))) (.bcall "len" (.cons (.slot 1) .nil))) (.cst (.int (1)))) .nil)))) (.cons (.par [5, 6] (.cons (.call "_law_take" (.cons (.slot 0) (.cons (.bcall "len" (.cons (.slot 1) .nil)) .nil))) (.cons (.idx (.lst (.cons (.cst (.str "least")) (.cons (.cst (.str "most")) .nil))) (.call "_law_take" (.cons (.slot 0) (.cons (.cst (.int (2))) .nil)))) .nil))) (.cons (.asg (.nm 4) (.idx (.lst (.cons (.idx (.slot 1) (.slot 5)) (.cons (.bin .add (.idx (.slot 1) (.slot 5)) (.cst (.int (1)))) (.cons (.bin .sub (.idx (.slot 1) (.slot 5)) (.cst (.int (1)))) (.cons (.call "_law_wide_value" (.cons (.slot 0) .nil)) .nil))))) (.call "_law_take" (.cons (.slot 0) (.cons (.cst (.int (4))) .nil))))) (.cons (.ite (.bin .notin (.tup (.cons (.slot 5) (.cons (.slot 6) .nil))) (.comp [7] (.nm 7) (.seq (.slot 2)) (.cst (.bl true)) (.slc (.slot 7) false (.cst .non) true (.cst (.int (2)))))) (.cons (.ex (.meth "insert" "insert" (.slot 2) (.cons (.call "_law_take" (.cons (.slot 0) (.cons (.bin .add (.bcall "len" (.cons (.slot 2) .nil)) (.cst (.int (1)))) .nil))) (.cons (.tup (.cons (.slot 5) (.cons (.slot 6) (.cons (.bcall "min" (.cons (.bin .pow (.cst (.int (10))) (.cst (.int (18)))) (.cons (.bcall "max" (.cons (.neg (.bin .pow (.cst (.int (10))) (.cst (.int (18))))) (.cons (.slot 4) .nil))) .nil))) .nil)))) .nil)))) .nil) .nil) .nil)))) (.cons (.ret (.slot 2)) .nil)))
def law : Sms := (.cons (.asg (.nm 1) (.call "_law_bag" (.cons (.slot 0) .nil))) (.cons (.for_ (.nm 2) (.rng1 (.cst (.int (8)))) (.cons (.asg (.nm 3) (.bcall "tuple" (.cons (.comp [9] (.nm 9) (.rng1 (.bin .add (.cst (.int (1))) (.call "_law_take" (.cons (.slot 1) (.cons (.cst (.int (6))) .nil))))) (.cst (.bl true)) (.call "_law_wide_value" (.cons (.slot 1) .nil))) .nil))) (.cons (.asg (.nm 4) (.call "_law_beside" (.cons (.slot 1) (.cons (.slot 3) .nil)))) (.cons (.ite (.bin .eq (.call "_law_take" (.cons (.slot 1) (.cons (.cst (.int (4))) .nil))) (.cst (.int (0)))) (.cons (.asg (.nm 4) (.comp [10] (.nm 10) (.seq (.slot 4)) (.call "_law_meets" (.cons (.slot 3) (.cons (.lst (.cons (.slot 10) .nil)) .nil))) (.slot 10))) .nil) .nil) (.cons (.asg (.nm 5) (.bcall "sorted" (.cons (.comp [10] (.nm 10) (.seq (.slot 4)) (.not (.call "_law_meets" (.cons (.slot 3) (.cons (.lst (.cons (.slot 10) .nil)) .nil)))) (.slot 10)) .nil))) (.cons (.for_ (.nm 6) (.seq (.lst (.cons (.slot 4) (.cons (.bcall "[::-1]" (.cons (.slot 4) .nil)) (.cons (.slot 4) .nil))))) (.cons (.asg (.nm 7) (.bcall "list" (.cons (.slot 6) .nil))) (.cons (.asg (.nm 8) (.call "missed" (.cons (.slot 3) (.cons (.slot 6) .nil)))) (.cons (.ite (.or (.not (.call "_law_alike" (.cons (.slot 8) (.cons (.slot 5) .nil)))) (.or (.not (.call "_law_alike" (.cons (.call "meets" (.cons (.slot 3) (.cons (.slot 6) .nil))) (.cons (.bin .eq (.slot 5) (.lst .nil)) .nil)))) (.bin .ne (.slot 6) (.slot 7)))) (.cons (.ret (.cst (.bl false))) .nil) .nil) (.cons (.ex (.meth "append" "append" (.slot 8) (.cons (.cst (.str "x")) .nil))) .nil))))) .nil)))))) (.cons (.ret (.and (.bin .is_ (.call "meets" (.cons (.tup (.cons (.cst (.int (0))) .nil)) (.cons (.lst .nil) .nil))) (.cst (.bl true))) (.bin .eq (.call "missed" (.cons (.tup (.cons (.cst (.int (0))) .nil)) (.cons (.lst .nil) .nil))) (.lst .nil)))) .nil)))
end B
namespace K12
open PySem L2 HI
def CT : List Ci := []
def tab : List (String × Nat × Sms) := [("meets_bound", 5, B.meets_bound), ("meets", 3, B.meets), ("missed", 3, B.missed), ("_law_bag", 2, B._law_bag), ("_law_take", 6, B._law_take), ("_law_alike", 2, B._law_alike), ("_law_meets", 5, B._law_meets), ("_law_wide_value", 3, B._law_wide_value), ("_law_beside", 8, B._law_beside), ("law", 11, B.law)]
def pr : Pr := ⟨tab, CT⟩
theorem l_meets_bound : pr.lookup "meets_bound" = some (5, B.meets_bound) := by rfl
theorem l_meets : pr.lookup "meets" = some (3, B.meets) := by rfl
theorem l_missed : pr.lookup "missed" = some (3, B.missed) := by rfl
theorem l__law_bag : pr.lookup "_law_bag" = some (2, B._law_bag) := by rfl
theorem l__law_take : pr.lookup "_law_take" = some (6, B._law_take) := by rfl
theorem l__law_alike : pr.lookup "_law_alike" = some (2, B._law_alike) := by rfl
theorem l__law_meets : pr.lookup "_law_meets" = some (5, B._law_meets) := by rfl
theorem l__law_wide_value : pr.lookup "_law_wide_value" = some (3, B._law_wide_value) := by rfl
theorem l__law_beside : pr.lookup "_law_beside" = some (8, B._law_beside) := by rfl
theorem l_law : pr.lookup "law" = some (11, B.law) := by rfl
end K12

set_option maxRecDepth 100000
set_option maxHeartbeats 1000000
/-! the draw, alike -/
namespace HI
open PySem L2
-- eng
local macro_rules | `(tactic| fail "s") => `(tactic| first
  | refine ex_cons ?_ | refine ex_nx ?_ | refine ex_rt ?_ | refine ex_bk ?_ | refine ex_ct ?_ | refine ex_nil ?_
  | refine ew_fz rfl ?_ | refine ew_own rfl ?_ | refine ew_rol rfl ?_ | refine ew_cst rfl ?_ | refine ew_bin ?_ | refine ew_idx ?_ | refine ew_nil ?_ | refine ew_cons ?_ | refine ew_call ?_ | refine ew_bcall ?_
  | refine ew_not ?_ | refine ew_neg ?_ | refine ew_and ?_ | refine ew_or ?_ | refine ew_chain ?_ | refine ew_ife ?_ | refine ew_lst ?_ | refine ew_tup ?_ | refine ew_slc ?_ | refine ew_meth ?_ | refine ew_fld ?_ | refine ew_mk ?_
  | refine ex_asg ?_ | refine ex_asgT ?_ | refine ex_asgS ?_ | refine ex_asgF ?_ | refine ex_aug rfl ?_ | refine ex_augS ?_ | refine ex_ex ?_ | refine ex_ite ?_ | refine ex_ret ?_ | refine ex_brk ?_ | refine ex_cont ?_ | refine ex_pass ?_ | refine ex_par ?_
  | refine q_rng (by omega) ?_ | refine ei_seq ?_ | refine ei_enum ?_ | refine ei_zip ?_ | refine ei_rng1 ?_ | refine ei_rng2 ?_
  | refine WE_of ?_ | refine WB_of ?_ | refine WT_of ?_
  | refine q_dat rfl ?_ | refine q_datRr ?_ | refine q_datR rfl ?_ | refine q_truB rfl ?_ | refine eq_t ?_ | refine eq_f ?_
  | refine q_add_i ?_ | refine q_sub_i ?_ | refine q_lt_i ?_ | refine q_le_i ?_ | refine q_gt_i ?_ | refine q_ge_i ?_ | refine q_eq_i ?_ | refine q_ne_i ?_ | refine q_eq_s ?_ | refine q_ne_s ?_ | refine q_pow_18 ?_ | refine q_is_n ?_ | refine q_is_b ?_ | refine q_isn_b ?_ | refine q_isn_n ?_
  | refine q_idx rfl ?_ | refine p_no ?_ | refine ep_yes ?_ | refine q_slcL ?_ | refine d_nil ?_ | refine d_cons ?_ | refine q_bfn rfl ?_
  | refine f_fz ?_ | refine f_own ?_ | refine ef_var rfl ?_ | refine f_varF rfl ?_ | refine f_nil ?_ | refine f_cons ?_
  | refine r_fz ?_ | refine r_own ?_ | refine r_rol ?_ | refine er_var rfl ?_ | refine rs_nil ?_ | refine rs_cons ?_
  | refine ek_0 ?_ | refine ek_s ?_ | refine ess_nil ?_ | refine ess_cons rfl ?_ | refine esv_nil ?_ | refine esv_cons rfl ?_
  | refine q_tup ?_ | refine ea_nm rfl ?_ | refine ea_tp ?_ | refine s_fzl ?_ | refine s_fzt ?_ | refine s_own ?_ | refine s_rol ?_ | refine s_var rfl ?_
  | refine eo_nil ?_ | refine eo_fz ?_ | refine eo_own ?_ | refine eo_rol ?_ | refine eo_var rfl ?_
  | refine fq_nx ?_ | refine fq_rt ?_ | refine t_fz ?_ | refine t_own ?_ | refine et_var rfl rfl ?_ | refine et_varP rfl rfl ?_
  | refine q_rec rfl ?_ | refine em_l ?_ | refine em_r rfl ?_ | refine q_fld rfl ?_
  | refine side_int rfl ?_ | refine side_int2 rfl rfl ?_ | refine side_bool rfl ?_ | refine side_var rfl ?_
  | refine side rfl ?_ | refine side (Nat.le_of_ble_eq_true rfl) ?_ | refine em_set0 rfl ?_ | refine em_set1 rfl ?_ | refine em_set2 rfl ?_ | refine em_clear rfl ?_ | refine m_fld rfl rfl ?_ | refine ekl_0 ?_ | refine ekl_s ?_ | refine side_some rfl ?_
  | refine q_mul_i (by omega) (by omega) ?_ | refine q_mod_i (by omega) ?_ | refine q_fdiv_i (by omega) (by omega) ?_)
-- gne

structure Bg (a b c : Int) (cells : List Int) (n : Nat) : Prop where
  a0 : 0 ≤ a
  b0 : 0 ≤ b
  b1 : b < 2147483647
  c0 : 0 ≤ c
  c1 : c ≤ n
  nn : ∀ x ∈ cells, 0 ≤ x
def bagD (a b c : Int) (cells : List Int) : PyData := .list [.int a, .int b, .int c, .list (cells.map .int)]
/-- a bag of which n values were drawn at most -/
def Bag (d : PyData) (n : Nat) : Prop := ∃ a b c cells, d = bagD a b c cells ∧ Bg a b c cells n
theorem Bag.mono {d : PyData} {n m : Nat} (h : Bag d n) (l : n ≤ m) : Bag d m := by
  obtain ⟨a, b, c, cells, e, G⟩ := h
  exact ⟨a, b, c, cells, e, G.a0, G.b0, G.b1, G.c0, by have := G.c1; omega, G.nn⟩
theorem mod_rng {a m : Int} (h : 0 < m) : 0 ≤ a % m ∧ a % m < m := ⟨Int.emod_nonneg _ (by omega), Int.emod_lt_of_pos _ h⟩
def TakeQ (cells : List Int) (many : Int) (n : Nat) : Re → List (Option Va) → Prop := fun r os => ∃ v a b c, r = .fz (.int v) ∧ os = [some (.own (bagD a b c cells)), none] ∧ 0 ≤ v ∧ v < many ∧ Bg a b c cells n
theorem take_tail {C : DC} {a b c many : Int} {cells : List Int} {n : Nat} {u2 u3 u4 u5 : Option Va} (G : Bg a b c cells n) (h0 : 0 < many) (h1 : many.natAbs < 2 ^ 200) :
    WB C [0] (tlS B._law_take) [some (.own (bagD a b c cells)), some (.fz (.int many)), u2, u3, u4, u5] (zF [0] 2 (TakeQ cells many n)) := by
  have b0 := G.b0
  have b1 := G.b1
  show WB C [0] (.cons _ _) _ _
  repeat fail "s"
  refine eq_dec (fun ha => ?_) (fun ha => ?_)
  · repeat fail "s"
    have m := mod_rng (a := a) h0
    exact ⟨_, _, _, _, rfl, rfl, m.1, m.2, Int.ediv_nonneg G.a0 (by omega), b0, b1, G.c0, G.c1, G.nn⟩
  · repeat fail "s"
    refine eq_dec (fun hb => ?_) (fun hb => ?_)
    · repeat fail "s"
      exact ⟨_, _, _, _, rfl, rfl, (mod_rng h0).1, (mod_rng h0).2, G⟩
    · repeat fail "s"
      exact ⟨_, _, _, _, rfl, rfl, (mod_rng h0).1, (mod_rng h0).2, G⟩
theorem take_bg {T : Pr} (hT : T.lookup "_law_take" = some (6, B._law_take)) {k n : Nat} {a b c many : Int} {cells : List Int} (G : Bg a b c cells n) (hn : n < 2 ^ 100) (h0 : 0 < many) (h1 : many.natAbs < 2 ^ 200) :
    cp T (k + 1) "_law_take" [.own (bagD a b c cells), .fz (.int many)] (TakeQ cells many (n + 1)) := by
  refine ecp_of hT ?_
  show WB ⟨callDD T k, T.I⟩ [0] _ [some (.own (bagD a b c cells)), some (.fz (.int many)), none, none, none, none] (zF [0] 2 _)
  have G1 : Bg a b c cells (n + 1) := ⟨G.a0, G.b0, G.b1, G.c0, by have := G.c1; omega, G.nn⟩
  have b0 := G.b0
  have b1 := G.b1
  have c0 := G.c0
  have c1 := G.c1
  repeat fail "s"
  refine eq_dec (fun ha => ?_) (fun ha => ?_)
  · repeat fail "s"
    -- the cell
    have rest : ∀ x : Int, 0 ≤ x → WB ⟨callDD T k, T.I⟩ [0] (tlS (tlS (tlS (thS B._law_take)))) [some (.own (bagD a b (c + 1) cells)), some (.fz (.int many)), none, none, some (.fz (.int x)), none]
        (kon ⟨callDD T k, T.I⟩ [0] (tlS B._law_take) (zF [0] 2 (TakeQ cells many (n + 1)))) := by
      intro x hx
      show WB _ [0] (.cons _ _) _ _
      repeat fail "s"
      refine eq_dec (fun hb => ?_) (fun hb => ?_)
      · repeat (first | refine take_tail (n := n + 1) ?_ h0 h1 | fail "s")
        exact ⟨by omega, by omega, by omega, by omega, by omega, G.nn⟩
      · repeat (first | refine take_tail (n := n + 1) ?_ h0 h1 | fail "s")
        exact ⟨G.a0, by omega, by omega, by omega, by omega, G.nn⟩
    refine eq_dec (fun hb => ?_) (fun hb => ?_)
    · refine ex_cons ?_
      repeat fail "s"
      rw [List.length_map] at hb
      refine q_idx_nn c0 (by rw [List.length_map]; exact hb) fun d hd => ?_
      rw [List.getElem?_map] at hd
      obtain ⟨x, hx, rfl⟩ := Option.map_eq_some_iff.mp hd
      repeat (first | exact rest x (G.nn x (List.mem_of_getElem? hx)) | fail "s")
    · repeat (first | exact rest 0 (by decide) | fail "s")
  · repeat (first | exact take_tail G1 h0 h1 | fail "s")
end HI

set_option maxRecDepth 100000
set_option maxHeartbeats 1000000
/-! draws as callers see them; equal and alike; sorted lists -/
namespace HI
open PySem L2
-- eng
local macro_rules | `(tactic| fail "s") => `(tactic| first
  | refine ex_cons ?_ | refine ex_nx ?_ | refine ex_rt ?_ | refine ex_bk ?_ | refine ex_ct ?_ | refine ex_nil ?_
  | refine ew_fz rfl ?_ | refine ew_own rfl ?_ | refine ew_rol rfl ?_ | refine ew_cst rfl ?_ | refine ew_bin ?_ | refine ew_idx ?_ | refine ew_nil ?_ | refine ew_cons ?_ | refine ew_call ?_ | refine ew_bcall ?_
  | refine ew_not ?_ | refine ew_neg ?_ | refine ew_and ?_ | refine ew_or ?_ | refine ew_chain ?_ | refine ew_ife ?_ | refine ew_lst ?_ | refine ew_tup ?_ | refine ew_slc ?_ | refine ew_meth ?_ | refine ew_fld ?_ | refine ew_mk ?_
  | refine ex_asg ?_ | refine ex_asgT ?_ | refine ex_asgS ?_ | refine ex_asgF ?_ | refine ex_aug rfl ?_ | refine ex_augS ?_ | refine ex_ex ?_ | refine ex_ite ?_ | refine ex_ret ?_ | refine ex_brk ?_ | refine ex_cont ?_ | refine ex_pass ?_ | refine ex_par ?_
  | refine q_rng (by omega) ?_ | refine ei_seq ?_ | refine ei_enum ?_ | refine ei_zip ?_ | refine ei_rng1 ?_ | refine ei_rng2 ?_
  | refine WE_of ?_ | refine WB_of ?_ | refine WT_of ?_
  | refine q_dat rfl ?_ | refine q_datRr ?_ | refine q_datR rfl ?_ | refine q_truB rfl ?_ | refine eq_t ?_ | refine eq_f ?_
  | refine q_add_i ?_ | refine q_sub_i ?_ | refine q_lt_i ?_ | refine q_le_i ?_ | refine q_gt_i ?_ | refine q_ge_i ?_ | refine q_eq_i ?_ | refine q_ne_i ?_ | refine q_eq_s ?_ | refine q_ne_s ?_ | refine q_pow_18 ?_ | refine q_is_n ?_ | refine q_is_b ?_ | refine q_isn_b ?_ | refine q_isn_n ?_
  | refine q_idx rfl ?_ | refine p_no ?_ | refine ep_yes ?_ | refine q_slcL ?_ | refine d_nil ?_ | refine d_cons ?_ | refine q_bfn rfl ?_
  | refine f_fz ?_ | refine f_own ?_ | refine ef_var rfl ?_ | refine f_varF rfl ?_ | refine f_nil ?_ | refine f_cons ?_
  | refine r_fz ?_ | refine r_own ?_ | refine r_rol ?_ | refine er_var rfl ?_ | refine rs_nil ?_ | refine rs_cons ?_
  | refine ek_0 ?_ | refine ek_s ?_ | refine ess_nil ?_ | refine ess_cons rfl ?_ | refine esv_nil ?_ | refine esv_cons rfl ?_
  | refine q_tup ?_ | refine ea_nm rfl ?_ | refine ea_tp ?_ | refine s_fzl ?_ | refine s_fzt ?_ | refine s_own ?_ | refine s_rol ?_ | refine s_var rfl ?_
  | refine eo_nil ?_ | refine eo_fz ?_ | refine eo_own ?_ | refine eo_rol ?_ | refine eo_var rfl ?_
  | refine fq_nx ?_ | refine fq_rt ?_ | refine t_fz ?_ | refine t_own ?_ | refine et_var rfl rfl ?_ | refine et_varP rfl rfl ?_
  | refine q_rec rfl ?_ | refine em_l ?_ | refine em_r rfl ?_ | refine q_fld rfl ?_
  | refine side_int rfl ?_ | refine side_int2 rfl rfl ?_ | refine side_bool rfl ?_ | refine side_var rfl ?_
  | refine side rfl ?_ | refine side (Nat.le_of_ble_eq_true rfl) ?_ | refine em_set0 rfl ?_ | refine em_set1 rfl ?_ | refine em_set2 rfl ?_ | refine em_clear rfl ?_ | refine m_fld rfl rfl ?_ | refine ekl_0 ?_ | refine ekl_s ?_ | refine side_some rfl ?_
  | refine q_mul_i (by omega) (by omega) ?_ | refine q_mod_i (by omega) ?_ | refine q_fdiv_i (by omega) (by omega) ?_)
-- gne
/-- a draw, as a caller sees it -/
theorem c_take {T : Pr} (hT : T.lookup "_law_take" = some (6, B._law_take)) {k n j : Nat} {d : PyData} {many : Int} {E : Dn} {Q : Re → Dn → Prop} (hE : slotV E j = some (.own d)) (G : Bag d n) (hn : n < 2 ^ 100) (h0 : 0 < many) (h1 : many.natAbs < 2 ^ 200)
    (h : ∀ v d', 0 ≤ v → v < many → Bag d' (n + 1) → zK E j (some (.own d')) fun E' => Q (.fz (.int v)) E') : CallQ ⟨callDD T (k + 1), T.I⟩ "_law_take" [.var j, .fz (.int many)] E Q := by
  obtain ⟨a, b, c, cells, rfl, G⟩ := G
  refine eq_call (vs := [.own (bagD a b c cells), .fz (.int many)]) rfl (by simp [resL, resO, hE]) (cp_mono (take_bg hT G hn h0 h1) ?_)
  rintro r os ⟨v, a', b', c', rfl, rfl, h2, h3, G'⟩
  refine ⟨rfl, eo_var hE ?_⟩
  have := h v _ h2 h3 ⟨a', b', c', cells, rfl, G'⟩
  rw [zK_eq] at this ⊢
  obtain ⟨l, q⟩ := setK_iff.mp this
  exact setK_iff.mpr ⟨l, eo_fz (eo_nil q)⟩
/-- the bag at the start -/
def absI (i : Int) : Int := if i < 0 then -i else i
theorem bag_cp {T : Pr} (hT : T.lookup "_law_bag" = some (2, B._law_bag)) {k : Nat} {ns : List Int} (hl : ns.length ≤ 63) :
    cp T (k + 1) "_law_bag" [.rol (ns.map .int)] fun r os => ∃ d, r = .own d ∧ os = [none] ∧ Bag d 0 := by
  have big : (1000 : Nat) ≤ sizeLine := by decide
  refine ecp_of hT ?_
  show WB ⟨callDD T k, T.I⟩ [] _ [some (.rol (ns.map .int)), none] (zF [] 1 _)
  repeat fail "s"
  have ec : cutD (ns.map PyData.int) none (some 63) = ns.map PyData.int := by
    unfold cutD
    have e1 : HT.sIx (ns.map PyData.int).length 0 none = 0 := rfl
    have e2 : HT.sIx (ns.map PyData.int).length (ns.map PyData.int).length (some 63) = ns.length := by
      rw [List.length_map]
      show HT.sIx ns.length ns.length (some ((63 : Nat) : Int)) = _
      rw [HT.sIx_nat]
      omega
    rw [e1, e2, Nat.sub_zero, List.drop_zero, List.take_of_length_le (by rw [List.length_map]; exact Nat.le_refl _)]
  refine ew_comp ?_
  repeat fail "s"
  rw [ec]
  refine ⟨⟨rfl, rfl⟩, ?_⟩
  refine ecomp (N := ns.length) (fun i acc E => acc = (ns.take i).map (fun x => .int (absI x)) ∧ E = [some (.rol (ns.map .int)), none]) (by simp [Wd.n, Src.n]) ⟨rfl, rfl⟩ ?_ ?_
  · rintro i acc E hi ⟨rfl, rfl⟩
    refine ⟨.int ns[i], [some (.rol (ns.map .int)), some (.fz (.int ns[i]))], ?_, rfl, ?_⟩
    · show (ns.map PyData.int)[i]? = _
      rw [List.getElem?_map, List.getElem?_eq_getElem hi]; rfl
    · repeat fail "s"
      refine side (by rw [List.length_map, List.length_take]; omega) ?_
      repeat fail "s"
      refine ⟨?_, rfl⟩
      rw [List.take_add_one, List.getElem?_eq_getElem hi, List.map_append]; rfl
  · rintro acc E ⟨rfl, rfl⟩
    refine ⟨rfl, ?_⟩
    rw [List.take_length]
    repeat fail "s"
    refine ⟨_, rfl, rfl, 0, 1234567891, 0, ns.map absI, ?_, ⟨by decide, by decide, by decide, by decide, by decide, ?_⟩⟩
    · unfold bagD; rw [List.map_map]; rfl
    · intro x hx
      obtain ⟨i, _, rfl⟩ := List.mem_map.mp hx
      unfold absI
      split <;> omega
/-- two things that are the same, print alike -/
def ow : Bool → PyData → Va
  | true, d => .own d
  | false, d => .fz d
theorem alike_cp {T : Pr} (hT : T.lookup "_law_alike" = some (2, B._law_alike)) {k w dp : Nat} {d : PyData} (n : Nice d w dp) (h : dp ≤ 64) (hw : w ≤ 300000) (p q : Bool) :
    cp T (k + 1) "_law_alike" [ow p d, ow q d] fun r os => r = .fz (.bool true) ∧ os = [if p then some (.own d) else none, if q then some (.own d) else none] := by
  refine ecp_of hT ?_
  have e2 : OpQ .eq (.str d.shown) (.str d.shown) = fun K => OpQ .eq (.str d.shown) (.str d.shown) K := rfl
  cases p <;> cases q
  · show WB ⟨callDD T k, T.I⟩ [] _ [some (.fz d), some (.fz d)] (zF [] 2 _)
    repeat fail "s"
    refine q_eq_refl n h ?_
    repeat fail "s"
    refine q_repr n h hw ?_
    repeat fail "s"
    refine q_repr n h hw ?_
    repeat fail "s"
    exact ⟨by rw [decide_eq_true rfl], rfl⟩
  · show WB ⟨callDD T k, T.I⟩ [1] _ [some (.fz d), some (.own d)] (zF [1] 2 _)
    repeat fail "s"
    refine q_eq_refl n h ?_
    repeat fail "s"
    refine q_repr n h hw ?_
    repeat fail "s"
    refine q_repr n h hw ?_
    repeat fail "s"
    exact ⟨by rw [decide_eq_true rfl], rfl⟩
  · show WB ⟨callDD T k, T.I⟩ [0] _ [some (.own d), some (.fz d)] (zF [0] 2 _)
    repeat fail "s"
    refine q_eq_refl n h ?_
    repeat fail "s"
    refine q_repr n h hw ?_
    repeat fail "s"
    refine q_repr n h hw ?_
    repeat fail "s"
    exact ⟨by rw [decide_eq_true rfl], rfl⟩
  · show WB ⟨callDD T k, T.I⟩ [0, 1] _ [some (.own d), some (.own d)] (zF [0, 1] 2 _)
    repeat fail "s"
    refine q_eq_refl n h ?_
    repeat fail "s"
    refine q_repr n h hw ?_
    repeat fail "s"
    refine q_repr n h hw ?_
    repeat fail "s"
    exact ⟨by rw [decide_eq_true rfl], rfl⟩
end HI

set_option maxRecDepth 100000
set_option maxHeartbeats 1000000
/-! rows, bounds, wishes -/
namespace HI
open PySem L2 SrtO
-- eng
local macro_rules | `(tactic| fail "s") => `(tactic| first
  | refine ex_cons ?_ | refine ex_nx ?_ | refine ex_rt ?_ | refine ex_bk ?_ | refine ex_ct ?_ | refine ex_nil ?_
  | refine ew_fz rfl ?_ | refine ew_own rfl ?_ | refine ew_rol rfl ?_ | refine ew_cst rfl ?_ | refine ew_bin ?_ | refine ew_idx ?_ | refine ew_nil ?_ | refine ew_cons ?_ | refine ew_call ?_ | refine ew_bcall ?_
  | refine ew_not ?_ | refine ew_neg ?_ | refine ew_and ?_ | refine ew_or ?_ | refine ew_chain ?_ | refine ew_ife ?_ | refine ew_lst ?_ | refine ew_tup ?_ | refine ew_slc ?_ | refine ew_meth ?_ | refine ew_fld ?_ | refine ew_mk ?_
  | refine ex_asg ?_ | refine ex_asgT ?_ | refine ex_asgS ?_ | refine ex_asgF ?_ | refine ex_aug rfl ?_ | refine ex_augS ?_ | refine ex_ex ?_ | refine ex_ite ?_ | refine ex_ret ?_ | refine ex_brk ?_ | refine ex_cont ?_ | refine ex_pass ?_ | refine ex_par ?_
  | refine q_rng (by omega) ?_ | refine ei_seq ?_ | refine ei_enum ?_ | refine ei_zip ?_ | refine ei_rng1 ?_ | refine ei_rng2 ?_
  | refine WE_of ?_ | refine WB_of ?_ | refine WT_of ?_
  | refine q_dat rfl ?_ | refine q_datRr ?_ | refine q_datR rfl ?_ | refine q_truB rfl ?_ | refine eq_t ?_ | refine eq_f ?_
  | refine q_add_i ?_ | refine q_sub_i ?_ | refine q_lt_i ?_ | refine q_le_i ?_ | refine q_gt_i ?_ | refine q_ge_i ?_ | refine q_eq_i ?_ | refine q_ne_i ?_ | refine q_eq_s ?_ | refine q_ne_s ?_ | refine q_pow_18 ?_ | refine q_is_n ?_ | refine q_is_b ?_ | refine q_isn_b ?_ | refine q_isn_n ?_
  | refine q_idx rfl ?_ | refine p_no ?_ | refine ep_yes ?_ | refine q_slcL ?_ | refine d_nil ?_ | refine d_cons ?_ | refine q_bfn rfl ?_
  | refine f_fz ?_ | refine f_own ?_ | refine ef_var rfl ?_ | refine f_varF rfl ?_ | refine f_nil ?_ | refine f_cons ?_
  | refine r_fz ?_ | refine r_own ?_ | refine r_rol ?_ | refine er_var rfl ?_ | refine rs_nil ?_ | refine rs_cons ?_
  | refine ek_0 ?_ | refine ek_s ?_ | refine ess_nil ?_ | refine ess_cons rfl ?_ | refine esv_nil ?_ | refine esv_cons rfl ?_
  | refine q_tup ?_ | refine ea_nm rfl ?_ | refine ea_tp ?_ | refine s_fzl ?_ | refine s_fzt ?_ | refine s_own ?_ | refine s_rol ?_ | refine s_var rfl ?_
  | refine eo_nil ?_ | refine eo_fz ?_ | refine eo_own ?_ | refine eo_rol ?_ | refine eo_var rfl ?_
  | refine fq_nx ?_ | refine fq_rt ?_ | refine t_fz ?_ | refine t_own ?_ | refine et_var rfl rfl ?_ | refine et_varP rfl rfl ?_
  | refine q_rec rfl ?_ | refine em_l ?_ | refine em_r rfl ?_ | refine q_fld rfl ?_
  | refine side_int rfl ?_ | refine side_int2 rfl rfl ?_ | refine side_bool rfl ?_ | refine side_var rfl ?_
  | refine side rfl ?_ | refine side (Nat.le_of_ble_eq_true rfl) ?_ | refine em_set0 rfl ?_ | refine em_set1 rfl ?_ | refine em_set2 rfl ?_ | refine em_clear rfl ?_ | refine m_fld rfl rfl ?_ | refine ekl_0 ?_ | refine ekl_s ?_ | refine side_some rfl ?_
  | refine q_mul_i (by omega) (by omega) ?_ | refine q_mod_i (by omega) ?_ | refine q_fdiv_i (by omega) (by omega) ?_)
-- gne
theorem big1000 : (100000 : Nat) ≤ sizeLine := by decide
/-- a comprehension that changes nothing but its own names -/
theorem ecomp_pure {α : Type} {C : DC} {E : Dn} {w : Wd} {own : List Nat} {t : Tg} {c el : Ex} {R : List PyData → Dn → Prop} {enc : α → PyData} (xs : List α) (p : α → Bool) (f : α → PyData) (hn : w.n = xs.length) (hl : xs.length < 100000)
    (hat : ∀ i, w.at i E = (xs.map enc)[i]?) (hend : w.ends E = true)
    (step : ∀ x ∈ xs, ∃ E1, asgD t (enc x) E = some E1 ∧ wipeD E1 own = E ∧ WE C c E1 fun r E2 => TruQ r E2 fun k => k = p x ∧ E2 = E1 ∧ (p x = true → WE C el E1 fun r E3 => FrzQ r E3 fun y E4 => y = f x ∧ wipeD E4 own = E))
    (fin : R ((xs.filter p).map f) E) : wp (compGoD w own t (testD (evD C c)) (evD C el) w.n 0 []) E R := by
  have big := big1000
  refine ecomp (N := xs.length) (fun i acc E' => acc = ((xs.take i).filter p).map f ∧ E' = E) hn ⟨rfl, rfl⟩ ?_ ?_
  · rintro i acc E' hi ⟨rfl, rfl⟩
    obtain ⟨E1, h1, h2, h3⟩ := step xs[i] (List.getElem_mem hi)
    refine ⟨enc xs[i], E1, ?_, h1, WE_mono h3 ?_⟩
    · rw [hat, List.getElem?_map, List.getElem?_eq_getElem hi]; rfl
    · rintro r E2 ⟨d, k, e1, e2, rfl, rfl, h4⟩
      refine ⟨d, _, e1, e2, ?_⟩
      have et : xs.take (i + 1) = xs.take i ++ [xs[i]] := by rw [List.take_add_one, List.getElem?_eq_getElem hi]; rfl
      have len : (((xs.take i).filter p).map f).length ≤ i := by
        rw [List.length_map]
        refine Nat.le_trans (List.length_filter_le _ _) ?_
        rw [List.length_take]; omega
      show zI _ _ _
      rw [zI_eq]
      cases hp : p xs[i] with
      | true =>
        refine ⟨by omega, WE_mono (h4 hp) ?_⟩
        rintro r E3 ⟨y, E4, q1, rfl, q2⟩
        refine ⟨_, E4, q1, ?_, q2⟩
        rw [et, List.filter_append, List.map_append, List.filter_cons_of_pos hp]; rfl
      | false =>
        refine ⟨?_, h2⟩
        rw [et, List.filter_append, List.filter_cons_of_neg (by rw [hp]; exact Bool.false_ne_true), List.filter_nil, List.append_nil]
  · rintro acc E' ⟨rfl, rfl⟩
    rw [List.take_length]
    exact ⟨hend, fin⟩
theorem at_var {E : Dn} {j : Nat} {ys : List PyData} (e : slotV E j = some (.own (.list ys))) (i : Nat) : (Wd.seq (.var j ys.length)).at i E = ys[i]? := by
  show (match Src.now E (.var j ys.length) with | some xs => xs[i]? | none => none) = _
  unfold Src.now
  simp [e, Va.d]
theorem ends_var {E : Dn} {j : Nat} {ys : List PyData} (e : slotV E j = some (.own (.list ys))) : (Wd.seq (.var j ys.length)).ends E = true := by
  show (Src.now E (.var j ys.length)).isSome = true
  unfold Src.now
  simp [e, Va.d]
theorem ex_cut {C : DC} {P : List Nat} {s : Sm} {r : Sms} {E : Dn} {Q : Fd → Dn → Prop} (Inv : Dn → Prop) (h1 : WS C P s E (fun f E1 => f = .nx ∧ Inv E1)) (h2 : ∀ E1, Inv E1 → WB C P r E1 Q) : WB C P (.cons s r) E Q := by
  refine ex_cons ?_
  simp only [WE_eq, WA_eq, WI_eq, WS_eq, WB_eq, zK_eq, zL_eq, zS_eq, zV_eq, zO_eq, zI_eq, zA_eq] at *
  refine wp_mono h1 ?_
  rintro f E1 ⟨rfl, h⟩
  have := h2 E1 h
  refine (?_ : kon C P r Q .nx E1)
  have := ex_nx (C := C) (P := P) (r := r) (Q := Q) (E := E1) (by rw [WB_eq]; assumption)
  exact this
theorem ex_cutI {C : DC} {P : List Nat} {c : Ex} {a b : Sms} {r : Sms} {E : Dn} {Q : Fd → Dn → Prop} (Inv : Dn → Prop) (h1 : WS C P (.ite c a b) E (fun f E1 => f = .nx ∧ Inv E1)) (h2 : ∀ E1, Inv E1 → WB C P r E1 Q) : WB C P (.cons (.ite c a b) r) E Q := ex_cut Inv h1 h2
theorem q_eq_nil {xs : List PyData} {K : Re → Prop} (h : SeqAt.shaped (.list xs) = true) (k : K (.fz (.bool xs.isEmpty))) : OpQ .eq (.list xs) (.list []) K := by
  refine ⟨_, ?_, k⟩
  show (eqP0 _ _).map _ = _
  unfold eqP0
  rw [if_pos ⟨h, by decide +kernel⟩]
  cases xs <;> rfl
/-! bounds -/
def wy (m : Bool) : Str := if m = true then "most" else "least"
abbrev Bd := Int × Bool × Int
def rowD (r : List Int) : PyData := .tuple (r.map .int)
def bdD (b : Bd) : PyData := .tuple [.int b.1, .str (wy b.2.1), .int b.2.2]
def bdsD (ws : List Bd) : PyData := .list (ws.map bdD)
def InR (row : List Int) (b : Bd) : Prop := 0 ≤ b.1 ∧ b.1 < row.length
def mbI (row : List Int) (b : Bd) : Bool := if b.2.1 = true then decide ((row[b.1.toNat]?).getD 0 ≤ b.2.2) else decide (b.2.2 ≤ (row[b.1.toNat]?).getD 0)
theorem row_at {row : List Int} {c : Int} (h0 : 0 ≤ c) (h1 : c < row.length) : indexD (.tuple (row.map .int)) (.int c) = some (.int ((row[c.toNat]?).getD 0)) := by
  show atI (row.map PyData.int) c = _
  have hc : c.toNat < row.length := by omega
  unfold atI ixN
  rw [List.length_map, if_pos h0, if_pos h1]
  show (row.map PyData.int)[c.toNat]? = _
  rw [List.getElem?_map, List.getElem?_eq_getElem hc]; rfl
theorem wy_l : (wy false : Str) = "least" := rfl
theorem wy_m : (wy true : Str) = "most" := rfl
theorem wy_ne : ¬ (wy true : Str) = "least" := by decide +kernel
theorem wy_ne2 : ¬ (wy false : Str) = "most" := by decide +kernel
theorem meets_bound_cp {T : Pr} (hT : T.lookup "meets_bound" = some (5, B.meets_bound)) {k : Nat} {row : List Int} {b : Bd} (h : InR row b) :
    cp T (k + 1) "meets_bound" [.fz (rowD row), .fz (bdD b)] fun r os => r = .fz (.bool (mbI row b)) ∧ os = [none, none] := by
  obtain ⟨c, m, v⟩ := b
  refine ecp_of hT ?_
  show WB ⟨callDD T k, T.I⟩ [] _ [some (.fz (.tuple (row.map .int))), some (.fz (.tuple [.int c, .str (wy m), .int v])), none, none, none] (zF [] 2 _)
  have hx := row_at h.1 h.2
  repeat fail "s"
  cases m with
  | false =>
    refine eq_dec (fun hw => ?_) (fun hw => absurd rfl hw)
    repeat fail "s"
    refine q_idx hx ?_
    repeat fail "s"
    first | rfl | exact ⟨rfl, rfl⟩
  | true =>
    refine eq_dec (fun hw => absurd hw wy_ne) (fun hw => ?_)
    repeat fail "s"
    refine q_idx hx ?_
    repeat fail "s"
    first | rfl | exact ⟨rfl, rfl⟩
theorem boolL_map : ∀ bs : List Bool, boolL (bs.map PyData.bool) = some bs
  | [] => rfl
  | b :: bs => by
    have ih := boolL_map bs
    unfold boolL at *
    rw [List.map_cons, List.mapM_cons, ih]; rfl
theorem intL_map : ∀ bs : List Int, intL (bs.map PyData.int) = some bs
  | [] => rfl
  | b :: bs => by
    have ih := intL_map bs
    unfold intL at *
    rw [List.map_cons, List.mapM_cons, ih]; rfl
theorem q_all {bs : List Bool} {K : Re → Prop} (h : K (.fz (.bool (bs.all id)))) : BfnQ "all" [.list (bs.map .bool)] K :=
  ⟨_, by show (boolL (bs.map PyData.bool)).map _ = _; rw [boolL_map]; rfl, h⟩
theorem q_any {bs : List Bool} {K : Re → Prop} (h : K (.fz (.bool (bs.any id)))) : BfnQ "any" [.list (bs.map .bool)] K :=
  ⟨_, by show (boolL (bs.map PyData.bool)).map _ = _; rw [boolL_map]; rfl, h⟩
theorem q_sum {bs : List Int} {K : Re → Prop} (h : K (.fz (.int bs.sum))) : BfnQ "sum" [.list (bs.map .int)] K :=
  ⟨_, by show (intL (bs.map PyData.int)).map _ = _; rw [intL_map]; rfl, h⟩
theorem q_max1 {bs : List Int} {m : Int} {K : Re → Prop} (e : maxI bs = some m) (h : K (.fz (.int m))) : BfnQ "max" [.list (bs.map .int)] K :=
  ⟨_, by show ((intL (bs.map PyData.int)).bind maxI).map _ = _; rw [intL_map]; show (maxI bs).map _ = _; rw [e]; rfl, h⟩
theorem q_min1 {bs : List Int} {m : Int} {K : Re → Prop} (e : minI bs = some m) (h : K (.fz (.int m))) : BfnQ "min" [.list (bs.map .int)] K :=
  ⟨_, by show ((intL (bs.map PyData.int)).bind minI).map _ = _; rw [intL_map]; show (minI bs).map _ = _; rw [e]; rfl, h⟩
theorem all_map {α : Type} {f : α → Bool} {xs : List α} : (xs.map f).all id = xs.all f := by rw [List.all_map]; rfl
theorem map_bool {α : Type} {f : α → Bool} {xs : List α} : xs.map (fun x => PyData.bool (f x)) = (xs.map f).map .bool := by rw [List.map_map]; rfl
theorem filter_true {α : Type} {xs : List α} : xs.filter (fun _ => true) = xs := List.filter_eq_self.mpr fun _ _ => rfl
/-- a list handed on, its own or not -/
theorem meets_cp {T : Pr} (hT : T.lookup "meets" = some (3, B.meets)) (hM : T.lookup "meets_bound" = some (5, B.meets_bound)) {k : Nat} {row : List Int} {ws : List Bd} (hl : ws.length < 100000) (hr : ∀ b ∈ ws, InR row b) (o : Bool) :
    cp T (k + 2) "meets" [.fz (rowD row), ow o (bdsD ws)] fun r os => r = .fz (.bool (ws.all (mbI row))) ∧ os = [none, if o then some (.own (bdsD ws)) else none] := by
  refine ecp_of hT ?_
  cases o
  · show WB ⟨callDD T (k + 1), T.I⟩ [] _ [some (.fz (rowD row)), some (.fz (.list (ws.map bdD))), none] (zF [] 2 _)
    repeat fail "s"
    refine ew_comp ?_
    repeat fail "s"
    refine ⟨⟨rfl, rfl⟩, ?_⟩
    refine ecomp_pure (enc := bdD) ws (fun _ => true) (fun b => .bool (mbI row b)) (by simp [Wd.n, Src.n]) hl (fun i => rfl) rfl (fun b hb => ?_) ?_
    · refine ⟨_, rfl, rfl, ?_⟩
      repeat fail "s"
      intro _
      repeat fail "s"
      refine eq_call rfl rfl (cp_mono (meets_bound_cp hM (hr b hb)) ?_)
      rintro r os ⟨rfl, rfl⟩
      refine ⟨rfl, ?_⟩
      repeat fail "s"
      first | rfl | exact ⟨rfl, rfl⟩
    · rw [filter_true, map_bool]
      repeat fail "s"
      refine q_all ?_
      repeat fail "s"
      first | exact ⟨by rw [all_map], rfl⟩ | rw [all_map]
  · show WB ⟨callDD T (k + 1), T.I⟩ [1] _ [some (.fz (rowD row)), some (.own (.list (ws.map bdD))), none] (zF [1] 2 _)
    repeat fail "s"
    refine ew_comp ?_
    repeat fail "s"
    refine ⟨⟨rfl, rfl⟩, ?_⟩
    refine ecomp_pure (enc := bdD) ws (fun _ => true) (fun b => .bool (mbI row b)) (by simp [Wd.n, Src.n]) hl (fun i => at_var rfl i) (ends_var rfl) (fun b hb => ?_) ?_
    · refine ⟨_, rfl, rfl, ?_⟩
      repeat fail "s"
      intro _
      repeat fail "s"
      refine eq_call rfl rfl (cp_mono (meets_bound_cp hM (hr b hb)) ?_)
      rintro r os ⟨rfl, rfl⟩
      refine ⟨rfl, ?_⟩
      repeat fail "s"
      first | rfl | exact ⟨rfl, rfl⟩
    · rw [filter_true, map_bool]
      repeat fail "s"
      refine q_all ?_
      repeat fail "s"
      first | exact ⟨by rw [all_map], rfl⟩ | rw [all_map]
/-! sorted bounds -/
def shB : Nat → Bool := shapeD [.int 0, .str (wy false), .int 0]
def bdKey (b : Bd) : List Kit := [.inl b.1, .inr (wy b.2.1).cps.toList, .inl b.2.2]
def ltB (a b : Bd) : Bool := PyProof.Rows.lexLt PyProof.Rows.itemOrd (bdKey a) (bdKey b)
def sortB (ws : List Bd) : List Bd := isort ltB ws
theorem shape_bd (b : Bd) : shapeD [.int b.1, .str (wy b.2.1), .int b.2.2] = shB := by
  funext i
  match i with
  | 0 => rfl
  | 1 => rfl
  | 2 => rfl
  | n + 3 => rfl
theorem key_bd (b : Bd) : keyD shB (bdD b) = some (bdKey b) := rfl
theorem sort_bds {ws : List Bd} : sortD (ws.map bdD) = some ((sortB ws).map bdD) := by
  cases ws with
  | nil => rfl
  | cons b r =>
    unfold sortD
    have n1 : ¬ ((b :: r).map bdD).all isID = true := by
      intro h
      have := List.all_eq_true.mp h (bdD b) (by simp)
      cases this
    rw [if_neg n1]
    have hk : ((b :: r).map bdD).all (hasKD (shapeD [.int b.1, .str (wy b.2.1), .int b.2.2])) = true := by
      rw [shape_bd, List.all_eq_true]
      intro d hd
      obtain ⟨x, _, rfl⟩ := List.mem_map.mp hd
      rfl
    show (if ((b :: r).map bdD).all (hasKD (shapeD [.int b.1, .str (wy b.2.1), .int b.2.2])) = true then some (isort (ltD (shapeD [.int b.1, .str (wy b.2.1), .int b.2.2])) ((b :: r).map bdD)) else none) = _
    rw [if_pos hk, shape_bd, isort_map]
    rfl
theorem swo_ltB : Swo ltB := HI.Swo.of swo_lexI bdKey
theorem wy_inj {a b : Bool} (h : (wy a).cps.toList = (wy b).cps.toList) : a = b := by
  revert h
  cases a <;> cases b <;> intro h <;> first | rfl | exact absurd h (by decide +kernel)
theorem bdKey_inj {a b : Bd} (h : bdKey a = bdKey b) : a = b := by
  obtain ⟨c, m, v⟩ := a
  obtain ⟨c', m', v'⟩ := b
  unfold bdKey at h
  simp only [List.cons.injEq, Sum.inl.injEq, Sum.inr.injEq, and_true] at h
  obtain ⟨rfl, h2, rfl⟩ := h
  rw [wy_inj h2]
theorem sortB_perm {ws ws' : List Bd} (p : ws.Perm ws') : sortB ws = sortB ws' := by
  refine List.Perm.eq_of_pairwise (le := fun a b => ltB b a = false) (fun a b _ _ h1 h2 => bdKey_inj (PyProof.Rows.lex_total _ _ h2 h1)) (isort_sorted swo_ltB ws) (isort_sorted swo_ltB ws') (((isort_perm ws).trans p).trans (isort_perm ws').symm)
theorem q_sortB {ws : List Bd} {K : Re → Prop} (h : K (.own (bdsD (sortB ws)))) : BfnQ "sorted" [.list (ws.map bdD)] K :=
  ⟨_, by show (sortD (ws.map bdD)).map _ = _; rw [sort_bds]; rfl, h⟩
theorem missed_cp {T : Pr} (hT : T.lookup "missed" = some (3, B.missed)) (hM : T.lookup "meets_bound" = some (5, B.meets_bound)) {k : Nat} {row : List Int} {ws : List Bd} (hl : ws.length < 100000) (hr : ∀ b ∈ ws, InR row b) (o : Bool) :
    cp T (k + 2) "missed" [.fz (rowD row), ow o (bdsD ws)] fun r os => r = .own (bdsD (sortB (ws.filter fun b => !mbI row b))) ∧ os = [none, if o then some (.own (bdsD ws)) else none] := by
  refine ecp_of hT ?_
  cases o
  · show WB ⟨callDD T (k + 1), T.I⟩ [] _ [some (.fz (rowD row)), some (.fz (.list (ws.map bdD))), none] (zF [] 2 _)
    repeat fail "s"
    refine ew_comp ?_
    repeat fail "s"
    refine ⟨⟨rfl, rfl⟩, ?_⟩
    refine ecomp_pure (enc := bdD) ws (fun b => !mbI row b) bdD (by simp [Wd.n, Src.n]) hl (fun i => rfl) rfl (fun b hb => ?_) ?_
    · refine ⟨_, rfl, rfl, ?_⟩
      repeat fail "s"
      refine eq_call rfl rfl (cp_mono (meets_bound_cp hM (hr b hb)) ?_)
      rintro r os ⟨rfl, rfl⟩
      refine ⟨rfl, ?_⟩
      repeat fail "s"
      intro _
      repeat fail "s"
      first | rfl | exact ⟨rfl, rfl⟩
    · repeat fail "s"
      refine q_sortB ?_
      repeat fail "s"
      first | rfl | exact ⟨rfl, rfl⟩
  · show WB ⟨callDD T (k + 1), T.I⟩ [1] _ [some (.fz (rowD row)), some (.own (.list (ws.map bdD))), none] (zF [1] 2 _)
    repeat fail "s"
    refine ew_comp ?_
    repeat fail "s"
    refine ⟨⟨rfl, rfl⟩, ?_⟩
    refine ecomp_pure (enc := bdD) ws (fun b => !mbI row b) bdD (by simp [Wd.n, Src.n]) hl (fun i => at_var rfl i) (ends_var rfl) (fun b hb => ?_) ?_
    · refine ⟨_, rfl, rfl, ?_⟩
      repeat fail "s"
      refine eq_call rfl rfl (cp_mono (meets_bound_cp hM (hr b hb)) ?_)
      rintro r os ⟨rfl, rfl⟩
      refine ⟨rfl, ?_⟩
      repeat fail "s"
      intro _
      repeat fail "s"
      first | rfl | exact ⟨rfl, rfl⟩
    · repeat fail "s"
      refine q_sortB ?_
      repeat fail "s"
      first | rfl | exact ⟨rfl, rfl⟩
end HI

set_option maxRecDepth 100000
set_option maxHeartbeats 1000000
/-! the law's own helpers of bounds -/
namespace HI
open PySem L2 SrtO
-- eng
local macro_rules | `(tactic| fail "s") => `(tactic| first
  | refine ex_cons ?_ | refine ex_nx ?_ | refine ex_rt ?_ | refine ex_bk ?_ | refine ex_ct ?_ | refine ex_nil ?_
  | refine ew_fz rfl ?_ | refine ew_own rfl ?_ | refine ew_rol rfl ?_ | refine ew_cst rfl ?_ | refine ew_bin ?_ | refine ew_idx ?_ | refine ew_nil ?_ | refine ew_cons ?_ | refine ew_call ?_ | refine ew_bcall ?_
  | refine ew_not ?_ | refine ew_neg ?_ | refine ew_and ?_ | refine ew_or ?_ | refine ew_chain ?_ | refine ew_ife ?_ | refine ew_lst ?_ | refine ew_tup ?_ | refine ew_slc ?_ | refine ew_meth ?_ | refine ew_fld ?_ | refine ew_mk ?_
  | refine ex_asg ?_ | refine ex_asgT ?_ | refine ex_asgS ?_ | refine ex_asgF ?_ | refine ex_aug rfl ?_ | refine ex_augS ?_ | refine ex_ex ?_ | refine ex_ite ?_ | refine ex_ret ?_ | refine ex_brk ?_ | refine ex_cont ?_ | refine ex_pass ?_ | refine ex_par ?_
  | refine q_rng (by omega) ?_ | refine ei_seq ?_ | refine ei_enum ?_ | refine ei_zip ?_ | refine ei_rng1 ?_ | refine ei_rng2 ?_
  | refine WE_of ?_ | refine WB_of ?_ | refine WT_of ?_
  | refine q_dat rfl ?_ | refine q_datRr ?_ | refine q_datR rfl ?_ | refine q_truB rfl ?_ | refine eq_t ?_ | refine eq_f ?_
  | refine q_add_i ?_ | refine q_sub_i ?_ | refine q_lt_i ?_ | refine q_le_i ?_ | refine q_gt_i ?_ | refine q_ge_i ?_ | refine q_eq_i ?_ | refine q_ne_i ?_ | refine q_eq_s ?_ | refine q_ne_s ?_ | refine q_pow_18 ?_ | refine q_is_n ?_ | refine q_is_b ?_ | refine q_isn_b ?_ | refine q_isn_n ?_
  | refine q_idx rfl ?_ | refine p_no ?_ | refine ep_yes ?_ | refine q_slcL ?_ | refine d_nil ?_ | refine d_cons ?_ | refine q_bfn rfl ?_
  | refine f_fz ?_ | refine f_own ?_ | refine ef_var rfl ?_ | refine f_varF rfl ?_ | refine f_nil ?_ | refine f_cons ?_
  | refine r_fz ?_ | refine r_own ?_ | refine r_rol ?_ | refine er_var rfl ?_ | refine rs_nil ?_ | refine rs_cons ?_
  | refine ek_0 ?_ | refine ek_s ?_ | refine ess_nil ?_ | refine ess_cons rfl ?_ | refine esv_nil ?_ | refine esv_cons rfl ?_
  | refine q_tup ?_ | refine ea_nm rfl ?_ | refine ea_tp ?_ | refine s_fzl ?_ | refine s_fzt ?_ | refine s_own ?_ | refine s_rol ?_ | refine s_var rfl ?_
  | refine eo_nil ?_ | refine eo_fz ?_ | refine eo_own ?_ | refine eo_rol ?_ | refine eo_var rfl ?_
  | refine fq_nx ?_ | refine fq_rt ?_ | refine t_fz ?_ | refine t_own ?_ | refine et_var rfl rfl ?_ | refine et_varP rfl rfl ?_
  | refine q_rec rfl ?_ | refine em_l ?_ | refine em_r rfl ?_ | refine q_fld rfl ?_
  | refine side_int rfl ?_ | refine side_int2 rfl rfl ?_ | refine side_bool rfl ?_ | refine side_var rfl ?_
  | refine side rfl ?_ | refine side (Nat.le_of_ble_eq_true rfl) ?_ | refine em_set0 rfl ?_ | refine em_set1 rfl ?_ | refine em_set2 rfl ?_ | refine em_clear rfl ?_ | refine m_fld rfl rfl ?_ | refine ekl_0 ?_ | refine ekl_s ?_ | refine side_some rfl ?_
  | refine q_mul_i (by omega) (by omega) ?_ | refine q_mod_i (by omega) ?_ | refine q_fdiv_i (by omega) (by omega) ?_)
-- gne
theorem law_meets_cp {T : Pr} (hT : T.lookup "_law_meets" = some (5, B._law_meets)) {k : Nat} {row : List Int} {ws : List Bd} (hr : ∀ b ∈ ws, InR row b) (o : Bool) :
    cp T (k + 1) "_law_meets" [.fz (rowD row), ow o (bdsD ws)] fun r os => r = .fz (.bool (ws.all (mbI row))) ∧ os = [none, if o then some (.own (bdsD ws)) else none] := by
  refine ecp_of hT ?_
  cases o
  · show WB ⟨callDD T k, T.I⟩ [] _ [some (.fz (rowD row)), some (.fz (.list (ws.map bdD))), none, none, none] (zF [] 2 _)
    repeat fail "s"
    refine ex_for ?_
    repeat fail "s"
    refine efor (N := ws.length) (fun i E => (∃ u2 u3 u4, E = [some (.fz (rowD row)), some (.fz (.list (ws.map bdD))), u2, u3, u4]) ∧ (ws.take i).all (mbI row) = true) (by simp [Wd.n, Src.n]) ⟨⟨_, _, _, rfl⟩, by simp⟩ ?_ ?_
    · rintro i E hi ⟨⟨u2, u3, u4, rfl⟩, h1⟩
      have hb := hr ws[i] (List.getElem_mem hi)
      have et : (ws.take (i + 1)).all (mbI row) = mbI row ws[i] := by
        rw [List.take_add_one, List.getElem?_eq_getElem hi, List.all_append, h1]; simp
      have ef : mbI row ws[i] = false → ws.all (mbI row) = false := fun h => by
        rw [List.all_eq_false]
        exact ⟨ws[i], List.getElem_mem hi, by rw [h]; exact Bool.false_ne_true⟩
      refine ⟨bdD ws[i], ?_, ?_⟩
      · refine (rfl : _ = (ws.map bdD)[i]?).trans ?_
        rw [List.getElem?_map, List.getElem?_eq_getElem hi]; rfl
      generalize ws[i] = b at *
      obtain ⟨c, m, v⟩ := b
      have hx : indexD (.tuple (row.map .int)) (.int c) = some (.int ((row[c.toNat]?).getD 0)) := row_at hb.1 hb.2
      have w1 : decide ((wy false : Str) = "least") = true := decide_eq_true rfl
      have w2 : decide ((wy false : Str) = "most") = false := decide_eq_false wy_ne2
      have w3 : decide ((wy true : Str) = "least") = false := decide_eq_false wy_ne
      have w4 : decide ((wy true : Str) = "most") = true := decide_eq_true rfl
      show zA _ _ (.tuple [.int c, .str (wy m), .int v]) _ _
      repeat fail "s"
      cases m with
      | false =>
        try rw [w1]
        repeat fail "s"
        refine q_idx hx ?_
        repeat fail "s"
        have em : mbI row (c, false, v) = decide (v ≤ (row[c.toNat]?).getD 0) := rfl
        generalize hq : decide ((row[c.toNat]?).getD 0 < v) = q
        cases q with
        | true =>
          have hl := of_decide_eq_true hq
          repeat fail "s"
          have : mbI row (c, false, v) = false := by rw [em, decide_eq_false_iff_not]; omega
          first | exact ⟨by rw [ef this], rfl⟩ | rw [ef this]
        | false =>
          have hl := of_decide_eq_false hq
          repeat fail "s"
          try rw [w2]
          repeat fail "s"
          exact ⟨⟨_, _, _, rfl⟩, by rw [et, em, decide_eq_true_iff]; omega⟩
      | true =>
        try rw [w3]
        repeat fail "s"
        try rw [w4]
        repeat fail "s"
        refine q_idx hx ?_
        repeat fail "s"
        have em : mbI row (c, true, v) = decide ((row[c.toNat]?).getD 0 ≤ v) := rfl
        generalize hq : decide ((row[c.toNat]?).getD 0 > v) = q
        cases q with
        | true =>
          have hl := of_decide_eq_true hq
          repeat fail "s"
          have : mbI row (c, true, v) = false := by rw [em, decide_eq_false_iff_not]; omega
          first | exact ⟨by rw [ef this], rfl⟩ | rw [ef this]
        | false =>
          have hl := of_decide_eq_false hq
          repeat fail "s"
          exact ⟨⟨_, _, _, rfl⟩, by rw [et, em, decide_eq_true_iff]; omega⟩
    · rintro E ⟨⟨u2, u3, u4, rfl⟩, h1⟩
      rw [List.take_length] at h1
      refine ⟨rfl, ?_⟩
      repeat fail "s"
      first | exact ⟨by rw [h1], rfl⟩ | rw [h1]
  · show WB ⟨callDD T k, T.I⟩ [1] _ [some (.fz (rowD row)), some (.own (.list (ws.map bdD))), none, none, none] (zF [1] 2 _)
    repeat fail "s"
    refine ex_for ?_
    repeat fail "s"
    refine efor (N := ws.length) (fun i E => (∃ u2 u3 u4, E = [some (.fz (rowD row)), some (.own (.list (ws.map bdD))), u2, u3, u4]) ∧ (ws.take i).all (mbI row) = true) (by simp [Wd.n, Src.n]) ⟨⟨_, _, _, rfl⟩, by simp⟩ ?_ ?_
    · rintro i E hi ⟨⟨u2, u3, u4, rfl⟩, h1⟩
      have hb := hr ws[i] (List.getElem_mem hi)
      have et : (ws.take (i + 1)).all (mbI row) = mbI row ws[i] := by
        rw [List.take_add_one, List.getElem?_eq_getElem hi, List.all_append, h1]; simp
      have ef : mbI row ws[i] = false → ws.all (mbI row) = false := fun h => by
        rw [List.all_eq_false]
        exact ⟨ws[i], List.getElem_mem hi, by rw [h]; exact Bool.false_ne_true⟩
      refine ⟨bdD ws[i], ?_, ?_⟩
      · refine (at_var rfl i : _ = (ws.map bdD)[i]?).trans ?_
        rw [List.getElem?_map, List.getElem?_eq_getElem hi]; rfl
      generalize ws[i] = b at *
      obtain ⟨c, m, v⟩ := b
      have hx : indexD (.tuple (row.map .int)) (.int c) = some (.int ((row[c.toNat]?).getD 0)) := row_at hb.1 hb.2
      have w1 : decide ((wy false : Str) = "least") = true := decide_eq_true rfl
      have w2 : decide ((wy false : Str) = "most") = false := decide_eq_false wy_ne2
      have w3 : decide ((wy true : Str) = "least") = false := decide_eq_false wy_ne
      have w4 : decide ((wy true : Str) = "most") = true := decide_eq_true rfl
      show zA _ _ (.tuple [.int c, .str (wy m), .int v]) _ _
      repeat fail "s"
      cases m with
      | false =>
        try rw [w1]
        repeat fail "s"
        refine q_idx hx ?_
        repeat fail "s"
        have em : mbI row (c, false, v) = decide (v ≤ (row[c.toNat]?).getD 0) := rfl
        generalize hq : decide ((row[c.toNat]?).getD 0 < v) = q
        cases q with
        | true =>
          have hl := of_decide_eq_true hq
          repeat fail "s"
          have : mbI row (c, false, v) = false := by rw [em, decide_eq_false_iff_not]; omega
          first | exact ⟨by rw [ef this], rfl⟩ | rw [ef this]
        | false =>
          have hl := of_decide_eq_false hq
          repeat fail "s"
          try rw [w2]
          repeat fail "s"
          exact ⟨⟨_, _, _, rfl⟩, by rw [et, em, decide_eq_true_iff]; omega⟩
      | true =>
        try rw [w3]
        repeat fail "s"
        try rw [w4]
        repeat fail "s"
        refine q_idx hx ?_
        repeat fail "s"
        have em : mbI row (c, true, v) = decide ((row[c.toNat]?).getD 0 ≤ v) := rfl
        generalize hq : decide ((row[c.toNat]?).getD 0 > v) = q
        cases q with
        | true =>
          have hl := of_decide_eq_true hq
          repeat fail "s"
          have : mbI row (c, true, v) = false := by rw [em, decide_eq_false_iff_not]; omega
          first | exact ⟨by rw [ef this], rfl⟩ | rw [ef this]
        | false =>
          have hl := of_decide_eq_false hq
          repeat fail "s"
          exact ⟨⟨_, _, _, rfl⟩, by rw [et, em, decide_eq_true_iff]; omega⟩
    · rintro E ⟨⟨u2, u3, u4, rfl⟩, h1⟩
      rw [List.take_length] at h1
      refine ⟨ends_var rfl, ?_⟩
      repeat fail "s"
      first | exact ⟨by rw [h1], rfl⟩ | rw [h1]

theorem ixL {xs : List Int} {k : Int} (h0 : 0 ≤ k) (h1 : k < xs.length) : ∃ x ∈ xs, indexD (.list (xs.map .int)) (.int k) = some (.int x) := by
  have hk : k.toNat < xs.length := by omega
  refine ⟨xs[k.toNat], List.getElem_mem hk, ?_⟩
  show atI (xs.map PyData.int) k = _
  unfold atI ixN
  rw [List.length_map, if_pos h0, if_pos h1]
  show (xs.map PyData.int)[k.toNat]? = _
  rw [List.getElem?_map, List.getElem?_eq_getElem hk]; rfl
theorem q_ints {xs : List Int} {k : Int} {K : PyData → Prop} (h0 : 0 ≤ k) (h1 : k < xs.length) (h : ∀ x ∈ xs, K (.int x)) : IdxQ (.list (xs.map .int)) (.int k) K := by
  obtain ⟨x, hx, e⟩ := ixL h0 h1
  exact ⟨_, e, h x hx⟩
theorem q_slc {d : PyData} {lo hi : Option Int} {r : Re} {K : Re → Prop} (e : sliceD d lo hi = some r) (h : K r) : SlcQ d lo hi K := ⟨r, e, h⟩
theorem q_notin {x : PyData} {ds : List PyData} {K : Re → Prop} (hx : SeqAt.shaped x = true) (hd : SeqAt.shaped (.list ds) = true) (h : ∀ q, K (.fz (.bool q))) : OpQ .notin x (.list ds) K :=
  ⟨_, by show (inP x (.list ds)).map _ = _; unfold inP; rw [if_pos ⟨hx, hd⟩]; rfl, h _⟩
theorem q_in {x : PyData} {ds : List PyData} {K : Re → Prop} (hx : SeqAt.shaped x = true) (hd : SeqAt.shaped (.list ds) = true) (h : ∀ q, K (.fz (.bool q))) : OpQ .in_ x (.list ds) K :=
  ⟨_, by show (inP x (.list ds)).map _ = _; unfold inP; rw [if_pos ⟨hx, hd⟩]; rfl, h _⟩
def Far (v : Int) : Prop := -1000000000000000000 ≤ v ∧ v ≤ 1000000000000000000
theorem wide_cp {T : Pr} (hT : T.lookup "_law_wide_value" = some (3, B._law_wide_value)) (hK : T.lookup "_law_take" = some (6, B._law_take)) {k n : Nat} {d : PyData} (G : Bag d n) (hn : n < 2 ^ 90) :
    cp T (k + 2) "_law_wide_value" [.own d] fun r os => ∃ v d', r = .fz (.int v) ∧ os = [some (.own d')] ∧ Far v ∧ Bag d' (n + 6) := by
  refine ecp_of hT ?_
  show WB ⟨callDD T (k + 1), T.I⟩ [0] _ [some (.own d), none, none] (zF [0] 1 _)
  repeat fail "s"
  refine c_take hK rfl G (by omega) (by omega) (by omega) fun v1 d1 a1 b1 G1 => ?_
  repeat fail "s"
  refine c_take hK rfl G1 (by omega) (by omega) (by omega) fun v2 d2 a2 b2 G2 => ?_
  repeat fail "s"
  refine c_take hK rfl G2 (by omega) (by omega) (by omega) fun v3 d3 a3 b3 G3 => ?_
  repeat fail "s"
  refine c_take hK rfl G3 (by omega) (by omega) (by omega) fun v4 d4 a4 b4 G4 => ?_
  repeat fail "s"
  refine c_take hK rfl G4 (by omega) (by omega) (by omega) fun v5 d5 a5 b5 G5 => ?_
  repeat fail "s"
  refine c_take hK rfl G5 (by omega) (by omega) (by omega) fun v6 d6 a6 b6 G6 => ?_
  repeat fail "s"
  refine q_ints (xs := [v1 + -2, v2 + -2, 1000000000000000000 + -v3, v4 + -1000000000000000000, v5 + -1000000000000000000]) a6 b6 fun x hx => ?_
  repeat fail "s"
  refine ⟨_, _, rfl, rfl, ?_, G6⟩
  unfold Far
  simp only [List.mem_cons, List.not_mem_nil, or_false] at hx
  omega
theorem shaped_nl {ds : List PyData} {w dp : Nat} (n : NiceL ds w dp) (h : dp ≤ 63) : SeqAt.shaped (.list ds) = true := (nice_lst n).shaped (by omega)
theorem nice_way (m : Bool) : Nice (.str (wy m)) 5 0 := by cases m <;> exact nice_str (by decide +kernel) (by decide +kernel)
theorem nice_cw (c : Int) (m : Bool) (h : c.natAbs < 10 ^ 40) : Nice (.tuple [.int c, .str (wy m)]) 141 1 := (nice_tup (nl_cons (nice_int h) (nl_cons (nice_way m) nl_nil))).mono (by omega) (by omega)
theorem nice_bd (b : Bd) (h : b.1.natAbs < 10 ^ 40) (h2 : Far b.2.2) : Nice (bdD b) 276 1 := (nice_tup (nl_cons (nice_int h) (nl_cons (nice_way b.2.1) (nl_cons (nice_int (by unfold Far at h2; omega)) nl_nil)))).mono (by omega) (by omega)
def Bds (row : List Int) (ws : List Bd) : Prop := ∀ b ∈ ws, InR row b ∧ Far b.2.2
theorem Bds.nl {row : List Int} {ws : List Bd} (hl : row.length < 1000) (h : Bds row ws) : NiceL (ws.map bdD) (ws.length * 277) 1 := by
  have := nl_all (ds := ws.map bdD) (w := 276) (dp := 1) fun d hd => by
    obtain ⟨b, hb, rfl⟩ := List.mem_map.mp hd
    have := (h b hb).1
    unfold InR at this
    exact nice_bd b (by omega) (h b hb).2
  rwa [List.length_map] at this
theorem row_mem {row : List Int} {c : Int} (h0 : 0 ≤ c) (h1 : c < row.length) : (row[c.toNat]?).getD 0 ∈ row := by
  have hc : c.toNat < row.length := by omega
  rw [List.getElem?_eq_getElem hc]
  exact List.getElem_mem hc
end HI

set_option maxRecDepth 100000
namespace B
open PySem L2 HI
def settled : Sms := (.cons (.asg (.nm 3) (.cst (.int (0)))) (.cons (.asg (.nm 4) (.cst .non)) (.cons (.for_ (.tp [5, 6]) (.seq (.bcall "sortzip" (.cons (.slot 2) (.cons (.slot 0) .nil)))) (.cons (.ite (.bin .is_ (.slot 4) (.cst .non)) (.cons (.aug 3 .add (.slot 6)) (.cons (.ite (.bin .ge (.slot 3) (.slot 1)) (.cons (.asg (.nm 4) (.slot 5)) .nil) .nil) .nil)) .nil) .nil)) (.cons (.ret (.slot 4)) .nil))))
def settle : Sms := (.cons (.asg (.nm 2) (.meth "weights" "weights" (.slot 0) .nil)) (.cons (.asg (.nm 3) (.lst .nil)) (.cons (.for_ (.tp [4, 5]) (.enum (.meth "quotas" "quotas" (.slot 0) .nil)) (.cons (.ex (.meth "append" "append" (.slot 3) (.cons (.call "settled" (.cons (.slot 2) (.cons (.slot 5) (.cons (.comp [6] (.nm 6) (.seq (.slot 1)) (.cst (.bl true)) (.idx (.slot 6) (.slot 4))) .nil)))) .nil))) .nil)) (.cons (.ret (.bcall "tuple" (.cons (.slot 3) .nil))) .nil))))
def is_integer : Sms := (.cons (.ret (.and (.bcall "is int" (.cons (.slot 0) .nil)) (.not (.bcall "is bool" (.cons (.slot 0) .nil))))) .nil)
def is_between : Sms := (.cons (.ret (.and (.call "is_integer" (.cons (.slot 0) .nil)) (.chain .le .le (.slot 1) (.slot 0) (.slot 2)))) .nil)
def are_weights : Sms := (.cons (.ite (.or (.not (.bcall "is list" (.cons (.slot 0) .nil))) (.not (.chain .le .le (.cst (.int (2))) (.bcall "len" (.cons (.slot 0) .nil)) (.cst (.int (7)))))) (.cons (.ret (.cst (.bl false))) .nil) .nil) (.cons (.ret (.bcall "all" (.cons (.comp [1] (.nm 1) (.seq (.slot 0)) (.cst (.bl true)) (.call "is_between" (.cons (.slot 1) (.cons (.cst (.int (1))) (.cons (.cst (.int (1000000))) .nil))))) .nil))) .nil))
def are_quotas : Sms := (.cons (.ite (.or (.not (.bcall "is list" (.cons (.slot 0) .nil))) (.not (.chain .le .le (.cst (.int (1))) (.bcall "len" (.cons (.slot 0) .nil)) (.cst (.int (6)))))) (.cons (.ret (.cst (.bl false))) .nil) .nil) (.cons (.ret (.bcall "all" (.cons (.comp [2] (.nm 2) (.seq (.slot 0)) (.cst (.bl true)) (.call "is_between" (.cons (.slot 2) (.cons (.cst (.int (1))) (.cons (.slot 1) .nil))))) .nil))) .nil))
def Council_dot___init__ : Sms := (.cons (.ite (.not (.call "are_weights" (.cons (.slot 1) .nil))) (.cons .never .nil) .nil) (.cons (.ite (.not (.call "are_quotas" (.cons (.slot 2) (.cons (.bcall "sum" (.cons (.slot 1) .nil)) .nil)))) (.cons .never .nil) .nil) (.cons (.asgFld (.slot 0) "seat_weights" (.bcall "list" (.cons (.slot 1) .nil))) (.cons (.asgFld (.slot 0) "column_quotas" (.bcall "list" (.cons (.slot 2) .nil))) .nil))))
def Council_dot_weights : Sms := (.cons (.ret (.bcall "list" (.cons (.fld (.slot 0) "seat_weights") .nil))) .nil)
def Council_dot_quotas : Sms := (.cons (.ret (.bcall "list" (.cons (.fld (.slot 0) "column_quotas") .nil))) .nil)
def Council_dot_total : Sms := (.cons (.ret (.bcall "sum" (.cons (.fld (.slot 0) "seat_weights") .nil))) .nil)
def Council_dot_width : Sms := (.cons (.ret (.bcall "len" (.cons (.fld (.slot 0) "column_quotas") .nil))) .nil)
def Council_dot___len__ : Sms := (.cons (.ret (.bcall "len" (.cons (.fld (.slot 0) "seat_weights") .nil))) .nil)
def _law_council : Sms := (.cons (.par [7, 8] (.cons (.bin .add (.cst (.int (2))) (.call "_law_take" (.cons (.slot 0) (.cons (.bin .sub (.slot 2) (.cst (.int (1)))) .nil)))) (.cons (.call "_law_take" (.cons (.slot 0) (.cons (.cst (.int (5))) .nil))) .nil))) (.cons (.asg (.nm 3) (.comp [10] (.nm 10) (.rng1 (.slot 7)) (.cst (.bl true)) (.bin .add (.cst (.int (1))) (.call "_law_take" (.cons (.slot 0) (.cons (.idx (.lst (.cons (.cst (.int (1))) (.cons (.cst (.int (1))) (.cons (.cst (.int (2))) (.cons (.cst (.int (5))) (.cons (.cst (.int (1000000))) .nil)))))) (.slot 8)) .nil)))))) (.cons (.asg (.nm 4) (.bcall "sum" (.cons (.slot 3) .nil))) (.cons (.asg (.nm 5) (.lst .nil)) (.cons (.for_ (.nm 6) (.rng1 (.slot 1)) (.cons (.asg (.nm 9) (.lst (.cons (.bin .add (.bin .fdiv (.slot 4) (.cst (.int (2)))) (.cst (.int (1)))) (.cons (.bin .add (.cst (.int (1))) (.call "_law_take" (.cons (.slot 0) (.cons (.slot 4) .nil)))) (.cons (.cst (.int (1))) (.cons (.slot 4) .nil)))))) (.cons (.ex (.meth "append" "append" (.slot 5) (.cons (.idx (.slot 9) (.bin .mul (.bcall "max" (.cons (.cst (.int (0))) (.cons (.bin .sub (.call "_law_take" (.cons (.slot 0) (.cons (.cst (.int (6))) .nil))) (.cst (.int (2)))) .nil))) (.bcall "int" (.cons (.bin .gt (.slot 8) (.cst (.int (0)))) .nil)))) .nil))) .nil))) (.cons (.ret (.tup (.cons (.slot 3) (.cons (.slot 5) .nil)))) .nil))))))
def _law_made : Sms := (.cons (.ret (.mk 0 (.cons (.bcall "list" (.cons (.idx (.slot 0) (.cst (.int (0)))) .nil)) (.cons (.bcall "list" (.cons (.idx (.slot 0) (.cst (.int (1)))) .nil)) .nil)))) .nil)
def _law_value : Sms := (.cons (.asg (.nm 1) (.call "_law_take" (.cons (.slot 0) (.cons (.cst (.int (4))) .nil)))) (.cons (.ite (.bin .lt (.slot 1) (.cst (.int (2)))) (.cons (.ret (.bin .sub (.call "_law_take" (.cons (.slot 0) (.cons (.cst (.int (7))) .nil))) (.cst (.int (3))))) .nil) .nil) (.cons (.asg (.nm 2) (.lst (.cons (.bin .sub (.bin .pow (.cst (.int (10))) (.cst (.int (18)))) (.call "_law_take" (.cons (.slot 0) (.cons (.cst (.int (5))) .nil)))) (.cons (.bin .sub (.call "_law_take" (.cons (.slot 0) (.cons (.bin .add (.bin .mul (.cst (.int (2))) (.bin .pow (.cst (.int (10))) (.cst (.int (18))))) (.cst (.int (1)))) .nil))) (.bin .pow (.cst (.int (10))) (.cst (.int (18))))) .nil)))) (.cons (.ret (.bin .mul (.idx (.slot 2) (.bin .sub (.slot 1) (.cst (.int (2))))) (.idx (.lst (.cons (.cst (.int (1))) (.cons (.neg (.cst (.int (1)))) .nil))) (.call "_law_take" (.cons (.slot 0) (.cons (.cst (.int (2))) .nil)))))) .nil))))
def _law_seat_rows : Sms := (.cons (.par [4, 5] (.cons (.idx (.lst (.cons (.cst (.int (1))) (.cons (.cst (.int (3))) (.cons (.cst (.int (0))) .nil)))) (.call "_law_take" (.cons (.slot 0) (.cons (.cst (.int (3))) .nil)))) (.cons (.lst .nil) .nil))) (.cons (.for_ (.nm 3) (.rng1 (.slot 2)) (.cons (.asg (.nm 6) (.bcall "tuple" (.cons (.comp [7] (.nm 7) (.rng1 (.slot 1)) (.cst (.bl true)) (.ite (.bin .gt (.slot 4) (.cst (.int (0)))) (.call "_law_take" (.cons (.slot 0) (.cons (.bin .add (.slot 4) (.cst (.int (1)))) .nil))) (.call "_law_value" (.cons (.slot 0) .nil)))) .nil))) (.cons (.ite (.and (.bin .ne (.slot 5) (.lst .nil)) (.bin .eq (.call "_law_take" (.cons (.slot 0) (.cons (.cst (.int (4))) .nil))) (.cst (.int (0))))) (.cons (.asg (.nm 6) (.idx (.slot 5) (.call "_law_take" (.cons (.slot 0) (.cons (.bcall "len" (.cons (.slot 5) .nil)) .nil))))) .nil) .nil) (.cons (.ex (.meth "append" "append" (.slot 5) (.cons (.slot 6) .nil))) .nil)))) (.cons (.ret (.slot 5)) .nil)))
def _law_due : Sms := (.cons (.asg (.tp [4, 5]) (.slot 0)) (.cons (.asg (.nm 2) (.lst .nil)) (.cons (.for_ (.nm 3) (.rng1 (.bcall "len" (.cons (.slot 5) .nil))) (.cons (.asg (.nm 6) (.lst .nil)) (.cons (.for_ (.nm 7) (.seq (.comp [8] (.nm 8) (.seq (.slot 1)) (.cst (.bl true)) (.idx (.slot 8) (.slot 3)))) (.cons (.ite (.bin .ge (.bcall "sum" (.cons (.comp [9] (.nm 9) (.rng1 (.bcall "len" (.cons (.slot 4) .nil))) (.bin .le (.idx (.idx (.slot 1) (.slot 9)) (.slot 3)) (.slot 7)) (.idx (.slot 4) (.slot 9))) .nil)) (.idx (.slot 5) (.slot 3))) (.cons (.ex (.meth "append" "append" (.slot 6) (.cons (.slot 7) .nil))) .nil) .nil) .nil)) (.cons (.ex (.meth "append" "append" (.slot 2) (.cons (.bcall "min" (.cons (.slot 6) .nil)) .nil))) .nil)))) (.cons (.ret (.bcall "tuple" (.cons (.slot 2) .nil))) .nil))))
def law_k24 : Sms := (.cons (.asg (.nm 1) (.call "_law_bag" (.cons (.slot 0) .nil))) (.cons (.asg (.nm 2) (.bin .add (.cst (.int (1))) (.call "_law_take" (.cons (.slot 1) (.cons (.cst (.int (6))) .nil))))) (.cons (.asg (.nm 3) (.comp [10] (.nm 10) (.rng1 (.cst (.int (2)))) (.cst (.bl true)) (.call "_law_council" (.cons (.slot 1) (.cons (.slot 2) (.cons (.cst (.int (7))) .nil)))))) (.cons (.asg (.nm 4) (.comp [11] (.nm 11) (.seq (.slot 3)) (.cst (.bl true)) (.call "_law_made" (.cons (.slot 11) .nil)))) (.cons (.asg (.nm 5) (.lst .nil)) (.cons (.for_ (.nm 6) (.rng1 (.cst (.int (4)))) (.cons (.asg (.nm 7) (.call "_law_take" (.cons (.slot 1) (.cons (.cst (.int (2))) .nil)))) (.cons (.ex (.meth "append" "append" (.slot 5) (.cons (.tup (.cons (.slot 7) (.cons (.call "_law_seat_rows" (.cons (.slot 1) (.cons (.slot 2) (.cons (.bcall "len" (.cons (.idx (.idx (.slot 3) (.slot 7)) (.cst (.int (0)))) .nil)) .nil)))) .nil))) .nil))) .nil))) (.cons (.for_ (.tp [7, 8]) (.seq (.bin .add (.slot 5) (.bcall "[::-1]" (.cons (.slot 5) .nil)))) (.cons (.asg (.nm 9) (.bcall "list" (.cons (.slot 8) .nil))) (.cons (.ite (.or (.not (.call "_law_alike" (.cons (.call "settle" (.cons (.idx (.slot 4) (.slot 7)) (.cons (.slot 9) .nil))) (.cons (.call "_law_due" (.cons (.idx (.slot 3) (.slot 7)) (.cons (.slot 8) .nil))) .nil)))) (.bin .ne (.slot 9) (.slot 8))) (.cons (.ret (.cst (.bl false))) .nil) .nil) (.cons (.asgSub (.slot 9) (.call "_law_take" (.cons (.slot 1) (.cons (.bcall "len" (.cons (.slot 9) .nil)) .nil))) (.idx (.slot 9) (.cst (.int (0))))) (.cons (.asgSub (.slot 9) (.cst (.int (0))) (.idx (.slot 8) (.neg (.cst (.int (1)))))) (.cons (.ite (.not (.call "_law_alike" (.cons (.call "settle" (.cons (.idx (.slot 4) (.slot 7)) (.cons (.slot 9) .nil))) (.cons (.call "_law_due" (.cons (.idx (.slot 3) (.slot 7)) (.cons (.slot 9) .nil))) .nil)))) (.cons (.ret (.cst (.bl false))) .nil) .nil) (.cons (.ex (.meth "clear" "clear" (.slot 9) .nil)) .nil))))))) (.cons (.ret (.bcall "all" (.cons (.comp [11, 12] (.tp [11, 12]) (.zip (.slot 4) (.slot 3)) (.cst (.bl true)) (.call "_law_alike" (.cons (.lst (.cons (.meth "weights" "weights" (.slot 11) .nil) (.cons (.meth "quotas" "quotas" (.slot 11) .nil) .nil))) (.cons (.bcall "list" (.cons (.slot 12) .nil)) .nil)))) .nil))) .nil))))))))
end B
namespace K24
open PySem L2 HI
def CT : List Ci := [⟨"Council", "Council", 2, ["weights", "quotas", "total", "width"], ["seat_weights", "column_quotas"]⟩]
def tab : List (String × Nat × Sms) := [("settled", 7, B.settled), ("settle", 7, B.settle), ("is_integer", 1, B.is_integer), ("is_between", 3, B.is_between), ("are_weights", 2, B.are_weights), ("are_quotas", 3, B.are_quotas), ("Council.__init__", 3, B.Council_dot___init__), ("Council.weights", 1, B.Council_dot_weights), ("Council.quotas", 1, B.Council_dot_quotas), ("Council.total", 1, B.Council_dot_total), ("Council.width", 1, B.Council_dot_width), ("Council.__len__", 1, B.Council_dot___len__), ("_law_bag", 2, B._law_bag), ("_law_take", 6, B._law_take), ("_law_alike", 2, B._law_alike), ("_law_council", 11, B._law_council), ("_law_made", 1, B._law_made), ("_law_value", 3, B._law_value), ("_law_seat_rows", 8, B._law_seat_rows), ("_law_due", 10, B._law_due), ("law", 13, B.law_k24)]
def pr : Pr := ⟨tab, CT⟩
theorem l_settled : pr.lookup "settled" = some (7, B.settled) := by rfl
theorem l_settle : pr.lookup "settle" = some (7, B.settle) := by rfl
theorem l_is_integer : pr.lookup "is_integer" = some (1, B.is_integer) := by rfl
theorem l_is_between : pr.lookup "is_between" = some (3, B.is_between) := by rfl
theorem l_are_weights : pr.lookup "are_weights" = some (2, B.are_weights) := by rfl
theorem l_are_quotas : pr.lookup "are_quotas" = some (3, B.are_quotas) := by rfl
theorem l_Council_dot___init__ : pr.lookup "Council.__init__" = some (3, B.Council_dot___init__) := by rfl
theorem l_Council_dot_weights : pr.lookup "Council.weights" = some (1, B.Council_dot_weights) := by rfl
theorem l_Council_dot_quotas : pr.lookup "Council.quotas" = some (1, B.Council_dot_quotas) := by rfl
theorem l_Council_dot_total : pr.lookup "Council.total" = some (1, B.Council_dot_total) := by rfl
theorem l_Council_dot_width : pr.lookup "Council.width" = some (1, B.Council_dot_width) := by rfl
theorem l_Council_dot___len__ : pr.lookup "Council.__len__" = some (1, B.Council_dot___len__) := by rfl
theorem l__law_bag : pr.lookup "_law_bag" = some (2, B._law_bag) := by rfl
theorem l__law_take : pr.lookup "_law_take" = some (6, B._law_take) := by rfl
theorem l__law_alike : pr.lookup "_law_alike" = some (2, B._law_alike) := by rfl
theorem l__law_council : pr.lookup "_law_council" = some (11, B._law_council) := by rfl
theorem l__law_made : pr.lookup "_law_made" = some (1, B._law_made) := by rfl
theorem l__law_value : pr.lookup "_law_value" = some (3, B._law_value) := by rfl
theorem l__law_seat_rows : pr.lookup "_law_seat_rows" = some (8, B._law_seat_rows) := by rfl
theorem l__law_due : pr.lookup "_law_due" = some (10, B._law_due) := by rfl
theorem l_law : pr.lookup "law" = some (13, B.law_k24) := by rfl
end K24

set_option maxRecDepth 100000
set_option maxHeartbeats 1000000
/-! a session's row, by numbers -/
namespace HI
open PySem L2 SrtO
def walkI (q : Int) : List (Int × Int) → Int → Option Int
  | [], _ => none
  | p :: ps, r => if q ≤ r + p.2 then some p.1 else walkI q ps (r + p.2)
def wsum (e : Int) (ps : List (Int × Int)) : Int := ((ps.filter fun p => decide (p.1 ≤ e)).map (·.2)).sum
theorem wsum_nn {e : Int} : ∀ {ps : List (Int × Int)}, (∀ p ∈ ps, 0 ≤ p.2) → 0 ≤ wsum e ps
  | [], _ => Int.le_refl _
  | p :: ps, h => by
    have ih := wsum_nn (e := e) fun x hx => h x (List.mem_cons_of_mem _ hx)
    have h0 := h p List.mem_cons_self
    unfold wsum at *
    by_cases c : p.1 ≤ e
    · rw [List.filter_cons_of_pos (by simpa using c), List.map_cons, List.sum_cons]; omega
    · rw [List.filter_cons_of_neg (by simpa using c)]; exact ih
theorem wsum_cons {e : Int} {p : Int × Int} {ps : List (Int × Int)} : wsum e (p :: ps) = (if p.1 ≤ e then p.2 else 0) + wsum e ps := by
  unfold wsum
  by_cases c : p.1 ≤ e
  · rw [List.filter_cons_of_pos (by simpa using c), List.map_cons, List.sum_cons, if_pos c]
  · rw [List.filter_cons_of_neg (by simpa using c), if_neg c]; omega
theorem wsum_lt {e : Int} : ∀ {ps : List (Int × Int)}, (∀ p ∈ ps, e < p.1) → wsum e ps = 0
  | [], _ => rfl
  | p :: ps, h => by
    have h0 := h p List.mem_cons_self
    rw [wsum_cons, if_neg (by omega), wsum_lt fun x hx => h x (List.mem_cons_of_mem _ hx)]; rfl
theorem walk_ok {q : Int} : ∀ (ps : List (Int × Int)) (r : Int), ps.Pairwise (fun a b => a.1 ≤ b.1) → (∀ p ∈ ps, 0 ≤ p.2) → r < q → q ≤ r + (ps.map (·.2)).sum →
    ∃ e, walkI q ps r = some e ∧ e ∈ ps.map (·.1) ∧ q ≤ r + wsum e ps ∧ ∀ e', q ≤ r + wsum e' ps → e ≤ e'
  | [], r, _, _, h1, h2 => by rw [List.map_nil, List.sum_nil] at h2; omega
  | p :: ps, r, hs, hn, h1, h2 => by
    have hn' : ∀ x ∈ ps, 0 ≤ x.2 := fun x hx => hn x (List.mem_cons_of_mem _ hx)
    have hp := hn p List.mem_cons_self
    rw [List.pairwise_cons] at hs
    unfold walkI
    by_cases c : q ≤ r + p.2
    · refine ⟨p.1, if_pos c, List.mem_cons_self, ?_, fun e' he => ?_⟩
      · have := wsum_nn (e := p.1) hn'
        rw [wsum_cons, if_pos (Int.le_refl _)]; omega
      · apply Classical.byContradiction
        intro hc
        rw [wsum_lt (e := e')] at he
        · omega
        · intro x hx
          rcases List.mem_cons.mp hx with rfl | hx
          · omega
          · have := hs.1 x hx; omega
    · rw [if_neg c]
      rw [List.map_cons, List.sum_cons] at h2
      obtain ⟨e, k1, k2, k3, k4⟩ := walk_ok (q := q) ps (r + p.2) hs.2 hn' (by omega) (by omega)
      obtain ⟨x, hx, rfl⟩ := List.mem_map.mp k2
      have hle := hs.1 x hx
      refine ⟨x.1, k1, List.mem_cons_of_mem _ k2, ?_, fun e' he => ?_⟩
      · rw [wsum_cons, if_pos hle]; omega
      · rw [wsum_cons] at he
        by_cases c2 : p.1 ≤ e'
        · rw [if_pos c2] at he
          exact k4 e' (by omega)
        · rw [if_neg c2] at he
          have hz : wsum e' ps = 0 := wsum_lt fun y hy => by have := hs.1 y hy; omega
          omega
theorem sum_perm {l l' : List Int} (p : l.Perm l') : l.sum = l'.sum := by
  induction p with
  | nil => rfl
  | cons x _ ih => rw [List.sum_cons, List.sum_cons, ih]
  | swap x y l => rw [List.sum_cons, List.sum_cons, List.sum_cons, List.sum_cons]; omega
  | trans _ _ i1 i2 => exact i1.trans i2
theorem wsum_perm {e : Int} {ps ps' : List (Int × Int)} (p : ps.Perm ps') : wsum e ps = wsum e ps' := sum_perm ((p.filter _).map _)
/-! the pairs, sorted -/
def prD (p : Int × Int) : PyData := .tuple [.int p.1, .int p.2]
def prKey (p : Int × Int) : List Kit := [.inl p.1, .inl p.2]
def ltP (a b : Int × Int) : Bool := PyProof.Rows.lexLt PyProof.Rows.itemOrd (prKey a) (prKey b)
def sortP (ps : List (Int × Int)) : List (Int × Int) := isort ltP ps
def shP : Nat → Bool := shapeD [.int 0, .int 0]
theorem shape_pr (p : Int × Int) : shapeD [.int p.1, .int p.2] = shP := by
  funext i
  match i with
  | 0 => rfl
  | 1 => rfl
  | n + 2 => rfl
theorem sort_prs {ps : List (Int × Int)} : sortD (ps.map prD) = some ((sortP ps).map prD) := by
  cases ps with
  | nil => rfl
  | cons b r =>
    unfold sortD
    have n1 : ¬ ((b :: r).map prD).all isID = true := by
      intro h
      have := List.all_eq_true.mp h (prD b) (by simp)
      cases this
    rw [if_neg n1]
    have hk : ((b :: r).map prD).all (hasKD (shapeD [.int b.1, .int b.2])) = true := by
      rw [shape_pr, List.all_eq_true]
      intro d hd
      obtain ⟨x, _, rfl⟩ := List.mem_map.mp hd
      rfl
    show (if ((b :: r).map prD).all (hasKD (shapeD [.int b.1, .int b.2])) = true then some (isort (ltD (shapeD [.int b.1, .int b.2])) ((b :: r).map prD)) else none) = _
    rw [if_pos hk, shape_pr, isort_map]
    rfl
theorem swo_ltP : Swo ltP := HI.Swo.of swo_lexI prKey
theorem ltP_lt {a b : Int × Int} (h : b.1 < a.1) : ltP b a = true := by
  unfold ltP prKey
  simp [PyProof.Rows.lexLt, PyProof.Rows.itemOrd, PyProof.Rows.itemLt, h]
theorem sortP_asc (ps : List (Int × Int)) : (sortP ps).Pairwise (fun a b => a.1 ≤ b.1) := by
  refine (isort_sorted swo_ltP ps).imp fun {a b} h => ?_
  apply Classical.byContradiction
  intro hc
  rw [ltP_lt (by omega)] at h
  cases h
theorem zipW_map {es ws : List Int} : List.zipWith (fun x y => PyData.tuple [x, y]) (es.map .int) (ws.map .int) = (es.zip ws).map prD := by
  rw [List.zipWith_map]
  rw [List.zip, List.map_zipWith]
  rfl
theorem q_sz {es ws : List Int} {K : Re → Prop} (h : K (.own (.list ((sortP (es.zip ws)).map prD)))) : BfnQ "sortzip" [.list (es.map .int), .list (ws.map .int)] K :=
  ⟨_, by show (sortD (List.zipWith (fun x y => PyData.tuple [x, y]) (es.map .int) (ws.map .int))).map _ = _; rw [zipW_map, sort_prs]; rfl, h⟩
/-! one column's entry -/
def setI (ws : List Int) (q : Int) (es : List Int) : Int := (walkI q (sortP (es.zip ws)) 0).getD 0
def dueI (ws : List Int) (q : Int) (es : List Int) : List Int := es.filter fun e => decide (q ≤ wsum e (es.zip ws))
theorem minI_eq {l : List Int} {e : Int} (h : e ∈ l) (k : ∀ x ∈ l, e ≤ x) : minI l = some e := by
  induction l generalizing e with
  | nil => cases h
  | cons x r ih =>
    unfold minI
    cases hr : minI r with
    | none =>
      have : r = [] := by
        cases r with
        | nil => rfl
        | cons y r =>
          exfalso
          unfold minI at hr
          split at hr <;> cases hr
      subst this
      rw [List.mem_singleton.mp h]
    | some m =>
      have hm : m ∈ r ∧ ∀ y ∈ r, m ≤ y := by
        have key : ∀ (l : List Int) (m : Int), minI l = some m → m ∈ l ∧ ∀ y ∈ l, m ≤ y := by
          intro l
          induction l with
          | nil => intro m h; cases h
          | cons z l ihl =>
            intro m h
            unfold minI at h
            cases hz : minI l with
            | none =>
              rw [hz] at h
              cases h
              have : l = [] := by
                cases l with
                | nil => rfl
                | cons y r =>
                  exfalso
                  unfold minI at hz
                  split at hz <;> cases hz
              subst this
              exact ⟨List.mem_singleton.mpr rfl, fun y hy => by rw [List.mem_singleton.mp hy]; exact Int.le_refl _⟩
            | some n =>
              rw [hz] at h
              obtain ⟨h1, h2⟩ := ihl n hz
              cases h
              try dsimp only
              split
              · refine ⟨List.mem_cons_of_mem _ h1, fun y hy => ?_⟩
                rcases List.mem_cons.mp hy with rfl | hy
                · omega
                · exact h2 y hy
              · refine ⟨List.mem_cons_self, fun y hy => ?_⟩
                rcases List.mem_cons.mp hy with rfl | hy
                · omega
                · have := h2 y hy; omega
        exact key r m hr
      try dsimp only
      have kx := k x List.mem_cons_self
      have km := k m (List.mem_cons_of_mem _ hm.1)
      rcases List.mem_cons.mp h with rfl | h
      · split
        · congr 1; omega
        · rfl
      · have := hm.2 e h
        split
        · congr 1; omega
        · congr 1; omega
/-- the council's weights, a quota of them -/
structure Cq (ws : List Int) (q : Int) : Prop where
  q0 : 0 < q
  q1 : q ≤ ws.sum
  w0 : ∀ w ∈ ws, 0 ≤ w
theorem zip_fst {es ws : List Int} (h : es.length = ws.length) : (es.zip ws).map (·.1) = es := List.map_fst_zip (by omega)
theorem zip_snd {es ws : List Int} (h : es.length = ws.length) : (es.zip ws).map (·.2) = ws := List.map_snd_zip (by omega)
theorem set_col {ws es : List Int} {q : Int} (C : Cq ws q) (hl : es.length = ws.length) : walkI q (sortP (es.zip ws)) 0 = some (setI ws q es) ∧ minI (dueI ws q es) = some (setI ws q es) ∧ setI ws q es ∈ es ∧
    (∀ e, q ≤ wsum e (es.zip ws) ↔ setI ws q es ≤ e) := by
  have P : (sortP (es.zip ws)).Perm (es.zip ws) := isort_perm _
  have hs : ((sortP (es.zip ws)).map (·.2)).sum = ws.sum := by rw [sum_perm (P.map _), zip_snd hl]
  have hn : ∀ p ∈ sortP (es.zip ws), 0 ≤ p.2 := fun p hp => C.w0 _ (by rw [← zip_snd hl]; exact List.mem_map_of_mem (P.mem_iff.mp hp))
  have q0 := C.q0
  have q1 := C.q1
  obtain ⟨e, k1, k2, k3, k4⟩ := walk_ok (q := q) (sortP (es.zip ws)) 0 (sortP_asc _) hn (by omega) (by omega)
  have es' : setI ws q es = e := by unfold setI; rw [k1]; rfl
  have ein : e ∈ es := by
    have := (P.map (·.1)).mem_iff.mp k2
    rwa [zip_fst hl] at this
  rw [es']
  rw [wsum_perm P] at k3
  have k4' : ∀ e', q ≤ wsum e' (es.zip ws) → e ≤ e' := fun e' h => k4 e' (by rw [wsum_perm P]; omega)
  have mono : ∀ e', e ≤ e' → q ≤ wsum e' (es.zip ws) := fun e' h => by
    have : ∀ ps : List (Int × Int), (∀ p ∈ ps, 0 ≤ p.2) → wsum e ps ≤ wsum e' ps := by
      intro ps
      induction ps with
      | nil => intro _; exact Int.le_refl _
      | cons p ps ih =>
        intro hh
        have i1 := ih fun x hx => hh x (List.mem_cons_of_mem _ hx)
        have i2 := hh p List.mem_cons_self
        rw [wsum_cons, wsum_cons]
        by_cases c : p.1 ≤ e
        · rw [if_pos c, if_pos (by omega)]; omega
        · rw [if_neg c]; split <;> omega
    have := this (es.zip ws) fun p hp => C.w0 _ (by rw [← zip_snd hl]; exact List.mem_map_of_mem hp)
    omega
  refine ⟨k1, minI_eq ?_ ?_, ein, fun e' => ⟨fun h => k4' e' h, fun h => mono e' h⟩⟩
  · exact List.mem_filter.mpr ⟨ein, by simpa using k3⟩
  · intro x hx
    exact k4' x (by simpa using (List.mem_filter.mp hx).2)
end HI

set_option maxRecDepth 100000
set_option maxHeartbeats 1000000
/-! councils: what the program does with them -/
namespace HI
open PySem L2 SrtO
-- eng
local macro_rules | `(tactic| fail "s") => `(tactic| first
  | refine ex_cons ?_ | refine ex_nx ?_ | refine ex_rt ?_ | refine ex_bk ?_ | refine ex_ct ?_ | refine ex_nil ?_
  | refine ew_fz rfl ?_ | refine ew_own rfl ?_ | refine ew_rol rfl ?_ | refine ew_cst rfl ?_ | refine ew_bin ?_ | refine ew_idx ?_ | refine ew_nil ?_ | refine ew_cons ?_ | refine ew_call ?_ | refine ew_bcall ?_
  | refine ew_not ?_ | refine ew_neg ?_ | refine ew_and ?_ | refine ew_or ?_ | refine ew_chain ?_ | refine ew_ife ?_ | refine ew_lst ?_ | refine ew_tup ?_ | refine ew_slc ?_ | refine ew_meth ?_ | refine ew_fld ?_ | refine ew_mk ?_
  | refine ex_asg ?_ | refine ex_asgT ?_ | refine ex_asgS ?_ | refine ex_asgF ?_ | refine ex_aug rfl ?_ | refine ex_augS ?_ | refine ex_ex ?_ | refine ex_ite ?_ | refine ex_ret ?_ | refine ex_brk ?_ | refine ex_cont ?_ | refine ex_pass ?_ | refine ex_par ?_
  | refine q_rng (by omega) ?_ | refine ei_seq ?_ | refine ei_enum ?_ | refine ei_zip ?_ | refine ei_rng1 ?_ | refine ei_rng2 ?_
  | refine WE_of ?_ | refine WB_of ?_ | refine WT_of ?_
  | refine q_dat rfl ?_ | refine q_datRr ?_ | refine q_datR rfl ?_ | refine q_truB rfl ?_ | refine eq_t ?_ | refine eq_f ?_
  | refine q_add_i ?_ | refine q_sub_i ?_ | refine q_lt_i ?_ | refine q_le_i ?_ | refine q_gt_i ?_ | refine q_ge_i ?_ | refine q_eq_i ?_ | refine q_ne_i ?_ | refine q_eq_s ?_ | refine q_ne_s ?_ | refine q_pow_18 ?_ | refine q_is_n ?_ | refine q_is_b ?_ | refine q_isn_b ?_ | refine q_isn_n ?_
  | refine q_idx rfl ?_ | refine p_no ?_ | refine ep_yes ?_ | refine q_slcL ?_ | refine d_nil ?_ | refine d_cons ?_ | refine q_bfn rfl ?_
  | refine f_fz ?_ | refine f_own ?_ | refine ef_var rfl ?_ | refine f_varF rfl ?_ | refine f_nil ?_ | refine f_cons ?_
  | refine r_fz ?_ | refine r_own ?_ | refine r_rol ?_ | refine er_var rfl ?_ | refine rs_nil ?_ | refine rs_cons ?_
  | refine ek_0 ?_ | refine ek_s ?_ | refine ess_nil ?_ | refine ess_cons rfl ?_ | refine esv_nil ?_ | refine esv_cons rfl ?_
  | refine q_tup ?_ | refine ea_nm rfl ?_ | refine ea_tp ?_ | refine s_fzl ?_ | refine s_fzt ?_ | refine s_own ?_ | refine s_rol ?_ | refine s_var rfl ?_
  | refine eo_nil ?_ | refine eo_fz ?_ | refine eo_own ?_ | refine eo_rol ?_ | refine eo_var rfl ?_
  | refine fq_nx ?_ | refine fq_rt ?_ | refine t_fz ?_ | refine t_own ?_ | refine et_var rfl rfl ?_ | refine et_varP rfl rfl ?_
  | refine q_rec rfl ?_ | refine em_l ?_ | refine em_r rfl ?_ | refine q_fld rfl ?_
  | refine side_int rfl ?_ | refine side_int2 rfl rfl ?_ | refine side_bool rfl ?_ | refine side_var rfl ?_
  | refine side rfl ?_ | refine side (Nat.le_of_ble_eq_true rfl) ?_ | refine em_set0 rfl ?_ | refine em_set1 rfl ?_ | refine em_set2 rfl ?_ | refine em_clear rfl ?_ | refine m_fld rfl rfl ?_ | refine ekl_0 ?_ | refine ekl_s ?_ | refine side_some rfl ?_
  | refine q_mul_i (by omega) (by omega) ?_ | refine q_mod_i (by omega) ?_ | refine q_fdiv_i (by omega) (by omega) ?_)
-- gne
def isD' : List Int → PyData := fun xs => .list (xs.map .int)
def optD : Option Int → PyData
  | none => .none
  | some e => .int e
theorem settled_cp {T : Pr} (hT : T.lookup "settled" = some (7, B.settled)) {k : Nat} {ws es : List Int} {q : Int} (C : Cq ws q) (hl : es.length = ws.length) (hz : ws.length < 1000) :
    cp T (k + 1) "settled" [.own (.list (ws.map .int)), .fz (.int q), .own (.list (es.map .int))] fun r os => r = .fz (.int (setI ws q es)) ∧ os = [some (.own (.list (ws.map .int))), none, some (.own (.list (es.map .int)))] := by
  obtain ⟨k1, k2, k3, k4⟩ := set_col C hl
  refine ecp_of hT ?_
  show WB ⟨callDD T k, T.I⟩ [0, 2] _ [some (.own (.list (ws.map .int))), some (.fz (.int q)), some (.own (.list (es.map .int))), none, none, none, none] (zF [0, 2] 3 _)
  repeat fail "s"
  refine ex_for ?_
  repeat fail "s"
  refine q_sz ?_
  repeat fail "s"
  generalize hps : sortP (es.zip ws) = ps at *
  refine efor (N := ps.length) (fun i E => ∃ r f u5 u6, E = [some (.own (.list (ws.map .int))), some (.fz (.int q)), some (.own (.list (es.map .int))), some (.fz (.int r)), some (.fz (optD f)), u5, u6] ∧ (match f with | none => walkI q (ps.drop i) r | some e => some e) = some (setI ws q es)) (by simp [Wd.n, Src.n]) ⟨0, none, _, _, rfl, k1⟩ ?_ ?_
  · rintro i E hi ⟨r, f, u5, u6, rfl, hw⟩
    refine ⟨prD ps[i], ?_, ?_⟩
    · refine (rfl : _ = (ps.map prD)[i]?).trans ?_
      rw [List.getElem?_map, List.getElem?_eq_getElem hi]; rfl
    have hd : ps.drop i = ps[i] :: ps.drop (i + 1) := List.drop_eq_getElem_cons hi
    rw [hd] at hw
    generalize ps[i] = p at *
    obtain ⟨e, w⟩ := p
    show zA _ _ (.tuple [.int e, .int w]) _ _
    cases f with
    | none =>
      repeat fail "s"
      refine eq_dec (fun hc => ?_) (fun hc => ?_)
      · repeat fail "s"
        refine ⟨r + w, some e, _, _, rfl, ?_⟩
        have : walkI q ((e, w) :: ps.drop (i + 1)) r = some e := if_pos (by show q ≤ r + w; omega)
        rw [← hw]; exact this.symm
      · repeat fail "s"
        refine ⟨r + w, none, _, _, rfl, ?_⟩
        have : walkI q ((e, w) :: ps.drop (i + 1)) r = walkI q (ps.drop (i + 1)) (r + w) := if_neg (by show ¬ q ≤ r + w; omega)
        rw [← hw]; exact this.symm
    | some e0 =>
      repeat fail "s"
      exact ⟨r, some e0, _, _, rfl, hw⟩
  · rintro E ⟨r, f, u5, u6, rfl, hw⟩
    refine ⟨rfl, ?_⟩
    rw [List.drop_length] at hw
    cases f with
    | none => cases hw
    | some e0 =>
      cases hw
      repeat fail "s"
      first | rfl | exact ⟨rfl, rfl⟩
/-! council objects -/
structure CI (I : List Ci) : Prop where
  nm : cnameOf I 0 = "Council"
  mw : hasMOf I 0 "weights" = true
  mq : hasMOf I 0 "quotas" = true
  fw : fldOf I 0 "seat_weights" = true
  fq : fldOf I 0 "column_quotas" = true
def cD (ws qs : List Int) : PyData := insD 0 [("seat_weights", .list (ws.map .int)), ("column_quotas", .list (qs.map .int))]
theorem fld_w {I : List Ci} (C : CI I) {ws qs : List Int} : fldD I "seat_weights" (cD ws qs) = some (.list (ws.map .int)) := by
  show (if fldOf I 0 "seat_weights" = true then _ else _) = _
  rw [if_pos C.fw]; rfl
theorem fld_q {I : List Ci} (C : CI I) {ws qs : List Int} : fldD I "column_quotas" (cD ws qs) = some (.list (qs.map .int)) := by
  show (if fldOf I 0 "column_quotas" = true then _ else _) = _
  rw [if_pos C.fq]; rfl
theorem weights_cp {T : Pr} (hT : T.lookup "Council.weights" = some (1, B.Council_dot_weights)) (C : CI T.I) {k : Nat} {ws qs : List Int} (o : Bool) :
    cp T (k + 1) "Council.weights" [ow o (cD ws qs)] fun r os => r = .own (.list (ws.map .int)) ∧ os = [if o then some (.own (cD ws qs)) else none] := by
  refine ecp_of hT ?_
  cases o
  · show WB ⟨callDD T k, T.I⟩ [] _ [some (.fz (cD ws qs))] (zF [] 1 _)
    repeat fail "s"
    refine q_fld (fld_w C) ?_
    repeat fail "s"
    first | rfl | exact ⟨rfl, rfl⟩
  · show WB ⟨callDD T k, T.I⟩ [0] _ [some (.own (cD ws qs))] (zF [0] 1 _)
    repeat fail "s"
    refine q_fld (fld_w C) ?_
    repeat fail "s"
    first | rfl | exact ⟨rfl, rfl⟩
theorem quotas_cp {T : Pr} (hT : T.lookup "Council.quotas" = some (1, B.Council_dot_quotas)) (C : CI T.I) {k : Nat} {ws qs : List Int} (o : Bool) :
    cp T (k + 1) "Council.quotas" [ow o (cD ws qs)] fun r os => r = .own (.list (qs.map .int)) ∧ os = [if o then some (.own (cD ws qs)) else none] := by
  refine ecp_of hT ?_
  cases o
  · show WB ⟨callDD T k, T.I⟩ [] _ [some (.fz (cD ws qs))] (zF [] 1 _)
    repeat fail "s"
    refine q_fld (fld_q C) ?_
    repeat fail "s"
    first | rfl | exact ⟨rfl, rfl⟩
  · show WB ⟨callDD T k, T.I⟩ [0] _ [some (.own (cD ws qs))] (zF [0] 1 _)
    repeat fail "s"
    refine q_fld (fld_q C) ?_
    repeat fail "s"
    first | rfl | exact ⟨rfl, rfl⟩
theorem rec_c {m : Str} {E : Dn} {ws qs : List Int} {K : Nat ⊕ Nat → Prop} (h1 : ([("seat_weights", PyData.list (ws.map .int)), ("column_quotas", PyData.list (qs.map .int))] : List (Str × PyData)).lookup m = none) (h : K (.inr 0)) : RecQ m E (.fz (cD ws qs)) K :=
  ⟨_, if_pos h1, h⟩
end HI

set_option maxRecDepth 100000
set_option maxHeartbeats 1000000
/-! settle -/
namespace HI
open PySem L2 SrtO
-- eng
local macro_rules | `(tactic| fail "s") => `(tactic| first
  | refine ex_cons ?_ | refine ex_nx ?_ | refine ex_rt ?_ | refine ex_bk ?_ | refine ex_ct ?_ | refine ex_nil ?_
  | refine ew_fz rfl ?_ | refine ew_own rfl ?_ | refine ew_rol rfl ?_ | refine ew_cst rfl ?_ | refine ew_bin ?_ | refine ew_idx ?_ | refine ew_nil ?_ | refine ew_cons ?_ | refine ew_call ?_ | refine ew_bcall ?_
  | refine ew_not ?_ | refine ew_neg ?_ | refine ew_and ?_ | refine ew_or ?_ | refine ew_chain ?_ | refine ew_ife ?_ | refine ew_lst ?_ | refine ew_tup ?_ | refine ew_slc ?_ | refine ew_meth ?_ | refine ew_fld ?_ | refine ew_mk ?_
  | refine ex_asg ?_ | refine ex_asgT ?_ | refine ex_asgS ?_ | refine ex_asgF ?_ | refine ex_aug rfl ?_ | refine ex_augS ?_ | refine ex_ex ?_ | refine ex_ite ?_ | refine ex_ret ?_ | refine ex_brk ?_ | refine ex_cont ?_ | refine ex_pass ?_ | refine ex_par ?_
  | refine q_rng (by omega) ?_ | refine ei_seq ?_ | refine ei_enum ?_ | refine ei_zip ?_ | refine ei_rng1 ?_ | refine ei_rng2 ?_
  | refine WE_of ?_ | refine WB_of ?_ | refine WT_of ?_
  | refine q_dat rfl ?_ | refine q_datRr ?_ | refine q_datR rfl ?_ | refine q_truB rfl ?_ | refine eq_t ?_ | refine eq_f ?_
  | refine q_add_i ?_ | refine q_sub_i ?_ | refine q_lt_i ?_ | refine q_le_i ?_ | refine q_gt_i ?_ | refine q_ge_i ?_ | refine q_eq_i ?_ | refine q_ne_i ?_ | refine q_eq_s ?_ | refine q_ne_s ?_ | refine q_pow_18 ?_ | refine q_is_n ?_ | refine q_is_b ?_ | refine q_isn_b ?_ | refine q_isn_n ?_
  | refine q_idx rfl ?_ | refine p_no ?_ | refine ep_yes ?_ | refine q_slcL ?_ | refine d_nil ?_ | refine d_cons ?_ | refine q_bfn rfl ?_
  | refine f_fz ?_ | refine f_own ?_ | refine ef_var rfl ?_ | refine f_varF rfl ?_ | refine f_nil ?_ | refine f_cons ?_
  | refine r_fz ?_ | refine r_own ?_ | refine r_rol ?_ | refine er_var rfl ?_ | refine rs_nil ?_ | refine rs_cons ?_
  | refine ek_0 ?_ | refine ek_s ?_ | refine ess_nil ?_ | refine ess_cons rfl ?_ | refine esv_nil ?_ | refine esv_cons rfl ?_
  | refine q_tup ?_ | refine ea_nm rfl ?_ | refine ea_tp ?_ | refine s_fzl ?_ | refine s_fzt ?_ | refine s_own ?_ | refine s_rol ?_ | refine s_var rfl ?_
  | refine eo_nil ?_ | refine eo_fz ?_ | refine eo_own ?_ | refine eo_rol ?_ | refine eo_var rfl ?_
  | refine fq_nx ?_ | refine fq_rt ?_ | refine t_fz ?_ | refine t_own ?_ | refine et_var rfl rfl ?_ | refine et_varP rfl rfl ?_
  | refine q_rec rfl ?_ | refine em_l ?_ | refine em_r rfl ?_ | refine q_fld rfl ?_
  | refine side_int rfl ?_ | refine side_int2 rfl rfl ?_ | refine side_bool rfl ?_ | refine side_var rfl ?_
  | refine side rfl ?_ | refine side (Nat.le_of_ble_eq_true rfl) ?_ | refine em_set0 rfl ?_ | refine em_set1 rfl ?_ | refine em_set2 rfl ?_ | refine em_clear rfl ?_ | refine m_fld rfl rfl ?_ | refine ekl_0 ?_ | refine ekl_s ?_ | refine side_some rfl ?_
  | refine q_mul_i (by omega) (by omega) ?_ | refine q_mod_i (by omega) ?_ | refine q_fdiv_i (by omega) (by omega) ?_)
-- gne
def nth (xs : List Int) (j : Nat) : Int := (xs[j]?).getD 0
def col (j : Nat) (rows : List (List Int)) : List Int := rows.map fun r => nth r j
def setRow (ws qs : List Int) (rows : List (List Int)) : List Int := (List.range qs.length).map fun j => setI ws (nth qs j) (col j rows)
def rowsD (rows : List (List Int)) : PyData := .list (rows.map rowD)
theorem map_int {α : Type} {f : α → Int} {xs : List α} : xs.map (fun x => PyData.int (f x)) = (xs.map f).map .int := by rw [List.map_map]; rfl
theorem settle_cp2 {T : Pr} (hT : T.lookup "settle" = some (7, B.settle)) (hS : T.lookup "settled" = some (7, B.settled)) (hW : T.lookup "Council.weights" = some (1, B.Council_dot_weights)) (hQ : T.lookup "Council.quotas" = some (1, B.Council_dot_quotas)) (C : CI T.I)
    {k : Nat} {ws qs : List Int} {rows : List (List Int)} (hq : ∀ q ∈ qs, Cq ws q) (hl : rows.length = ws.length) (hz : ws.length < 1000) (hz2 : qs.length < 1000) (hr : ∀ r ∈ rows, qs.length ≤ r.length) (oc o : Bool) :
    cp T (k + 2) "settle" [ow oc (cD ws qs), ow o (rowsD rows)] fun r os => r = .fz (rowD (setRow ws qs rows)) ∧ os = [if oc then some (.own (cD ws qs)) else none, if o then some (.own (rowsD rows)) else none] := by
  have big := big1000
  have ew : cnameOf T.I 0 ++ "." ++ "weights" = "Council.weights" := by rw [C.nm]; rfl
  have eqq : cnameOf T.I 0 ++ "." ++ "quotas" = "Council.quotas" := by rw [C.nm]; rfl
  refine ecp_of hT ?_
  cases oc <;> cases o
  · show WB ⟨callDD T (k + 1), T.I⟩ [] _ [some (.fz (cD ws qs)), some (.fz (.list (rows.map rowD))), none, none, none, none, none] (zF [] 2 _)
    repeat fail "s"
    refine em_r C.mw ?_
    repeat fail "s"
    rw [ew]
    refine eq_call rfl rfl (cp_mono (weights_cp hW C false) ?_)
    rintro r os ⟨rfl, rfl⟩
    refine ⟨rfl, ?_⟩
    repeat fail "s"
    refine ex_for ?_
    repeat fail "s"
    refine em_r C.mq ?_
    repeat fail "s"
    rw [eqq]
    refine eq_call rfl rfl (cp_mono (quotas_cp hQ C false) ?_)
    rintro r os ⟨rfl, rfl⟩
    refine ⟨rfl, ?_⟩
    repeat fail "s"
    refine efor (N := qs.length) (fun i E => ∃ u4 u5, E = [some (.fz (cD ws qs)), some (.fz (.list (rows.map rowD))), some (.own (.list (ws.map .int))), some (.own (.list (((List.range i).map fun j => setI ws (nth qs j) (col j rows)).map .int))), u4, u5, none]) (by simp [Wd.n, Src.n]) ⟨_, _, rfl⟩ ?_ ?_
    · rintro i E hi ⟨u4, u5, rfl⟩
      refine ⟨.tuple [.int (i : Nat), .int (nth qs i)], ?_, ?_⟩
      · refine (rfl : _ = ((qs.map PyData.int)[i]?).map fun x => PyData.tuple [.int (i : Nat), x]).trans ?_
        rw [List.getElem?_map, List.getElem?_eq_getElem hi]
        unfold nth
        rw [List.getElem?_eq_getElem hi]; rfl
      have hC : Cq ws (nth qs i) := by
        unfold nth
        rw [List.getElem?_eq_getElem hi]
        exact hq _ (List.getElem_mem hi)
      repeat fail "s"
      refine ew_comp ?_
      repeat fail "s"
      refine ⟨⟨rfl, rfl⟩, ?_⟩
      refine ecomp_pure (enc := rowD) rows (fun _ => true) (fun r => .int (nth r i)) (by simp [Wd.n, Src.n]) (by omega) (fun i => rfl) (rfl) (fun r hr' => ?_) ?_
      · refine ⟨_, rfl, rfl, ?_⟩
        repeat fail "s"
        intro _
        repeat fail "s"
        refine q_idx (row_at (by omega) (by have := hr r hr'; omega)) ?_
        repeat fail "s"
        first | rfl | exact ⟨rfl, rfl⟩
      · have em : (rows.map fun r => PyData.int (nth r i)) = (col i rows).map .int := map_int
        rw [filter_true, em]
        repeat fail "s"
        refine eq_call (T := T) rfl rfl (cp_mono (settled_cp hS (es := col i rows) hC (by unfold col; rw [List.length_map]; exact hl) hz) ?_)
        rintro r os ⟨rfl, rfl⟩
        refine ⟨rfl, ?_⟩
        repeat fail "s"
        refine em_append rfl (by rw [List.length_map, List.length_map, List.length_range]; omega) ?_
        repeat fail "s"
        refine ⟨some (.fz (.int (i : Nat))), some (.fz (.int (nth qs i))), ?_⟩
        rw [List.range_succ, List.map_append, List.map_append]; rfl
    · rintro E ⟨u4, u5, rfl⟩
      refine ⟨rfl, ?_⟩
      repeat fail "s"
      first | rfl | exact ⟨rfl, rfl⟩
  · show WB ⟨callDD T (k + 1), T.I⟩ [1] _ [some (.fz (cD ws qs)), some (.own (.list (rows.map rowD))), none, none, none, none, none] (zF [1] 2 _)
    repeat fail "s"
    refine em_r C.mw ?_
    repeat fail "s"
    rw [ew]
    refine eq_call rfl rfl (cp_mono (weights_cp hW C false) ?_)
    rintro r os ⟨rfl, rfl⟩
    refine ⟨rfl, ?_⟩
    repeat fail "s"
    refine ex_for ?_
    repeat fail "s"
    refine em_r C.mq ?_
    repeat fail "s"
    rw [eqq]
    refine eq_call rfl rfl (cp_mono (quotas_cp hQ C false) ?_)
    rintro r os ⟨rfl, rfl⟩
    refine ⟨rfl, ?_⟩
    repeat fail "s"
    refine efor (N := qs.length) (fun i E => ∃ u4 u5, E = [some (.fz (cD ws qs)), some (.own (.list (rows.map rowD))), some (.own (.list (ws.map .int))), some (.own (.list (((List.range i).map fun j => setI ws (nth qs j) (col j rows)).map .int))), u4, u5, none]) (by simp [Wd.n, Src.n]) ⟨_, _, rfl⟩ ?_ ?_
    · rintro i E hi ⟨u4, u5, rfl⟩
      refine ⟨.tuple [.int (i : Nat), .int (nth qs i)], ?_, ?_⟩
      · refine (rfl : _ = ((qs.map PyData.int)[i]?).map fun x => PyData.tuple [.int (i : Nat), x]).trans ?_
        rw [List.getElem?_map, List.getElem?_eq_getElem hi]
        unfold nth
        rw [List.getElem?_eq_getElem hi]; rfl
      have hC : Cq ws (nth qs i) := by
        unfold nth
        rw [List.getElem?_eq_getElem hi]
        exact hq _ (List.getElem_mem hi)
      repeat fail "s"
      refine ew_comp ?_
      repeat fail "s"
      refine ⟨⟨rfl, rfl⟩, ?_⟩
      refine ecomp_pure (enc := rowD) rows (fun _ => true) (fun r => .int (nth r i)) (by simp [Wd.n, Src.n]) (by omega) (fun i => at_var rfl i) (ends_var rfl) (fun r hr' => ?_) ?_
      · refine ⟨_, rfl, rfl, ?_⟩
        repeat fail "s"
        intro _
        repeat fail "s"
        refine q_idx (row_at (by omega) (by have := hr r hr'; omega)) ?_
        repeat fail "s"
        first | rfl | exact ⟨rfl, rfl⟩
      · have em : (rows.map fun r => PyData.int (nth r i)) = (col i rows).map .int := map_int
        rw [filter_true, em]
        repeat fail "s"
        refine eq_call (T := T) rfl rfl (cp_mono (settled_cp hS (es := col i rows) hC (by unfold col; rw [List.length_map]; exact hl) hz) ?_)
        rintro r os ⟨rfl, rfl⟩
        refine ⟨rfl, ?_⟩
        repeat fail "s"
        refine em_append rfl (by rw [List.length_map, List.length_map, List.length_range]; omega) ?_
        repeat fail "s"
        refine ⟨some (.fz (.int (i : Nat))), some (.fz (.int (nth qs i))), ?_⟩
        rw [List.range_succ, List.map_append, List.map_append]; rfl
    · rintro E ⟨u4, u5, rfl⟩
      refine ⟨rfl, ?_⟩
      repeat fail "s"
      first | rfl | exact ⟨rfl, rfl⟩
  · show WB ⟨callDD T (k + 1), T.I⟩ [0] _ [some (.own (cD ws qs)), some (.fz (.list (rows.map rowD))), none, none, none, none, none] (zF [0] 2 _)
    repeat fail "s"
    refine em_r C.mw ?_
    repeat fail "s"
    rw [ew]
    refine eq_call rfl rfl (cp_mono (weights_cp hW C true) ?_)
    rintro r os ⟨rfl, rfl⟩
    refine ⟨rfl, ?_⟩
    repeat fail "s"
    refine ex_for ?_
    repeat fail "s"
    refine em_r C.mq ?_
    repeat fail "s"
    rw [eqq]
    refine eq_call rfl rfl (cp_mono (quotas_cp hQ C true) ?_)
    rintro r os ⟨rfl, rfl⟩
    refine ⟨rfl, ?_⟩
    repeat fail "s"
    refine efor (N := qs.length) (fun i E => ∃ u4 u5, E = [some (.own (cD ws qs)), some (.fz (.list (rows.map rowD))), some (.own (.list (ws.map .int))), some (.own (.list (((List.range i).map fun j => setI ws (nth qs j) (col j rows)).map .int))), u4, u5, none]) (by simp [Wd.n, Src.n]) ⟨_, _, rfl⟩ ?_ ?_
    · rintro i E hi ⟨u4, u5, rfl⟩
      refine ⟨.tuple [.int (i : Nat), .int (nth qs i)], ?_, ?_⟩
      · refine (rfl : _ = ((qs.map PyData.int)[i]?).map fun x => PyData.tuple [.int (i : Nat), x]).trans ?_
        rw [List.getElem?_map, List.getElem?_eq_getElem hi]
        unfold nth
        rw [List.getElem?_eq_getElem hi]; rfl
      have hC : Cq ws (nth qs i) := by
        unfold nth
        rw [List.getElem?_eq_getElem hi]
        exact hq _ (List.getElem_mem hi)
      repeat fail "s"
      refine ew_comp ?_
      repeat fail "s"
      refine ⟨⟨rfl, rfl⟩, ?_⟩
      refine ecomp_pure (enc := rowD) rows (fun _ => true) (fun r => .int (nth r i)) (by simp [Wd.n, Src.n]) (by omega) (fun i => rfl) (rfl) (fun r hr' => ?_) ?_
      · refine ⟨_, rfl, rfl, ?_⟩
        repeat fail "s"
        intro _
        repeat fail "s"
        refine q_idx (row_at (by omega) (by have := hr r hr'; omega)) ?_
        repeat fail "s"
        first | rfl | exact ⟨rfl, rfl⟩
      · have em : (rows.map fun r => PyData.int (nth r i)) = (col i rows).map .int := map_int
        rw [filter_true, em]
        repeat fail "s"
        refine eq_call (T := T) rfl rfl (cp_mono (settled_cp hS (es := col i rows) hC (by unfold col; rw [List.length_map]; exact hl) hz) ?_)
        rintro r os ⟨rfl, rfl⟩
        refine ⟨rfl, ?_⟩
        repeat fail "s"
        refine em_append rfl (by rw [List.length_map, List.length_map, List.length_range]; omega) ?_
        repeat fail "s"
        refine ⟨some (.fz (.int (i : Nat))), some (.fz (.int (nth qs i))), ?_⟩
        rw [List.range_succ, List.map_append, List.map_append]; rfl
    · rintro E ⟨u4, u5, rfl⟩
      refine ⟨rfl, ?_⟩
      repeat fail "s"
      first | rfl | exact ⟨rfl, rfl⟩
  · show WB ⟨callDD T (k + 1), T.I⟩ [0, 1] _ [some (.own (cD ws qs)), some (.own (.list (rows.map rowD))), none, none, none, none, none] (zF [0, 1] 2 _)
    repeat fail "s"
    refine em_r C.mw ?_
    repeat fail "s"
    rw [ew]
    refine eq_call rfl rfl (cp_mono (weights_cp hW C true) ?_)
    rintro r os ⟨rfl, rfl⟩
    refine ⟨rfl, ?_⟩
    repeat fail "s"
    refine ex_for ?_
    repeat fail "s"
    refine em_r C.mq ?_
    repeat fail "s"
    rw [eqq]
    refine eq_call rfl rfl (cp_mono (quotas_cp hQ C true) ?_)
    rintro r os ⟨rfl, rfl⟩
    refine ⟨rfl, ?_⟩
    repeat fail "s"
    refine efor (N := qs.length) (fun i E => ∃ u4 u5, E = [some (.own (cD ws qs)), some (.own (.list (rows.map rowD))), some (.own (.list (ws.map .int))), some (.own (.list (((List.range i).map fun j => setI ws (nth qs j) (col j rows)).map .int))), u4, u5, none]) (by simp [Wd.n, Src.n]) ⟨_, _, rfl⟩ ?_ ?_
    · rintro i E hi ⟨u4, u5, rfl⟩
      refine ⟨.tuple [.int (i : Nat), .int (nth qs i)], ?_, ?_⟩
      · refine (rfl : _ = ((qs.map PyData.int)[i]?).map fun x => PyData.tuple [.int (i : Nat), x]).trans ?_
        rw [List.getElem?_map, List.getElem?_eq_getElem hi]
        unfold nth
        rw [List.getElem?_eq_getElem hi]; rfl
      have hC : Cq ws (nth qs i) := by
        unfold nth
        rw [List.getElem?_eq_getElem hi]
        exact hq _ (List.getElem_mem hi)
      repeat fail "s"
      refine ew_comp ?_
      repeat fail "s"
      refine ⟨⟨rfl, rfl⟩, ?_⟩
      refine ecomp_pure (enc := rowD) rows (fun _ => true) (fun r => .int (nth r i)) (by simp [Wd.n, Src.n]) (by omega) (fun i => at_var rfl i) (ends_var rfl) (fun r hr' => ?_) ?_
      · refine ⟨_, rfl, rfl, ?_⟩
        repeat fail "s"
        intro _
        repeat fail "s"
        refine q_idx (row_at (by omega) (by have := hr r hr'; omega)) ?_
        repeat fail "s"
        first | rfl | exact ⟨rfl, rfl⟩
      · have em : (rows.map fun r => PyData.int (nth r i)) = (col i rows).map .int := map_int
        rw [filter_true, em]
        repeat fail "s"
        refine eq_call (T := T) rfl rfl (cp_mono (settled_cp hS (es := col i rows) hC (by unfold col; rw [List.length_map]; exact hl) hz) ?_)
        rintro r os ⟨rfl, rfl⟩
        refine ⟨rfl, ?_⟩
        repeat fail "s"
        refine em_append rfl (by rw [List.length_map, List.length_map, List.length_range]; omega) ?_
        repeat fail "s"
        refine ⟨some (.fz (.int (i : Nat))), some (.fz (.int (nth qs i))), ?_⟩
        rw [List.range_succ, List.map_append, List.map_append]; rfl
    · rintro E ⟨u4, u5, rfl⟩
      refine ⟨rfl, ?_⟩
      repeat fail "s"
      first | rfl | exact ⟨rfl, rfl⟩
theorem settle_cp {T : Pr} (hT : T.lookup "settle" = some (7, B.settle)) (hS : T.lookup "settled" = some (7, B.settled)) (hW : T.lookup "Council.weights" = some (1, B.Council_dot_weights)) (hQ : T.lookup "Council.quotas" = some (1, B.Council_dot_quotas)) (C : CI T.I)
    {k : Nat} {ws qs : List Int} {rows : List (List Int)} (hq : ∀ q ∈ qs, Cq ws q) (hl : rows.length = ws.length) (hz : ws.length < 1000) (hz2 : qs.length < 1000) (hr : ∀ r ∈ rows, qs.length ≤ r.length) (o : Bool) :
    cp T (k + 2) "settle" [.fz (cD ws qs), ow o (rowsD rows)] fun r os => r = .fz (rowD (setRow ws qs rows)) ∧ os = [none, if o then some (.own (rowsD rows)) else none] := settle_cp2 hT hS hW hQ C hq hl hz hz2 hr false o
end HI

set_option maxRecDepth 100000
set_option maxHeartbeats 1000000
namespace HI
open PySem L2 SrtO
-- eng
local macro_rules | `(tactic| fail "s") => `(tactic| first
  | refine ex_cons ?_ | refine ex_nx ?_ | refine ex_rt ?_ | refine ex_bk ?_ | refine ex_ct ?_ | refine ex_nil ?_
  | refine ew_fz rfl ?_ | refine ew_own rfl ?_ | refine ew_rol rfl ?_ | refine ew_cst rfl ?_ | refine ew_bin ?_ | refine ew_idx ?_ | refine ew_nil ?_ | refine ew_cons ?_ | refine ew_call ?_ | refine ew_bcall ?_
  | refine ew_not ?_ | refine ew_neg ?_ | refine ew_and ?_ | refine ew_or ?_ | refine ew_chain ?_ | refine ew_ife ?_ | refine ew_lst ?_ | refine ew_tup ?_ | refine ew_slc ?_ | refine ew_meth ?_ | refine ew_fld ?_ | refine ew_mk ?_
  | refine ex_asg ?_ | refine ex_asgT ?_ | refine ex_asgS ?_ | refine ex_asgF ?_ | refine ex_aug rfl ?_ | refine ex_augS ?_ | refine ex_ex ?_ | refine ex_ite ?_ | refine ex_ret ?_ | refine ex_brk ?_ | refine ex_cont ?_ | refine ex_pass ?_ | refine ex_par ?_
  | refine q_rng (by omega) ?_ | refine ei_seq ?_ | refine ei_enum ?_ | refine ei_zip ?_ | refine ei_rng1 ?_ | refine ei_rng2 ?_
  | refine WE_of ?_ | refine WB_of ?_ | refine WT_of ?_
  | refine q_dat rfl ?_ | refine q_datRr ?_ | refine q_datR rfl ?_ | refine q_truB rfl ?_ | refine eq_t ?_ | refine eq_f ?_
  | refine q_add_i ?_ | refine q_sub_i ?_ | refine q_lt_i ?_ | refine q_le_i ?_ | refine q_gt_i ?_ | refine q_ge_i ?_ | refine q_eq_i ?_ | refine q_ne_i ?_ | refine q_eq_s ?_ | refine q_ne_s ?_ | refine q_pow_18 ?_ | refine q_is_n ?_ | refine q_is_b ?_ | refine q_isn_b ?_ | refine q_isn_n ?_
  | refine q_idx rfl ?_ | refine p_no ?_ | refine ep_yes ?_ | refine q_slcL ?_ | refine d_nil ?_ | refine d_cons ?_ | refine q_bfn rfl ?_
  | refine f_fz ?_ | refine f_own ?_ | refine ef_var rfl ?_ | refine f_varF rfl ?_ | refine f_nil ?_ | refine f_cons ?_
  | refine r_fz ?_ | refine r_own ?_ | refine r_rol ?_ | refine er_var rfl ?_ | refine rs_nil ?_ | refine rs_cons ?_
  | refine ek_0 ?_ | refine ek_s ?_ | refine ess_nil ?_ | refine ess_cons rfl ?_ | refine esv_nil ?_ | refine esv_cons rfl ?_
  | refine q_tup ?_ | refine ea_nm rfl ?_ | refine ea_tp ?_ | refine s_fzl ?_ | refine s_fzt ?_ | refine s_own ?_ | refine s_rol ?_ | refine s_var rfl ?_
  | refine eo_nil ?_ | refine eo_fz ?_ | refine eo_own ?_ | refine eo_rol ?_ | refine eo_var rfl ?_
  | refine fq_nx ?_ | refine fq_rt ?_ | refine t_fz ?_ | refine t_own ?_ | refine et_var rfl rfl ?_ | refine et_varP rfl rfl ?_
  | refine q_rec rfl ?_ | refine em_l ?_ | refine em_r rfl ?_ | refine q_fld rfl ?_
  | refine side_int rfl ?_ | refine side_int2 rfl rfl ?_ | refine side_bool rfl ?_ | refine side_var rfl ?_
  | refine side rfl ?_ | refine side (Nat.le_of_ble_eq_true rfl) ?_ | refine em_set0 rfl ?_ | refine em_set1 rfl ?_ | refine em_set2 rfl ?_ | refine em_clear rfl ?_ | refine m_fld rfl rfl ?_ | refine ekl_0 ?_ | refine ekl_s ?_ | refine side_some rfl ?_
  | refine q_mul_i (by omega) (by omega) ?_ | refine q_mod_i (by omega) ?_ | refine q_fdiv_i (by omega) (by omega) ?_)
-- gne
theorem is_integer_cp {T : Pr} (hT : T.lookup "is_integer" = some (1, B.is_integer)) {k : Nat} {x : Int} : cp T (k + 1) "is_integer" [.fz (.int x)] fun r os => r = .fz (.bool true) ∧ os = [none] := by
  refine ecp_of hT ?_
  show WB ⟨callDD T k, T.I⟩ [] _ [some (.fz (.int x))] (zF [] 1 _)
  repeat fail "s"
  first | rfl | exact ⟨rfl, rfl⟩
theorem is_between_cp {T : Pr} (hT : T.lookup "is_between" = some (3, B.is_between)) (hI : T.lookup "is_integer" = some (1, B.is_integer)) {k : Nat} {x lo hi : Int} (h1 : lo ≤ x) (h2 : x ≤ hi) :
    cp T (k + 2) "is_between" [.fz (.int x), .fz (.int lo), .fz (.int hi)] fun r os => r = .fz (.bool true) ∧ os = [none, none, none] := by
  refine ecp_of hT ?_
  show WB ⟨callDD T (k + 1), T.I⟩ [] _ [some (.fz (.int x)), some (.fz (.int lo)), some (.fz (.int hi))] (zF [] 3 _)
  repeat fail "s"
  refine eq_call rfl rfl (cp_mono (is_integer_cp hI) ?_)
  rintro r os ⟨rfl, rfl⟩
  refine ⟨rfl, ?_⟩
  repeat fail "s"
  rw [decide_eq_true h1]
  repeat fail "s"
  rw [decide_eq_true h2]
  first | rfl | exact ⟨rfl, rfl⟩
structure Co (ws qs : List Int) (width most : Nat) : Prop where
  l2 : 2 ≤ ws.length
  l7 : ws.length ≤ most
  w : ∀ w ∈ ws, 1 ≤ w ∧ w ≤ 1000000
  ql : qs.length = width
  q : ∀ q ∈ qs, 1 ≤ q ∧ q ≤ ws.sum
theorem Co.cq {ws qs : List Int} {width most : Nat} (C : Co ws qs width most) {q : Int} (h : q ∈ qs) : Cq ws q := ⟨by have := (C.q q h).1; omega, (C.q q h).2, fun w hw => by have := (C.w w hw).1; omega⟩
theorem all_true {α : Type} {xs : List α} : ((xs.map fun _ => true).all id) = true := by rw [List.all_map, List.all_eq_true]; intro x _; rfl
theorem are_weights_cp {T : Pr} (hT : T.lookup "are_weights" = some (2, B.are_weights)) (hB : T.lookup "is_between" = some (3, B.is_between)) (hI : T.lookup "is_integer" = some (1, B.is_integer)) {k : Nat} {ws : List Int} (h1 : 2 ≤ ws.length) (h2 : ws.length ≤ 7) (h3 : ∀ w ∈ ws, 1 ≤ w ∧ w ≤ 1000000) :
    cp T (k + 3) "are_weights" [.own (.list (ws.map .int))] fun r os => r = .fz (.bool true) ∧ os = [some (.own (.list (ws.map .int)))] := by
  refine ecp_of hT ?_
  have ln : (ws.map PyData.int).length = ws.length := List.length_map _
  show WB ⟨callDD T (k + 2), T.I⟩ [0] _ [some (.own (.list (ws.map .int))), none] (zF [0] 1 _)
  repeat fail "s"
  rw [ln, decide_eq_true (show (2 : Int) ≤ (ws.length : Int) by omega)]
  repeat fail "s"
  rw [decide_eq_true (show (ws.length : Int) ≤ 7 by omega)]
  repeat fail "s"
  refine ew_comp ?_
  repeat fail "s"
  refine ⟨⟨rfl, rfl⟩, ?_⟩
  refine ecomp_pure (enc := .int) ws (fun _ => true) (fun _ => .bool true) (by simp [Wd.n, Src.n]) (by omega) (fun i => at_var rfl i) (ends_var rfl) (fun w hw => ?_) ?_
  · refine ⟨_, rfl, rfl, ?_⟩
    repeat fail "s"
    intro _
    repeat fail "s"
    refine eq_call rfl rfl (cp_mono (is_between_cp hB hI (h3 w hw).1 (h3 w hw).2) ?_)
    rintro r os ⟨rfl, rfl⟩
    refine ⟨rfl, ?_⟩
    repeat fail "s"
    first | rfl | exact ⟨rfl, rfl⟩
  · have em : (ws.map fun _ => PyData.bool true) = (ws.map fun _ => true).map .bool := map_bool
    rw [filter_true, em]
    repeat fail "s"
    refine q_all ?_
    rw [all_true]
    repeat fail "s"
    first | rfl | exact ⟨rfl, rfl⟩
theorem are_quotas_cp {T : Pr} (hT : T.lookup "are_quotas" = some (3, B.are_quotas)) (hB : T.lookup "is_between" = some (3, B.is_between)) (hI : T.lookup "is_integer" = some (1, B.is_integer)) {k : Nat} {qs : List Int} {t : Int} (h1 : 1 ≤ qs.length) (h2 : qs.length ≤ 6) (h3 : ∀ q ∈ qs, 1 ≤ q ∧ q ≤ t) :
    cp T (k + 3) "are_quotas" [.own (.list (qs.map .int)), .fz (.int t)] fun r os => r = .fz (.bool true) ∧ os = [some (.own (.list (qs.map .int))), none] := by
  refine ecp_of hT ?_
  have ln : (qs.map PyData.int).length = qs.length := List.length_map _
  show WB ⟨callDD T (k + 2), T.I⟩ [0] _ [some (.own (.list (qs.map .int))), some (.fz (.int t)), none] (zF [0] 2 _)
  repeat fail "s"
  rw [ln, decide_eq_true (show (1 : Int) ≤ (qs.length : Int) by omega)]
  repeat fail "s"
  rw [decide_eq_true (show (qs.length : Int) ≤ 6 by omega)]
  repeat fail "s"
  refine ew_comp ?_
  repeat fail "s"
  refine ⟨⟨rfl, rfl⟩, ?_⟩
  refine ecomp_pure (enc := .int) qs (fun _ => true) (fun _ => .bool true) (by simp [Wd.n, Src.n]) (by omega) (fun i => at_var rfl i) (ends_var rfl) (fun w hw => ?_) ?_
  · refine ⟨_, rfl, rfl, ?_⟩
    repeat fail "s"
    intro _
    repeat fail "s"
    refine eq_call rfl rfl (cp_mono (is_between_cp hB hI (h3 w hw).1 (h3 w hw).2) ?_)
    rintro r os ⟨rfl, rfl⟩
    refine ⟨rfl, ?_⟩
    repeat fail "s"
    first | rfl | exact ⟨rfl, rfl⟩
  · have em : (qs.map fun _ => PyData.bool true) = (qs.map fun _ => true).map .bool := map_bool
    rw [filter_true, em]
    repeat fail "s"
    refine q_all ?_
    rw [all_true]
    repeat fail "s"
    first | rfl | exact ⟨rfl, rfl⟩
/-- what a made council rests on -/
structure CL (T : Pr) : Prop extends CI T.I where
  ini : T.lookup "Council.__init__" = some (3, B.Council_dot___init__)
  arw : T.lookup "are_weights" = some (2, B.are_weights)
  arq : T.lookup "are_quotas" = some (3, B.are_quotas)
  isb : T.lookup "is_between" = some (3, B.is_between)
  isi : T.lookup "is_integer" = some (1, B.is_integer)
  wei : T.lookup "Council.weights" = some (1, B.Council_dot_weights)
  quo : T.lookup "Council.quotas" = some (1, B.Council_dot_quotas)
theorem setf_w {I : List Ci} (C : CI I) {v : PyData} : setFD I "seat_weights" v (insD 0 []) = some (insD 0 [("seat_weights", v)]) := by
  show (if fldOf I 0 "seat_weights" = true ∧ 0 < 1000 then _ else _) = _
  rw [if_pos ⟨C.fw, by decide⟩]; rfl
theorem setf_q {I : List Ci} (C : CI I) {v x : PyData} : setFD I "column_quotas" v (insD 0 [("seat_weights", x)]) = some (insD 0 [("seat_weights", x), ("column_quotas", v)]) := by
  show (if fldOf I 0 "column_quotas" = true ∧ 1 < 1000 then _ else _) = _
  rw [if_pos ⟨C.fq, by decide⟩]; rfl
theorem init_cp {T : Pr} (L : CL T) {k : Nat} {ws qs : List Int} {width most : Nat} (C : Co ws qs width most) (h7 : most ≤ 7) (w1 : 1 ≤ width) (w6 : width ≤ 6) :
    cp T (k + 4) "Council.__init__" [.own (insD 0 []), .own (.list (ws.map .int)), .own (.list (qs.map .int))] fun r os => r = .fz .none ∧ os = [some (.own (cD ws qs)), some (.own (.list (ws.map .int))), some (.own (.list (qs.map .int)))] := by
  refine ecp_of L.ini ?_
  have hq := C.ql
  have h2 := C.l2
  have h3 := C.l7
  show WB ⟨callDD T (k + 3), T.I⟩ [0, 1, 2] _ [some (.own (insD 0 [])), some (.own (.list (ws.map .int))), some (.own (.list (qs.map .int)))] (zF [0, 1, 2] 3 _)
  repeat fail "s"
  refine eq_call rfl rfl (cp_mono (are_weights_cp L.arw L.isb L.isi h2 (by omega) C.w) ?_)
  rintro r os ⟨rfl, rfl⟩
  refine ⟨rfl, ?_⟩
  repeat fail "s"
  refine q_sum ?_
  repeat fail "s"
  refine eq_call rfl rfl (cp_mono (are_quotas_cp L.arq L.isb L.isi (by omega) (by omega) C.q) ?_)
  rintro r os ⟨rfl, rfl⟩
  refine ⟨rfl, ?_⟩
  repeat fail "s"
  refine m_fld rfl (setf_w L.toCI) ?_
  repeat fail "s"
  refine m_fld rfl (setf_q L.toCI) ?_
  repeat fail "s"
  first | rfl | exact ⟨rfl, rfl⟩
def partsD (ws qs : List Int) : PyData := .tuple [.list (ws.map .int), .list (qs.map .int)]
theorem made_cp {T : Pr} (L : CL T) (hT : T.lookup "_law_made" = some (1, B._law_made)) {k : Nat} {ws qs : List Int} {width most : Nat} (C : Co ws qs width most) (h7 : most ≤ 7) (w1 : 1 ≤ width) (w6 : width ≤ 6) :
    cp T (k + 5) "_law_made" [.fz (partsD ws qs)] fun r os => r = .own (cD ws qs) ∧ os = [none] := by
  have ei : cnameOf T.I 0 ++ ".__init__" = "Council.__init__" := by rw [L.nm]; rfl
  refine ecp_of hT ?_
  show WB ⟨callDD T (k + 4), T.I⟩ [] _ [some (.fz (.tuple [.list (ws.map .int), .list (qs.map .int)]))] (zF [] 1 _)
  repeat fail "s"
  refine eq_mk rfl rfl ?_
  rw [ei]
  refine cp_mono (init_cp L C h7 w1 w6) ?_
  rintro r os ⟨rfl, rfl⟩
  refine ⟨rfl, _, _, rfl, ?_⟩
  repeat fail "s"
  first | rfl | exact ⟨rfl, rfl⟩
end HI

set_option maxRecDepth 100000
set_option maxHeartbeats 1000000
namespace HI
open PySem L2 SrtO
-- eng
local macro_rules | `(tactic| fail "s") => `(tactic| first
  | refine ex_cons ?_ | refine ex_nx ?_ | refine ex_rt ?_ | refine ex_bk ?_ | refine ex_ct ?_ | refine ex_nil ?_
  | refine ew_fz rfl ?_ | refine ew_own rfl ?_ | refine ew_rol rfl ?_ | refine ew_cst rfl ?_ | refine ew_bin ?_ | refine ew_idx ?_ | refine ew_nil ?_ | refine ew_cons ?_ | refine ew_call ?_ | refine ew_bcall ?_
  | refine ew_not ?_ | refine ew_neg ?_ | refine ew_and ?_ | refine ew_or ?_ | refine ew_chain ?_ | refine ew_ife ?_ | refine ew_lst ?_ | refine ew_tup ?_ | refine ew_slc ?_ | refine ew_meth ?_ | refine ew_fld ?_ | refine ew_mk ?_
  | refine ex_asg ?_ | refine ex_asgT ?_ | refine ex_asgS ?_ | refine ex_asgF ?_ | refine ex_aug rfl ?_ | refine ex_augS ?_ | refine ex_ex ?_ | refine ex_ite ?_ | refine ex_ret ?_ | refine ex_brk ?_ | refine ex_cont ?_ | refine ex_pass ?_ | refine ex_par ?_
  | refine q_rng (by omega) ?_ | refine ei_seq ?_ | refine ei_enum ?_ | refine ei_zip ?_ | refine ei_rng1 ?_ | refine ei_rng2 ?_
  | refine WE_of ?_ | refine WB_of ?_ | refine WT_of ?_
  | refine q_dat rfl ?_ | refine q_datRr ?_ | refine q_datR rfl ?_ | refine q_truB rfl ?_ | refine eq_t ?_ | refine eq_f ?_
  | refine q_add_i ?_ | refine q_sub_i ?_ | refine q_lt_i ?_ | refine q_le_i ?_ | refine q_gt_i ?_ | refine q_ge_i ?_ | refine q_eq_i ?_ | refine q_ne_i ?_ | refine q_eq_s ?_ | refine q_ne_s ?_ | refine q_pow_18 ?_ | refine q_is_n ?_ | refine q_is_b ?_ | refine q_isn_b ?_ | refine q_isn_n ?_
  | refine q_idx rfl ?_ | refine p_no ?_ | refine ep_yes ?_ | refine q_slcL ?_ | refine d_nil ?_ | refine d_cons ?_ | refine q_bfn rfl ?_
  | refine f_fz ?_ | refine f_own ?_ | refine ef_var rfl ?_ | refine f_varF rfl ?_ | refine f_nil ?_ | refine f_cons ?_
  | refine r_fz ?_ | refine r_own ?_ | refine r_rol ?_ | refine er_var rfl ?_ | refine rs_nil ?_ | refine rs_cons ?_
  | refine ek_0 ?_ | refine ek_s ?_ | refine ess_nil ?_ | refine ess_cons rfl ?_ | refine esv_nil ?_ | refine esv_cons rfl ?_
  | refine q_tup ?_ | refine ea_nm rfl ?_ | refine ea_tp ?_ | refine s_fzl ?_ | refine s_fzt ?_ | refine s_own ?_ | refine s_rol ?_ | refine s_var rfl ?_
  | refine eo_nil ?_ | refine eo_fz ?_ | refine eo_own ?_ | refine eo_rol ?_ | refine eo_var rfl ?_
  | refine fq_nx ?_ | refine fq_rt ?_ | refine t_fz ?_ | refine t_own ?_ | refine et_var rfl rfl ?_ | refine et_varP rfl rfl ?_
  | refine q_rec rfl ?_ | refine em_l ?_ | refine em_r rfl ?_ | refine q_fld rfl ?_
  | refine side_int rfl ?_ | refine side_int2 rfl rfl ?_ | refine side_bool rfl ?_ | refine side_var rfl ?_
  | refine side rfl ?_ | refine side (Nat.le_of_ble_eq_true rfl) ?_ | refine em_set0 rfl ?_ | refine em_set1 rfl ?_ | refine em_set2 rfl ?_ | refine em_clear rfl ?_ | refine m_fld rfl rfl ?_ | refine ekl_0 ?_ | refine ekl_s ?_ | refine side_some rfl ?_
  | refine q_mul_i (by omega) (by omega) ?_ | refine q_mod_i (by omega) ?_ | refine q_fdiv_i (by omega) (by omega) ?_)
-- gne
theorem council_cp {T : Pr} (hT : T.lookup "_law_council" = some (11, B._law_council)) (hK : T.lookup "_law_take" = some (6, B._law_take)) {k n : Nat} {d : PyData} (G : Bag d n) (hn : n < 2 ^ 80) {width most : Nat} (w0 : width < 100) (m0 : 2 ≤ most) (m1 : most < 100) :
    cp T (k + 2) "_law_council" [.own d, .fz (.int width), .fz (.int most)] fun r os => ∃ ws qs d', r = .fz (partsD ws qs) ∧ os = [some (.own d'), none, none] ∧ Co ws qs width most ∧ Bag d' (n + 1000) := by
  have big := big1000
  refine ecp_of hT ?_
  show WB ⟨callDD T (k + 1), T.I⟩ [0] _ [some (.own d), some (.fz (.int width)), some (.fz (.int most)), none, none, none, none, none, none, none, none] (zF [0] 3 _)
  repeat fail "s"
  refine c_take hK rfl G (by omega) (by omega) (by omega) fun sv d1 s0 s1 G1 => ?_
  repeat fail "s"
  refine c_take hK rfl G1 (by omega) (by omega) (by omega) fun way d2 y0 y1 G2 => ?_
  repeat fail "s"
  refine ew_comp ?_
  repeat fail "s"
  refine ⟨⟨rfl, rfl⟩, ?_⟩
  refine ecomp (N := (2 + sv).toNat) (fun j acc E => ∃ ws d', acc = ws.map .int ∧ ws.length = j ∧ (∀ w ∈ ws, 1 ≤ w ∧ w ≤ 1000000) ∧ E = [some (.own d'), some (.fz (.int width)), some (.fz (.int most)), none, none, none, none, some (.fz (.int (2 + sv))), some (.fz (.int way)), none, none] ∧ Bag d' (n + 2 + j))
    (by show (2 + sv - 0).toNat = _; rw [Int.sub_zero]) ⟨[], d2, rfl, rfl, (by intro x hx; cases hx), rfl, G2⟩ ?_ ?_
  · rintro j acc E hj ⟨ws, d3, rfl, rfl, hw, rfl, G3⟩
    refine ⟨.int (0 + (ws.length : Int)), _, if_pos (by rw [Int.sub_zero]; exact hj), rfl, ?_⟩
    repeat fail "s"
    refine ⟨by rw [List.length_map]; omega, ?_⟩
    repeat fail "s"
    refine q_ints (xs := [1, 1, 2, 5, 1000000]) y0 y1 fun m hm => ?_
    have hm2 : 1 ≤ m ∧ m ≤ 1000000 := by
      simp only [List.mem_cons, List.not_mem_nil, or_false] at hm
      omega
    repeat fail "s"
    refine c_take hK rfl G3 (by omega) (by omega) (by omega) fun v d4 v0 v1 G4 => ?_
    repeat fail "s"
    refine ⟨ws ++ [1 + v], d4, by rw [List.map_append]; rfl, by rw [List.length_append]; rfl, ?_, rfl, G4.mono (by omega)⟩
    intro y hy
    rcases List.mem_append.mp hy with hy | hy
    · exact hw y hy
    · rw [List.mem_singleton.mp hy]; omega
  · rintro acc E ⟨ws, d3, rfl, hl, hw, rfl, G3⟩
    refine ⟨rfl, ?_⟩
    have l2 : 2 ≤ ws.length := by omega
    have l7 : ws.length ≤ most := by omega
    have hsum : (ws.length : Int) ≤ ws.sum ∧ ws.sum ≤ 1000000 * ws.length := by
      clear hl l2 l7
      induction ws with
      | nil => exact ⟨Int.le_refl _, Int.le_refl _⟩
      | cons x ws ih =>
        have h1 := hw x List.mem_cons_self
        obtain ⟨i1, i2⟩ := ih fun y hy => hw y (List.mem_cons_of_mem _ hy)
        rw [List.sum_cons, List.length_cons]
        omega
    repeat fail "s"
    refine q_sum ?_
    have hL : (ws.length : Int) ≤ 100 := by omega
    obtain ⟨t, ht⟩ : ∃ t, t = ws.sum := ⟨_, rfl⟩
    rw [← ht] at hsum ⊢
    repeat fail "s"
    refine ex_for ?_
    repeat fail "s"
    refine efor (N := width) (fun i E => ∃ qs d' u6 u9, E = [some (.own d'), some (.fz (.int width)), some (.fz (.int most)), some (.own (.list (ws.map .int))), some (.fz (.int t)), some (.own (.list (qs.map .int))), u6, some (.fz (.int (2 + sv))), some (.fz (.int way)), u9, none] ∧ qs.length = i ∧ (∀ q ∈ qs, 1 ≤ q ∧ q ≤ t) ∧ Bag d' (n + 110 + 2 * i))
      (by show ((width : Int) - 0).toNat = _; omega) ⟨[], _, _, _, rfl, rfl, (by intro x hx; cases hx), G3.mono (by omega)⟩ ?_ ?_
    · rintro i E hi ⟨qs, d4, u6, u9, rfl, hql, hq, G4⟩
      refine ⟨.int (0 + (i : Int)), if_pos (by show i < ((width : Int) - 0).toNat; omega), ?_⟩
      repeat fail "s"
      refine c_take hK rfl G4 (by omega) (by omega) (by omega) fun v1 d5 a1 b1 G5 => ?_
      repeat fail "s"
      refine c_take hK rfl G5 (by omega) (by omega) (by omega) fun v2 d6 a2 b2 G6 => ?_
      repeat fail "s"
      obtain ⟨z, hz, z0, z1⟩ : ∃ z : Int, ((if v2 + -2 > 0 then v2 + -2 else 0) * if decide (0 < way) = true then 1 else 0) = z ∧ 0 ≤ z ∧ z < 4 := ⟨_, rfl, by split <;> split <;> omega, by split <;> split <;> omega⟩
      rw [hz]
      refine q_ints (xs := [t / 2 + 1, 1 + v1, 1, t]) z0 z1 fun q hq' => ?_
      have hq2 : 1 ≤ q ∧ q ≤ t := by
        simp only [List.mem_cons, List.not_mem_nil, or_false] at hq'
        omega
      repeat fail "s"
      refine em_append rfl (by rw [List.length_map]; omega) ?_
      repeat fail "s"
      refine ⟨qs ++ [q], d6, some (.fz (.int (0 + (i : Int)))), some (.own (.list [.int (t / 2 + 1), .int (1 + v1), .int 1, .int t])), by rw [List.map_append]; rfl, by rw [List.length_append, hql]; rfl, ?_, G6.mono (by omega)⟩
      intro y hy
      rcases List.mem_append.mp hy with hy | hy
      · exact hq y hy
      · rw [List.mem_singleton.mp hy]; exact hq2
    · rintro E ⟨qs, d4, u6, u9, rfl, hql, hq, G4⟩
      refine ⟨rfl, ?_⟩
      repeat fail "s"
      exact ⟨ws, qs, _, rfl, rfl, ⟨l2, l7, hw, hql, by rw [← ht]; exact hq⟩, G4.mono (by omega)⟩
end HI

set_option maxRecDepth 100000
set_option maxHeartbeats 1000000
namespace HI
open PySem L2 SrtO
-- eng
local macro_rules | `(tactic| fail "s") => `(tactic| first
  | refine ex_cons ?_ | refine ex_nx ?_ | refine ex_rt ?_ | refine ex_bk ?_ | refine ex_ct ?_ | refine ex_nil ?_
  | refine ew_fz rfl ?_ | refine ew_own rfl ?_ | refine ew_rol rfl ?_ | refine ew_cst rfl ?_ | refine ew_bin ?_ | refine ew_idx ?_ | refine ew_nil ?_ | refine ew_cons ?_ | refine ew_call ?_ | refine ew_bcall ?_
  | refine ew_not ?_ | refine ew_neg ?_ | refine ew_and ?_ | refine ew_or ?_ | refine ew_chain ?_ | refine ew_ife ?_ | refine ew_lst ?_ | refine ew_tup ?_ | refine ew_slc ?_ | refine ew_meth ?_ | refine ew_fld ?_ | refine ew_mk ?_
  | refine ex_asg ?_ | refine ex_asgT ?_ | refine ex_asgS ?_ | refine ex_asgF ?_ | refine ex_aug rfl ?_ | refine ex_augS ?_ | refine ex_ex ?_ | refine ex_ite ?_ | refine ex_ret ?_ | refine ex_brk ?_ | refine ex_cont ?_ | refine ex_pass ?_ | refine ex_par ?_
  | refine q_rng (by omega) ?_ | refine ei_seq ?_ | refine ei_enum ?_ | refine ei_zip ?_ | refine ei_rng1 ?_ | refine ei_rng2 ?_
  | refine WE_of ?_ | refine WB_of ?_ | refine WT_of ?_
  | refine q_dat rfl ?_ | refine q_datRr ?_ | refine q_datR rfl ?_ | refine q_truB rfl ?_ | refine eq_t ?_ | refine eq_f ?_
  | refine q_add_i ?_ | refine q_sub_i ?_ | refine q_lt_i ?_ | refine q_le_i ?_ | refine q_gt_i ?_ | refine q_ge_i ?_ | refine q_eq_i ?_ | refine q_ne_i ?_ | refine q_eq_s ?_ | refine q_ne_s ?_ | refine q_pow_18 ?_ | refine q_is_n ?_ | refine q_is_b ?_ | refine q_isn_b ?_ | refine q_isn_n ?_
  | refine q_idx rfl ?_ | refine p_no ?_ | refine ep_yes ?_ | refine q_slcL ?_ | refine d_nil ?_ | refine d_cons ?_ | refine q_bfn rfl ?_
  | refine f_fz ?_ | refine f_own ?_ | refine ef_var rfl ?_ | refine f_varF rfl ?_ | refine f_nil ?_ | refine f_cons ?_
  | refine r_fz ?_ | refine r_own ?_ | refine r_rol ?_ | refine er_var rfl ?_ | refine rs_nil ?_ | refine rs_cons ?_
  | refine ek_0 ?_ | refine ek_s ?_ | refine ess_nil ?_ | refine ess_cons rfl ?_ | refine esv_nil ?_ | refine esv_cons rfl ?_
  | refine q_tup ?_ | refine ea_nm rfl ?_ | refine ea_tp ?_ | refine s_fzl ?_ | refine s_fzt ?_ | refine s_own ?_ | refine s_rol ?_ | refine s_var rfl ?_
  | refine eo_nil ?_ | refine eo_fz ?_ | refine eo_own ?_ | refine eo_rol ?_ | refine eo_var rfl ?_
  | refine fq_nx ?_ | refine fq_rt ?_ | refine t_fz ?_ | refine t_own ?_ | refine et_var rfl rfl ?_ | refine et_varP rfl rfl ?_
  | refine q_rec rfl ?_ | refine em_l ?_ | refine em_r rfl ?_ | refine q_fld rfl ?_
  | refine side_int rfl ?_ | refine side_int2 rfl rfl ?_ | refine side_bool rfl ?_ | refine side_var rfl ?_
  | refine side rfl ?_ | refine side (Nat.le_of_ble_eq_true rfl) ?_ | refine em_set0 rfl ?_ | refine em_set1 rfl ?_ | refine em_set2 rfl ?_ | refine em_clear rfl ?_ | refine m_fld rfl rfl ?_ | refine ekl_0 ?_ | refine ekl_s ?_ | refine side_some rfl ?_
  | refine q_mul_i (by omega) (by omega) ?_ | refine q_mod_i (by omega) ?_ | refine q_fdiv_i (by omega) (by omega) ?_)
-- gne
theorem value_cp {T : Pr} (hT : T.lookup "_law_value" = some (3, B._law_value)) (hK : T.lookup "_law_take" = some (6, B._law_take)) {k n : Nat} {d : PyData} (G : Bag d n) (hn : n < 2 ^ 90) :
    cp T (k + 2) "_law_value" [.own d] fun r os => ∃ v d', r = .fz (.int v) ∧ os = [some (.own d')] ∧ Far v ∧ Bag d' (n + 5) := by
  refine ecp_of hT ?_
  show WB ⟨callDD T (k + 1), T.I⟩ [0] _ [some (.own d), none, none] (zF [0] 1 _)
  repeat fail "s"
  refine c_take hK rfl G (by omega) (by omega) (by omega) fun v1 d1 a1 b1 G1 => ?_
  repeat fail "s"
  refine eq_dec (fun hc => ?_) (fun hc => ?_)
  · repeat fail "s"
    refine c_take hK rfl G1 (by omega) (by omega) (by omega) fun v2 d2 a2 b2 G2 => ?_
    repeat fail "s"
    exact ⟨_, _, rfl, rfl, (by unfold Far; omega), G2.mono (by omega)⟩
  · repeat fail "s"
    refine c_take hK rfl G1 (by omega) (by omega) (by omega) fun v2 d2 a2 b2 G2 => ?_
    repeat fail "s"
    refine c_take hK rfl G2 (by omega) (by omega) (by omega) fun v3 d3 a3 b3 G3 => ?_
    repeat fail "s"
    refine q_ints (xs := [1000000000000000000 + -v2, v3 + -1000000000000000000]) (by omega) (by show v1 + -2 < 2; omega) fun x hx => ?_
    have hX : Far x := by
      unfold Far
      simp only [List.mem_cons, List.not_mem_nil, or_false] at hx
      omega
    unfold Far at hX
    repeat fail "s"
    refine c_take hK rfl G3 (by omega) (by omega) (by omega) fun v4 d4 a4 b4 G4 => ?_
    repeat fail "s"
    refine q_ints (xs := [1, -1]) a4 b4 fun y hy => ?_
    have hY : y = 1 ∨ y = -1 := by simpa using hy
    rcases hY with rfl | rfl
    · repeat fail "s"
      exact ⟨_, _, rfl, rfl, (by unfold Far; omega), G4.mono (by omega)⟩
    · repeat fail "s"
      exact ⟨_, _, rfl, rfl, (by unfold Far; omega), G4.mono (by omega)⟩
def FarR (width : Nat) (r : List Int) : Prop := r.length = width ∧ ∀ x ∈ r, Far x
theorem FarR.nice {width : Nat} {r : List Int} (h : FarR width r) : Nice (rowD r) (width * 135) 1 := by
  have := nice_tup (nl_all (ds := r.map .int) (w := 134) (dp := 0) fun d hd => by
    obtain ⟨x, hx, rfl⟩ := List.mem_map.mp hd
    have := h.2 x hx
    unfold Far at this
    exact nice_int (by omega))
  rw [List.length_map, h.1] at this
  exact this
theorem farRs_nice {width : Nat} {rows : List (List Int)} (h : ∀ r ∈ rows, FarR width r) : Nice (rowsD rows) (rows.length * (width * 135 + 1)) 2 := by
  have := nice_lst (nl_all (ds := rows.map rowD) (w := width * 135) (dp := 1) fun d hd => by
    obtain ⟨x, hx, rfl⟩ := List.mem_map.mp hd
    exact (h x hx).nice)
  rw [List.length_map] at this
  exact this
theorem q_ne_nil {xs : List PyData} {K : Re → Prop} (h : SeqAt.shaped (.list xs) = true) (k : K (.fz (.bool (!xs.isEmpty)))) : OpQ .ne (.list xs) (.list []) K := by
  refine ⟨_, ?_, k⟩
  show (eqP0 _ _).map _ = _
  unfold eqP0
  rw [if_pos ⟨h, by decide +kernel⟩]
  cases xs <;> rfl
theorem q_mem {α : Type} {f : α → PyData} {xs : List α} {k : Int} {K : PyData → Prop} (h0 : 0 ≤ k) (h1 : k < xs.length) (h : ∀ x ∈ xs, K (f x)) : IdxQ (.list (xs.map f)) (.int k) K := by
  have hk : k.toNat < xs.length := by omega
  refine q_idx_nn h0 (by rw [List.length_map]; exact h1) fun d hd => ?_
  rw [List.getElem?_map, List.getElem?_eq_getElem hk] at hd
  cases hd
  exact h _ (List.getElem_mem hk)
theorem seat_rows_cp {T : Pr} (hT : T.lookup "_law_seat_rows" = some (8, B._law_seat_rows)) (hV : T.lookup "_law_value" = some (3, B._law_value)) (hK : T.lookup "_law_take" = some (6, B._law_take)) {k n : Nat} {d : PyData} (G : Bag d n) (hn : n < 2 ^ 80) {width many : Nat} (w0 : width < 100) (m1 : many < 100) :
    cp T (k + 3) "_law_seat_rows" [.own d, .fz (.int width), .fz (.int many)] fun r os => ∃ rows d', r = .own (rowsD rows) ∧ os = [some (.own d'), none, none] ∧ rows.length = many ∧ (∀ r ∈ rows, FarR width r) ∧ Bag d' (n + 100000) := by
  have big := big1000
  refine ecp_of hT ?_
  show WB ⟨callDD T (k + 2), T.I⟩ [0] _ [some (.own d), some (.fz (.int width)), some (.fz (.int many)), none, none, none, none, none] (zF [0] 3 _)
  repeat fail "s"
  refine c_take hK rfl G (by omega) (by omega) (by omega) fun tv d1 t0 t1 G1 => ?_
  repeat fail "s"
  refine q_ints (xs := [1, 3, 0]) t0 t1 fun top ht => ?_
  have hT2 : 0 ≤ top ∧ top ≤ 3 := by
    simp only [List.mem_cons, List.not_mem_nil, or_false] at ht
    omega
  repeat fail "s"
  refine ex_for ?_
  repeat fail "s"
  refine efor (N := many) (fun i E => ∃ rows d' u3 u6, E = [some (.own d'), some (.fz (.int width)), some (.fz (.int many)), u3, some (.fz (.int top)), some (.own (.list (rows.map rowD))), u6, none] ∧ rows.length = i ∧ (∀ r ∈ rows, FarR width r) ∧ Bag d' (n + 1 + 600 * i))
    (by show ((many : Int) - 0).toNat = _; omega) ⟨[], _, _, _, rfl, rfl, (by intro x hx; cases hx), G1⟩ ?_ ?_
  · rintro i E hi ⟨rows, d4, u3, u6, rfl, hrl, hr, G4⟩
    refine ⟨.int (0 + (i : Int)), if_pos (by show i < ((many : Int) - 0).toNat; omega), ?_⟩
    repeat fail "s"
    refine ew_comp ?_
    repeat fail "s"
    refine ⟨⟨rfl, rfl⟩, ?_⟩
    refine ecomp (N := width) (fun j acc E => ∃ vs d', acc = vs.map .int ∧ vs.length = j ∧ (∀ x ∈ vs, Far x) ∧ E = [some (.own d'), some (.fz (.int width)), some (.fz (.int many)), some (.fz (.int (0 + (i : Int)))), some (.fz (.int top)), some (.own (.list (rows.map rowD))), u6, none] ∧ Bag d' (n + 1 + 600 * i + 5 * j))
      (by show ((width : Int) - 0).toNat = _; omega) ⟨[], d4, rfl, rfl, (by intro x hx; cases hx), rfl, G4⟩ ?_ ?_
    · rintro j acc E hj ⟨vs, d5, rfl, rfl, hv, rfl, G5⟩
      refine ⟨.int (0 + (vs.length : Int)), _, if_pos (by show vs.length < ((width : Int) - 0).toNat; omega), rfl, ?_⟩
      repeat fail "s"
      refine ⟨by rw [List.length_map]; omega, ?_⟩
      repeat fail "s"
      have fin : ∀ (x : Int) (d6 : PyData), Far x → Bag d6 (n + 1 + 600 * i + 5 * vs.length + 5) → ∃ (vs_1 : List Int) (d' : PyData), vs.map PyData.int ++ [.int x] = vs_1.map .int ∧ vs_1.length = vs.length + 1 ∧ (∀ x ∈ vs_1, Far x) ∧
          [some (.own d6), some (.fz (.int width)), some (.fz (.int many)), some (.fz (.int (0 + (i : Int)))), some (.fz (.int top)), some (.own (.list (rows.map rowD))), u6, none] = [some (Va.own d'), some (.fz (.int width)), some (.fz (.int many)), some (.fz (.int (0 + (i : Int)))), some (.fz (.int top)), some (.own (.list (rows.map rowD))), u6, none] ∧ Bag d' (n + 1 + 600 * i + 5 * (vs.length + 1)) := fun x d6 hx G6 => by
        refine ⟨vs ++ [x], d6, by rw [List.map_append]; rfl, by rw [List.length_append]; rfl, ?_, rfl, G6.mono (by omega)⟩
        intro y hy
        rcases List.mem_append.mp hy with hy | hy
        · exact hv y hy
        · rw [List.mem_singleton.mp hy]; exact hx
      refine eq_dec (fun hc => ?_) (fun hc => ?_)
      · repeat fail "s"
        refine c_take hK rfl G5 (by omega) (by omega) (by omega) fun x d6 x0 x1 G6 => ?_
        repeat fail "s"
        exact fin _ _ (by unfold Far; omega) (G6.mono (by omega))
      · repeat fail "s"
        refine eq_call rfl rfl (cp_mono (value_cp hV hK G5 (by omega)) ?_)
        rintro r os ⟨x, d6, rfl, rfl, hx, G6⟩
        refine ⟨rfl, ?_⟩
        repeat fail "s"
        exact fin _ _ hx G6
    · rintro acc E ⟨vs, d5, rfl, hvl, hv, rfl, G5⟩
      refine ⟨rfl, ?_⟩
      have hRow : FarR width vs := ⟨hvl, hv⟩
      repeat (first | refine ex_cutI (fun E => ∃ row d', E = [some (.own d'), some (.fz (.int width)), some (.fz (.int many)), some (.fz (.int (0 + (i : Int)))), some (.fz (.int top)), some (.own (.list (rows.map rowD))), some (.fz (rowD row)), none] ∧ FarR width row ∧ Bag d' (n + 1 + 600 * i + 510)) ?_ ?_ | fail "s")
      · refine q_ne_nil ((farRs_nice hr).shaped (by omega)) ?_
        repeat fail "s"
        cases rows with
        | nil =>
          repeat fail "s"
          exact ⟨vs, _, rfl, hRow, G5.mono (by omega)⟩
        | cons r0 rr =>
          repeat fail "s"
          refine c_take hK rfl G5 (by omega) (by omega) (by omega) fun x d6 x0 x1 G6 => ?_
          repeat fail "s"
          refine eq_dec (fun hb => ?_) (fun hb => ?_)
          · have ln : ((r0 :: rr).map rowD).length = (r0 :: rr).length := List.length_map _
            have l0 : 0 < (r0 :: rr).length := by rw [List.length_cons]; omega
            show WB _ _ (.cons _ _) _ _
            repeat fail "s"
            rw [ln]
            refine c_take hK rfl G6 (by omega) (by omega) (by rw [List.length_cons] at hrl ⊢; omega) fun y d7 y0 y1 G7 => ?_
            repeat fail "s"
            refine q_mem y0 y1 fun row hrow => ?_
            repeat fail "s"
            exact ⟨row, _, rfl, hr row hrow, G7.mono (by omega)⟩
          · repeat fail "s"
            exact ⟨vs, _, rfl, hRow, G6.mono (by omega)⟩
      · rintro E ⟨row, d6, rfl, hrow, G6⟩
        repeat fail "s"
        refine em_append rfl (by rw [List.length_map]; omega) ?_
        repeat fail "s"
        refine ⟨rows ++ [row], d6, some (.fz (.int (0 + (i : Int)))), some (.fz (rowD row)), by rw [List.map_append]; rfl, by rw [List.length_append, hrl]; rfl, ?_, G6.mono (by omega)⟩
        intro y hy
        rcases List.mem_append.mp hy with hy | hy
        · exact hr y hy
        · rw [List.mem_singleton.mp hy]; exact hrow
  · rintro E ⟨rows, d4, u3, u6, rfl, hrl, hr, G4⟩
    refine ⟨rfl, ?_⟩
    repeat fail "s"
    exact ⟨rows, _, rfl, rfl, hrl, hr, G4.mono (by omega)⟩
end HI

set_option maxRecDepth 100000
set_option maxHeartbeats 1000000
namespace HI
open PySem L2 SrtO
-- eng
local macro_rules | `(tactic| fail "s") => `(tactic| first
  | refine ex_cons ?_ | refine ex_nx ?_ | refine ex_rt ?_ | refine ex_bk ?_ | refine ex_ct ?_ | refine ex_nil ?_
  | refine ew_fz rfl ?_ | refine ew_own rfl ?_ | refine ew_rol rfl ?_ | refine ew_cst rfl ?_ | refine ew_bin ?_ | refine ew_idx ?_ | refine ew_nil ?_ | refine ew_cons ?_ | refine ew_call ?_ | refine ew_bcall ?_
  | refine ew_not ?_ | refine ew_neg ?_ | refine ew_and ?_ | refine ew_or ?_ | refine ew_chain ?_ | refine ew_ife ?_ | refine ew_lst ?_ | refine ew_tup ?_ | refine ew_slc ?_ | refine ew_meth ?_ | refine ew_fld ?_ | refine ew_mk ?_
  | refine ex_asg ?_ | refine ex_asgT ?_ | refine ex_asgS ?_ | refine ex_asgF ?_ | refine ex_aug rfl ?_ | refine ex_augS ?_ | refine ex_ex ?_ | refine ex_ite ?_ | refine ex_ret ?_ | refine ex_brk ?_ | refine ex_cont ?_ | refine ex_pass ?_ | refine ex_par ?_
  | refine q_rng (by omega) ?_ | refine ei_seq ?_ | refine ei_enum ?_ | refine ei_zip ?_ | refine ei_rng1 ?_ | refine ei_rng2 ?_
  | refine WE_of ?_ | refine WB_of ?_ | refine WT_of ?_
  | refine q_dat rfl ?_ | refine q_datRr ?_ | refine q_datR rfl ?_ | refine q_truB rfl ?_ | refine eq_t ?_ | refine eq_f ?_
  | refine q_add_i ?_ | refine q_sub_i ?_ | refine q_lt_i ?_ | refine q_le_i ?_ | refine q_gt_i ?_ | refine q_ge_i ?_ | refine q_eq_i ?_ | refine q_ne_i ?_ | refine q_eq_s ?_ | refine q_ne_s ?_ | refine q_pow_18 ?_ | refine q_is_n ?_ | refine q_is_b ?_ | refine q_isn_b ?_ | refine q_isn_n ?_
  | refine q_idx rfl ?_ | refine p_no ?_ | refine ep_yes ?_ | refine q_slcL ?_ | refine d_nil ?_ | refine d_cons ?_ | refine q_bfn rfl ?_
  | refine f_fz ?_ | refine f_own ?_ | refine ef_var rfl ?_ | refine f_varF rfl ?_ | refine f_nil ?_ | refine f_cons ?_
  | refine r_fz ?_ | refine r_own ?_ | refine r_rol ?_ | refine er_var rfl ?_ | refine rs_nil ?_ | refine rs_cons ?_
  | refine ek_0 ?_ | refine ek_s ?_ | refine ess_nil ?_ | refine ess_cons rfl ?_ | refine esv_nil ?_ | refine esv_cons rfl ?_
  | refine q_tup ?_ | refine ea_nm rfl ?_ | refine ea_tp ?_ | refine s_fzl ?_ | refine s_fzt ?_ | refine s_own ?_ | refine s_rol ?_ | refine s_var rfl ?_
  | refine eo_nil ?_ | refine eo_fz ?_ | refine eo_own ?_ | refine eo_rol ?_ | refine eo_var rfl ?_
  | refine fq_nx ?_ | refine fq_rt ?_ | refine t_fz ?_ | refine t_own ?_ | refine et_var rfl rfl ?_ | refine et_varP rfl rfl ?_
  | refine q_rec rfl ?_ | refine em_l ?_ | refine em_r rfl ?_ | refine q_fld rfl ?_
  | refine side_int rfl ?_ | refine side_int2 rfl rfl ?_ | refine side_bool rfl ?_ | refine side_var rfl ?_
  | refine side rfl ?_ | refine side (Nat.le_of_ble_eq_true rfl) ?_ | refine em_set0 rfl ?_ | refine em_set1 rfl ?_ | refine em_set2 rfl ?_ | refine em_clear rfl ?_ | refine m_fld rfl rfl ?_ | refine ekl_0 ?_ | refine ekl_s ?_ | refine side_some rfl ?_
  | refine q_mul_i (by omega) (by omega) ?_ | refine q_mod_i (by omega) ?_ | refine q_fdiv_i (by omega) (by omega) ?_)
-- gne
theorem list_at' {xs : List Int} {k : Int} {j : Nat} (e : k = j) (h : j < xs.length) : indexD (.list (xs.map .int)) (.int k) = some (.int (nth xs j)) := by
  subst e
  show atI (xs.map PyData.int) _ = _
  unfold atI ixN
  rw [List.length_map, if_pos (by omega), if_pos (by omega)]
  show (xs.map PyData.int)[j]? = _
  unfold nth
  rw [List.getElem?_map, List.getElem?_eq_getElem h]; rfl
theorem rows_at {rows : List (List Int)} {j : Nat} (h : j < rows.length) : indexD (.list (rows.map rowD)) (.int (j : Int)) = some (rowD ((rows[j]?).getD [])) := by
  show atI (rows.map rowD) _ = _
  unfold atI ixN
  rw [List.length_map, if_pos (by omega), if_pos (by omega)]
  show (rows.map rowD)[j]? = _
  rw [List.getElem?_map, List.getElem?_eq_getElem h]; rfl
theorem sum_w {ws : List Int} {rows : List (List Int)} {j : Nat} {e : Int} (hl : rows.length = ws.length) : (((List.range ws.length).filter fun i => decide (nth ((rows[i]?).getD []) j ≤ e)).map (nth ws)).sum = wsum e ((col j rows).zip ws) := by
  have hz : (col j rows).zip ws = (List.range ws.length).map fun i => (nth ((rows[i]?).getD []) j, nth ws i) := by
    refine List.ext_getElem ?_ fun i h1 h2 => ?_
    · rw [List.length_zip, List.length_map, List.length_range]; unfold col; rw [List.length_map]; omega
    · rw [List.length_zip] at h1
      have hc : (col j rows).length = rows.length := by unfold col; rw [List.length_map]
      have h3 : i < rows.length := by omega
      have h4 : i < ws.length := by omega
      rw [List.getElem_zip, List.getElem_map, List.getElem_range]
      unfold col nth
      rw [List.getElem_map, List.getElem?_eq_getElem h3, List.getElem?_eq_getElem h4]; rfl
  unfold wsum
  rw [hz, List.filter_map, List.map_map]
  rfl
theorem due_cp {T : Pr} (hT : T.lookup "_law_due" = some (10, B._law_due)) {k : Nat} {ws qs : List Int} {rows : List (List Int)} (hq : ∀ q ∈ qs, Cq ws q) (hl : rows.length = ws.length) (hz : ws.length < 1000) (hz2 : qs.length < 1000) (hr : ∀ r ∈ rows, qs.length ≤ r.length) (o : Bool) :
    cp T (k + 1) "_law_due" [.fz (partsD ws qs), ow o (rowsD rows)] fun r os => r = .fz (rowD (setRow ws qs rows)) ∧ os = [none, if o then some (.own (rowsD rows)) else none] := by
  have big := big1000
  have lq : (qs.map PyData.int).length = qs.length := List.length_map _
  have lw : (ws.map PyData.int).length = ws.length := List.length_map _
  refine ecp_of hT ?_
  cases o
  · show WB ⟨callDD T k, T.I⟩ [] _ [some (.fz (.tuple [.list (ws.map .int), .list (qs.map .int)])), some (.fz (.list (rows.map rowD))), none, none, none, none, none, none, none, none] (zF [] 2 _)
    repeat fail "s"
    refine ex_for ?_
    repeat fail "s"
    refine efor (N := qs.length) (fun i E => ∃ u3 u6 u7, E = [some (.fz (partsD ws qs)), some (.fz (.list (rows.map rowD))), some (.own (.list (((List.range i).map fun j => setI ws (nth qs j) (col j rows)).map .int))), u3, some (.fz (.list (ws.map .int))), some (.fz (.list (qs.map .int))), u6, u7, none, none])
      (by show (((qs.map PyData.int).length : Int) - 0).toNat = _; rw [List.length_map]; omega) ⟨_, _, _, rfl⟩ ?_ ?_
    · rintro j E hj ⟨u3, u6, u7, rfl⟩
      refine ⟨.int (0 + (j : Int)), if_pos (by show j < (((qs.map PyData.int).length : Int) - 0).toNat; rw [List.length_map]; omega), ?_⟩
      have hC : Cq ws (nth qs j) := by
        unfold nth
        rw [List.getElem?_eq_getElem hj]
        exact hq _ (List.getElem_mem hj)
      have hcl : (col j rows).length = ws.length := by unfold col; rw [List.length_map]; exact hl
      obtain ⟨-, k2, -, -⟩ := set_col hC hcl
      have hqj : indexD (.list (qs.map .int)) (.int (0 + (j : Int))) = some (.int (nth qs j)) := by
        refine list_at' ?_ hj
        omega
      rw [Int.zero_add]
      rw [Int.zero_add] at hqj
      repeat fail "s"
      refine ex_for ?_
      repeat fail "s"
      refine ew_comp ?_
      repeat fail "s"
      refine ⟨⟨rfl, rfl⟩, ?_⟩
      refine ecomp_pure (enc := rowD) rows (fun _ => true) (fun r => .int (nth r j)) (by simp [Wd.n, Src.n]) (by omega) (fun i => rfl) (rfl) (fun r hr' => ?_) ?_
      · refine ⟨_, rfl, rfl, ?_⟩
        repeat fail "s"
        intro _
        repeat fail "s"
        refine q_idx (row_at (by omega) (by have := hr r hr'; omega)) ?_
        repeat fail "s"
        first | rfl | exact ⟨rfl, rfl⟩
      have em : (rows.map fun r => PyData.int (nth r j)) = (col j rows).map .int := map_int
      rw [filter_true, em]
      repeat fail "s"
      refine efor (N := (col j rows).length) (fun i E => ∃ u7, E = [some (.fz (partsD ws qs)), some (.fz (.list (rows.map rowD))), some (.own (.list (((List.range j).map fun j => setI ws (nth qs j) (col j rows)).map .int))), some (.fz (.int (j : Int))), some (.fz (.list (ws.map .int))), some (.fz (.list (qs.map .int))), some (.own (.list ((((col j rows).take i).filter fun e => decide (nth qs j ≤ wsum e ((col j rows).zip ws))).map .int))), u7, none, none])
        (by simp [Wd.n, Src.n]) ⟨_, rfl⟩ ?_ ?_
      · rintro i E hi ⟨u7, rfl⟩
        refine ⟨.int ((col j rows)[i]), ?_, ?_⟩
        · refine (rfl : _ = ((col j rows).map PyData.int)[i]?).trans ?_
          rw [List.getElem?_map, List.getElem?_eq_getElem hi]; rfl
        have et : ∀ p : Int → Bool, ((col j rows).take (i + 1)).filter p = ((col j rows).take i).filter p ++ (if p ((col j rows)[i]) = true then [(col j rows)[i]] else []) := fun p => by
          rw [List.take_add_one, List.getElem?_eq_getElem hi, List.filter_append]
          congr 1
          show List.filter p [_] = _
          rw [List.filter_cons, List.filter_nil]
        have len : ∀ p : Int → Bool, (((col j rows).take i).filter p).length ≤ i := fun p => Nat.le_trans (List.length_filter_le _ _) (by rw [List.length_take]; omega)
        rw [et]
        have len := len fun e => decide (nth qs j ≤ wsum e ((col j rows).zip ws))
        generalize ((col j rows).take i).filter (fun e => decide (nth qs j ≤ wsum e ((col j rows).zip ws))) = fs at *
        generalize (col j rows)[i] = e
        repeat fail "s"
        refine ew_comp ?_
        repeat fail "s"
        refine ⟨⟨rfl, rfl⟩, ?_⟩
        refine ecomp_pure (enc := fun i : Nat => .int (0 + (i : Int))) (List.range ws.length) (fun i => decide (nth ((rows[i]?).getD []) j ≤ e)) (fun i => .int (nth ws i)) ?_ (by rw [List.length_range]; omega) (fun i => ?_) rfl (fun i hi2 => ?_) ?_
        · show (((ws.map PyData.int).length : Int) - 0).toNat = _
          rw [List.length_map, List.length_range]; omega
        · show (if i < (((ws.map PyData.int).length : Int) - 0).toNat then some (PyData.int (0 + (i : Int))) else none) = _
          rw [List.length_map, List.getElem?_map]
          by_cases c : i < ws.length
          · rw [if_pos (by omega), List.getElem?_range c]; rfl
          · rw [if_neg (by omega), List.getElem?_eq_none (by rw [List.length_range]; omega)]; rfl
        · have hi3 := List.mem_range.mp hi2
          have hi4 : i < rows.length := by omega
          rw [Int.zero_add]
          refine ⟨_, rfl, rfl, ?_⟩
          repeat fail "s"
          refine q_idx (d := rowD ((rows[i]?).getD [])) (rows_at hi4) ?_
          have hrl : qs.length ≤ ((rows[i]?).getD []).length := by
            rw [List.getElem?_eq_getElem hi4]
            exact hr _ (List.getElem_mem hi4)
          generalize (rows[i]?).getD [] = r at hrl
          repeat fail "s"
          refine q_idx (row_at (by omega) (by omega)) ?_
          repeat fail "s"
          intro hp
          repeat fail "s"
          refine q_idx (list_at' rfl hi3) ?_
          repeat fail "s"
          first | rfl | exact ⟨rfl, rfl⟩
        · have em2 : (((List.range ws.length).filter fun i => decide (nth ((rows[i]?).getD []) j ≤ e)).map fun i => PyData.int (nth ws i)) = (((List.range ws.length).filter fun i => decide (nth ((rows[i]?).getD []) j ≤ e)).map (nth ws)).map .int := map_int
          rw [em2]
          repeat fail "s"
          refine q_sum ?_
          rw [sum_w hl]
          repeat fail "s"
          refine q_idx hqj ?_
          repeat fail "s"
          refine eq_dec (fun hc => ?_) (fun hc => ?_)
          · repeat fail "s"
            refine em_append rfl (by rw [List.length_map]; have := len; omega) ?_
            repeat fail "s"
            refine ⟨some (.fz (.int e)), ?_⟩
            rw [if_pos (decide_eq_true hc), List.map_append]; rfl
          · repeat fail "s"
            refine ⟨some (.fz (.int e)), ?_⟩
            rw [if_neg (by rw [decide_eq_false hc]; exact Bool.false_ne_true), List.append_nil]
            rfl
      · rintro E ⟨u7, rfl⟩
        refine ⟨rfl, ?_⟩
        rw [List.take_length]
        repeat fail "s"
        refine q_min1 k2 ?_
        repeat fail "s"
        refine em_append rfl (by rw [List.length_map, List.length_map, List.length_range]; omega) ?_
        repeat fail "s"
        refine ⟨some (.fz (.int (j : Int))), some (.own (.list ((dueI ws (nth qs j) (col j rows)).map .int))), u7, ?_⟩
        rw [List.range_succ, List.map_append, List.map_append]; rfl
    · rintro E ⟨u3, u6, u7, rfl⟩
      refine ⟨rfl, ?_⟩
      repeat fail "s"
      first | rfl | exact ⟨rfl, rfl⟩
  · show WB ⟨callDD T k, T.I⟩ [1] _ [some (.fz (.tuple [.list (ws.map .int), .list (qs.map .int)])), some (.own (.list (rows.map rowD))), none, none, none, none, none, none, none, none] (zF [1] 2 _)
    repeat fail "s"
    refine ex_for ?_
    repeat fail "s"
    refine efor (N := qs.length) (fun i E => ∃ u3 u6 u7, E = [some (.fz (partsD ws qs)), some (.own (.list (rows.map rowD))), some (.own (.list (((List.range i).map fun j => setI ws (nth qs j) (col j rows)).map .int))), u3, some (.fz (.list (ws.map .int))), some (.fz (.list (qs.map .int))), u6, u7, none, none])
      (by show (((qs.map PyData.int).length : Int) - 0).toNat = _; rw [List.length_map]; omega) ⟨_, _, _, rfl⟩ ?_ ?_
    · rintro j E hj ⟨u3, u6, u7, rfl⟩
      refine ⟨.int (0 + (j : Int)), if_pos (by show j < (((qs.map PyData.int).length : Int) - 0).toNat; rw [List.length_map]; omega), ?_⟩
      have hC : Cq ws (nth qs j) := by
        unfold nth
        rw [List.getElem?_eq_getElem hj]
        exact hq _ (List.getElem_mem hj)
      have hcl : (col j rows).length = ws.length := by unfold col; rw [List.length_map]; exact hl
      obtain ⟨-, k2, -, -⟩ := set_col hC hcl
      have hqj : indexD (.list (qs.map .int)) (.int (0 + (j : Int))) = some (.int (nth qs j)) := by
        refine list_at' ?_ hj
        omega
      rw [Int.zero_add]
      rw [Int.zero_add] at hqj
      repeat fail "s"
      refine ex_for ?_
      repeat fail "s"
      refine ew_comp ?_
      repeat fail "s"
      refine ⟨⟨rfl, rfl⟩, ?_⟩
      refine ecomp_pure (enc := rowD) rows (fun _ => true) (fun r => .int (nth r j)) (by simp [Wd.n, Src.n]) (by omega) (fun i => at_var rfl i) (ends_var rfl) (fun r hr' => ?_) ?_
      · refine ⟨_, rfl, rfl, ?_⟩
        repeat fail "s"
        intro _
        repeat fail "s"
        refine q_idx (row_at (by omega) (by have := hr r hr'; omega)) ?_
        repeat fail "s"
        first | rfl | exact ⟨rfl, rfl⟩
      have em : (rows.map fun r => PyData.int (nth r j)) = (col j rows).map .int := map_int
      rw [filter_true, em]
      repeat fail "s"
      refine efor (N := (col j rows).length) (fun i E => ∃ u7, E = [some (.fz (partsD ws qs)), some (.own (.list (rows.map rowD))), some (.own (.list (((List.range j).map fun j => setI ws (nth qs j) (col j rows)).map .int))), some (.fz (.int (j : Int))), some (.fz (.list (ws.map .int))), some (.fz (.list (qs.map .int))), some (.own (.list ((((col j rows).take i).filter fun e => decide (nth qs j ≤ wsum e ((col j rows).zip ws))).map .int))), u7, none, none])
        (by simp [Wd.n, Src.n]) ⟨_, rfl⟩ ?_ ?_
      · rintro i E hi ⟨u7, rfl⟩
        refine ⟨.int ((col j rows)[i]), ?_, ?_⟩
        · refine (rfl : _ = ((col j rows).map PyData.int)[i]?).trans ?_
          rw [List.getElem?_map, List.getElem?_eq_getElem hi]; rfl
        have et : ∀ p : Int → Bool, ((col j rows).take (i + 1)).filter p = ((col j rows).take i).filter p ++ (if p ((col j rows)[i]) = true then [(col j rows)[i]] else []) := fun p => by
          rw [List.take_add_one, List.getElem?_eq_getElem hi, List.filter_append]
          congr 1
          show List.filter p [_] = _
          rw [List.filter_cons, List.filter_nil]
        have len : ∀ p : Int → Bool, (((col j rows).take i).filter p).length ≤ i := fun p => Nat.le_trans (List.length_filter_le _ _) (by rw [List.length_take]; omega)
        rw [et]
        have len := len fun e => decide (nth qs j ≤ wsum e ((col j rows).zip ws))
        generalize ((col j rows).take i).filter (fun e => decide (nth qs j ≤ wsum e ((col j rows).zip ws))) = fs at *
        generalize (col j rows)[i] = e
        repeat fail "s"
        refine ew_comp ?_
        repeat fail "s"
        refine ⟨⟨rfl, rfl⟩, ?_⟩
        refine ecomp_pure (enc := fun i : Nat => .int (0 + (i : Int))) (List.range ws.length) (fun i => decide (nth ((rows[i]?).getD []) j ≤ e)) (fun i => .int (nth ws i)) ?_ (by rw [List.length_range]; omega) (fun i => ?_) rfl (fun i hi2 => ?_) ?_
        · show (((ws.map PyData.int).length : Int) - 0).toNat = _
          rw [List.length_map, List.length_range]; omega
        · show (if i < (((ws.map PyData.int).length : Int) - 0).toNat then some (PyData.int (0 + (i : Int))) else none) = _
          rw [List.length_map, List.getElem?_map]
          by_cases c : i < ws.length
          · rw [if_pos (by omega), List.getElem?_range c]; rfl
          · rw [if_neg (by omega), List.getElem?_eq_none (by rw [List.length_range]; omega)]; rfl
        · have hi3 := List.mem_range.mp hi2
          have hi4 : i < rows.length := by omega
          rw [Int.zero_add]
          refine ⟨_, rfl, rfl, ?_⟩
          repeat fail "s"
          refine q_idx (d := rowD ((rows[i]?).getD [])) (rows_at hi4) ?_
          have hrl : qs.length ≤ ((rows[i]?).getD []).length := by
            rw [List.getElem?_eq_getElem hi4]
            exact hr _ (List.getElem_mem hi4)
          generalize (rows[i]?).getD [] = r at hrl
          repeat fail "s"
          refine q_idx (row_at (by omega) (by omega)) ?_
          repeat fail "s"
          intro hp
          repeat fail "s"
          refine q_idx (list_at' rfl hi3) ?_
          repeat fail "s"
          first | rfl | exact ⟨rfl, rfl⟩
        · have em2 : (((List.range ws.length).filter fun i => decide (nth ((rows[i]?).getD []) j ≤ e)).map fun i => PyData.int (nth ws i)) = (((List.range ws.length).filter fun i => decide (nth ((rows[i]?).getD []) j ≤ e)).map (nth ws)).map .int := map_int
          rw [em2]
          repeat fail "s"
          refine q_sum ?_
          rw [sum_w hl]
          repeat fail "s"
          refine q_idx hqj ?_
          repeat fail "s"
          refine eq_dec (fun hc => ?_) (fun hc => ?_)
          · repeat fail "s"
            refine em_append rfl (by rw [List.length_map]; have := len; omega) ?_
            repeat fail "s"
            refine ⟨some (.fz (.int e)), ?_⟩
            rw [if_pos (decide_eq_true hc), List.map_append]; rfl
          · repeat fail "s"
            refine ⟨some (.fz (.int e)), ?_⟩
            rw [if_neg (by rw [decide_eq_false hc]; exact Bool.false_ne_true), List.append_nil]
            rfl
      · rintro E ⟨u7, rfl⟩
        refine ⟨rfl, ?_⟩
        rw [List.take_length]
        repeat fail "s"
        refine q_min1 k2 ?_
        repeat fail "s"
        refine em_append rfl (by rw [List.length_map, List.length_map, List.length_range]; omega) ?_
        repeat fail "s"
        refine ⟨some (.fz (.int (j : Int))), some (.own (.list ((dueI ws (nth qs j) (col j rows)).map .int))), u7, ?_⟩
        rw [List.range_succ, List.map_append, List.map_append]; rfl
    · rintro E ⟨u3, u6, u7, rfl⟩
      refine ⟨rfl, ?_⟩
      repeat fail "s"
      first | rfl | exact ⟨rfl, rfl⟩
end HI

set_option maxRecDepth 100000
set_option maxHeartbeats 1000000
namespace HI
open PySem L2 SrtO
-- eng
local macro_rules | `(tactic| fail "s") => `(tactic| first
  | refine ex_cons ?_ | refine ex_nx ?_ | refine ex_rt ?_ | refine ex_bk ?_ | refine ex_ct ?_ | refine ex_nil ?_
  | refine ew_fz rfl ?_ | refine ew_own rfl ?_ | refine ew_rol rfl ?_ | refine ew_cst rfl ?_ | refine ew_bin ?_ | refine ew_idx ?_ | refine ew_nil ?_ | refine ew_cons ?_ | refine ew_call ?_ | refine ew_bcall ?_
  | refine ew_not ?_ | refine ew_neg ?_ | refine ew_and ?_ | refine ew_or ?_ | refine ew_chain ?_ | refine ew_ife ?_ | refine ew_lst ?_ | refine ew_tup ?_ | refine ew_slc ?_ | refine ew_meth ?_ | refine ew_fld ?_ | refine ew_mk ?_
  | refine ex_asg ?_ | refine ex_asgT ?_ | refine ex_asgS ?_ | refine ex_asgF ?_ | refine ex_aug rfl ?_ | refine ex_augS ?_ | refine ex_ex ?_ | refine ex_ite ?_ | refine ex_ret ?_ | refine ex_brk ?_ | refine ex_cont ?_ | refine ex_pass ?_ | refine ex_par ?_
  | refine q_rng (by omega) ?_ | refine ei_seq ?_ | refine ei_enum ?_ | refine ei_zip ?_ | refine ei_rng1 ?_ | refine ei_rng2 ?_
  | refine WE_of ?_ | refine WB_of ?_ | refine WT_of ?_
  | refine q_dat rfl ?_ | refine q_datRr ?_ | refine q_datR rfl ?_ | refine q_truB rfl ?_ | refine eq_t ?_ | refine eq_f ?_
  | refine q_add_i ?_ | refine q_sub_i ?_ | refine q_lt_i ?_ | refine q_le_i ?_ | refine q_gt_i ?_ | refine q_ge_i ?_ | refine q_eq_i ?_ | refine q_ne_i ?_ | refine q_eq_s ?_ | refine q_ne_s ?_ | refine q_pow_18 ?_ | refine q_is_n ?_ | refine q_is_b ?_ | refine q_isn_b ?_ | refine q_isn_n ?_
  | refine q_idx rfl ?_ | refine p_no ?_ | refine ep_yes ?_ | refine q_slcL ?_ | refine d_nil ?_ | refine d_cons ?_ | refine q_bfn rfl ?_
  | refine f_fz ?_ | refine f_own ?_ | refine ef_var rfl ?_ | refine f_varF rfl ?_ | refine f_nil ?_ | refine f_cons ?_
  | refine r_fz ?_ | refine r_own ?_ | refine r_rol ?_ | refine er_var rfl ?_ | refine rs_nil ?_ | refine rs_cons ?_
  | refine ek_0 ?_ | refine ek_s ?_ | refine ess_nil ?_ | refine ess_cons rfl ?_ | refine esv_nil ?_ | refine esv_cons rfl ?_
  | refine q_tup ?_ | refine ea_nm rfl ?_ | refine ea_tp ?_ | refine s_fzl ?_ | refine s_fzt ?_ | refine s_own ?_ | refine s_rol ?_ | refine s_var rfl ?_
  | refine eo_nil ?_ | refine eo_fz ?_ | refine eo_own ?_ | refine eo_rol ?_ | refine eo_var rfl ?_
  | refine fq_nx ?_ | refine fq_rt ?_ | refine t_fz ?_ | refine t_own ?_ | refine et_var rfl rfl ?_ | refine et_varP rfl rfl ?_
  | refine q_rec rfl ?_ | refine em_l ?_ | refine em_r rfl ?_ | refine q_fld rfl ?_
  | refine side_int rfl ?_ | refine side_int2 rfl rfl ?_ | refine side_bool rfl ?_ | refine side_var rfl ?_
  | refine side rfl ?_ | refine side (Nat.le_of_ble_eq_true rfl) ?_ | refine em_set0 rfl ?_ | refine em_set1 rfl ?_ | refine em_set2 rfl ?_ | refine em_clear rfl ?_ | refine m_fld rfl rfl ?_ | refine ekl_0 ?_ | refine ekl_s ?_ | refine side_some rfl ?_
  | refine q_mul_i (by omega) (by omega) ?_ | refine q_mod_i (by omega) ?_ | refine q_fdiv_i (by omega) (by omega) ?_)
-- gne
/-- what the council laws rest on -/
structure CH0 (T : Pr) : Prop extends CL T where
  ste : T.lookup "settle" = some (7, B.settle)
  sed : T.lookup "settled" = some (7, B.settled)
  bag : T.lookup "_law_bag" = some (2, B._law_bag)
  tak : T.lookup "_law_take" = some (6, B._law_take)
  cou : T.lookup "_law_council" = some (11, B._law_council)
  mad : T.lookup "_law_made" = some (1, B._law_made)
structure CH (T : Pr) : Prop extends CH0 T where
  ali : T.lookup "_law_alike" = some (2, B._law_alike)
/-- a council and its parts -/
structure Kc (width most : Nat) where
  ws : List Int
  qs : List Int
  ok : Co ws qs width most
def Kc.p {width most : Nat} (c : Kc width most) : PyData := partsD c.ws c.qs
def Kc.c {width most : Nat} (c : Kc width most) : PyData := cD c.ws c.qs
theorem cs_mem {α : Type} {f : α → PyData} {xs : List α} {k : Int} (h0 : 0 ≤ k) (h1 : k < xs.length) : ∃ h : k.toNat < xs.length, indexD (.list (xs.map f)) (.int k) = some (f (xs[k.toNat])) := by
  have hk : k.toNat < xs.length := by omega
  refine ⟨hk, ?_⟩
  show atI (xs.map f) k = _
  unfold atI ixN
  rw [List.length_map, if_pos h0, if_pos h1]
  show (xs.map f)[k.toNat]? = _
  rw [List.getElem?_map, List.getElem?_eq_getElem hk]; rfl
def askD (a : Nat × List (List Int)) : PyData := .tuple [.int (a.1 : Nat), rowsD a.2]
def AskOk {width : Nat} (cs : List (Kc width 7)) (a : Nat × List (List Int)) : Prop := ∃ h : a.1 < cs.length, a.2.length = (cs[a.1]).ws.length ∧ ∀ r ∈ a.2, FarR width r
theorem setRow_far {ws qs : List Int} {width most : Nat} {rows : List (List Int)} (C : Co ws qs width most) (hl : rows.length = ws.length) (hr : ∀ r ∈ rows, FarR width r) : FarR width (setRow ws qs rows) := by
  refine ⟨by unfold setRow; rw [List.length_map, List.length_range]; exact C.ql, fun x hx => ?_⟩
  obtain ⟨j, hj, rfl⟩ := List.mem_map.mp hx
  have hj := List.mem_range.mp hj
  have hC : Cq ws (nth qs j) := by
    unfold nth
    rw [List.getElem?_eq_getElem hj]
    exact C.cq (List.getElem_mem hj)
  obtain ⟨-, -, h3, -⟩ := set_col hC (es := col j rows) (by unfold col; rw [List.length_map]; exact hl)
  obtain ⟨r, hr1, e⟩ := List.mem_map.mp h3
  rw [← e]
  obtain ⟨k1, k2⟩ := hr r hr1
  refine k2 _ ?_
  have hq := C.ql
  unfold nth
  rw [List.getElem?_eq_getElem (by omega)]
  exact List.getElem_mem _
theorem ints_nice {xs : List Int} (h : ∀ x ∈ xs, -1000000000000000000 ≤ x ∧ x ≤ 1000000000000000000) : Nice (.list (xs.map .int)) (xs.length * 135) 1 := by
  have := nice_lst (nl_all (ds := xs.map .int) (w := 134) (dp := 0) fun d hd => by
    obtain ⟨x, hx, rfl⟩ := List.mem_map.mp hd
    have := h x hx
    exact nice_int (by omega))
  rwa [List.length_map] at this
theorem ws_sum {ws : List Int} (h : ∀ w ∈ ws, 1 ≤ w ∧ w ≤ 1000000) : (ws.length : Int) ≤ ws.sum ∧ ws.sum ≤ 1000000 * ws.length := by
  induction ws with
  | nil => exact ⟨Int.le_refl _, Int.le_refl _⟩
  | cons x ws ih =>
    have h1 := h x List.mem_cons_self
    obtain ⟨i1, i2⟩ := ih fun y hy => h y (List.mem_cons_of_mem _ hy)
    rw [List.sum_cons, List.length_cons]
    omega
theorem Co.nice {ws qs : List Int} {width most : Nat} (C : Co ws qs width most) (h7 : most ≤ 7) : Nice (.list [.list (ws.map .int), .list (qs.map .int)]) (ws.length * 135 + 1 + (qs.length * 135 + 1 + 0)) 2 := by
  have hs := ws_sum C.w
  have l7 := C.l7
  have n1 := ints_nice (xs := ws) fun x hx => by have := C.w x hx; omega
  have n2 := ints_nice (xs := qs) fun x hx => by have := C.q x hx; omega
  exact nice_lst (nl_cons n1 (nl_cons n2 nl_nil))
theorem at_zip {E : Dn} {i j : Nat} {xs ys : List PyData} (e1 : slotV E i = some (.own (.list xs))) (e2 : slotV E j = some (.own (.list ys))) (n : Nat) : (Wd.zip (.var i xs.length) (.var j ys.length)).at n E = (xs[n]?).bind fun x => (ys[n]?).map fun y => .tuple [x, y] := by
  have a1 := at_var e1 n
  have a2 := at_var e2 n
  show (Src.at E (.var i xs.length) n).bind (fun x => (Src.at E (.var j ys.length) n).map fun y => PyData.tuple [x, y]) = _
  rw [show Src.at E (.var i xs.length) n = xs[n]? from a1, show Src.at E (.var j ys.length) n = ys[n]? from a2]
theorem ends_zip {E : Dn} {i j : Nat} {xs ys : List PyData} (e1 : slotV E i = some (.own (.list xs))) (e2 : slotV E j = some (.own (.list ys))) : (Wd.zip (.var i xs.length) (.var j ys.length)).ends E = true := by
  have a1 := ends_var e1
  have a2 := ends_var e2
  show ((Src.now E (.var i xs.length)).isSome && (Src.now E (.var j ys.length)).isSome) = true
  rw [show (Src.now E (.var i xs.length)).isSome = true from a1, show (Src.now E (.var j ys.length)).isSome = true from a2]; rfl
theorem last_at {rows : List (List Int)} (h : 0 < rows.length) : ∃ r ∈ rows, indexD (.list (rows.map rowD)) (.int (-1)) = some (rowD r) := by
  have hk : rows.length - 1 < rows.length := by omega
  refine ⟨rows[rows.length - 1], List.getElem_mem hk, ?_⟩
  show atI (rows.map rowD) (-1) = _
  unfold atI ixN
  rw [List.length_map, if_neg (by omega), if_pos (by omega)]
  show (rows.map rowD)[(-1 + (rows.length : Int)).toNat]? = _
  rw [show (-1 + (rows.length : Int)).toNat = rows.length - 1 by omega, List.getElem?_map, List.getElem?_eq_getElem hk]; rfl
end HI

set_option maxRecDepth 100000
namespace B
open PySem L2 HI
def _law_mapped : Sms := (.cons (.asg (.nm 2) (.lst .nil)) (.cons (.for_ (.nm 3) (.seq (.slot 0)) (.cons (.ex (.meth "append" "append" (.slot 2) (.cons (.bcall "tuple" (.cons (.comp [4] (.nm 4) (.seq (.slot 3)) (.cst (.bl true)) (.idx (.lst (.cons (.bin .fdiv (.slot 4) (.cst (.int (2)))) (.cons (.bcall "max" (.cons (.cst (.int (0))) (.cons (.slot 4) .nil))) (.cons (.bin .mul (.bin .mul (.slot 4) (.slot 4)) (.slot 4)) .nil)))) (.slot 1))) .nil)) .nil))) .nil)) (.cons (.ret (.slot 2)) .nil)))
def _law_small : Sms := (.cons (.ret (.comp [1] (.nm 1) (.seq (.slot 0)) (.cst (.bl true)) (.bcall "tuple" (.cons (.comp [2] (.nm 2) (.seq (.slot 1)) (.cst (.bl true)) (.bcall "max" (.cons (.neg (.bin .pow (.cst (.int (10))) (.cst (.int (6))))) (.cons (.bcall "min" (.cons (.bin .pow (.cst (.int (10))) (.cst (.int (6)))) (.cons (.slot 2) .nil))) .nil)))) .nil)))) .nil)
def law_k28 : Sms := (.cons (.asg (.nm 1) (.call "_law_bag" (.cons (.slot 0) .nil))) (.cons (.for_ (.nm 2) (.rng1 (.cst (.int (3)))) (.cons (.asg (.nm 3) (.bin .add (.cst (.int (1))) (.call "_law_take" (.cons (.slot 1) (.cons (.cst (.int (6))) .nil))))) (.cons (.asg (.nm 4) (.call "_law_council" (.cons (.slot 1) (.cons (.slot 3) (.cons (.cst (.int (7))) .nil))))) (.cons (.asg (.tp [11, 12]) (.slot 4)) (.cons (.par [13, 14] (.cons (.call "_law_made" (.cons (.slot 4) .nil)) (.cons (.bcall "len" (.cons (.slot 11) .nil)) .nil))) (.cons (.asg (.nm 5) (.call "_law_small" (.cons (.call "_law_seat_rows" (.cons (.slot 1) (.cons (.slot 3) (.cons (.slot 14) .nil)))) .nil))) (.cons (.par [15, 16] (.cons (.call "settle" (.cons (.slot 13) (.cons (.slot 5) .nil))) (.cons (.call "_law_take" (.cons (.slot 1) (.cons (.cst (.int (3))) .nil))) .nil))) (.cons (.ite (.not (.call "_law_alike" (.cons (.call "settle" (.cons (.slot 13) (.cons (.call "_law_mapped" (.cons (.slot 5) (.cons (.slot 16) .nil))) .nil))) (.cons (.idx (.call "_law_mapped" (.cons (.lst (.cons (.slot 15) .nil)) (.cons (.slot 16) .nil))) (.cst (.int (0)))) .nil)))) (.cons (.ret (.cst (.bl false))) .nil) .nil) (.cons (.asg (.nm 6) (.call "_law_take" (.cons (.slot 1) (.cons (.slot 14) .nil)))) (.cons (.asg (.nm 7) (.mk 0 (.cons (.bin .add (.slc (.slot 11) true (.slot 6) false (.cst .non)) (.slc (.slot 11) false (.cst .non) true (.slot 6))) (.cons (.bcall "list" (.cons (.slot 12) .nil)) .nil)))) (.cons (.ite (.or (.bin .ne (.call "settle" (.cons (.slot 7) (.cons (.bin .add (.slc (.slot 5) true (.slot 6) false (.cst .non)) (.slc (.slot 5) false (.cst .non) true (.slot 6))) .nil))) (.slot 15)) (.bin .ne (.call "settle" (.cons (.slot 13) (.cons (.bin .mul (.lst (.cons (.idx (.slot 5) (.slot 6)) .nil)) (.slot 14)) .nil))) (.idx (.slot 5) (.slot 6)))) (.cons (.ret (.cst (.bl false))) .nil) .nil) (.cons (.ite (.and (.bin .gt (.slot 14) (.cst (.int (2)))) (.bin .le (.bin .add (.idx (.slot 11) (.cst (.int (0)))) (.idx (.slot 11) (.cst (.int (1))))) (.cst (.int (1000000))))) (.cons (.asg (.nm 17) (.mk 0 (.cons (.bin .add (.lst (.cons (.bin .add (.idx (.slot 11) (.cst (.int (0)))) (.idx (.slot 11) (.cst (.int (1))))) .nil)) (.slc (.slot 11) true (.cst (.int (2))) false (.cst .non))) (.cons (.bcall "list" (.cons (.slot 12) .nil)) .nil)))) (.cons (.ite (.bin .ne (.call "settle" (.cons (.slot 17) (.cons (.slc (.slot 5) true (.cst (.int (1))) false (.cst .non)) .nil))) (.call "settle" (.cons (.slot 13) (.cons (.bin .add (.lst (.cons (.idx (.slot 5) (.cst (.int (1)))) .nil)) (.slc (.slot 5) true (.cst (.int (1))) false (.cst .non))) .nil)))) (.cons (.ret (.cst (.bl false))) .nil) .nil) .nil)) .nil) (.cons (.for_ (.nm 8) (.rng1 (.slot 3)) (.cons (.asg (.nm 18) (.comp [19] (.nm 19) (.seq (.slot 5)) (.cst (.bl true)) (.idx (.slot 19) (.slot 8)))) (.cons (.ite (.not (.chain .le .le (.bcall "min" (.cons (.slot 18) .nil)) (.idx (.slot 15) (.slot 8)) (.bcall "max" (.cons (.slot 18) .nil)))) (.cons (.ret (.cst (.bl false))) .nil) .nil) .nil))) (.cons (.asg (.nm 9) (.call "_law_take" (.cons (.slot 1) (.cons (.bin .pow (.cst (.int (10))) (.cst (.int (6)))) .nil)))) (.cons (.asg (.nm 10) (.comp [19] (.nm 19) (.seq (.slot 5)) (.cst (.bl true)) (.bcall "tuple" (.cons (.comp [20] (.nm 20) (.seq (.slot 19)) (.cst (.bl true)) (.bin .add (.slot 20) (.slot 9))) .nil)))) (.cons (.ite (.bin .ne (.call "settle" (.cons (.slot 13) (.cons (.slot 10) .nil))) (.bcall "tuple" (.cons (.comp [20] (.nm 20) (.seq (.slot 15)) (.cst (.bl true)) (.bin .add (.slot 20) (.slot 9))) .nil))) (.cons (.ret (.cst (.bl false))) .nil) .nil) .nil)))))))))))))))) (.cons (.ret (.cst (.bl true))) .nil)))
end B
namespace K28
open PySem L2 HI
def CT : List Ci := [⟨"Council", "Council", 2, ["weights", "quotas", "total", "width"], ["seat_weights", "column_quotas"]⟩]
def tab : List (String × Nat × Sms) := [("settled", 7, B.settled), ("settle", 7, B.settle), ("is_integer", 1, B.is_integer), ("is_between", 3, B.is_between), ("are_weights", 2, B.are_weights), ("are_quotas", 3, B.are_quotas), ("Council.__init__", 3, B.Council_dot___init__), ("Council.weights", 1, B.Council_dot_weights), ("Council.quotas", 1, B.Council_dot_quotas), ("Council.total", 1, B.Council_dot_total), ("Council.width", 1, B.Council_dot_width), ("Council.__len__", 1, B.Council_dot___len__), ("_law_bag", 2, B._law_bag), ("_law_take", 6, B._law_take), ("_law_alike", 2, B._law_alike), ("_law_council", 11, B._law_council), ("_law_made", 1, B._law_made), ("_law_value", 3, B._law_value), ("_law_seat_rows", 8, B._law_seat_rows), ("_law_mapped", 5, B._law_mapped), ("_law_small", 3, B._law_small), ("law", 21, B.law_k28)]
def pr : Pr := ⟨tab, CT⟩
theorem l_settled : pr.lookup "settled" = some (7, B.settled) := by rfl
theorem l_settle : pr.lookup "settle" = some (7, B.settle) := by rfl
theorem l_is_integer : pr.lookup "is_integer" = some (1, B.is_integer) := by rfl
theorem l_is_between : pr.lookup "is_between" = some (3, B.is_between) := by rfl
theorem l_are_weights : pr.lookup "are_weights" = some (2, B.are_weights) := by rfl
theorem l_are_quotas : pr.lookup "are_quotas" = some (3, B.are_quotas) := by rfl
theorem l_Council_dot___init__ : pr.lookup "Council.__init__" = some (3, B.Council_dot___init__) := by rfl
theorem l_Council_dot_weights : pr.lookup "Council.weights" = some (1, B.Council_dot_weights) := by rfl
theorem l_Council_dot_quotas : pr.lookup "Council.quotas" = some (1, B.Council_dot_quotas) := by rfl
theorem l_Council_dot_total : pr.lookup "Council.total" = some (1, B.Council_dot_total) := by rfl
theorem l_Council_dot_width : pr.lookup "Council.width" = some (1, B.Council_dot_width) := by rfl
theorem l_Council_dot___len__ : pr.lookup "Council.__len__" = some (1, B.Council_dot___len__) := by rfl
theorem l__law_bag : pr.lookup "_law_bag" = some (2, B._law_bag) := by rfl
theorem l__law_take : pr.lookup "_law_take" = some (6, B._law_take) := by rfl
theorem l__law_alike : pr.lookup "_law_alike" = some (2, B._law_alike) := by rfl
theorem l__law_council : pr.lookup "_law_council" = some (11, B._law_council) := by rfl
theorem l__law_made : pr.lookup "_law_made" = some (1, B._law_made) := by rfl
theorem l__law_value : pr.lookup "_law_value" = some (3, B._law_value) := by rfl
theorem l__law_seat_rows : pr.lookup "_law_seat_rows" = some (8, B._law_seat_rows) := by rfl
theorem l__law_mapped : pr.lookup "_law_mapped" = some (5, B._law_mapped) := by rfl
theorem l__law_small : pr.lookup "_law_small" = some (3, B._law_small) := by rfl
theorem l_law : pr.lookup "law" = some (21, B.law_k28) := by rfl
end K28

set_option maxRecDepth 100000
set_option maxHeartbeats 1000000
/-! sessions keep order -/
namespace HI
open PySem L2 SrtO
theorem set_uniq {ws es : List Int} {q e : Int} (C : Cq ws q) (hl : es.length = ws.length) (h : ∀ x, q ≤ wsum x (es.zip ws) ↔ e ≤ x) : setI ws q es = e := by
  obtain ⟨-, -, -, k⟩ := set_col C hl
  have h1 := (k e).mp ((h e).mpr (Int.le_refl _))
  have h2 := (h (setI ws q es)).mp ((k _).mpr (Int.le_refl _))
  omega
theorem zip_nn {ws es : List Int} {q : Int} (C : Cq ws q) : ∀ p ∈ es.zip ws, 0 ≤ p.2 := fun p hp => C.w0 _ (List.of_mem_zip (a := p.1) (b := p.2) hp).2
theorem wsum_le {x y : Int} {f : Int → Int} : ∀ {ps : List (Int × Int)}, (∀ p ∈ ps, 0 ≤ p.2) → (∀ p ∈ ps, p.1 ≤ x → f p.1 ≤ y) → wsum x ps ≤ wsum y (ps.map fun p => (f p.1, p.2))
  | [], _, _ => Int.le_refl _
  | p :: ps, h, k => by
    have ih := wsum_le (fun a ha => h a (List.mem_cons_of_mem _ ha)) fun a ha => k a (List.mem_cons_of_mem _ ha)
    have h0 := h p List.mem_cons_self
    have k0 := k p List.mem_cons_self
    rw [List.map_cons, wsum_cons, wsum_cons]
    by_cases c : p.1 ≤ x
    · rw [if_pos c, if_pos (k0 c)]; omega
    · rw [if_neg c]; split <;> omega
theorem wsum_ge {x y : Int} {f : Int → Int} : ∀ {ps : List (Int × Int)}, (∀ p ∈ ps, 0 ≤ p.2) → (∀ p ∈ ps, f p.1 ≤ y → p.1 ≤ x) → wsum y (ps.map fun p => (f p.1, p.2)) ≤ wsum x ps
  | [], _, _ => Int.le_refl _
  | p :: ps, h, k => by
    have ih := wsum_ge (fun a ha => h a (List.mem_cons_of_mem _ ha)) fun a ha => k a (List.mem_cons_of_mem _ ha)
    have h0 := h p List.mem_cons_self
    have k0 := k p List.mem_cons_self
    rw [List.map_cons, wsum_cons, wsum_cons]
    dsimp only
    by_cases c : f p.1 ≤ y
    · rw [if_pos c, if_pos (k0 c)]; omega
    · rw [if_neg c]; split <;> omega
theorem set_map {ws es : List Int} {q : Int} (C : Cq ws q) (hl : es.length = ws.length) {f : Int → Int} (mono : ∀ a b, a ≤ b → f a ≤ f b) : setI ws q (es.map f) = f (setI ws q es) := by
  obtain ⟨-, -, -, k⟩ := set_col C hl
  obtain ⟨-, -, -, k'⟩ := set_col C (es := es.map f) (by rw [List.length_map]; exact hl)
  have ez : (es.map f).zip ws = (es.zip ws).map fun p => (f p.1, p.2) := by
    rw [List.zip_map_left]; rfl
  rw [ez] at k'
  have nn := zip_nn (es := es) C
  have h1 : setI ws q (es.map f) ≤ f (setI ws q es) := by
    refine (k' _).mp ?_
    have a := (k _).mpr (Int.le_refl _)
    have b := wsum_le (x := setI ws q es) (y := f (setI ws q es)) (f := f) nn fun p _ hp => mono _ _ hp
    omega
  have h2 : ¬ setI ws q (es.map f) < f (setI ws q es) := fun hlt => by
    have a := (k' _).mpr (Int.le_refl _)
    have b := wsum_ge (x := setI ws q es - 1) (y := setI ws q (es.map f)) (f := f) nn fun p _ hp => by
      apply Classical.byContradiction
      intro hc
      have := mono (setI ws q es) p.1 (by omega)
      omega
    have := (k (setI ws q es - 1)).mp (by omega)
    omega
  omega
theorem set_perm {ws es ws' es' : List Int} {q : Int} (C : Cq ws q) (hl : es.length = ws.length) (C' : Cq ws' q) (hl' : es'.length = ws'.length) (P : (es.zip ws).Perm (es'.zip ws')) : setI ws q es = setI ws' q es' := by
  refine set_uniq C hl fun x => ?_
  obtain ⟨-, -, -, k'⟩ := set_col C' hl'
  rw [wsum_perm P]
  exact k' x
theorem set_merge {r es2 : List Int} {a b x q : Int} (C : Cq (a :: b :: r) q) (C' : Cq ((a + b) :: r) q) (hl : es2.length = r.length) : setI ((a + b) :: r) q (x :: es2) = setI (a :: b :: r) q (x :: x :: es2) := by
  refine set_uniq C' (by rw [List.length_cons, List.length_cons, hl]) fun y => ?_
  obtain ⟨-, -, -, k⟩ := set_col C (es := x :: x :: es2) (by rw [List.length_cons, List.length_cons, List.length_cons, List.length_cons, hl])
  rw [← k y]
  have e1 : (x :: es2).zip ((a + b) :: r) = (x, a + b) :: es2.zip r := rfl
  have e2 : (x :: x :: es2).zip (a :: b :: r) = (x, a) :: (x, b) :: es2.zip r := rfl
  rw [e1, e2, wsum_cons, wsum_cons, wsum_cons]
  dsimp only
  by_cases c : x ≤ y
  · rw [if_pos c, if_pos c, if_pos c]; omega
  · rw [if_neg c, if_neg c, if_neg c]; omega
/-! rows -/
theorem setRow_len {ws qs : List Int} {rows : List (List Int)} : (setRow ws qs rows).length = qs.length := by unfold setRow; rw [List.length_map, List.length_range]
theorem setRow_nth {ws qs : List Int} {rows : List (List Int)} {j : Nat} (h : j < qs.length) : nth (setRow ws qs rows) j = setI ws (nth qs j) (col j rows) := by
  unfold setRow
  generalize hf : (fun j => setI ws (nth qs j) (col j rows)) = f
  unfold nth
  rw [List.getElem?_map, List.getElem?_range h, ← hf]; rfl
theorem nth_in {qs : List Int} {j : Nat} (h : j < qs.length) : nth qs j ∈ qs := by
  unfold nth
  rw [List.getElem?_eq_getElem h]
  exact List.getElem_mem h
theorem nth_map {f : Int → Int} {r : List Int} {j : Nat} (h : j < r.length) : nth (r.map f) j = f (nth r j) := by
  unfold nth
  rw [List.getElem?_map, List.getElem?_eq_getElem h]; rfl
theorem row_ext {r s : List Int} (hl : r.length = s.length) (h : ∀ j, j < r.length → nth r j = nth s j) : r = s := by
  refine List.ext_getElem hl fun j h1 h2 => ?_
  have := h j h1
  unfold nth at this
  rw [List.getElem?_eq_getElem h1, List.getElem?_eq_getElem h2] at this
  exact this
theorem setRow_map {ws qs : List Int} {rows : List (List Int)} (hq : ∀ q ∈ qs, Cq ws q) (hl : rows.length = ws.length) (hr : ∀ r ∈ rows, qs.length ≤ r.length) {f : Int → Int} (mono : ∀ a b, a ≤ b → f a ≤ f b) :
    setRow ws qs (rows.map fun r => r.map f) = (setRow ws qs rows).map f := by
  refine row_ext (by rw [setRow_len, List.length_map, setRow_len]) fun j hj => ?_
  rw [setRow_len] at hj
  rw [setRow_nth hj, nth_map (by rw [setRow_len]; exact hj), setRow_nth hj]
  have ec : col j (rows.map fun r => r.map f) = (col j rows).map f := by
    unfold col
    rw [List.map_map, List.map_map]
    refine List.map_congr_left fun r hr' => ?_
    exact nth_map (by have := hr r hr'; omega)
  rw [ec]
  exact set_map (hq _ (nth_in hj)) (by unfold col; rw [List.length_map]; exact hl) mono
theorem setRow_rot {ws qs : List Int} {rows : List (List Int)} (t : Nat) (hq : ∀ q ∈ qs, Cq ws q) (hl : rows.length = ws.length) :
    setRow (ws.drop t ++ ws.take t) qs (rows.drop t ++ rows.take t) = setRow ws qs rows := by
  refine row_ext (by rw [setRow_len, setRow_len]) fun j hj => ?_
  rw [setRow_len] at hj
  rw [setRow_nth hj, setRow_nth hj]
  have C := hq _ (nth_in hj)
  have pw : (ws.drop t ++ ws.take t).Perm ws := by
    have := List.perm_append_comm (l₁ := ws.drop t) (l₂ := ws.take t)
    rwa [List.take_append_drop] at this
  have C' : Cq (ws.drop t ++ ws.take t) (nth qs j) := ⟨C.q0, by rw [sum_perm pw]; exact C.q1, fun w hw => C.w0 w (pw.mem_iff.mp hw)⟩
  have ec : col j (rows.drop t ++ rows.take t) = (col j rows).drop t ++ (col j rows).take t := by
    unfold col; rw [List.map_append, List.map_drop, List.map_take]
  have hcl : (col j rows).length = ws.length := by unfold col; rw [List.length_map]; exact hl
  rw [ec]
  refine set_perm C' (by rw [List.length_append, List.length_append, List.length_drop, List.length_drop, List.length_take, List.length_take, hcl]) C hcl ?_
  rw [List.zip_append (by rw [List.length_drop, List.length_drop, hcl])]
  have e3 : (col j rows).zip ws = ((col j rows).take t).zip (ws.take t) ++ ((col j rows).drop t).zip (ws.drop t) := by
    rw [← List.zip_append (by rw [List.length_take, List.length_take, hcl]), List.take_append_drop, List.take_append_drop]
  rw [e3]
  exact List.perm_append_comm
theorem setRow_const {ws qs r : List Int} (hq : ∀ q ∈ qs, Cq ws q) (hr : r.length = qs.length) : setRow ws qs (List.replicate ws.length r) = r := by
  refine row_ext (by rw [setRow_len, hr]) fun j hj => ?_
  rw [setRow_len] at hj
  rw [setRow_nth hj]
  obtain ⟨-, -, k, -⟩ := set_col (hq _ (nth_in hj)) (es := col j (List.replicate ws.length r)) (by unfold col; rw [List.length_map, List.length_replicate])
  obtain ⟨s, hs, e⟩ := List.mem_map.mp k
  rw [← e, List.eq_of_mem_replicate hs]
theorem setRow_merge {ws2 qs : List Int} {a b : Int} {r : List Int} {rows2 : List (List Int)} (hq : ∀ q ∈ qs, Cq (a :: b :: ws2) q) (hq' : ∀ q ∈ qs, Cq ((a + b) :: ws2) q) (hl : rows2.length = ws2.length) :
    setRow ((a + b) :: ws2) qs (r :: rows2) = setRow (a :: b :: ws2) qs (r :: r :: rows2) := by
  refine row_ext (by rw [setRow_len, setRow_len]) fun j hj => ?_
  rw [setRow_len] at hj
  rw [setRow_nth hj, setRow_nth hj]
  exact set_merge (hq _ (nth_in hj)) (hq' _ (nth_in hj)) (by show (col j rows2).length = _; unfold col; rw [List.length_map]; exact hl)
theorem min_max {l : List Int} (h : l ≠ []) : ∃ a b, minI l = some a ∧ maxI l = some b ∧ ∀ x ∈ l, a ≤ x ∧ x ≤ b := by
  induction l with
  | nil => exact absurd rfl h
  | cons x r ih =>
    cases r with
    | nil => exact ⟨x, x, rfl, rfl, fun y hy => by rw [List.mem_singleton.mp hy]; exact ⟨Int.le_refl _, Int.le_refl _⟩⟩
    | cons y r =>
      obtain ⟨a, b, h1, h2, h3⟩ := ih (by simp)
      refine ⟨if a < x then a else x, if x < b then b else x, ?_, ?_, fun z hz => ?_⟩
      · show (match minI (y :: r) with | none => some x | some m => some (if m < x then m else x)) = _
        rw [h1]
      · show (match maxI (y :: r) with | none => some x | some m => some (if x < m then m else x)) = _
        rw [h2]
      · rcases List.mem_cons.mp hz with rfl | hz
        · split <;> split <;> omega
        · have := h3 z hz
          split <;> split <;> omega
end HI

set_option maxRecDepth 100000
set_option maxHeartbeats 1000000
namespace HI
open PySem L2 SrtO
-- eng
local macro_rules | `(tactic| fail "s") => `(tactic| first
  | refine ex_cons ?_ | refine ex_nx ?_ | refine ex_rt ?_ | refine ex_bk ?_ | refine ex_ct ?_ | refine ex_nil ?_
  | refine ew_fz rfl ?_ | refine ew_own rfl ?_ | refine ew_rol rfl ?_ | refine ew_cst rfl ?_ | refine ew_bin ?_ | refine ew_idx ?_ | refine ew_nil ?_ | refine ew_cons ?_ | refine ew_call ?_ | refine ew_bcall ?_
  | refine ew_not ?_ | refine ew_neg ?_ | refine ew_and ?_ | refine ew_or ?_ | refine ew_chain ?_ | refine ew_ife ?_ | refine ew_lst ?_ | refine ew_tup ?_ | refine ew_slc ?_ | refine ew_meth ?_ | refine ew_fld ?_ | refine ew_mk ?_
  | refine ex_asg ?_ | refine ex_asgT ?_ | refine ex_asgS ?_ | refine ex_asgF ?_ | refine ex_aug rfl ?_ | refine ex_augS ?_ | refine ex_ex ?_ | refine ex_ite ?_ | refine ex_ret ?_ | refine ex_brk ?_ | refine ex_cont ?_ | refine ex_pass ?_ | refine ex_par ?_
  | refine q_rng (by omega) ?_ | refine ei_seq ?_ | refine ei_enum ?_ | refine ei_zip ?_ | refine ei_rng1 ?_ | refine ei_rng2 ?_
  | refine WE_of ?_ | refine WB_of ?_ | refine WT_of ?_
  | refine q_dat rfl ?_ | refine q_datRr ?_ | refine q_datR rfl ?_ | refine q_truB rfl ?_ | refine eq_t ?_ | refine eq_f ?_
  | refine q_add_i ?_ | refine q_sub_i ?_ | refine q_lt_i ?_ | refine q_le_i ?_ | refine q_gt_i ?_ | refine q_ge_i ?_ | refine q_eq_i ?_ | refine q_ne_i ?_ | refine q_eq_s ?_ | refine q_ne_s ?_ | refine q_pow_18 ?_ | refine q_is_n ?_ | refine q_is_b ?_ | refine q_isn_b ?_ | refine q_isn_n ?_
  | refine q_idx rfl ?_ | refine p_no ?_ | refine ep_yes ?_ | refine q_slcL ?_ | refine d_nil ?_ | refine d_cons ?_ | refine q_bfn rfl ?_
  | refine f_fz ?_ | refine f_own ?_ | refine ef_var rfl ?_ | refine f_varF rfl ?_ | refine f_nil ?_ | refine f_cons ?_
  | refine r_fz ?_ | refine r_own ?_ | refine r_rol ?_ | refine er_var rfl ?_ | refine rs_nil ?_ | refine rs_cons ?_
  | refine ek_0 ?_ | refine ek_s ?_ | refine ess_nil ?_ | refine ess_cons rfl ?_ | refine esv_nil ?_ | refine esv_cons rfl ?_
  | refine q_tup ?_ | refine ea_nm rfl ?_ | refine ea_tp ?_ | refine s_fzl ?_ | refine s_fzt ?_ | refine s_own ?_ | refine s_rol ?_ | refine s_var rfl ?_
  | refine eo_nil ?_ | refine eo_fz ?_ | refine eo_own ?_ | refine eo_rol ?_ | refine eo_var rfl ?_
  | refine fq_nx ?_ | refine fq_rt ?_ | refine t_fz ?_ | refine t_own ?_ | refine et_var rfl rfl ?_ | refine et_varP rfl rfl ?_
  | refine q_rec rfl ?_ | refine em_l ?_ | refine em_r rfl ?_ | refine q_fld rfl ?_
  | refine side_int rfl ?_ | refine side_int2 rfl rfl ?_ | refine side_bool rfl ?_ | refine side_var rfl ?_
  | refine side rfl ?_ | refine side (Nat.le_of_ble_eq_true rfl) ?_ | refine em_set0 rfl ?_ | refine em_set1 rfl ?_ | refine em_set2 rfl ?_ | refine em_clear rfl ?_ | refine m_fld rfl rfl ?_ | refine ekl_0 ?_ | refine ekl_s ?_ | refine side_some rfl ?_
  | refine q_mul_i (by omega) (by omega) ?_ | refine q_mod_i (by omega) ?_ | refine q_fdiv_i (by omega) (by omega) ?_)
-- gne
theorem q_pow_6 {K : Re → Prop} (h : K (.fz (.int 1000000))) : OpQ .pow (.int 10) (.int 6) K := ⟨_, rfl, h⟩
def Sml (width : Nat) (r : List Int) : Prop := r.length = width ∧ ∀ x ∈ r, -1000000 ≤ x ∧ x ≤ 1000000
theorem Sml.far {width : Nat} {r : List Int} (h : Sml width r) : FarR width r := ⟨h.1, fun x hx => by have := h.2 x hx; unfold Far; omega⟩
def smlI (x : Int) : Int := if (if x < 1000000 then x else 1000000) > -1000000 then (if x < 1000000 then x else 1000000) else -1000000
theorem smlI_bd (x : Int) : -1000000 ≤ smlI x ∧ smlI x ≤ 1000000 := by unfold smlI; split <;> (try split) <;> omega
def mapW (way : Int) (e : Int) : Int := if way = 0 then e / 2 else if way = 1 then (if e > 0 then e else 0) else e * e * e
theorem sq_bd {e : Int} (h0 : -1000000 ≤ e) (h1 : e ≤ 1000000) : -1000000000000 ≤ e * e ∧ e * e ≤ 1000000000000 := by
  have a : 0 ≤ e * e := by
    rcases Int.le_total 0 e with h | h
    · exact Int.mul_nonneg h h
    · exact Int.mul_nonneg_of_nonpos_of_nonpos h h
  have b : (1000000 - e) * (1000000 + e) ≥ 0 := Int.mul_nonneg (by omega) (by omega)
  have c : (1000000 - e) * (1000000 + e) = 1000000000000 - e * e := by
    rw [Int.sub_mul, Int.mul_add, Int.mul_add, Int.mul_comm e 1000000]; omega
  omega
theorem mapW_at {way : Int} (h0 : 0 ≤ way) (h1 : way < 3) (e : Int) : indexD (.list [.int (e / 2), .int (if e > 0 then e else 0), .int (e * e * e)]) (.int way) = some (.int (mapW way e)) := by
  have : way = 0 ∨ way = 1 ∨ way = 2 := by omega
  rcases this with rfl | rfl | rfl <;> rfl
theorem cube_mono {a b : Int} (h : a ≤ b) : a * a * a ≤ b * b * b := by
  rcases Int.le_total 0 a with ha | ha
  · have hb : 0 ≤ b := by omega
    exact Int.mul_le_mul (Int.mul_le_mul h h ha hb) h ha (Int.mul_nonneg hb hb)
  · rcases Int.le_total 0 b with hb | hb
    · have h1 : a * a * a ≤ 0 := Int.mul_nonpos_of_nonneg_of_nonpos (Int.mul_nonneg_of_nonpos_of_nonpos ha ha) ha
      have h2 : 0 ≤ b * b * b := Int.mul_nonneg (Int.mul_nonneg hb hb) hb
      omega
    · have h3 : (-b) * (-b) * (-b) ≤ (-a) * (-a) * (-a) := Int.mul_le_mul (Int.mul_le_mul (by omega) (by omega) (by omega) (by omega)) (by omega) (by omega) (Int.mul_nonneg (by omega) (by omega))
      rw [Int.neg_mul_neg, Int.neg_mul_neg, Int.mul_neg, Int.mul_neg] at h3
      omega
theorem mapW_mono (way : Int) : ∀ a b, a ≤ b → mapW way a ≤ mapW way b := by
  intro a b h
  unfold mapW
  split
  · omega
  · split
    · split <;> split <;> omega
    · exact cube_mono h
theorem mapW_far {way e : Int} (h0 : -1000000 ≤ e) (h1 : e ≤ 1000000) : Far (mapW way e) := by
  have m2 := sq_bd h0 h1
  have a : e * e * e ≤ 1000000 * 1000000 * 1000000 := cube_mono h1
  have b : (-1000000 : Int) * -1000000 * -1000000 ≤ e * e * e := cube_mono h0
  unfold mapW Far
  split
  · omega
  · split
    · split <;> omega
    · omega
theorem mapped_cp {T : Pr} (hT : T.lookup "_law_mapped" = some (5, B._law_mapped)) {k : Nat} {rows : List (List Int)} {width : Nat} {way : Int} (h0 : 0 ≤ way) (h1 : way < 3) (hl : rows.length < 1000) (hw : width < 1000) (hr : ∀ r ∈ rows, Sml width r) (o : Bool) :
    cp T (k + 1) "_law_mapped" [ow o (rowsD rows), .fz (.int way)] fun r os => r = .own (rowsD (rows.map fun r => r.map (mapW way))) ∧ os = [if o then some (.own (rowsD rows)) else none, none] := by
  have big := big1000
  have hs0 : ∀ r ∈ rows, r.length = width := fun r h => (hr r h).1
  refine ecp_of hT ?_
  cases o
  · show WB ⟨callDD T k, T.I⟩ [] _ [some (.fz (.list (rows.map rowD))), some (.fz (.int way)), none, none, none] (zF [] 2 _)
    repeat fail "s"
    refine ex_for ?_
    repeat fail "s"
    refine efor (N := rows.length) (fun i E => ∃ u3, E = [some (.fz (.list (rows.map rowD))), some (.fz (.int way)), some (.own (.list (((rows.take i).map fun r => r.map (mapW way)).map rowD))), u3, none]) (by simp [Wd.n, Src.n]) ⟨_, rfl⟩ ?_ ?_
    · rintro i E hi ⟨u3, rfl⟩
      refine ⟨rowD rows[i], ?_, ?_⟩
      · refine (rfl : _ = (rows.map rowD)[i]?).trans ?_
        rw [List.getElem?_map, List.getElem?_eq_getElem hi]; rfl
      have hs := hr rows[i] (List.getElem_mem hi)
      have hsl := hs.1
      have et : rows.take (i + 1) = rows.take i ++ [rows[i]] := by rw [List.take_add_one, List.getElem?_eq_getElem hi]; rfl
      rw [et]
      have lt : (rows.take i).length ≤ i := by rw [List.length_take]; omega
      generalize rows.take i = rs at *
      generalize rows[i] = r at *
      repeat fail "s"
      refine ew_comp ?_
      repeat fail "s"
      refine ⟨⟨rfl, rfl⟩, ?_⟩
      refine ecomp_pure (enc := PyData.int) r (fun _ => true) (fun e => .int (mapW way e)) (by simp [Wd.n, Src.n]) (by omega) (fun i => rfl) rfl (fun e he => ?_) ?_
      · have hb := hs.2 e he
        have m2 : -1000000000000 ≤ e * e ∧ e * e ≤ 1000000000000 := sq_bd hb.1 hb.2
        refine ⟨_, rfl, rfl, ?_⟩
        repeat fail "s"
        intro _
        repeat fail "s"
        refine q_idx (mapW_at h0 h1 e) ?_
        repeat fail "s"
        first | rfl | exact ⟨rfl, rfl⟩
      · have em : (r.map fun e => PyData.int (mapW way e)) = (r.map (mapW way)).map .int := map_int
        rw [filter_true, em]
        repeat fail "s"
        refine em_append rfl (by rw [List.length_map, List.length_map]; omega) ?_
        repeat fail "s"
        refine ⟨some (.fz (rowD r)), ?_⟩
        rw [List.map_append, List.map_append]; rfl
    · rintro E ⟨u3, rfl⟩
      refine ⟨rfl, ?_⟩
      rw [List.take_length]
      repeat fail "s"
      first | rfl | exact ⟨rfl, rfl⟩
  · show WB ⟨callDD T k, T.I⟩ [0] _ [some (.own (.list (rows.map rowD))), some (.fz (.int way)), none, none, none] (zF [0] 2 _)
    repeat fail "s"
    refine ex_for ?_
    repeat fail "s"
    refine efor (N := rows.length) (fun i E => ∃ u3, E = [some (.own (.list (rows.map rowD))), some (.fz (.int way)), some (.own (.list (((rows.take i).map fun r => r.map (mapW way)).map rowD))), u3, none]) (by simp [Wd.n, Src.n]) ⟨_, rfl⟩ ?_ ?_
    · rintro i E hi ⟨u3, rfl⟩
      refine ⟨rowD rows[i], ?_, ?_⟩
      · refine (at_var rfl i : _ = (rows.map rowD)[i]?).trans ?_
        rw [List.getElem?_map, List.getElem?_eq_getElem hi]; rfl
      have hs := hr rows[i] (List.getElem_mem hi)
      have hsl := hs.1
      have et : rows.take (i + 1) = rows.take i ++ [rows[i]] := by rw [List.take_add_one, List.getElem?_eq_getElem hi]; rfl
      rw [et]
      have lt : (rows.take i).length ≤ i := by rw [List.length_take]; omega
      generalize rows.take i = rs at *
      generalize rows[i] = r at *
      repeat fail "s"
      refine ew_comp ?_
      repeat fail "s"
      refine ⟨⟨rfl, rfl⟩, ?_⟩
      refine ecomp_pure (enc := PyData.int) r (fun _ => true) (fun e => .int (mapW way e)) (by simp [Wd.n, Src.n]) (by omega) (fun i => rfl) rfl (fun e he => ?_) ?_
      · have hb := hs.2 e he
        have m2 : -1000000000000 ≤ e * e ∧ e * e ≤ 1000000000000 := sq_bd hb.1 hb.2
        refine ⟨_, rfl, rfl, ?_⟩
        repeat fail "s"
        intro _
        repeat fail "s"
        refine q_idx (mapW_at h0 h1 e) ?_
        repeat fail "s"
        first | rfl | exact ⟨rfl, rfl⟩
      · have em : (r.map fun e => PyData.int (mapW way e)) = (r.map (mapW way)).map .int := map_int
        rw [filter_true, em]
        repeat fail "s"
        refine em_append rfl (by rw [List.length_map, List.length_map]; omega) ?_
        repeat fail "s"
        refine ⟨some (.fz (rowD r)), ?_⟩
        rw [List.map_append, List.map_append]; rfl
    · rintro E ⟨u3, rfl⟩
      refine ⟨ends_var rfl, ?_⟩
      rw [List.take_length]
      repeat fail "s"
      first | rfl | exact ⟨rfl, rfl⟩
theorem small_cp {T : Pr} (hT : T.lookup "_law_small" = some (3, B._law_small)) {k : Nat} {rows : List (List Int)} {width : Nat} (hl : rows.length < 1000) (hw : width < 1000) (hr : ∀ r ∈ rows, FarR width r) :
    cp T (k + 1) "_law_small" [.own (rowsD rows)] fun r os => r = .own (rowsD (rows.map fun r => r.map smlI)) ∧ os = [some (.own (rowsD rows))] := by
  have big := big1000
  refine ecp_of hT ?_
  show WB ⟨callDD T k, T.I⟩ [0] _ [some (.own (.list (rows.map rowD))), none, none] (zF [0] 1 _)
  repeat fail "s"
  refine ew_comp ?_
  repeat fail "s"
  refine ⟨⟨rfl, rfl⟩, ?_⟩
  refine ecomp_pure (enc := rowD) rows (fun _ => true) (fun r => rowD (r.map smlI)) (by simp [Wd.n, Src.n]) (by omega) (fun i => at_var rfl i) (ends_var rfl) (fun r hr' => ?_) ?_
  · have hs := hr r hr'
    refine ⟨_, rfl, rfl, ?_⟩
    repeat fail "s"
    intro _
    repeat fail "s"
    refine ew_comp ?_
    repeat fail "s"
    refine ⟨⟨rfl, rfl⟩, ?_⟩
    refine ecomp_pure (enc := PyData.int) r (fun _ => true) (fun e => .int (smlI e)) (by simp [Wd.n, Src.n]) (by have := hs.1; omega) (fun i => rfl) rfl (fun e he => ?_) ?_
    · refine ⟨_, rfl, rfl, ?_⟩
      repeat fail "s"
      intro _
      repeat fail "s"
      first | rfl | exact ⟨rfl, rfl⟩
    · have em : (r.map fun e => PyData.int (smlI e)) = (r.map smlI).map .int := map_int
      rw [filter_true, em]
      repeat fail "s"
      first | rfl | exact ⟨rfl, rfl⟩
  · have em : (rows.map fun r => rowD (r.map smlI)) = (rows.map fun r => r.map smlI).map rowD := by rw [List.map_map]; rfl
    rw [filter_true, em]
    repeat fail "s"
    first | rfl | exact ⟨rfl, rfl⟩
end HI

set_option maxRecDepth 100000
set_option maxHeartbeats 1000000
namespace HI
open PySem L2 SrtO
-- eng
local macro_rules | `(tactic| fail "s") => `(tactic| first
  | refine ex_cons ?_ | refine ex_nx ?_ | refine ex_rt ?_ | refine ex_bk ?_ | refine ex_ct ?_ | refine ex_nil ?_
  | refine ew_fz rfl ?_ | refine ew_own rfl ?_ | refine ew_rol rfl ?_ | refine ew_cst rfl ?_ | refine ew_bin ?_ | refine ew_idx ?_ | refine ew_nil ?_ | refine ew_cons ?_ | refine ew_call ?_ | refine ew_bcall ?_
  | refine ew_not ?_ | refine ew_neg ?_ | refine ew_and ?_ | refine ew_or ?_ | refine ew_chain ?_ | refine ew_ife ?_ | refine ew_lst ?_ | refine ew_tup ?_ | refine ew_slc ?_ | refine ew_meth ?_ | refine ew_fld ?_ | refine ew_mk ?_
  | refine ex_asg ?_ | refine ex_asgT ?_ | refine ex_asgS ?_ | refine ex_asgF ?_ | refine ex_aug rfl ?_ | refine ex_augS ?_ | refine ex_ex ?_ | refine ex_ite ?_ | refine ex_ret ?_ | refine ex_brk ?_ | refine ex_cont ?_ | refine ex_pass ?_ | refine ex_par ?_
  | refine q_rng (by omega) ?_ | refine ei_seq ?_ | refine ei_enum ?_ | refine ei_zip ?_ | refine ei_rng1 ?_ | refine ei_rng2 ?_
  | refine WE_of ?_ | refine WB_of ?_ | refine WT_of ?_
  | refine q_dat rfl ?_ | refine q_datRr ?_ | refine q_datR rfl ?_ | refine q_truB rfl ?_ | refine eq_t ?_ | refine eq_f ?_
  | refine q_add_i ?_ | refine q_sub_i ?_ | refine q_lt_i ?_ | refine q_le_i ?_ | refine q_gt_i ?_ | refine q_ge_i ?_ | refine q_eq_i ?_ | refine q_ne_i ?_ | refine q_eq_s ?_ | refine q_ne_s ?_ | refine q_pow_18 ?_ | refine q_is_n ?_ | refine q_is_b ?_ | refine q_isn_b ?_ | refine q_isn_n ?_
  | refine q_idx rfl ?_ | refine p_no ?_ | refine ep_yes ?_ | refine q_slcL ?_ | refine d_nil ?_ | refine d_cons ?_ | refine q_bfn rfl ?_
  | refine f_fz ?_ | refine f_own ?_ | refine ef_var rfl ?_ | refine f_varF rfl ?_ | refine f_nil ?_ | refine f_cons ?_
  | refine r_fz ?_ | refine r_own ?_ | refine r_rol ?_ | refine er_var rfl ?_ | refine rs_nil ?_ | refine rs_cons ?_
  | refine ek_0 ?_ | refine ek_s ?_ | refine ess_nil ?_ | refine ess_cons rfl ?_ | refine esv_nil ?_ | refine esv_cons rfl ?_
  | refine q_tup ?_ | refine ea_nm rfl ?_ | refine ea_tp ?_ | refine s_fzl ?_ | refine s_fzt ?_ | refine s_own ?_ | refine s_rol ?_ | refine s_var rfl ?_
  | refine eo_nil ?_ | refine eo_fz ?_ | refine eo_own ?_ | refine eo_rol ?_ | refine eo_var rfl ?_
  | refine fq_nx ?_ | refine fq_rt ?_ | refine t_fz ?_ | refine t_own ?_ | refine et_var rfl rfl ?_ | refine et_varP rfl rfl ?_
  | refine q_rec rfl ?_ | refine em_l ?_ | refine em_r rfl ?_ | refine q_fld rfl ?_
  | refine side_int rfl ?_ | refine side_int2 rfl rfl ?_ | refine side_bool rfl ?_ | refine side_var rfl ?_
  | refine side rfl ?_ | refine side (Nat.le_of_ble_eq_true rfl) ?_ | refine em_set0 rfl ?_ | refine em_set1 rfl ?_ | refine em_set2 rfl ?_ | refine em_clear rfl ?_ | refine m_fld rfl rfl ?_ | refine ekl_0 ?_ | refine ekl_s ?_ | refine side_some rfl ?_
  | refine q_mul_i (by omega) (by omega) ?_ | refine q_mod_i (by omega) ?_ | refine q_fdiv_i (by omega) (by omega) ?_)
-- gne
theorem cut_drop {xs : List PyData} {t : Nat} : cutD xs (some (t : Int)) none = xs.drop t := by
  unfold cutD
  have e2 : HT.sIx xs.length xs.length none = xs.length := rfl
  rw [e2, HT.sIx_nat]
  by_cases c : t ≤ xs.length
  · rw [Nat.min_eq_left c, List.take_of_length_le (by rw [List.length_drop]; omega)]
  · rw [Nat.min_eq_right (by omega), List.drop_eq_nil_of_le (Nat.le_refl _), List.drop_eq_nil_of_le (by omega), List.take_nil]
theorem cut_take {xs : List PyData} {t : Nat} : cutD xs none (some (t : Int)) = xs.take t := by
  unfold cutD
  have e1 : HT.sIx xs.length 0 none = 0 := rfl
  rw [e1, HT.sIx_nat, Nat.sub_zero, List.drop_zero]
  by_cases c : t ≤ xs.length
  · rw [Nat.min_eq_left c]
  · rw [Nat.min_eq_right (by omega), List.take_of_length_le (Nat.le_refl _), List.take_of_length_le (by omega)]
theorem mulD_eq (xs : List PyData) (k : Int) : mulD (.list xs) (.int k) = if (-(2 ^ 63) ≤ k ∧ k < 2 ^ 63) ∧ xs.length * k.toNat ≤ sizeLine then some (.own (.list (List.replicate k.toNat xs).flatten)) else none := by cases k <;> rfl
theorem q_rep1 {d : PyData} {n : Nat} {K : Re → Prop} (h : n < 1000) (k : K (.own (.list (List.replicate n d)))) : OpQ .mul (.list [d]) (.int (n : Int)) K := by
  have big := big1000
  have ef : (List.replicate n [d]).flatten = List.replicate n d := by
    clear k h
    induction n with
    | zero => rfl
    | succ n ih => rw [List.replicate_succ, List.flatten_cons, ih]; rfl
  have l1 : [d].length * (n : Int).toNat ≤ sizeLine := by rw [Int.toNat_natCast, List.length_singleton]; omega
  have c1 : -(2 ^ 63) ≤ (n : Int) ∧ (n : Int) < 2 ^ 63 := ⟨by omega, by omega⟩
  have e : mulD (.list [d]) (.int (n : Int)) = some (.own (.list (List.replicate (n : Int).toNat [d]).flatten)) := by
    rw [mulD_eq]
    exact if_pos ⟨c1, l1⟩
  rw [Int.toNat_natCast, ef] at e
  exact ⟨_, e, k⟩
theorem Co.rot {ws qs : List Int} {width most : Nat} (C : Co ws qs width most) (t : Nat) : Co (ws.drop t ++ ws.take t) qs width most := by
  have pw : (ws.drop t ++ ws.take t).Perm ws := by
    have := List.perm_append_comm (l₁ := ws.drop t) (l₂ := ws.take t)
    rwa [List.take_append_drop] at this
  exact ⟨by rw [pw.length_eq]; exact C.l2, by rw [pw.length_eq]; exact C.l7, fun w hw => C.w w (pw.mem_iff.mp hw), C.ql, fun q hq => by rw [sum_perm pw]; exact C.q q hq⟩
theorem Co.mrg {a b : Int} {r qs : List Int} {width most : Nat} (C : Co (a :: b :: r) qs width most) (h : 1 ≤ r.length) (hs : a + b ≤ 1000000) : Co ((a + b) :: r) qs width most := by
  have ha := (C.w a (by simp)).1
  have hb := (C.w b (by simp)).1
  have l7 := C.l7
  rw [List.length_cons, List.length_cons] at l7
  refine ⟨by rw [List.length_cons]; omega, by rw [List.length_cons]; omega, fun w hw => ?_, C.ql, fun q hq => ?_⟩
  · rcases List.mem_cons.mp hw with rfl | hw
    · omega
    · exact C.w w (by simp [hw])
  · have := C.q q hq
    rw [List.sum_cons, List.sum_cons] at this
    rw [List.sum_cons]; omega
theorem setRow_sml {ws qs : List Int} {width most : Nat} {rows : List (List Int)} (C : Co ws qs width most) (hl : rows.length = ws.length) (hr : ∀ r ∈ rows, Sml width r) : Sml width (setRow ws qs rows) := by
  refine ⟨by rw [setRow_len]; exact C.ql, fun x hx => ?_⟩
  unfold setRow at hx
  obtain ⟨j, hj, rfl⟩ := List.mem_map.mp hx
  have hj := List.mem_range.mp hj
  obtain ⟨-, -, h3, -⟩ := set_col (C.cq (nth_in hj)) (es := col j rows) (by unfold col; rw [List.length_map]; exact hl)
  obtain ⟨r, hr1, e⟩ := List.mem_map.mp h3
  rw [← e]
  obtain ⟨k1, k2⟩ := hr r hr1
  exact k2 _ (nth_in (by have := C.ql; omega))
theorem two_hd : ∀ ws : List Int, 2 ≤ ws.length → ws = nth ws 0 :: nth ws 1 :: ws.drop 2
  | a :: b :: r, _ => rfl
theorem rows_idx {rows : List (List Int)} {t : Nat} (h : t < rows.length) : indexD (.list (rows.map rowD)) (.int (t : Int)) = some (rowD rows[t]) := by
  rw [rows_at h, List.getElem?_eq_getElem h]; rfl
theorem mk_ok {T : Pr} (L : CL T) {k : Nat} {ws qs : List Int} {width : Nat} {E : Dn} {Q : Re → Dn → Prop} (C : Co ws qs width 7) (w1 : 1 ≤ width) (w6 : width ≤ 6) (h : Q (.own (cD ws qs)) E) :
    MkQ ⟨callDD T (k + 4), T.I⟩ 0 [.own (.list (ws.map .int)), .own (.list (qs.map .int))] E Q := by
  have ei : cnameOf T.I 0 ++ ".__init__" = "Council.__init__" := by rw [L.nm]; rfl
  refine eq_mk rfl rfl ?_
  rw [ei]
  refine cp_mono (init_cp L C (Nat.le_refl _) w1 w6) ?_
  rintro r os ⟨rfl, rfl⟩
  refine ⟨rfl, _, _, rfl, ?_⟩
  repeat fail "s"
  exact h
theorem law28 {T : Pr} (L : CH T) (hV : T.lookup "_law_value" = some (3, B._law_value)) (hR : T.lookup "_law_seat_rows" = some (8, B._law_seat_rows)) (hM : T.lookup "_law_mapped" = some (5, B._law_mapped)) (hS : T.lookup "_law_small" = some (3, B._law_small))
    (hL : T.lookup "law" = some (21, B.law_k28)) {k : Nat} {ns : List Int} (hl : ns.length ≤ 63) : cp T (k + 6) "law" [.rol (ns.map .int)] fun r os => r = .fz (.bool true) := by
  have big := big1000
  have hK := L.tak
  refine ecp_of hL ?_
  show WB ⟨callDD T (k + 5), T.I⟩ [] _ [some (.rol (ns.map .int)), none, none, none, none, none, none, none, none, none, none, none, none, none, none, none, none, none, none, none, none] (zF [] 1 _)
  repeat fail "s"
  refine eq_call rfl rfl (cp_mono (bag_cp L.bag hl) ?_)
  rintro r os ⟨d, rfl, rfl, G⟩
  refine ⟨rfl, ?_⟩
  repeat fail "s"
  refine ex_for ?_
  repeat fail "s"
  refine efor (N := 3) (fun i E => ∃ (d : PyData) (u2 u3 u4 u5 u6 u7 u8 u9 u10 u11 u12 u13 u14 u15 u16 u17 u18 : Option Va), E = [some (.rol (ns.map .int)), some (.own d), u2, u3, u4, u5, u6, u7, u8, u9, u10, u11, u12, u13, u14, u15, u16, u17, u18, none, none] ∧ Bag d (1000000 * i)) rfl ⟨_, _, _, _, _, _, _, _, _, _, _, _, _, _, _, _, _, _, rfl, G⟩ ?_ ?_
  · rintro i E hi ⟨d, u2, u3, u4, u5, u6, u7, u8, u9, u10, u11, u12, u13, u14, u15, u16, u17, u18, rfl, G⟩
    refine ⟨.int (0 + (i : Int)), if_pos hi, ?_⟩
    repeat fail "s"
    refine c_take hK rfl G (by omega) (by omega) (by omega) fun wv d1 wv0 wv1 G1 => ?_
    repeat fail "s"
    obtain ⟨width, hw⟩ : ∃ width : Nat, 1 + wv = (width : Int) := ⟨(1 + wv).toNat, by omega⟩
    have w1 : 1 ≤ width := by omega
    have w6 : width ≤ 6 := by omega
    rw [hw]
    refine eq_call rfl rfl (cp_mono (council_cp (most := 7) L.cou hK G1 (by omega) (by omega) (by omega) (by omega)) ?_)
    rintro r os ⟨ws, qs, d2, rfl, rfl, hC, G2⟩
    have hq1 := hC.ql
    have hq2 := hC.l7
    have hq3 := hC.l2
    have hq : ∀ q ∈ qs, Cq ws q := fun q h => hC.cq h
    have lws : (ws.map PyData.int).length = ws.length := List.length_map _
    refine ⟨rfl, ?_⟩
    unfold partsD
    repeat fail "s"
    refine eq_call rfl rfl (cp_mono (made_cp L.toCL L.mad hC (by omega) w1 w6) ?_)
    rintro r os ⟨rfl, rfl⟩
    refine ⟨rfl, ?_⟩
    repeat fail "s"
    rw [lws]
    refine eq_call rfl rfl (cp_mono (seat_rows_cp hR hV hK G2 (by omega) (by omega) (by omega)) ?_)
    rintro r os ⟨rows0, d3, rfl, rfl, hrl0, hr0, G3⟩
    refine ⟨rfl, ?_⟩
    repeat fail "s"
    refine eq_call rfl rfl (cp_mono (small_cp hS (by omega) (by omega) hr0) ?_)
    rintro r os ⟨rfl, rfl⟩
    refine ⟨rfl, ?_⟩
    obtain ⟨rows, hrows⟩ : ∃ rows, rows = rows0.map fun r => r.map smlI := ⟨_, rfl⟩
    have hrl : rows.length = ws.length := by rw [hrows, List.length_map]; exact hrl0
    have hr : ∀ r ∈ rows, Sml width r := fun r h => by
      rw [hrows] at h
      obtain ⟨s, hs, rfl⟩ := List.mem_map.mp h
      refine ⟨by rw [List.length_map]; exact (hr0 s hs).1, fun x hx => ?_⟩
      obtain ⟨y, _, rfl⟩ := List.mem_map.mp hx
      exact smlI_bd y
    rw [← hrows]
    clear hrows
    have frl : ∀ r ∈ rows, qs.length ≤ r.length := fun r h => by rw [(hr r h).1]; omega
    have hmS := setRow_sml hC hrl hr
    have lrows : (rows.map rowD).length = rows.length := List.length_map _
    unfold rowsD
    repeat fail "s"
    refine eq_call (T := T) rfl rfl (cp_mono (settle_cp2 L.ste L.sed L.wei L.quo L.toCI hq hrl (by omega) (by omega) frl true true) ?_)
    rintro r os ⟨rfl, rfl⟩
    refine ⟨rfl, ?_⟩
    repeat fail "s"
    refine c_take hK rfl G3 (by omega) (by omega) (by omega) fun way d4 y0 y1 G4 => ?_
    repeat fail "s"
    refine eq_call (T := T) rfl rfl (cp_mono (mapped_cp hM y0 y1 (by omega) (by omega) hr true) ?_)
    rintro r os ⟨rfl, rfl⟩
    refine ⟨rfl, ?_⟩
    unfold rowsD
    repeat fail "s"
    have eM := setRow_map hq hrl frl (mapW_mono way)
    have nM : FarR width ((setRow ws qs rows).map (mapW way)) := ⟨by rw [List.length_map]; exact hmS.1, fun x hx => by
      obtain ⟨y, hy, rfl⟩ := List.mem_map.mp hx
      exact mapW_far (hmS.2 y hy).1 (hmS.2 y hy).2⟩
    refine eq_call (T := T) rfl rfl (cp_mono (settle_cp2 (rows := rows.map fun r => r.map (mapW way)) L.ste L.sed L.wei L.quo L.toCI hq (by rw [List.length_map]; exact hrl) (by omega) (by omega) (fun r h => by
      obtain ⟨s, hs, rfl⟩ := List.mem_map.mp h
      rw [List.length_map]; exact frl s hs) true true) ?_)
    rintro r os ⟨rfl, rfl⟩
    refine ⟨rfl, ?_⟩
    rw [eM]
    repeat fail "s"
    refine eq_call (T := T) rfl rfl (cp_mono (mapped_cp (rows := [setRow ws qs rows]) (width := width) hM y0 y1 (by rw [List.length_singleton]; omega) (by omega) (fun r h => by rw [List.mem_singleton.mp h]; exact hmS) true) ?_)
    rintro r os ⟨rfl, rfl⟩
    refine ⟨rfl, ?_⟩
    repeat fail "s"
    refine eq_call (T := T) rfl rfl (cp_mono (alike_cp L.ali nM.nice (by omega) (by omega) false false) ?_)
    rintro r os ⟨rfl, rfl⟩
    refine ⟨rfl, ?_⟩
    repeat fail "s"
    refine c_take hK rfl G4 (by omega) (by omega) (by omega) fun t d5 t0 t1 G5 => ?_
    obtain ⟨tn, rfl⟩ : ∃ tn : Nat, t = (tn : Int) := ⟨t.toNat, by omega⟩
    have ht : tn < ws.length := by omega
    repeat fail "s"
    rw [cut_drop, cut_take]
    refine q_add_l (by rw [List.length_drop, List.length_take, lws]; omega) ?_
    have erot : (ws.map PyData.int).drop tn ++ (ws.map PyData.int).take tn = (ws.drop tn ++ ws.take tn).map PyData.int := by rw [List.map_append, List.map_drop, List.map_take]
    have erotR : (rows.map rowD).drop tn ++ (rows.map rowD).take tn = (rows.drop tn ++ rows.take tn).map rowD := by rw [List.map_append, List.map_drop, List.map_take]
    have hCr := hC.rot tn
    have lrot : (rows.drop tn ++ rows.take tn).length = (ws.drop tn ++ ws.take tn).length := by rw [List.length_append, List.length_append, List.length_drop, List.length_drop, List.length_take, List.length_take, hrl]
    have nS := hmS.far.nice
    have h5 : tn < rows.length := by omega
    have hrt := hr rows[tn] (List.getElem_mem h5)
    rw [erot]
    repeat (first | refine mk_ok (ws := ws.drop tn ++ ws.take tn) L.toCL hCr w1 w6 ?_ | fail "s")
    rw [cut_drop, cut_take]
    refine q_add_l (by rw [List.length_drop, List.length_take, lrows]; omega) ?_
    rw [erotR]
    repeat fail "s"
    have hcr2 := hCr.l7
    refine eq_call (T := T) rfl rfl (cp_mono (settle_cp2 (ws := ws.drop tn ++ ws.take tn) (rows := rows.drop tn ++ rows.take tn) L.ste L.sed L.wei L.quo L.toCI (fun q h => hCr.cq h) lrot (by omega) (by omega) (fun r h => (List.mem_append.mp h).elim (fun h => frl r (List.mem_of_mem_drop h)) fun h => frl r (List.mem_of_mem_take h)) true true) ?_)
    rintro r os ⟨rfl, rfl⟩
    refine ⟨rfl, ?_⟩
    rw [setRow_rot tn hq hrl]
    repeat fail "s"
    refine q_ne_refl nS (by omega) ?_
    repeat fail "s"
    refine q_idx (rows_idx h5) ?_
    repeat (first | refine q_rep1 (n := ws.length) (by omega) ?_ | fail "s")
    have erep : List.replicate ws.length (rowD rows[tn]) = (List.replicate ws.length rows[tn]).map rowD := List.map_replicate.symm
    rw [erep]
    repeat fail "s"
    refine eq_call (T := T) rfl rfl (cp_mono (settle_cp2 (rows := List.replicate ws.length rows[tn]) L.ste L.sed L.wei L.quo L.toCI hq (by rw [List.length_replicate]) (by omega) (by omega) (fun r h => by rw [List.eq_of_mem_replicate h, hrt.1]; omega) true true) ?_)
    rintro r os ⟨rfl, rfl⟩
    refine ⟨rfl, ?_⟩
    rw [setRow_const hq (by rw [hrt.1]; omega)]
    repeat fail "s"
    refine q_idx (rows_idx h5) ?_
    repeat fail "s"
    refine q_ne_refl hrt.far.nice (by omega) ?_
    repeat (first | refine ex_cutI (fun E => ∃ v17, E = [some (.rol (ns.map .int)), some (.own d5), some (.fz (.int (0 + (i : Int)))), some (.fz (.int width)), some (.fz (.tuple [.list (ws.map .int), .list (qs.map .int)])), some (.own (.list (rows.map rowD))), some (.fz (.int (tn : Int))), some (.own (cD (ws.drop tn ++ ws.take tn) qs)), u8, u9, u10, some (.fz (.list (ws.map .int))), some (.fz (.list (qs.map .int))), some (.own (cD ws qs)), some (.fz (.int (ws.length : Int))), some (.fz (rowD (setRow ws qs rows))), some (.fz (.int way)), v17, u18, none, none]) ?_ ?_ | fail "s")
    · rcases Nat.lt_or_ge 2 ws.length with hm | hm
      · rw [decide_eq_true (show (ws.length : Int) > 2 by omega)]
        repeat fail "s"
        refine q_idx (list_at' (j := 0) rfl (by omega)) ?_
        repeat fail "s"
        refine q_idx (list_at' (j := 1) rfl (by omega)) ?_
        repeat fail "s"
        refine eq_dec (fun hs => ?_) (fun hs => ?_)
        · have ews := two_hd ws (by omega)
          have h1r : 1 < rows.length := by omega
          have edrop : rows.drop 1 = rows[1] :: rows.drop 2 := List.drop_eq_getElem_cons h1r
          have e2 : cutD (ws.map PyData.int) (some 2) none = (ws.map PyData.int).drop 2 := cut_drop (t := 2)
          have e3 : cutD (rows.map rowD) (some 1) none = (rows.map rowD).drop 1 := cut_drop (t := 1)
          have e4 : [PyData.int (nth ws 0 + nth ws 1)] ++ (ws.map PyData.int).drop 2 = ((nth ws 0 + nth ws 1) :: ws.drop 2).map PyData.int := by rw [List.map_cons, List.map_drop]; rfl
          have hCm : Co ((nth ws 0 + nth ws 1) :: ws.drop 2) qs width 7 := Co.mrg (by rw [← ews]; exact hC) (by rw [List.length_drop]; omega) hs
          have l2 : (rows.drop 2).length = (ws.drop 2).length := by rw [List.length_drop, List.length_drop, hrl]
          have em := setRow_merge (r := rows[1]) (rows2 := rows.drop 2) (ws2 := ws.drop 2) (a := nth ws 0) (b := nth ws 1) (by rw [← ews]; exact hq) (fun q h => hCm.cq h) l2
          rw [← ews, ← edrop] at em
          have hr1 := hr rows[1] (List.getElem_mem h1r)
          have hsd : ∀ r ∈ rows[1] :: rows.drop 1, Sml width r := fun r h => by
            rcases List.mem_cons.mp h with rfl | h
            · exact hr1
            · exact hr r (List.mem_of_mem_drop h)
          have lsd : (rows[1] :: rows.drop 1).length = ws.length := by rw [List.length_cons, List.length_drop]; omega
          have nm := (setRow_sml hC lsd hsd).far.nice
          repeat fail "s"
          refine q_idx (list_at' (j := 0) rfl (by omega)) ?_
          repeat fail "s"
          refine q_idx (list_at' (j := 1) rfl (by omega)) ?_
          repeat fail "s"
          rw [e2]
          refine q_add_l (by rw [List.length_drop, lws, List.length_singleton]; omega) ?_
          rw [e4]
          repeat (first | refine mk_ok (ws := (nth ws 0 + nth ws 1) :: ws.drop 2) L.toCL hCm w1 w6 ?_ | fail "s")
          rw [e3, ← List.map_drop]
          refine eq_call (T := T) rfl rfl (cp_mono (settle_cp2 (ws := (nth ws 0 + nth ws 1) :: ws.drop 2) (rows := rows.drop 1) L.ste L.sed L.wei L.quo L.toCI (fun q h => hCm.cq h) (by rw [List.length_drop, List.length_cons, List.length_drop]; omega) (by rw [List.length_cons, List.length_drop]; omega) (by omega) (fun r h => frl r (List.mem_of_mem_drop h)) true true) ?_)
          rintro r os ⟨rfl, rfl⟩
          refine ⟨rfl, ?_⟩
          rw [em]
          repeat fail "s"
          refine q_idx (rows_idx (t := 1) h1r) ?_
          repeat fail "s"
          rw [e3, ← List.map_drop]
          refine q_add_l (by rw [List.length_map, List.length_drop, List.length_singleton]; omega) ?_
          rw [show [rowD rows[1]] ++ (rows.drop 1).map rowD = (rows[1] :: rows.drop 1).map rowD from rfl]
          repeat fail "s"
          refine eq_call (T := T) rfl rfl (cp_mono (settle_cp2 (rows := rows[1] :: rows.drop 1) L.ste L.sed L.wei L.quo L.toCI hq lsd (by omega) (by omega) (fun r h => by rw [(hsd r h).1]; omega) true true) ?_)
          rintro r os ⟨rfl, rfl⟩
          refine ⟨rfl, ?_⟩
          repeat fail "s"
          refine q_ne_refl nm (by omega) ?_
          repeat fail "s"
          exact ⟨_, rfl⟩
        · repeat fail "s"
          exact ⟨_, rfl⟩
      · rw [decide_eq_false (show ¬ (ws.length : Int) > 2 by omega)]
        repeat fail "s"
        exact ⟨_, rfl⟩
    · rintro E ⟨v17, rfl⟩
      repeat fail "s"
      refine ex_for ?_
      repeat fail "s"
      refine efor (N := width) (fun j E => ∃ v8 v18, E = [some (.rol (ns.map .int)), some (.own d5), some (.fz (.int (0 + (i : Int)))), some (.fz (.int width)), some (.fz (.tuple [.list (ws.map .int), .list (qs.map .int)])), some (.own (.list (rows.map rowD))), some (.fz (.int (tn : Int))), some (.own (cD (ws.drop tn ++ ws.take tn) qs)), v8, u9, u10, some (.fz (.list (ws.map .int))), some (.fz (.list (qs.map .int))), some (.own (cD ws qs)), some (.fz (.int (ws.length : Int))), some (.fz (rowD (setRow ws qs rows))), some (.fz (.int way)), v17, v18, none, none]) (by show ((width : Int) - 0).toNat = _; omega) ⟨_, _, rfl⟩ ?_ ?_
      · rintro j E hj ⟨v8, v18, rfl⟩
        refine ⟨.int (0 + (j : Int)), if_pos (by show j < ((width : Int) - 0).toNat; omega), ?_⟩
        rw [Int.zero_add]
        repeat fail "s"
        refine ew_comp ?_
        repeat fail "s"
        refine ⟨⟨rfl, rfl⟩, ?_⟩
        refine ecomp_pure (enc := rowD) rows (fun _ => true) (fun r => .int (nth r j)) (by simp [Wd.n, Src.n]) (by omega) (fun i => at_var rfl i) (ends_var rfl) (fun r hr' => ?_) ?_
        · refine ⟨_, rfl, rfl, ?_⟩
          repeat fail "s"
          intro _
          repeat fail "s"
          refine q_idx (row_at (by omega) (by rw [(hr r hr').1]; omega)) ?_
          repeat fail "s"
          first | rfl | exact ⟨rfl, rfl⟩
        have em : (rows.map fun r => PyData.int (nth r j)) = (col j rows).map .int := map_int
        rw [filter_true, em]
        have hjq : j < qs.length := by omega
        obtain ⟨-, -, hin, -⟩ := set_col (hq _ (nth_in hjq)) (es := col j rows) (by unfold col; rw [List.length_map]; exact hrl)
        obtain ⟨a, b, m1, m2, m3⟩ := min_max (l := col j rows) (List.ne_nil_of_mem hin)
        have hab := m3 _ hin
        rw [← setRow_nth hjq] at hab
        have hx := row_at (row := setRow ws qs rows) (c := (j : Int)) (by omega) (by rw [setRow_len]; omega)
        have hx' : indexD (rowD (setRow ws qs rows)) (.int (j : Int)) = some (.int (nth (setRow ws qs rows) j)) := hx
        repeat fail "s"
        refine q_min1 m1 ?_
        repeat fail "s"
        refine q_idx hx' ?_
        repeat fail "s"
        rw [decide_eq_true hab.1]
        repeat fail "s"
        refine q_max1 m2 ?_
        repeat fail "s"
        rw [decide_eq_true hab.2]
        repeat fail "s"
        exact ⟨_, _, rfl⟩
      rintro E ⟨v8, v18, rfl⟩
      refine ⟨rfl, ?_⟩
      repeat (first | refine q_pow_6 ?_ | fail "s")
      refine c_take hK rfl G5 (by omega) (by omega) (by omega) fun more d6 z0 z1 G6 => ?_
      repeat fail "s"
      refine ew_comp ?_
      repeat fail "s"
      refine ⟨⟨rfl, rfl⟩, ?_⟩
      refine ecomp_pure (enc := rowD) rows (fun _ => true) (fun r => rowD (r.map fun e => e + more)) (by simp [Wd.n, Src.n]) (by omega) (fun i => at_var rfl i) (ends_var rfl) (fun r hr' => ?_) ?_
      · refine ⟨_, rfl, rfl, ?_⟩
        repeat fail "s"
        intro _
        repeat fail "s"
        refine ew_comp ?_
        repeat fail "s"
        refine ⟨⟨rfl, rfl⟩, ?_⟩
        refine ecomp_pure (enc := PyData.int) r (fun _ => true) (fun e => .int (e + more)) (by simp [Wd.n, Src.n]) (by have := (hr r hr').1; omega) (fun i => rfl) rfl (fun e he => ?_) ?_
        · refine ⟨_, rfl, rfl, ?_⟩
          repeat fail "s"
          intro _
          repeat fail "s"
          first | rfl | exact ⟨rfl, rfl⟩
        · have em : (r.map fun e => PyData.int (e + more)) = (r.map fun e => e + more).map .int := map_int
          rw [filter_true, em]
          repeat fail "s"
          first | rfl | exact ⟨rfl, rfl⟩
      have em : (rows.map fun r => rowD (r.map fun e => e + more)) = (rows.map fun r => r.map fun e => e + more).map rowD := by rw [List.map_map]; rfl
      rw [filter_true, em]
      have eP := setRow_map hq hrl frl (f := fun e => e + more) (fun a b h => by show a + more ≤ b + more; omega)
      have nP : FarR width ((setRow ws qs rows).map fun e => e + more) := ⟨by rw [List.length_map]; exact hmS.1, fun x hx => by
        obtain ⟨y, hy, rfl⟩ := List.mem_map.mp hx
        have := hmS.2 y hy
        unfold Far; omega⟩
      repeat fail "s"
      refine eq_call (T := T) rfl rfl (cp_mono (settle_cp2 (rows := rows.map fun r => r.map fun e => e + more) L.ste L.sed L.wei L.quo L.toCI hq (by rw [List.length_map]; exact hrl) (by omega) (by omega) (fun r h => by
        obtain ⟨s, hs, rfl⟩ := List.mem_map.mp h
        rw [List.length_map]; exact frl s hs) true true) ?_)
      rintro r os ⟨rfl, rfl⟩
      refine ⟨rfl, ?_⟩
      rw [eP]
      repeat fail "s"
      refine ew_comp ?_
      repeat fail "s"
      refine ⟨⟨rfl, rfl⟩, ?_⟩
      refine ecomp_pure (enc := PyData.int) (setRow ws qs rows) (fun _ => true) (fun e => .int (e + more)) (by simp [Wd.n, Src.n]) (by have := hmS.1; omega) (fun i => rfl) rfl (fun e he => ?_) ?_
      · refine ⟨_, rfl, rfl, ?_⟩
        repeat fail "s"
        intro _
        repeat fail "s"
        first | rfl | exact ⟨rfl, rfl⟩
      have em2 : ((setRow ws qs rows).map fun e => PyData.int (e + more)) = ((setRow ws qs rows).map fun e => e + more).map .int := map_int
      rw [filter_true, em2]
      repeat fail "s"
      refine q_ne_refl nP.nice (by omega) ?_
      repeat fail "s"
      exact ⟨_, _, _, _, _, _, _, _, _, _, _, _, _, _, _, _, _, _, rfl, G6.mono (by omega)⟩
  · rintro E ⟨d, u2, u3, u4, u5, u6, u7, u8, u9, u10, u11, u12, u13, u14, u15, u16, u17, u18, rfl, G⟩
    refine ⟨rfl, ?_⟩
    repeat fail "s"
    rfl
end HI
theorem K28.cl : HI.CL K28.pr := { nm := rfl, mw := rfl, mq := rfl, fw := rfl, fq := rfl, ini := K28.l_Council_dot___init__, arw := K28.l_are_weights, arq := K28.l_are_quotas, isb := K28.l_is_between, isi := K28.l_is_integer, wei := K28.l_Council_dot_weights, quo := K28.l_Council_dot_quotas }
theorem K28.ch : HI.CH K28.pr := { K28.cl with ste := K28.l_settle, sed := K28.l_settled, bag := K28.l__law_bag, tak := K28.l__law_take, ali := K28.l__law_alike, cou := K28.l__law_council, mad := K28.l__law_made }
theorem K28.pure (ns : List Int) (hl : ns.length ≤ 63) : ∃ os, HI.callDD K28.pr 60 "law" [.rol (ns.map .int)] = some (.fz (.bool true), os) := by
  obtain ⟨r, os, e, rfl⟩ := HI.law28 (T := K28.pr) K28.ch K28.l__law_value K28.l__law_seat_rows K28.l__law_mapped K28.l__law_small K28.l_law (k := 54) hl
  exact ⟨os, e⟩

set_option maxRecDepth 100000
set_option maxHeartbeats 1000000
/-! entries and quotas raised -/
namespace HI
open PySem L2 SrtO
theorem wsum_set {x y e : Int} : ∀ (es ws : List Int) (s : Nat), es[s]? = some x → es.length = ws.length →
    ∃ w, ws[s]? = some w ∧ wsum e ((es.set s y).zip ws) + (if x ≤ e then w else 0) = wsum e (es.zip ws) + (if y ≤ e then w else 0)
  | [], ws, s, h, _ => by cases h
  | a :: es, [], s, _, hl => by cases hl
  | a :: es, w :: ws, 0, h, hl => by
    cases h
    refine ⟨w, rfl, ?_⟩
    show wsum e ((y, w) :: es.zip ws) + _ = wsum e ((x, w) :: es.zip ws) + _
    rw [wsum_cons, wsum_cons]
    dsimp only
    omega
  | a :: es, w :: ws, s + 1, h, hl => by
    obtain ⟨v, h1, h2⟩ := wsum_set (y := y) (e := e) es ws s h (by simpa using hl)
    refine ⟨v, h1, ?_⟩
    show wsum e ((a, w) :: (es.set s y).zip ws) + _ = wsum e ((a, w) :: es.zip ws) + _
    rw [wsum_cons, wsum_cons]
    omega
theorem set_raise {ws es : List Int} {q x y : Int} {s : Nat} (C : Cq ws q) (hl : es.length = ws.length) (hx : es[s]? = some x) (hxy : x ≤ y) :
    setI ws q es ≤ setI ws q (es.set s y) ∧ (setI ws q es < setI ws q (es.set s y) → x ≤ setI ws q (es.set s y) ∧ setI ws q (es.set s y) ≤ y) := by
  obtain ⟨-, -, -, k⟩ := set_col C hl
  obtain ⟨-, -, -, k'⟩ := set_col C (es := es.set s y) (by rw [List.length_set]; exact hl)
  have wn : ∀ w, ws[s]? = some w → 0 ≤ w := fun w h => C.w0 w (List.mem_of_getElem? h)
  generalize setI ws q es = e at *
  generalize setI ws q (es.set s y) = e' at *
  have h1 : e ≤ e' := by
    refine (k e').mp ?_
    have a := (k' e').mpr (Int.le_refl _)
    obtain ⟨w, hw, h⟩ := wsum_set (x := x) (y := y) (e := e') es ws s hx hl
    have := wn w hw
    split at h <;> split at h <;> omega
  refine ⟨h1, fun hlt => ⟨?_, ?_⟩⟩
  · apply Classical.byContradiction
    intro hc
    obtain ⟨w, hw, h⟩ := wsum_set (x := x) (y := y) (e := e) es ws s hx hl
    rw [if_neg (by omega), if_neg (by omega)] at h
    have a := (k e).mpr (Int.le_refl _)
    have := (k' e).mp (by omega)
    omega
  · apply Classical.byContradiction
    intro hc
    rcases Int.le_total e y with hy | hy
    · obtain ⟨w, hw, h⟩ := wsum_set (x := x) (y := y) (e := y) es ws s hx hl
      rw [if_pos hxy, if_pos (Int.le_refl _)] at h
      have a := (k y).mpr hy
      have := (k' y).mp (by omega)
      omega
    · obtain ⟨w, hw, h⟩ := wsum_set (x := x) (y := y) (e := e) es ws s hx hl
      rw [if_pos (by omega), if_pos hy] at h
      have a := (k e).mpr (Int.le_refl _)
      have := (k' e).mp (by omega)
      omega
theorem set_quota {ws es : List Int} {q q' : Int} (C : Cq ws q) (C' : Cq ws q') (hl : es.length = ws.length) (h : q ≤ q') : setI ws q es ≤ setI ws q' es := by
  obtain ⟨-, -, -, k⟩ := set_col C hl
  obtain ⟨-, -, -, k'⟩ := set_col C' hl
  have := (k' (setI ws q' es)).mpr (Int.le_refl _)
  exact (k _).mp (by omega)
theorem wsum_pos {e : Int} : ∀ {ps : List (Int × Int)}, (∀ p ∈ ps, 1 ≤ p.2) → (1 ≤ wsum e ps ↔ ∃ p ∈ ps, p.1 ≤ e)
  | [], _ => by
    refine ⟨fun h => ?_, fun ⟨p, hp, _⟩ => by cases hp⟩
    have : wsum e [] = 0 := rfl
    omega
  | p :: ps, h => by
    have ih := wsum_pos (e := e) fun x hx => h x (List.mem_cons_of_mem _ hx)
    have h0 := h p List.mem_cons_self
    have nn := wsum_nn (e := e) (ps := ps) fun x hx => by have := h x (List.mem_cons_of_mem _ hx); omega
    rw [wsum_cons]
    by_cases c : p.1 ≤ e
    · rw [if_pos c]
      exact ⟨fun _ => ⟨p, List.mem_cons_self, c⟩, fun _ => by omega⟩
    · rw [if_neg c, Int.zero_add, ih]
      exact ⟨fun ⟨x, hx, hc⟩ => ⟨x, List.mem_cons_of_mem _ hx, hc⟩, fun ⟨x, hx, hc⟩ => (List.mem_cons.mp hx).elim (fun e => absurd (e ▸ hc) c) fun hx => ⟨x, hx, hc⟩⟩
theorem wsum_all {e : Int} : ∀ {ps : List (Int × Int)}, (∀ p ∈ ps, 1 ≤ p.2) → wsum e ps ≤ (ps.map (·.2)).sum ∧ ((ps.map (·.2)).sum ≤ wsum e ps ↔ ∀ p ∈ ps, p.1 ≤ e)
  | [], _ => ⟨Int.le_refl _, fun _ p hp => (by cases hp), fun _ => Int.le_refl _⟩
  | p :: ps, h => by
    obtain ⟨i1, i2⟩ := wsum_all (e := e) (ps := ps) fun x hx => h x (List.mem_cons_of_mem _ hx)
    have h0 := h p List.mem_cons_self
    rw [wsum_cons, List.map_cons, List.sum_cons]
    by_cases c : p.1 ≤ e
    · rw [if_pos c]
      refine ⟨by omega, fun q => ?_, fun q => ?_⟩
      · have := i2.mp (by omega)
        intro x hx
        rcases List.mem_cons.mp hx with rfl | hx
        · exact c
        · exact this x hx
      · have := i2.mpr fun x hx => q x (List.mem_cons_of_mem _ hx)
        omega
    · rw [if_neg c]
      refine ⟨by omega, fun q => ?_, fun q => ?_⟩
      · exfalso; omega
      · exact absurd (q p List.mem_cons_self) c
theorem set_min {ws es : List Int} (C : Cq ws 1) (w1 : ∀ w ∈ ws, 1 ≤ w) (hl : es.length = ws.length) : minI es = some (setI ws 1 es) := by
  obtain ⟨-, -, hin, k⟩ := set_col C hl
  have hp : ∀ p ∈ es.zip ws, 1 ≤ p.2 := fun p hp => w1 _ (List.of_mem_zip (a := p.1) (b := p.2) hp).2
  refine minI_eq hin fun x hx => (k x).mp ((wsum_pos hp).mpr ?_)
  rw [← zip_fst hl] at hx
  obtain ⟨p, hp, rfl⟩ := List.mem_map.mp hx
  exact ⟨p, hp, Int.le_refl _⟩
theorem maxI_eq {l : List Int} {e : Int} (h : e ∈ l) (k : ∀ x ∈ l, x ≤ e) : maxI l = some e := by
  obtain ⟨a, b, -, h2, h3⟩ := min_max (l := l) (List.ne_nil_of_mem h)
  have key : ∀ (l : List Int) (m : Int), maxI l = some m → m ∈ l := by
    intro l
    induction l with
    | nil => intro m h; cases h
    | cons z l ih =>
      intro m h
      unfold maxI at h
      cases hz : maxI l with
      | none => rw [hz] at h; cases h; exact List.mem_cons_self
      | some n =>
        rw [hz] at h
        cases h
        try dsimp only
        split
        · exact List.mem_cons_of_mem _ (ih n hz)
        · exact List.mem_cons_self
  have h4 := k b (key l b h2)
  have h5 := (h3 e h).2
  rw [h2]; congr 1; omega
theorem set_max {ws es : List Int} (C : Cq ws ws.sum) (w1 : ∀ w ∈ ws, 1 ≤ w) (hl : es.length = ws.length) : maxI es = some (setI ws ws.sum es) := by
  obtain ⟨-, -, hin, k⟩ := set_col C hl
  have hp : ∀ p ∈ es.zip ws, 1 ≤ p.2 := fun p hp => w1 _ (List.of_mem_zip (a := p.1) (b := p.2) hp).2
  refine maxI_eq hin fun x hx => ?_
  have a := (k _).mpr (Int.le_refl _)
  have b := (wsum_all (e := setI ws ws.sum es) hp).2
  rw [zip_snd hl] at b
  rw [← zip_fst hl] at hx
  obtain ⟨p, hp, rfl⟩ := List.mem_map.mp hx
  exact b.mp a p hp
/-- a seat that decides alone -/
theorem set_alone {ws es : List Int} {q w x : Int} {s : Nat} (C : Cq ws q) (hl : es.length = ws.length) (hw : ws[s]? = some w) (hx : es[s]? = some x) (h1 : q ≤ w) (h2 : ws.sum - q < w) : setI ws q es = x := by
  obtain ⟨-, -, -, k⟩ := set_col C hl
  have nn := zip_nn (es := es) C
  have low : ∀ (ps : List (Int × Int)) (s : Nat) (e : Int), (∀ p ∈ ps, 0 ≤ p.2) → ps[s]? = some (x, w) → (x ≤ e → w ≤ wsum e ps) ∧ (¬ x ≤ e → wsum e ps + w ≤ (ps.map (·.2)).sum) := by
    intro ps
    induction ps with
    | nil => intro s e _ h; cases h
    | cons p ps ih =>
      intro s e hn h
      have hn' : ∀ p ∈ ps, 0 ≤ p.2 := fun a ha => hn a (List.mem_cons_of_mem _ ha)
      have h0 := hn p List.mem_cons_self
      have n1 := wsum_nn (e := e) hn'
      have n2 : wsum e ps ≤ (ps.map (·.2)).sum := by
        clear ih h n1
        induction ps with
        | nil => exact Int.le_refl _
        | cons a ps ih2 =>
          have := ih2 (fun b hb => hn b (by rcases List.mem_cons.mp hb with rfl | hb <;> simp [*])) fun b hb => hn' b (List.mem_cons_of_mem _ hb)
          have ha := hn' a List.mem_cons_self
          rw [wsum_cons, List.map_cons, List.sum_cons]
          split <;> omega
      rw [wsum_cons, List.map_cons, List.sum_cons]
      cases s with
      | zero =>
        cases h
        try dsimp only
        exact ⟨fun c => by rw [if_pos c]; omega, fun c => by rw [if_neg c]; omega⟩
      | succ s =>
        obtain ⟨i1, i2⟩ := ih s e hn' h
        refine ⟨fun c => ?_, fun c => ?_⟩
        · have := i1 c
          split <;> omega
        · have := i2 c
          split <;> omega
  have hz : (es.zip ws)[s]? = some (x, w) := by rw [List.getElem?_zip_eq_some]; exact ⟨hx, hw⟩
  have a := (k x).mp (by have := (low _ s x nn hz).1 (Int.le_refl _); omega)
  apply Classical.byContradiction
  intro hne
  have b := (k (setI ws q es)).mpr (Int.le_refl _)
  have c := (low _ s (setI ws q es) nn hz).2 (by omega)
  rw [zip_snd hl] at c
  omega
end HI

set_option maxRecDepth 100000
namespace B
open PySem L2 HI
def _law_raised : Sms := (.cons (.ret (.bcall "tuple" (.cons (.comp [2] (.nm 2) (.seq (.slot 1)) (.cst (.bl true)) (.bcall "min" (.cons (.bin .pow (.cst (.int (10))) (.cst (.int (18)))) (.cons (.bin .add (.slot 2) (.idx (.lst (.cons (.cst (.int (0))) (.cons (.cst (.int (1))) (.cons (.call "_law_take" (.cons (.slot 0) (.cons (.bin .pow (.cst (.int (10))) (.cst (.int (18)))) .nil))) .nil)))) (.call "_law_take" (.cons (.slot 0) (.cons (.cst (.int (3))) .nil))))) .nil)))) .nil))) .nil)
def _law_row_raised : Sms := (.cons (.asg (.nm 4) (.call "_law_take" (.cons (.slot 0) (.cons (.bcall "len" (.cons (.slot 2) .nil)) .nil)))) (.cons (.asg (.nm 5) (.call "_law_raised" (.cons (.slot 0) (.cons (.idx (.slot 2) (.slot 4)) .nil)))) (.cons (.asg (.nm 6) (.call "settle" (.cons (.slot 1) (.cons (.bin .add (.bin .add (.slc (.slot 2) false (.cst .non) true (.slot 4)) (.lst (.cons (.slot 5) .nil))) (.slc (.slot 2) true (.bin .add (.slot 4) (.cst (.int (1)))) false (.cst .non))) .nil)))) (.cons (.for_ (.nm 7) (.rng1 (.bcall "len" (.cons (.slot 5) .nil))) (.cons (.ite (.bin .lt (.idx (.slot 6) (.slot 7)) (.idx (.slot 3) (.slot 7))) (.cons (.ret (.cst (.bl false))) .nil) .nil) (.cons (.ite (.and (.bin .gt (.idx (.slot 6) (.slot 7)) (.idx (.slot 3) (.slot 7))) (.not (.chain .le .le (.idx (.idx (.slot 2) (.slot 4)) (.slot 7)) (.idx (.slot 6) (.slot 7)) (.idx (.slot 5) (.slot 7))))) (.cons (.ret (.cst (.bl false))) .nil) .nil) (.cons (.ite (.and (.bin .eq (.idx (.slot 5) (.slot 7)) (.idx (.idx (.slot 2) (.slot 4)) (.slot 7))) (.bin .ne (.idx (.slot 6) (.slot 7)) (.idx (.slot 3) (.slot 7)))) (.cons (.ret (.cst (.bl false))) .nil) .nil) .nil)))) (.cons (.ret (.cst (.bl true))) .nil)))))
def _law_quota_raised : Sms := (.cons (.asg (.tp [6, 7]) (.slot 1)) (.cons (.par [8, 9] (.cons (.call "_law_take" (.cons (.slot 0) (.cons (.bcall "len" (.cons (.slot 7) .nil)) .nil))) (.cons (.bcall "list" (.cons (.slot 7) .nil)) .nil))) (.cons (.augSub (.slot 9) (.slot 8) .add (.call "_law_take" (.cons (.slot 0) (.cons (.bin .add (.bin .sub (.bcall "sum" (.cons (.slot 6) .nil)) (.idx (.slot 7) (.slot 8))) (.cst (.int (1)))) .nil)))) (.cons (.asg (.nm 4) (.call "settle" (.cons (.mk 0 (.cons (.bcall "list" (.cons (.slot 6) .nil)) (.cons (.slot 9) .nil))) (.cons (.slot 2) .nil)))) (.cons (.asg (.nm 5) (.bin .add (.slc (.slot 3) false (.cst .non) true (.slot 8)) (.slc (.slot 3) true (.bin .add (.slot 8) (.cst (.int (1)))) false (.cst .non)))) (.cons (.ite (.bin .ne (.bin .add (.slc (.slot 4) false (.cst .non) true (.slot 8)) (.slc (.slot 4) true (.bin .add (.slot 8) (.cst (.int (1)))) false (.cst .non))) (.slot 5)) (.cons (.ret (.cst (.bl false))) .nil) .nil) (.cons (.ret (.bin .ge (.idx (.slot 4) (.slot 8)) (.idx (.slot 3) (.slot 8)))) .nil)))))))
def _law_ends : Sms := (.cons (.asg (.nm 3) (.call "settle" (.cons (.mk 0 (.cons (.bcall "list" (.cons (.slot 0) .nil)) (.cons (.bin .mul (.lst (.cons (.cst (.int (1))) .nil)) (.slot 1)) .nil))) (.cons (.slot 2) .nil)))) (.cons (.asg (.nm 4) (.call "settle" (.cons (.mk 0 (.cons (.bcall "list" (.cons (.slot 0) .nil)) (.cons (.bin .mul (.lst (.cons (.bcall "sum" (.cons (.slot 0) .nil)) .nil)) (.slot 1)) .nil))) (.cons (.slot 2) .nil)))) (.cons (.ite (.bin .ne (.slot 3) (.bcall "tuple" (.cons (.comp [5] (.nm 5) (.rng1 (.slot 1)) (.cst (.bl true)) (.bcall "min" (.cons (.comp [6] (.nm 6) (.seq (.slot 2)) (.cst (.bl true)) (.idx (.slot 6) (.slot 5))) .nil))) .nil))) (.cons (.ret (.cst (.bl false))) .nil) .nil) (.cons (.ret (.bin .eq (.slot 4) (.bcall "tuple" (.cons (.comp [5] (.nm 5) (.rng1 (.slot 1)) (.cst (.bl true)) (.bcall "max" (.cons (.comp [6] (.nm 6) (.seq (.slot 2)) (.cst (.bl true)) (.idx (.slot 6) (.slot 5))) .nil))) .nil)))) .nil))))
def law_k29 : Sms := (.cons (.asg (.nm 1) (.call "_law_bag" (.cons (.slot 0) .nil))) (.cons (.for_ (.nm 2) (.rng1 (.cst (.int (3)))) (.cons (.asg (.nm 3) (.bin .add (.cst (.int (1))) (.call "_law_take" (.cons (.slot 1) (.cons (.cst (.int (6))) .nil))))) (.cons (.asg (.nm 4) (.call "_law_council" (.cons (.slot 1) (.cons (.slot 3) (.cons (.cst (.int (7))) .nil))))) (.cons (.asg (.tp [7, 8]) (.slot 4)) (.cons (.par [9, 10] (.cons (.call "_law_made" (.cons (.slot 4) .nil)) (.cons (.call "_law_seat_rows" (.cons (.slot 1) (.cons (.slot 3) (.cons (.bcall "len" (.cons (.slot 7) .nil)) .nil)))) .nil))) (.cons (.asg (.nm 5) (.call "settle" (.cons (.slot 9) (.cons (.slot 10) .nil)))) (.cons (.ite (.not (.call "_law_row_raised" (.cons (.slot 1) (.cons (.slot 9) (.cons (.slot 10) (.cons (.slot 5) .nil)))))) (.cons (.ret (.cst (.bl false))) .nil) .nil) (.cons (.ite (.not (.call "_law_quota_raised" (.cons (.slot 1) (.cons (.slot 4) (.cons (.slot 10) (.cons (.slot 5) .nil)))))) (.cons (.ret (.cst (.bl false))) .nil) .nil) (.cons (.ite (.not (.call "_law_ends" (.cons (.slot 7) (.cons (.slot 3) (.cons (.slot 10) .nil))))) (.cons (.ret (.cst (.bl false))) .nil) .nil) (.cons (.for_ (.nm 6) (.rng1 (.bcall "len" (.cons (.slot 7) .nil))) (.cons (.for_ (.nm 11) (.rng1 (.slot 3)) (.cons (.asg (.nm 12) (.and (.bin .ge (.idx (.slot 7) (.slot 6)) (.idx (.slot 8) (.slot 11))) (.bin .gt (.idx (.slot 7) (.slot 6)) (.bin .sub (.bcall "sum" (.cons (.slot 7) .nil)) (.idx (.slot 8) (.slot 11)))))) (.cons (.ite (.and (.slot 12) (.bin .ne (.idx (.slot 5) (.slot 11)) (.idx (.idx (.slot 10) (.slot 6)) (.slot 11)))) (.cons (.ret (.cst (.bl false))) .nil) .nil) .nil))) .nil)) .nil)))))))))) (.cons (.ret (.cst (.bl true))) .nil)))
end B
namespace K29
open PySem L2 HI
def CT : List Ci := [⟨"Council", "Council", 2, ["weights", "quotas", "total", "width"], ["seat_weights", "column_quotas"]⟩]
def tab : List (String × Nat × Sms) := [("settled", 7, B.settled), ("settle", 7, B.settle), ("is_integer", 1, B.is_integer), ("is_between", 3, B.is_between), ("are_weights", 2, B.are_weights), ("are_quotas", 3, B.are_quotas), ("Council.__init__", 3, B.Council_dot___init__), ("Council.weights", 1, B.Council_dot_weights), ("Council.quotas", 1, B.Council_dot_quotas), ("Council.total", 1, B.Council_dot_total), ("Council.width", 1, B.Council_dot_width), ("Council.__len__", 1, B.Council_dot___len__), ("_law_bag", 2, B._law_bag), ("_law_take", 6, B._law_take), ("_law_council", 11, B._law_council), ("_law_made", 1, B._law_made), ("_law_value", 3, B._law_value), ("_law_seat_rows", 8, B._law_seat_rows), ("_law_raised", 3, B._law_raised), ("_law_row_raised", 8, B._law_row_raised), ("_law_quota_raised", 10, B._law_quota_raised), ("_law_ends", 7, B._law_ends), ("law", 13, B.law_k29)]
def pr : Pr := ⟨tab, CT⟩
theorem l_settled : pr.lookup "settled" = some (7, B.settled) := by rfl
theorem l_settle : pr.lookup "settle" = some (7, B.settle) := by rfl
theorem l_is_integer : pr.lookup "is_integer" = some (1, B.is_integer) := by rfl
theorem l_is_between : pr.lookup "is_between" = some (3, B.is_between) := by rfl
theorem l_are_weights : pr.lookup "are_weights" = some (2, B.are_weights) := by rfl
theorem l_are_quotas : pr.lookup "are_quotas" = some (3, B.are_quotas) := by rfl
theorem l_Council_dot___init__ : pr.lookup "Council.__init__" = some (3, B.Council_dot___init__) := by rfl
theorem l_Council_dot_weights : pr.lookup "Council.weights" = some (1, B.Council_dot_weights) := by rfl
theorem l_Council_dot_quotas : pr.lookup "Council.quotas" = some (1, B.Council_dot_quotas) := by rfl
theorem l_Council_dot_total : pr.lookup "Council.total" = some (1, B.Council_dot_total) := by rfl
theorem l_Council_dot_width : pr.lookup "Council.width" = some (1, B.Council_dot_width) := by rfl
theorem l_Council_dot___len__ : pr.lookup "Council.__len__" = some (1, B.Council_dot___len__) := by rfl
theorem l__law_bag : pr.lookup "_law_bag" = some (2, B._law_bag) := by rfl
theorem l__law_take : pr.lookup "_law_take" = some (6, B._law_take) := by rfl
theorem l__law_council : pr.lookup "_law_council" = some (11, B._law_council) := by rfl
theorem l__law_made : pr.lookup "_law_made" = some (1, B._law_made) := by rfl
theorem l__law_value : pr.lookup "_law_value" = some (3, B._law_value) := by rfl
theorem l__law_seat_rows : pr.lookup "_law_seat_rows" = some (8, B._law_seat_rows) := by rfl
theorem l__law_raised : pr.lookup "_law_raised" = some (3, B._law_raised) := by rfl
theorem l__law_row_raised : pr.lookup "_law_row_raised" = some (8, B._law_row_raised) := by rfl
theorem l__law_quota_raised : pr.lookup "_law_quota_raised" = some (10, B._law_quota_raised) := by rfl
theorem l__law_ends : pr.lookup "_law_ends" = some (7, B._law_ends) := by rfl
theorem l_law : pr.lookup "law" = some (13, B.law_k29) := by rfl
end K29

set_option maxRecDepth 100000
set_option maxHeartbeats 1000000
namespace HI
open PySem L2 SrtO
-- eng
local macro_rules | `(tactic| fail "s") => `(tactic| first
  | refine ex_cons ?_ | refine ex_nx ?_ | refine ex_rt ?_ | refine ex_bk ?_ | refine ex_ct ?_ | refine ex_nil ?_
  | refine ew_fz rfl ?_ | refine ew_own rfl ?_ | refine ew_rol rfl ?_ | refine ew_cst rfl ?_ | refine ew_bin ?_ | refine ew_idx ?_ | refine ew_nil ?_ | refine ew_cons ?_ | refine ew_call ?_ | refine ew_bcall ?_
  | refine ew_not ?_ | refine ew_neg ?_ | refine ew_and ?_ | refine ew_or ?_ | refine ew_chain ?_ | refine ew_ife ?_ | refine ew_lst ?_ | refine ew_tup ?_ | refine ew_slc ?_ | refine ew_meth ?_ | refine ew_fld ?_ | refine ew_mk ?_
  | refine ex_asg ?_ | refine ex_asgT ?_ | refine ex_asgS ?_ | refine ex_asgF ?_ | refine ex_aug rfl ?_ | refine ex_augS ?_ | refine ex_ex ?_ | refine ex_ite ?_ | refine ex_ret ?_ | refine ex_brk ?_ | refine ex_cont ?_ | refine ex_pass ?_ | refine ex_par ?_
  | refine q_rng (by omega) ?_ | refine ei_seq ?_ | refine ei_enum ?_ | refine ei_zip ?_ | refine ei_rng1 ?_ | refine ei_rng2 ?_
  | refine WE_of ?_ | refine WB_of ?_ | refine WT_of ?_
  | refine q_dat rfl ?_ | refine q_datRr ?_ | refine q_datR rfl ?_ | refine q_truB rfl ?_ | refine eq_t ?_ | refine eq_f ?_
  | refine q_add_i ?_ | refine q_sub_i ?_ | refine q_lt_i ?_ | refine q_le_i ?_ | refine q_gt_i ?_ | refine q_ge_i ?_ | refine q_eq_i ?_ | refine q_ne_i ?_ | refine q_eq_s ?_ | refine q_ne_s ?_ | refine q_pow_18 ?_ | refine q_is_n ?_ | refine q_is_b ?_ | refine q_isn_b ?_ | refine q_isn_n ?_
  | refine q_idx rfl ?_ | refine p_no ?_ | refine ep_yes ?_ | refine q_slcL ?_ | refine d_nil ?_ | refine d_cons ?_ | refine q_bfn rfl ?_
  | refine f_fz ?_ | refine f_own ?_ | refine ef_var rfl ?_ | refine f_varF rfl ?_ | refine f_nil ?_ | refine f_cons ?_
  | refine r_fz ?_ | refine r_own ?_ | refine r_rol ?_ | refine er_var rfl ?_ | refine rs_nil ?_ | refine rs_cons ?_
  | refine ek_0 ?_ | refine ek_s ?_ | refine ess_nil ?_ | refine ess_cons rfl ?_ | refine esv_nil ?_ | refine esv_cons rfl ?_
  | refine q_tup ?_ | refine ea_nm rfl ?_ | refine ea_tp ?_ | refine s_fzl ?_ | refine s_fzt ?_ | refine s_own ?_ | refine s_rol ?_ | refine s_var rfl ?_
  | refine eo_nil ?_ | refine eo_fz ?_ | refine eo_own ?_ | refine eo_rol ?_ | refine eo_var rfl ?_
  | refine fq_nx ?_ | refine fq_rt ?_ | refine t_fz ?_ | refine t_own ?_ | refine et_var rfl rfl ?_ | refine et_varP rfl rfl ?_
  | refine q_rec rfl ?_ | refine em_l ?_ | refine em_r rfl ?_ | refine q_fld rfl ?_
  | refine side_int rfl ?_ | refine side_int2 rfl rfl ?_ | refine side_bool rfl ?_ | refine side_var rfl ?_
  | refine side rfl ?_ | refine side (Nat.le_of_ble_eq_true rfl) ?_ | refine em_set0 rfl ?_ | refine em_set1 rfl ?_ | refine em_set2 rfl ?_ | refine em_clear rfl ?_ | refine m_fld rfl rfl ?_ | refine ekl_0 ?_ | refine ekl_s ?_ | refine side_some rfl ?_
  | refine q_mul_i (by omega) (by omega) ?_ | refine q_mod_i (by omega) ?_ | refine q_fdiv_i (by omega) (by omega) ?_)
-- gne
theorem nth_app {vs : List Int} {x : Int} {j : Nat} (h : j < vs.length) : nth (vs ++ [x]) j = nth vs j := by
  unfold nth
  rw [List.getElem?_append_left h]
theorem nth_last {vs : List Int} {x : Int} : nth (vs ++ [x]) vs.length = x := by
  unfold nth
  rw [List.getElem?_append_right (Nat.le_refl _), Nat.sub_self]; rfl
theorem raised_cp {T : Pr} (hT : T.lookup "_law_raised" = some (3, B._law_raised)) (hK : T.lookup "_law_take" = some (6, B._law_take)) {k n : Nat} {d : PyData} (G : Bag d n) (hn : n < 2 ^ 80) {width : Nat} {row : List Int} (hw : width < 100) (hr : FarR width row) :
    cp T (k + 2) "_law_raised" [.own d, .fz (rowD row)] fun r os => ∃ row' d', r = .fz (rowD row') ∧ os = [some (.own d'), none] ∧ FarR width row' ∧ (∀ j, j < width → nth row j ≤ nth row' j) ∧ Bag d' (n + 200) := by
  have big := big1000
  have hl := hr.1
  refine ecp_of hT ?_
  show WB ⟨callDD T (k + 1), T.I⟩ [0] _ [some (.own d), some (.fz (.tuple (row.map .int))), none] (zF [0] 2 _)
  repeat fail "s"
  refine ew_comp ?_
  repeat fail "s"
  refine ⟨⟨rfl, rfl⟩, ?_⟩
  refine ecomp (N := row.length) (fun j acc E => ∃ (vs : List Int) (d' : PyData), acc = vs.map .int ∧ vs.length = j ∧ (∀ x ∈ vs, Far x) ∧ (∀ i, i < j → nth row i ≤ nth vs i) ∧ E = [some (.own d'), some (.fz (.tuple (row.map .int))), none] ∧ Bag d' (n + 2 * j)) (by simp [Wd.n, Src.n]) ⟨[], d, rfl, rfl, (by intro x hx; cases hx), (fun i hi => by omega), rfl, G⟩ ?_ ?_
  · rintro j acc E hj ⟨vs, d1, rfl, rfl, hv, hm, rfl, G1⟩
    have hx : row[vs.length]? = some row[vs.length] := List.getElem?_eq_getElem hj
    have hF := hr.2 _ (List.getElem_mem hj)
    have hnx : nth row vs.length = row[vs.length] := by unfold nth; rw [hx]; rfl
    refine ⟨.int row[vs.length], _, ?_, rfl, ?_⟩
    · show (row.map PyData.int)[vs.length]? = _
      rw [List.getElem?_map, hx]; rfl
    generalize row[vs.length] = x at *
    repeat fail "s"
    refine ⟨by rw [List.length_map]; omega, ?_⟩
    repeat fail "s"
    refine c_take hK rfl G1 (by omega) (by omega) (by omega) fun a d2 a0 a1 G2 => ?_
    repeat fail "s"
    refine c_take hK rfl G2 (by omega) (by omega) (by omega) fun b d3 b0 b1 G3 => ?_
    repeat fail "s"
    refine q_ints (xs := [0, 1, a]) b0 b1 fun y hy => ?_
    have hY : 0 ≤ y ∧ y ≤ 1000000000000000000 := by
      simp only [List.mem_cons, List.not_mem_nil, or_false] at hy
      omega
    unfold Far at hF
    repeat fail "s"
    refine ⟨vs ++ [if x + y < 1000000000000000000 then x + y else 1000000000000000000], d3, by rw [List.map_append]; rfl, by rw [List.length_append]; rfl, ?_, fun i hi => ?_, rfl, G3.mono (by omega)⟩
    · intro z hz
      rcases List.mem_append.mp hz with hz | hz
      · exact hv z hz
      · rw [List.mem_singleton.mp hz]; unfold Far; split <;> omega
    · by_cases c : i < vs.length
      · rw [nth_app c]; exact hm i c
      · have : i = vs.length := by omega
        subst this
        rw [nth_last, hnx]
        split <;> omega
  · rintro acc E ⟨vs, d1, rfl, hvl, hv, hm, rfl, G1⟩
    refine ⟨rfl, ?_⟩
    repeat fail "s"
    exact ⟨vs, _, rfl, rfl, ⟨by omega, hv⟩, fun j hj => hm j (by omega), G1.mono (by omega)⟩
theorem Co.rep {ws qs : List Int} {width : Nat} (C : Co ws qs width 7) {q : Int} (h0 : 1 ≤ q) (h1 : q ≤ ws.sum) : Co ws (List.replicate width q) width 7 := ⟨C.l2, C.l7, C.w, List.length_replicate, fun x hx => by rw [List.eq_of_mem_replicate hx]; exact ⟨h0, h1⟩⟩
theorem setRow_rep {ws : List Int} {rows : List (List Int)} {width : Nat} {q : Int} : setRow ws (List.replicate width q) rows = (List.range width).map fun j => setI ws q (col j rows) := by
  unfold setRow
  rw [List.length_replicate]
  refine List.map_congr_left fun j hj => ?_
  have hj := List.mem_range.mp hj
  unfold nth
  rw [List.getElem?_replicate, if_pos hj]; rfl
theorem ends_cp {T : Pr} (L : CH0 T) (hT : T.lookup "_law_ends" = some (7, B._law_ends)) {k : Nat} {ws qs : List Int} {rows : List (List Int)} {width : Nat} (C : Co ws qs width 7) (w1 : 1 ≤ width) (w6 : width ≤ 6) (hl : rows.length = ws.length) (hr : ∀ r ∈ rows, FarR width r) :
    cp T (k + 5) "_law_ends" [.fz (.list (ws.map .int)), .fz (.int width), .fz (rowsD rows)] fun r os => r = .fz (.bool true) ∧ os = [none, none, none] := by
  have big := big1000
  have hs := ws_sum C.w
  have hw3 : width < 1000 := by omega
  have l2 := C.l2
  have l7 := C.l7
  have hcl : ∀ j, (col j rows).length = ws.length := fun j => by unfold col; rw [List.length_map]; exact hl
  have C1 := C.rep (q := 1) (by omega) (by omega)
  have C2 := C.rep (q := ws.sum) (by omega) (by omega)
  have q1 : Cq ws 1 := ⟨by omega, by omega, fun w hw => by have := (C.w w hw).1; omega⟩
  have q2 : Cq ws ws.sum := ⟨by omega, by omega, fun w hw => by have := (C.w w hw).1; omega⟩
  have wp1 : ∀ w ∈ ws, 1 ≤ w := fun w hw => (C.w w hw).1
  have n1 := (setRow_far C1 hl hr).nice
  have n2 := (setRow_far C2 hl hr).nice
  have e1 := setRow_rep (ws := ws) (rows := rows) (width := width) (q := 1)
  have e2 := setRow_rep (ws := ws) (rows := rows) (width := width) (q := ws.sum)
  have r1 : List.replicate width (PyData.int 1) = (List.replicate width (1 : Int)).map .int := List.map_replicate.symm
  have r2 : List.replicate width (PyData.int ws.sum) = (List.replicate width ws.sum).map .int := List.map_replicate.symm
  have frl : ∀ q : Int, ∀ r ∈ rows, (List.replicate width q).length ≤ r.length := fun q r h => by rw [List.length_replicate, (hr r h).1]; omega
  refine ecp_of hT ?_
  show WB ⟨callDD T (k + 4), T.I⟩ [] _ [some (.fz (.list (ws.map .int))), some (.fz (.int width)), some (.fz (.list (rows.map rowD))), none, none, none, none] (zF [] 3 _)
  repeat (first | with_reducible refine q_rep1 (n := width) hw3 ?_ | fail "s")
  rw [r1]
  repeat (first | refine mk_ok (qs := List.replicate width 1) L.toCL C1 w1 w6 ?_ | fail "s")
  refine eq_call (T := T) rfl rfl (cp_mono (settle_cp2 (qs := List.replicate width 1) L.ste L.sed L.wei L.quo L.toCI (fun q h => C1.cq h) hl (by omega) (by rw [List.length_replicate]; omega) (frl 1) true false) ?_)
  rintro r os ⟨rfl, rfl⟩
  refine ⟨rfl, ?_⟩
  repeat fail "s"
  refine q_sum ?_
  repeat (first | with_reducible refine q_rep1 (n := width) hw3 ?_ | fail "s")
  rw [r2]
  repeat (first | refine mk_ok (qs := List.replicate width ws.sum) L.toCL C2 w1 w6 ?_ | fail "s")
  refine eq_call (T := T) rfl rfl (cp_mono (settle_cp2 (qs := List.replicate width ws.sum) L.ste L.sed L.wei L.quo L.toCI (fun q h => C2.cq h) hl (by omega) (by rw [List.length_replicate]; omega) (frl ws.sum) true false) ?_)
  rintro r os ⟨rfl, rfl⟩
  refine ⟨rfl, ?_⟩
  repeat fail "s"
  refine ew_comp ?_
  repeat fail "s"
  refine ⟨⟨rfl, rfl⟩, ?_⟩
  refine ecomp_pure (enc := fun i : Nat => .int (0 + (i : Int))) (List.range width) (fun _ => true) (fun j => .int (setI ws 1 (col j rows))) (by show ((width : Int) - 0).toNat = _; rw [List.length_range]; omega) (by rw [List.length_range]; omega) (fun i => ?_) rfl (fun j hj2 => ?_) ?_
  · show (if i < ((width : Int) - 0).toNat then some (PyData.int (0 + (i : Int))) else none) = _
    rw [List.getElem?_map]
    by_cases c : i < width
    · rw [if_pos (by omega), List.getElem?_range c]; rfl
    · rw [if_neg (by omega), List.getElem?_eq_none (by rw [List.length_range]; omega)]; rfl
  · have hj := List.mem_range.mp hj2
    rw [Int.zero_add]
    refine ⟨_, rfl, rfl, ?_⟩
    repeat fail "s"
    intro _
    repeat fail "s"
    refine ew_comp ?_
    repeat fail "s"
    refine ⟨⟨rfl, rfl⟩, ?_⟩
    refine ecomp_pure (enc := rowD) rows (fun _ => true) (fun r => .int (nth r j)) (by simp [Wd.n, Src.n]) (by omega) (fun i => rfl) rfl (fun r hr' => ?_) ?_
    · refine ⟨_, rfl, rfl, ?_⟩
      repeat fail "s"
      intro _
      repeat fail "s"
      refine q_idx (row_at (by omega) (by rw [(hr r hr').1]; omega)) ?_
      repeat fail "s"
      first | rfl | exact ⟨rfl, rfl⟩
    · have em : (rows.map fun r => PyData.int (nth r j)) = (col j rows).map .int := map_int
      rw [filter_true, em]
      repeat fail "s"
      refine q_min1 (set_min q1 wp1 (hcl j)) ?_
      repeat fail "s"
      first | rfl | exact ⟨rfl, rfl⟩
  have em1 : ((List.range width).map fun j => PyData.int (setI ws 1 (col j rows))) = ((List.range width).map fun j => setI ws 1 (col j rows)).map .int := map_int
  rw [filter_true, em1, ← e1]
  repeat fail "s"
  refine q_ne_refl n1 (by omega) ?_
  repeat fail "s"
  refine ew_comp ?_
  repeat fail "s"
  refine ⟨⟨rfl, rfl⟩, ?_⟩
  refine ecomp_pure (enc := fun i : Nat => .int (0 + (i : Int))) (List.range width) (fun _ => true) (fun j => .int (setI ws ws.sum (col j rows))) (by show ((width : Int) - 0).toNat = _; rw [List.length_range]; omega) (by rw [List.length_range]; omega) (fun i => ?_) rfl (fun j hj2 => ?_) ?_
  · show (if i < ((width : Int) - 0).toNat then some (PyData.int (0 + (i : Int))) else none) = _
    rw [List.getElem?_map]
    by_cases c : i < width
    · rw [if_pos (by omega), List.getElem?_range c]; rfl
    · rw [if_neg (by omega), List.getElem?_eq_none (by rw [List.length_range]; omega)]; rfl
  · have hj := List.mem_range.mp hj2
    rw [Int.zero_add]
    refine ⟨_, rfl, rfl, ?_⟩
    repeat fail "s"
    intro _
    repeat fail "s"
    refine ew_comp ?_
    repeat fail "s"
    refine ⟨⟨rfl, rfl⟩, ?_⟩
    refine ecomp_pure (enc := rowD) rows (fun _ => true) (fun r => .int (nth r j)) (by simp [Wd.n, Src.n]) (by omega) (fun i => rfl) rfl (fun r hr' => ?_) ?_
    · refine ⟨_, rfl, rfl, ?_⟩
      repeat fail "s"
      intro _
      repeat fail "s"
      refine q_idx (row_at (by omega) (by rw [(hr r hr').1]; omega)) ?_
      repeat fail "s"
      first | rfl | exact ⟨rfl, rfl⟩
    · have em : (rows.map fun r => PyData.int (nth r j)) = (col j rows).map .int := map_int
      rw [filter_true, em]
      repeat fail "s"
      refine q_max1 (set_max q2 wp1 (hcl j)) ?_
      repeat fail "s"
      first | rfl | exact ⟨rfl, rfl⟩
  have em2 : ((List.range width).map fun j => PyData.int (setI ws ws.sum (col j rows))) = ((List.range width).map fun j => setI ws ws.sum (col j rows)).map .int := map_int
  rw [filter_true, em2, ← e2]
  repeat fail "s"
  refine q_eq_refl n2 (by omega) ?_
  repeat fail "s"
  first | rfl | exact ⟨rfl, rfl⟩
end HI

set_option maxRecDepth 100000
set_option maxHeartbeats 1000000
namespace HI
open PySem L2 SrtO
-- eng
local macro_rules | `(tactic| fail "s") => `(tactic| first
  | refine ex_cons ?_ | refine ex_nx ?_ | refine ex_rt ?_ | refine ex_bk ?_ | refine ex_ct ?_ | refine ex_nil ?_
  | refine ew_fz rfl ?_ | refine ew_own rfl ?_ | refine ew_rol rfl ?_ | refine ew_cst rfl ?_ | refine ew_bin ?_ | refine ew_idx ?_ | refine ew_nil ?_ | refine ew_cons ?_ | refine ew_call ?_ | refine ew_bcall ?_
  | refine ew_not ?_ | refine ew_neg ?_ | refine ew_and ?_ | refine ew_or ?_ | refine ew_chain ?_ | refine ew_ife ?_ | refine ew_lst ?_ | refine ew_tup ?_ | refine ew_slc ?_ | refine ew_meth ?_ | refine ew_fld ?_ | refine ew_mk ?_
  | refine ex_asg ?_ | refine ex_asgT ?_ | refine ex_asgS ?_ | refine ex_asgF ?_ | refine ex_aug rfl ?_ | refine ex_augS ?_ | refine ex_ex ?_ | refine ex_ite ?_ | refine ex_ret ?_ | refine ex_brk ?_ | refine ex_cont ?_ | refine ex_pass ?_ | refine ex_par ?_
  | refine q_rng (by omega) ?_ | refine ei_seq ?_ | refine ei_enum ?_ | refine ei_zip ?_ | refine ei_rng1 ?_ | refine ei_rng2 ?_
  | refine WE_of ?_ | refine WB_of ?_ | refine WT_of ?_
  | refine q_dat rfl ?_ | refine q_datRr ?_ | refine q_datR rfl ?_ | refine q_truB rfl ?_ | refine eq_t ?_ | refine eq_f ?_
  | refine q_add_i ?_ | refine q_sub_i ?_ | refine q_lt_i ?_ | refine q_le_i ?_ | refine q_gt_i ?_ | refine q_ge_i ?_ | refine q_eq_i ?_ | refine q_ne_i ?_ | refine q_eq_s ?_ | refine q_ne_s ?_ | refine q_pow_18 ?_ | refine q_is_n ?_ | refine q_is_b ?_ | refine q_isn_b ?_ | refine q_isn_n ?_
  | refine q_idx rfl ?_ | refine p_no ?_ | refine ep_yes ?_ | refine q_slcL ?_ | refine d_nil ?_ | refine d_cons ?_ | refine q_bfn rfl ?_
  | refine f_fz ?_ | refine f_own ?_ | refine ef_var rfl ?_ | refine f_varF rfl ?_ | refine f_nil ?_ | refine f_cons ?_
  | refine r_fz ?_ | refine r_own ?_ | refine r_rol ?_ | refine er_var rfl ?_ | refine rs_nil ?_ | refine rs_cons ?_
  | refine ek_0 ?_ | refine ek_s ?_ | refine ess_nil ?_ | refine ess_cons rfl ?_ | refine esv_nil ?_ | refine esv_cons rfl ?_
  | refine q_tup ?_ | refine ea_nm rfl ?_ | refine ea_tp ?_ | refine s_fzl ?_ | refine s_fzt ?_ | refine s_own ?_ | refine s_rol ?_ | refine s_var rfl ?_
  | refine eo_nil ?_ | refine eo_fz ?_ | refine eo_own ?_ | refine eo_rol ?_ | refine eo_var rfl ?_
  | refine fq_nx ?_ | refine fq_rt ?_ | refine t_fz ?_ | refine t_own ?_ | refine et_var rfl rfl ?_ | refine et_varP rfl rfl ?_
  | refine q_rec rfl ?_ | refine em_l ?_ | refine em_r rfl ?_ | refine q_fld rfl ?_
  | refine side_int rfl ?_ | refine side_int2 rfl rfl ?_ | refine side_bool rfl ?_ | refine side_var rfl ?_
  | refine side rfl ?_ | refine side (Nat.le_of_ble_eq_true rfl) ?_ | refine em_set0 rfl ?_ | refine em_set1 rfl ?_ | refine em_set2 rfl ?_ | refine em_clear rfl ?_ | refine m_fld rfl rfl ?_ | refine ekl_0 ?_ | refine ekl_s ?_ | refine side_some rfl ?_
  | refine q_mul_i (by omega) (by omega) ?_ | refine q_mod_i (by omega) ?_ | refine q_fdiv_i (by omega) (by omega) ?_)
-- gne
theorem ends_cpo {T : Pr} (L : CH0 T) (hT : T.lookup "_law_ends" = some (7, B._law_ends)) {k : Nat} {ws qs : List Int} {rows : List (List Int)} {width : Nat} (C : Co ws qs width 7) (w1 : 1 ≤ width) (w6 : width ≤ 6) (hl : rows.length = ws.length) (hr : ∀ r ∈ rows, FarR width r) :
    cp T (k + 5) "_law_ends" [.fz (.list (ws.map .int)), .fz (.int width), .own (rowsD rows)] fun r os => r = .fz (.bool true) ∧ os = [none, none, some (.own (rowsD rows))] := by
  have big := big1000
  have hs := ws_sum C.w
  have hw3 : width < 1000 := by omega
  have l2 := C.l2
  have l7 := C.l7
  have hcl : ∀ j, (col j rows).length = ws.length := fun j => by unfold col; rw [List.length_map]; exact hl
  have C1 := C.rep (q := 1) (by omega) (by omega)
  have C2 := C.rep (q := ws.sum) (by omega) (by omega)
  have q1 : Cq ws 1 := ⟨by omega, by omega, fun w hw => by have := (C.w w hw).1; omega⟩
  have q2 : Cq ws ws.sum := ⟨by omega, by omega, fun w hw => by have := (C.w w hw).1; omega⟩
  have wp1 : ∀ w ∈ ws, 1 ≤ w := fun w hw => (C.w w hw).1
  have n1 := (setRow_far C1 hl hr).nice
  have n2 := (setRow_far C2 hl hr).nice
  have e1 := setRow_rep (ws := ws) (rows := rows) (width := width) (q := 1)
  have e2 := setRow_rep (ws := ws) (rows := rows) (width := width) (q := ws.sum)
  have r1 : List.replicate width (PyData.int 1) = (List.replicate width (1 : Int)).map .int := List.map_replicate.symm
  have r2 : List.replicate width (PyData.int ws.sum) = (List.replicate width ws.sum).map .int := List.map_replicate.symm
  have frl : ∀ q : Int, ∀ r ∈ rows, (List.replicate width q).length ≤ r.length := fun q r h => by rw [List.length_replicate, (hr r h).1]; omega
  refine ecp_of hT ?_
  show WB ⟨callDD T (k + 4), T.I⟩ [2] _ [some (.fz (.list (ws.map .int))), some (.fz (.int width)), some (.own (.list (rows.map rowD))), none, none, none, none] (zF [2] 3 _)
  repeat (first | with_reducible refine q_rep1 (n := width) hw3 ?_ | fail "s")
  rw [r1]
  repeat (first | refine mk_ok (qs := List.replicate width 1) L.toCL C1 w1 w6 ?_ | fail "s")
  refine eq_call (T := T) rfl rfl (cp_mono (settle_cp2 (qs := List.replicate width 1) L.ste L.sed L.wei L.quo L.toCI (fun q h => C1.cq h) hl (by omega) (by rw [List.length_replicate]; omega) (frl 1) true true) ?_)
  rintro r os ⟨rfl, rfl⟩
  refine ⟨rfl, ?_⟩
  repeat fail "s"
  refine q_sum ?_
  repeat (first | with_reducible refine q_rep1 (n := width) hw3 ?_ | fail "s")
  rw [r2]
  repeat (first | refine mk_ok (qs := List.replicate width ws.sum) L.toCL C2 w1 w6 ?_ | fail "s")
  refine eq_call (T := T) rfl rfl (cp_mono (settle_cp2 (qs := List.replicate width ws.sum) L.ste L.sed L.wei L.quo L.toCI (fun q h => C2.cq h) hl (by omega) (by rw [List.length_replicate]; omega) (frl ws.sum) true true) ?_)
  rintro r os ⟨rfl, rfl⟩
  refine ⟨rfl, ?_⟩
  repeat fail "s"
  refine ew_comp ?_
  repeat fail "s"
  refine ⟨⟨rfl, rfl⟩, ?_⟩
  refine ecomp_pure (enc := fun i : Nat => .int (0 + (i : Int))) (List.range width) (fun _ => true) (fun j => .int (setI ws 1 (col j rows))) (by show ((width : Int) - 0).toNat = _; rw [List.length_range]; omega) (by rw [List.length_range]; omega) (fun i => ?_) rfl (fun j hj2 => ?_) ?_
  · show (if i < ((width : Int) - 0).toNat then some (PyData.int (0 + (i : Int))) else none) = _
    rw [List.getElem?_map]
    by_cases c : i < width
    · rw [if_pos (by omega), List.getElem?_range c]; rfl
    · rw [if_neg (by omega), List.getElem?_eq_none (by rw [List.length_range]; omega)]; rfl
  · have hj := List.mem_range.mp hj2
    rw [Int.zero_add]
    refine ⟨_, rfl, rfl, ?_⟩
    repeat fail "s"
    intro _
    repeat fail "s"
    refine ew_comp ?_
    repeat fail "s"
    refine ⟨⟨rfl, rfl⟩, ?_⟩
    refine ecomp_pure (enc := rowD) rows (fun _ => true) (fun r => .int (nth r j)) (by simp [Wd.n, Src.n]) (by omega) (fun i => at_var rfl i) (ends_var rfl) (fun r hr' => ?_) ?_
    · refine ⟨_, rfl, rfl, ?_⟩
      repeat fail "s"
      intro _
      repeat fail "s"
      refine q_idx (row_at (by omega) (by rw [(hr r hr').1]; omega)) ?_
      repeat fail "s"
      first | rfl | exact ⟨rfl, rfl⟩
    · have em : (rows.map fun r => PyData.int (nth r j)) = (col j rows).map .int := map_int
      rw [filter_true, em]
      repeat fail "s"
      refine q_min1 (set_min q1 wp1 (hcl j)) ?_
      repeat fail "s"
      first | rfl | exact ⟨rfl, rfl⟩
  have em1 : ((List.range width).map fun j => PyData.int (setI ws 1 (col j rows))) = ((List.range width).map fun j => setI ws 1 (col j rows)).map .int := map_int
  rw [filter_true, em1, ← e1]
  repeat fail "s"
  refine q_ne_refl n1 (by omega) ?_
  repeat fail "s"
  refine ew_comp ?_
  repeat fail "s"
  refine ⟨⟨rfl, rfl⟩, ?_⟩
  refine ecomp_pure (enc := fun i : Nat => .int (0 + (i : Int))) (List.range width) (fun _ => true) (fun j => .int (setI ws ws.sum (col j rows))) (by show ((width : Int) - 0).toNat = _; rw [List.length_range]; omega) (by rw [List.length_range]; omega) (fun i => ?_) rfl (fun j hj2 => ?_) ?_
  · show (if i < ((width : Int) - 0).toNat then some (PyData.int (0 + (i : Int))) else none) = _
    rw [List.getElem?_map]
    by_cases c : i < width
    · rw [if_pos (by omega), List.getElem?_range c]; rfl
    · rw [if_neg (by omega), List.getElem?_eq_none (by rw [List.length_range]; omega)]; rfl
  · have hj := List.mem_range.mp hj2
    rw [Int.zero_add]
    refine ⟨_, rfl, rfl, ?_⟩
    repeat fail "s"
    intro _
    repeat fail "s"
    refine ew_comp ?_
    repeat fail "s"
    refine ⟨⟨rfl, rfl⟩, ?_⟩
    refine ecomp_pure (enc := rowD) rows (fun _ => true) (fun r => .int (nth r j)) (by simp [Wd.n, Src.n]) (by omega) (fun i => at_var rfl i) (ends_var rfl) (fun r hr' => ?_) ?_
    · refine ⟨_, rfl, rfl, ?_⟩
      repeat fail "s"
      intro _
      repeat fail "s"
      refine q_idx (row_at (by omega) (by rw [(hr r hr').1]; omega)) ?_
      repeat fail "s"
      first | rfl | exact ⟨rfl, rfl⟩
    · have em : (rows.map fun r => PyData.int (nth r j)) = (col j rows).map .int := map_int
      rw [filter_true, em]
      repeat fail "s"
      refine q_max1 (set_max q2 wp1 (hcl j)) ?_
      repeat fail "s"
      first | rfl | exact ⟨rfl, rfl⟩
  have em2 : ((List.range width).map fun j => PyData.int (setI ws ws.sum (col j rows))) = ((List.range width).map fun j => setI ws ws.sum (col j rows)).map .int := map_int
  rw [filter_true, em2, ← e2]
  repeat fail "s"
  refine q_eq_refl n2 (by omega) ?_
  repeat fail "s"
  first | rfl | exact ⟨rfl, rfl⟩
end HI

set_option maxRecDepth 100000
set_option maxHeartbeats 1000000
namespace HI
open PySem L2 SrtO
-- eng
local macro_rules | `(tactic| fail "s") => `(tactic| first
  | refine ex_cons ?_ | refine ex_nx ?_ | refine ex_rt ?_ | refine ex_bk ?_ | refine ex_ct ?_ | refine ex_nil ?_
  | refine ew_fz rfl ?_ | refine ew_own rfl ?_ | refine ew_rol rfl ?_ | refine ew_cst rfl ?_ | refine ew_bin ?_ | refine ew_idx ?_ | refine ew_nil ?_ | refine ew_cons ?_ | refine ew_call ?_ | refine ew_bcall ?_
  | refine ew_not ?_ | refine ew_neg ?_ | refine ew_and ?_ | refine ew_or ?_ | refine ew_chain ?_ | refine ew_ife ?_ | refine ew_lst ?_ | refine ew_tup ?_ | refine ew_slc ?_ | refine ew_meth ?_ | refine ew_fld ?_ | refine ew_mk ?_
  | refine ex_asg ?_ | refine ex_asgT ?_ | refine ex_asgS ?_ | refine ex_asgF ?_ | refine ex_aug rfl ?_ | refine ex_augS ?_ | refine ex_ex ?_ | refine ex_ite ?_ | refine ex_ret ?_ | refine ex_brk ?_ | refine ex_cont ?_ | refine ex_pass ?_ | refine ex_par ?_
  | refine q_rng (by omega) ?_ | refine ei_seq ?_ | refine ei_enum ?_ | refine ei_zip ?_ | refine ei_rng1 ?_ | refine ei_rng2 ?_
  | refine WE_of ?_ | refine WB_of ?_ | refine WT_of ?_
  | refine q_dat rfl ?_ | refine q_datRr ?_ | refine q_datR rfl ?_ | refine q_truB rfl ?_ | refine eq_t ?_ | refine eq_f ?_
  | refine q_add_i ?_ | refine q_sub_i ?_ | refine q_lt_i ?_ | refine q_le_i ?_ | refine q_gt_i ?_ | refine q_ge_i ?_ | refine q_eq_i ?_ | refine q_ne_i ?_ | refine q_eq_s ?_ | refine q_ne_s ?_ | refine q_pow_18 ?_ | refine q_is_n ?_ | refine q_is_b ?_ | refine q_isn_b ?_ | refine q_isn_n ?_
  | refine q_idx rfl ?_ | refine p_no ?_ | refine ep_yes ?_ | refine q_slcL ?_ | refine d_nil ?_ | refine d_cons ?_ | refine q_bfn rfl ?_
  | refine f_fz ?_ | refine f_own ?_ | refine ef_var rfl ?_ | refine f_varF rfl ?_ | refine f_nil ?_ | refine f_cons ?_
  | refine r_fz ?_ | refine r_own ?_ | refine r_rol ?_ | refine er_var rfl ?_ | refine rs_nil ?_ | refine rs_cons ?_
  | refine ek_0 ?_ | refine ek_s ?_ | refine ess_nil ?_ | refine ess_cons rfl ?_ | refine esv_nil ?_ | refine esv_cons rfl ?_
  | refine q_tup ?_ | refine ea_nm rfl ?_ | refine ea_tp ?_ | refine s_fzl ?_ | refine s_fzt ?_ | refine s_own ?_ | refine s_rol ?_ | refine s_var rfl ?_
  | refine eo_nil ?_ | refine eo_fz ?_ | refine eo_own ?_ | refine eo_rol ?_ | refine eo_var rfl ?_
  | refine fq_nx ?_ | refine fq_rt ?_ | refine t_fz ?_ | refine t_own ?_ | refine et_var rfl rfl ?_ | refine et_varP rfl rfl ?_
  | refine q_rec rfl ?_ | refine em_l ?_ | refine em_r rfl ?_ | refine q_fld rfl ?_
  | refine side_int rfl ?_ | refine side_int2 rfl rfl ?_ | refine side_bool rfl ?_ | refine side_var rfl ?_
  | refine side rfl ?_ | refine side (Nat.le_of_ble_eq_true rfl) ?_ | refine em_set0 rfl ?_ | refine em_set1 rfl ?_ | refine em_set2 rfl ?_ | refine em_clear rfl ?_ | refine m_fld rfl rfl ?_ | refine ekl_0 ?_ | refine ekl_s ?_ | refine side_some rfl ?_
  | refine q_mul_i (by omega) (by omega) ?_ | refine q_mod_i (by omega) ?_ | refine q_fdiv_i (by omega) (by omega) ?_)
-- gne
theorem row_at' {row : List Int} {j : Nat} (h : j < row.length) : indexD (rowD row) (.int (j : Int)) = some (.int (nth row j)) := row_at (row := row) (c := (j : Int)) (by omega) (by omega)
theorem set_same {xs : List Int} {s : Nat} {x : Int} (h : xs[s]? = some x) : xs.set s x = xs := by
  refine List.ext_getElem? fun i => ?_
  rw [List.getElem?_set]
  split
  · rename_i e
    subst e
    split
    · rw [h]
    · rename_i c
      rw [List.getElem?_eq_none (by omega)]
  · rfl
theorem row_raised_cp {T : Pr} (L : CH0 T) (hT : T.lookup "_law_row_raised" = some (8, B._law_row_raised)) (hR : T.lookup "_law_raised" = some (3, B._law_raised)) {k n : Nat} {d : PyData} (G : Bag d n) (hn : n < 2 ^ 70) {ws qs : List Int} {rows : List (List Int)} {width : Nat} (C : Co ws qs width 7) (w1 : 1 ≤ width) (w6 : width ≤ 6) (hl : rows.length = ws.length) (hr : ∀ r ∈ rows, FarR width r) :
    cp T (k + 4) "_law_row_raised" [.own d, .own (cD ws qs), .own (rowsD rows), .fz (rowD (setRow ws qs rows))] fun r os => ∃ d', r = .fz (.bool true) ∧ os = [some (.own d'), some (.own (cD ws qs)), some (.own (rowsD rows)), none] ∧ Bag d' (n + 1000) := by
  have big := big1000
  have hK := L.tak
  have l2 := C.l2
  have l7 := C.l7
  have hq1 := C.ql
  have hq : ∀ q ∈ qs, Cq ws q := fun q h => C.cq h
  have lrows : (rows.map rowD).length = rows.length := List.length_map _
  refine ecp_of hT ?_
  show WB ⟨callDD T (k + 3), T.I⟩ [0, 1, 2] _ [some (.own d), some (.own (cD ws qs)), some (.own (.list (rows.map rowD))), some (.fz (rowD (setRow ws qs rows))), none, none, none, none] (zF [0, 1, 2] 4 _)
  repeat fail "s"
  rw [lrows]
  refine c_take hK rfl G (by omega) (by omega) (by omega) fun t d1 t0 t1 G1 => ?_
  obtain ⟨s, rfl⟩ : ∃ s : Nat, t = (s : Int) := ⟨t.toNat, by omega⟩
  have hs : s < rows.length := by omega
  have hrow := hr rows[s] (List.getElem_mem hs)
  have hrs : rows[s]? = some rows[s] := List.getElem?_eq_getElem hs
  have eix := rows_idx hs
  repeat fail "s"
  refine q_idx eix ?_
  repeat fail "s"
  refine eq_call (T := T) rfl rfl (cp_mono (raised_cp hR hK G1 (by omega) (by omega) hrow) ?_)
  rintro r os ⟨row', d2, rfl, rfl, hrow', hge, G2⟩
  refine ⟨rfl, ?_⟩
  repeat fail "s"
  have e1 : cutD (rows.map rowD) none (some (s : Int)) = (rows.map rowD).take s := cut_take
  have e2 : cutD (rows.map rowD) (some ((s : Int) + 1)) none = (rows.map rowD).drop (s + 1) := cut_drop (t := s + 1)
  have e3 : (rows.map rowD).take s ++ [rowD row'] ++ (rows.map rowD).drop (s + 1) = (rows.set s row').map rowD := by
    rw [List.set_eq_take_append_cons_drop, if_pos hs, List.map_append, List.map_cons, List.map_take, List.map_drop, List.append_assoc]; rfl
  rw [e1]
  refine q_add_l (by rw [List.length_take, lrows, List.length_singleton]; omega) ?_
  repeat fail "s"
  rw [e2]
  refine q_add_l (by rw [List.length_append, List.length_take, List.length_drop, lrows, List.length_singleton]; omega) ?_
  rw [e3]
  have hl' : (rows.set s row').length = ws.length := by rw [List.length_set]; exact hl
  have hr' : ∀ r ∈ rows.set s row', FarR width r := fun r h => by
    rcases List.mem_or_eq_of_mem_set h with h | rfl
    · exact hr r h
    · exact hrow'
  repeat fail "s"
  refine eq_call (T := T) rfl rfl (cp_mono (settle_cp2 (rows := rows.set s row') L.ste L.sed L.wei L.quo L.toCI hq hl' (by omega) (by omega) (fun r h => by rw [(hr' r h).1]; omega) true true) ?_)
  rintro r os ⟨rfl, rfl⟩
  refine ⟨rfl, ?_⟩
  have lrow' : (row'.map PyData.int).length = row'.length := List.length_map _
  have lw' := hrow'.1
  unfold rowD
  repeat fail "s"
  refine ex_for ?_
  repeat fail "s"
  refine efor (N := width) (fun i E => ∃ v7, E = [some (.own d2), some (.own (cD ws qs)), some (.own (.list (rows.map rowD))), some (.fz (rowD (setRow ws qs rows))), some (.fz (.int (s : Int))), some (.fz (rowD row')), some (.fz (rowD (setRow ws qs (rows.set s row')))), v7]) (by show (((row'.map PyData.int).length : Int) - 0).toNat = _; omega) ⟨_, rfl⟩ ?_ ?_
  · rintro j E hj ⟨v7, rfl⟩
    refine ⟨.int (0 + (j : Int)), if_pos (by show j < (((row'.map PyData.int).length : Int) - 0).toNat; omega), ?_⟩
    rw [Int.zero_add]
    have hjq : j < qs.length := by omega
    have i1 := row_at' (row := setRow ws qs rows) (j := j) (by rw [setRow_len]; exact hjq)
    have i2 := row_at' (row := setRow ws qs (rows.set s row')) (j := j) (by rw [setRow_len]; exact hjq)
    have i3 := row_at' (row := rows[s]) (j := j) (by rw [hrow.1]; exact hj)
    have i4 := row_at' (row := row') (j := j) (by omega)
    have hxy := hge j hj
    have ec : col j (rows.set s row') = (col j rows).set s (nth row' j) := by unfold col; rw [List.map_set]
    have hx : (col j rows)[s]? = some (nth rows[s] j) := by unfold col; rw [List.getElem?_map, hrs]; rfl
    have hcl : (col j rows).length = ws.length := by unfold col; rw [List.length_map]; exact hl
    have key := set_raise (hq _ (nth_in hjq)) hcl hx hxy
    rw [← ec, ← setRow_nth hjq, ← setRow_nth hjq] at key
    have key2 : nth row' j = nth rows[s] j → nth (setRow ws qs (rows.set s row')) j = nth (setRow ws qs rows) j := fun h => by
      rw [setRow_nth hjq, setRow_nth hjq, ec, h, set_same hx]
    generalize nth (setRow ws qs rows) j = m at *
    generalize nth (setRow ws qs (rows.set s row')) j = l at *
    generalize nth rows[s] j = x at *
    generalize nth row' j = y at *
    repeat fail "s"
    refine q_idx i2 ?_
    repeat fail "s"
    refine q_idx i1 ?_
    repeat fail "s"
    rw [decide_eq_false (show ¬ l < m by have := key.1; omega)]
    repeat fail "s"
    refine q_idx i2 ?_
    repeat fail "s"
    refine q_idx i1 ?_
    repeat fail "s"
    by_cases hlt : m < l
    · obtain ⟨h1, h2⟩ := key.2 hlt
      rw [decide_eq_true hlt]
      repeat fail "s"
      refine q_idx eix ?_
      repeat fail "s"
      refine q_idx i3 ?_
      repeat fail "s"
      refine q_idx i2 ?_
      repeat fail "s"
      rw [decide_eq_true h1]
      repeat fail "s"
      refine q_idx i4 ?_
      repeat fail "s"
      rw [decide_eq_true h2]
      repeat fail "s"
      refine q_idx i4 ?_
      repeat fail "s"
      refine q_idx eix ?_
      repeat fail "s"
      refine q_idx i3 ?_
      repeat fail "s"
      by_cases hyx : y = x
      · rw [decide_eq_true hyx]
        repeat fail "s"
        refine q_idx i2 ?_
        repeat fail "s"
        refine q_idx i1 ?_
        repeat fail "s"
        rw [decide_eq_true (key2 hyx)]
        repeat fail "s"
        exact ⟨_, rfl⟩
      · rw [decide_eq_false hyx]
        repeat fail "s"
        exact ⟨_, rfl⟩
    · rw [decide_eq_false hlt]
      repeat fail "s"
      refine q_idx i4 ?_
      repeat fail "s"
      refine q_idx eix ?_
      repeat fail "s"
      refine q_idx i3 ?_
      repeat fail "s"
      by_cases hyx : y = x
      · rw [decide_eq_true hyx]
        repeat fail "s"
        refine q_idx i2 ?_
        repeat fail "s"
        refine q_idx i1 ?_
        repeat fail "s"
        rw [decide_eq_true (key2 hyx)]
        repeat fail "s"
        exact ⟨_, rfl⟩
      · rw [decide_eq_false hyx]
        repeat fail "s"
        exact ⟨_, rfl⟩
  · rintro E ⟨v7, rfl⟩
    refine ⟨rfl, ?_⟩
    repeat fail "s"
    exact ⟨_, rfl, rfl, G2.mono (by omega)⟩
end HI

set_option maxRecDepth 100000
set_option maxHeartbeats 1000000
namespace HI
open PySem L2 SrtO
-- eng
local macro_rules | `(tactic| fail "s") => `(tactic| first
  | refine ex_cons ?_ | refine ex_nx ?_ | refine ex_rt ?_ | refine ex_bk ?_ | refine ex_ct ?_ | refine ex_nil ?_
  | refine ew_fz rfl ?_ | refine ew_own rfl ?_ | refine ew_rol rfl ?_ | refine ew_cst rfl ?_ | refine ew_bin ?_ | refine ew_idx ?_ | refine ew_nil ?_ | refine ew_cons ?_ | refine ew_call ?_ | refine ew_bcall ?_
  | refine ew_not ?_ | refine ew_neg ?_ | refine ew_and ?_ | refine ew_or ?_ | refine ew_chain ?_ | refine ew_ife ?_ | refine ew_lst ?_ | refine ew_tup ?_ | refine ew_slc ?_ | refine ew_meth ?_ | refine ew_fld ?_ | refine ew_mk ?_
  | refine ex_asg ?_ | refine ex_asgT ?_ | refine ex_asgS ?_ | refine ex_asgF ?_ | refine ex_aug rfl ?_ | refine ex_augS ?_ | refine ex_ex ?_ | refine ex_ite ?_ | refine ex_ret ?_ | refine ex_brk ?_ | refine ex_cont ?_ | refine ex_pass ?_ | refine ex_par ?_
  | refine q_rng (by omega) ?_ | refine ei_seq ?_ | refine ei_enum ?_ | refine ei_zip ?_ | refine ei_rng1 ?_ | refine ei_rng2 ?_
  | refine WE_of ?_ | refine WB_of ?_ | refine WT_of ?_
  | refine q_dat rfl ?_ | refine q_datRr ?_ | refine q_datR rfl ?_ | refine q_truB rfl ?_ | refine eq_t ?_ | refine eq_f ?_
  | refine q_add_i ?_ | refine q_sub_i ?_ | refine q_lt_i ?_ | refine q_le_i ?_ | refine q_gt_i ?_ | refine q_ge_i ?_ | refine q_eq_i ?_ | refine q_ne_i ?_ | refine q_eq_s ?_ | refine q_ne_s ?_ | refine q_pow_18 ?_ | refine q_is_n ?_ | refine q_is_b ?_ | refine q_isn_b ?_ | refine q_isn_n ?_
  | refine q_idx rfl ?_ | refine p_no ?_ | refine ep_yes ?_ | refine q_slcL ?_ | refine d_nil ?_ | refine d_cons ?_ | refine q_bfn rfl ?_
  | refine f_fz ?_ | refine f_own ?_ | refine ef_var rfl ?_ | refine f_varF rfl ?_ | refine f_nil ?_ | refine f_cons ?_
  | refine r_fz ?_ | refine r_own ?_ | refine r_rol ?_ | refine er_var rfl ?_ | refine rs_nil ?_ | refine rs_cons ?_
  | refine ek_0 ?_ | refine ek_s ?_ | refine ess_nil ?_ | refine ess_cons rfl ?_ | refine esv_nil ?_ | refine esv_cons rfl ?_
  | refine q_tup ?_ | refine ea_nm rfl ?_ | refine ea_tp ?_ | refine s_fzl ?_ | refine s_fzt ?_ | refine s_own ?_ | refine s_rol ?_ | refine s_var rfl ?_
  | refine eo_nil ?_ | refine eo_fz ?_ | refine eo_own ?_ | refine eo_rol ?_ | refine eo_var rfl ?_
  | refine fq_nx ?_ | refine fq_rt ?_ | refine t_fz ?_ | refine t_own ?_ | refine et_var rfl rfl ?_ | refine et_varP rfl rfl ?_
  | refine q_rec rfl ?_ | refine em_l ?_ | refine em_r rfl ?_ | refine q_fld rfl ?_
  | refine side_int rfl ?_ | refine side_int2 rfl rfl ?_ | refine side_bool rfl ?_ | refine side_var rfl ?_
  | refine side rfl ?_ | refine side (Nat.le_of_ble_eq_true rfl) ?_ | refine em_set0 rfl ?_ | refine em_set1 rfl ?_ | refine em_set2 rfl ?_ | refine em_clear rfl ?_ | refine m_fld rfl rfl ?_ | refine ekl_0 ?_ | refine ekl_s ?_ | refine side_some rfl ?_
  | refine q_mul_i (by omega) (by omega) ?_ | refine q_mod_i (by omega) ?_ | refine q_fdiv_i (by omega) (by omega) ?_)
-- gne
theorem q_tslT {row : List Int} {c : Nat} {K : Re → Prop} (h : c < row.length) (k : K (.fz (rowD (row.take c)))) : SlcQ (rowD row) none (some (c : Int)) K := by
  refine ⟨_, ?_, k⟩
  show (if HT.sIx (row.map PyData.int).length 0 none = 0 ∧ HT.sIx (row.map PyData.int).length (row.map PyData.int).length (some (c : Int)) = (row.map PyData.int).length then none else some (Re.fz (.tuple (cutD (row.map .int) none (some (c : Int)))))) = _
  rw [if_neg (by rw [HT.sIx_nat, List.length_map]; omega), cut_take, ← List.map_take]; rfl
theorem q_tslD {row : List Int} {c : Nat} {K : Re → Prop} (h : c < row.length) (k : K (.fz (rowD (row.drop (c + 1))))) : SlcQ (rowD row) (some ((c : Int) + 1)) none K := by
  refine ⟨_, ?_, k⟩
  show (if HT.sIx (row.map PyData.int).length 0 (some (((c + 1 : Nat) : Int))) = 0 ∧ HT.sIx (row.map PyData.int).length (row.map PyData.int).length none = (row.map PyData.int).length then none else some (Re.fz (.tuple (cutD (row.map .int) (some (((c + 1 : Nat) : Int))) none)))) = _
  rw [if_neg (by rw [HT.sIx_nat, List.length_map]; omega), cut_drop, ← List.map_drop]; rfl
theorem q_add_tr {r s : List Int} {K : Re → Prop} (l : r.length + s.length ≤ sizeLine) (k : K (.fz (rowD (r ++ s)))) : OpQ .add (rowD r) (rowD s) K := by
  refine ⟨_, ?_, k⟩
  show (if (r.map PyData.int).length + (s.map PyData.int).length ≤ sizeLine then some (Re.fz (.tuple (r.map .int ++ s.map .int))) else none) = _
  rw [if_pos (by rw [List.length_map, List.length_map]; exact l), ← List.map_append]; rfl
theorem setRow_setq {ws qs : List Int} {rows : List (List Int)} {c : Nat} {q : Int} (h : c < qs.length) : setRow ws (qs.set c q) rows = (setRow ws qs rows).set c (setI ws q (col c rows)) := by
  refine row_ext (by rw [setRow_len, List.length_set, List.length_set, setRow_len]) fun j hj => ?_
  rw [setRow_len, List.length_set] at hj
  rw [setRow_nth (by rw [List.length_set]; exact hj)]
  by_cases e : c = j
  · subst e
    have e1 : nth (qs.set c q) c = q := by unfold nth; rw [List.getElem?_set_self hj]; rfl
    have e2 : nth ((setRow ws qs rows).set c (setI ws q (col c rows))) c = setI ws q (col c rows) := by unfold nth; rw [List.getElem?_set_self (by rw [setRow_len]; exact hj)]; rfl
    rw [e1, e2]
  · have e1 : nth (qs.set c q) j = nth qs j := by unfold nth; rw [List.getElem?_set_ne e]
    have e2 : nth ((setRow ws qs rows).set c (setI ws q (col c rows))) j = nth (setRow ws qs rows) j := by unfold nth; rw [List.getElem?_set_ne e]
    rw [e1, e2, setRow_nth hj]
theorem quota_raised_cp {T : Pr} (L : CH0 T) (hT : T.lookup "_law_quota_raised" = some (10, B._law_quota_raised)) {k n : Nat} {d : PyData} (G : Bag d n) (hn : n < 2 ^ 70) {ws qs : List Int} {rows : List (List Int)} {width : Nat} (C : Co ws qs width 7) (w1 : 1 ≤ width) (w6 : width ≤ 6) (hl : rows.length = ws.length) (hr : ∀ r ∈ rows, FarR width r) :
    cp T (k + 5) "_law_quota_raised" [.own d, .fz (partsD ws qs), .own (rowsD rows), .fz (rowD (setRow ws qs rows))] fun r os => ∃ d', r = .fz (.bool true) ∧ os = [some (.own d'), none, some (.own (rowsD rows)), none] ∧ Bag d' (n + 1000) := by
  have big := big1000
  have hK := L.tak
  have l2 := C.l2
  have l7 := C.l7
  have hq1 := C.ql
  have hs := ws_sum C.w
  have lqs : (qs.map PyData.int).length = qs.length := List.length_map _
  refine ecp_of hT ?_
  show WB ⟨callDD T (k + 4), T.I⟩ [0, 2] _ [some (.own d), some (.fz (.tuple [.list (ws.map .int), .list (qs.map .int)])), some (.own (.list (rows.map rowD))), some (.fz (rowD (setRow ws qs rows))), none, none, none, none, none, none] (zF [0, 2] 4 _)
  repeat fail "s"
  rw [lqs]
  refine c_take hK rfl G (by omega) (by omega) (by omega) fun t d1 t0 t1 G1 => ?_
  obtain ⟨c, rfl⟩ : ∃ c : Nat, t = (c : Int) := ⟨t.toNat, by omega⟩
  have hc : c < qs.length := by omega
  have hcq := C.q _ (nth_in hc)
  repeat fail "s"
  refine side_some (list_at' rfl hc) ?_
  repeat fail "s"
  refine q_sum ?_
  repeat fail "s"
  refine q_idx (list_at' rfl hc) ?_
  repeat fail "s"
  refine c_take hK rfl G1 (by omega) (by omega) (by omega) fun v d2 v0 v1 G2 => ?_
  repeat fail "s"
  refine em_seti rfl (by omega) (by rw [lqs]; omega) ?_
  rw [Int.toNat_natCast, ← List.map_set]
  have hC' : Co ws (qs.set c (nth qs c + v)) width 7 := ⟨C.l2, C.l7, C.w, by rw [List.length_set]; exact C.ql, fun q hq => by
    rcases List.mem_or_eq_of_mem_set hq with hq | rfl
    · exact C.q q hq
    · omega⟩
  have ei : cnameOf T.I 0 ++ ".__init__" = "Council.__init__" := by rw [L.nm]; rfl
  repeat fail "s"
  refine eq_mk rfl rfl ?_
  rw [ei]
  refine cp_mono (init_cp L.toCL hC' (Nat.le_refl _) w1 w6) ?_
  rintro r os ⟨rfl, rfl⟩
  refine ⟨rfl, _, _, rfl, ?_⟩
  repeat fail "s"
  refine eq_call (T := T) rfl rfl (cp_mono (settle_cp2 (qs := qs.set c (nth qs c + v)) L.ste L.sed L.wei L.quo L.toCI (fun q h => hC'.cq h) hl (by omega) (by rw [List.length_set]; omega) (fun r h => by rw [List.length_set, (hr r h).1]; omega) true true) ?_)
  rintro r os ⟨rfl, rfl⟩
  refine ⟨rfl, ?_⟩
  repeat fail "s"
  have em := setRow_setq (ws := ws) (qs := qs) (rows := rows) (c := c) (q := nth qs c + v) hc
  have hmono : setI ws (nth qs c) (col c rows) ≤ setI ws (nth qs c + v) (col c rows) := by
    have hin : nth qs c + v ∈ qs.set c (nth qs c + v) := List.mem_set (by omega) _
    exact set_quota (C.cq (nth_in hc)) (hC'.cq hin) (by unfold col; rw [List.length_map]; exact hl) (by omega)
  have f1 := setRow_nth (ws := ws) (qs := qs) (rows := rows) hc
  have lm : (setRow ws qs rows).length = qs.length := setRow_len
  have f2 : nth ((setRow ws qs rows).set c (setI ws (nth qs c + v) (col c rows))) c = setI ws (nth qs c + v) (col c rows) := by
    unfold nth
    rw [List.getElem?_set_self (by omega)]; rfl
  rw [em]
  have ht : ((setRow ws qs rows).set c (setI ws (nth qs c + v) (col c rows))).take c = (setRow ws qs rows).take c := by
    rw [List.take_set, List.set_eq_of_length_le (by rw [List.length_take]; omega)]
  have hd : ((setRow ws qs rows).set c (setI ws (nth qs c + v) (col c rows))).drop (c + 1) = (setRow ws qs rows).drop (c + 1) := List.drop_set_of_lt (by omega)
  have lset : ((setRow ws qs rows).set c (setI ws (nth qs c + v) (col c rows))).length = qs.length := by rw [List.length_set]; exact lm
  have i1 := row_at' (row := setRow ws qs rows) (j := c) (by omega)
  have i2 := row_at' (row := (setRow ws qs rows).set c (setI ws (nth qs c + v) (col c rows))) (j := c) (by omega)
  have nr := (setRow_far C hl hr)
  have nrr : FarR (qs.length - 1) ((setRow ws qs rows).take c ++ (setRow ws qs rows).drop (c + 1)) := ⟨by rw [List.length_append, List.length_take, List.length_drop]; omega, fun x hx => (List.mem_append.mp hx).elim (fun h => nr.2 x (List.mem_of_mem_take h)) fun h => nr.2 x (List.mem_of_mem_drop h)⟩
  rw [f2] at i2
  rw [f1] at i1
  refine q_tslT (by omega) ?_
  repeat fail "s"
  refine q_tslD (by omega) ?_
  repeat fail "s"
  refine q_add_tr (by rw [List.length_take, List.length_drop]; omega) ?_
  repeat fail "s"
  refine q_tslT (by omega) ?_
  repeat fail "s"
  refine q_tslD (by omega) ?_
  repeat fail "s"
  rw [ht, hd]
  refine q_add_tr (by rw [List.length_take, List.length_drop]; omega) ?_
  repeat fail "s"
  refine q_ne_refl nrr.nice (by omega) ?_
  repeat fail "s"
  refine q_idx i2 ?_
  repeat fail "s"
  refine q_idx i1 ?_
  repeat fail "s"
  refine ⟨_, ?_, rfl, G2.mono (by omega)⟩
  rw [decide_eq_true (show setI ws (nth qs c + v) (col c rows) ≥ setI ws (nth qs c) (col c rows) from hmono)]
end HI

set_option maxRecDepth 100000
set_option maxHeartbeats 1000000
namespace HI
open PySem L2 SrtO
-- eng
local macro_rules | `(tactic| fail "s") => `(tactic| first
  | refine ex_cons ?_ | refine ex_nx ?_ | refine ex_rt ?_ | refine ex_bk ?_ | refine ex_ct ?_ | refine ex_nil ?_
  | refine ew_fz rfl ?_ | refine ew_own rfl ?_ | refine ew_rol rfl ?_ | refine ew_cst rfl ?_ | refine ew_bin ?_ | refine ew_idx ?_ | refine ew_nil ?_ | refine ew_cons ?_ | refine ew_call ?_ | refine ew_bcall ?_
  | refine ew_not ?_ | refine ew_neg ?_ | refine ew_and ?_ | refine ew_or ?_ | refine ew_chain ?_ | refine ew_ife ?_ | refine ew_lst ?_ | refine ew_tup ?_ | refine ew_slc ?_ | refine ew_meth ?_ | refine ew_fld ?_ | refine ew_mk ?_
  | refine ex_asg ?_ | refine ex_asgT ?_ | refine ex_asgS ?_ | refine ex_asgF ?_ | refine ex_aug rfl ?_ | refine ex_augS ?_ | refine ex_ex ?_ | refine ex_ite ?_ | refine ex_ret ?_ | refine ex_brk ?_ | refine ex_cont ?_ | refine ex_pass ?_ | refine ex_par ?_
  | refine q_rng (by omega) ?_ | refine ei_seq ?_ | refine ei_enum ?_ | refine ei_zip ?_ | refine ei_rng1 ?_ | refine ei_rng2 ?_
  | refine WE_of ?_ | refine WB_of ?_ | refine WT_of ?_
  | refine q_dat rfl ?_ | refine q_datRr ?_ | refine q_datR rfl ?_ | refine q_truB rfl ?_ | refine eq_t ?_ | refine eq_f ?_
  | refine q_add_i ?_ | refine q_sub_i ?_ | refine q_lt_i ?_ | refine q_le_i ?_ | refine q_gt_i ?_ | refine q_ge_i ?_ | refine q_eq_i ?_ | refine q_ne_i ?_ | refine q_eq_s ?_ | refine q_ne_s ?_ | refine q_pow_18 ?_ | refine q_is_n ?_ | refine q_is_b ?_ | refine q_isn_b ?_ | refine q_isn_n ?_
  | refine q_idx rfl ?_ | refine p_no ?_ | refine ep_yes ?_ | refine q_slcL ?_ | refine d_nil ?_ | refine d_cons ?_ | refine q_bfn rfl ?_
  | refine f_fz ?_ | refine f_own ?_ | refine ef_var rfl ?_ | refine f_varF rfl ?_ | refine f_nil ?_ | refine f_cons ?_
  | refine r_fz ?_ | refine r_own ?_ | refine r_rol ?_ | refine er_var rfl ?_ | refine rs_nil ?_ | refine rs_cons ?_
  | refine ek_0 ?_ | refine ek_s ?_ | refine ess_nil ?_ | refine ess_cons rfl ?_ | refine esv_nil ?_ | refine esv_cons rfl ?_
  | refine q_tup ?_ | refine ea_nm rfl ?_ | refine ea_tp ?_ | refine s_fzl ?_ | refine s_fzt ?_ | refine s_own ?_ | refine s_rol ?_ | refine s_var rfl ?_
  | refine eo_nil ?_ | refine eo_fz ?_ | refine eo_own ?_ | refine eo_rol ?_ | refine eo_var rfl ?_
  | refine fq_nx ?_ | refine fq_rt ?_ | refine t_fz ?_ | refine t_own ?_ | refine et_var rfl rfl ?_ | refine et_varP rfl rfl ?_
  | refine q_rec rfl ?_ | refine em_l ?_ | refine em_r rfl ?_ | refine q_fld rfl ?_
  | refine side_int rfl ?_ | refine side_int2 rfl rfl ?_ | refine side_bool rfl ?_ | refine side_var rfl ?_
  | refine side rfl ?_ | refine side (Nat.le_of_ble_eq_true rfl) ?_ | refine em_set0 rfl ?_ | refine em_set1 rfl ?_ | refine em_set2 rfl ?_ | refine em_clear rfl ?_ | refine m_fld rfl rfl ?_ | refine ekl_0 ?_ | refine ekl_s ?_ | refine side_some rfl ?_
  | refine q_mul_i (by omega) (by omega) ?_ | refine q_mod_i (by omega) ?_ | refine q_fdiv_i (by omega) (by omega) ?_)
-- gne
theorem law29 {T : Pr} (L : CH0 T) (hV : T.lookup "_law_value" = some (3, B._law_value)) (hR : T.lookup "_law_seat_rows" = some (8, B._law_seat_rows)) (h1 : T.lookup "_law_raised" = some (3, B._law_raised)) (h2 : T.lookup "_law_row_raised" = some (8, B._law_row_raised))
    (h3 : T.lookup "_law_quota_raised" = some (10, B._law_quota_raised)) (h4 : T.lookup "_law_ends" = some (7, B._law_ends))
    (hL : T.lookup "law" = some (13, B.law_k29)) {k : Nat} {ns : List Int} (hl : ns.length ≤ 63) : cp T (k + 6) "law" [.rol (ns.map .int)] fun r os => r = .fz (.bool true) := by
  have big := big1000
  have hK := L.tak
  refine ecp_of hL ?_
  show WB ⟨callDD T (k + 5), T.I⟩ [] _ [some (.rol (ns.map .int)), none, none, none, none, none, none, none, none, none, none, none, none] (zF [] 1 _)
  repeat fail "s"
  refine eq_call rfl rfl (cp_mono (bag_cp L.bag hl) ?_)
  rintro r os ⟨d, rfl, rfl, G⟩
  refine ⟨rfl, ?_⟩
  repeat fail "s"
  refine ex_for ?_
  repeat fail "s"
  refine efor (N := 3) (fun i E => ∃ (d : PyData) (u2 u3 u4 u5 u6 u7 u8 u9 u10 u11 u12 : Option Va), E = [some (.rol (ns.map .int)), some (.own d), u2, u3, u4, u5, u6, u7, u8, u9, u10, u11, u12] ∧ Bag d (1000000 * i)) rfl ⟨_, _, _, _, _, _, _, _, _, _, _, _, rfl, G⟩ ?_ ?_
  · rintro i E hi ⟨d, u2, u3, u4, u5, u6, u7, u8, u9, u10, u11, u12, rfl, G⟩
    refine ⟨.int (0 + (i : Int)), if_pos hi, ?_⟩
    repeat fail "s"
    refine c_take hK rfl G (by omega) (by omega) (by omega) fun wv d1 wv0 wv1 G1 => ?_
    repeat fail "s"
    obtain ⟨width, hw⟩ : ∃ width : Nat, 1 + wv = (width : Int) := ⟨(1 + wv).toNat, by omega⟩
    have w1 : 1 ≤ width := by omega
    have w6 : width ≤ 6 := by omega
    rw [hw]
    refine eq_call rfl rfl (cp_mono (council_cp (most := 7) L.cou hK G1 (by omega) (by omega) (by omega) (by omega)) ?_)
    rintro r os ⟨ws, qs, d2, rfl, rfl, hC, G2⟩
    have hq1 := hC.ql
    have hq2 := hC.l7
    have hq3 := hC.l2
    have hq : ∀ q ∈ qs, Cq ws q := fun q h => hC.cq h
    have lws : (ws.map PyData.int).length = ws.length := List.length_map _
    refine ⟨rfl, ?_⟩
    unfold partsD
    repeat fail "s"
    refine eq_call rfl rfl (cp_mono (made_cp L.toCL L.mad hC (by omega) w1 w6) ?_)
    rintro r os ⟨rfl, rfl⟩
    refine ⟨rfl, ?_⟩
    repeat fail "s"
    rw [lws]
    refine eq_call rfl rfl (cp_mono (seat_rows_cp hR hV hK G2 (by omega) (by omega) (by omega)) ?_)
    rintro r os ⟨rows, d3, rfl, rfl, hrl, hr, G3⟩
    refine ⟨rfl, ?_⟩
    repeat fail "s"
    refine eq_call (T := T) rfl rfl (cp_mono (settle_cp2 L.ste L.sed L.wei L.quo L.toCI hq hrl (by omega) (by omega) (fun r h => by rw [(hr r h).1]; omega) true true) ?_)
    rintro r os ⟨rfl, rfl⟩
    refine ⟨rfl, ?_⟩
    repeat fail "s"
    refine eq_call (T := T) rfl rfl (cp_mono (row_raised_cp L h2 h1 G3 (by omega) hC w1 w6 hrl hr) ?_)
    rintro r os ⟨d4, rfl, rfl, G4⟩
    refine ⟨rfl, ?_⟩
    repeat fail "s"
    refine eq_call (T := T) rfl rfl (cp_mono (quota_raised_cp L h3 G4 (by omega) hC w1 w6 hrl hr) ?_)
    rintro r os ⟨d5, rfl, rfl, G5⟩
    refine ⟨rfl, ?_⟩
    repeat fail "s"
    refine eq_call (T := T) rfl rfl (cp_mono (ends_cpo L h4 hC w1 w6 hrl hr) ?_)
    rintro r os ⟨rfl, rfl⟩
    refine ⟨rfl, ?_⟩
    repeat fail "s"
    refine ex_for ?_
    repeat fail "s"
    refine efor (N := ws.length) (fun s E => ∃ (v6 v11 v12 : Option Va), E = [some (.rol (ns.map .int)), some (.own d5), some (.fz (.int (0 + (i : Int)))), some (.fz (.int width)), some (.fz (.tuple [.list (ws.map .int), .list (qs.map .int)])), some (.fz (rowD (setRow ws qs rows))), v6, some (.fz (.list (ws.map .int))), some (.fz (.list (qs.map .int))), some (.own (cD ws qs)), some (.own (.list (rows.map rowD))), v11, v12]) (by show (((ws.map PyData.int).length : Int) - 0).toNat = _; omega) ⟨_, _, _, rfl⟩ ?_ ?_
    · rintro s E hs ⟨v6, v11, v12, rfl⟩
      refine ⟨.int (0 + (s : Int)), if_pos (by show s < (((ws.map PyData.int).length : Int) - 0).toNat; omega), ?_⟩
      rw [Int.zero_add]
      repeat fail "s"
      refine ex_for ?_
      repeat fail "s"
      refine efor (N := width) (fun j E => ∃ (v11 v12 : Option Va), E = [some (.rol (ns.map .int)), some (.own d5), some (.fz (.int (0 + (i : Int)))), some (.fz (.int width)), some (.fz (.tuple [.list (ws.map .int), .list (qs.map .int)])), some (.fz (rowD (setRow ws qs rows))), some (.fz (.int (s : Int))), some (.fz (.list (ws.map .int))), some (.fz (.list (qs.map .int))), some (.own (cD ws qs)), some (.own (.list (rows.map rowD))), v11, v12]) (by show ((width : Int) - 0).toNat = _; omega) ⟨_, _, rfl⟩ ?_ ?_
      · rintro j E hj ⟨v11, v12, rfl⟩
        refine ⟨.int (0 + (j : Int)), if_pos (by show j < ((width : Int) - 0).toNat; omega), ?_⟩
        rw [Int.zero_add]
        have hjq : j < qs.length := by omega
        have hsr : s < rows.length := by omega
        have hrow := hr rows[s] (List.getElem_mem hsr)
        have i1 := row_at' (row := setRow ws qs rows) (j := j) (by rw [setRow_len]; exact hjq)
        have i2 := row_at' (row := rows[s]) (j := j) (by rw [hrow.1]; exact hj)
        have i3 := list_at' (xs := ws) (j := s) rfl hs
        have i4 := list_at' (xs := qs) (j := j) rfl hjq
        have i5 := rows_idx hsr
        have key : nth qs j ≤ nth ws s → ws.sum - nth qs j < nth ws s → nth (setRow ws qs rows) j = nth rows[s] j := fun a b => by
          rw [setRow_nth hjq]
          refine set_alone (s := s) (hq _ (nth_in hjq)) (by unfold col; rw [List.length_map]; exact hrl) (by unfold nth; rw [List.getElem?_eq_getElem hs]; rfl) ?_ a b
          unfold col
          rw [List.getElem?_map, List.getElem?_eq_getElem hsr]; rfl
        repeat fail "s"
        refine q_idx i3 ?_
        repeat fail "s"
        refine q_idx i4 ?_
        repeat fail "s"
        by_cases ha : nth ws s ≥ nth qs j
        · rw [decide_eq_true ha]
          repeat fail "s"
          refine q_idx i3 ?_
          repeat fail "s"
          refine q_sum ?_
          repeat fail "s"
          refine q_idx i4 ?_
          repeat fail "s"
          by_cases hb : nth ws s > ws.sum + -nth qs j
          · rw [decide_eq_true hb]
            repeat fail "s"
            refine q_idx i1 ?_
            repeat fail "s"
            refine q_idx i5 ?_
            repeat fail "s"
            refine q_idx i2 ?_
            repeat fail "s"
            rw [decide_eq_true (key ha (by omega))]
            repeat fail "s"
            exact ⟨_, _, rfl⟩
          · rw [decide_eq_false hb]
            repeat fail "s"
            exact ⟨_, _, rfl⟩
        · rw [decide_eq_false ha]
          repeat fail "s"
          exact ⟨_, _, rfl⟩
      · rintro E ⟨v11, v12, rfl⟩
        refine ⟨rfl, ?_⟩
        repeat fail "s"
        exact ⟨_, _, _, rfl⟩
    · rintro E ⟨v6, v11, v12, rfl⟩
      refine ⟨rfl, ?_⟩
      repeat fail "s"
      exact ⟨_, _, _, _, _, _, _, _, _, _, _, _, rfl, G5.mono (by omega)⟩
  · rintro E ⟨d, u2, u3, u4, u5, u6, u7, u8, u9, u10, u11, u12, rfl, G⟩
    refine ⟨rfl, ?_⟩
    repeat fail "s"
    rfl
end HI
theorem K29.cl : HI.CL K29.pr := { nm := rfl, mw := rfl, mq := rfl, fw := rfl, fq := rfl, ini := K29.l_Council_dot___init__, arw := K29.l_are_weights, arq := K29.l_are_quotas, isb := K29.l_is_between, isi := K29.l_is_integer, wei := K29.l_Council_dot_weights, quo := K29.l_Council_dot_quotas }
theorem K29.ch : HI.CH0 K29.pr := { K29.cl with ste := K29.l_settle, sed := K29.l_settled, bag := K29.l__law_bag, tak := K29.l__law_take, cou := K29.l__law_council, mad := K29.l__law_made }
theorem K29.pure (ns : List Int) (hl : ns.length ≤ 63) : ∃ os, HI.callDD K29.pr 60 "law" [.rol (ns.map .int)] = some (.fz (.bool true), os) := by
  obtain ⟨r, os, e, rfl⟩ := HI.law29 (T := K29.pr) K29.ch K29.l__law_value K29.l__law_seat_rows K29.l__law_raised K29.l__law_row_raised K29.l__law_quota_raised K29.l__law_ends K29.l_law (k := 54) hl
  exact ⟨os, e⟩

namespace K29
open PySem PySem.Spec PyProof.Rows L2 HI
abbrev at_ (i : Nat) : Stmt := PySem.Challenge.pw_packedseats_k29_whole_quotas_and_rows_ra.main.body.getD i (.Pass ⟨0, 0, 0, 0⟩)
def d_settled : Df := ⟨"settled", "settled", at_ 2, ["weights", "quota", "entries", "reached", "found", "entry", "weight"], ["weights", "quota", "entries"], B.settled, none⟩
def d_settle : Df := ⟨"settle", "settle", at_ 3, ["council", "rows", "weights", "made", "column", "quota", "row"], ["council", "rows"], B.settle, none⟩
def d_is_integer : Df := ⟨"is_integer", "is_integer", at_ 8, ["thing"], ["thing"], B.is_integer, none⟩
def d_is_between : Df := ⟨"is_between", "is_between", at_ 9, ["thing", "least", "greatest"], ["thing", "least", "greatest"], B.is_between, none⟩
def d_are_weights : Df := ⟨"are_weights", "are_weights", at_ 15, ["thing", "weight"], ["thing"], B.are_weights, none⟩
def d_are_quotas : Df := ⟨"are_quotas", "are_quotas", at_ 16, ["thing", "total", "quota"], ["thing", "total"], B.are_quotas, none⟩
def d_Council_dot___init__ : Df := ⟨"__init__", "Council.__init__", inClass (at_ 17) 0, ["self", "weights", "quotas"], ["self", "weights", "quotas"], B.Council_dot___init__, some 0⟩
def d_Council_dot_weights : Df := ⟨"weights", "Council.weights", inClass (at_ 17) 1, ["self"], ["self"], B.Council_dot_weights, some 0⟩
def d_Council_dot_quotas : Df := ⟨"quotas", "Council.quotas", inClass (at_ 17) 2, ["self"], ["self"], B.Council_dot_quotas, some 0⟩
def d_Council_dot_total : Df := ⟨"total", "Council.total", inClass (at_ 17) 3, ["self"], ["self"], B.Council_dot_total, some 0⟩
def d_Council_dot_width : Df := ⟨"width", "Council.width", inClass (at_ 17) 4, ["self"], ["self"], B.Council_dot_width, some 0⟩
def d_Council_dot___len__ : Df := ⟨"__len__", "Council.__len__", inClass (at_ 17) 9, ["self"], ["self"], B.Council_dot___len__, some 0⟩
def d__law_bag : Df := ⟨"_law_bag", "_law_bag", at_ 19, ["script", "cell"], ["script"], B._law_bag, none⟩
def d__law_take : Df := ⟨"_law_take", "_law_take", at_ 20, ["bag", "many", "first", "second", "cell", "value"], ["bag", "many"], B._law_take, none⟩
def d__law_council : Df := ⟨"_law_council", "_law_council", at_ 21, ["bag", "width", "most", "weights", "total", "quotas", "column", "seats", "way", "some", "k"], ["bag", "width", "most"], B._law_council, none⟩
def d__law_made : Df := ⟨"_law_made", "_law_made", at_ 22, ["parts"], ["parts"], B._law_made, none⟩
def d__law_value : Df := ⟨"_law_value", "_law_value", at_ 23, ["bag", "way", "some"], ["bag"], B._law_value, none⟩
def d__law_seat_rows : Df := ⟨"_law_seat_rows", "_law_seat_rows", at_ 24, ["bag", "width", "many", "seat", "top", "found", "row", "column"], ["bag", "width", "many"], B._law_seat_rows, none⟩
def d__law_raised : Df := ⟨"_law_raised", "_law_raised", at_ 25, ["bag", "row", "entry"], ["bag", "row"], B._law_raised, none⟩
def d__law_row_raised : Df := ⟨"_law_row_raised", "_law_row_raised", at_ 26, ["bag", "council", "rows", "made", "seat", "row", "later", "column"], ["bag", "council", "rows", "made"], B._law_row_raised, none⟩
def d__law_quota_raised : Df := ⟨"_law_quota_raised", "_law_quota_raised", at_ 27, ["bag", "parts", "rows", "made", "later", "rest", "weights", "quotas", "column", "other"], ["bag", "parts", "rows", "made"], B._law_quota_raised, none⟩
def d__law_ends : Df := ⟨"_law_ends", "_law_ends", at_ 28, ["weights", "width", "rows", "least", "most", "column", "row"], ["weights", "width", "rows"], B._law_ends, none⟩
def d_law : Df := ⟨"law", "law", at_ 29, ["script", "bag", "step", "width", "parts", "made", "seat", "weights", "quotas", "council", "rows", "column", "alone"], ["script"], B.law_k29, none⟩
def ds : List Df := [d_settled, d_settle, d_is_integer, d_is_between, d_are_weights, d_are_quotas, d_Council_dot___init__, d_Council_dot_weights, d_Council_dot_quotas, d_Council_dot_total, d_Council_dot_width, d_Council_dot___len__, d__law_bag, d__law_take, d__law_council, d__law_made, d__law_value, d__law_seat_rows, d__law_raised, d__law_row_raised, d__law_quota_raised, d__law_ends, d_law]
def bns : List Str := ["abs", "all", "bool", "enumerate", "int", "isinstance", "len", "list", "max", "min", "range", "sorted", "sum", "tuple", "zip"]
def mt : List (Str × String × Nat) := [("weights", "weights", 0), ("quotas", "quotas", 0), ("total", "total", 0), ("width", "width", 0)]
def gls : List (Str × V) := [("LEAST_SEATS", .int (2)), ("MOST_SEATS", .int (7)), ("MOST_WEIGHT", .int (1000000)), ("MOST_COLUMNS", .int (6))]
theorem c_settled : cSs (cS (tab0 ds CT mt bns gls) 60 ⟨d_settled.N, defScope d_settled.st, fun _ => true⟩) (defBody d_settled.st) = some d_settled.b := by kernel_rfl
theorem s_settled : FnScope d_settled.N d_settled.ps (defScope d_settled.st) := ⟨rfl, rfl, rfl, by decide +kernel, rfl, by decide +kernel, by decide +kernel⟩
theorem c_settle : cSs (cS (tab0 ds CT mt bns gls) 60 ⟨d_settle.N, defScope d_settle.st, fun _ => true⟩) (defBody d_settle.st) = some d_settle.b := by kernel_rfl
theorem s_settle : FnScope d_settle.N d_settle.ps (defScope d_settle.st) := ⟨rfl, rfl, rfl, by decide +kernel, rfl, by decide +kernel, by decide +kernel⟩
theorem c_is_integer : cSs (cS (tab0 ds CT mt bns gls) 60 ⟨d_is_integer.N, defScope d_is_integer.st, fun _ => true⟩) (defBody d_is_integer.st) = some d_is_integer.b := by kernel_rfl
theorem s_is_integer : FnScope d_is_integer.N d_is_integer.ps (defScope d_is_integer.st) := ⟨rfl, rfl, rfl, by decide +kernel, rfl, by decide +kernel, by decide +kernel⟩
theorem c_is_between : cSs (cS (tab0 ds CT mt bns gls) 60 ⟨d_is_between.N, defScope d_is_between.st, fun _ => true⟩) (defBody d_is_between.st) = some d_is_between.b := by kernel_rfl
theorem s_is_between : FnScope d_is_between.N d_is_between.ps (defScope d_is_between.st) := ⟨rfl, rfl, rfl, by decide +kernel, rfl, by decide +kernel, by decide +kernel⟩
theorem c_are_weights : cSs (cS (tab0 ds CT mt bns gls) 60 ⟨d_are_weights.N, defScope d_are_weights.st, fun _ => true⟩) (defBody d_are_weights.st) = some d_are_weights.b := by kernel_rfl
theorem s_are_weights : FnScope d_are_weights.N d_are_weights.ps (defScope d_are_weights.st) := ⟨rfl, rfl, rfl, by decide +kernel, rfl, by decide +kernel, by decide +kernel⟩
theorem c_are_quotas : cSs (cS (tab0 ds CT mt bns gls) 60 ⟨d_are_quotas.N, defScope d_are_quotas.st, fun _ => true⟩) (defBody d_are_quotas.st) = some d_are_quotas.b := by kernel_rfl
theorem s_are_quotas : FnScope d_are_quotas.N d_are_quotas.ps (defScope d_are_quotas.st) := ⟨rfl, rfl, rfl, by decide +kernel, rfl, by decide +kernel, by decide +kernel⟩
theorem c_Council_dot___init__ : cSs (cS (tab0 ds CT mt bns gls) 60 ⟨d_Council_dot___init__.N, defScope d_Council_dot___init__.st, fun _ => true⟩) (defBody d_Council_dot___init__.st) = some d_Council_dot___init__.b := by kernel_rfl
theorem s_Council_dot___init__ : FnScope d_Council_dot___init__.N d_Council_dot___init__.ps (defScope d_Council_dot___init__.st) := ⟨rfl, rfl, rfl, by decide +kernel, rfl, by decide +kernel, by decide +kernel⟩
theorem c_Council_dot_weights : cSs (cS (tab0 ds CT mt bns gls) 60 ⟨d_Council_dot_weights.N, defScope d_Council_dot_weights.st, fun _ => true⟩) (defBody d_Council_dot_weights.st) = some d_Council_dot_weights.b := by kernel_rfl
theorem s_Council_dot_weights : FnScope d_Council_dot_weights.N d_Council_dot_weights.ps (defScope d_Council_dot_weights.st) := ⟨rfl, rfl, rfl, by decide +kernel, rfl, by decide +kernel, by decide +kernel⟩
theorem c_Council_dot_quotas : cSs (cS (tab0 ds CT mt bns gls) 60 ⟨d_Council_dot_quotas.N, defScope d_Council_dot_quotas.st, fun _ => true⟩) (defBody d_Council_dot_quotas.st) = some d_Council_dot_quotas.b := by kernel_rfl
theorem s_Council_dot_quotas : FnScope d_Council_dot_quotas.N d_Council_dot_quotas.ps (defScope d_Council_dot_quotas.st) := ⟨rfl, rfl, rfl, by decide +kernel, rfl, by decide +kernel, by decide +kernel⟩
theorem c_Council_dot_total : cSs (cS (tab0 ds CT mt bns gls) 60 ⟨d_Council_dot_total.N, defScope d_Council_dot_total.st, fun _ => true⟩) (defBody d_Council_dot_total.st) = some d_Council_dot_total.b := by kernel_rfl
theorem s_Council_dot_total : FnScope d_Council_dot_total.N d_Council_dot_total.ps (defScope d_Council_dot_total.st) := ⟨rfl, rfl, rfl, by decide +kernel, rfl, by decide +kernel, by decide +kernel⟩
theorem c_Council_dot_width : cSs (cS (tab0 ds CT mt bns gls) 60 ⟨d_Council_dot_width.N, defScope d_Council_dot_width.st, fun _ => true⟩) (defBody d_Council_dot_width.st) = some d_Council_dot_width.b := by kernel_rfl
theorem s_Council_dot_width : FnScope d_Council_dot_width.N d_Council_dot_width.ps (defScope d_Council_dot_width.st) := ⟨rfl, rfl, rfl, by decide +kernel, rfl, by decide +kernel, by decide +kernel⟩
theorem c_Council_dot___len__ : cSs (cS (tab0 ds CT mt bns gls) 60 ⟨d_Council_dot___len__.N, defScope d_Council_dot___len__.st, fun _ => true⟩) (defBody d_Council_dot___len__.st) = some d_Council_dot___len__.b := by kernel_rfl
theorem s_Council_dot___len__ : FnScope d_Council_dot___len__.N d_Council_dot___len__.ps (defScope d_Council_dot___len__.st) := ⟨rfl, rfl, rfl, by decide +kernel, rfl, by decide +kernel, by decide +kernel⟩
theorem c__law_bag : cSs (cS (tab0 ds CT mt bns gls) 60 ⟨d__law_bag.N, defScope d__law_bag.st, fun _ => true⟩) (defBody d__law_bag.st) = some d__law_bag.b := by kernel_rfl
theorem s__law_bag : FnScope d__law_bag.N d__law_bag.ps (defScope d__law_bag.st) := ⟨rfl, rfl, rfl, by decide +kernel, rfl, by decide +kernel, by decide +kernel⟩
theorem c__law_take : cSs (cS (tab0 ds CT mt bns gls) 60 ⟨d__law_take.N, defScope d__law_take.st, fun _ => true⟩) (defBody d__law_take.st) = some d__law_take.b := by kernel_rfl
theorem s__law_take : FnScope d__law_take.N d__law_take.ps (defScope d__law_take.st) := ⟨rfl, rfl, rfl, by decide +kernel, rfl, by decide +kernel, by decide +kernel⟩
theorem c__law_council : cSs (cS (tab0 ds CT mt bns gls) 60 ⟨d__law_council.N, defScope d__law_council.st, fun _ => true⟩) (defBody d__law_council.st) = some d__law_council.b := by kernel_rfl
theorem s__law_council : FnScope d__law_council.N d__law_council.ps (defScope d__law_council.st) := ⟨rfl, rfl, rfl, by decide +kernel, rfl, by decide +kernel, by decide +kernel⟩
theorem c__law_made : cSs (cS (tab0 ds CT mt bns gls) 60 ⟨d__law_made.N, defScope d__law_made.st, fun _ => true⟩) (defBody d__law_made.st) = some d__law_made.b := by kernel_rfl
theorem s__law_made : FnScope d__law_made.N d__law_made.ps (defScope d__law_made.st) := ⟨rfl, rfl, rfl, by decide +kernel, rfl, by decide +kernel, by decide +kernel⟩
theorem c__law_value : cSs (cS (tab0 ds CT mt bns gls) 60 ⟨d__law_value.N, defScope d__law_value.st, fun _ => true⟩) (defBody d__law_value.st) = some d__law_value.b := by kernel_rfl
theorem s__law_value : FnScope d__law_value.N d__law_value.ps (defScope d__law_value.st) := ⟨rfl, rfl, rfl, by decide +kernel, rfl, by decide +kernel, by decide +kernel⟩
theorem c__law_seat_rows : cSs (cS (tab0 ds CT mt bns gls) 60 ⟨d__law_seat_rows.N, defScope d__law_seat_rows.st, fun _ => true⟩) (defBody d__law_seat_rows.st) = some d__law_seat_rows.b := by kernel_rfl
theorem s__law_seat_rows : FnScope d__law_seat_rows.N d__law_seat_rows.ps (defScope d__law_seat_rows.st) := ⟨rfl, rfl, rfl, by decide +kernel, rfl, by decide +kernel, by decide +kernel⟩
theorem c__law_raised : cSs (cS (tab0 ds CT mt bns gls) 60 ⟨d__law_raised.N, defScope d__law_raised.st, fun _ => true⟩) (defBody d__law_raised.st) = some d__law_raised.b := by kernel_rfl
theorem s__law_raised : FnScope d__law_raised.N d__law_raised.ps (defScope d__law_raised.st) := ⟨rfl, rfl, rfl, by decide +kernel, rfl, by decide +kernel, by decide +kernel⟩
theorem c__law_row_raised : cSs (cS (tab0 ds CT mt bns gls) 60 ⟨d__law_row_raised.N, defScope d__law_row_raised.st, fun _ => true⟩) (defBody d__law_row_raised.st) = some d__law_row_raised.b := by kernel_rfl
theorem s__law_row_raised : FnScope d__law_row_raised.N d__law_row_raised.ps (defScope d__law_row_raised.st) := ⟨rfl, rfl, rfl, by decide +kernel, rfl, by decide +kernel, by decide +kernel⟩
theorem c__law_quota_raised : cSs (cS (tab0 ds CT mt bns gls) 60 ⟨d__law_quota_raised.N, defScope d__law_quota_raised.st, fun _ => true⟩) (defBody d__law_quota_raised.st) = some d__law_quota_raised.b := by kernel_rfl
theorem s__law_quota_raised : FnScope d__law_quota_raised.N d__law_quota_raised.ps (defScope d__law_quota_raised.st) := ⟨rfl, rfl, rfl, by decide +kernel, rfl, by decide +kernel, by decide +kernel⟩
theorem c__law_ends : cSs (cS (tab0 ds CT mt bns gls) 60 ⟨d__law_ends.N, defScope d__law_ends.st, fun _ => true⟩) (defBody d__law_ends.st) = some d__law_ends.b := by kernel_rfl
theorem s__law_ends : FnScope d__law_ends.N d__law_ends.ps (defScope d__law_ends.st) := ⟨rfl, rfl, rfl, by decide +kernel, rfl, by decide +kernel, by decide +kernel⟩
theorem c_law : cSs (cS (tab0 ds CT mt bns gls) 60 ⟨d_law.N, defScope d_law.st, fun _ => true⟩) (defBody d_law.st) = some d_law.b := by kernel_rfl
theorem s_law : FnScope d_law.N d_law.ps (defScope d_law.st) := ⟨rfl, rfl, rfl, by decide +kernel, rfl, by decide +kernel, by decide +kernel⟩
theorem tab_eq : tabOf ds = tab := by kernel_rfl
theorem ck_ok : clsChk ds mt 0 CT = true := by decide +kernel
theorem mt_ok : mtChk mt = true := by decide +kernel
theorem plc_ini {K : PySem.W.Frag} {mg : Str → Option Value} {G : Gd} {d : Df} {f : Addr} {c : Nat} (ho : d.own = some c) (hx : d.x = "__init__") (h : Mk K (G.cls c) f) : Plc K mg G d f := by unfold Plc; rw [ho]; dsimp only; rw [if_pos hx]; exact h
theorem plc_meth {K : PySem.W.Frag} {mg : Str → Option Value} {G : Gd} {d : Df} {f : Addr} {c : Nat} (ho : d.own = some c) (hx : ¬ d.x = "__init__") (h : Meth K (G.cls c) d.x f) : Plc K mg G d f := by unfold Plc; rw [ho]; dsimp only; rw [if_neg hx]; exact h
theorem fns {l : PySem.W.OpenLaw} {w : World} {K : PySem.W.Frag} {h : Heap} {mg : Str → Option Value} {fa : Addr} (X : K.In h) (Gm : h.Ns mainGlobals mg) (hfa : mg "law" = some (.ref fa))
    {f0 : Addr} {od0 an0 : Option Addr} {sl0 : Array (Option Value)} {oc0 kV0 dc0 pm0 cd0 ct0 : Value}
    {f1 : Addr} {od1 an1 : Option Addr} {sl1 : Array (Option Value)} {oc1 kV1 dc1 pm1 cd1 ct1 : Value}
    {f2 : Addr} {od2 an2 : Option Addr} {sl2 : Array (Option Value)} {oc2 kV2 dc2 pm2 cd2 ct2 : Value}
    {f3 : Addr} {od3 an3 : Option Addr} {sl3 : Array (Option Value)} {oc3 kV3 dc3 pm3 cd3 ct3 : Value}
    {f4 : Addr} {od4 an4 : Option Addr} {sl4 : Array (Option Value)} {oc4 kV4 dc4 pm4 cd4 ct4 : Value}
    {f5 : Addr} {od5 an5 : Option Addr} {sl5 : Array (Option Value)} {oc5 kV5 dc5 pm5 cd5 ct5 : Value}
    {f6 : Addr} {od6 an6 : Option Addr} {sl6 : Array (Option Value)} {oc6 kV6 dc6 pm6 cd6 ct6 : Value}
    {f7 : Addr} {od7 an7 : Option Addr} {sl7 : Array (Option Value)} {oc7 kV7 dc7 pm7 cd7 ct7 : Value}
    {f8 : Addr} {od8 an8 : Option Addr} {sl8 : Array (Option Value)} {oc8 kV8 dc8 pm8 cd8 ct8 : Value}
    {f9 : Addr} {od9 an9 : Option Addr} {sl9 : Array (Option Value)} {oc9 kV9 dc9 pm9 cd9 ct9 : Value}
    {f10 : Addr} {od10 an10 : Option Addr} {sl10 : Array (Option Value)} {oc10 kV10 dc10 pm10 cd10 ct10 : Value}
    {f11 : Addr} {od11 an11 : Option Addr} {sl11 : Array (Option Value)} {oc11 kV11 dc11 pm11 cd11 ct11 : Value}
    {f12 : Addr} {od12 an12 : Option Addr} {sl12 : Array (Option Value)} {oc12 kV12 dc12 pm12 cd12 ct12 : Value}
    {f13 : Addr} {od13 an13 : Option Addr} {sl13 : Array (Option Value)} {oc13 kV13 dc13 pm13 cd13 ct13 : Value}
    {f14 : Addr} {od14 an14 : Option Addr} {sl14 : Array (Option Value)} {oc14 kV14 dc14 pm14 cd14 ct14 : Value}
    {f15 : Addr} {od15 an15 : Option Addr} {sl15 : Array (Option Value)} {oc15 kV15 dc15 pm15 cd15 ct15 : Value}
    {f16 : Addr} {od16 an16 : Option Addr} {sl16 : Array (Option Value)} {oc16 kV16 dc16 pm16 cd16 ct16 : Value}
    {f17 : Addr} {od17 an17 : Option Addr} {sl17 : Array (Option Value)} {oc17 kV17 dc17 pm17 cd17 ct17 : Value}
    {f18 : Addr} {od18 an18 : Option Addr} {sl18 : Array (Option Value)} {oc18 kV18 dc18 pm18 cd18 ct18 : Value}
    {f19 : Addr} {od19 an19 : Option Addr} {sl19 : Array (Option Value)} {oc19 kV19 dc19 pm19 cd19 ct19 : Value}
    {f20 : Addr} {od20 an20 : Option Addr} {sl20 : Array (Option Value)} {oc20 kV20 dc20 pm20 cd20 ct20 : Value}
    {f21 : Addr} {od21 an21 : Option Addr} {sl21 : Array (Option Value)} {oc21 kV21 dc21 pm21 cd21 ct21 : Value}
    {f22 : Addr} {od22 an22 : Option Addr} {sl22 : Array (Option Value)} {oc22 kV22 dc22 pm22 cd22 ct22 : Value}
    {C0 : Addr}
    (a0 : PySem.W.nsIn K mainGlobals "settled" = some (some (.ref f0))) (l0 : K.lookup f0 = some ⟨oc0, od0, .func (PySem.W.fnOf "settled" "settled" (defArgs d_settled.st) (defBody d_settled.st) (defScope d_settled.st) .none kV0 dc0 pm0 an0 cd0 ct0), sl0⟩) (c0 : PySem.W.codeIn K cd0 "settled" = true) (k0 : PySem.W.keepIn K (.ref f0) = true)
    (a1 : PySem.W.nsIn K mainGlobals "settle" = some (some (.ref f1))) (l1 : K.lookup f1 = some ⟨oc1, od1, .func (PySem.W.fnOf "settle" "settle" (defArgs d_settle.st) (defBody d_settle.st) (defScope d_settle.st) .none kV1 dc1 pm1 an1 cd1 ct1), sl1⟩) (c1 : PySem.W.codeIn K cd1 "settle" = true) (k1 : PySem.W.keepIn K (.ref f1) = true)
    (a2 : PySem.W.nsIn K mainGlobals "is_integer" = some (some (.ref f2))) (l2 : K.lookup f2 = some ⟨oc2, od2, .func (PySem.W.fnOf "is_integer" "is_integer" (defArgs d_is_integer.st) (defBody d_is_integer.st) (defScope d_is_integer.st) .none kV2 dc2 pm2 an2 cd2 ct2), sl2⟩) (c2 : PySem.W.codeIn K cd2 "is_integer" = true) (k2 : PySem.W.keepIn K (.ref f2) = true)
    (a3 : PySem.W.nsIn K mainGlobals "is_between" = some (some (.ref f3))) (l3 : K.lookup f3 = some ⟨oc3, od3, .func (PySem.W.fnOf "is_between" "is_between" (defArgs d_is_between.st) (defBody d_is_between.st) (defScope d_is_between.st) .none kV3 dc3 pm3 an3 cd3 ct3), sl3⟩) (c3 : PySem.W.codeIn K cd3 "is_between" = true) (k3 : PySem.W.keepIn K (.ref f3) = true)
    (a4 : PySem.W.nsIn K mainGlobals "are_weights" = some (some (.ref f4))) (l4 : K.lookup f4 = some ⟨oc4, od4, .func (PySem.W.fnOf "are_weights" "are_weights" (defArgs d_are_weights.st) (defBody d_are_weights.st) (defScope d_are_weights.st) .none kV4 dc4 pm4 an4 cd4 ct4), sl4⟩) (c4 : PySem.W.codeIn K cd4 "are_weights" = true) (k4 : PySem.W.keepIn K (.ref f4) = true)
    (a5 : PySem.W.nsIn K mainGlobals "are_quotas" = some (some (.ref f5))) (l5 : K.lookup f5 = some ⟨oc5, od5, .func (PySem.W.fnOf "are_quotas" "are_quotas" (defArgs d_are_quotas.st) (defBody d_are_quotas.st) (defScope d_are_quotas.st) .none kV5 dc5 pm5 an5 cd5 ct5), sl5⟩) (c5 : PySem.W.codeIn K cd5 "are_quotas" = true) (k5 : PySem.W.keepIn K (.ref f5) = true)
    (a6 : PySem.W.findIn K (.ref C0) "__init__" = some (some (.ref f6))) (i6 : PySem.W.isFn K (.ref f6) = true) (l6 : K.lookup f6 = some ⟨oc6, od6, .func (PySem.W.fnOf "__init__" "Council.__init__" (defArgs d_Council_dot___init__.st) (defBody d_Council_dot___init__.st) (defScope d_Council_dot___init__.st) .none kV6 dc6 pm6 an6 cd6 ct6), sl6⟩) (c6 : PySem.W.codeIn K cd6 "Council.__init__" = true) (k6 : PySem.W.keepIn K (.ref f6) = true)
    (a7 : PySem.W.findIn K (.ref C0) "weights" = some (some (.ref f7))) (i7 : PySem.W.isFn K (.ref f7) = true) (l7 : K.lookup f7 = some ⟨oc7, od7, .func (PySem.W.fnOf "weights" "Council.weights" (defArgs d_Council_dot_weights.st) (defBody d_Council_dot_weights.st) (defScope d_Council_dot_weights.st) .none kV7 dc7 pm7 an7 cd7 ct7), sl7⟩) (c7 : PySem.W.codeIn K cd7 "Council.weights" = true) (k7 : PySem.W.keepIn K (.ref f7) = true)
    (a8 : PySem.W.findIn K (.ref C0) "quotas" = some (some (.ref f8))) (i8 : PySem.W.isFn K (.ref f8) = true) (l8 : K.lookup f8 = some ⟨oc8, od8, .func (PySem.W.fnOf "quotas" "Council.quotas" (defArgs d_Council_dot_quotas.st) (defBody d_Council_dot_quotas.st) (defScope d_Council_dot_quotas.st) .none kV8 dc8 pm8 an8 cd8 ct8), sl8⟩) (c8 : PySem.W.codeIn K cd8 "Council.quotas" = true) (k8 : PySem.W.keepIn K (.ref f8) = true)
    (a9 : PySem.W.findIn K (.ref C0) "total" = some (some (.ref f9))) (i9 : PySem.W.isFn K (.ref f9) = true) (l9 : K.lookup f9 = some ⟨oc9, od9, .func (PySem.W.fnOf "total" "Council.total" (defArgs d_Council_dot_total.st) (defBody d_Council_dot_total.st) (defScope d_Council_dot_total.st) .none kV9 dc9 pm9 an9 cd9 ct9), sl9⟩) (c9 : PySem.W.codeIn K cd9 "Council.total" = true) (k9 : PySem.W.keepIn K (.ref f9) = true)
    (a10 : PySem.W.findIn K (.ref C0) "width" = some (some (.ref f10))) (i10 : PySem.W.isFn K (.ref f10) = true) (l10 : K.lookup f10 = some ⟨oc10, od10, .func (PySem.W.fnOf "width" "Council.width" (defArgs d_Council_dot_width.st) (defBody d_Council_dot_width.st) (defScope d_Council_dot_width.st) .none kV10 dc10 pm10 an10 cd10 ct10), sl10⟩) (c10 : PySem.W.codeIn K cd10 "Council.width" = true) (k10 : PySem.W.keepIn K (.ref f10) = true)
    (a11 : PySem.W.findIn K (.ref C0) "__len__" = some (some (.ref f11))) (i11 : PySem.W.isFn K (.ref f11) = true) (l11 : K.lookup f11 = some ⟨oc11, od11, .func (PySem.W.fnOf "__len__" "Council.__len__" (defArgs d_Council_dot___len__.st) (defBody d_Council_dot___len__.st) (defScope d_Council_dot___len__.st) .none kV11 dc11 pm11 an11 cd11 ct11), sl11⟩) (c11 : PySem.W.codeIn K cd11 "Council.__len__" = true) (k11 : PySem.W.keepIn K (.ref f11) = true)
    (a12 : PySem.W.nsIn K mainGlobals "_law_bag" = some (some (.ref f12))) (l12 : K.lookup f12 = some ⟨oc12, od12, .func (PySem.W.fnOf "_law_bag" "_law_bag" (defArgs d__law_bag.st) (defBody d__law_bag.st) (defScope d__law_bag.st) .none kV12 dc12 pm12 an12 cd12 ct12), sl12⟩) (c12 : PySem.W.codeIn K cd12 "_law_bag" = true) (k12 : PySem.W.keepIn K (.ref f12) = true)
    (a13 : PySem.W.nsIn K mainGlobals "_law_take" = some (some (.ref f13))) (l13 : K.lookup f13 = some ⟨oc13, od13, .func (PySem.W.fnOf "_law_take" "_law_take" (defArgs d__law_take.st) (defBody d__law_take.st) (defScope d__law_take.st) .none kV13 dc13 pm13 an13 cd13 ct13), sl13⟩) (c13 : PySem.W.codeIn K cd13 "_law_take" = true) (k13 : PySem.W.keepIn K (.ref f13) = true)
    (a14 : PySem.W.nsIn K mainGlobals "_law_council" = some (some (.ref f14))) (l14 : K.lookup f14 = some ⟨oc14, od14, .func (PySem.W.fnOf "_law_council" "_law_council" (defArgs d__law_council.st) (defBody d__law_council.st) (defScope d__law_council.st) .none kV14 dc14 pm14 an14 cd14 ct14), sl14⟩) (c14 : PySem.W.codeIn K cd14 "_law_council" = true) (k14 : PySem.W.keepIn K (.ref f14) = true)
    (a15 : PySem.W.nsIn K mainGlobals "_law_made" = some (some (.ref f15))) (l15 : K.lookup f15 = some ⟨oc15, od15, .func (PySem.W.fnOf "_law_made" "_law_made" (defArgs d__law_made.st) (defBody d__law_made.st) (defScope d__law_made.st) .none kV15 dc15 pm15 an15 cd15 ct15), sl15⟩) (c15 : PySem.W.codeIn K cd15 "_law_made" = true) (k15 : PySem.W.keepIn K (.ref f15) = true)
    (a16 : PySem.W.nsIn K mainGlobals "_law_value" = some (some (.ref f16))) (l16 : K.lookup f16 = some ⟨oc16, od16, .func (PySem.W.fnOf "_law_value" "_law_value" (defArgs d__law_value.st) (defBody d__law_value.st) (defScope d__law_value.st) .none kV16 dc16 pm16 an16 cd16 ct16), sl16⟩) (c16 : PySem.W.codeIn K cd16 "_law_value" = true) (k16 : PySem.W.keepIn K (.ref f16) = true)
    (a17 : PySem.W.nsIn K mainGlobals "_law_seat_rows" = some (some (.ref f17))) (l17 : K.lookup f17 = some ⟨oc17, od17, .func (PySem.W.fnOf "_law_seat_rows" "_law_seat_rows" (defArgs d__law_seat_rows.st) (defBody d__law_seat_rows.st) (defScope d__law_seat_rows.st) .none kV17 dc17 pm17 an17 cd17 ct17), sl17⟩) (c17 : PySem.W.codeIn K cd17 "_law_seat_rows" = true) (k17 : PySem.W.keepIn K (.ref f17) = true)
    (a18 : PySem.W.nsIn K mainGlobals "_law_raised" = some (some (.ref f18))) (l18 : K.lookup f18 = some ⟨oc18, od18, .func (PySem.W.fnOf "_law_raised" "_law_raised" (defArgs d__law_raised.st) (defBody d__law_raised.st) (defScope d__law_raised.st) .none kV18 dc18 pm18 an18 cd18 ct18), sl18⟩) (c18 : PySem.W.codeIn K cd18 "_law_raised" = true) (k18 : PySem.W.keepIn K (.ref f18) = true)
    (a19 : PySem.W.nsIn K mainGlobals "_law_row_raised" = some (some (.ref f19))) (l19 : K.lookup f19 = some ⟨oc19, od19, .func (PySem.W.fnOf "_law_row_raised" "_law_row_raised" (defArgs d__law_row_raised.st) (defBody d__law_row_raised.st) (defScope d__law_row_raised.st) .none kV19 dc19 pm19 an19 cd19 ct19), sl19⟩) (c19 : PySem.W.codeIn K cd19 "_law_row_raised" = true) (k19 : PySem.W.keepIn K (.ref f19) = true)
    (a20 : PySem.W.nsIn K mainGlobals "_law_quota_raised" = some (some (.ref f20))) (l20 : K.lookup f20 = some ⟨oc20, od20, .func (PySem.W.fnOf "_law_quota_raised" "_law_quota_raised" (defArgs d__law_quota_raised.st) (defBody d__law_quota_raised.st) (defScope d__law_quota_raised.st) .none kV20 dc20 pm20 an20 cd20 ct20), sl20⟩) (c20 : PySem.W.codeIn K cd20 "_law_quota_raised" = true) (k20 : PySem.W.keepIn K (.ref f20) = true)
    (a21 : PySem.W.nsIn K mainGlobals "_law_ends" = some (some (.ref f21))) (l21 : K.lookup f21 = some ⟨oc21, od21, .func (PySem.W.fnOf "_law_ends" "_law_ends" (defArgs d__law_ends.st) (defBody d__law_ends.st) (defScope d__law_ends.st) .none kV21 dc21 pm21 an21 cd21 ct21), sl21⟩) (c21 : PySem.W.codeIn K cd21 "_law_ends" = true) (k21 : PySem.W.keepIn K (.ref f21) = true)
    (a22 : PySem.W.nsIn K mainGlobals "law" = some (some (.ref f22))) (l22 : K.lookup f22 = some ⟨oc22, od22, .func (PySem.W.fnOf "law" "law" (defArgs d_law.st) (defBody d_law.st) (defScope d_law.st) .none kV22 dc22 pm22 an22 cd22 ct22), sl22⟩) (c22 : PySem.W.codeIn K cd22 "law" = true) (k22 : PySem.W.keepIn K (.ref f22) = true)
    (aC0 : PySem.W.nsIn K mainGlobals "Council" = some (some (.ref C0))) (pg0 : PySem.W.plainGet K C0 Str.empty = true) (hd0 : PySem.W.hasDictIn K C0 = true) (po0 : PySem.W.plainOver K C0 = true) (sa0 : PySem.W.findIn K (.ref C0) "__setattr__" = some (some (.builtin "object.__setattr__"))) (mk0 : PySem.W.makesIn K C0 = true) (kc0 : PySem.W.keepIn K (.ref C0) = true) (n0_0 : PySem.W.findIn K (.ref C0) "seat_weights" = some none) (n0_1 : PySem.W.findIn K (.ref C0) "column_quotas" = some none)
    (z0 : PySem.W.nsIn K mainGlobals "abs" = some none)
    (z1 : PySem.W.nsIn K mainGlobals "all" = some none)
    (z2 : PySem.W.nsIn K mainGlobals "bool" = some none)
    (z3 : PySem.W.nsIn K mainGlobals "enumerate" = some none)
    (z4 : PySem.W.nsIn K mainGlobals "int" = some none)
    (z5 : PySem.W.nsIn K mainGlobals "isinstance" = some none)
    (z6 : PySem.W.nsIn K mainGlobals "len" = some none)
    (z7 : PySem.W.nsIn K mainGlobals "list" = some none)
    (z8 : PySem.W.nsIn K mainGlobals "max" = some none)
    (z9 : PySem.W.nsIn K mainGlobals "min" = some none)
    (z10 : PySem.W.nsIn K mainGlobals "range" = some none)
    (z11 : PySem.W.nsIn K mainGlobals "sorted" = some none)
    (z12 : PySem.W.nsIn K mainGlobals "sum" = some none)
    (z13 : PySem.W.nsIn K mainGlobals "tuple" = some none)
    (z14 : PySem.W.nsIn K mainGlobals "zip" = some none)
    {tk0 : Tok}
    {tk1 : Tok}
    {tk2 : Tok}
    {tk3 : Tok}
    (y0 : PySem.W.nsIn K mainGlobals "LEAST_SEATS" = some (some (Value.int (2) tk0)))
    (y1 : PySem.W.nsIn K mainGlobals "MOST_SEATS" = some (some (Value.int (7) tk1)))
    (y2 : PySem.W.nsIn K mainGlobals "MOST_WEIGHT" = some (some (Value.int (1000000) tk2)))
    (y3 : PySem.W.nsIn K mainGlobals "MOST_COLUMNS" = some (some (Value.int (6) tk3)))
    : ∃ (fd : FuncData) (G : Gd), G.K = K ∧ (∀ (s : Shared) (v : Value), BindsTo s fd ⟨[v], []⟩ [("script", v)]) ∧ ∀ base : Heap, FnG l.prog w K mg base CX0 120 fa fd ["script"] (spH G 1 (callD (tabOf ds) (cfOf CT) 60 "law")) := by
  have ef := hfa.symm.trans (PySem.W.mg_of X Gm a22)
  cases ef
  let G : Gd := ⟨K, fun c => [C0].getD c 0⟩
  have F0 : Fun K d_settled.x d_settled.q d_settled.st f0 _ := fun_mk (st := d_settled.st) l0 c0 k0
  have B0 := F0.binds (ps := d_settled.ps) fun _ _ _ _ _ _ us hl => match us, hl with | [_, _, _], _ => rfl
  have F1 : Fun K d_settle.x d_settle.q d_settle.st f1 _ := fun_mk (st := d_settle.st) l1 c1 k1
  have B1 := F1.binds (ps := d_settle.ps) fun _ _ _ _ _ _ us hl => match us, hl with | [_, _], _ => rfl
  have F2 : Fun K d_is_integer.x d_is_integer.q d_is_integer.st f2 _ := fun_mk (st := d_is_integer.st) l2 c2 k2
  have B2 := F2.binds (ps := d_is_integer.ps) fun _ _ _ _ _ _ us hl => match us, hl with | [_], _ => rfl
  have F3 : Fun K d_is_between.x d_is_between.q d_is_between.st f3 _ := fun_mk (st := d_is_between.st) l3 c3 k3
  have B3 := F3.binds (ps := d_is_between.ps) fun _ _ _ _ _ _ us hl => match us, hl with | [_, _, _], _ => rfl
  have F4 : Fun K d_are_weights.x d_are_weights.q d_are_weights.st f4 _ := fun_mk (st := d_are_weights.st) l4 c4 k4
  have B4 := F4.binds (ps := d_are_weights.ps) fun _ _ _ _ _ _ us hl => match us, hl with | [_], _ => rfl
  have F5 : Fun K d_are_quotas.x d_are_quotas.q d_are_quotas.st f5 _ := fun_mk (st := d_are_quotas.st) l5 c5 k5
  have B5 := F5.binds (ps := d_are_quotas.ps) fun _ _ _ _ _ _ us hl => match us, hl with | [_, _], _ => rfl
  have F6 : Fun K d_Council_dot___init__.x d_Council_dot___init__.q d_Council_dot___init__.st f6 _ := fun_mk (st := d_Council_dot___init__.st) l6 c6 k6
  have B6 := F6.binds (ps := d_Council_dot___init__.ps) fun _ _ _ _ _ _ us hl => match us, hl with | [_, _, _], _ => rfl
  have F7 : Fun K d_Council_dot_weights.x d_Council_dot_weights.q d_Council_dot_weights.st f7 _ := fun_mk (st := d_Council_dot_weights.st) l7 c7 k7
  have B7 := F7.binds (ps := d_Council_dot_weights.ps) fun _ _ _ _ _ _ us hl => match us, hl with | [_], _ => rfl
  have F8 : Fun K d_Council_dot_quotas.x d_Council_dot_quotas.q d_Council_dot_quotas.st f8 _ := fun_mk (st := d_Council_dot_quotas.st) l8 c8 k8
  have B8 := F8.binds (ps := d_Council_dot_quotas.ps) fun _ _ _ _ _ _ us hl => match us, hl with | [_], _ => rfl
  have F9 : Fun K d_Council_dot_total.x d_Council_dot_total.q d_Council_dot_total.st f9 _ := fun_mk (st := d_Council_dot_total.st) l9 c9 k9
  have B9 := F9.binds (ps := d_Council_dot_total.ps) fun _ _ _ _ _ _ us hl => match us, hl with | [_], _ => rfl
  have F10 : Fun K d_Council_dot_width.x d_Council_dot_width.q d_Council_dot_width.st f10 _ := fun_mk (st := d_Council_dot_width.st) l10 c10 k10
  have B10 := F10.binds (ps := d_Council_dot_width.ps) fun _ _ _ _ _ _ us hl => match us, hl with | [_], _ => rfl
  have F11 : Fun K d_Council_dot___len__.x d_Council_dot___len__.q d_Council_dot___len__.st f11 _ := fun_mk (st := d_Council_dot___len__.st) l11 c11 k11
  have B11 := F11.binds (ps := d_Council_dot___len__.ps) fun _ _ _ _ _ _ us hl => match us, hl with | [_], _ => rfl
  have F12 : Fun K d__law_bag.x d__law_bag.q d__law_bag.st f12 _ := fun_mk (st := d__law_bag.st) l12 c12 k12
  have B12 := F12.binds (ps := d__law_bag.ps) fun _ _ _ _ _ _ us hl => match us, hl with | [_], _ => rfl
  have F13 : Fun K d__law_take.x d__law_take.q d__law_take.st f13 _ := fun_mk (st := d__law_take.st) l13 c13 k13
  have B13 := F13.binds (ps := d__law_take.ps) fun _ _ _ _ _ _ us hl => match us, hl with | [_, _], _ => rfl
  have F14 : Fun K d__law_council.x d__law_council.q d__law_council.st f14 _ := fun_mk (st := d__law_council.st) l14 c14 k14
  have B14 := F14.binds (ps := d__law_council.ps) fun _ _ _ _ _ _ us hl => match us, hl with | [_, _, _], _ => rfl
  have F15 : Fun K d__law_made.x d__law_made.q d__law_made.st f15 _ := fun_mk (st := d__law_made.st) l15 c15 k15
  have B15 := F15.binds (ps := d__law_made.ps) fun _ _ _ _ _ _ us hl => match us, hl with | [_], _ => rfl
  have F16 : Fun K d__law_value.x d__law_value.q d__law_value.st f16 _ := fun_mk (st := d__law_value.st) l16 c16 k16
  have B16 := F16.binds (ps := d__law_value.ps) fun _ _ _ _ _ _ us hl => match us, hl with | [_], _ => rfl
  have F17 : Fun K d__law_seat_rows.x d__law_seat_rows.q d__law_seat_rows.st f17 _ := fun_mk (st := d__law_seat_rows.st) l17 c17 k17
  have B17 := F17.binds (ps := d__law_seat_rows.ps) fun _ _ _ _ _ _ us hl => match us, hl with | [_, _, _], _ => rfl
  have F18 : Fun K d__law_raised.x d__law_raised.q d__law_raised.st f18 _ := fun_mk (st := d__law_raised.st) l18 c18 k18
  have B18 := F18.binds (ps := d__law_raised.ps) fun _ _ _ _ _ _ us hl => match us, hl with | [_, _], _ => rfl
  have F19 : Fun K d__law_row_raised.x d__law_row_raised.q d__law_row_raised.st f19 _ := fun_mk (st := d__law_row_raised.st) l19 c19 k19
  have B19 := F19.binds (ps := d__law_row_raised.ps) fun _ _ _ _ _ _ us hl => match us, hl with | [_, _, _, _], _ => rfl
  have F20 : Fun K d__law_quota_raised.x d__law_quota_raised.q d__law_quota_raised.st f20 _ := fun_mk (st := d__law_quota_raised.st) l20 c20 k20
  have B20 := F20.binds (ps := d__law_quota_raised.ps) fun _ _ _ _ _ _ us hl => match us, hl with | [_, _, _, _], _ => rfl
  have F21 : Fun K d__law_ends.x d__law_ends.q d__law_ends.st f21 _ := fun_mk (st := d__law_ends.st) l21 c21 k21
  have B21 := F21.binds (ps := d__law_ends.ps) fun _ _ _ _ _ _ us hl => match us, hl with | [_, _, _], _ => rfl
  have F22 : Fun K d_law.x d_law.q d_law.st fa _ := fun_mk (st := d_law.st) l22 c22 k22
  have B22 := F22.binds (ps := d_law.ps) fun _ _ _ _ _ _ us hl => match us, hl with | [_], _ => rfl
  have ok : ∀ d ∈ ds, DfOk K mg G (tab0 ds CT mt bns gls) d := by
    intro d hd
    simp only [ds, List.mem_cons, List.not_mem_nil, or_false] at hd
    rcases hd with rfl | rfl | rfl | rfl | rfl | rfl | rfl | rfl | rfl | rfl | rfl | rfl | rfl | rfl | rfl | rfl | rfl | rfl | rfl | rfl | rfl | rfl | rfl
    · exact ⟨c_settled, s_settled, _, _, (⟨PySem.W.mg_of X Gm a0, k0⟩), F0, B0⟩
    · exact ⟨c_settle, s_settle, _, _, (⟨PySem.W.mg_of X Gm a1, k1⟩), F1, B1⟩
    · exact ⟨c_is_integer, s_is_integer, _, _, (⟨PySem.W.mg_of X Gm a2, k2⟩), F2, B2⟩
    · exact ⟨c_is_between, s_is_between, _, _, (⟨PySem.W.mg_of X Gm a3, k3⟩), F3, B3⟩
    · exact ⟨c_are_weights, s_are_weights, _, _, (⟨PySem.W.mg_of X Gm a4, k4⟩), F4, B4⟩
    · exact ⟨c_are_quotas, s_are_quotas, _, _, (⟨PySem.W.mg_of X Gm a5, k5⟩), F5, B5⟩
    · exact ⟨c_Council_dot___init__, s_Council_dot___init__, _, _, (plc_ini (c := 0) rfl rfl ⟨mk0, a6, i6, kc0⟩), F6, B6⟩
    · exact ⟨c_Council_dot_weights, s_Council_dot_weights, _, _, (plc_meth (c := 0) rfl (by decide +kernel) ⟨a7, i7, k7⟩), F7, B7⟩
    · exact ⟨c_Council_dot_quotas, s_Council_dot_quotas, _, _, (plc_meth (c := 0) rfl (by decide +kernel) ⟨a8, i8, k8⟩), F8, B8⟩
    · exact ⟨c_Council_dot_total, s_Council_dot_total, _, _, (plc_meth (c := 0) rfl (by decide +kernel) ⟨a9, i9, k9⟩), F9, B9⟩
    · exact ⟨c_Council_dot_width, s_Council_dot_width, _, _, (plc_meth (c := 0) rfl (by decide +kernel) ⟨a10, i10, k10⟩), F10, B10⟩
    · exact ⟨c_Council_dot___len__, s_Council_dot___len__, _, _, (plc_meth (c := 0) rfl (by decide +kernel) ⟨a11, i11, k11⟩), F11, B11⟩
    · exact ⟨c__law_bag, s__law_bag, _, _, (⟨PySem.W.mg_of X Gm a12, k12⟩), F12, B12⟩
    · exact ⟨c__law_take, s__law_take, _, _, (⟨PySem.W.mg_of X Gm a13, k13⟩), F13, B13⟩
    · exact ⟨c__law_council, s__law_council, _, _, (⟨PySem.W.mg_of X Gm a14, k14⟩), F14, B14⟩
    · exact ⟨c__law_made, s__law_made, _, _, (⟨PySem.W.mg_of X Gm a15, k15⟩), F15, B15⟩
    · exact ⟨c__law_value, s__law_value, _, _, (⟨PySem.W.mg_of X Gm a16, k16⟩), F16, B16⟩
    · exact ⟨c__law_seat_rows, s__law_seat_rows, _, _, (⟨PySem.W.mg_of X Gm a17, k17⟩), F17, B17⟩
    · exact ⟨c__law_raised, s__law_raised, _, _, (⟨PySem.W.mg_of X Gm a18, k18⟩), F18, B18⟩
    · exact ⟨c__law_row_raised, s__law_row_raised, _, _, (⟨PySem.W.mg_of X Gm a19, k19⟩), F19, B19⟩
    · exact ⟨c__law_quota_raised, s__law_quota_raised, _, _, (⟨PySem.W.mg_of X Gm a20, k20⟩), F20, B20⟩
    · exact ⟨c__law_ends, s__law_ends, _, _, (⟨PySem.W.mg_of X Gm a21, k21⟩), F21, B21⟩
    · exact ⟨c_law, s_law, _, _, (⟨hfa, k22⟩), F22, B22⟩
  have hb : ∀ x ∈ bns, mg x = none := by
    intro x hx
    simp only [bns, List.mem_cons, List.not_mem_nil, or_false] at hx
    rcases hx with rfl | rfl | rfl | rfl | rfl | rfl | rfl | rfl | rfl | rfl | rfl | rfl | rfl | rfl | rfl
    · exact PySem.W.mg_none_of X Gm z0
    · exact PySem.W.mg_none_of X Gm z1
    · exact PySem.W.mg_none_of X Gm z2
    · exact PySem.W.mg_none_of X Gm z3
    · exact PySem.W.mg_none_of X Gm z4
    · exact PySem.W.mg_none_of X Gm z5
    · exact PySem.W.mg_none_of X Gm z6
    · exact PySem.W.mg_none_of X Gm z7
    · exact PySem.W.mg_none_of X Gm z8
    · exact PySem.W.mg_none_of X Gm z9
    · exact PySem.W.mg_none_of X Gm z10
    · exact PySem.W.mg_none_of X Gm z11
    · exact PySem.W.mg_none_of X Gm z12
    · exact PySem.W.mg_none_of X Gm z13
    · exact PySem.W.mg_none_of X Gm z14
  have nd : (ds.map (·.q)).Nodup := by decide +kernel
  have cl : ClOk K mg G CT := by
    refine ⟨fun c i hi => ?_⟩
    match c, hi with
    | 0, hi => cases hi; exact ⟨⟨pg0, hd0, po0, sa0⟩, PySem.W.mg_of X Gm aC0, fun f hf => by
        simp only [List.mem_cons, List.not_mem_nil, or_false] at hf
        rcases hf with rfl | rfl
        · exact n0_0
        · exact n0_1⟩
    | c + 1, hi => simp [CT] at hi
  have hg : ∀ x v, gls.lookup x = some v → (∃ u, mg x = some u ∧ RelV v u) ∧ (∀ π, im π v = v) ∧ ∀ n, wf n v := by
    intro x v hx
    have hx := lookup_in hx
    simp only [gls, List.mem_cons, List.not_mem_nil, or_false, Prod.mk.injEq] at hx
    rcases hx with ⟨rfl, rfl⟩ | ⟨rfl, rfl⟩ | ⟨rfl, rfl⟩ | ⟨rfl, rfl⟩
    · exact ⟨⟨_, PySem.W.mg_of X Gm y0, _, rfl⟩, fun _ => rfl, fun _ => trivial⟩
    · exact ⟨⟨_, PySem.W.mg_of X Gm y1, _, rfl⟩, fun _ => rfl, fun _ => trivial⟩
    · exact ⟨⟨_, PySem.W.mg_of X Gm y2, _, rfl⟩, fun _ => rfl, fun _ => trivial⟩
    · exact ⟨⟨_, PySem.W.mg_of X Gm y3, _, rfl⟩, fun _ => rfl, fun _ => trivial⟩
  have Z : Tx0 K mg G ds CT mt bns gls := ⟨rfl, nd, ok, cl, ck_ok, mt_ok, hb, hg⟩
  have hm : d_law ∈ ds := by simp [ds]
  exact ⟨_, G, rfl, fun s v => .of_eq rfl, law_fn (d := d_law) Z 59 hm F22 rfl⟩
end K29
open PySem PySem.W PyProof.Rows
set_option maxHeartbeats 0 in
theorem PySem.Challenge.cw_packedseats_k29_whole_quotas_and_rows_ra_holds : PySem.Challenge.rw_packedseats_k29_whole_quotas_and_rows_ra.Holds := by
  w_on; o_law; k_head; (case hw => w_witness2)
  k_fill
  refine HI.walk_go (l := PySem.Challenge.rw_packedseats_k29_whole_quotas_and_rows_ra) (n := 63) (k := 120) (x := "script") (F := HI.callD (HI.tabOf K29.ds) (HI.cfOf K29.CT) 60 "law") rfl (by decide) rfl ⟨rfl, by decide, by decide⟩ (fun w h Y => PySem.W.kIn_of Y) ?fn ?law
  case fn =>
    intro w mg fa h X Gm hfa
    refine' K29.fns X Gm hfa ?a0 ?l0 ?c0 ?k0 ?a1 ?l1 ?c1 ?k1 ?a2 ?l2 ?c2 ?k2 ?a3 ?l3 ?c3 ?k3 ?a4 ?l4 ?c4 ?k4 ?a5 ?l5 ?c5 ?k5 ?a6 ?i6 ?l6 ?c6 ?k6 ?a7 ?i7 ?l7 ?c7 ?k7 ?a8 ?i8 ?l8 ?c8 ?k8 ?a9 ?i9 ?l9 ?c9 ?k9 ?a10 ?i10 ?l10 ?c10 ?k10 ?a11 ?i11 ?l11 ?c11 ?k11 ?a12 ?l12 ?c12 ?k12 ?a13 ?l13 ?c13 ?k13 ?a14 ?l14 ?c14 ?k14 ?a15 ?l15 ?c15 ?k15 ?a16 ?l16 ?c16 ?k16 ?a17 ?l17 ?c17 ?k17 ?a18 ?l18 ?c18 ?k18 ?a19 ?l19 ?c19 ?k19 ?a20 ?l20 ?c20 ?k20 ?a21 ?l21 ?c21 ?k21 ?a22 ?l22 ?c22 ?k22 ?aC0 ?pg0 ?hd0 ?po0 ?sa0 ?mk0 ?kc0 ?n0_0 ?n0_1 ?z0 ?z1 ?z2 ?z3 ?z4 ?z5 ?z6 ?z7 ?z8 ?z9 ?z10 ?z11 ?z12 ?z13 ?z14 ?y0 ?y1 ?y2 ?y3
    (case aC0 => k_is); (case a0 => k_is); (case l0 => k_is); (case c0 => k_is); (case k0 => k_is); (case a1 => k_is); (case l1 => k_is); (case c1 => k_is); (case k1 => k_is); (case a2 => k_is); (case l2 => k_is); (case c2 => k_is); (case k2 => k_is); (case a3 => k_is); (case l3 => k_is); (case c3 => k_is); (case k3 => k_is); (case a4 => k_is); (case l4 => k_is); (case c4 => k_is); (case k4 => k_is); (case a5 => k_is); (case l5 => k_is); (case c5 => k_is); (case k5 => k_is); (case a6 => k_is); (case i6 => k_is); (case l6 => k_is); (case c6 => k_is); (case k6 => k_is); (case a7 => k_is); (case i7 => k_is); (case l7 => k_is); (case c7 => k_is); (case k7 => k_is); (case a8 => k_is); (case i8 => k_is); (case l8 => k_is); (case c8 => k_is); (case k8 => k_is); (case a9 => k_is); (case i9 => k_is); (case l9 => k_is); (case c9 => k_is); (case k9 => k_is); (case a10 => k_is); (case i10 => k_is); (case l10 => k_is); (case c10 => k_is); (case k10 => k_is); (case a11 => k_is); (case i11 => k_is); (case l11 => k_is); (case c11 => k_is); (case k11 => k_is); (case a12 => k_is); (case l12 => k_is); (case c12 => k_is); (case k12 => k_is); (case a13 => k_is); (case l13 => k_is); (case c13 => k_is); (case k13 => k_is); (case a14 => k_is); (case l14 => k_is); (case c14 => k_is); (case k14 => k_is); (case a15 => k_is); (case l15 => k_is); (case c15 => k_is); (case k15 => k_is); (case a16 => k_is); (case l16 => k_is); (case c16 => k_is); (case k16 => k_is); (case a17 => k_is); (case l17 => k_is); (case c17 => k_is); (case k17 => k_is); (case a18 => k_is); (case l18 => k_is); (case c18 => k_is); (case k18 => k_is); (case a19 => k_is); (case l19 => k_is); (case c19 => k_is); (case k19 => k_is); (case a20 => k_is); (case l20 => k_is); (case c20 => k_is); (case k20 => k_is); (case a21 => k_is); (case l21 => k_is); (case c21 => k_is); (case k21 => k_is); (case a22 => k_is); (case l22 => k_is); (case c22 => k_is); (case k22 => k_is); (case pg0 => k_is); (case hd0 => k_is); (case po0 => k_is); (case sa0 => k_is); (case mk0 => k_is); (case kc0 => k_is); (case n0_0 => k_is); (case n0_1 => k_is); (case z0 => k_is); (case z1 => k_is); (case z2 => k_is); (case z3 => k_is); (case z4 => k_is); (case z5 => k_is); (case z6 => k_is); (case z7 => k_is); (case z8 => k_is); (case z9 => k_is); (case z10 => k_is); (case z11 => k_is); (case z12 => k_is); (case z13 => k_is); (case z14 => k_is); (case y0 => k_is); (case y1 => k_is); (case y2 => k_is); (case y3 => k_is)
  case law =>
    intro ns hl
    rw [K29.tab_eq]
    obtain ⟨os, m⟩ := K29.pure ns hl
    exact HI.law_dd (T := K29.pr) m
