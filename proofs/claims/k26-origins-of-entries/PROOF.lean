import PyProof.Rows.All
import HandS.ForMost
import HandS.Deep
import HandS.Wide
import HandS.More
import KE.GoesMore
import KE.GoesZip
import KE.GoesEnum
import HandS.SortRule
import KE.KSortTupAny
import HandS.Style
import HandS.IsInst
import HandS.SortInts
import HandS.Flow
import KE.KDictZip
import HandS.Ends
import PyProof.EqLayable
import PyProof.ReprReads
import PyProof.FitsInt
import PySem.Challenge.RW_packedseats_k26_origins_of_entries
set_option Elab.async false
set_option linter.all false
set_option maxRecDepth 100000
set_option maxRecDepth 100000
set_option maxHeartbeats 4000000
/-! rules of the model that the layer lacks: tuples times a number, an empty tuple plus a tuple -/
namespace HI
open PySem PySem.Spec PyProof.Rows L2
open AutoSeq1 (wpAny_loadPart')
theorem big_int {x : Int} (h0 : -(2 ^ 63) ≤ x) (h1 : x < 2 ^ 63) : ¬ ((decide (x < -(2 ^ 63)) || decide (x ≥ 2 ^ 63)) = true) := by
  simp; omega
theorem tmul_same (l : Addr) (items : Array Value) (n : Nat) (dd : Option Addr) (sl : Array (Option Value)) (x : Int) (u : Tok) (h0 : -(2 ^ 63) ≤ x) (h1 : x < 2 ^ 63) (hc : (items.isEmpty || x == 1) = true) :
    Meets (Builtin.«tuple.__mul__» ⟨[.ref l, .int x u], []⟩) (fun _ R s => s.heap.get? l = some { cls := .type "tuple", dict := dd, data := .seq items n, slots := sl } ∧ R (.ok (.ret (Value.ref l))) s) :=
  .of_wp fun prog w A R s h => by
    obtain ⟨hp, g, d, tk, os⟩ := s; obtain ⟨hl, h⟩ := h
    have f1 := AutoSeq1.idx_int; have f2 := AutoSeq1.sub_tuple_tuple
    have hT : Shared.TypeIs ⟨hp, g, d, tk, os⟩ (.ref l) "tuple" := ⟨_, hl, rfl⟩
    unfold Builtin.«tuple.__mul__»
    wp_walk using wpAny_loadPart' hl, wpAny_typeOf hT
    rw [if_neg (big_int h0 h1)]
    wp_walk using wpAny_loadPart' hl, wpAny_typeOf hT
    exact ⟨_, rfl, h⟩
theorem tmul_new (l : Addr) (items : Array Value) (n : Nat) (dd : Option Addr) (sl : Array (Option Value)) (x : Int) (u : Tok) (h0 : -(2 ^ 63) ≤ x) (h1 : x < 2 ^ 63) (hc : ¬ (items.isEmpty || x == 1) = true)
    (hz : items.size * x.toNat ≤ sizeLine) :
    Meets (Builtin.«tuple.__mul__» ⟨[.ref l, .int x u], []⟩) (fun _ R s => s.heap.get? l = some { cls := .type "tuple", dict := dd, data := .seq items n, slots := sl } ∧
      R (.ok (.ret (Value.ref s.heap.objs.size))) { s with heap := s.heap.push { cls := .type "tuple", data := .seq (List.foldl (fun x1 x2 => x1 ++ x2) #[] (List.replicate x.toNat items)) } }) :=
  .of_wp fun prog w A R s h => by
    obtain ⟨hp, g, d, tk, os⟩ := s; obtain ⟨hl, h⟩ := h
    have f1 := AutoSeq1.idx_int; have f2 := AutoSeq1.sub_tuple_tuple
    have hT : Shared.TypeIs ⟨hp, g, d, tk, os⟩ (.ref l) "tuple" := ⟨_, hl, rfl⟩
    have hsz : (List.foldl (fun x1 x2 => x1 ++ x2) #[] (List.replicate x.toNat items)).size ≤ sizeLine := by
      rw [AutoSeq1.size_joined]
      simp only [Array.size_empty, Nat.zero_add]
      rw [Nat.mul_comm]; exact hz
    unfold Builtin.«tuple.__mul__»
    wp_walk using wpAny_loadPart' hl, wpAny_typeOf hT
    rw [if_neg (big_int h0 h1)]
    wp_walk using wpAny_loadPart' hl, wpAny_typeOf hT
    by_cases hx : x ≤ 0
    · have e0 : x.toNat = 0 := by omega
      rw [if_pos (by simp [hx])]
      rw [e0] at h
      wp_walk
      exact ⟨_, rfl, h⟩
    · have hi : items.isEmpty = false := by
        cases q : items.isEmpty with
        | false => rfl
        | true => exact absurd (by simp [q]) hc
      rw [if_neg (by simp [hx, hi])]
      have hb : (items.size : Int) * x = ((items.size * x.toNat : Nat) : Int) := by
        have : x = (x.toNat : Int) := by omega
        rw [Int.natCast_mul, ← this]
      rw [sizeLine_eq] at hz
      have b1 : ¬ (items.size : Int) * x > (2 ^ 63 - 1) / 8 := by
        rw [hb]
        generalize items.size * x.toNat = z at hz
        omega
      have b2 : ¬ Builtin.Tuple.tupleTooMany ((items.size : Int) * x) = true := by
        unfold Builtin.Tuple.tupleTooMany
        rw [hb, sizeLine_eq]
        generalize items.size * x.toNat = z at hz
        simp; omega
      wp_walk using wpAny_loadPart' hl, wpAny_typeOf hT
      rw [if_neg b1]
      wp_walk using wpAny_loadPart' hl
      rw [if_neg b2]
      wp_walk using wpAny_loadPart' hl
      first
        | exact ⟨_, rfl, h⟩
        | (refine wpAny_ite_false (decide_eq_false (Nat.not_lt.mpr hsz)) ?_
           wp_walk
           exact ⟨_, rfl, h⟩)

theorem noFill_tuple_mul : fillsNumberSlot (.type "tuple") "mul" = pure false :=
  PySem.fillsNumberSlot_seq (id := "tuple.__mul__") (r := some (.builtin "tuple.__rmul__")) F.slot_tuple_mul.lookup (by decide +kernel) F.slot_tuple_rmul.lookup (by decide +kernel)
theorem repeat_tuple : seqRepeat? (.type "tuple") = pure (some (.builtin "tuple.__mul__")) := by
  unfold seqRepeat?
  rw [PySem.seqSlot_of (T := "tuple") (name := "__mul__") (id := "tuple.__mul__") F.slot_tuple_mul.lookup (by decide +kernel),
    PySem.seqSlot_of (T := "tuple") (name := "__rmul__") (id := "tuple.__rmul__") F.slot_tuple_rmul.lookup (by decide +kernel)]
  rfl
theorem int_rmul_tuple (a : Int) (t : Tok) (l : Addr) (items : Array Value) (n : Nat) (dd : Option Addr) (sl : Array (Option Value)) :
    Meets (Builtin.«int.__rmul__» ⟨[.int a t, .ref l], []⟩) (fun _ R s => s.heap.get? l = some { cls := .type "tuple", dict := dd, data := .seq items n, slots := sl } ∧ R (.ok (.ret Value.notImplemented)) s) :=
  .of_wp fun prog w A R s h => by obtain ⟨hp, g, d, tk, os⟩ := s; obtain ⟨hl, h⟩ := h; wp_walk; exact ⟨_, rfl, h⟩

section
variable {X : Cx}
/-- t * k -/
theorem op_repT : OpR X (binaryOp .Mult) (fun x y H Q => ∃ l k xs, x = .ref l ∧ y = .int k ∧ SqT X.K H l xs ∧ -(2 ^ 63) ≤ k ∧ k < 2 ^ 63 ∧ xs.length * k.toNat ≤ sizeLine ∧
    (xs = [] ∨ k = 1 → Q (.ref l) H) ∧ (¬ (xs = [] ∨ k = 1) → ∀ p, H p = none → Q (.ref p) (upd H p (.tup (List.replicate k.toNat xs).flatten)))) := by
  intro pins s σ H x y v u Q I rx ry h
  obtain ⟨l, k, xs, rfl, rfl, hS, h1, h2, hz, qa, qb⟩ := h
  cases rx
  obtain ⟨t, rfl⟩ := ry
  obtain ⟨its, r, ht, hzl⟩ := I.tuple hS
  obtain ⟨⟨cls, dd, data, sl⟩, ho, hc, n, hd⟩ := id ht
  simp only at hc hd
  subst hc hd
  have hlen : its.toArray.size * k.toNat ≤ sizeLine := by rw [List.size_toArray, ← r.length]; exact hz
  have emp : its.toArray.isEmpty = true ↔ xs = [] := by
    cases r with
    | nil => simp
    | cons _ _ => simp
  refine wpAny_binaryOp_repeat_ref (T := "tuple") (U := "int") (by decide) ⟨_, ho, rfl⟩ (fun s' => typeIs_int s' k t) noFill_tuple_mul F.fills_int_mul F.slot_int_rmul repeat_tuple F.slot_int_index.lookup
    (call_meets F.slot_int_rmul (typeIs_int s k t) F.entry_int_rmul (F.args_int_rmul_2 _ _) (int_rmul_tuple k t l its.toArray n dd sl) ⟨ho, rfl, ⟨_, ho, rfl⟩, ?_⟩)
  by_cases hx : xs = [] ∨ k = 1
  · refine call_meets F.slot_tuple_mul ⟨_, ho, rfl⟩ F.entry_tuple_mul (F.args_tuple_mul_2 _ _) (tmul_same l its.toArray n dd sl k t h1 h2 ?_) ⟨ho, ?_⟩
    · rcases hx with z | z
      · rw [emp.mpr z]; rfl
      · subst z; simp
    · exact ⟨.ref l, H, I, rfl, qa hx⟩
  · refine call_meets F.slot_tuple_mul ⟨_, ho, rfl⟩ F.entry_tuple_mul (F.args_tuple_mul_2 _ _) (tmul_new l its.toArray n dd sl k t h1 h2 ?_ hlen) ⟨ho, ?_⟩
    · intro z
      rw [Bool.or_eq_true] at z
      rcases z with z | z
      · exact hx (.inl (emp.mp z))
      · exact hx (.inr (by simpa using z))
    · have e := foldl_rep its k.toNat []
      rw [List.nil_append] at e
      rw [show (#[] : Array Value) = ([] : List Value).toArray from rfl, e]
      refine ⟨.ref s.heap.objs.size, _, I.laid (t' := s.toks) (o := .tup (List.replicate k.toNat xs).flatten) (fun b ob q => Heap.get?_push_of_some _ q) (Nat.le_refl _) ?_, rfl, qb hx _ (I.hok.fresh (Nat.le_refl _))⟩
      exact ⟨by rw [PyProof.Rows.lm_len_rep_flat, Nat.mul_comm]; exact hz, _, r.rep k.toNat, IsTup.new _ _⟩
/-- () + u -/
theorem tadd_empty (l b : Addr) (items items2 : Array Value) (n n2 : Nat) (dd dd2 : Option Addr) (sl sl2 : Array (Option Value)) (hc : items.isEmpty = true) :
    Meets (Builtin.«tuple.__add__» ⟨[.ref l, .ref b], []⟩) (fun _ R s => s.heap.get? l = some { cls := .type "tuple", dict := dd, data := .seq items n, slots := sl } ∧
      s.heap.get? b = some { cls := .type "tuple", dict := dd2, data := .seq items2 n2, slots := sl2 } ∧ R (.ok (.ret (Value.ref b))) s) :=
  .of_wp fun prog w A R s h => by
    obtain ⟨hp, g, d, tk, os⟩ := s; obtain ⟨hl, hb, h⟩ := h
    have f2 := AutoSeq1.sub_tuple_tuple
    have hT : Shared.TypeIs ⟨hp, g, d, tk, os⟩ (.ref b) "tuple" := ⟨_, hb, rfl⟩
    wp_walk using wpAny_loadPart' hl, wpAny_loadPart' hb, wpAny_typeOf hT
    exact ⟨_, rfl, h⟩
theorem op_catT0 : OpR X (binaryOp .Add) (fun x y H Q => ∃ a b ys, x = .ref a ∧ y = .ref b ∧ SqT X.K H a [] ∧ SqT X.K H b ys ∧ Q (.ref b) H) := by
  intro pins s σ H x y v u Q I rx ry h
  obtain ⟨a, b, ys, rfl, rfl, ha, hb, q⟩ := h
  cases rx
  cases ry
  obtain ⟨its, r1, p1, _⟩ := I.tuple ha
  obtain ⟨its2, r2, p2, _⟩ := I.tuple hb
  cases r1
  obtain ⟨⟨cls, dd, data, sl⟩, ho, hc, n, hd⟩ := id p1
  obtain ⟨⟨cls2, dd2, data2, sl2⟩, ho2, hc2, n2, hd2⟩ := id p2
  simp only at hc hd hc2 hd2
  subst hc hd hc2 hd2
  exact concat_meets ⟨_, ho, rfl⟩ ⟨_, ho2, rfl⟩ noFill_tuple_add seq_tuple_add PySem.F.slot_tuple_add PySem.F.entry_tuple_add (PySem.F.args_tuple_add_2 _ _)
    (tadd_empty a b _ _ n n2 dd dd2 sl sl2 rfl) ⟨ho, ho2, ⟨.ref b, H, I, rfl, q⟩⟩
end
end HI

set_option maxRecDepth 100000
set_option maxHeartbeats 4000000
/-! walks over pairs: enumerate, zip of two, of three; each a list or a tuple -/
namespace HI
open PySem PySem.Spec PyProof.Rows L2

/-- a list (false), a tuple (true) -/
def SqB (t : Bool) (K : PySem.W.Frag) (H : Hp) (a : Addr) (xs : List V) : Prop := match t with | true => SqT K H a xs | false => SqL K H a xs
def ItB (t : Bool) (h : Heap) (it a : Addr) (i : Nat) : Prop := match t with | true => h.IsTupleIter it a i | false => h.IsListIter it a i
def HvB (t : Bool) (h : Heap) (a : Addr) (its : Array Value) : Prop := match t with | true => h.IsTuple a its | false => h.IsList a its
def oB (t : Bool) (a : Addr) : Obj := match t with
  | true => { cls := .type "tuple_iterator", data := .fields #[.ref a, .int 0 0] }
  | false => { cls := .type "list_iterator", data := .fields #[.ref a, .int 0 0] }
theorem ItB.at {t : Bool} {h h' : Heap} {it a : Addr} {i : Nat} (z : ItB t h it a i) (k : ∀ o, h.get? it = some o → h'.get? it = some o) : ItB t h' it a i := by
  cases t with
  | true => exact Heap.IsTupleIter.at z k
  | false => exact Heap.IsListIter.at z k
theorem ItB.obj {t : Bool} {h : Heap} {it a : Addr} {i : Nat} (z : ItB t h it a i) : ∃ o, h.get? it = some o ∧ ∀ v, o.data ≠ .cell v := by
  cases t with
  | true => obtain ⟨o, e, _, d⟩ := z; exact ⟨o, e, fun v q => by rw [d] at q; cases q⟩
  | false => obtain ⟨o, e, _, d⟩ := z; exact ⟨o, e, fun v q => by rw [d] at q; cases q⟩
theorem ItB.of {t : Bool} {h : Heap} {it a : Addr} (e : h.get? it = some (oB t a)) : ItB t h it a 0 := by
  cases t with
  | true => exact ⟨_, e, rfl, rfl⟩
  | false => exact ⟨_, e, rfl, rfl⟩
theorem beginsB (t : Bool) (a : Addr) (items : Array Value) : Begins (.ref a) (oB t a) fun h => HvB t h a items := by
  cases t with
  | true => exact begins_tuple a items
  | false => exact begins_list a items
theorem drawsB {prog : Program} {w : World} {A : Around} (hh : A.handled = none) (t : Bool) (it a : Addr) (hne : a ≠ it) (items : Array Value) :
    Draws prog w A it [it, a] items.size (fun i v => items[i]? = some v) (fun i h => ItB t h it a i ∧ HvB t h a items) := by
  cases t with
  | true => exact Draws.tuple hh it a hne items
  | false => exact Draws.list hh it a hne items
section
variable {X : Cx} {pins : List (Addr × Obj)} {σ : L2.St} {H : Hp} {s : Shared}
theorem inv_sqB (I : Inv X pins σ H s) {t : Bool} {a : Addr} {xs : List V} (q : SqB t X.K H a xs) : ∃ its : List Value, Vals xs its ∧ HvB t s.heap a its.toArray ∧ a < s.heap.objs.size := by
  cases t with
  | true =>
    obtain ⟨its, rv, p, hz⟩ := I.tuple q
    obtain ⟨o, ho, _⟩ := id (show s.heap.IsTuple a its.toArray from p)
    exact ⟨its, rv, p, Heap.lt_size ho⟩
  | false =>
    obtain ⟨its, rv, p, hz⟩ := I.list q
    exact ⟨its, rv, p.isList, p.lt⟩
theorem inv_sqB_inj (I : Inv X pins σ H s) {t : Bool} {a : Addr} {xs ys : List V} (q : SqB t X.K H a xs) (q2 : SqB t X.K H a ys) : xs = ys := by
  cases t with
  | true => exact I.tuple_inj q q2
  | false => exact I.list_inj q q2
end

/-! ### enumerate -/
def IteB (K : PySem.W.Frag) (t : Bool) (a : Addr) : L2.It :=
  ⟨fun i H => ∃ (xs : List V) (x : V), SqB t K H a xs ∧ xs[i]? = some x, fun i H v H' => ∃ T x, v = .ref T ∧ H T = none ∧ H' = upd H T (.tup [.int (i : Nat), x]) ∧ ∀ xs, SqB t K H a xs → xs[i]? = some x, fun i H => ∃ xs : List V, SqB t K H a xs ∧ xs.length ≤ i⟩
theorem turn_enumB {P : Program} {w : World} {K : PySem.W.Frag} {elts : List Expr} {kk : Nat} {tpos : Pos} (t : Bool) (a e it : Addr) (hae : e ≠ a) (hai : a ≠ it) (hei : e ≠ it) :
    Turn P w K (.Tuple elts kk tpos) (IteB K t a) [e, it] e (fun i h => (∃ old, IsEnum h e it ((i : Nat) : Int) old) ∧ ItB t h it a i) where
  mem := by simp
  obj := fun i h st b hb => by
    obtain ⟨⟨old, he⟩, hi⟩ := st
    have e' : b = e ∨ b = it := by simpa using hb
    rcases e' with z | z
    · rw [z]; exact ⟨_, he, fun v q => nomatch q⟩
    · rw [z]; exact hi.obj
  keep := fun i h h' st k => let ⟨⟨old, he⟩, hi⟩ := st; ⟨⟨old, k e (by simp) _ he⟩, hi.at fun o q => k it (by simp) o q⟩
  item := by
    intro X hP hw hK hc i pins s σ H E I hf st hg
    subst hP hw hK
    obtain ⟨⟨old, he⟩, hit⟩ := st
    obtain ⟨xs, x, hq, hx⟩ := hg
    obtain ⟨its, rv, p, _⟩ := inv_sqB I hq
    obtain ⟨u, hu, ru⟩ := rv.get hx
    have hu' : its.toArray[i]? = some u := by simpa using hu
    have hlt : i < its.toArray.size := (Array.getElem?_eq_some_iff.mp hu').1
    have hel : e < s.heap.objs.size := Heap.lt_size he
    have hil : it < s.heap.objs.size := by obtain ⟨_, q, _⟩ := hit.obj; exact Heap.lt_size q
    have D := drawsB (prog := X.prog) (w := X.w) (A := X.A.in1) (I.ok.hd hc) t it a hai its.toArray
    have hef : e ∉ [it, a] := by
      intro z
      have z' : e = it ∨ e = a := by simpa using z
      rcases z' with z | z
      · exact hei z
      · exact hae z
    refine wpAny_pyNext_enum_itemD D he ⟨hit, p⟩ hlt hei hef fun x' h' tk hp ho st' hT hsz hk => ?_
    obtain rfl : x' = u := Option.some.inj (hp.symm.trans hu')
    refine ⟨_, rfl, wpAny_letOwnedTupleGo_enum (s := { s with heap := h', toks := tk + 1 }) ho fun h'' he' sb => ?_⟩
    have hT2 : h''.get? s.heap.objs.size = some { cls := .type "tuple", data := .seq #[.int i tk, x'] } := (sb.2 _ (Nat.ne_of_gt hel)).trans hT
    have new : ObjOk X.prog X.w (upd H s.heap.objs.size (.tup [.int (i : Nat), x])) h'' s.heap.objs.size (.tup [.int (i : Nat), x]) :=
      ⟨by show 2 ≤ sizeLine; decide, [.int i tk, x'], .cons ⟨_, rfl⟩ (.cons ru .nil), ⟨_, hT2, rfl, _, rfl⟩⟩
    have I1 : Inv X pins σ (upd H s.heap.objs.size (.tup [.int (i : Nat), x])) { s with heap := h'', toks := tk + 1 } :=
      I.turnedNew (ch := [e, it]) (fun b ob hb q => (sb.2 b (fun z => hb (by simp [z]))).trans (hk b ob (fun z => hb (by simp [z])) (fun z => hb (by simp [z])) q)) hf (Nat.le_refl _) new
    refine ⟨.ref s.heap.objs.size, _, I1, rfl, ⟨_, x, rfl, I.hok.fresh (Nat.le_refl _), rfl, fun ys hy => by rw [inv_sqB_inj I hy hq]; exact hx⟩, ⟨⟨x', ?_⟩, st'.1.at fun o q => (sb.2 it (Ne.symm hei)).trans q⟩, fun b hb => ?_⟩
    · have e1 : ((i + 1 : Nat) : Int) = (i : Int) + 1 := by omega
      rw [e1]; exact he'
    · have hb' : b < s.heap.objs.size := by
        have e' : b = e ∨ b = it := by simpa using hb
        rcases e' with z | z
        · rw [z]; exact hel
        · rw [z]; exact hil
      rw [upd_ne (Nat.ne_of_lt hb')]
      exact (hf b hb).1
  done := by
    intro X hP hw hK hc i pins s σ H E I hf st hg
    subst hP hw hK
    obtain ⟨⟨old, he⟩, hit⟩ := st
    obtain ⟨xs, hq, hx⟩ := hg
    obtain ⟨its, rv, p, _⟩ := inv_sqB I hq
    obtain ⟨f0, f1, f2, f3, f4, f5⟩ := hf it (by simp)
    have hl := rv.length
    have hn : its.toArray[i]? = none := by simp; omega
    cases t with
    | true =>
      have hT : s.TypeIs (.ref e) "enumerate" := ⟨_, he, rfl⟩
      unfold pyNext
      refine wpAny_bind (wpAny_attempt (wpAny_callSpecial?_slot (name := Str.ofString "__next__") hT F.slot_enumerate_next
        (wpAny_call_entry F.slot_enumerate_next hT F.entry_enumerate_next ?_ (F.args_enumerate_next_1 _))))
      show wpAny _ _ (field (.ref e) 2 >>= _) _ _ _
      refine wpAny_bind (wpAny_field he rfl (x := .ref it) rfl ?_)
      refine wpAny_bind (PySem.wpAny_nextOf_tuple_end (I.ok.hd hc) hit p hn fun h' x he' hx' => ?_)
      obtain ⟨o, ho, hc⟩ := hx'
      refine wpAny_bind (wpAny_isInstance (T := "StopIteration") (b := true) ⟨o, ho, hc⟩ isSubtype_stop ?_)
      exact wpAny_pure ⟨rfl, I.turned (t' := s.toks) (fun b o hb q => he' b o hb q) f0 f1 f3 f4 f5⟩
    | false => exact wpAny_pyNext_enum_end (I.ok.hd hc) he hit p hn fun h' eb => ⟨rfl, I.turned (t' := s.toks) (fun b o hb q => eb b o hb q) f0 f1 f3 f4 f5⟩
  self := fun A i s Q E st h => let ⟨⟨_, he⟩, _⟩ := st; wpAny_pyIter_enum he h

theorem meets_enumerate_newT (l : Addr) (items : Array Value) :
    Meets (Builtin.«enumerate.__new__» ⟨[.type "enumerate", .ref l], []⟩) (fun _ R s => s.heap.IsTuple l items ∧
      R (.ok (.ret (.ref (s.heap.push { cls := .type "tuple_iterator", data := .fields #[.ref l, .int 0 0] }).objs.size)))
        { s with heap := (s.heap.push { cls := .type "tuple_iterator", data := .fields #[.ref l, .int 0 0] }).push { cls := .type "enumerate", data := .fields #[.none, .bool false, .ref s.heap.objs.size, rawInt 0, .none, .none] } }) :=
  .of_wp fun prog w A R s h => by
    obtain ⟨hp, g, d, tk, os⟩ := s; obtain ⟨hl, h⟩ := h
    have hsub := sub_enumerate
    have hL : Heap.IsTuple (Shared.heap ⟨hp, g, d, tk, os⟩) l items := hl
    obtain ⟨ol, hol, _⟩ := id hl
    wp_walk using wpAny_pyIter_tuple hL
    refine wpAny_stack_any fun st => wpAny_pure ?_
    split
    · rename_i c _ _ _ _ _
      cases (c == Value.type "enumerate")
      · wp_walk using wpAny_pyIter_tuple hL
        exact ⟨_, rfl, h⟩
      · wp_walk using wpAny_pyIter_tuple hL
        exact ⟨_, rfl, h⟩
    · wp_walk using wpAny_pyIter_tuple hL
      exact ⟨_, rfl, h⟩
theorem call_enumerateB {prog : Program} {w : World} {A : Around} {E : Value → Shared → Prop} {s : Shared} {t : Bool} {l : Addr} {items : Array Value} {Q : Value → Shared → Prop} (hL : HvB t s.heap l items)
    (h : ∀ h', IsEnum h' (s.heap.objs.size + 1) s.heap.objs.size 0 .none → ItB t h' s.heap.objs.size l 0 →
      (∀ b o, s.heap.get? b = some o → h'.get? b = some o) → Q (.ref (s.heap.objs.size + 1)) { s with heap := h' }) :
    wpAny (model prog w) A (call (.type "enumerate") [.ref l]) Q E s := by
  cases t with
  | false => exact call_enumerate_list hL fun h' a b _ d => h h' a b d
  | true =>
    refine callType_new F.called_enumerate (by decide) (F.typeCall_enumerate_1 _) (F.newCall_enumerate_1 _) (fun obj => F.args_object_init_2 obj _) F.entry_enumerate_new
      (meets_enumerate_newT l items) ⟨hL, ?_⟩
    have hz : (s.heap.push { cls := .type "tuple_iterator", data := .fields #[.ref l, .int 0 0] }).objs.size = s.heap.objs.size + 1 := Heap.size_push ..
    show _ ∧ _
    rw [hz]
    have he : IsEnum ((s.heap.push { cls := .type "tuple_iterator", data := .fields #[.ref l, .int 0 0] }).push
        { cls := .type "enumerate", data := .fields #[.none, .bool false, .ref s.heap.objs.size, rawInt 0, .none, .none] }) (s.heap.objs.size + 1) s.heap.objs.size 0 .none := by
      have := Heap.get?_push_size (s.heap.push { cls := .type "tuple_iterator", data := .fields #[.ref l, .int 0 0] })
        (o := { cls := .type "enumerate", data := .fields #[.none, .bool false, .ref s.heap.objs.size, rawInt 0, .none, .none] }) rfl
      rw [hz] at this; exact this
    exact ⟨⟨_, he, rfl⟩, h _ he ⟨_, Heap.get?_push_of_some _ (Heap.get?_push_size _ rfl), rfl, rfl⟩ fun b o x => Heap.get?_push_of_some _ (Heap.get?_push_of_some _ x)⟩
def iEnumB (K : PySem.W.Frag) (ta : TA) : TI := fun σ H R => ta σ H fun vs H1 => ∃ t a xs, vs = [.ref a] ∧ SqB t K H1 a xs ∧ R (IteB K t a) H1
theorem pi_enumB {X : Cx} {e : Expr} {ta : TA} {p pos tpos : Pos} {elts : List Expr} {kk : Nat} (hg : Gl X "enumerate") (hm : X.mg "enumerate" = none) (ha : PA X [e] ta) (hs : starEach [e] X.env = [(false, eval e X.env)] := by rfl) :
    PI X (.Tuple elts kk tpos) (.Call (.Name "enumerate" p) [e] [] pos) (iEnumB X.K ta) := by
  refine ⟨fun pins s σ H R I h => ?_⟩
  refine Call_ (ld_blt I hg hm boot_enumerate (PyProof.Rows.callWith_type1 (thn (ha.run pos pins s σ H _ I h) fun us s1 ⟨vs, H1, I1, r1, q1⟩ => ?_) hs rfl))
  obtain ⟨t, a, xs, ex, hq, q⟩ := q1
  subst ex
  cases r1 with
  | cons r rr =>
    cases rr
    cases r
    obtain ⟨its, rv, p', ha⟩ := inv_sqB I1 hq
    refine call_enumerateB p' fun h' he hit hk => wpAny_pyIter_enum he ?_
    have I2 : Inv X pins σ H1 { s1 with heap := h' } := I1.kept (t' := s1.toks) hk
    refine ⟨s1.heap.objs.size + 1, [s1.heap.objs.size + 1, s1.heap.objs.size], _, _, H1, rfl, I2, turn_enumB t a (s1.heap.objs.size + 1) s1.heap.objs.size (Nat.ne_of_gt (Nat.lt_succ_of_lt ha)) (Nat.ne_of_lt ha) (Nat.succ_ne_self _), ⟨⟨.none, he⟩, hit⟩, fun b hb => ?_, q⟩
    have e' : b = s1.heap.objs.size + 1 ∨ b = s1.heap.objs.size := by simpa using hb
    have hle : s1.heap.objs.size ≤ b := by
      rcases e' with z | z
      · rw [z]; exact Nat.le_add_right _ _
      · rw [z]; exact Nat.le_refl _
    exact I1.fpOk hle (I1.hok.fresh hle)
end HI

set_option maxRecDepth 100000
set_option maxHeartbeats 4000000
namespace HI
open PySem PySem.Spec PyProof.Rows L2

/-! ### zip of two -/
def Itz2 (K : PySem.W.Frag) (t1 t2 : Bool) (a b : Addr) : L2.It :=
  ⟨fun i H => ∃ (xs ys : List V) (x y : V), SqB t1 K H a xs ∧ SqB t2 K H b ys ∧ xs[i]? = some x ∧ ys[i]? = some y,
    fun i H v H' => ∃ T x y, v = .ref T ∧ H T = none ∧ H' = upd H T (.tup [x, y]) ∧ (∀ xs, SqB t1 K H a xs → xs[i]? = some x) ∧ ∀ ys, SqB t2 K H b ys → ys[i]? = some y,
    fun i H => ∃ xs ys : List V, SqB t1 K H a xs ∧ SqB t2 K H b ys ∧ i ≤ xs.length ∧ i ≤ ys.length ∧ (i = xs.length ∨ i = ys.length)⟩
theorem turn_zip2 {P : Program} {w : World} {K : PySem.W.Frag} {elts : List Expr} {kk : Nat} {tpos : Pos} {t1 t2 : Bool} {a b z TI TO i1 i2 : Addr} (D : ZipSep2 z TI TO i1 i2 [i1, a] [i2, b]) (ha : a ≠ i1) (hb : b ≠ i2) :
    Turn P w K (.Tuple elts kk tpos) (Itz2 K t1 t2 a b) [z, TI, TO, i1, i2] z (fun i h => IsZip h z TI TO .none ∧ IsTupOf2 h TI (.ref i1) (.ref i2) ∧ (∃ x y, IsTupOf2 h TO x y) ∧ ItB t1 h i1 a i ∧ ItB t2 h i2 b i) where
  mem := by simp
  obj := fun i h st c hc => by
    obtain ⟨hz, hTI, ⟨x, y, hTO⟩, h1, h2⟩ := st
    have e' : c = z ∨ c = TI ∨ c = TO ∨ c = i1 ∨ c = i2 := by simpa using hc
    rcases e' with q | q | q | q | q
    · rw [q]; exact ⟨_, hz, fun v q => nomatch q⟩
    · rw [q]; exact ⟨_, hTI, fun v q => nomatch q⟩
    · rw [q]; exact ⟨_, hTO, fun v q => nomatch q⟩
    · rw [q]; exact h1.obj
    · rw [q]; exact h2.obj
  keep := fun i h h' st k => by
    obtain ⟨hz, hTI, ⟨x, y, hTO⟩, h1, h2⟩ := st
    exact ⟨k z (by simp) _ hz, k TI (by simp) _ hTI, ⟨x, y, k TO (by simp) _ hTO⟩, h1.at fun o q => k i1 (by simp) o q, h2.at fun o q => k i2 (by simp) o q⟩
  item := by
    intro X hP hw hK hc i pins s σ H E I hf st hg
    subst hP hw hK
    obtain ⟨hz, hTI, ⟨x0, y0, hTO⟩, h1, h2⟩ := st
    obtain ⟨xs, ys, x, y, hqx, hqy, hx, hy⟩ := hg
    obtain ⟨its, rv, p, _⟩ := inv_sqB I hqx
    obtain ⟨its2, rv2, p2, _⟩ := inv_sqB I hqy
    obtain ⟨u, hu, ru⟩ := rv.get hx
    obtain ⟨u2, hu2, ru2⟩ := rv2.get hy
    have hu' : its.toArray[i]? = some u := by simpa using hu
    have hu2' : its2.toArray[i]? = some u2 := by simpa using hu2
    have hzl : z < s.heap.objs.size := Heap.lt_size hz
    have D1 := drawsB (prog := X.prog) (w := X.w) (A := X.A.in1) (I.ok.hd hc) t1 i1 a ha its.toArray
    have D2 := drawsB (prog := X.prog) (w := X.w) (A := X.A.in1) (I.ok.hd hc) t2 i2 b hb its2.toArray
    refine wpAny_pyNext_zipD2_item D D1 D2 hz hTI hTO ⟨h1, p⟩ ⟨h2, p2⟩ (Array.getElem?_eq_some_iff.mp hu').1 (Array.getElem?_eq_some_iff.mp hu2').1 fun x1 x2 h' tk y1 y2 z' TO' s1 s2 hT hsz hk => ?_
    obtain rfl : x1 = u := Option.some.inj (y1.symm.trans hu')
    obtain rfl : x2 = u2 := Option.some.inj (y2.symm.trans hu2')
    refine ⟨_, rfl, wpAny_letOwnedTupleGo_zip (s := { s with heap := h', toks := tk }) z' fun h'' z'' sb => ?_⟩
    have hT2 : h''.get? s.heap.objs.size = some { cls := .type "tuple", data := .seq #[x1, x2] } := (sb.2 _ (Nat.ne_of_gt hzl)).trans hT
    have new : ObjOk X.prog X.w (upd H s.heap.objs.size (.tup [x, y])) h'' s.heap.objs.size (.tup [x, y]) :=
      ⟨by show 2 ≤ sizeLine; decide, [x1, x2], .cons ru (.cons ru2 .nil), ⟨_, hT2, rfl, _, rfl⟩⟩
    have I1 : Inv X pins σ (upd H s.heap.objs.size (.tup [x, y])) { s with heap := h'', toks := tk } :=
      I.turnedNew (t' := tk) (ch := [z, TI, TO, i1, i2]) (fun c o hb q => (sb.2 c (fun q' => hb (by simp [q']))).trans (hk c o (fun q' => hb (by simp [q'])) (fun q' => hb (by simp [q'])) (fun q' => hb (by simp [q'])) (fun q' => hb (by simp [q'])) q)) hf (Nat.le_refl _) new
    refine ⟨.ref s.heap.objs.size, _, I1, rfl, ⟨_, x, y, rfl, I.hok.fresh (Nat.le_refl _), rfl, fun l hl => by rw [inv_sqB_inj I hl hqx]; exact hx, fun l hl => by rw [inv_sqB_inj I hl hqy]; exact hy⟩, ⟨z'', ?_, ⟨x1, x2, ?_⟩, ?_, ?_⟩, fun c hcm => ?_⟩
    · exact (sb.2 _ D.TIz).trans (hk _ _ D.TIz D.TITO D.TIi1 D.TIi2 hTI)
    · exact (sb.2 _ D.TOz).trans TO'
    · exact s1.1.at fun o q => (sb.2 _ (Ne.symm D.zi1)).trans q
    · exact s2.1.at fun o q => (sb.2 _ (Ne.symm D.zi2)).trans q
    · have hlt : c < s.heap.objs.size := by
        have e' : c = z ∨ c = TI ∨ c = TO ∨ c = i1 ∨ c = i2 := by simpa using hcm
        rcases e' with q | q | q | q | q
        · rw [q]; exact hzl
        · rw [q]; exact Heap.lt_size hTI
        · rw [q]; exact Heap.lt_size hTO
        · rw [q]; obtain ⟨_, e1, _⟩ := h1.obj; exact Heap.lt_size e1
        · rw [q]; obtain ⟨_, e2, _⟩ := h2.obj; exact Heap.lt_size e2
      rw [upd_ne (Nat.ne_of_lt hlt)]
      exact (hf c hcm).1
  done := by
    intro X hP hw hK hc i pins s σ H E I hf st hg
    subst hP hw hK
    obtain ⟨hz, hTI, ⟨x0, y0, hTO⟩, h1, h2⟩ := st
    obtain ⟨xs, ys, hqx, hqy, hl1, hl2, hend⟩ := hg
    obtain ⟨its, rv, p, _⟩ := inv_sqB I hqx
    obtain ⟨its2, rv2, p2, _⟩ := inv_sqB I hqy
    have e1 : its.toArray.size = xs.length := by rw [rv.length]; simp
    have e2 : its2.toArray.size = ys.length := by rw [rv2.length]; simp
    have D1 := drawsB (prog := X.prog) (w := X.w) (A := X.A.in1) (I.ok.hd hc) t1 i1 a ha its.toArray
    have D2 := drawsB (prog := X.prog) (w := X.w) (A := X.A.in1) (I.ok.hd hc) t2 i2 b hb its2.toArray
    exact wpAny_pyNext_zipD2_end D D1 D2 hz hTI hTO ⟨h1, p⟩ ⟨h2, p2⟩ (by rw [e1]; exact hl1) (by rw [e2]; exact hl2) (by rw [e1, e2]; exact hend) fun h' tk hk => ⟨rfl, I.turnedL (t' := tk) (ch := [z, TI, TO, i1, i2]) (fun c o hb q =>
      hk c o (fun q' => hb (by simp [q'])) (fun q' => hb (by simp [q'])) (fun q' => hb (by simp [q'])) (fun q' => hb (by simp [q'])) q) hf⟩
  self := fun A i s Q E st h => wpAny_pyIter_zip st.1 h
def iZip2 (K : PySem.W.Frag) (ta : TA) : TI := fun σ H R => ta σ H fun vs H1 => ∃ t1 t2 a b xs ys, vs = [.ref a, .ref b] ∧ SqB t1 K H1 a xs ∧ SqB t2 K H1 b ys ∧ R (Itz2 K t1 t2 a b) H1
theorem pi_zip2 {X : Cx} {e e2 : Expr} {ta : TA} {p pos tpos : Pos} {elts : List Expr} {kk : Nat} (hg : Gl X "zip") (hm : X.mg "zip" = none) (ha : PA X [e, e2] ta)
    (hs : starEach [e, e2] X.env = (false, eval e X.env) :: starEach [e2] X.env := by rfl) (hpl : (backTo pos (starEach [e2] X.env)).any (·.1) = false := by rfl) :
    PI X (.Tuple elts kk tpos) (.Call (.Name "zip" p) [e, e2] [] pos) (iZip2 X.K ta) := by
  refine ⟨fun pins s σ H R I h => ?_⟩
  refine Call_ (ld_blt I hg hm PyProof.Rows.boot_zip (PyProof.Rows.callWith_type1 (thn (ha.run pos pins s σ H _ I h) fun us s1 ⟨vs, H1, I1, r1, q1⟩ => ?_) hs hpl))
  obtain ⟨t1, t2, a, b, xs, ys, ex, hqx, hqy, q⟩ := q1
  subst ex
  cases r1 with
  | cons r rr =>
    cases rr with
    | cons r' rr =>
      cases rr
      cases r
      cases r'
      obtain ⟨its, rv, p1, la⟩ := inv_sqB I1 hqx
      obtain ⟨its2, rv2, p2, lb⟩ := inv_sqB I1 hqy
      refine zip_begins2 (beginsB t1 a its.toArray) (beginsB t2 b its2.toArray) p1 p2 fun h' hz hTI hTO h1 h2 hsz hk => wpAny_pyIter_zip hz ?_
      have I2 : Inv X pins σ H1 { s1 with heap := h' } := I1.kept (t' := s1.toks) hk
      have S := zip_sep2 (N := s1.heap.objs.size) (fp1 := [a]) (fp2 := [b]) (fun c hc => by rw [List.mem_singleton.mp hc]; exact la) (fun c hc => by rw [List.mem_singleton.mp hc]; exact lb)
      refine ⟨s1.heap.objs.size + 4, [s1.heap.objs.size + 4, s1.heap.objs.size + 2, s1.heap.objs.size + 3, s1.heap.objs.size, s1.heap.objs.size + 1], _, _, H1, rfl, I2, turn_zip2 S (Nat.ne_of_lt la) (Nat.ne_of_lt (Nat.lt_succ_of_lt lb)), ⟨hz, hTI, ⟨_, _, hTO⟩, ItB.of h1, ItB.of h2⟩, fun c hcm => ?_, q⟩
      have e' : c = s1.heap.objs.size + 4 ∨ c = s1.heap.objs.size + 2 ∨ c = s1.heap.objs.size + 3 ∨ c = s1.heap.objs.size ∨ c = s1.heap.objs.size + 1 := by simpa using hcm
      have hle : s1.heap.objs.size ≤ c := by
        rcases e' with z | z | z | z | z
        · rw [z]; exact Nat.le_add_right _ _
        · rw [z]; exact Nat.le_add_right _ _
        · rw [z]; exact Nat.le_add_right _ _
        · rw [z]; exact Nat.le_refl _
        · rw [z]; exact Nat.le_add_right _ _
      exact I1.fpOk hle (I1.hok.fresh hle)

/-! ### zip of three -/
def Itz3 (K : PySem.W.Frag) (t1 t2 t3 : Bool) (a b c : Addr) : L2.It :=
  ⟨fun i H => ∃ (xs ys zs : List V) (x y z : V), SqB t1 K H a xs ∧ SqB t2 K H b ys ∧ SqB t3 K H c zs ∧ xs[i]? = some x ∧ ys[i]? = some y ∧ zs[i]? = some z,
    fun i H v H' => ∃ T x y z, v = .ref T ∧ H T = none ∧ H' = upd H T (.tup [x, y, z]) ∧ (∀ xs, SqB t1 K H a xs → xs[i]? = some x) ∧ (∀ ys, SqB t2 K H b ys → ys[i]? = some y) ∧ ∀ zs, SqB t3 K H c zs → zs[i]? = some z,
    fun i H => ∃ xs ys zs : List V, SqB t1 K H a xs ∧ SqB t2 K H b ys ∧ SqB t3 K H c zs ∧ i ≤ xs.length ∧ i ≤ ys.length ∧ i ≤ zs.length ∧ (i = xs.length ∨ i = ys.length ∨ i = zs.length)⟩
theorem turn_zip3 {P : Program} {w : World} {K : PySem.W.Frag} {elts : List Expr} {kk : Nat} {tpos : Pos} {t1 t2 t3 : Bool} {a b c z TI TO i1 i2 i3 : Addr} (D : ZipSep3 z TI TO i1 i2 i3 [i1, a] [i2, b] [i3, c]) (ha : a ≠ i1) (hb : b ≠ i2) (hc3 : c ≠ i3) :
    Turn P w K (.Tuple elts kk tpos) (Itz3 K t1 t2 t3 a b c) [z, TI, TO, i1, i2, i3] z (fun i h => IsZip h z TI TO .none ∧ IsTupOf3 h TI (.ref i1) (.ref i2) (.ref i3) ∧ (∃ x y u, IsTupOf3 h TO x y u) ∧ ItB t1 h i1 a i ∧ ItB t2 h i2 b i ∧ ItB t3 h i3 c i) where
  mem := by simp
  obj := fun i h st d hd => by
    obtain ⟨hz, hTI, ⟨x, y, u, hTO⟩, h1, h2, h3⟩ := st
    have e' : d = z ∨ d = TI ∨ d = TO ∨ d = i1 ∨ d = i2 ∨ d = i3 := by simpa using hd
    rcases e' with q | q | q | q | q | q
    · rw [q]; exact ⟨_, hz, fun v q => nomatch q⟩
    · rw [q]; exact ⟨_, hTI, fun v q => nomatch q⟩
    · rw [q]; exact ⟨_, hTO, fun v q => nomatch q⟩
    · rw [q]; exact h1.obj
    · rw [q]; exact h2.obj
    · rw [q]; exact h3.obj
  keep := fun i h h' st k => by
    obtain ⟨hz, hTI, ⟨x, y, u, hTO⟩, h1, h2, h3⟩ := st
    exact ⟨k z (by simp) _ hz, k TI (by simp) _ hTI, ⟨x, y, u, k TO (by simp) _ hTO⟩, h1.at fun o q => k i1 (by simp) o q, h2.at fun o q => k i2 (by simp) o q, h3.at fun o q => k i3 (by simp) o q⟩
  item := by
    intro X hP hw hK hc i pins s σ H E I hf st hg
    subst hP hw hK
    obtain ⟨hz, hTI, ⟨x0, y0, u0, hTO⟩, h1, h2, h3⟩ := st
    obtain ⟨xs, ys, zs, x, y, v, hqx, hqy, hqz, hx, hy, hv⟩ := hg
    obtain ⟨its, rv, p, _⟩ := inv_sqB I hqx
    obtain ⟨its2, rv2, p2, _⟩ := inv_sqB I hqy
    obtain ⟨its3, rv3, p3, _⟩ := inv_sqB I hqz
    obtain ⟨u, hu, ru⟩ := rv.get hx
    obtain ⟨u2, hu2, ru2⟩ := rv2.get hy
    obtain ⟨u3, hu3, ru3⟩ := rv3.get hv
    have hu' : its.toArray[i]? = some u := by simpa using hu
    have hu2' : its2.toArray[i]? = some u2 := by simpa using hu2
    have hu3' : its3.toArray[i]? = some u3 := by simpa using hu3
    have hzl : z < s.heap.objs.size := Heap.lt_size hz
    have D1 := drawsB (prog := X.prog) (w := X.w) (A := X.A.in1) (I.ok.hd hc) t1 i1 a ha its.toArray
    have D2 := drawsB (prog := X.prog) (w := X.w) (A := X.A.in1) (I.ok.hd hc) t2 i2 b hb its2.toArray
    have D3 := drawsB (prog := X.prog) (w := X.w) (A := X.A.in1) (I.ok.hd hc) t3 i3 c hc3 its3.toArray
    refine wpAny_pyNext_zipD3_item D D1 D2 D3 hz hTI hTO ⟨h1, p⟩ ⟨h2, p2⟩ ⟨h3, p3⟩ (Array.getElem?_eq_some_iff.mp hu').1 (Array.getElem?_eq_some_iff.mp hu2').1 (Array.getElem?_eq_some_iff.mp hu3').1 fun x1 x2 x3 h' tk y1 y2 y3 z' TO' s1 s2 s3 hT hsz hk => ?_
    obtain rfl : x1 = u := Option.some.inj (y1.symm.trans hu')
    obtain rfl : x2 = u2 := Option.some.inj (y2.symm.trans hu2')
    obtain rfl : x3 = u3 := Option.some.inj (y3.symm.trans hu3')
    refine ⟨_, rfl, wpAny_letOwnedTupleGo_zip (s := { s with heap := h', toks := tk }) z' fun h'' z'' sb => ?_⟩
    have hT2 : h''.get? s.heap.objs.size = some { cls := .type "tuple", data := .seq #[x1, x2, x3] } := (sb.2 _ (Nat.ne_of_gt hzl)).trans hT
    have new : ObjOk X.prog X.w (upd H s.heap.objs.size (.tup [x, y, v])) h'' s.heap.objs.size (.tup [x, y, v]) :=
      ⟨by show 3 ≤ sizeLine; decide, [x1, x2, x3], .cons ru (.cons ru2 (.cons ru3 .nil)), ⟨_, hT2, rfl, _, rfl⟩⟩
    have I1 : Inv X pins σ (upd H s.heap.objs.size (.tup [x, y, v])) { s with heap := h'', toks := tk } :=
      I.turnedNew (t' := tk) (ch := [z, TI, TO, i1, i2, i3]) (fun c o hb q => (sb.2 c (fun q' => hb (by simp [q']))).trans (hk c o (fun q' => hb (by simp [q'])) (fun q' => hb (by simp [q'])) (fun q' => hb (by simp [q'])) (fun q' => hb (by simp [q'])) (fun q' => hb (by simp [q'])) q)) hf (Nat.le_refl _) new
    refine ⟨.ref s.heap.objs.size, _, I1, rfl, ⟨_, x, y, v, rfl, I.hok.fresh (Nat.le_refl _), rfl, fun l hl => by rw [inv_sqB_inj I hl hqx]; exact hx, fun l hl => by rw [inv_sqB_inj I hl hqy]; exact hy, fun l hl => by rw [inv_sqB_inj I hl hqz]; exact hv⟩, ⟨z'', ?_, ⟨x1, x2, x3, ?_⟩, ?_, ?_, ?_⟩, fun c hcm => ?_⟩
    · exact (sb.2 _ D.TIz).trans (hk _ _ D.TIz D.TITO D.TIi1 D.TIi2 D.TIi3 hTI)
    · exact (sb.2 _ D.TOz).trans TO'
    · exact s1.1.at fun o q => (sb.2 _ (Ne.symm D.zi1)).trans q
    · exact s2.1.at fun o q => (sb.2 _ (Ne.symm D.zi2)).trans q
    · exact s3.1.at fun o q => (sb.2 _ (Ne.symm D.zi3)).trans q
    · have hlt : c < s.heap.objs.size := by
        have e' : c = z ∨ c = TI ∨ c = TO ∨ c = i1 ∨ c = i2 ∨ c = i3 := by simpa using hcm
        rcases e' with q | q | q | q | q | q
        · rw [q]; exact hzl
        · rw [q]; exact Heap.lt_size hTI
        · rw [q]; exact Heap.lt_size hTO
        · rw [q]; obtain ⟨_, e1, _⟩ := h1.obj; exact Heap.lt_size e1
        · rw [q]; obtain ⟨_, e2, _⟩ := h2.obj; exact Heap.lt_size e2
        · rw [q]; obtain ⟨_, e2, _⟩ := h3.obj; exact Heap.lt_size e2
      rw [upd_ne (Nat.ne_of_lt hlt)]
      exact (hf c hcm).1
  done := by
    intro X hP hw hK hc i pins s σ H E I hf st hg
    subst hP hw hK
    obtain ⟨hz, hTI, ⟨x0, y0, u0, hTO⟩, h1, h2, h3⟩ := st
    obtain ⟨xs, ys, zs, hqx, hqy, hqz, hl1, hl2, hl3, hend⟩ := hg
    obtain ⟨its, rv, p, _⟩ := inv_sqB I hqx
    obtain ⟨its2, rv2, p2, _⟩ := inv_sqB I hqy
    obtain ⟨its3, rv3, p3, _⟩ := inv_sqB I hqz
    have e1 : its.toArray.size = xs.length := by rw [rv.length]; simp
    have e2 : its2.toArray.size = ys.length := by rw [rv2.length]; simp
    have e3 : its3.toArray.size = zs.length := by rw [rv3.length]; simp
    have D1 := drawsB (prog := X.prog) (w := X.w) (A := X.A.in1) (I.ok.hd hc) t1 i1 a ha its.toArray
    have D2 := drawsB (prog := X.prog) (w := X.w) (A := X.A.in1) (I.ok.hd hc) t2 i2 b hb its2.toArray
    have D3 := drawsB (prog := X.prog) (w := X.w) (A := X.A.in1) (I.ok.hd hc) t3 i3 c hc3 its3.toArray
    exact wpAny_pyNext_zipD3_end D D1 D2 D3 hz hTI hTO ⟨h1, p⟩ ⟨h2, p2⟩ ⟨h3, p3⟩ (by rw [e1]; exact hl1) (by rw [e2]; exact hl2) (by rw [e3]; exact hl3) (by rw [e1, e2, e3]; exact hend) fun h' tk hk => ⟨rfl, I.turnedL (t' := tk) (ch := [z, TI, TO, i1, i2, i3]) (fun c o hb q =>
      hk c o (fun q' => hb (by simp [q'])) (fun q' => hb (by simp [q'])) (fun q' => hb (by simp [q'])) (fun q' => hb (by simp [q'])) (fun q' => hb (by simp [q'])) q) hf⟩
  self := fun A i s Q E st h => wpAny_pyIter_zip st.1 h
def iZip3 (K : PySem.W.Frag) (ta : TA) : TI := fun σ H R => ta σ H fun vs H1 => ∃ t1 t2 t3 a b c xs ys zs, vs = [.ref a, .ref b, .ref c] ∧ SqB t1 K H1 a xs ∧ SqB t2 K H1 b ys ∧ SqB t3 K H1 c zs ∧ R (Itz3 K t1 t2 t3 a b c) H1
theorem pi_zip3 {X : Cx} {e e2 e3 : Expr} {ta : TA} {p pos tpos : Pos} {elts : List Expr} {kk : Nat} (hg : Gl X "zip") (hm : X.mg "zip" = none) (ha : PA X [e, e2, e3] ta)
    (hs : starEach [e, e2, e3] X.env = (false, eval e X.env) :: starEach [e2, e3] X.env := by rfl) (hpl : (backTo pos (starEach [e2, e3] X.env)).any (·.1) = false := by rfl) :
    PI X (.Tuple elts kk tpos) (.Call (.Name "zip" p) [e, e2, e3] [] pos) (iZip3 X.K ta) := by
  refine ⟨fun pins s σ H R I h => ?_⟩
  refine Call_ (ld_blt I hg hm PyProof.Rows.boot_zip (PyProof.Rows.callWith_type1 (thn (ha.run pos pins s σ H _ I h) fun us s1 ⟨vs, H1, I1, r1, q1⟩ => ?_) hs hpl))
  obtain ⟨t1, t2, t3, a, b, c, xs, ys, zs, ex, hqx, hqy, hqz, q⟩ := q1
  subst ex
  cases r1 with
  | cons r rr =>
    cases rr with
    | cons r' rr =>
      cases rr with
      | cons r'' rr =>
        cases rr
        cases r
        cases r'
        cases r''
        obtain ⟨its, rv, p1, la⟩ := inv_sqB I1 hqx
        obtain ⟨its2, rv2, p2, lb⟩ := inv_sqB I1 hqy
        obtain ⟨its3, rv3, p3, lc⟩ := inv_sqB I1 hqz
        refine zip_begins3 (beginsB t1 a its.toArray) (beginsB t2 b its2.toArray) (beginsB t3 c its3.toArray) p1 p2 p3 fun h' hz hTI hTO h1 h2 h3 hsz hk => wpAny_pyIter_zip hz ?_
        have I2 : Inv X pins σ H1 { s1 with heap := h' } := I1.kept (t' := s1.toks) hk
        have S := zip_sep3 (N := s1.heap.objs.size) (fp1 := [a]) (fp2 := [b]) (fp3 := [c]) (fun c hc => by rw [List.mem_singleton.mp hc]; exact la) (fun c hc => by rw [List.mem_singleton.mp hc]; exact lb) (fun c hc => by rw [List.mem_singleton.mp hc]; exact lc)
        refine ⟨s1.heap.objs.size + 5, [s1.heap.objs.size + 5, s1.heap.objs.size + 3, s1.heap.objs.size + 4, s1.heap.objs.size, s1.heap.objs.size + 1, s1.heap.objs.size + 2], _, _, H1, rfl, I2,
          turn_zip3 S (Nat.ne_of_lt la) (Nat.ne_of_lt (Nat.lt_succ_of_lt lb)) (Nat.ne_of_lt (Nat.lt_succ_of_lt (Nat.lt_succ_of_lt lc))), ⟨hz, hTI, ⟨_, _, _, hTO⟩, ItB.of h1, ItB.of h2, ItB.of h3⟩, fun d hcm => ?_, q⟩
        have e' : d = s1.heap.objs.size + 5 ∨ d = s1.heap.objs.size + 3 ∨ d = s1.heap.objs.size + 4 ∨ d = s1.heap.objs.size ∨ d = s1.heap.objs.size + 1 ∨ d = s1.heap.objs.size + 2 := by simpa using hcm
        have hle : s1.heap.objs.size ≤ d := by
          rcases e' with z | z | z | z | z | z
          · rw [z]; exact Nat.le_add_right _ _
          · rw [z]; exact Nat.le_add_right _ _
          · rw [z]; exact Nat.le_add_right _ _
          · rw [z]; exact Nat.le_refl _
          · rw [z]; exact Nat.le_add_right _ _
          · rw [z]; exact Nat.le_add_right _ _
        exact I1.fpOk hle (I1.hok.fresh hle)
end HI

/-! the small language: its terms, and what they do over a list of objects -/
namespace HI
open PySem L2

inductive Op2 | add | sub | mul | fdiv | mod | pow | shl | shr | band | eq | ne | lt | le | gt | ge | is_ | isnot | in_ | notin
  deriving DecidableEq, Repr

inductive Ob
  | lst (xs : List V) | rol (xs : List V) | tup (xs : List V) | ktup (xs : List V)
  | ins (c : Nat) (fs : List (Str × V))
  | glb (x : Str)
  deriving DecidableEq

abbrev Hh := List Ob
abbrev Ev := List (Option V)
/-- what a step comes to: a value, or an error of the program's own that flies -/
inductive Rs (α : Type) | ok (a : α) | ex (c : Nat) (fs : List (Str × V))
abbrev Mo (α : Type) := Hh → Option (Rs α × Hh)
def rt {α : Type} (a : α) : Mo α := fun h => some (.ok a, h)
def bd {α β : Type} (m : Mo α) (f : α → Mo β) : Mo β := fun h => match m h with
  | some (.ok a, h1) => f a h1
  | some (.ex c fs, h1) => some (.ex c fs, h1)
  | none => none
def no {α : Type} : Mo α := fun _ => none
def opt {α : Type} (o : Option α) : Mo α := fun h => o.map fun a => (.ok a, h)
def look {α : Type} (f : Hh → Option α) : Mo α := fun h => (f h).map fun a => (.ok a, h)

/-- a new object -/
def alloc (o : Ob) : Mo V := fun h => some (.ok (.ref h.length), h ++ [o])
/-- the items of a list, of a tuple -/
def seqL (h : Hh) (a : Nat) : Option (List V) := match h[a]? with | some (.lst xs) => some xs | some (.rol xs) => some xs | _ => none
def seqT (h : Hh) (a : Nat) : Option (List V) := match h[a]? with | some (.tup xs) => some xs | some (.ktup xs) => some xs | _ => none
def lstAt (h : Hh) (a : Nat) : Option (List V) := match h[a]? with | some (.lst xs) => some xs | _ => none

/-- the data that stand at a value, to a depth -/
def rd (h : Hh) : Nat → V → Option PyData
  | 0, _ => none
  | n + 1, v => match v with
    | .non => some .none
    | .bl b => some (.bool b)
    | .int i => some (.int i)
    | .str s => some (.str s)
    | .ref a => match seqL h a with
      | some xs => (xs.mapM (rd h n)).map .list
      | none => match seqT h a with
        | some xs => (xs.mapM (rd h n)).map .tuple
        | none => none
    | _ => none
def rdS (h : Hh) (v : V) : Option PyData := match rd h 66 v with
  | some d => if SeqAt.shaped d = true then some d else none
  | none => none

def truth (h : Hh) : V → Option Bool
  | .non => some false
  | .bl b => some b
  | .int i => some (i != 0)
  | .str y => if y.length ≤ sizeLine then some ((y.length : Int) != 0) else none
  | .ref a => match seqL h a with
    | some xs => some (!xs.isEmpty)
    | none => match seqT h a with
      | some xs => some (!xs.isEmpty)
      | none => none
  | _ => none

def intOp (o : Op2) (i j : Int) : Option V := match o with
  | .add => some (.int (i + j))
  | .sub => some (.int (i - j))
  | .mul => if i.natAbs.log2 + j.natAbs.log2 < 1000000 then some (.int (i * j)) else none
  | .fdiv => if 0 < j ∧ j.natAbs.log2 < 9000 then some (.int (i / j)) else none
  | .mod => if 0 < j then some (.int (i % j)) else none
  | .pow => if 0 ≤ j ∧ j ≤ 1000000 ∧ i.natAbs < 2 ^ 64 then some (.int (i ^ j.toNat)) else none
  | .shl => if 0 ≤ j ∧ j ≤ 1000000 ∧ i.natAbs < 2 ^ 64 then some (.int (i * 2 ^ j.toNat)) else none
  | .shr => if 0 ≤ j then some (.int (i / 2 ^ j.toNat)) else none
  | .band => some (.int (Builtin.bitAnd i j))
  | .lt => some (.bl (decide (i < j)))
  | .le => some (.bl (decide (i ≤ j)))
  | .gt => some (.bl (decide (j < i)))
  | .ge => some (.bl (decide (j ≤ i)))
  | _ => none

/-- == by data -/
def eqD (h : Hh) (x y : V) : Option Bool := match rdS h x, rdS h y with
  | some d, some e => some (PyData.eqv d e)
  | _, _ => none
def eqS : V → V → Option Bool
  | .str s, .str t => some (decide (V.str s = V.str t))
  | _, _ => none
def eqO (h : Hh) (x y : V) : Option Bool := match eqS x y with
  | some b => some b
  | none => eqD h x y
def inD (h : Hh) (x y : V) : Option Bool := match rdS h x, rdS h y with
  | some d, some (.list es) => some (es.any fun z => PyData.eqv z d)
  | _, _ => none

def catT (a b : Nat) (xs ys : List V) : Mo V :=
  if xs = [] then rt (.ref b) else if ys = [] then rt (.ref a) else
  if xs.length + ys.length ≤ sizeLine then alloc (.tup (xs ++ ys)) else no

/-- the sum of two things -/
def addO (x y : V) : Mo V := match x, y with
  | .int i, .int j => rt (.int (i + j))
  | .str s, .str t => if s.length + t.length ≤ sizeLine then rt (.str (s ++ t)) else no
  | .ref a, .ref b => fun h => match lstAt h a, lstAt h b with
    | some xs, some ys => if xs.length + ys.length ≤ sizeLine then alloc (.lst (xs ++ ys)) h else none
    | _, _ => match seqT h a, seqT h b with
      | some xs, some ys => catT a b xs ys h
      | _, _ => none
  | _, _ => no
def mulO (x y : V) : Mo V := match x, y with
  | .int i, .int j => opt (intOp .mul i j)
  | .ref a, .int k => if -(2 ^ 63) ≤ k ∧ k < 2 ^ 63 then fun h => match lstAt h a with
      | some xs => if xs.length * k.toNat ≤ sizeLine then alloc (.lst (List.replicate k.toNat xs).flatten) h else none
      | none => match seqT h a with
        | some xs => if xs.length * k.toNat ≤ sizeLine then (if xs = [] ∨ k = 1 then rt (.ref a) h else alloc (.tup (List.replicate k.toNat xs).flatten) h) else none
        | none => none
    else no
  | _, _ => no
def intO (o : Op2) (x y : V) : Mo V := match x, y with
  | .int i, .int j => opt (intOp o i j)
  | _, _ => no

/-- is, of None and of truth values -/
def isO2 (x y : V) : Option Bool := match y with
  | .non => some (decide (x = .non))
  | .bl b => match x with
    | .bl a => some (decide (a = b))
    | _ => none
  | _ => none
/-- a two-place operation -/
def op2 (o : Op2) (x y : V) : Mo V := match o with
  | .eq => look fun h => (eqO h x y).map V.bl
  | .ne => look fun h => (eqO h x y).map fun b => .bl !b
  | .in_ => look fun h => (inD h x y).map V.bl
  | .notin => look fun h => (inD h x y).map fun b => .bl !b
  | .is_ => opt ((isO2 x y).map V.bl)
  | .isnot => opt ((isO2 x y).map fun b => V.bl !b)
  | .add => addO x y
  | .mul => mulO x y
  | o => intO o x y

/-- x[i] -/
def index (x i : V) : Mo V := match x, i with
  | .ref a, .int k => look fun h => match seqL h a with
    | some xs => atI xs k
    | none => match seqT h a with
      | some xs => atI xs k
      | none => none
  | .str z, .int k => if z.length ≤ sizeLine then opt ((atI z.cps.toList k).map fun c => .str ⟨#[c]⟩) else no
  | _, _ => no
def indexL (x i : V) : Mo V := match x, i with
  | .ref a, .int k => look fun h => match seqL h a with
    | some xs => atI xs k
    | none => none
  | _, _ => no
def partI : V → Option (Option Int)
  | .non => some none
  | .int i => some (some i)
  | _ => none
/-- x[lo:hi] -/
def slice (x : V) (lo hi : Option Int) : Mo V := match x with
  | .ref a => fun h => match seqL h a with
    | some xs => alloc (.lst (cutV xs lo hi)) h
    | none => match seqT h a with
      | some xs => if HT.sIx xs.length 0 lo = 0 ∧ HT.sIx xs.length xs.length hi = xs.length then none else alloc (.tup (cutV xs lo hi)) h
      | none => none
  | _ => no

def setAt (x i v : V) : Mo Unit := match x, i with
  | .ref a, .int k => fun h => match lstAt h a with
    | some xs => (ixN xs.length k).map fun j => (.ok (), h.set a (.lst (xs.set j v)))
    | none => none
  | _, _ => no

/-- the built-in functions -/
def lenO (x : V) : Mo V := match x with
  | .ref a => look fun h => match seqL h a with
    | some xs => some (.int xs.length)
    | none => match seqT h a with
      | some xs => some (.int xs.length)
      | none => none
  | .str z => if z.length ≤ sizeLine then rt (.int z.length) else no
  | _ => no
def tupleO (x : V) : Mo V := match x with
  | .ref a => fun h => match seqL h a with
    | some xs => alloc (.tup xs) h
    | none => match seqT h a with
      | some xs => rt (.ref a) h
      | none => none
  | _ => no
def listO (x : V) : Mo V := match x with
  | .ref a => fun h => match seqL h a with
    | some xs => alloc (.lst xs) h
    | none => match seqT h a with
      | some xs => alloc (.lst xs) h
      | none => none
  | _ => no
def reprO (x : V) : Mo V := look fun h => match rdS h x with
  | some d => if d.showable = true ∧ d.hasDict = false ∧ d.shown.length ≤ sizeLine then some (.str d.shown) else none
  | none => none
def absO (x : V) : Mo V := match x with
  | .int i => rt (.int (if i < 0 then -i else i))
  | _ => no
def intC (x : V) : Mo V := match x with
  | .int i => rt (.int i)
  | .bl b => rt (.int (if b then 1 else 0))
  | _ => no
/-- sorted: ints; tuples of ints and texts -/
def ins {α : Type} (lt : α → α → Bool) (x : α) : List α → List α
  | [] => [x]
  | y :: r => if lt y x then y :: ins lt x r else x :: y :: r
def isort {α : Type} (lt : α → α → Bool) : List α → List α
  | [] => []
  | x :: r => ins lt x (isort lt r)
abbrev Kit := Int ⊕ List Nat
def kItems (shape : Nat → Bool) : Nat → List V → Option (List Kit)
  | _, [] => some []
  | i, .int n :: r => if shape i = true then none else (kItems shape (i + 1) r).map (Sum.inl n :: ·)
  | i, .str x :: r => if shape i = true then (kItems shape (i + 1) r).map (Sum.inr x.cps.toList :: ·) else none
  | _, _ :: _ => none
def shapeOf (k : List V) (i : Nat) : Bool := match k[i]? with | some (.str _) => true | _ => false
def keyV (h : Hh) (shape : Nat → Bool) : V → Option (List Kit)
  | .ref a => match seqT h a with
    | some xs => kItems shape 0 xs
    | none => none
  | _ => none
def ltK (h : Hh) (shape : Nat → Bool) (u v : V) : Bool := PyProof.Rows.lexLt PyProof.Rows.itemOrd ((keyV h shape u).getD []) ((keyV h shape v).getD [])
def ltI : V → V → Bool
  | .int i, .int j => decide (i < j)
  | _, _ => false
def isI : V → Bool
  | .int _ => true
  | _ => false
def hasK (h : Hh) (shape : Nat → Bool) (v : V) : Bool := match keyV h shape v with | some (_ :: _) => true | _ => false
def sortV (xs : List V) : Mo V := fun h => if xs.all isI = true then alloc (.lst (isort ltI xs)) h
      else match xs with
        | .ref b :: _ => match seqT h b with
          | some k => if xs.all (hasK h (shapeOf k)) = true then alloc (.lst (isort (ltK h (shapeOf k)) xs)) h else none
          | none => none
        | _ => none
def sortO (x : V) : Mo V := match x with
  | .ref a => fun h => match seqL h a with
    | some xs => sortV xs h
    | none => none
  | _ => no
/-- the pairs of two lists, sorted -/
def pairsO : List V → List V → Mo (List V)
  | x :: xs, y :: ys => bd (alloc (.tup [x, y])) fun t => bd (pairsO xs ys) fun r => rt (t :: r)
  | _, _ => rt []
def szO (x y : V) : Mo V := match x, y with
  | .ref a, .ref b => fun h => match seqL h a with
    | some xs => match seqL h b with
      | some ys => bd (pairsO xs ys) sortV h
      | none => none
    | none => none
  | _, _ => no
def boolsO (xs : List V) : Option (List Bool) := xs.mapM fun x => match x with | .bl b => some b | _ => none
def intsO (xs : List V) : Option (List Int) := xs.mapM fun x => match x with | .int i => some i | _ => none
def allO (x : V) : Mo V := match x with
  | .ref a => look fun h => (seqL h a).bind fun xs => (boolsO xs).map fun bs => .bl (bs.all id)
  | _ => no
def anyO (x : V) : Mo V := match x with
  | .ref a => look fun h => (seqL h a).bind fun xs => (boolsO xs).map fun bs => .bl (bs.any id)
  | _ => no
def sumO (x : V) : Mo V := match x with
  | .ref a => look fun h => (seqL h a).bind fun xs => (intsO xs).map fun ns => .int ns.sum
  | _ => no
def maxI : List Int → Option Int
  | [] => none
  | x :: r => match maxI r with | none => some x | some m => some (if x < m then m else x)
def minI : List Int → Option Int
  | [] => none
  | x :: r => match minI r with | none => some x | some m => some (if m < x then m else x)
def maxO (x : V) : Mo V := match x with
  | .ref a => look fun h => (seqL h a).bind fun xs => (intsO xs).bind fun ns => (maxI ns).map V.int
  | _ => no
def minO (x : V) : Mo V := match x with
  | .ref a => look fun h => (seqL h a).bind fun xs => (intsO xs).bind fun ns => (minI ns).map V.int
  | _ => no
def revO (x : V) : Mo V := match x with
  | .ref a => fun h => match seqL h a with
    | some xs => alloc (.lst xs.reverse) h
    | none => none
  | _ => no
/-- a thing's type -/
def tyO (h : Hh) : V → Option String
  | .non => some "NoneType"
  | .bl _ => some "bool"
  | .int _ => some "int"
  | .str _ => some "str"
  | .ref a => match seqL h a with
    | some _ => some "list"
    | none => match seqT h a with
      | some _ => some "tuple"
      | none => none
  | _ => none
/-- is a thing of this type one of that -/
def subTy (a b : String) : Bool := a == b || (a == "bool" && b == "int")
def isO (t : String) (x : V) : Mo V := look fun h => (tyO h x).map fun s => .bl (subTy s t)
def bfn (f : String) (vs : List V) : Mo V := match vs with
  | [x] => match f with
    | "len" => lenO x
    | "abs" => absO x
    | "int" => intC x
    | "tuple" => tupleO x
    | "list" => listO x
    | "repr" => reprO x
    | "sorted" => sortO x
    | "all" => allO x
    | "any" => anyO x
    | "sum" => sumO x
    | "max" => maxO x
    | "min" => minO x
    | "[::-1]" => revO x
    | "is int" => isO "int" x
    | "is bool" => isO "bool" x
    | "is list" => isO "list" x
    | "is tuple" => isO "tuple" x
    | "is str" => isO "str" x
    | _ => no
  | [.int i, .int j] => match f with
    | "max" => rt (.int (if j > i then j else i))
    | "min" => rt (.int (if j < i then j else i))
    | _ => no
  | [x, y] => match f with
    | "sortzip" => szO x y
    | _ => no
  | _ => no

/-- the methods of lists -/
def lmeth (m : String) (a : Nat) (vs : List V) : Mo V := fun h => match lstAt h a with
  | none => none
  | some xs => match m, vs with
    | "append", [y] => if xs.length < sizeLine then some (.ok .non, h.set a (.lst (xs ++ [y]))) else none
    | "insert", [.int i, y] => if xs.length < sizeLine ∧ 0 ≤ i ∧ i < 2 ^ 63 then some (.ok .non, h.set a (.lst (xs.take i.toNat ++ [y] ++ xs.drop i.toNat))) else none
    | "clear", [] => some (.ok .non, h.set a (.lst []))
    | "reverse", [] => some (.ok .non, h.set a (.lst xs.reverse))
    | _, _ => none

inductive Tg | nm (i : Nat) | tp (is : List Nat)
  deriving DecidableEq, Repr
def setAll : List Nat → List V → Ev → Option Ev
  | [], [], e => some e
  | i :: is, v :: vs, e => setAll is vs (e.set i (some v))
  | _, _, _ => none
def asg (t : Tg) (v : V) (e : Ev) (h : Hh) : Option Ev := match t with
  | .nm i => some (e.set i (some v))
  | .tp is => match v with
    | .ref a => match seqT h a with
      | some xs => setAll is xs e
      | none => none
    | _ => none

mutual
inductive Ex
  | slot (i : Nat)
  | cst (v : V)
  | glob (x : Str)
  | bin (o : Op2) (a b : Ex)
  | neg (a : Ex)
  | not (a : Ex)
  | and (a b : Ex)
  | or (a b : Ex)
  | chain (o p : Op2) (a b c : Ex)
  | ite (c a b : Ex)
  | tup (es : Exs)
  | lst (es : Exs)
  | idx (a i : Ex)
  | slc (a : Ex) (bl : Bool) (lo : Ex) (bh : Bool) (hi : Ex)
  | call (f : String) (es : Exs)
  | bcall (f : String) (es : Exs)
  | mk (c : Nat) (es : Exs)
  | meth (m : Str) (ms : String) (o : Ex) (es : Exs)
  | fld (o : Ex) (f : Str)
  | comp (own : List Nat) (t : Tg) (it : It) (c : Ex) (e : Ex)
inductive Exs
  | nil
  | cons (e : Ex) (es : Exs)
inductive It
  | seq (e : Ex)
  | rng1 (e : Ex)
  | rng2 (a b : Ex)
  | down (a b : Ex)
  | enum (e : Ex)
  | zip (a b : Ex)
  | zip3 (a b c : Ex)
end

mutual
inductive Sm
  | asg (t : Tg) (e : Ex)
  | asgSub (o i e : Ex)
  | asgFld (o : Ex) (f : Str) (e : Ex)
  | aug (i : Nat) (o : Op2) (e : Ex)
  | augSub (o i : Ex) (op : Op2) (e : Ex)
  | ex (e : Ex)
  | ite (c : Ex) (a b : Sms)
  | for_ (t : Tg) (it : It) (b : Sms)
  | while_ (n : Nat) (c : Ex) (b : Sms)
  | par (is : List Nat) (es : Exs)
  | ret (e : Ex)
  | brk
  | cont
  | pass
  | never
inductive Sms
  | nil
  | cons (s : Sm) (r : Sms)
end

/-- what a walk goes over -/
structure Sg where
  t : Bool
  a : Nat
  xs : List V
inductive Iv | lst (a : Nat) (xs : List V) | tup (a : Nat) (xs : List V) | rng (lo : Int) (n : Nat) | down (lo : Int) (n : Nat) | enum (p : Sg) | zip (p q : Sg) | zip3 (p q r : Sg)
def Iv.size : Iv → Nat | .lst _ xs => xs.length | .tup _ xs => xs.length | .rng _ n => n | .down _ n => n | .enum p => p.xs.length | .zip p q => min p.xs.length q.xs.length | .zip3 p q r => min (min p.xs.length q.xs.length) r.xs.length
/-- the item at a turn; the thing walked has its length still -/
def nowL (h : Hh) (a n : Nat) : Option (List V) := match seqL h a with | some ys => if ys.length = n then some ys else none | none => none
def nowT (h : Hh) (a n : Nat) : Option (List V) := match seqT h a with | some ys => if ys.length = n then some ys else none | none => none
def nowS (h : Hh) (p : Sg) : Option (List V) := if p.t = true then nowT h p.a p.xs.length else nowL h p.a p.xs.length
def itemO (o : Option (List V)) (i : Nat) : Option V := match o with | some ys => ys[i]? | none => none
def Iv.at : Iv → Nat → Mo V
  | .lst a xs, i => look fun h => itemO (nowL h a xs.length) i
  | .tup a xs, i => look fun h => itemO (nowT h a xs.length) i
  | .rng lo n, i => if i < n then rt (.int (lo + i)) else no
  | .down lo n, i => if i < n then rt (.int (lo - i)) else no
  | .enum p, i => bd (look fun h => itemO (nowS h p) i) fun x => alloc (.tup [.int (i : Nat), x])
  | .zip p q, i => bd (look fun h => itemO (nowS h p) i) fun x => bd (look fun h => itemO (nowS h q) i) fun y => alloc (.tup [x, y])
  | .zip3 p q r, i => bd (look fun h => itemO (nowS h p) i) fun x => bd (look fun h => itemO (nowS h q) i) fun y => bd (look fun h => itemO (nowS h r) i) fun z => alloc (.tup [x, y, z])
def Iv.ends : Iv → Hh → Bool
  | .lst a xs, h => (nowL h a xs.length).isSome
  | .tup a xs, h => (nowT h a xs.length).isSome
  | .enum p, h => (nowS h p).isSome
  | .zip p q, h => (nowS h p).isSome && (nowS h q).isSome
  | .zip3 p q r, h => (nowS h p).isSome && (nowS h q).isSome && (nowS h r).isSome
  | _, _ => true

inductive Fl | nx (e : Ev) | rt (v : V) | bk (e : Ev) | ct (e : Ev)

/-- a for's turns -/
def forGo (iv : Iv) (t : Tg) (body : Ev → Mo Fl) : Nat → Nat → Ev → Mo Fl
  | 0, _, e => fun h => if iv.ends h then some (.ok (.nx e), h) else none
  | n + 1, i, e => bd (iv.at i) fun x => bd (look (asg t x e)) fun e1 => bd (body e1) fun f => match f with
    | .nx e2 => forGo iv t body n (i + 1) e2
    | .ct e2 => forGo iv t body n (i + 1) e2
    | .bk e2 => rt (.nx e2)
    | .rt v => rt (.rt v)
/-- a while's turns, at most so many -/
def whileGo (c : Ev → Mo Bool) (body : Ev → Mo Fl) : Nat → Ev → Mo Fl
  | 0, _ => no
  | n + 1, e => bd (c e) fun k => if k then bd (body e) fun f => match f with
      | .nx e2 => whileGo c body n e2
      | .ct e2 => whileGo c body n e2
      | .bk e2 => rt (.nx e2)
      | .rt v => rt (.rt v)
    else rt (.nx e)
/-- the new list grows -/
def push (d : Nat) (y : V) : Mo Unit := fun h => match lstAt h d with
  | none => none
  | some acc => if acc.length < sizeLine then some (.ok (), h.set d (.lst (acc ++ [y]))) else none
/-- a comprehension's turns; the new list stands at d -/
def compGo (iv : Iv) (t : Tg) (c : Ev → Mo Bool) (el : Ev → Mo V) (d : Nat) (e : Ev) : Nat → Nat → Mo Unit
  | 0, _ => fun h => if iv.ends h then some (.ok (), h) else none
  | n + 1, i => bd (iv.at i) fun x => bd (look (asg t x e)) fun e1 => bd (c e1) fun b =>
    if b then bd (el e1) fun y => bd (push d y) fun _ => compGo iv t c el d e n (i + 1)
    else compGo iv t c el d e n (i + 1)
/-- a list comprehension -/
def compL (iv : Iv) (t : Tg) (c : Ev → Mo Bool) (el : Ev → Mo V) (e : Ev) : Mo V :=
  bd (alloc (.lst [])) fun d => match d with
    | .ref d => bd (compGo iv t c el d e iv.size 0) fun _ => rt (.ref d)
    | _ => no

structure Cfg where
  call : String → List V → Mo V
  glob : Str → Option V
  fld : Nat → Str → Bool
  hasM : Nat → String → Bool
  cname : Nat → String

def wipeE (e : Ev) : List Nat → Ev
  | [] => e
  | v :: vs => (wipeE e vs).set v none

def getS (e : Ev) (i : Nat) : Mo V := match e[i]? with
  | some (some v) => rt v
  | _ => no
def tru (x : V) : Mo Bool := look fun h => truth h x
/-- o.m(..): the class's own def, or a list's method -/
inductive Rc | lst (a : Nat) | ins (c : Nat) (a : Nat)
def recv (m : Str) (x : V) : Mo Rc := match x with
  | .ref a => look fun h => match h[a]? with
    | some (.lst _) => some (.lst a)
    | some (.ins c fs) => if fs.lookup m = none then some (.ins c a) else none
    | _ => none
  | _ => no
def fldO (C : Cfg) (x : V) (f : Str) : Mo V := match x with
  | .ref a => look fun h => match h[a]? with
    | some (.ins c fs) => if C.fld c f = true then fs.lookup f else none
    | _ => none
  | _ => no
def setF (C : Cfg) (x : V) (f : Str) (y : V) : Mo Unit := match x with
  | .ref a => fun h => match h[a]? with
    | some (.ins c fs) => if C.fld c f = true ∧ fs.length < 1000 then some (.ok (), h.set a (.ins c (putF f y fs))) else none
    | _ => none
  | _ => no
def toI (x : V) : Mo Int := match x with
  | .int i => rt i
  | _ => no
def partO (b : Bool) (m : Mo V) : Mo (Option Int) := if b then bd m fun x => bd (toI x) fun i => rt (some i) else rt none
/-- a new instance, then its __init__ -/
def makeO (C : Cfg) (c : Nat) (vs : List V) : Mo V := bd (alloc (.ins c [])) fun x => bd (C.call (C.cname c ++ ".__init__") (x :: vs)) fun r => if r = .non then rt x else no
def seqO (x : V) : Mo Iv := match x with
  | .ref a => look fun h => match seqL h a with
    | some xs => some (.lst a xs)
    | none => match seqT h a with
      | some xs => some (.tup a xs)
      | none => none
  | _ => no
def sgO (x : V) : Mo Sg := match x with
  | .ref a => look fun h => match seqL h a with
    | some xs => some ⟨false, a, xs⟩
    | none => match seqT h a with
      | some xs => some ⟨true, a, xs⟩
      | none => none
  | _ => no
def rngO (i j : Int) : Mo Iv := if (-(2 ^ 62) ≤ i ∧ i < 2 ^ 62) ∧ -(2 ^ 62) ≤ j ∧ j < 2 ^ 62 then rt (.rng i (j - i).toNat) else no
def downO (i j : Int) : Mo Iv := if (-(2 ^ 62) ≤ i ∧ i < 2 ^ 62) ∧ -(2 ^ 62) ≤ j ∧ j < 2 ^ 62 then rt (.down i (i - j).toNat) else no

mutual
def ev (C : Cfg) : Ex → Ev → Mo V
  | .slot i, e => getS e i
  | .cst v, _ => rt v
  | .glob x, _ => opt (C.glob x)
  | .bin o a b, e => bd (ev C a e) fun x => bd (ev C b e) fun y => op2 o x y
  | .neg a, e => bd (ev C a e) fun x => bd (toI x) fun i => rt (.int (-i))
  | .not a, e => bd (ev C a e) fun x => bd (tru x) fun b => rt (.bl !b)
  | .and a b, e => bd (ev C a e) fun x => bd (tru x) fun k => if k then ev C b e else rt x
  | .or a b, e => bd (ev C a e) fun x => bd (tru x) fun k => if k then rt x else ev C b e
  | .chain o p a b c, e => bd (ev C a e) fun x => bd (ev C b e) fun y => bd (op2 o x y) fun r => match r with
    | .bl true => bd (ev C c e) fun z => op2 p y z
    | .bl false => rt (.bl false)
    | _ => no
  | .ite c a b, e => bd (ev C c e) fun x => bd (tru x) fun k => if k then ev C a e else ev C b e
  | .tup es, e => bd (evs C es e) fun vs => if vs.length ≤ sizeLine then alloc (.tup vs) else no
  | .lst es, e => bd (evs C es e) fun vs => if vs.length ≤ sizeLine then alloc (.lst vs) else no
  | .idx a i, e => bd (ev C a e) fun x => bd (ev C i e) fun y => index x y
  | .slc a bl lo bh hi, e => bd (ev C a e) fun x => bd (partO bl (ev C lo e)) fun l => bd (partO bh (ev C hi e)) fun u => slice x l u
  | .call f es, e => bd (evs C es e) fun vs => C.call f vs
  | .bcall f es, e => bd (evs C es e) fun vs => bfn f vs
  | .mk c es, e => bd (evs C es e) fun vs => makeO C c vs
  | .meth m ms o es, e => bd (ev C o e) fun x => bd (recv m x) fun r => bd (evs C es e) fun vs => match r with
    | .lst a => lmeth ms a vs
    | .ins c a => if C.hasM c ms = true then C.call (C.cname c ++ "." ++ ms) (.ref a :: vs) else no
  | .fld o f, e => bd (ev C o e) fun x => fldO C x f
  | .comp own t it c el, e => bd (evI C it e) fun iv => compL iv t (fun e => bd (ev C c e) tru) (fun e => ev C el e) (wipeE e own)
def evs (C : Cfg) : Exs → Ev → Mo (List V)
  | .nil, _ => rt []
  | .cons a r, e => bd (ev C a e) fun x => bd (evs C r e) fun xs => rt (x :: xs)
def evI (C : Cfg) : It → Ev → Mo Iv
  | .seq a, e => bd (ev C a e) fun x => seqO x
  | .rng1 a, e => bd (ev C a e) fun x => bd (toI x) fun j => rngO 0 j
  | .rng2 a b, e => bd (ev C a e) fun x => bd (ev C b e) fun y => bd (toI x) fun i => bd (toI y) fun j => rngO i j
  | .down a b, e => bd (ev C a e) fun x => bd (ev C b e) fun y => bd (toI x) fun i => bd (toI y) fun j => downO i j
  | .enum a, e => bd (ev C a e) fun x => bd (sgO x) fun p => rt (.enum p)
  | .zip a b, e => bd (ev C a e) fun x => bd (ev C b e) fun y => bd (sgO x) fun p => bd (sgO y) fun q => rt (.zip p q)
  | .zip3 a b c, e => bd (ev C a e) fun x => bd (ev C b e) fun y => bd (ev C c e) fun z => bd (sgO x) fun p => bd (sgO y) fun q => bd (sgO z) fun r => rt (.zip3 p q r)
end

/-- a test -/
def evT (C : Cfg) (c : Ex) (e : Ev) : Mo Bool := bd (ev C c e) tru
def augO (o : Op2) (x y : V) : Mo V := intO o x y

mutual
def ex (C : Cfg) : Sm → Ev → Mo Fl
  | .asg t a, e => bd (ev C a e) fun x => bd (look (asg t x e)) fun e1 => rt (.nx e1)
  | .asgSub o i a, e => bd (ev C a e) fun x => bd (ev C o e) fun y => bd (ev C i e) fun z => bd (setAt y z x) fun _ => rt (.nx e)
  | .asgFld o f a, e => bd (ev C a e) fun y => bd (ev C o e) fun x => bd (setF C x f y) fun _ => rt (.nx e)
  | .aug i o a, e => bd (getS e i) fun x => bd (ev C a e) fun y => bd (augO o x y) fun v => rt (.nx (e.set i (some v)))
  | .augSub o i op a, e => bd (ev C o e) fun x => bd (ev C i e) fun y => bd (indexL x y) fun old => bd (ev C a e) fun z => bd (augO op old z) fun v =>
      bd (setAt x y v) fun _ => rt (.nx e)
  | .ex a, e => bd (ev C a e) fun _ => rt (.nx e)
  | .ite c a b, e => bd (evT C c e) fun k => if k then exs C a e else exs C b e
  | .for_ t it b, e => bd (evI C it e) fun iv => forGo iv t (fun e => exs C b e) iv.size 0 e
  | .while_ n c b, e => whileGo (fun e => evT C c e) (fun e => exs C b e) n e
  | .par is es, e => bd (evs C es e) fun vs => bd (opt (setAll is vs e)) fun e1 => rt (.nx e1)
  | .ret a, e => bd (ev C a e) fun x => rt (.rt x)
  | .brk, e => rt (.bk e)
  | .cont, e => rt (.ct e)
  | .pass, e => rt (.nx e)
  | .never, _ => no
def exs (C : Cfg) : Sms → Ev → Mo Fl
  | .nil, e => rt (.nx e)
  | .cons s r, e => bd (ex C s e) fun f => match f with
    | .nx e1 => exs C r e1
    | f => rt f
end
/-- a def's body at its arguments -/
def body (C : Cfg) (n : Nat) (b : Sms) (vs : List V) : Mo V :=
  bd (exs C b (vs.map some ++ List.replicate (n - vs.length) none)) fun f => match f with
    | .nx _ => rt .non
    | .rt v => rt v
    | _ => no
/-! ### the classes -/
/-- a class: its global name, its own name, its parameters, its methods' keys, its fields -/
structure Ci where
  x : Str
  name : String
  n : Nat
  ms : List String
  fs : List Str
def cnameOf (CT : List Ci) (c : Nat) : String := match CT[c]? with | some i => i.name | none => ""
def hasMOf (CT : List Ci) (c : Nat) (ms : String) : Bool := match CT[c]? with | some i => i.ms.contains ms | none => false
def fldOf (CT : List Ci) (c : Nat) (f : Str) : Bool := match CT[c]? with | some i => i.fs.contains f | none => false
end HI

set_option maxRecDepth 100000
set_option maxHeartbeats 4000000
/-! how a list of objects lies in the heap -/
namespace HI
open PySem L2

def im (π : Nat → Addr) : V → V
  | .ref a => .ref (π a)
  | v => v
def wf (n : Nat) : V → Prop
  | .ref a => a < n
  | _ => True
def imO (π : Nat → Addr) : Option V → Option V := Option.map (im π)
def wfE (n : Nat) (e : Ev) : Prop := ∀ v, some v ∈ e → wf n v
def wfL (n : Nat) (vs : List V) : Prop := ∀ v ∈ vs, wf n v
abbrev imL (π : Nat → Addr) (vs : List V) : List V := vs.map (im π)
abbrev imE (π : Nat → Addr) (e : Ev) : St := e.map (imO π)
abbrev imF (π : Nat → Addr) (fs : List (Str × V)) : List (Str × V) := fs.map fun p => (p.1, im π p.2)

/-- the module's part: its frozen objects, where its classes stand -/
structure Gd where
  K : PySem.W.Frag
  cls : Nat → Addr

def KSeq (K : PySem.W.Frag) (T : String) (a : Addr) (xs : List V) : Prop :=
  ∃ (o : Obj) (its : Array Value) (n : Nat), K.lookup a = some o ∧ o.cls = .type T ∧ (T = "list" → o.dict = none) ∧ o.data = .seq its n ∧ its.size ≤ sizeLine ∧ Vals xs its.toList

def ObR (G : Gd) (H : Hp) (π : Nat → Addr) (a : Addr) : Ob → Prop
  | .lst xs => H a = some (.lst (imL π xs))
  | .rol xs => (∃ o, H a = some (.frz o (.lst (imL π xs)))) ∨ KSeq G.K "list" a (imL π xs)
  | .tup xs => H a = some (.tup (imL π xs))
  | .ktup xs => KSeq G.K "tuple" a (imL π xs)
  | .ins c fs => ∃ dx, H a = some (.ins (G.cls c) dx (imF π fs))
  | .glb _ => True
def wfO (n : Nat) : Ob → Prop
  | .lst xs => wfL n xs
  | .rol xs => wfL n xs
  | .tup xs => wfL n xs
  | .ktup xs => wfL n xs
  | .ins _ fs => ∀ p ∈ fs, wf n p.2
  | .glb _ => True
def Mu : Ob → Bool
  | .lst _ => true
  | .ins _ _ => true
  | _ => false

structure HR (G : Gd) (π : Nat → Addr) (h : Hh) (H : Hp) : Prop where
  ob : ∀ (i : Nat) (o : Ob), h[i]? = some o → ObR G H π (π i) o
  wo : ∀ (i : Nat) (o : Ob), h[i]? = some o → wfO h.length o
  inj : ∀ (i j : Nat) (o u : Ob), h[i]? = some o → h[j]? = some u → Mu o = true → Mu u = true → π i = π j → i = j

/-- later: more objects, the old ones where they were -/
structure Nx (π : Nat → Addr) (h : Hh) (π' : Nat → Addr) (h' : Hh) : Prop where
  le : h.length ≤ h'.length
  ag : ∀ i, i < h.length → π' i = π i

theorem Nx.refl {π h} : Nx π h π h := ⟨Nat.le_refl _, fun _ _ => rfl⟩
theorem Nx.trans {π h π1 h1 π2 h2} (a : Nx π h π1 h1) (b : Nx π1 h1 π2 h2) : Nx π h π2 h2 :=
  ⟨Nat.le_trans a.le b.le, fun i hi => (b.ag i (Nat.lt_of_lt_of_le hi a.le)).trans (a.ag i hi)⟩
theorem wf.mono {n m : Nat} {v : V} (w : wf n v) (l : n ≤ m) : wf m v := by
  cases v <;> first | exact trivial | exact Nat.lt_of_lt_of_le w l
theorem Nx.im {π h π' h'} (x : Nx π h π' h') {v : V} (w : wf h.length v) : im π' v = im π v := by
  cases v with
  | ref a => exact congrArg V.ref (x.ag a w)
  | _ => rfl
theorem Nx.wf {π h π' h'} (x : Nx π h π' h') {v : V} (w : wf h.length v) : wf h'.length v := w.mono x.le
theorem Nx.imL {π h π' h'} (x : Nx π h π' h') {vs : List V} (w : wfL h.length vs) : imL π' vs = imL π vs :=
  List.map_congr_left fun v hv => x.im (w v hv)
theorem Nx.imE {π h π' h'} (x : Nx π h π' h') {e : Ev} (w : wfE h.length e) : imE π' e = imE π e :=
  List.map_congr_left fun o ho => by
    cases o with
    | none => rfl
    | some v => exact congrArg some (x.im (w v ho))
theorem Nx.wfL {π h π' h'} (x : Nx π h π' h') {vs : List V} (w : wfL h.length vs) : wfL h'.length vs := fun v hv => x.wf (w v hv)
theorem Nx.wfE {π h π' h'} (x : Nx π h π' h') {e : Ev} (w : wfE h.length e) : wfE h'.length e := fun v hv => x.wf (w v hv)
theorem imL_len {π : Nat → Addr} {xs : List V} : (imL π xs).length = xs.length := List.length_map _
theorem wfE.set {n : Nat} {e : Ev} {i : Nat} {v : V} (w : wfE n e) (wv : wf n v) : wfE n (e.set i (some v)) := fun u hu => by
  rcases List.mem_or_eq_of_mem_set hu with z | z
  · exact w u z
  · cases z; exact wv
theorem imE_set {π : Nat → Addr} {e : Ev} {i : Nat} {v : V} : imE π (e.set i (some v)) = (imE π e).set i (some (im π v)) := by
  show List.map _ _ = _
  rw [List.map_set]; rfl

section
variable {G : Gd} {π : Nat → Addr} {h : Hh} {H : Hp}
theorem seqL_lt {a : Nat} {xs : List V} (e : seqL h a = some xs) : a < h.length := by
  unfold seqL at e
  rcases Nat.lt_or_ge a h.length with z | z
  · exact z
  · rw [List.getElem?_eq_none z] at e; cases e
theorem seqT_lt {a : Nat} {xs : List V} (e : seqT h a = some xs) : a < h.length := by
  unfold seqT at e
  rcases Nat.lt_or_ge a h.length with z | z
  · exact z
  · rw [List.getElem?_eq_none z] at e; cases e
theorem lstAt_get {a : Nat} {xs : List V} (e : lstAt h a = some xs) : h[a]? = some (.lst xs) := by
  unfold lstAt at e
  split at e
  · cases e; assumption
  · cases e
theorem HR.seqL (R : HR G π h H) {a : Nat} {xs : List V} (e : HI.seqL h a = some xs) : SqL G.K H (π a) (imL π xs) ∧ wfL h.length xs := by
  unfold HI.seqL at e
  split at e
  · rename_i ys hg
    cases e
    exact ⟨.inl (.inl (R.ob _ _ hg)), R.wo _ _ hg⟩
  · rename_i ys hg
    cases e
    refine ⟨?_, R.wo _ _ hg⟩
    rcases R.ob _ _ hg with ⟨o, z⟩ | ⟨o, its, n, h1, h2, h3, h4, h5, h6⟩
    · exact .inl (.inr ⟨o, z⟩)
    · exact .inr ⟨o, its, n, h1, h2, h3 rfl, h4, h5, h6⟩
  · cases e
theorem HR.seqT (R : HR G π h H) {a : Nat} {xs : List V} (e : HI.seqT h a = some xs) : SqT G.K H (π a) (imL π xs) ∧ wfL h.length xs := by
  unfold HI.seqT at e
  split at e
  · rename_i ys hg
    cases e
    exact ⟨.inl (.inl (R.ob _ _ hg)), R.wo _ _ hg⟩
  · rename_i ys hg
    cases e
    obtain ⟨o, its, n, h1, h2, h3, h4, h5, h6⟩ := R.ob _ _ hg
    exact ⟨.inr ⟨o, its, n, h1, h2, h4, h5, h6⟩, R.wo _ _ hg⟩
  · cases e
theorem HR.lstAt (R : HR G π h H) {a : Nat} {xs : List V} (e : HI.lstAt h a = some xs) : H (π a) = some (.lst (imL π xs)) ∧ wfL h.length xs :=
  ⟨R.ob _ _ (lstAt_get e), R.wo _ _ (lstAt_get e)⟩
theorem lstAt_seqL {a : Nat} {xs : List V} (e : HI.lstAt h a = some xs) : HI.seqL h a = some xs := by
  unfold HI.seqL; rw [lstAt_get e]

/-- where a new object stands -/
def ext (π : Nat → Addr) (n : Nat) (p : Addr) : Nat → Addr := fun i => if i = n then p else π i
theorem ext_nx (o : Ob) (p : Addr) : Nx π h (ext π h.length p) (h ++ [o]) := by
  refine ⟨by rw [List.length_append]; exact Nat.le_add_right _ _, fun i hi => ?_⟩
  unfold ext
  rw [if_neg (Nat.ne_of_lt hi)]
theorem ext_at {n : Nat} {p : Addr} : ext π n p n = p := by unfold ext; rw [if_pos rfl]
theorem get_new {o u : Ob} {i : Nat} (e : (h ++ [o])[i]? = some u) : (i < h.length ∧ h[i]? = some u) ∨ (i = h.length ∧ u = o) := by
  rcases Nat.lt_trichotomy i h.length with z | z | z
  · rw [List.getElem?_append_left z] at e
    exact .inl ⟨z, e⟩
  · subst z
    rw [List.getElem?_append_right (Nat.le_refl _), Nat.sub_self] at e
    cases e
    exact .inr ⟨rfl, rfl⟩
  · rw [List.getElem?_eq_none (by rw [List.length_append]; exact z)] at e
    cases e

theorem wfO.mono {n m : Nat} {o : Ob} (w : wfO n o) (l : n ≤ m) : wfO m o := by
  cases o <;> first
    | exact fun v hv => (w v hv).mono l
    | exact trivial
/-- an object's description leans on its own address alone -/
theorem ObR.move {π' : Nat → Addr} {H' : Hp} {a : Addr} {o : Ob} {n : Nat} (x : ObR G H π a o) (w : wfO n o) (ag : ∀ i, i < n → π' i = π i) (hs : ∀ u, H a = some u → H' a = some u) : ObR G H' π' a o := by
  have imv : ∀ v : V, HI.wf n v → im π' v = im π v := fun v hv => by
    cases v with
    | ref b => exact congrArg V.ref (ag b hv)
    | _ => rfl
  have iml : ∀ xs : List V, HI.wfL n xs → imL π' xs = imL π xs := fun xs hx => List.map_congr_left fun v hv => imv v (hx v hv)
  cases o with
  | lst xs => rw [ObR, iml xs w]; exact hs _ x
  | rol xs =>
    rw [ObR, iml xs w]
    rcases x with ⟨o, z⟩ | z
    · exact .inl ⟨o, hs _ z⟩
    · exact .inr z
  | tup xs => rw [ObR, iml xs w]; exact hs _ x
  | ktup xs => rw [ObR, iml xs w]; exact x
  | ins c fs =>
    obtain ⟨dx, z⟩ := x
    have e : imF π' fs = imF π fs := List.map_congr_left fun p hp => by rw [imv p.2 (w p hp)]
    exact ⟨dx, by rw [e]; exact hs _ z⟩
  | glb _ => trivial

/-- a new object is laid at p, what it is there -/
theorem HR.laid (R : HR G π h H) {o : Ob} {p : Addr} {u : HO} (hp : H p = none) (w : wfO h.length o)
    (x : ObR G (upd H p u) (ext π h.length p) p o) : HR G (ext π h.length p) (h ++ [o]) (upd H p u) := by
  have N := ext_nx (π := π) (h := h) o p
  have keep : ∀ b q, H b = some q → upd H p u b = some q := fun b q e => by rw [upd_ne (ne_of_none e hp)]; exact e
  refine ⟨fun i q e => ?_, fun i q e => ?_, fun i j q r e1 e2 m1 m2 z => ?_⟩
  · rcases get_new e with ⟨hi, e⟩ | ⟨rfl, rfl⟩
    · have e2 : ext π h.length p i = π i := N.ag i hi
      rw [e2]
      exact (R.ob i q e).move (R.wo i q e) N.ag (keep _)
    · rw [ext_at]; exact x
  · rcases get_new e with ⟨hi, e⟩ | ⟨rfl, rfl⟩
    · exact (R.wo i q e).mono N.le
    · exact w.mono N.le
  · have here : ∀ (k : Nat) (t : Ob), h[k]? = some t → Mu t = true → π k ≠ p := fun k t e m z => by
      have q := R.ob k t e
      rw [z] at q
      cases t with
      | lst xs => rw [ObR, hp] at q; cases q
      | ins c fs => obtain ⟨dx, q⟩ := q; rw [hp] at q; cases q
      | _ => cases m
    rcases get_new e1 with ⟨hi, f1⟩ | ⟨rfl, rfl⟩
    · rcases get_new e2 with ⟨hj, f2⟩ | ⟨rfl, rfl⟩
      · rw [N.ag i hi, N.ag j hj] at z
        exact R.inj i j q r f1 f2 m1 m2 z
      · rw [N.ag i hi, ext_at] at z
        exact absurd z (here i q f1 m1)
    · rcases get_new e2 with ⟨hj, f2⟩ | ⟨rfl, rfl⟩
      · rw [N.ag j hj, ext_at] at z
        exact absurd z.symm (here j r f2 m2)
      · rfl
theorem HR.lst (R : HR G π h H) {xs : List V} {p : Addr} (hp : H p = none) (w : wfL h.length xs) :
    HR G (ext π h.length p) (h ++ [.lst xs]) (upd H p (.lst (imL π xs))) := by
  refine R.laid hp w ?_
  rw [ObR, upd_same, (ext_nx (π := π) (h := h) (.lst xs) p).imL w]
theorem HR.tup (R : HR G π h H) {xs : List V} {p : Addr} (hp : H p = none) (w : wfL h.length xs) :
    HR G (ext π h.length p) (h ++ [.tup xs]) (upd H p (.tup (imL π xs))) := by
  refine R.laid hp w ?_
  rw [ObR, upd_same, (ext_nx (π := π) (h := h) (.tup xs) p).imL w]

/-- a list or an instance is rewritten -/
theorem HR.put (R : HR G π h H) {a : Nat} {o o' : Ob} {u : HO} (e : h[a]? = some o) (m : Mu o = true) (m' : Mu o' = true) (w : wfO h.length o') (x : ObR G (upd H (π a) u) π (π a) o') :
    HR G π (h.set a o') (upd H (π a) u) := by
  have ha : a < h.length := (List.getElem?_eq_some_iff.mp e).1
  have gs : ∀ {i : Nat} {q : Ob}, (h.set a o')[i]? = some q → (i = a ∧ q = o') ∨ (i ≠ a ∧ h[i]? = some q) := fun {i q} z => by
    by_cases hi : i = a
    · subst hi
      rw [List.getElem?_set_self ha] at z
      cases z
      exact .inl ⟨rfl, rfl⟩
    · rw [List.getElem?_set_ne (Ne.symm hi)] at z
      exact .inr ⟨hi, z⟩
  have mu_at : ∀ (H1 : Hp), (∃ v, H1 (π a) = some v ∧ ((∃ ys, v = .lst ys) ∨ ∃ C dx fs, v = .ins C dx fs)) → ∀ q b, ObR G H1 π b q → Mu q = false → b = π a → (∃ T ys, KSeq G.K T b ys) ∨ ∃ z, q = .glb z := by
    intro H1 hv q b hq mq hb
    subst hb
    obtain ⟨v, hv, hk⟩ := hv
    cases q with
    | lst _ => cases mq
    | ins _ _ => cases mq
    | rol ys =>
      rcases hq with ⟨ob, z⟩ | z
      · rw [hv] at z; cases z
        rcases hk with ⟨_, k⟩ | ⟨_, _, _, k⟩ <;> cases k
      · exact .inl ⟨_, _, z⟩
    | tup ys =>
      rw [ObR, hv] at hq; cases hq
      rcases hk with ⟨_, k⟩ | ⟨_, _, _, k⟩ <;> cases k
    | ktup ys => exact .inl ⟨_, _, hq⟩
    | glb z => exact .inr ⟨z, rfl⟩
  have old : ∃ v, H (π a) = some v ∧ ((∃ ys, v = .lst ys) ∨ ∃ C dx fs, v = .ins C dx fs) := by
    have q := R.ob a o e
    cases o with
    | lst ys => exact ⟨_, q, .inl ⟨_, rfl⟩⟩
    | ins c fs => obtain ⟨dx, q⟩ := q; exact ⟨_, q, .inr ⟨_, _, _, rfl⟩⟩
    | _ => cases m
  refine ⟨fun i q z => ?_, fun i q z => ?_, fun i j q r e1 e2 m1 m2 z => ?_⟩
  · rcases gs z with ⟨rfl, rfl⟩ | ⟨hi, z⟩
    · exact x
    · have hq := R.ob i q z
      by_cases hb : π i = π a
      · cases mq : Mu q with
        | true => exact absurd (R.inj i a q o z e mq m hb) hi
        | false =>
          rcases mu_at H old q _ hq mq hb with ⟨T, ys, k⟩ | ⟨y, rfl⟩
          · cases q with
            | rol zs =>
              rcases hq with ⟨ob, y⟩ | y
              · obtain ⟨v, hv, hk⟩ := old
                rw [hb, hv] at y; cases y
                rcases hk with ⟨_, k⟩ | ⟨_, _, _, k⟩ <;> cases k
              · exact .inr y
            | tup zs =>
              obtain ⟨v, hv, hk⟩ := old
              rw [ObR, hb, hv] at hq; cases hq
              rcases hk with ⟨_, k⟩ | ⟨_, _, _, k⟩ <;> cases k
            | ktup zs => exact hq
            | glb _ => trivial
            | _ => cases mq
          · trivial
      · exact hq.move (R.wo i q z) (fun _ _ => rfl) fun u hu => by rw [upd_ne hb]; exact hu
  · rw [List.length_set]
    rcases gs z with ⟨rfl, rfl⟩ | ⟨hi, z⟩
    · exact w
    · exact R.wo i q z
  · rcases gs e1 with ⟨rfl, rfl⟩ | ⟨hi, f1⟩
    · rcases gs e2 with ⟨rfl, rfl⟩ | ⟨hj, f2⟩
      · rfl
      · exact R.inj _ _ _ _ e f2 m m2 z
    · rcases gs e2 with ⟨rfl, rfl⟩ | ⟨hj, f2⟩
      · exact R.inj _ _ _ _ f1 e m1 m z
      · exact R.inj _ _ _ _ f1 f2 m1 m2 z
theorem set_nx {a : Nat} {o : Ob} : Nx π h π (h.set a o) := ⟨by rw [List.length_set]; exact Nat.le_refl _, fun _ _ => rfl⟩
theorem HR.setL (R : HR G π h H) {a : Nat} {xs ys : List V} (e : HI.lstAt h a = some xs) (w : wfL h.length ys) :
    HR G π (h.set a (.lst ys)) (upd H (π a) (.lst (imL π ys))) := by
  refine R.put (lstAt_get e) rfl rfl w ?_
  rw [ObR, upd_same]
end

/-! ### data -/
section
variable {G : Gd} {π : Nat → Addr} {h : Hh} {H : Hp}
theorem mapM_some {α β : Type} {f : α → Option β} : ∀ {xs : List α} {ys : List β}, xs.mapM f = some ys → Paired (fun x y => f x = some y) xs ys
  | [], ys, e => by
    rw [List.mapM_nil] at e
    cases e; exact .nil
  | x :: r, ys, e => by
    rw [List.mapM_cons] at e
    cases hx : f x with
    | none => rw [hx] at e; cases e
    | some y =>
      rw [hx] at e
      cases hr : r.mapM f with
      | none => rw [hr] at e; cases e
      | some zs =>
        rw [hr] at e
        cases e
        exact .cons hx (mapM_some hr)
theorem rd_dp (R : HR G π h H) : ∀ (n : Nat) (v : V) (d : PyData), rd h n v = some d → wf h.length v → Dp G.K H (im π v) d
  | 0, _, _, e, _ => by cases e
  | n + 1, v, d, e, w => by
    have all : ∀ (xs : List V) (ds : List PyData), xs.mapM (rd h n) = some ds → wfL h.length xs → DpAll G.K H (imL π xs) ds := by
      intro xs ds hm hw
      have hp := mapM_some hm
      clear hm
      induction hp with
      | nil => exact .nil
      | cons r t ih => exact .cons (rd_dp R n _ _ r (hw _ List.mem_cons_self)) (ih fun v hv => hw v (List.mem_cons_of_mem _ hv))
    cases v with
    | non => cases e; exact .non
    | bl b => cases e; exact .bl b
    | int i => cases e; exact .int i
    | str s => cases e; exact .str s
    | ref a =>
      simp only [rd] at e
      split at e
      · rename_i xs hx
        cases hm : xs.mapM (rd h n) with
        | none => rw [hm] at e; cases e
        | some ds =>
          rw [hm] at e; cases e
          obtain ⟨q, wq⟩ := R.seqL hx
          exact .lst q (all xs ds hm wq)
      · split at e
        · rename_i xs hx
          cases hm : xs.mapM (rd h n) with
          | none => rw [hm] at e; cases e
          | some ds =>
            rw [hm] at e; cases e
            obtain ⟨q, wq⟩ := R.seqT hx
            exact .tup q (all xs ds hm wq)
        · cases e
    | _ => cases e
theorem rdS_dp (R : HR G π h H) {v : V} {d : PyData} (e : rdS h v = some d) (w : wf h.length v) : Dp G.K H (im π v) d ∧ SeqAt.shaped d = true := by
  unfold rdS at e
  split at e
  · rename_i d' hd
    split at e
    · rename_i hs
      cases e
      exact ⟨rd_dp R 66 v _ hd w, hs⟩
    · cases e
  · cases e
theorem truth_ok (R : HR G π h H) {v : V} {b : Bool} (e : truth h v = some b) (w : wf h.length v) : TruV G.K (im π v) H b := by
  cases v with
  | non => cases e; rfl
  | bl c => cases e; rfl
  | int i => cases e; rfl
  | str y =>
    simp only [truth] at e
    split at e
    · rename_i hl; cases e; exact ⟨hl, rfl⟩
    · cases e
  | ref a =>
    simp only [truth] at e
    split at e
    · rename_i xs hx
      cases e
      refine .inl ⟨_, (R.seqL hx).1, ?_⟩
      cases xs <;> rfl
    · split at e
      · rename_i xs hx
        cases e
        refine .inr (.inl ⟨_, (R.seqT hx).1, ?_⟩)
        cases xs <;> rfl
      · cases e
  | _ => cases e
end
end HI

set_option maxRecDepth 100000
set_option maxHeartbeats 4000000
/-! a def's promise where no text is being shown (guards empty), and the calls of such defs -/
namespace HI
open PySem PySem.Spec PyProof.Rows L2

structure FnG (P : Program) (w : World) (K : PySem.W.Frag) (mg : Str → Option Value) (base : Heap) (CX : CXT) (k : Nat) (f : Addr) (fd : FuncData) (ps : List Str) (sp : Sp) : Prop where
  len : ∀ vs H Q E, sp vs H Q E → vs.length = ps.length
  run : ∀ (A : Around) (outer : List Env) (s : Shared) (H : Hp) (args : Args) (us : List Value) (vs : List V) (Q : VK) (E : XK), A.guards = some [] →
    Room k A → Env0 P w K mg base A outer s H → BindsTo s fd args (ps.zip us) → Vals vs us → sp vs H Q E →
    codeAny (model P w) A (.call (.ref f) args) (CR CX outer P w H s Q E) s

section
variable {P : Program} {w : World} {K : PySem.W.Frag} {mg : Str → Option Value} {base : Heap} {CX : CXT}
theorem FnG.mono {j k : Nat} {f : Addr} {fd : FuncData} {ps : List Str} {sp : Sp} (F : FnG P w K mg base CX j f fd ps sp) (l : j ≤ k) : FnG P w K mg base CX k f fd ps sp :=
  ⟨F.len, fun A outer s H args us vs Q E g r => F.run A outer s H args us vs Q E g (r.mono l)⟩

/-- a def of the text, by its body -/
theorem fnG_of {k : Nat} {x qual : Str} {st : Stmt} {f : Addr} {fd : FuncData} {N ps : List Str} {sp : Sp} (F : Fun K x qual st f fd) (S : FnScope N ps (defScope st))
    (len : ∀ vs H Q E, sp vs H Q E → vs.length = ps.length)
    (hb : ∀ (cdv : Value) (A : Around) (outer : List Env) (s : Shared) (H : Hp) (vs : List V) (Q : VK) (E : XK),
      (A.deeper (envOfC qual (defScope st) s.heap.objs.size f cdv)).guards = some [] →
      Room k (A.deeper (envOfC qual (defScope st) s.heap.objs.size f cdv)) → sp vs H Q E →
      ∃ t, PSs (cxOf CX P w K mg base N qual (defScope st) f cdv A outer s H E) (defBody st) t ∧ t { nx := fun _ H' => Q .non H', rt := Q } (start N vs) H) :
    FnG P w K mg base CX (k + 1) f fd ps sp := by
  obtain ⟨oc, od, kV, doc, pm, an, cdv, ct, osl, rfl, lk, hcd⟩ := F.ex
  refine ⟨len, ?_⟩
  intro A outer s H args us vs Q E hg hr e0 hbd rv hsp
  have hl := len _ _ _ _ hsp
  have kept : ∀ b o, base.get? b = some o → s.heap.get? b = some o := fun b o e => (e0.bs b o e).1
  have KX : K.In s.heap := e0.mod.kin.keeps kept
  have lim : s.heap.NoLimit := e0.mod.nolimit.keeps kept
  have kinds : ∀ y ∈ ps.zip us, (defScope st).names.lookup y.1 = some .local ∨
      ((defScope st).names.lookup y.1 = some .cell ∧ ((cellsFrom (s.heap.objs.size + 1) (defScope st).names []).lookup y.1).isSome = true) := by
    intro y hy
    rcases S.par y.1 (List.of_mem_zip (a := y.1) (b := y.2) hy).1 with q | q
    · exact .inl q
    · exact .inr ⟨q, PySem.W.cellsFrom_some _ _ _ (.inl q)⟩
  refine codeAny_call_function hr.depth (KX _ _ lk) rfl S.co S.gen rfl (PySem.W.codeRec_of KX hcd) (hbd _ _ _ _ ?_)
  refine wpAny_newFunctionEnv_cells S.kind kinds fun env he s1 x => ?_
  subst he
  refine ⟨lim.keeps x.toInCall.keep, codeAny_func ?_⟩
  obtain ⟨t, ht, hq⟩ := hb cdv A outer s H vs Q E hg (hr.deeper _) hsp
  have I := inv_start (CX := CX) (E := E) S hr.hd e0 hl rv x
  refine wpAny_mono (ht.run [] s1 (start N vs) H _ I hq) (fun fl s' hs => ?_) (fun _ _ z => z)
  cases fl with
  | ret u =>
    obtain ⟨v, σ', H', J, r, q⟩ := hs
    exact ⟨v, H', J.os, J.bare, J.base, J.hok, r, q⟩
  | next =>
    obtain ⟨σ', H', J, q⟩ := hs
    exact ⟨V.non, H', J.os, J.bare, J.base, J.hok, rfl, q⟩
  | brk =>
    obtain ⟨_, _, _, q⟩ := hs
    exact q.elim
  | cont =>
    obtain ⟨_, _, _, q⟩ := hs
    exact q.elim
end

section
variable {X : Cx} {CX : CXT} {k : Nat} {f C : Addr} {fd : FuncData} {ps : List Str} {sp : Sp} {dvs : List V} {ds : List Value} {E : XK} {x m : Str} {p pos apos : Pos} {e o : Expr} {es : List Expr} {ta : TE} {t : TA}
theorem FnG.go {pins : List (Addr × Obj)} {σ : L2.St} {H : Hp} {s : Shared} {Q : VK} {us : List Value} {vs : List V} (F : FnG X.prog X.w X.K X.mg X.base CX k f fd ps sp) (hg : X.A.guards = some []) (hr : Room k X.A)
    (hb : Binds X.K fd ps ds) (hd : Vals dvs ds) (hx : Passes CX X E) (I : Inv X pins σ H s) (r : Vals vs us) (h : sp (vs ++ dvs) H Q E) :
    wpAny (model X.prog X.w) X.A (call (.ref f) us) (EP X pins σ Q) X.xe s := by
  have r2 : Vals (vs ++ dvs) (us ++ ds) := r.append hd
  have hl : (us ++ ds).length = ps.length := r2.length.symm.trans (F.len _ _ _ _ h)
  have run := F.run X.A X.stack s H ⟨us, []⟩ (us ++ ds) (vs ++ dvs) Q E hg hr I.env0 (hb s us I.kIn hl) r2 h
  refine wpAny_call (codeAny_mono run fun r s' hq => ?_)
  match r, hq with
  | .error e, hq => exact hx pins σ H s e s' I hq
  | .ok (.ret u), hq => exact I.after hq

theorem gcall (F : FnG X.prog X.w X.K X.mg X.base CX k f fd ps sp) (hgd : X.A.guards = some []) (hr : Room k X.A) (hg : Gl X x) (hm : X.mg x = some (.ref f)) (hk : PySem.W.keepIn X.K (.ref f) = true)
    (hb : Binds X.K fd ps ds) (hd : Vals dvs ds) (hx : Passes CX X E) (ha : PA X (e :: es) t) (hdb : (x == ("__debug__" : Str)) = false)
    (he : starEach (e :: es) X.env = (false, eval e X.env) :: starEach es X.env) (hpl : (backTo pos (starEach es X.env)).any (·.1) = false) :
    PE X (.Call (.Name x p) (e :: es) [] pos) (tCall sp dvs E t) := by
  constructor
  intro pins s σ H Q I h
  refine wpAny_Call_Name_kw (ld_glob I hg hm ?_ hdb)
  refine PySem.W.callWith_K (h₀ := X.base) I.ok.mod.kin hk ?_ he hpl
  refine thn (ha.run pos pins s σ H _ I h) ?_
  rintro us s1 ⟨vs, H1, I1, r, q⟩
  exact ⟨I1.kIn, F.go hgd hr hb hd hx I1 r q⟩
theorem gcall0 (F : FnG X.prog X.w X.K X.mg X.base CX k f fd ps sp) (hgd : X.A.guards = some []) (hr : Room k X.A) (hg : Gl X x) (hm : X.mg x = some (.ref f)) (hk : PySem.W.keepIn X.K (.ref f) = true)
    (hb : Binds X.K fd ps ds) (hd : Vals dvs ds) (hx : Passes CX X E) (hdb : (x == ("__debug__" : Str)) = false) : PE X (.Call (.Name x p) [] [] pos) (tCall sp dvs E tNil) := by
  constructor
  intro pins s σ H Q I h
  refine wpAny_Call_Name_kw (ld_glob I hg hm ?_ hdb)
  exact PySem.W.callWith_K0 I.kIn hk (F.go (us := []) hgd hr hb hd hx I .nil h)

theorem gmeth {pl : Sem Bool} (he : PE X o ta) (c : Cls X.K C) (hm : Meth X.K C m f) (F : FnG X.prog X.w X.K X.mg X.base CX k f fd ps sp) (hgd : X.A.guards = some []) (hr : Room k X.A)
    (hb : Binds X.K fd ps ds) (hd : Vals dvs ds) (hx : Passes CX X E) (ha : PA X (e :: es) t) (hst : starEach (e :: es) X.env = (false, eval e X.env) :: starEach es X.env)
    (hpl : (backTo pos (starEach es X.env)).any (·.1) = false)
    (ht : eval (.Call (.Attribute o m apos) (e :: es) [] pos) X.env = (do
      let ov ← eval o X.env
      standAt apos.atName
      let (f, first) ← holding [ov] (getMethod ov m pl)
      callWith pos f first (backTo pos (starEach (e :: es) X.env)) (backToKw pos (keywordEach [] X.env)))) : PE X (.Call (.Attribute o m apos) (e :: es) [] pos) (tMeth C m sp dvs E ta t) := by
  constructor
  intro pins s σ H Q I h
  refine PySem.W.methodCall_KW (pl := pl) (thn (he.run pins s σ H _ I h) ?_) ht
  rintro u s1 ⟨x, H1, I1, rx, a, dx, fs, rfl, ea, l, q⟩
  obtain rfl : u = Value.ref a := rx
  refine getmeth_ok I1 ea c hm l ?_
  refine PySem.W.callWith_K (first := [.ref a]) (h₀ := X.base) I.ok.mod.kin hm.kp ?_ hst hpl
  refine thn (ha.run pos pins s1 σ H1 _ I1 q) ?_
  rintro us s2 ⟨vs, H2, I2, r, q2⟩
  exact ⟨I2.kIn, F.go (us := .ref a :: us) (vs := .ref a :: vs) hgd hr hb hd hx I2 (.cons rfl r) q2⟩
theorem gmeth0 {pl : Sem Bool} (he : PE X o ta) (c : Cls X.K C) (hm : Meth X.K C m f) (F : FnG X.prog X.w X.K X.mg X.base CX k f fd ps sp) (hgd : X.A.guards = some []) (hr : Room k X.A)
    (hb : Binds X.K fd ps ds) (hd : Vals dvs ds) (hx : Passes CX X E)
    (ht : eval (.Call (.Attribute o m apos) [] [] pos) X.env = (do
      let ov ← eval o X.env
      standAt apos.atName
      let (f, first) ← holding [ov] (getMethod ov m pl)
      callWith pos f first (backTo pos (starEach [] X.env)) (backToKw pos (keywordEach [] X.env)))) : PE X (.Call (.Attribute o m apos) [] [] pos) (tMeth C m sp dvs E ta tNil) := by
  constructor
  intro pins s σ H Q I h
  refine PySem.W.methodCall_KW (pl := pl) (thn (he.run pins s σ H _ I h) ?_) ht
  rintro u s1 ⟨x, H1, I1, rx, a, dx, fs, rfl, ea, l, q⟩
  obtain rfl : u = Value.ref a := rx
  refine getmeth_ok I1 ea c hm l ?_
  exact PySem.W.callWith_K0 (first := [.ref a]) I1.kIn hm.kp (F.go (us := [.ref a]) (vs := [.ref a]) hgd hr hb hd hx I1 (.cons rfl .nil) q)

theorem make_guards {A : Around} {us : List Value} {kw : List (Str × Value)} : (A.under (.builtin "type.__call__" ⟨.ref C :: us, kw⟩)).guards = A.guards := by
  have e : (Code.builtin "type.__call__" ⟨.ref C :: us, kw⟩).guards = [] := by
    unfold Code.guards
    rw [if_neg]
    first | decide | simp [Code.isGuard, guardIds]
  unfold Around.under
  dsimp only
  rw [e]; rfl
theorem FnG.made {pins : List (Addr × Obj)} {σ : L2.St} {H : Hp} {s : Shared} {Q : VK} {us : List Value} {vs : List V} (M : Mk X.K C f) (F : FnG X.prog X.w X.K X.mg X.base CX k f fd ps sp) (hgd : X.A.guards = some []) (hr : Room (k + 1) X.A)
    (hb : Binds X.K fd ps ds) (hd : Vals dvs ds) (hx : Passes CX X E) (I : Inv X pins σ H s) (r : Vals vs us)
    (h : ∀ x dx, H x = none → H dx = none → dx ≠ x → sp (.ref x :: (vs ++ dvs)) (upd (upd H dx (.own x)) x (.ins C dx [])) (fun v H2 => v = .non ∧ Q (.ref x) H2) E) :
    wpAny (model X.prog X.w) X.A (call (.ref C) us) (EP X pins σ Q) X.xe s := by
  generalize hz : s.heap.objs.size = z
  have f0 : ∀ i, z ≤ i → H i = none := fun i hi => I.hok.fresh (by rw [hz]; exact hi)
  have hq := h (z + 1) z (f0 _ (Nat.le_succ _)) (f0 _ (Nat.le_refl _)) (Nat.ne_of_lt (Nat.lt_succ_self _))
  have I2 := Inv.made (C := C) I
  rw [hz] at I2
  have r2 : Vals (V.ref (z + 1) :: (vs ++ dvs)) (Value.ref (z + 1) :: (us ++ ds)) := .cons rfl (r.append hd)
  have hl : (Value.ref (z + 1) :: us ++ ds).length = ps.length := r2.length.symm.trans (F.len _ _ _ _ hq)
  have e2 := I2.env0.make C us []
  have run := F.run (X.A.under (.builtin "type.__call__" ⟨.ref C :: us, []⟩)) X.stack _ _ ⟨Value.ref (z + 1) :: us, []⟩ (Value.ref (z + 1) :: (us ++ ds)) _ _ E (make_guards.trans hgd) (hr.make C us [])
    e2 (hb _ (Value.ref (z + 1) :: us) I2.kIn hl) r2 hq
  refine wpAny_call (make_map (f := f) I.kIn M.makes M.init (beq_iff_eq.mp M.fn) ?_)
  rw [hz]
  refine codeAny_mono run fun r s' hq' => ?_
  match r, hq' with
  | .error e, hq' => exact hx pins σ _ _ e s' I2 hq'
  | .ok (.ret u), hq' =>
    obtain ⟨v, H', I3, rv, ev, q3⟩ := I2.after hq'
    subst ev
    exact ⟨rv, ⟨V.ref (z + 1), H', I3, rfl, q3⟩⟩
theorem gmake (M : Mk X.K C f) (F : FnG X.prog X.w X.K X.mg X.base CX k f fd ps sp) (hgd : X.A.guards = some []) (hr : Room (k + 1) X.A) (hg : Gl X x) (hm : X.mg x = some (.ref C))
    (hb : Binds X.K fd ps ds) (hd : Vals dvs ds) (hx : Passes CX X E) (ha : PA X (e :: es) t) (hdb : (x == ("__debug__" : Str)) = false)
    (he : starEach (e :: es) X.env = (false, eval e X.env) :: starEach es X.env) (hpl : (backTo pos (starEach es X.env)).any (·.1) = false) :
    PE X (.Call (.Name x p) (e :: es) [] pos) (tMake C sp dvs E t) := by
  constructor
  intro pins s σ H Q I h
  refine wpAny_Call_Name_kw (ld_glob I hg hm ?_ hdb)
  refine PySem.W.callWith_K (h₀ := X.base) I.ok.mod.kin M.kp ?_ he hpl
  refine thn (ha.run pos pins s σ H _ I h) ?_
  rintro us s1 ⟨vs, H1, I1, r, q⟩
  exact ⟨I1.kIn, FnG.made M F hgd hr hb hd hx I1 r q⟩
end
end HI

set_option maxRecDepth 100000
set_option maxHeartbeats 4000000
/-! readings by the interpreter; operations -/
namespace HI
open PySem PySem.Spec PyProof.Rows L2

/-- the state: slots, objects -/
structure Sx (G : Gd) (σ : L2.St) (H : Hp) (π : Nat → Addr) (e : Ev) (h : Hh) : Prop where
  sl : σ = imE π e
  we : wfE h.length e
  hr : HR G π h H
theorem Sx.nx {G σ H π e h H' π' h'} (S : Sx G σ H π e h) (N : Nx π h π' h') (R : HR G π' h' H') : Sx G σ H' π' e h' :=
  ⟨S.sl.trans (N.imE S.we).symm, N.wfE S.we, R⟩

/-- a step comes to a value -/
structure Lf {α β : Type} (G : Gd) (f : (Nat → Addr) → α → β) (w : Nat → α → Prop) (m : Ev → Mo α) (σ : L2.St) (H : Hp) (Q : β → Hp → Prop) : Prop where
  has : ∃ π e h a h', Sx G σ H π e h ∧ m e h = some (.ok a, h') ∧ ∀ π' H', Nx π h π' h' → HR G π' h' H' → w h'.length a → Q (f π' a) H'
abbrev TEh (G : Gd) (m : Ev → Mo V) : TE := Lf G im wf m
abbrev TAh (G : Gd) (m : Ev → Mo (List V)) : TA := Lf G imL wfL m
abbrev TTh (G : Gd) (m : Ev → Mo Bool) : TT := Lf G (fun _ b => b) (fun _ _ => True) m
theorem Lf.go {α β : Type} {G : Gd} {f : (Nat → Addr) → α → β} {w : Nat → α → Prop} {m : Ev → Mo α} {σ : L2.St} {H : Hp} {Q : β → Hp → Prop} {π e h a h'} (S : Sx G σ H π e h) (hm : m e h = some (.ok a, h'))
    (k : ∀ π' H', Nx π h π' h' → Sx G σ H' π' e h' → w h'.length a → Q (f π' a) H') : Lf G f w m σ H Q :=
  ⟨π, e, h, a, h', S, hm, fun π' H' N R wa => k π' H' N (S.nx N R) wa⟩

theorem goE {G : Gd} {m : Ev → Mo V} {σ : L2.St} {H : Hp} {Q : VK} {π e h a h'} (S : Sx G σ H π e h) (hm : m e h = some (.ok a, h'))
    (k : ∀ π' H', Nx π h π' h' → Sx G σ H' π' e h' → wf h'.length a → Q (im π' a) H') : TEh G m σ H Q := Lf.go S hm k
theorem goT {G : Gd} {m : Ev → Mo Bool} {σ : L2.St} {H : Hp} {Q : Bool → Hp → Prop} {π e h a h'} (S : Sx G σ H π e h) (hm : m e h = some (.ok a, h'))
    (k : ∀ π' H', Nx π h π' h' → Sx G σ H' π' e h' → True → Q a H') : TTh G m σ H Q := Lf.go S hm k
theorem goA {G : Gd} {m : Ev → Mo (List V)} {σ : L2.St} {H : Hp} {Q : List V → Hp → Prop} {π e h a h'} (S : Sx G σ H π e h) (hm : m e h = some (.ok a, h'))
    (k : ∀ π' H', Nx π h π' h' → Sx G σ H' π' e h' → wfL h'.length a → Q (imL π' a) H') : TAh G m σ H Q := Lf.go S hm k

theorem bd_ok {α β : Type} {m : Mo α} {k : α → Mo β} {h h' : Hh} {b : β} (e : bd m k h = some (.ok b, h')) : ∃ a h1, m h = some (.ok a, h1) ∧ k a h1 = some (.ok b, h') := by
  unfold bd at e
  split at e
  · rename_i a h1 q; exact ⟨a, h1, q, e⟩
  · cases e
  · cases e
theorem rt_ok {α : Type} {a b : α} {h h' : Hh} (e : rt a h = some (.ok b, h')) : a = b ∧ h = h' := by
  unfold rt at e; cases e; exact ⟨rfl, rfl⟩
theorem opt_ok {α : Type} {o : Option α} {b : α} {h h' : Hh} (e : opt o h = some (.ok b, h')) : o = some b ∧ h = h' := by
  unfold opt at e
  cases o with
  | none => cases e
  | some a => cases e; exact ⟨rfl, rfl⟩
theorem look_ok {α : Type} {f : Hh → Option α} {b : α} {h h' : Hh} (e : look f h = some (.ok b, h')) : f h = some b ∧ h = h' := by
  unfold look at e
  cases q : f h with
  | none => rw [q] at e; cases e
  | some a => rw [q] at e; cases e; exact ⟨rfl, rfl⟩
theorem no_ok {α : Type} {b : α} {h h' : Hh} (e : (no : Mo α) h = some (.ok b, h')) : False := by
  unfold no at e; cases e

/-- what follows a step -/
abbrev Then (G : Gd) (Q : VK) (π : Nat → Addr) (h h' : Hh) (v : V) : Prop := ∀ π' H', Nx π h π' h' → HR G π' h' H' → wf h'.length v → Q (im π' v) H'
/-- a two-place operation by the interpreter -/
def R2h (G : Gd) (f : V → V → Mo V) : R2 := fun x y H Q => ∃ π h a b v h', x = im π a ∧ y = im π b ∧ wf h.length a ∧ wf h.length b ∧ HR G π h H ∧ f a b h = some (.ok v, h') ∧ Then G Q π h h' v
/-- a call by the interpreter -/
def RLh (G : Gd) (f : List V → Mo V) : List V → Hp → VK → Prop := fun xs H Q => ∃ π h vs v h', xs = imL π vs ∧ wfL h.length vs ∧ HR G π h H ∧ f vs h = some (.ok v, h') ∧ Then G Q π h h' v

section
variable {X : Cx} {G : Gd}
theorem im_int {π : Nat → Addr} {a : V} {i : Int} (e : im π a = .int i) : a = .int i := by cases a <;> first | exact e | cases e

theorem atI_map {α β : Type} {f : α → β} {xs : List α} {k : Int} {v : α} (e : atI xs k = some v) : atI (xs.map f) k = some (f v) := by
  unfold atI at *
  rw [List.length_map]
  cases hx : ixN xs.length k with
  | none => rw [hx] at e; cases e
  | some j =>
    rw [hx] at e
    show (xs.map f)[j]? = some (f v)
    have e2 : xs[j]? = some v := e
    rw [List.getElem?_map, e2]; rfl
theorem atI_mem {α : Type} {xs : List α} {k : Int} {v : α} (e : atI xs k = some v) : v ∈ xs := by
  unfold atI at e
  cases hx : ixN xs.length k with
  | none => rw [hx] at e; cases e
  | some j => rw [hx] at e; exact List.mem_of_getElem? (show xs[j]? = some v from e)
theorem cutV_im {π : Nat → Addr} {xs : List V} {lo hi : Option Int} : imL π (cutV xs lo hi) = cutV (imL π xs) lo hi := by
  unfold cutV
  rw [imL_len]
  show List.map _ _ = _
  rw [List.map_take, List.map_drop]
theorem cutV_wf {n : Nat} {xs : List V} {lo hi : Option Int} (w : wfL n xs) : wfL n (cutV xs lo hi) := fun v hv => w v (List.mem_of_mem_drop (List.mem_of_mem_take hv))
theorem rep_im {π : Nat → Addr} {xs : List V} : ∀ k : Nat, imL π (List.replicate k xs).flatten = (List.replicate k (imL π xs)).flatten
  | 0 => rfl
  | k + 1 => by
    rw [List.replicate_succ, List.replicate_succ, List.flatten_cons, List.flatten_cons, ← rep_im k]
    exact List.map_append
theorem rep_wf {n : Nat} {xs : List V} (w : wfL n xs) (k : Nat) : wfL n (List.replicate k xs).flatten := fun v hv => by
  obtain ⟨l, hl, hv⟩ := List.mem_flatten.mp hv
  rw [(List.mem_replicate.mp hl).2] at hv
  exact w v hv

/-- a new tuple, a new list at any free place -/
theorem new_tup {π : Nat → Addr} {h h' : Hh} {H : Hp} {Q : VK} {xs : List V} {v : V} (R : HR G π h H) (w : wfL h.length xs) (e : alloc (.tup xs) h = some (.ok v, h')) (q : Then G Q π h h' v) {p : Addr} (hp : H p = none) : Q (.ref p) (upd H p (.tup (imL π xs))) := by
  unfold alloc at e
  cases e
  have z := q _ _ (ext_nx (.tup xs) p) (R.tup hp w) (by show h.length < _; rw [List.length_append]; exact Nat.lt_succ_self _)
  have e2 : im (ext π h.length p) (.ref h.length) = .ref p := congrArg V.ref ext_at
  rw [e2] at z
  exact z
theorem new_lst {π : Nat → Addr} {h h' : Hh} {H : Hp} {Q : VK} {xs : List V} {v : V} (R : HR G π h H) (w : wfL h.length xs) (e : alloc (.lst xs) h = some (.ok v, h')) (q : Then G Q π h h' v) {p : Addr} (hp : H p = none) : Q (.ref p) (upd H p (.lst (imL π xs))) := by
  unfold alloc at e
  cases e
  have z := q _ _ (ext_nx (.lst xs) p) (R.lst hp w) (by show h.length < _; rw [List.length_append]; exact Nat.lt_succ_self _)
  have e2 : im (ext π h.length p) (.ref h.length) = .ref p := congrArg V.ref ext_at
  rw [e2] at z
  exact z
theorem wfL_app {n : Nat} {xs ys : List V} (a : wfL n xs) (b : wfL n ys) : wfL n (xs ++ ys) := fun v hv => (List.mem_append.mp hv).elim (a v) (b v)
theorem imL_app {π : Nat → Addr} {xs ys : List V} : imL π (xs ++ ys) = imL π xs ++ imL π ys := List.map_append

theorem int_op {f : Value → Value → Sem Value} {o : Op2}
    (rule : ∀ (i j : Int) (v : V), intOp o i j = some v → ∀ (pins : List (Addr × Obj)) (s : Shared) (σ : L2.St) (H : Hp) (a b : Value) (Q : VK), Inv X pins σ H s → RelV (.int i) a → RelV (.int j) b → Q v H → wpAny (model X.prog X.w) X.A (f a b) (EP X pins σ Q) X.xe s) :
    OpR X f (R2h G (intO o)) := by
  intro pins s σ H x y v u Q I rx ry h
  obtain ⟨π, h, a, b, r, h', rfl, rfl, wa, wb, R, e, q⟩ := h
  unfold intO at e
  split at e
  · rename_i i j
    obtain ⟨e1, e2⟩ := opt_ok e
    subst e2
    clear e
    have vi : im π r = r ∧ wf h.length r := by
      cases o <;> simp only [intOp] at e1 <;> (try split at e1) <;> cases e1 <;> exact ⟨rfl, trivial⟩
    have z := q π H Nx.refl R vi.2
    rw [vi.1] at z
    exact rule i j r e1 pins s σ H v u Q I rx ry z
  · exact (no_ok e).elim
theorem or_sub : OpR X (binaryOp .Sub) (R2h G (intO .sub)) := int_op fun i j v e pins s σ H a b Q I ra rb q => by
  cases e
  exact op_sub pins s σ H _ _ a b Q I ra rb ⟨i, j, rfl, rfl, q⟩
theorem or_fdiv : OpR X (binaryOp .FloorDiv) (R2h G (intO .fdiv)) := int_op fun i j v e pins s σ H a b Q I ra rb q => by
  simp only [intOp] at e
  split at e
  · rename_i c; cases e
    exact op_fdivW pins s σ H _ _ a b Q I ra rb ⟨i, j, rfl, rfl, c, q⟩
  · cases e
theorem or_mod : OpR X (binaryOp .Mod) (R2h G (intO .mod)) := int_op fun i j v e pins s σ H a b Q I ra rb q => by
  simp only [intOp] at e
  split at e
  · rename_i c; cases e
    exact op_mod pins s σ H _ _ a b Q I ra rb ⟨i, j, rfl, rfl, c, q⟩
  · cases e
theorem or_pow : OpR X (binaryOp .Pow) (R2h G (intO .pow)) := int_op fun i j v e pins s σ H a b Q I ra rb q => by
  simp only [intOp] at e
  split at e
  · rename_i c; cases e
    exact op_pow pins s σ H _ _ a b Q I ra rb ⟨i, j, rfl, rfl, c, q⟩
  · cases e
theorem or_shl : OpR X (binaryOp .LShift) (R2h G (intO .shl)) := int_op fun i j v e pins s σ H a b Q I ra rb q => by
  simp only [intOp] at e
  split at e
  · rename_i c; cases e
    exact op_shl pins s σ H _ _ a b Q I ra rb ⟨i, j, rfl, rfl, c, q⟩
  · cases e
theorem or_shr : OpR X (binaryOp .RShift) (R2h G (intO .shr)) := int_op fun i j v e pins s σ H a b Q I ra rb q => by
  simp only [intOp] at e
  split at e
  · rename_i c; cases e
    exact op_shr pins s σ H _ _ a b Q I ra rb ⟨i, j, rfl, rfl, c, q⟩
  · cases e
theorem or_band : OpR X (binaryOp .BitAnd) (R2h G (intO .band)) := int_op fun i j v e pins s σ H a b Q I ra rb q => by
  cases e
  exact op_and pins s σ H _ _ a b Q I ra rb ⟨i, j, rfl, rfl, q⟩
theorem or_lt : OpR X (compareOp .Lt) (R2h G (intO .lt)) := int_op fun i j v e pins s σ H a b Q I ra rb q => by
  cases e
  exact op_lt pins s σ H _ _ a b Q I ra rb ⟨i, j, rfl, rfl, q⟩
theorem or_le : OpR X (compareOp .LtE) (R2h G (intO .le)) := int_op fun i j v e pins s σ H a b Q I ra rb q => by
  cases e
  exact op_le pins s σ H _ _ a b Q I ra rb ⟨i, j, rfl, rfl, q⟩
theorem or_gt : OpR X (compareOp .Gt) (R2h G (intO .gt)) := int_op fun i j v e pins s σ H a b Q I ra rb q => by
  cases e
  exact op_gt pins s σ H _ _ a b Q I ra rb ⟨i, j, rfl, rfl, q⟩
theorem or_ge : OpR X (compareOp .GtE) (R2h G (intO .ge)) := int_op fun i j v e pins s σ H a b Q I ra rb q => by
  cases e
  exact op_ge pins s σ H _ _ a b Q I ra rb ⟨i, j, rfl, rfl, q⟩

theorem im_ref {π : Nat → Addr} {b : Nat} : im π (.ref b) = .ref (π b) := rfl
theorem same {π : Nat → Addr} {h : Hh} {H : Hp} {Q : VK} {v : V} (q : Then G Q π h h v) (R : HR G π h H) (w : wf h.length v) : Q (im π v) H := q π H Nx.refl R w

theorem or_add (hK : X.K = G.K) : OpR X (binaryOp .Add) (R2h G (op2 .add)) := by
  intro pins s σ H x y v u Q I rx ry h
  obtain ⟨π, h, a, b, r, h', rfl, rfl, wa, wb, R, e, q⟩ := h
  replace e : addO a b h = some (.ok r, h') := e
  unfold addO at e
  split at e
  · rename_i i j
    obtain ⟨e1, e2⟩ := rt_ok e
    subst e1 e2
    exact op_add pins s σ H _ _ v u Q I rx ry ⟨i, j, rfl, rfl, same q R trivial⟩
  · rename_i i j
    split at e
    · rename_i c
      obtain ⟨e1, e2⟩ := rt_ok e
      subst e1 e2
      exact op_add_str pins s σ H _ _ v u Q I rx ry ⟨i, j, rfl, rfl, c, same q R trivial⟩
    · exact (no_ok e).elim
  · rename_i c d
    split at e
    · rename_i xs ys hx hy
      split at e
      · rename_i hz
        obtain ⟨l1, w1⟩ := R.lstAt hx
        obtain ⟨l2, w2⟩ := R.lstAt hy
        refine op_cat pins s σ H _ _ v u Q I rx ry ⟨π c, π d, imL π xs, imL π ys, rfl, rfl, l1, l2, by rw [imL_len, imL_len]; exact hz, fun p hp => ?_⟩
        rw [← imL_app]
        exact new_lst R (wfL_app w1 w2) e q hp
      · cases e
    · split at e
      · rename_i xs ys hx hy
        obtain ⟨l1, w1⟩ := R.seqT hx
        obtain ⟨l2, w2⟩ := R.seqT hy
        rw [← hK] at l1 l2
        unfold catT at e
        split at e
        · rename_i hn
          subst hn
          obtain ⟨e1, e2⟩ := rt_ok e
          subst e1 e2
          exact op_catT0 pins s σ H _ _ v u Q I rx ry ⟨π c, π d, imL π ys, rfl, rfl, l1, l2, same (v := .ref d) q R wb⟩
        · rename_i hn
          have hn' : imL π xs ≠ [] := fun z => hn (List.map_eq_nil_iff.mp z)
          split at e
          · rename_i hm
            subst hm
            obtain ⟨e1, e2⟩ := rt_ok e
            subst e1 e2
            refine op_catT pins s σ H _ _ v u Q I rx ry ⟨π c, π d, imL π xs, [], rfl, rfl, l1, l2, hn', ?_, fun _ => same (v := .ref c) q R wa, fun z => absurd rfl z⟩
            obtain ⟨_, _, _, hz⟩ := I.tuple l1
            exact hz
          · rename_i hm
            split at e
            · rename_i hz
              refine op_catT pins s σ H _ _ v u Q I rx ry ⟨π c, π d, imL π xs, imL π ys, rfl, rfl, l1, l2, hn', by rw [imL_len, imL_len]; exact hz, fun z => absurd (List.map_eq_nil_iff.mp z) hm, fun _ p hp => ?_⟩
              rw [← imL_app]
              exact new_tup R (wfL_app w1 w2) e q hp
            · exact (no_ok e).elim
      · cases e
  · exact (no_ok e).elim

theorem or_mul (hK : X.K = G.K) : OpR X (binaryOp .Mult) (R2h G (op2 .mul)) := by
  intro pins s σ H x y v u Q I rx ry h
  obtain ⟨π, h, a, b, r, h', rfl, rfl, wa, wb, R, e, q⟩ := h
  replace e : mulO a b h = some (.ok r, h') := e
  unfold mulO at e
  split at e
  · rename_i i j
    obtain ⟨e1, e2⟩ := opt_ok e
    subst e2
    simp only [intOp] at e1
    split at e1
    · rename_i c
      cases e1
      exact op_mulW pins s σ H _ _ v u Q I rx ry ⟨i, j, rfl, rfl, c, same q R trivial⟩
    · cases e1
  · rename_i c k
    split at e
    · rename_i hk
      dsimp only at e
      split at e
      · rename_i xs hx
        split at e
        · rename_i hz
          obtain ⟨l1, w1⟩ := R.lstAt hx
          refine op_rep pins s σ H _ _ v u Q I rx ry ⟨π c, k, imL π xs, rfl, rfl, l1, hk.1, hk.2, by rw [imL_len]; exact hz, fun p hp => ?_⟩
          rw [← rep_im]
          exact new_lst R (rep_wf w1 _) e q hp
        · cases e
      · split at e
        · rename_i xs hx
          split at e
          · rename_i hz
            obtain ⟨l1, w1⟩ := R.seqT hx
            rw [← hK] at l1
            refine op_repT pins s σ H _ _ v u Q I rx ry ⟨π c, k, imL π xs, rfl, rfl, l1, hk.1, hk.2, by rw [imL_len]; exact hz, fun z => ?_, fun z p hp => ?_⟩
            · have z' : xs = [] ∨ k = 1 := z.imp (fun y => List.map_eq_nil_iff.mp y) id
              rw [if_pos z'] at e
              obtain ⟨e1, e2⟩ := rt_ok e
              subst e1 e2
              exact same (v := .ref c) q R wa
            · have z' : ¬ (xs = [] ∨ k = 1) := fun y => z (y.imp (fun t => by rw [t]; rfl) id)
              rw [if_neg z'] at e
              rw [← rep_im]
              exact new_tup R (rep_wf w1 _) e q hp
          · cases e
        · cases e
    · exact (no_ok e).elim
  · exact (no_ok e).elim

theorem eqD_ok {π : Nat → Addr} {h : Hh} {H : Hp} {x y : V} {b : Bool} (R : HR G π h H) (e : eqD h x y = some b) (wx : wf h.length x) (wy : wf h.length y) :
    ∃ d d', Dp G.K H (im π x) d ∧ Dp G.K H (im π y) d' ∧ SeqAt.shaped d = true ∧ SeqAt.shaped d' = true ∧ PyData.eqv d d' = b := by
  unfold eqD at e
  split at e
  · rename_i d d' h1 h2
    obtain ⟨a1, a2⟩ := rdS_dp R h1 wx
    obtain ⟨b1, b2⟩ := rdS_dp R h2 wy
    cases e
    exact ⟨d, d', a1, b1, a2, b2, rfl⟩
  · cases e
theorem eqO_cases {h : Hh} {x y : V} {c : Bool} (e : eqO h x y = some c) : (∃ s t, x = .str s ∧ y = .str t ∧ c = decide (V.str s = V.str t)) ∨ eqD h x y = some c := by
  unfold eqO at e
  split at e
  · rename_i b hb
    cases e
    unfold eqS at hb
    split at hb
    · cases hb
      exact .inl ⟨_, _, rfl, rfl, rfl⟩
    · cases hb
  · exact .inr e
theorem or_eq (hK : X.K = G.K) (hu : X.A.units + 64 < cLine) : OpR X (compareOp .Eq) (R2h G (op2 .eq)) := by
  intro pins s σ H x y v u Q I rx ry h
  obtain ⟨π, h, a, b, r, h', rfl, rfl, wa, wb, R, e, q⟩ := h
  obtain ⟨e1, e2⟩ := look_ok (f := fun h => (eqO h a b).map V.bl) e
  subst e2
  cases he : eqO h a b with
  | none => rw [he] at e1; cases e1
  | some c =>
    rw [he] at e1
    cases e1
    rcases eqO_cases he with ⟨s1, t1, rfl, rfl, rfl⟩ | he
    · exact op_eq pins s σ H _ _ v u Q I rx ry ⟨rfl, same (v := .bl _) q R trivial⟩
    · obtain ⟨d, d', h1, h2, s1, s2, hc⟩ := eqD_ok R he wa wb
      refine op_eqD hu pins s σ H _ _ v u Q I rx ry ⟨d, d', by rw [hK]; exact h1, by rw [hK]; exact h2, s1, s2, ?_⟩
      rw [hc]
      exact same (v := .bl c) q R trivial
theorem or_ne (hK : X.K = G.K) (hu : X.A.units + 64 < cLine) : OpR X (compareOp .NotEq) (R2h G (op2 .ne)) := by
  intro pins s σ H x y v u Q I rx ry h
  obtain ⟨π, h, a, b, r, h', rfl, rfl, wa, wb, R, e, q⟩ := h
  obtain ⟨e1, e2⟩ := look_ok (f := fun h => (eqO h a b).map fun b => V.bl !b) e
  subst e2
  cases he : eqO h a b with
  | none => rw [he] at e1; cases e1
  | some c =>
    rw [he] at e1
    cases e1
    rcases eqO_cases he with ⟨s1, t1, rfl, rfl, rfl⟩ | he
    · exact op_ne pins s σ H _ _ v u Q I rx ry ⟨rfl, same (v := .bl _) q R trivial⟩
    · obtain ⟨d, d', h1, h2, s1, s2, hc⟩ := eqD_ok R he wa wb
      refine op_neD hu pins s σ H _ _ v u Q I rx ry ⟨d, d', by rw [hK]; exact h1, by rw [hK]; exact h2, s1, s2, ?_⟩
      rw [hc]
      exact same (v := .bl !c) q R trivial
theorem inD_ok {π : Nat → Addr} {h : Hh} {H : Hp} {x y : V} {b : Bool} (R : HR G π h H) (e : inD h x y = some b) (wx : wf h.length x) (wy : wf h.length y) :
    ∃ d ds, Dp G.K H (im π x) d ∧ Dp G.K H (im π y) (.list ds) ∧ SeqAt.shaped d = true ∧ SeqAt.shaped (.list ds) = true ∧ (ds.any fun z => PyData.eqv z d) = b := by
  unfold inD at e
  split at e
  · rename_i d d' h1 h2
    obtain ⟨a1, a2⟩ := rdS_dp R h1 wx
    obtain ⟨b1, b2⟩ := rdS_dp R h2 wy
    cases e
    exact ⟨d, d', a1, b1, a2, b2, rfl⟩
  · cases e
theorem or_in (hK : X.K = G.K) (hu : X.A.units + 65 < cLine) : OpR X (compareOp .In) (R2h G (op2 .in_)) := by
  intro pins s σ H x y v u Q I rx ry h
  obtain ⟨π, h, a, b, r, h', rfl, rfl, wa, wb, R, e, q⟩ := h
  obtain ⟨e1, e2⟩ := look_ok (f := fun h => (inD h a b).map V.bl) e
  subst e2
  cases he : inD h a b with
  | none => rw [he] at e1; cases e1
  | some c =>
    rw [he] at e1
    cases e1
    obtain ⟨d, d', h1, h2, s1, s2, hc⟩ := inD_ok R he wa wb
    refine op_inD hu pins s σ H _ _ v u Q I rx ry ⟨d, d', by rw [hK]; exact h1, by rw [hK]; exact h2, s1, s2, ?_⟩
    rw [hc]
    exact same (v := .bl c) q R trivial
theorem or_notin (hK : X.K = G.K) (hu : X.A.units + 65 < cLine) : OpR X (compareOp .NotIn) (R2h G (op2 .notin)) := by
  intro pins s σ H x y v u Q I rx ry h
  obtain ⟨π, h, a, b, r, h', rfl, rfl, wa, wb, R, e, q⟩ := h
  obtain ⟨e1, e2⟩ := look_ok (f := fun h => (inD h a b).map fun b => V.bl !b) e
  subst e2
  cases he : inD h a b with
  | none => rw [he] at e1; cases e1
  | some c =>
    rw [he] at e1
    cases e1
    obtain ⟨d, d', h1, h2, s1, s2, hc⟩ := inD_ok R he wa wb
    refine op_notInD hu pins s σ H _ _ v u Q I rx ry ⟨d, d', by rw [hK]; exact h1, by rw [hK]; exact h2, s1, s2, ?_⟩
    rw [hc]
    exact same (v := .bl !c) q R trivial
theorem im_non {π : Nat → Addr} {x : V} : decide (im π x = .non) = decide (x = .non) := by
  cases x <;> rfl
theorem or_is : OpR X (compareOp .Is) (R2h G (op2 .is_)) := by
  intro pins s σ H x y v u Q I rx ry h
  obtain ⟨π, h, a, b, r, h', rfl, rfl, wa, wb, R, e, q⟩ := h
  obtain ⟨e1, e2⟩ := opt_ok (o := (isO2 a b).map V.bl) e
  subst e2
  obtain ⟨k, hk, e1⟩ := Option.map_eq_some_iff.mp e1
  subst e1
  unfold isO2 at hk
  split at hk
  · cases hk
    refine op_isN pins s σ H _ _ v u Q I rx ry ⟨rfl, ?_⟩
    rw [im_non]
    exact same (v := .bl _) q R trivial
  · split at hk
    · cases hk
      exact op_isBl pins s σ H _ _ v u Q I rx ry ⟨_, _, rfl, rfl, same (v := .bl _) q R trivial⟩
    · cases hk
  · cases hk
theorem or_isnot : OpR X (compareOp .IsNot) (R2h G (op2 .isnot)) := by
  intro pins s σ H x y v u Q I rx ry h
  obtain ⟨π, h, a, b, r, h', rfl, rfl, wa, wb, R, e, q⟩ := h
  obtain ⟨e1, e2⟩ := opt_ok (o := (isO2 a b).map fun b => V.bl !b) e
  subst e2
  obtain ⟨k, hk, e1⟩ := Option.map_eq_some_iff.mp e1
  subst e1
  unfold isO2 at hk
  split at hk
  · cases hk
    refine op_notN pins s σ H _ _ v u Q I rx ry ⟨rfl, ?_⟩
    rw [im_non]
    exact same (v := .bl _) q R trivial
  · split at hk
    · cases hk
      exact op_notBl pins s σ H _ _ v u Q I rx ry ⟨_, _, rfl, rfl, same (v := .bl _) q R trivial⟩
    · cases hk
  · cases hk

/-! ### subscripts -/
theorem ix_ok (hK : X.K = G.K) : IxR X (R2h G index) := by
  have base := ix_seq (X := X)
  intro value slice pins s σ H x y v u Q I rx ry h hs
  obtain ⟨π, h, a, b, r, h', rfl, rfl, wa, wb, R, e, q⟩ := h
  unfold index at e
  split at e
  · rename_i c k
    obtain ⟨e1, e2⟩ := look_ok e
    subst e2
    split at e1
    · rename_i xs hx
      obtain ⟨l1, w1⟩ := R.seqL hx
      rw [← hK] at l1
      exact base value slice pins s σ H _ _ v u Q I rx ry (.inl ⟨π c, imL π xs, k, im π r, rfl, rfl, l1, atI_map e1, same q R (w1 _ (atI_mem e1))⟩) hs
    · split at e1
      · rename_i xs hx
        obtain ⟨l1, w1⟩ := R.seqT hx
        rw [← hK] at l1
        exact base value slice pins s σ H _ _ v u Q I rx ry (.inr (.inl ⟨π c, imL π xs, k, im π r, rfl, rfl, l1, atI_map e1, same q R (w1 _ (atI_mem e1))⟩)) hs
      · cases e1
  · rename_i z k
    split at e
    · rename_i hz
      obtain ⟨e1, e2⟩ := opt_ok e
      subst e2
      cases hc : atI z.cps.toList k with
      | none => rw [hc] at e1; cases e1
      | some c =>
        rw [hc] at e1
        cases e1
        exact base value slice pins s σ H _ _ v u Q I rx ry (.inr (.inr ⟨z, k, c, rfl, rfl, hz, hc, same (v := .str ⟨#[c]⟩) q R trivial⟩)) hs
    · exact (no_ok e).elim
  · exact (no_ok e).elim
theorem set_ok : PSet X (fun o i v H Q => ∃ π h a b c h', o = im π a ∧ i = im π b ∧ v = im π c ∧ wf h.length a ∧ wf h.length b ∧ wf h.length c ∧ HR G π h H ∧ setAt a b c h = some (.ok (), h') ∧
    ∀ π' H', Nx π h π' h' → HR G π' h' H' → Q H') := by
  intro pins s σ H o i v ov iv u Q I ro ri rv h
  obtain ⟨π, h, a, b, c, h', rfl, rfl, rfl, wa, wb, wc, R, e, q⟩ := h
  unfold setAt at e
  split at e
  · rename_i d k
    split at e
    · rename_i xs hx
      cases hj : ixN xs.length k with
      | none => rw [hj] at e; cases e
      | some j =>
        rw [hj] at e
        cases e
        obtain ⟨l1, w1⟩ := R.lstAt hx
        refine set_list pins s σ H _ _ _ ov iv u Q I ro ri rv ⟨π d, imL π xs, k, j, rfl, rfl, l1, by rw [imL_len]; exact hj, ?_⟩
        have e2 : (imL π xs).set j (im π c) = imL π (xs.set j c) := (List.map_set).symm
        rw [e2]
        refine q π _ set_nx (R.setL hx fun y hy => ?_)
        rcases List.mem_or_eq_of_mem_set hy with z | z
        · exact w1 y z
        · rw [z]; exact wc
    · cases e
  · exact (no_ok e).elim
end
end HI

set_option maxRecDepth 100000
set_option maxHeartbeats 4000000
/-! built-in functions, methods of lists -/
namespace HI
open PySem PySem.Spec PyProof.Rows L2
section
variable {X : Cx} {G : Gd}
theorem RLh.one {f : List V → Mo V} {xs : List V} {H : Hp} {Q : VK} (h : RLh G f xs H Q) : RLh G f xs H Q := h

theorem cr_len (hK : X.K = G.K) : CallR X (.builtin "len") (RLh G (bfn "len")) := by
  intro pins s σ H xs us Q I r h
  obtain ⟨π, h, vs, v, h', rfl, wv, R, e, q⟩ := h
  unfold bfn at e
  split at e
  · rename_i x
    have wx : wf h.length x := wv x List.mem_cons_self
    replace e : lenO x h = some (.ok v, h') := e
    unfold lenO at e
    split at e
    · rename_i a
      obtain ⟨e1, e2⟩ := look_ok e
      subst e2
      split at e1
      · rename_i ys hy
        cases e1
        obtain ⟨l1, _⟩ := R.seqL hy
        rw [← hK] at l1
        exact call_len pins s σ H _ us Q I r ⟨_, ys.length, rfl, .inl ⟨_, l1, by rw [imL_len]⟩, same (v := .int ys.length) q R trivial⟩
      · split at e1
        · rename_i ys hy
          cases e1
          obtain ⟨l1, _⟩ := R.seqT hy
          rw [← hK] at l1
          exact call_len pins s σ H _ us Q I r ⟨_, ys.length, rfl, .inr ⟨_, l1, by rw [imL_len]⟩, same (v := .int ys.length) q R trivial⟩
        · cases e1
    · rename_i z
      split at e
      · rename_i hz
        obtain ⟨e1, e2⟩ := rt_ok e
        subst e1 e2
        exact call_len pins s σ H _ us Q I r ⟨_, z.length, rfl, ⟨hz, rfl⟩, same (v := .int z.length) q R trivial⟩
      · exact (no_ok e).elim
    · exact (no_ok e).elim
  · exact (no_ok e).elim
  · exact (no_ok e).elim
  · exact (no_ok e).elim
theorem cr_abs : CallR X (.builtin "abs") (RLh G (bfn "abs")) := by
  intro pins s σ H xs us Q I r h
  obtain ⟨π, h, vs, v, h', rfl, wv, R, e, q⟩ := h
  unfold bfn at e
  split at e
  · rename_i x
    replace e : absO x h = some (.ok v, h') := e
    unfold absO at e
    split at e
    · rename_i i
      obtain ⟨e1, e2⟩ := rt_ok e
      subst e1 e2
      exact call_abs pins s σ H _ us Q I r ⟨i, rfl, same (v := .int _) q R trivial⟩
    · exact (no_ok e).elim
  · exact (no_ok e).elim
  · exact (no_ok e).elim
  · exact (no_ok e).elim
theorem cr_int : CallR X (.type "int") (RLh G (bfn "int")) := by
  intro pins s σ H xs us Q I r h
  obtain ⟨π, h, vs, v, h', rfl, wv, R, e, q⟩ := h
  unfold bfn at e
  split at e
  · rename_i x
    replace e : intC x h = some (.ok v, h') := e
    unfold intC at e
    split at e
    · rename_i i
      obtain ⟨e1, e2⟩ := rt_ok e
      subst e1 e2
      exact call_int1 pins s σ H _ us Q I r (.inl ⟨i, rfl, same (v := .int _) q R trivial⟩)
    · rename_i b
      obtain ⟨e1, e2⟩ := rt_ok e
      subst e1 e2
      exact call_int1 pins s σ H _ us Q I r (.inr ⟨b, rfl, same (v := .int _) q R trivial⟩)
    · exact (no_ok e).elim
  · exact (no_ok e).elim
  · exact (no_ok e).elim
  · exact (no_ok e).elim
theorem boolsO_ok : ∀ {xs : List V} {bs : List Bool}, boolsO xs = some bs → xs = bs.map V.bl
  | [], bs, e => by
    unfold boolsO at e
    rw [List.mapM_nil] at e
    cases e; rfl
  | x :: r, bs, e => by
    unfold boolsO at e
    rw [List.mapM_cons] at e
    cases x with
    | bl b =>
      cases hr : boolsO r with
      | none => unfold boolsO at hr; simp only [hr] at e; cases e
      | some cs =>
        have e2 := boolsO_ok hr
        unfold boolsO at hr; simp only [hr] at e
        cases e
        rw [e2]; rfl
    | _ => cases e
theorem intsO_ok : ∀ {xs : List V} {bs : List Int}, intsO xs = some bs → xs = bs.map V.int
  | [], bs, e => by
    unfold intsO at e
    rw [List.mapM_nil] at e
    cases e; rfl
  | x :: r, bs, e => by
    unfold intsO at e
    rw [List.mapM_cons] at e
    cases x with
    | int b =>
      cases hr : intsO r with
      | none => unfold intsO at hr; simp only [hr] at e; cases e
      | some cs =>
        have e2 := intsO_ok hr
        unfold intsO at hr; simp only [hr] at e
        cases e
        rw [e2]; rfl
    | _ => cases e
theorem imL_bl {π : Nat → Addr} {bs : List Bool} : imL π (bs.map V.bl) = bs.map V.bl := by
  show List.map _ (List.map _ _) = _
  rw [List.map_map]; rfl
theorem imL_int {π : Nat → Addr} {bs : List Int} : imL π (bs.map V.int) = bs.map V.int := by
  show List.map _ (List.map _ _) = _
  rw [List.map_map]; rfl
theorem maxI_ok : ∀ {ns : List Int} {m : Int}, maxI ns = some m → 0 < ns.length ∧ m ∈ ns ∧ ∀ y ∈ ns, y ≤ m
  | [], m, e => by cases e
  | x :: r, m, e => by
    refine ⟨Nat.succ_pos _, ?_⟩
    unfold maxI at e
    cases hr : maxI r with
    | none =>
      rw [hr] at e
      cases e
      cases r with
      | nil => exact ⟨List.mem_cons_self, fun y hy => by rw [List.mem_singleton.mp hy]; exact Int.le_refl _⟩
      | cons z r => unfold maxI at hr; split at hr <;> cases hr
    | some k =>
      obtain ⟨_, h1, h2⟩ := maxI_ok hr
      rw [hr] at e
      dsimp only at e
      split at e <;> cases e
      · exact ⟨List.mem_cons_of_mem _ h1, fun y hy => by rcases List.mem_cons.mp hy with rfl | hy; exact Int.le_of_lt (by assumption); exact h2 y hy⟩
      · exact ⟨List.mem_cons_self, fun y hy => by rcases List.mem_cons.mp hy with rfl | hy; exact Int.le_refl _; exact Int.le_trans (h2 y hy) (by omega)⟩
theorem minI_ok : ∀ {ns : List Int} {m : Int}, minI ns = some m → 0 < ns.length ∧ m ∈ ns ∧ ∀ y ∈ ns, m ≤ y
  | [], m, e => by cases e
  | x :: r, m, e => by
    refine ⟨Nat.succ_pos _, ?_⟩
    unfold minI at e
    cases hr : minI r with
    | none =>
      rw [hr] at e
      cases e
      cases r with
      | nil => exact ⟨List.mem_cons_self, fun y hy => by rw [List.mem_singleton.mp hy]; exact Int.le_refl _⟩
      | cons z r => unfold minI at hr; split at hr <;> cases hr
    | some k =>
      obtain ⟨_, h1, h2⟩ := minI_ok hr
      rw [hr] at e
      dsimp only at e
      split at e <;> cases e
      · exact ⟨List.mem_cons_of_mem _ h1, fun y hy => by rcases List.mem_cons.mp hy with rfl | hy; exact Int.le_of_lt (by assumption); exact h2 y hy⟩
      · exact ⟨List.mem_cons_self, fun y hy => by rcases List.mem_cons.mp hy with rfl | hy; exact Int.le_refl _; exact Int.le_trans (by omega) (h2 y hy)⟩
theorem cr_all (hc : X.calm = true) (hK : X.K = G.K) : CallR X (.builtin "all") (RLh G (bfn "all")) := by
  intro pins s σ H xs us Q I r h
  obtain ⟨π, h, vs, v, h', rfl, wv, R, e, q⟩ := h
  unfold bfn at e
  split at e
  · rename_i x
    replace e : allO x h = some (.ok v, h') := e
    unfold allO at e
    split at e
    · rename_i a
      obtain ⟨e1, e2⟩ := look_ok e
      subst e2
      obtain ⟨xs, hx, e1⟩ := Option.bind_eq_some_iff.mp e1
      obtain ⟨bs, hb, e1⟩ := Option.map_eq_some_iff.mp e1
      subst e1
      obtain rfl := boolsO_ok hb
      obtain ⟨l1, _⟩ := R.seqL hx
      rw [← hK, imL_bl] at l1
      exact L2.cr_all hc pins s σ H _ us Q I r ⟨_, bs, rfl, l1, same (v := .bl _) q R trivial⟩
    · exact (no_ok e).elim
  · exact (no_ok e).elim
  · exact (no_ok e).elim
  · exact (no_ok e).elim
theorem cr_any (hc : X.calm = true) (hK : X.K = G.K) : CallR X (.builtin "any") (RLh G (bfn "any")) := by
  intro pins s σ H xs us Q I r h
  obtain ⟨π, h, vs, v, h', rfl, wv, R, e, q⟩ := h
  unfold bfn at e
  split at e
  · rename_i x
    replace e : anyO x h = some (.ok v, h') := e
    unfold anyO at e
    split at e
    · rename_i a
      obtain ⟨e1, e2⟩ := look_ok e
      subst e2
      obtain ⟨xs, hx, e1⟩ := Option.bind_eq_some_iff.mp e1
      obtain ⟨bs, hb, e1⟩ := Option.map_eq_some_iff.mp e1
      subst e1
      obtain rfl := boolsO_ok hb
      obtain ⟨l1, _⟩ := R.seqL hx
      rw [← hK, imL_bl] at l1
      exact L2.cr_any hc pins s σ H _ us Q I r ⟨_, bs, rfl, l1, same (v := .bl _) q R trivial⟩
    · exact (no_ok e).elim
  · exact (no_ok e).elim
  · exact (no_ok e).elim
  · exact (no_ok e).elim
theorem cr_sum (hc : X.calm = true) (hK : X.K = G.K) : CallR X (.builtin "sum") (RLh G (bfn "sum")) := by
  intro pins s σ H xs us Q I r h
  obtain ⟨π, h, vs, v, h', rfl, wv, R, e, q⟩ := h
  unfold bfn at e
  split at e
  · rename_i x
    replace e : sumO x h = some (.ok v, h') := e
    unfold sumO at e
    split at e
    · rename_i a
      obtain ⟨e1, e2⟩ := look_ok e
      subst e2
      obtain ⟨xs, hx, e1⟩ := Option.bind_eq_some_iff.mp e1
      obtain ⟨bs, hb, e1⟩ := Option.map_eq_some_iff.mp e1
      subst e1
      obtain rfl := intsO_ok hb
      obtain ⟨l1, _⟩ := R.seqL hx
      rw [← hK, imL_int] at l1
      exact L2.cr_sum hc pins s σ H _ us Q I r ⟨_, bs, rfl, l1, same (v := .int _) q R trivial⟩
    · exact (no_ok e).elim
  · exact (no_ok e).elim
  · exact (no_ok e).elim
  · exact (no_ok e).elim
theorem cr_max (hc : X.calm = true) (hK : X.K = G.K) : CallR X (.builtin "max") (RLh G (bfn "max")) := by
  intro pins s σ H xs us Q I r h
  obtain ⟨π, h, vs, v, h', rfl, wv, R, e, q⟩ := h
  unfold bfn at e
  split at e
  · rename_i x
    replace e : maxO x h = some (.ok v, h') := e
    unfold maxO at e
    split at e
    · rename_i a
      obtain ⟨e1, e2⟩ := look_ok e
      subst e2
      obtain ⟨xs, hx, e1⟩ := Option.bind_eq_some_iff.mp e1
      obtain ⟨bs, hb, e1⟩ := Option.bind_eq_some_iff.mp e1
      obtain ⟨m, hm, e1⟩ := Option.map_eq_some_iff.mp e1
      subst e1
      obtain rfl := intsO_ok hb
      obtain ⟨l1, _⟩ := R.seqL hx
      rw [← hK, imL_int] at l1
      obtain ⟨m1, m2, m3⟩ := maxI_ok hm
      refine L2.cr_max hc pins s σ H _ us Q I r ⟨_, bs, rfl, l1, m1, fun k k1 k2 => ?_⟩
      obtain rfl : k = m := Int.le_antisymm (m3 k k1) (k2 m m2)
      exact same (v := .int _) q R trivial
    · exact (no_ok e).elim
  · rename_i i j
    obtain ⟨e1, e2⟩ := rt_ok e
    subst e1 e2
    exact call_max2 hc pins s σ H _ us Q I r ⟨i, j, rfl, same (v := .int _) q R trivial⟩
  · exact (no_ok e).elim
  · exact (no_ok e).elim
theorem cr_min (hc : X.calm = true) (hK : X.K = G.K) : CallR X (.builtin "min") (RLh G (bfn "min")) := by
  intro pins s σ H xs us Q I r h
  obtain ⟨π, h, vs, v, h', rfl, wv, R, e, q⟩ := h
  unfold bfn at e
  split at e
  · rename_i x
    replace e : minO x h = some (.ok v, h') := e
    unfold minO at e
    split at e
    · rename_i a
      obtain ⟨e1, e2⟩ := look_ok e
      subst e2
      obtain ⟨xs, hx, e1⟩ := Option.bind_eq_some_iff.mp e1
      obtain ⟨bs, hb, e1⟩ := Option.bind_eq_some_iff.mp e1
      obtain ⟨m, hm, e1⟩ := Option.map_eq_some_iff.mp e1
      subst e1
      obtain rfl := intsO_ok hb
      obtain ⟨l1, _⟩ := R.seqL hx
      rw [← hK, imL_int] at l1
      obtain ⟨m1, m2, m3⟩ := minI_ok hm
      refine L2.cr_min hc pins s σ H _ us Q I r ⟨_, bs, rfl, l1, m1, fun k k1 k2 => ?_⟩
      obtain rfl : k = m := Int.le_antisymm (k2 m m2) (m3 k k1)
      exact same (v := .int _) q R trivial
    · exact (no_ok e).elim
  · rename_i i j
    obtain ⟨e1, e2⟩ := rt_ok e
    subst e1 e2
    exact call_min2 hc pins s σ H _ us Q I r ⟨i, j, rfl, same (v := .int _) q R trivial⟩
  · exact (no_ok e).elim
  · exact (no_ok e).elim
/-- a thing's type, in the heap -/
theorem tyO_ok {π : Nat → Addr} {h : Hh} {H : Hp} (R : HR G π h H) {x : V} {t : String} (e : tyO h x = some t) : TyX G.K H (im π x) (.type t) := by
  cases x with
  | non => cases e; exact .base .non
  | bl b => cases e; exact .base (.bl b)
  | int b => cases e; exact .base (.int b)
  | str b => cases e; exact .base (.str b)
  | ref a =>
    unfold tyO at e
    dsimp only at e
    split at e
    · rename_i xs hx
      cases e
      unfold seqL at hx
      split at hx
      · rename_i hg
        exact .base (.lst (R.ob _ _ hg))
      · rename_i hg
        rcases R.ob _ _ hg with ⟨o, z⟩ | ⟨o, its, n, h1, h2, _⟩
        · exact .base (.frz z)
        · exact .kList h1 h2
      · cases hx
    · split at e
      · rename_i xs hx
        cases e
        unfold seqT at hx
        split at hx
        · rename_i hg
          exact .base (.tup (R.ob _ _ hg))
        · rename_i hg
          obtain ⟨o, its, n, h1, h2, _⟩ := R.ob _ _ hg
          exact .kTuple h1 h2
        · cases hx
      · cases e
  | _ => cases e
theorem subTy_ok {K : PySem.W.Frag} {h : Hh} {x : V} {s : String} (e : tyO h x = some s) {t : String} (ht : t ∈ ["int", "bool", "list", "tuple", "str"]) : PySem.W.kitOne K (.type s) (.type t) = some (subTy s t) := by
  have hs : s ∈ ["NoneType", "bool", "int", "str", "list", "tuple"] := by
    cases x with
    | non => cases e; decide
    | bl b => cases e; decide
    | int b => cases e; decide
    | str b => cases e; decide
    | ref a =>
      unfold tyO at e
      dsimp only at e
      split at e
      · cases e; decide
      · split at e
        · cases e; decide
        · cases e
    | _ => cases e
  have all : ∀ s ∈ ["NoneType", "bool", "int", "str", "list", "tuple"], ∀ t ∈ ["int", "bool", "list", "tuple", "str"], kitB s t = some (subTy s t) := by decide +kernel
  exact kit_ty (all s hs t ht)
theorem cr_tuple (hK : X.K = G.K) : CallR X (.type "tuple") (RLh G (bfn "tuple")) := by
  intro pins s σ H xs us Q I r h
  obtain ⟨π, h, vs, v, h', rfl, wv, R, e, q⟩ := h
  unfold bfn at e
  split at e
  · rename_i x
    have wx : wf h.length x := wv x List.mem_cons_self
    replace e : tupleO x h = some (.ok v, h') := e
    unfold tupleO at e
    split at e
    · rename_i a
      split at e
      · rename_i ys hy
        obtain ⟨l1, w1⟩ := R.seqL hy
        rw [← hK] at l1
        exact call_tuple_of pins s σ H _ us Q I r ⟨_, _, rfl, .inl ⟨l1, fun l hl => new_tup R w1 e q hl⟩⟩
      · split at e
        · rename_i ys hy
          obtain ⟨l1, w1⟩ := R.seqT hy
          rw [← hK] at l1
          obtain ⟨e1, e2⟩ := rt_ok e
          subst e1 e2
          exact call_tuple_of pins s σ H _ us Q I r ⟨_, _, rfl, .inr ⟨l1, same (v := .ref a) q R wx⟩⟩
        · cases e
    · exact (no_ok e).elim
  · exact (no_ok e).elim
  · exact (no_ok e).elim
  · exact (no_ok e).elim
theorem cr_list (hK : X.K = G.K) : CallR X (.type "list") (RLh G (bfn "list")) := by
  intro pins s σ H xs us Q I r h
  obtain ⟨π, h, vs, v, h', rfl, wv, R, e, q⟩ := h
  unfold bfn at e
  split at e
  · rename_i x
    replace e : listO x h = some (.ok v, h') := e
    unfold listO at e
    split at e
    · rename_i a
      split at e
      · rename_i ys hy
        obtain ⟨l1, w1⟩ := R.seqL hy
        rw [← hK] at l1
        exact call_list_of pins s σ H _ us Q I r ⟨_, _, rfl, .inl l1, fun l hl => new_lst R w1 e q hl⟩
      · split at e
        · rename_i ys hy
          obtain ⟨l1, w1⟩ := R.seqT hy
          rw [← hK] at l1
          exact call_list_of pins s σ H _ us Q I r ⟨_, _, rfl, .inr l1, fun l hl => new_lst R w1 e q hl⟩
        · cases e
    · exact (no_ok e).elim
  · exact (no_ok e).elim
  · exact (no_ok e).elim
  · exact (no_ok e).elim
theorem cr_repr (hK : X.K = G.K) (hg : X.A.guards = some []) (hu : X.A.units + 66 < cLine) : CallR X (.builtin "repr") (RLh G (bfn "repr")) := by
  intro pins s σ H xs us Q I r h
  obtain ⟨π, h, vs, v, h', rfl, wv, R, e, q⟩ := h
  unfold bfn at e
  split at e
  · rename_i x
    have wx : wf h.length x := wv x List.mem_cons_self
    replace e : reprO x h = some (.ok v, h') := e
    unfold reprO at e
    obtain ⟨e1, e2⟩ := look_ok e
    subst e2
    split at e1
    · rename_i d hd
      split at e1
      · rename_i hs
        obtain ⟨hs, hn, hz⟩ := hs
        cases e1
        obtain ⟨dp, sh⟩ := rdS_dp R hd wx
        rw [← hK] at dp
        obtain ⟨u, rfl, ru⟩ := vals1 r
        have qq : Q (.str d.shown) H := same (v := .str d.shown) q R trivial
        have fin : EP X pins σ Q (.str d.shown s.toks) { s with toks := s.toks + 1 } := ⟨.str d.shown, H, I.tok _, ⟨_, rfl⟩, qq⟩
        obtain ⟨as, rr⟩ := Dp.reads I d _ u dp ru
        have dpt := SeqAt.depth_of_shaped sh
        cases rr with
        | none => exact PySem.P.repr_of_none fin
        | bool b => exact PySem.P.repr_of_bool fin
        | int i t => exact PySem.P.repr_of_int (of_decide_eq_true (by simpa [PyData.showable] using hs)) fin
        | str y t => exact PySem.P.repr_of_str fin hz
        | list h1 h2 h3 h4 =>
          refine repr_of_reads' (.list h1 h2 h3 h4) hs (fun z => by rw [hn] at z; cases z) hg (by omega) (fun _ _ z => z) (fun h' u tk hk => ?_) hz
          exact ⟨.str _, H, I.kept hk, ⟨_, rfl⟩, qq⟩
        | tuple h1 h2 h3 h4 =>
          refine repr_of_reads' (.tuple h1 h2 h3 h4) hs (fun z => by rw [hn] at z; cases z) hg (by omega) (fun _ _ z => z) (fun h' u tk hk => ?_) hz
          exact ⟨.str _, H, I.kept hk, ⟨_, rfl⟩, qq⟩
        | dict h1 h2 h3 h4 h5 => exact absurd hn (by simp [PyData.hasDict])
      · cases e1
    · cases e1
  · exact (no_ok e).elim
  · exact (no_ok e).elim
  · exact (no_ok e).elim

/-- a list's method by the interpreter: the receiver at a -/
def RMh (G : Gd) (m : String) : V → List V → Hp → VK → Prop := fun x xs H Q => ∃ π h a vs v h', x = im π (.ref a) ∧ xs = imL π vs ∧ a < h.length ∧ wfL h.length vs ∧ HR G π h H ∧ lmeth m a vs h = some (.ok v, h') ∧ Then G Q π h h' v
theorem mr_append : MtR X "list.append" (RMh G "append") := by
  intro pins s σ H x xs v us Q I rx rs h
  obtain ⟨π, h, a, vs, r, h', rfl, rfl, wa, wv, R, e, q⟩ := h
  unfold lmeth at e
  split at e
  · cases e
  · rename_i ys hy
    obtain ⟨l1, w1⟩ := R.lstAt hy
    split at e
    · rename_i y _
      split at e
      · rename_i hz
        cases e
        refine mt_append pins s σ H _ _ v us Q I rx rs ⟨π a, imL π ys, im π y, rfl, rfl, l1, by rw [imL_len]; exact hz, ?_⟩
        have wy : wfL h.length (ys ++ [y]) := wfL_app w1 wv
        have z := q π _ set_nx (R.setL hy wy) trivial
        rw [imL_app] at z
        exact z
      · cases e
    all_goals (first | (rename_i z; exact absurd z (by decide)) | (cases e; done))
theorem mr_insert : MtR X "list.insert" (RMh G "insert") := by
  intro pins s σ H x xs v us Q I rx rs h
  obtain ⟨π, h, a, vs, r, h', rfl, rfl, wa, wv, R, e, q⟩ := h
  unfold lmeth at e
  split at e
  · cases e
  · rename_i ys hy
    obtain ⟨l1, w1⟩ := R.lstAt hy
    split at e
    · rename_i z; exact absurd z (by decide)
    · rename_i i y _
      split at e
      · rename_i hz
        obtain ⟨hz, h0, h1⟩ := hz
        cases e
        refine mt_insert pins s σ H _ _ v us Q I rx rs ⟨π a, imL π ys, i, im π y, rfl, rfl, l1, by rw [imL_len]; exact hz, h0, h1, ?_⟩
        have wy : wfL h.length (ys.take i.toNat ++ [y] ++ ys.drop i.toNat) := wfL_app (wfL_app (fun u hu => w1 u (List.mem_of_mem_take hu)) fun u hu => wv u (by rw [List.mem_singleton.mp hu]; simp)) fun u hu => w1 u (List.mem_of_mem_drop hu)
        have z := q π _ set_nx (R.setL hy wy) trivial
        rw [imL_app, imL_app] at z
        have e1 : imL π (ys.take i.toNat) = (imL π ys).take i.toNat := List.map_take
        have e2 : imL π (ys.drop i.toNat) = (imL π ys).drop i.toNat := List.map_drop
        rw [e1, e2] at z
        exact z
      · cases e
    all_goals (first | (rename_i z; exact absurd z (by decide)) | (cases e; done))
theorem mr_clear : MtR X "list.clear" (RMh G "clear") := by
  intro pins s σ H x xs v us Q I rx rs h
  obtain ⟨π, h, a, vs, r, h', rfl, rfl, wa, wv, R, e, q⟩ := h
  unfold lmeth at e
  split at e
  · cases e
  · rename_i ys hy
    obtain ⟨l1, w1⟩ := R.lstAt hy
    split at e
    · rename_i z; exact absurd z (by decide)
    · rename_i z; exact absurd z (by decide)
    · cases e
      refine mt_clear pins s σ H _ _ v us Q I rx rs ⟨π a, imL π ys, rfl, rfl, l1, ?_⟩
      exact q π _ set_nx (R.setL hy (ys := []) fun u hu => nomatch hu) trivial
    all_goals (first | (rename_i z; exact absurd z (by decide)) | (cases e; done))
theorem mr_reverse : MtR X "list.reverse" (RMh G "reverse") := by
  intro pins s σ H x xs v us Q I rx rs h
  obtain ⟨π, h, a, vs, r, h', rfl, rfl, wa, wv, R, e, q⟩ := h
  unfold lmeth at e
  split at e
  · cases e
  · rename_i ys hy
    obtain ⟨l1, w1⟩ := R.lstAt hy
    split at e
    · rename_i z; exact absurd z (by decide)
    · rename_i z; exact absurd z (by decide)
    · rename_i z; exact absurd z (by decide)
    · cases e
      refine mt_reverse pins s σ H _ _ v us Q I rx rs ⟨π a, imL π ys, rfl, rfl, l1, ?_⟩
      have z := q π _ set_nx (R.setL hy (ys := ys.reverse) fun u hu => w1 u (List.mem_reverse.mp hu)) trivial
      have e1 : imL π ys.reverse = (imL π ys).reverse := List.map_reverse
      rw [e1] at z
      exact z
    all_goals (first | (rename_i z; exact absurd z (by decide)) | (cases e; done))
end
end HI

set_option maxRecDepth 100000
set_option maxHeartbeats 4000000
/-! sorted -/
namespace HI
open PySem PySem.Spec PyProof.Rows L2 SrtO

section
variable {α : Type} {lt : α → α → Bool}
theorem ins_perm (x : α) : ∀ l : List α, (ins lt x l).Perm (x :: l)
  | [] => List.Perm.refl _
  | y :: r => by
    unfold ins
    split
    · exact ((ins_perm x r).cons y).trans (List.Perm.swap x y r)
    · exact List.Perm.refl _
theorem isort_perm : ∀ l : List α, (isort lt l).Perm l
  | [] => List.Perm.refl _
  | x :: r => (ins_perm x _).trans ((isort_perm r).cons x)
theorem isort_mem {l : List α} {x : α} : x ∈ isort lt l ↔ x ∈ l := (isort_perm l).mem_iff
theorem isort_len {l : List α} : (isort lt l).length = l.length := (isort_perm l).length_eq
theorem ins_sorted (O : Swo lt) (x : α) : ∀ {l : List α}, Srtd lt l → Srtd lt (ins lt x l)
  | [], _ => srtd_one x
  | y :: r, h => by
    unfold ins
    split
    · rename_i c
      refine List.pairwise_cons.mpr ⟨fun z hz => ?_, ins_sorted O x (List.pairwise_cons.mp h).2⟩
      rcases List.mem_cons.mp ((ins_perm x r).mem_iff.mp hz) with rfl | hz
      · exact O.asym _ _ c
      · exact srtd_head h z hz
    · rename_i c
      have c : lt y x = false := by simpa using c
      refine List.pairwise_cons.mpr ⟨fun z hz => ?_, h⟩
      rcases List.mem_cons.mp hz with rfl | hz
      · exact c
      · exact O.tr _ _ _ c (srtd_head h z hz)
theorem isort_sorted (O : Swo lt) : ∀ l : List α, Srtd lt (isort lt l)
  | [] => List.Pairwise.nil
  | x :: r => ins_sorted O x (isort_sorted O r)
theorem ins_stb (O : Swo lt) (x : α) : ∀ l : List α, Stb lt (ins lt x l) (x :: l)
  | [] => Stb.refl _
  | y :: r => by
    unfold ins
    split
    · rename_i c
      refine ⟨((ins_perm x r).cons y).trans (List.Perm.swap x y r), fun z => ?_⟩
      have e := (ins_stb O x r).cls z
      rw [List.filter_cons, e, List.filter_cons, List.filter_cons, List.filter_cons]
      split
      · rename_i h1
        split
        · rename_i h2
          have z1 := eqv_iff.mp h1
          have z2 := eqv_iff.mp h2
          have q : lt y x = false := O.tr _ _ _ z2.1 z1.2
          rw [q] at c
          cases c
        · rfl
      · rfl
    · exact Stb.refl _
theorem Stb.consq {x : α} {l m : List α} (h : Stb lt l m) : Stb lt (x :: l) (x :: m) := ⟨h.perm.cons x, fun z => by
  rw [List.filter_cons, List.filter_cons, h.cls z]⟩
theorem isort_stb (O : Swo lt) : ∀ l : List α, Stb lt (isort lt l) l
  | [] => Stb.refl _
  | x :: r => (ins_stb O x _).trans (Stb.consq (isort_stb O r))
theorem Stb.sym {l m : List α} (h : Stb lt l m) : Stb lt m l := ⟨h.perm.symm, fun z => (h.cls z).symm⟩
end

theorem swo_lexI : Swo (PyProof.Rows.lexLt PyProof.Rows.itemOrd) := by
  refine ⟨fun x y h => ?_, fun x y z h1 h2 => ?_⟩
  · rcases bcase (lexLt itemOrd y x) with q | q
    · have := lex_trans _ _ _ h q
      rw [lex_irrefl] at this
      cases this
    · exact q
  · rcases bcase (lexLt itemOrd z x) with q | q
    · rcases lex_negTrans z y x q with c | c
      · rw [c] at h2; cases h2
      · rw [c] at h1; cases h1
    · exact q
theorem Swo.of {α β : Type} {lt : β → β → Bool} (O : Swo lt) (f : α → β) : Swo fun x y => lt (f x) (f y) := ⟨fun _ _ h => O.asym _ _ h, fun _ _ _ h1 h2 => O.tr _ _ _ h1 h2⟩
theorem swo_ltK {h : Hh} {shape : Nat → Bool} : Swo (ltK h shape) := Swo.of swo_lexI fun v => (keyV h shape v).getD []
theorem swo_int2 : Swo fun i j : Int => decide (i < j) := ⟨fun x y h => by simp at *; omega, fun x y z h1 h2 => by simp at *; omega⟩
theorem ints_of {xs : List V} (h : xs.all isI = true) : ∃ ns : List Int, xs = ns.map V.int := by
  induction xs with
  | nil => exact ⟨[], rfl⟩
  | cons x r ih =>
    rw [List.all_cons, Bool.and_eq_true] at h
    obtain ⟨ns, e⟩ := ih h.2
    cases x with
    | int i => exact ⟨i :: ns, by rw [e]; rfl⟩
    | _ => cases h.1
theorem isort_map {α β : Type} {lt : β → β → Bool} {f : α → β} : ∀ l : List α, isort lt (l.map f) = (isort (fun x y => lt (f x) (f y)) l).map f
  | [] => rfl
  | x :: r => by
    show ins lt (f x) (isort lt (r.map f)) = (ins _ x (isort _ r)).map f
    rw [isort_map r]
    generalize isort (fun x y => lt (f x) (f y)) r = l
    induction l with
    | nil => rfl
    | cons y l ih =>
      show (if lt (f y) (f x) then f y :: ins lt (f x) (l.map f) else f x :: f y :: l.map f) = (if lt (f y) (f x) then y :: ins _ x l else x :: y :: l).map f
      split
      · rw [ih]; rfl
      · rfl
theorem sorted_uniq : ∀ {a b : List Int}, a.Pairwise (· ≤ ·) → b.Pairwise (· ≤ ·) → a.Perm b → a = b := fun {a b} ha hb p => p.eq_of_pairwise (fun x y _ _ h1 h2 => by omega) ha hb
theorem isort_ints (ns : List Int) : isort ltI (ns.map V.int) = (isort (fun i j : Int => decide (i < j)) ns).map V.int := isort_map (lt := ltI) (f := V.int) ns

section
variable {X : Cx} {G : Gd}
theorem tupItems_eq {π : Nat → Addr} {shape : Nat → Bool} : ∀ {ks : List V} {its : List Value} (i : Nat) {l : List Kit}, Vals (imL π ks) its → kItems shape i ks = some l → tupItems shape i its = some l
  | [], _, i, l, r, h => by
    cases r
    exact h
  | k :: ks, _, i, l, r, h => by
    have r : Vals (im π k :: imL π ks) _ := r
    cases r with
    | cons r1 rr =>
      cases k with
      | int n =>
        obtain ⟨t, rfl⟩ := r1
        simp only [kItems] at h
        simp only [tupItems]
        split at h
        · cases h
        · rename_i c
          obtain ⟨l', e, rfl⟩ := Option.map_eq_some_iff.mp h
          rw [if_neg c, tupItems_eq (i + 1) rr e]; rfl
      | str x =>
        obtain ⟨t, rfl⟩ := r1
        simp only [kItems] at h
        simp only [tupItems]
        split at h
        · rename_i c
          obtain ⟨l', e, rfl⟩ := Option.map_eq_some_iff.mp h
          rw [if_pos c, tupItems_eq (i + 1) rr e]; rfl
        · cases h
      | _ => simp only [kItems] at h; cases h
/-- a tuple's key, as it stands in the heap -/
structure KeyAt (h : Heap) (shape : Nat → Bool) (v : Value) (l : List Kit) : Prop where
  has : ∃ a its, v = .ref a ∧ IsTup h a its ∧ tupItems shape 0 its.toList = some l ∧ l ≠ []
theorem KeyAt.keep {h h' : Heap} {shape : Nat → Bool} {v : Value} {l : List Kit} (k : KeyAt h shape v l) {a : Addr} (ha : ∀ its, ¬ IsTup h a its) (keep : ∀ b o, b ≠ a → h.get? b = some o → h'.get? b = some o) : KeyAt h' shape v l := by
  obtain ⟨c, its, rfl, t, e, z⟩ := k.has
  refine ⟨c, its, rfl, ?_, e, z⟩
  obtain ⟨o, ho, r⟩ := t
  exact ⟨o, keep c o (fun q => by subst q; exact ha its ⟨o, ho, r⟩) ho, r⟩
theorem KeyAt.key {h : Heap} {shape : Nat → Bool} {v : Value} {l : List Kit} (k : KeyAt h shape v l) : tupKey h shape v = some l := by
  obtain ⟨c, its, rfl, ⟨o, ho, hc, n, hd⟩, e, z⟩ := k.has
  unfold tupKey
  simp only [ho, hd]
  exact e
theorem KeyAt.tup {h : Heap} {shape : Nat → Bool} {v : Value} {l : List Kit} (k : KeyAt h shape v l) : ∃ f, TupOf h shape v f := by
  obtain ⟨c, its, rfl, ⟨o, ho, hc, n, hd⟩, e, z⟩ := k.has
  cases hi : its.toList with
  | nil =>
    rw [hi] at e
    exact absurd (Option.some.inj (show some [] = some l from e)).symm z
  | cons f r =>
    have hf : its[0]? = some f := by
      rw [← Array.getElem?_toList, hi]; rfl
    refine ⟨f, c, o, its, n, rfl, ho, hc, hd, hf, fun hs => ?_, fun hs => ?_⟩
    · rw [hi] at e
      obtain ⟨x, t, _, rfl, _⟩ := tupItems_int hs e
      exact ⟨x, t, rfl⟩
    · rw [hi] at e
      obtain ⟨x, t, _, rfl, _⟩ := tupItems_str hs e
      exact ⟨x, t, rfl⟩
theorem tups_of {h : Heap} {shape : Nat → Bool} : ∀ {vs : List Value}, (∀ v ∈ vs, ∃ l, KeyAt h shape v l) → ∃ fs, TupsOf h shape vs fs ∧ fs.length = vs.length
  | [], _ => ⟨[], .nil, rfl⟩
  | v :: vs, hv => by
    obtain ⟨l, k⟩ := hv v List.mem_cons_self
    obtain ⟨f, t⟩ := k.tup
    obtain ⟨fs, t2, e⟩ := tups_of fun u hu => hv u (List.mem_cons_of_mem _ hu)
    exact ⟨f :: fs, .cons t t2, congrArg (· + 1) e⟩
def ltVal (h : Heap) (shape : Nat → Bool) (u v : Value) : Bool := lexLt itemOrd ((tupKey h shape u).getD []) ((tupKey h shape v).getD [])
theorem sortable_tups {prog : Program} {w : World} {A : Around} {s : Shared} {a : Addr} {shape : Nat → Bool} {vs : List Value} (h2 : 2 ≤ vs.length) (hv : ∀ v ∈ vs, ∃ l, KeyAt s.heap shape v l) (ha : ∀ its, ¬ IsTup s.heap a its) :
    SortableO prog w A s a vs (ltVal s.heap shape) := by
  intro h' keep
  have hv' : ∀ v ∈ vs, ∃ l, KeyAt h' shape v l ∧ tupKey s.heap shape v = some l := fun v hm => by
    obtain ⟨l, k⟩ := hv v hm
    exact ⟨l, k.keep ha keep, k.key⟩
  obtain ⟨fs, t, e⟩ := tups_of (h := h') (shape := shape) (vs := vs) fun v hm => by
    obtain ⟨l, k, _⟩ := hv' v hm
    exact ⟨l, k⟩
  refine ⟨tuples' true, fun Q E hq => tup_kind (s := { s with heap := h' }) (by omega) t hq, fun p q hp hq => ?_⟩
  obtain ⟨l1, k1, e1⟩ := hv' _ hp
  obtain ⟨l2, k2, e2⟩ := hv' _ hq
  refine tup_ltAt (s := { s with heap := h' }) true A _ _ _ l1 l2 k1.key k2.key ⟨rfl, ?_⟩
  show lexLt itemOrd l1 l2 = lexLt itemOrd ((tupKey s.heap shape p.1).getD []) ((tupKey s.heap shape q.1).getD [])
  rw [e1, e2]; rfl
def valR (π : Nat → Addr) : V → Value
  | .ref b => .ref (π b)
  | _ => .none
theorem vals_refs {π : Nat → Addr} : ∀ {xs : List V} {its : List Value}, (∀ x ∈ xs, ∃ b, x = .ref b) → Vals (imL π xs) its → its = xs.map (valR π)
  | [], _, _, r => by cases r; rfl
  | x :: xs, _, h, r => by
    have r : Vals (im π x :: imL π xs) _ := r
    cases r with
    | cons r1 rr =>
      obtain ⟨b, rfl⟩ := h x List.mem_cons_self
      cases r1
      rw [vals_refs (fun y hy => h y (List.mem_cons_of_mem _ hy)) rr]; rfl
theorem refs_vals {π : Nat → Addr} : ∀ {xs : List V}, (∀ x ∈ xs, ∃ b, x = .ref b) → Vals (imL π xs) (xs.map (valR π))
  | [], _ => .nil
  | x :: xs, h => by
    obtain ⟨b, rfl⟩ := h x List.mem_cons_self
    exact .cons rfl (refs_vals fun y hy => h y (List.mem_cons_of_mem _ hy))
theorem hasK_ok {h : Hh} {shape : Nat → Bool} {v : V} (e : hasK h shape v = true) : ∃ b ks l, v = .ref b ∧ seqT h b = some ks ∧ kItems shape 0 ks = some l ∧ keyV h shape v = some l ∧ l ≠ [] := by
  unfold hasK at e
  split at e
  · rename_i x l hk
    have hk' := hk
    unfold keyV at hk
    split at hk
    · rename_i b
      split at hk
      · rename_i ks hs
        exact ⟨b, ks, _, rfl, hs, hk, hk', List.cons_ne_nil _ _⟩
      · cases hk
    · cases hk
  · cases e
theorem cr_sorted (hK : X.K = G.K) : CallR X (.builtin "sorted") (RLh G (bfn "sorted")) := by
  intro pins s σ H vs us Q I r h
  obtain ⟨π, h, as, v, h', rfl, wa, R, e, q⟩ := h
  unfold bfn at e
  split at e
  · rename_i x
    replace e : sortO x h = some (.ok v, h') := e
    unfold sortO sortV at e
    split at e
    · rename_i a
      split at e
      · rename_i xs hx
        obtain ⟨l1, w1⟩ := R.seqL hx
        rw [← hK] at l1
        split at e
        · rename_i hi
          obtain ⟨ns, rfl⟩ := ints_of hi
          have ei : imL π (ns.map V.int) = ns.map V.int := by
            show List.map _ (List.map _ _) = _
            rw [List.map_map]; rfl
          rw [ei] at l1
          refine cr_sortedI pins s σ H _ us Q I r ⟨π a, ns, rfl, l1, fun ns' p hp hs hf => ?_⟩
          have en : isort (fun i j : Int => decide (i < j)) ns = ns' := by
            refine sorted_uniq ?_ hs ((isort_perm ns).trans hp.symm)
            exact (isort_sorted swo_int2 ns).imp fun {x y} hh => by simpa using hh
          rw [isort_ints, en] at e
          have z := new_lst R (xs := ns'.map V.int) (fun v hv => by obtain ⟨i, _, rfl⟩ := List.mem_map.mp hv; trivial) e q hf
          have ei2 : imL π (ns'.map V.int) = ns'.map V.int := by
            show List.map _ (List.map _ _) = _
            rw [List.map_map]; rfl
          rw [ei2] at z
          exact z
        · split at e
          · rename_i b rest _
            split at e
            · rename_i k0 hk0
              split at e
              · rename_i hall
                generalize hsh : shapeOf k0 = shape at e hall
                generalize hxs : V.ref b :: rest = xs at e hall hx l1 w1
                have hks : ∀ x ∈ xs, hasK h shape x = true := fun x hm => List.all_eq_true.mp hall x hm
                have hr : ∀ x ∈ xs, ∃ b, x = .ref b := fun x hm => by
                  obtain ⟨b, _, _, e, _⟩ := hasK_ok (hks x hm)
                  exact ⟨b, e⟩
                obtain ⟨its, rv, hl, hz⟩ := I.list l1
                obtain ⟨u, rfl, ru⟩ := vals1 r
                obtain rfl : u = Value.ref (π a) := ru
                obtain rfl := vals_refs hr rv
                have kv : ∀ x ∈ xs, ∃ l, KeyAt s.heap shape (valR π x) l ∧ keyV h shape x = some l := fun x hm => by
                  obtain ⟨b, ks, l, rfl, hs, hi, hk, hne⟩ := hasK_ok (hks x hm)
                  obtain ⟨l2, _⟩ := R.seqT hs
                  rw [← hK] at l2
                  obtain ⟨is, rv2, it, _⟩ := I.tuple l2
                  exact ⟨l, ⟨_, _, rfl, it, tupItems_eq 0 rv2 hi, hne⟩, hk⟩
                have hkey : ∀ x ∈ xs, ∀ y ∈ xs, ltVal s.heap shape (valR π x) (valR π y) = ltK h shape x y := fun x hx y hy => by
                  obtain ⟨l1, k1, e1⟩ := kv x hx
                  obtain ⟨l2, k2, e2⟩ := kv y hy
                  unfold ltVal ltK
                  rw [k1.key, k2.key, e1, e2]
                have O : Swo (ltVal s.heap shape) := Swo.of swo_lexI fun v => (tupKey s.heap shape v).getD []
                refine SrtO.sorted_ord O hl.isList (by rw [List.length_map]; rw [imL_len] at hz; exact hz) (fun h2 h₁ a' ha kk => ?_) fun out h1 h2 => ?_
                · have e2 : ltVal s.heap shape = ltVal s.heap shape := rfl
                  have hv1 : ∀ v ∈ xs.map (valR π), ∃ l, KeyAt h₁ shape v l ∧ tupKey s.heap shape v = some l := fun v hm => by
                    obtain ⟨x, hx, rfl⟩ := List.mem_map.mp hm
                    obtain ⟨l, k, _⟩ := kv x hx
                    obtain ⟨c, is, e, t, e2, z⟩ := k.has
                    exact ⟨l, ⟨c, is, e, t.keeps fun b o e => (kk b o e).2, e2, z⟩, k.key⟩
                  have S := sortable_tups (prog := X.prog) (w := X.w) (A := X.A.in1.in1) (s := { s with heap := h₁ }) (a := a') (shape := shape) h2 (fun v hm => by obtain ⟨l, k, _⟩ := hv1 v hm; exact ⟨l, k⟩) (fun is ⟨o, ho, hc, _⟩ => by
                    rw [ha] at ho
                    cases ho
                    exact absurd (Value.type.inj hc) (by decide))
                  intro h' keep
                  obtain ⟨κ, S1, S2⟩ := S h' keep
                  refine ⟨κ, S1, fun p q hp hq => ?_⟩
                  have z := S2 p q hp hq
                  obtain ⟨l1, k1, e1⟩ := hv1 _ hp
                  obtain ⟨l2, k2, e2⟩ := hv1 _ hq
                  have e3 : ltVal h₁ shape p.1 q.1 = ltVal s.heap shape p.1 q.1 := by
                    unfold ltVal
                    rw [k1.key, k2.key, e1, e2]
                  refine wpAny_mono z (fun r s' hh => ⟨hh.1, hh.2.trans e3⟩) fun _ _ z => z
                · have eo : out = (isort (ltK h shape) xs).map (valR π) := by
                    have s1 : Srtd (ltVal s.heap shape) ((isort (ltK h shape) xs).map (valR π)) := by
                      refine List.pairwise_map.mpr ?_
                      refine (isort_sorted swo_ltK xs).imp_of_mem fun {x y} hx hy hh => ?_
                      rw [hkey y (isort_mem.mp hy) x (isort_mem.mp hx)]
                      exact hh
                    have s2 : Stb (ltVal s.heap shape) ((isort (ltK h shape) xs).map (valR π)) (xs.map (valR π)) := by
                      have t : ∀ xs : List V, (∀ x ∈ xs, ∀ y ∈ xs, ltVal s.heap shape (valR π x) (valR π y) = ltK h shape x y) → isort (ltK h shape) xs = isort (fun x y => ltVal s.heap shape (valR π x) (valR π y)) xs := by
                        intro xs
                        induction xs with
                        | nil => intro _; rfl
                        | cons x r ih =>
                          intro hk
                          show ins _ x (isort _ r) = ins _ x (isort _ r)
                          rw [← ih fun y hy z hz => hk y (List.mem_cons_of_mem _ hy) z (List.mem_cons_of_mem _ hz)]
                          have hm : ∀ z ∈ isort (ltK h shape) r, ltVal s.heap shape (valR π z) (valR π x) = ltK h shape z x := fun z hz => hk z (List.mem_cons_of_mem _ (isort_mem.mp hz)) x List.mem_cons_self
                          revert hm
                          generalize isort (ltK h shape) r = l
                          intro hm
                          induction l with
                          | nil => rfl
                          | cons y l ihl =>
                            show (if ltK h shape y x then _ else _) = (if ltVal s.heap shape (valR π y) (valR π x) then _ else _)
                            rw [hm y List.mem_cons_self, ihl fun z hz => hm z (List.mem_cons_of_mem _ hz)]
                      rw [t xs hkey]
                      exact Stb.map O (valR π) (isort_stb (Swo.of O (valR π)) xs)
                    exact stb_uniq O h1 s1 (h2.trans (Stb.sym s2))
                  subst eo
                  obtain ⟨ep, he'⟩ := PyProof.Rows.sortedAll_at s.heap (xs.map (valR π)) ((isort (ltK h shape) xs).map (valR π)).toArray
                  have wl : wfL h.length (isort (ltK h shape) xs) := fun v hv => w1 v (isort_mem.mp hv)
                  have fr : H (s.heap.objs.size + 1) = none := I.hok.fresh (Nat.le_succ _)
                  have z := new_lst R wl e q fr
                  have rl := refs_vals (π := π) (xs := isort (ltK h shape) xs) fun x hx => hr x (isort_mem.mp hx)
                  refine ⟨.ref _, upd H (s.heap.objs.size + 1) (.lst (imL π (isort (ltK h shape) xs))), I.laid (t' := s.toks) (fun _ _ => PyProof.Rows.sortedAll_old) (Nat.le_succ _) ⟨?_, _, ep, rl, he'⟩, rfl, z⟩
                  rw [imL_len, isort_len]
                  rw [imL_len] at hz
                  exact hz
              · cases e
            · cases e
          · cases e
      · cases e
    · exact (no_ok e).elim
  · cases e
  · exact (no_ok e).elim
  · exact (no_ok e).elim
end
end HI

set_option maxRecDepth 100000
set_option maxHeartbeats 4000000
/-! the shape of a term, and what follows from it -/
namespace HI
open PySem PySem.Spec PyProof.Rows L2

/-- a term that stands for a value by itself -/
def plE : Expr → Bool
  | .Starred .. => false
  | .Set .. => false
  | .Slice .. => false
  | .SetComp .. => false
  | .DictComp .. => false
  | .GeneratorExp .. => false
  | .NamedExpr .. => false
  | .Call (.Name x _) [] [] _ => !(x == "super")
  | _ => true
theorem star_cons {e : Expr} {es : List Expr} {env : Env} (h : plE e = true) : starEach (e :: es) env = (false, eval e env) :: starEach es env := by
  cases e <;> first | rfl | cases h
theorem back_cons {x : Bool × Sem Value} {r : List (Bool × Sem Value)} {pos : Pos} (h : x.1 = false) (hr : (backTo pos r).any (·.1) = false) : (backTo pos (x :: r)).any (·.1) = false := by
  unfold backTo at *
  simp_all
theorem back_plain {pos : Pos} {env : Env} : ∀ {es : List Expr}, (∀ e ∈ es, plE e = true) → (backTo pos (starEach es env)).any (·.1) = false
  | [], _ => rfl
  | e :: r, h => by
    rw [star_cons (h e List.mem_cons_self)]
    exact back_cons rfl (back_plain fun x hx => h x (List.mem_cons_of_mem _ hx))
theorem base_plain {o : Expr} {m : Str} {env : Env} (h : plE o = true) : attributeBase o m env (eval o env) = eval o env := by
  unfold attributeBase
  split
  · rename_i x p pos
    have hx : (x != "super") = true := by
      have : (!(x == ("super" : Str))) = true := h
      exact this
    simp only [hx, Bool.true_or, if_true]
  · rfl
theorem fold_plain {e : Expr} {env : Env} (h : plE e = true) : ∀ x, foldedSetIterable e env x = pure x := by
  intro x
  cases e <;> first | rfl | cases h
theorem mark_plain {e : Expr} {op : CmpOp} (h : plE e = true) : behindInMarks op e = false := by
  cases e <;> first | rfl | cases h
theorem swap_plain {e : Expr} {t : Option Expr} {n : Nat} {env : Env} (h : plE e = true) (h2 : ∀ a b c d, e ≠ .ListComp a b c d) : swapsWith e t n env = pure false := by
  cases e <;> first | rfl | exact absurd rfl (h2 _ _ _ _) | cases h
theorem sub_plain {e : Expr} (h : plE e = true) : PlainIx e := by
  intro o i
  cases e <;> first | rfl | cases h
theorem truth_plain {e : Expr} {env : Env} (h1 : ∀ a b, e ≠ .UnaryOp .Not a b) (h2 : ∀ a b c, e ≠ .BoolOp a b c) (h3 : ∀ a b c d, e ≠ .IfExp a b c d) (h4 : ∀ a b c d, e ≠ .Compare a b c d) :
    ∀ whole, isTrue e env whole = (do let v ← whole; standAt e.pos; holding [v] (truthy v)) := by
  intro whole
  cases e with
  | UnaryOp o a p => cases o <;> first | rfl | exact absurd rfl (h1 _ _)
  | BoolOp a b c => exact absurd rfl (h2 _ _ _)
  | IfExp a b c d => exact absurd rfl (h3 _ _ _ _)
  | Compare a b c d => exact absurd rfl (h4 _ _ _ _)
  | _ => rfl
theorem few_plain {pos : Pos} {env : Env} : ∀ {es : List Expr}, (∀ e ∈ es, plE e = true) → (backTo pos (starEach es env)).all (fun x => !x.1) = true := by
  intro es h
  have q := back_plain (pos := pos) (env := env) h
  simp only [List.any_eq_false, List.all_eq_true] at *
  intro x hx
  have := q x hx
  simpa using this
theorem mc_eq {o : Expr} {m : Str} {apos pos : Pos} {es : List Expr} {env : Env} (ho : plE o = true) (hes : ∀ e ∈ es, plE e = true) (hn : es.length < 30) (hl : (apos.endLine == pos.line) = true) :
    eval (.Call (.Attribute o m apos) es [] pos) env = (do
      let ov ← eval o env
      standAt apos.atName
      let (f, first) ← holding [ov] (getMethod ov m (do return (← importBound o env).getD true))
      callWith pos f first (backTo pos (starEach es env)) (backToKw pos (keywordEach [] env))) := by
  rw [arm_eval_Call, base_plain ho]
  have hform : methodCallForm (es.length + ([] : List Keyword).length) (backTo pos (starEach es env)) (backToKw pos (keywordEach [] env)) = true := by
    unfold methodCallForm
    rw [few_plain hes]
    show (true && true && decide (es.length + 0 + 0 < 30)) = true
    simp; exact hn
  have hpos : methodCallPos true o env apos pos = pure pos := by
    unfold methodCallPos
    rw [hl]; rfl
  unfold methodCall
  rw [hform, hpos]
  simp only [pure_bind]
  rfl
end HI

set_option maxRecDepth 100000
set_option maxHeartbeats 4000000
/-! a term does what the interpreter says: one construct after another -/
namespace HI
open PySem PySem.Spec PyProof.Rows L2

theorem pe_pick {X : Cx} {e : Expr} {t : TE} (h : ∀ σ H Q, t σ H Q → ∃ t0 : TE, PE X e t0 ∧ t0 σ H Q) : PE X e t := by
  constructor
  intro pins s σ H Q I q
  obtain ⟨t0, p, q0⟩ := h σ H Q q
  exact p.run pins s σ H Q I q0
theorem pe_of {X : Cx} {e : Expr} {t t0 : TE} (p : PE X e t0) (h : ∀ σ H Q, t σ H Q → t0 σ H Q) : PE X e t := pe_pick fun σ H Q q => ⟨t0, p, h σ H Q q⟩
theorem pt_of {X : Cx} {e : Expr} {t t0 : TT} (p : PT X e t0) (h : ∀ σ H Q, t σ H Q → t0 σ H Q) : PT X e t := by
  constructor
  intro pins s σ H Q I q
  exact p.run pins s σ H Q I (h σ H Q q)
theorem pw_of {X : Cx} {e : Expr} {t t0 : TT} (p : PW X e t0) (h : ∀ σ H Q, t σ H Q → t0 σ H Q) : PW X e t := by
  constructor
  intro wh pins s σ H Q I q
  exact p.run wh pins s σ H Q I (h σ H Q q)
theorem pa_of {X : Cx} {es : List Expr} {t t0 : TA} (p : PA X es t0) (h : ∀ σ H Q, t σ H Q → t0 σ H Q) : PA X es t := by
  constructor
  intro pos pins s σ H Q I q
  exact p.run pos pins s σ H Q I (h σ H Q q)
theorem ps_of {X : Cx} {e : Stmt} {t t0 : TS} (p : PS X e t0) (h : ∀ D σ H, t D σ H → t0 D σ H) : PS X e t := by
  constructor
  intro pins s σ H D I q
  exact p.run pins s σ H D I (h D σ H q)
theorem ps_pick {X : Cx} {e : Stmt} {t : TS} (h : ∀ D σ H, t D σ H → ∃ t0 : TS, PS X e t0 ∧ t0 D σ H) : PS X e t := by
  constructor
  intro pins s σ H D I q
  obtain ⟨t0, p, q0⟩ := h D σ H q
  exact p.run pins s σ H D I q0
theorem pss_of {X : Cx} {e : List Stmt} {t t0 : TS} (p : PSs X e t0) (h : ∀ D σ H, t D σ H → t0 D σ H) : PSs X e t := by
  constructor
  intro pins s σ H D I q
  exact p.run pins s σ H D I (h D σ H q)

section
variable {X : Cx} {G : Gd} {C : Cfg} {pos : Pos} {a b c : Expr} {ea eb ec : Ex}
abbrev PEh (X : Cx) (G : Gd) (C : Cfg) (e : Expr) (ee : Ex) : Prop := PE X e (TEh G (ev C ee))
abbrev PTh (X : Cx) (G : Gd) (C : Cfg) (e : Expr) (ee : Ex) : Prop := PT X e (TTh G (evT C ee))

theorem px_slot {i : Nat} {x : Str} (hi : X.N[i]? = some x) (hv : Vis X.env.scope x) (hd : (x == ("__debug__" : Str)) = false) (hc : (x == ("__classdict__" : Str)) = false) : PEh X G C (.Name x pos) (.slot i) :=
  pe_of (pe_var hi hv hd hc) fun σ H Q ⟨π, e, h, v, h', S, hm, q⟩ => by
    have hm : getS e i h = some (.ok v, h') := hm
    unfold getS at hm
    cases hu : e[i]? with
    | none => rw [hu] at hm; exact (no_ok hm).elim
    | some o =>
    rw [hu] at hm
    cases o with
    | none => exact (no_ok hm).elim
    | some u =>
      obtain ⟨e1, e2⟩ := rt_ok hm
      subst e1 e2
      have w := S.we u (List.mem_of_getElem? hu)
      refine ⟨im π u, ?_, q π H Nx.refl S.hr w⟩
      rw [S.sl]
      show (e.map (imO π))[i]? = _
      rw [List.getElem?_map, hu]; rfl
theorem px_cst {v : V} (p : PE X a (tC v)) (hv : ∀ π, im π v = v) (hw : ∀ n, wf n v) : PEh X G C a (.cst v) :=
  pe_of p fun σ H Q ⟨π, e, h, u, h', S, hm, q⟩ => by
    obtain ⟨e1, e2⟩ := rt_ok (a := v) hm
    subst e1 e2
    have z := q π H Nx.refl S.hr (hw _)
    rw [hv π] at z
    exact z
theorem px_bin {op : Operator} {o : Op2} (ho : OpR X (binaryOp op) (R2h G (op2 o))) (ha : PEh X G C a ea) (hb : PEh X G C b eb) : PEh X G C (.BinOp a op b pos) (.bin o ea eb) :=
  pe_of (pe_op ho ha hb) fun σ H Q ⟨π, e, h, v, h', S, hm, q⟩ => by
    simp only [ev] at hm
    obtain ⟨x, h1, e1, hm⟩ := bd_ok hm
    obtain ⟨y, h2, e2, hm⟩ := bd_ok hm
    refine goE S e1 fun π1 H1 N1 S1 w1 => ?_
    refine goE S1 e2 fun π2 H2 N2 S2 w2 => ?_
    exact ⟨π2, h2, x, y, v, h', (N2.im w1).symm, rfl, N2.wf w1, w2, S2.hr, hm, fun π3 H3 N3 R3 w3 => q π3 H3 ((N1.trans N2).trans N3) R3 w3⟩
theorem px_cmp {op : CmpOp} {o : Op2} (ho : OpR X (compareOp op) (R2h G (op2 o))) (ha : PEh X G C a ea) (hb : PEh X G C b eb) (hp : plE b = true) : PEh X G C (.Compare a [op] [b] pos) (.bin o ea eb) :=
  pe_of (pe_cmpR ho ha hb (mark_plain hp)) fun σ H Q ⟨π, e, h, v, h', S, hm, q⟩ => by
    simp only [ev] at hm
    obtain ⟨x, h1, e1, hm⟩ := bd_ok hm
    obtain ⟨y, h2, e2, hm⟩ := bd_ok hm
    refine goE S e1 fun π1 H1 N1 S1 w1 => ?_
    refine goE S1 e2 fun π2 H2 N2 S2 w2 => ?_
    exact ⟨π2, h2, x, y, v, h', (N2.im w1).symm, rfl, N2.wf w1, w2, S2.hr, hm, fun π3 H3 N3 R3 w3 => q π3 H3 ((N1.trans N2).trans N3) R3 w3⟩
/-- the comparisons that always answer True or False -/
def boolOp : Op2 → Bool
  | .eq | .ne | .lt | .le | .gt | .ge | .is_ | .isnot | .in_ | .notin => true
  | _ => false
theorem boolOp_ok {o : Op2} (hb : boolOp o = true) {x y v : V} {h h' : Hh} (e : op2 o x y h = some (.ok v, h')) : (∃ k, v = .bl k) ∧ h = h' := by
  have int : ∀ o, boolOp o = true → intO o x y h = some (.ok v, h') → (∃ k, v = .bl k) ∧ h = h' := by
    intro o hb e
    unfold intO at e
    split at e
    · obtain ⟨e1, e2⟩ := opt_ok e
      refine ⟨?_, e2⟩
      cases o <;> simp only [boolOp] at hb <;> (try cases hb) <;> simp only [intOp] at e1 <;> cases e1 <;> exact ⟨_, rfl⟩
    · exact (no_ok e).elim
  have lk : ∀ f : Hh → Option Bool, ∀ g : Bool → V, (∀ b, ∃ k, g b = .bl k) → look (fun h => (f h).map g) h = some (.ok v, h') → (∃ k, v = .bl k) ∧ h = h' := by
    intro f g hg e
    obtain ⟨e1, e2⟩ := look_ok e
    refine ⟨?_, e2⟩
    cases hf : f h with
    | none => rw [hf] at e1; cases e1
    | some b => rw [hf] at e1; cases e1; exact hg b
  cases o <;> simp only [boolOp] at hb <;> (try cases hb)
  case eq => exact lk (fun h => eqO h x y) V.bl (fun b => ⟨_, rfl⟩) e
  case ne => exact lk (fun h => eqO h x y) (fun b => .bl !b) (fun b => ⟨_, rfl⟩) e
  case in_ => exact lk (fun h => inD h x y) V.bl (fun b => ⟨_, rfl⟩) e
  case notin => exact lk (fun h => inD h x y) (fun b => .bl !b) (fun b => ⟨_, rfl⟩) e
  case lt => exact int _ rfl e
  case le => exact int _ rfl e
  case gt => exact int _ rfl e
  case ge => exact int _ rfl e
  case is_ =>
    obtain ⟨e1, e2⟩ := opt_ok (o := (isO2 x y).map V.bl) e
    obtain ⟨k, _, e3⟩ := Option.map_eq_some_iff.mp e1
    exact ⟨⟨_, e3.symm⟩, e2⟩
  case isnot =>
    obtain ⟨e1, e2⟩ := opt_ok (o := (isO2 x y).map fun b => V.bl !b) e
    obtain ⟨k, _, e3⟩ := Option.map_eq_some_iff.mp e1
    exact ⟨⟨_, e3.symm⟩, e2⟩
theorem tru_bl {k k' : Bool} {h h' : Hh} (e : tru (.bl k) h = some (.ok k', h')) : k = k' ∧ h = h' := by
  obtain ⟨e1, e2⟩ := look_ok e
  cases e1
  exact ⟨rfl, e2⟩
theorem pc_cmp {op : CmpOp} {o : Op2} (ho : OpR X (compareOp op) (R2h G (op2 o))) (hb' : boolOp o = true) (ha : PEh X G C a ea) (hb : PEh X G C b eb) (hp : plE b = true) : PTh X G C (.Compare a [op] [b] pos) (.bin o ea eb) :=
  pt_of (pt_cmpR ho ha hb (mark_plain hp)) fun σ H Q ⟨π, e, h, k, h', S, hm, q⟩ => by
    unfold evT at hm
    simp only [ev] at hm
    obtain ⟨z, h3, m1, e4⟩ := bd_ok hm
    obtain ⟨x, h1, e1, m2⟩ := bd_ok m1
    obtain ⟨y, h2, e2, m3⟩ := bd_ok m2
    refine goE S e1 fun π1 H1 N1 S1 w1 => ?_
    refine goE S1 e2 fun π2 H2 N2 S2 w2 => ?_
    obtain ⟨⟨k', rfl⟩, e3⟩ := boolOp_ok hb' m3
    obtain ⟨e5, e6⟩ := tru_bl e4
    subst e5
    refine ⟨π2, h2, x, y, .bl k', h3, (N2.im w1).symm, rfl, N2.wf w1, w2, S2.hr, m3, fun π3 H3 N3 R3 w3 => ⟨k', rfl, ?_⟩⟩
    subst e6
    exact q π3 H3 ((N1.trans N2).trans N3) R3 trivial
theorem px_chain {op op' : CmpOp} {o o' : Op2} (ho : OpR X (compareOp op) (R2h G (op2 o))) (ho' : OpR X (compareOp op') (R2h G (op2 o'))) (hb' : boolOp o = true) (ha : PEh X G C a ea) (hb : PEh X G C b eb) (hc : PEh X G C c ec)
    (hm : lastMarks [op, op'] [b, c] = false) : PEh X G C (.Compare a [op, op'] [b, c] pos) (.chain o o' ea eb ec) :=
  pe_of (pe_chain ho ho' ha hb hc hm) fun σ H Q ⟨π, e, h, v, h', S, hm, q⟩ => by
    simp only [ev] at hm
    obtain ⟨x, h1, e1, hm⟩ := bd_ok hm
    obtain ⟨y, h2, e2, hm⟩ := bd_ok hm
    obtain ⟨z, h3, e3, hm⟩ := bd_ok hm
    refine goE S e1 fun π1 H1 N1 S1 w1 => ?_
    refine goE S1 e2 fun π2 H2 N2 S2 w2 => ?_
    obtain ⟨⟨k', rfl⟩, _⟩ := boolOp_ok hb' e3
    refine ⟨π2, h2, x, y, .bl k', h3, (N2.im w1).symm, rfl, N2.wf w1, w2, S2.hr, e3, fun π3 H3 N3 R3 w3 => ⟨k', rfl, ?_⟩⟩
    have S3 := S2.nx N3 R3
    cases k' with
    | true =>
      rw [if_pos rfl]
      obtain ⟨u, h4, e4, hm⟩ := bd_ok hm
      refine goE S3 e4 fun π4 H4 N4 S4 w4 => ?_
      exact ⟨π4, h4, y, u, v, h', ((N3.trans N4).im w2).symm, rfl, (N3.trans N4).wf w2, w4, S4.hr, hm, fun π5 H5 N5 R5 w5 => q π5 H5 (((N1.trans N2).trans (N3.trans N4)).trans N5) R5 w5⟩
    | false =>
      rw [if_neg Bool.false_ne_true]
      obtain ⟨e5, e6⟩ := rt_ok hm
      subst e5 e6
      exact q π3 H3 ((N1.trans N2).trans N3) R3 trivial
theorem pc_chain {op op' : CmpOp} {o o' : Op2} (ho : OpR X (compareOp op) (R2h G (op2 o))) (ho' : OpR X (compareOp op') (R2h G (op2 o'))) (hb' : boolOp o = true) (hb2 : boolOp o' = true) (ha : PEh X G C a ea) (hb : PEh X G C b eb) (hc : PEh X G C c ec)
    (hm : lastMarks [op, op'] [b, c] = false) : PTh X G C (.Compare a [op, op'] [b, c] pos) (.chain o o' ea eb ec) :=
  pt_of (pt_chain ho ho' ha hb hc hm) fun σ H Q ⟨π, e, h, k, h', S, hm, q⟩ => by
    unfold evT at hm
    simp only [ev] at hm
    obtain ⟨t, h5, m1, e9⟩ := bd_ok hm
    obtain ⟨x, h1, e1, m2⟩ := bd_ok m1
    obtain ⟨y, h2, e2, m3⟩ := bd_ok m2
    obtain ⟨z, h3, e3, m4⟩ := bd_ok m3
    refine goE S e1 fun π1 H1 N1 S1 w1 => ?_
    refine goE S1 e2 fun π2 H2 N2 S2 w2 => ?_
    obtain ⟨⟨k', rfl⟩, _⟩ := boolOp_ok hb' e3
    refine ⟨π2, h2, x, y, .bl k', h3, (N2.im w1).symm, rfl, N2.wf w1, w2, S2.hr, e3, fun π3 H3 N3 R3 w3 => ⟨k', rfl, ?_⟩⟩
    have S3 := S2.nx N3 R3
    cases k' with
    | true =>
      rw [if_pos rfl]
      obtain ⟨u, h4, e4, m5⟩ := bd_ok m4
      obtain ⟨⟨k2, rfl⟩, e6⟩ := boolOp_ok hb2 m5
      obtain ⟨e7, e8⟩ := tru_bl e9
      subst e7
      refine goE S3 e4 fun π4 H4 N4 S4 w4 => ?_
      refine ⟨π4, h4, y, u, .bl k2, h5, ((N3.trans N4).im w2).symm, rfl, (N3.trans N4).wf w2, w4, S4.hr, m5, fun π5 H5 N5 R5 w5 => ⟨k2, rfl, ?_⟩⟩
      subst e8
      exact q π5 H5 (((N1.trans N2).trans (N3.trans N4)).trans N5) R5 trivial
    | false =>
      rw [if_neg Bool.false_ne_true]
      obtain ⟨e5, e6⟩ := rt_ok m4
      subst e5 e6
      obtain ⟨e7, e8⟩ := tru_bl e9
      subst e7 e8
      exact ⟨false, rfl, q π3 H3 ((N1.trans N2).trans N3) R3 trivial⟩

theorem tru_at (hK : X.K = G.K) {π h H x k h'} (R : HR G π h H) (w : wf h.length x) (e : tru x h = some (.ok k, h')) : TruV X.K (im π x) H k ∧ h = h' := by
  obtain ⟨e1, e2⟩ := look_ok e
  rw [hK]
  exact ⟨truth_ok R e1 w, e2⟩
/-- a value's truth as a test -/
theorem pc_tru (hK : X.K = G.K) (ha : PEh X G C a ea) (he : ∀ whole, isTrue a X.env whole = (do let v ← whole; standAt a.pos; holding [v] (truthy v))) : PTh X G C a ea :=
  pt_of (pt_truth ha he) fun σ H Q ⟨π, e, h, k, h', S, hm, q⟩ => by
    unfold evT at hm
    obtain ⟨x, h1, e1, hm⟩ := bd_ok hm
    refine goE S e1 fun π1 H1 N1 S1 w1 => ?_
    obtain ⟨t, e2⟩ := tru_at hK S1.hr w1 hm
    subst e2
    exact ⟨k, t, q π1 H1 N1 S1.hr trivial⟩
theorem px_not (hK : X.K = G.K) (ha : PEh X G C a ea) : PEh X G C (.UnaryOp .Not a pos) (.not ea) :=
  pe_of (pe_notT ha) fun σ H Q ⟨π, e, h, v, h', S, hm, q⟩ => by
    simp only [ev] at hm
    obtain ⟨x, h1, e1, hm⟩ := bd_ok hm
    obtain ⟨k, h2, e2, hm⟩ := bd_ok hm
    refine goE S e1 fun π1 H1 N1 S1 w1 => ?_
    obtain ⟨t, e3⟩ := tru_at hK S1.hr w1 e2
    obtain ⟨e4, e5⟩ := rt_ok hm
    subst e3 e4 e5
    exact ⟨k, t, q π1 H1 N1 S1.hr trivial⟩
theorem pc_not (ha : PTh X G C a ea) : PTh X G C (.UnaryOp .Not a pos) (.not ea) :=
  pt_of (pt_not ha) fun σ H Q ⟨π, e, h, k, h', S, hm, q⟩ => by
    unfold evT at hm
    simp only [ev] at hm
    obtain ⟨z, h3, hm, e4⟩ := bd_ok hm
    obtain ⟨x, h1, e1, hm⟩ := bd_ok hm
    obtain ⟨k', h2, e2, hm⟩ := bd_ok hm
    obtain ⟨e5, e6⟩ := rt_ok hm
    subst e5 e6
    obtain ⟨e7, e8⟩ := tru_bl e4
    subst e7 e8
    have m : evT C ea e h = some (.ok k', h2) := by
      unfold evT bd
      rw [e1]; exact e2
    exact goT S m fun π1 H1 N1 S1 _ => q π1 H1 N1 S1.hr trivial
theorem px_neg (ha : PEh X G C a ea) : PEh X G C (.UnaryOp .USub a pos) (.neg ea) :=
  pe_of (pe_un un_neg ha) fun σ H Q ⟨π, e, h, v, h', S, hm, q⟩ => by
    simp only [ev] at hm
    obtain ⟨x, h1, e1, hm⟩ := bd_ok hm
    obtain ⟨i, h2, e2, hm⟩ := bd_ok hm
    refine goE S e1 fun π1 H1 N1 S1 w1 => ?_
    unfold toI at e2
    split at e2
    · obtain ⟨e3, e4⟩ := rt_ok e2
      obtain ⟨e5, e6⟩ := rt_ok hm
      subst e3 e4 e5 e6
      exact ⟨_, rfl, q π1 H1 N1 S1.hr trivial⟩
    · exact (no_ok e2).elim
theorem px_and (hK : X.K = G.K) {rest : List Expr} (ha : PEh X G C a ea) (hb : PEh X G C (.BoolOp .And (b :: rest) pos) eb) : PEh X G C (.BoolOp .And (a :: b :: rest) pos) (.and ea eb) :=
  pe_of (pe_andT ha hb) fun σ H Q ⟨π, e, h, v, h', S, hm, q⟩ => by
    simp only [ev] at hm
    obtain ⟨x, h1, e1, hm⟩ := bd_ok hm
    obtain ⟨k, h2, e2, hm⟩ := bd_ok hm
    refine goE S e1 fun π1 H1 N1 S1 w1 => ?_
    obtain ⟨t, e3⟩ := tru_at hK S1.hr w1 e2
    subst e3
    refine ⟨k, t, ?_⟩
    cases k with
    | true =>
      rw [if_pos rfl]
      exact goE S1 hm fun π2 H2 N2 S2 w2 => q π2 H2 (N1.trans N2) S2.hr w2
    | false =>
      rw [if_neg Bool.false_ne_true]
      obtain ⟨e4, e5⟩ := rt_ok hm
      subst e4 e5
      exact q π1 H1 N1 S1.hr w1
theorem px_or (hK : X.K = G.K) {rest : List Expr} (ha : PEh X G C a ea) (hb : PEh X G C (.BoolOp .Or (b :: rest) pos) eb) : PEh X G C (.BoolOp .Or (a :: b :: rest) pos) (.or ea eb) :=
  pe_of (pe_orT ha hb) fun σ H Q ⟨π, e, h, v, h', S, hm, q⟩ => by
    simp only [ev] at hm
    obtain ⟨x, h1, e1, hm⟩ := bd_ok hm
    obtain ⟨k, h2, e2, hm⟩ := bd_ok hm
    refine goE S e1 fun π1 H1 N1 S1 w1 => ?_
    obtain ⟨t, e3⟩ := tru_at hK S1.hr w1 e2
    subst e3
    refine ⟨k, t, ?_⟩
    cases k with
    | false =>
      rw [if_neg Bool.false_ne_true]
      exact goE S1 hm fun π2 H2 N2 S2 w2 => q π2 H2 (N1.trans N2) S2.hr w2
    | true =>
      rw [if_pos rfl]
      obtain ⟨e4, e5⟩ := rt_ok hm
      subst e4 e5
      exact q π1 H1 N1 S1.hr w1
abbrev PWh (X : Cx) (G : Gd) (C : Cfg) (e : Expr) (ee : Ex) : Prop := PW X e (TTh G (evT C ee))
theorem evT_of {ea : Ex} {e : Ev} {h h1 h2 : Hh} {x : V} {k : Bool} (e1 : ev C ea e h = some (.ok x, h1)) (e2 : tru x h1 = some (.ok k, h2)) : evT C ea e h = some (.ok k, h2) := by
  unfold evT bd
  rw [e1]; exact e2
theorem tru_same {x : V} {h h' : Hh} {k : Bool} (e : tru x h = some (.ok k, h')) : h = h' := (look_ok e).2
theorem pw_andh {rest : List Expr} (ha : PTh X G C a ea) (hb : PWh X G C (.BoolOp .And (b :: rest) pos) eb) : PWh X G C (.BoolOp .And (a :: b :: rest) pos) (.and ea eb) :=
  pw_of (pw_and ha hb) fun σ H Q ⟨π, e, h, k, h', S, hm, q⟩ => by
    unfold evT at hm
    simp only [ev] at hm
    obtain ⟨z, h3, hm, e4⟩ := bd_ok hm
    obtain ⟨x, h1, e1, hm⟩ := bd_ok hm
    obtain ⟨k', h2, e2, hm⟩ := bd_ok hm
    refine goT S (evT_of e1 e2) fun π1 H1 N1 S1 _ => ?_
    cases k' with
    | true => exact goT S1 (evT_of hm e4) fun π2 H2 N2 S2 _ => q π2 H2 (N1.trans N2) S2.hr trivial
    | false =>
      obtain ⟨e5, e6⟩ := rt_ok hm
      subst e5 e6
      have e7 := tru_same e2
      subst e7
      rw [e2] at e4
      cases e4
      exact q π1 H1 N1 S1.hr trivial
theorem pw_orh {rest : List Expr} (ha : PTh X G C a ea) (hb : PWh X G C (.BoolOp .Or (b :: rest) pos) eb) : PWh X G C (.BoolOp .Or (a :: b :: rest) pos) (.or ea eb) :=
  pw_of (pw_or ha hb) fun σ H Q ⟨π, e, h, k, h', S, hm, q⟩ => by
    unfold evT at hm
    simp only [ev] at hm
    obtain ⟨z, h3, hm, e4⟩ := bd_ok hm
    obtain ⟨x, h1, e1, hm⟩ := bd_ok hm
    obtain ⟨k', h2, e2, hm⟩ := bd_ok hm
    refine goT S (evT_of e1 e2) fun π1 H1 N1 S1 _ => ?_
    cases k' with
    | false => exact goT S1 (evT_of hm e4) fun π2 H2 N2 S2 _ => q π2 H2 (N1.trans N2) S2.hr trivial
    | true =>
      obtain ⟨e5, e6⟩ := rt_ok hm
      subst e5 e6
      have e7 := tru_same e2
      subst e7
      rw [e2] at e4
      cases e4
      exact q π1 H1 N1 S1.hr trivial
theorem px_ite (hc : PTh X G C c ec) (ha : PEh X G C a ea) (hb : PEh X G C b eb) : PEh X G C (.IfExp c a b pos) (.ite ec ea eb) :=
  pe_of (pe_ifExp hc ha hb) fun σ H Q ⟨π, e, h, v, h', S, hm, q⟩ => by
    simp only [ev] at hm
    obtain ⟨x, h1, e1, hm⟩ := bd_ok hm
    obtain ⟨k, h2, e2, hm⟩ := bd_ok hm
    refine goT S (evT_of e1 e2) fun π1 H1 N1 S1 _ => ?_
    cases k with
    | true => exact goE S1 hm fun π2 H2 N2 S2 w2 => q π2 H2 (N1.trans N2) S2.hr w2
    | false => exact goE S1 hm fun π2 H2 N2 S2 w2 => q π2 H2 (N1.trans N2) S2.hr w2
abbrev PAh (X : Cx) (G : Gd) (C : Cfg) (es : List Expr) (ee : Exs) : Prop := PA X es (TAh G (evs C ee))
theorem pax_nil : PAh X G C [] .nil := pa_of pa_nil fun σ H Q ⟨π, e, h, v, h', S, hm, q⟩ => by
  simp only [evs] at hm
  obtain ⟨e4, e5⟩ := rt_ok hm
  subst e4 e5
  exact q π H Nx.refl S.hr (fun _ z => nomatch z)
theorem pax_cons {es : List Expr} {ee : Exs} (ha : PEh X G C a ea) (hr : PAh X G C es ee) (hp : plE a = true) : PAh X G C (a :: es) (.cons ea ee) :=
  pa_of (pa_cons ha hr (star_cons hp)) fun σ H Q ⟨π, e, h, v, h', S, hm, q⟩ => by
    simp only [evs] at hm
    obtain ⟨x, h1, e1, hm⟩ := bd_ok hm
    obtain ⟨xs, h2, e2, hm⟩ := bd_ok hm
    obtain ⟨e4, e5⟩ := rt_ok hm
    subst e4 e5
    refine goE S e1 fun π1 H1 N1 S1 w1 => ?_
    refine goA S1 e2 fun π2 H2 N2 S2 w2 => ?_
    have z := q π2 H2 (N1.trans N2) S2.hr (fun u hu => by
      rcases List.mem_cons.mp hu with rfl | hu
      · exact N2.wf w1
      · exact w2 u hu)
    rw [show imL π2 (x :: xs) = im π1 x :: imL π2 xs from congrArg (· :: imL π2 xs) (N2.im w1)] at z
    exact z
theorem px_tup {es : List Expr} {ee : Exs} {k : Nat} (h : PAh X G C es ee) : PEh X G C (.Tuple es k pos) (.tup ee) :=
  pe_of (pe_tup h) fun σ H Q ⟨π, e, h, v, h', S, hm, q⟩ => by
    simp only [ev] at hm
    obtain ⟨xs, h1, e1, hm⟩ := bd_ok hm
    refine goA S e1 fun π1 H1 N1 S1 w1 => ?_
    split at hm
    · rename_i hz
      refine ⟨by rw [imL_len]; exact hz, fun p hp => new_tup S1.hr w1 hm (fun π2 H2 N2 R2 w2 => q π2 H2 (N1.trans N2) R2 w2) hp⟩
    · exact (no_ok hm).elim
theorem px_lst {es : List Expr} {ee : Exs} (h : PAh X G C es ee) : PEh X G C (.List es pos) (.lst ee) :=
  pe_of (pe_lst h) fun σ H Q ⟨π, e, h, v, h', S, hm, q⟩ => by
    simp only [ev] at hm
    obtain ⟨xs, h1, e1, hm⟩ := bd_ok hm
    refine goA S e1 fun π1 H1 N1 S1 w1 => ?_
    split at hm
    · rename_i hz
      refine ⟨by rw [imL_len]; exact hz, fun p hp => new_lst S1.hr w1 hm (fun π2 H2 N2 R2 w2 => q π2 H2 (N1.trans N2) R2 w2) hp⟩
    · exact (no_ok hm).elim
theorem px_idx (hK : X.K = G.K) (ha : PEh X G C a ea) (hb : PEh X G C b eb) (hp : plE b = true) : PEh X G C (.Subscript a b pos) (.idx ea eb) :=
  pe_of (pe_ix (ix_ok hK) ha hb (sub_plain hp)) fun σ H Q ⟨π, e, h, v, h', S, hm, q⟩ => by
    simp only [ev] at hm
    obtain ⟨x, h1, e1, hm⟩ := bd_ok hm
    obtain ⟨y, h2, e2, hm⟩ := bd_ok hm
    refine goE S e1 fun π1 H1 N1 S1 w1 => ?_
    refine goE S1 e2 fun π2 H2 N2 S2 w2 => ?_
    exact ⟨π2, h2, x, y, v, h', (N2.im w1).symm, rfl, N2.wf w1, w2, S2.hr, hm, fun π3 H3 N3 R3 w3 => q π3 H3 ((N1.trans N2).trans N3) R3 w3⟩
end
end HI

set_option maxRecDepth 100000
set_option maxHeartbeats 4000000
/-! slices, calls, instances -/
namespace HI
open PySem PySem.Spec PyProof.Rows L2

section
variable {X : Cx} {G : Gd} {C : Cfg} {pos : Pos} {a b c : Expr} {ea eb ec : Ex}
abbrev TOh (G : Gd) (m : Ev → Mo (Option Int)) : TO := Lf G (fun _ o => o) (fun _ _ => True) m
theorem goO {G : Gd} {m : Ev → Mo (Option Int)} {σ : L2.St} {H : Hp} {Q : Option Int → Hp → Prop} {π e h a h'} (S : Sx G σ H π e h) (hm : m e h = some (.ok a, h'))
    (k : ∀ π' H', Nx π h π' h' → Sx G σ H' π' e h' → True → Q a H') : TOh G m σ H Q := Lf.go S hm k
theorem po_of {e : Option Expr} {t t0 : TO} (p : PO X e t0) (h : ∀ σ H Q, t σ H Q → t0 σ H Q) : PO X e t := by
  constructor
  intro pins s σ H Q I q
  exact p.run pins s σ H Q I (h σ H Q q)
theorem pox_none {el : Ex} : PO X none (TOh G fun e => partO false (ev C el e)) :=
  po_of po_none fun σ H Q ⟨π, e, h, o, h', S, hm, q⟩ => by
    obtain ⟨e1, e2⟩ := rt_ok (a := (none : Option Int)) hm
    subst e1 e2
    exact q π H Nx.refl S.hr trivial
theorem pox_some (ha : PEh X G C a ea) : PO X (some a) (TOh G fun e => partO true (ev C ea e)) :=
  po_of (po_some ha) fun σ H Q ⟨π, e, h, o, h', S, hm, q⟩ => by
    have hm : bd (ev C ea e) (fun x => bd (toI x) fun i => rt (some i)) h = some (.ok o, h') := hm
    obtain ⟨x, h1, e1, m1⟩ := bd_ok hm
    obtain ⟨i, h2, e2, m2⟩ := bd_ok m1
    unfold toI at e2
    split at e2
    · obtain ⟨e3, e4⟩ := rt_ok e2
      obtain ⟨e5, e6⟩ := rt_ok m2
      subst e3 e4 e5 e6
      exact goE S e1 fun π1 H1 N1 S1 w1 => ⟨_, rfl, q π1 H1 N1 S1.hr trivial⟩
    · exact (no_ok e2).elim
/-- a slice by the interpreter -/
def RSh (G : Gd) : V → Option Int → Option Int → Hp → VK → Prop := fun x lo hi H Q => ∃ π h a v h', x = im π a ∧ wf h.length a ∧ HR G π h H ∧ slice a lo hi h = some (.ok v, h') ∧ Then G Q π h h' v
theorem sl_ok (hK : X.K = G.K) : SlR X (RSh G) := by
  have base := SlR.or (sl_list (X := X)) (sl_tup (X := X))
  intro pins s σ H x v vl vu lo hi sl Q I rx hs pl pu q
  obtain ⟨π, h, a, r, h', rfl, wa, R, e, q⟩ := q
  unfold slice at e
  split at e
  · rename_i d
    split at e
    · rename_i xs hx
      obtain ⟨l1, w1⟩ := R.seqL hx
      rw [← hK] at l1
      refine base pins s σ H _ v vl vu lo hi sl Q I rx hs pl pu (.inl ⟨π d, imL π xs, rfl, l1, fun p hp => ?_⟩)
      rw [← cutV_im]
      exact new_lst R (cutV_wf w1) e q hp
    · split at e
      · rename_i xs hx
        obtain ⟨l1, w1⟩ := R.seqT hx
        rw [← hK] at l1
        split at e
        · cases e
        · rename_i hn
          refine base pins s σ H _ v vl vu lo hi sl Q I rx hs pl pu (.inr ⟨π d, imL π xs, rfl, l1, by rw [imL_len]; exact hn, fun p hp => ?_⟩)
          rw [← cutV_im]
          exact new_tup R (cutV_wf w1) e q hp
      · cases e
  · exact (no_ok e).elim
theorem px_slc (hK : X.K = G.K) {lo hi : Option Expr} {bl bh : Bool} {el eh : Ex} {p2 : Pos} (ha : PEh X G C a ea) (hl : PO X lo (TOh G fun e => partO bl (ev C el e))) (hh : PO X hi (TOh G fun e => partO bh (ev C eh e))) :
    PEh X G C (.Subscript a (.Slice lo hi none p2) pos) (.slc ea bl el bh eh) :=
  pe_of (pe_slice (sl_ok hK) ha hl hh) fun σ H Q ⟨π, e, h, v, h', S, hm, q⟩ => by
    simp only [ev] at hm
    obtain ⟨x, h1, e1, m1⟩ := bd_ok hm
    obtain ⟨l, h2, e2, m2⟩ := bd_ok m1
    obtain ⟨u, h3, e3, m3⟩ := bd_ok m2
    refine goE S e1 fun π1 H1 N1 S1 w1 => ?_
    refine goO S1 e2 fun π2 H2 N2 S2 _ => ?_
    refine goO S2 e3 fun π3 H3 N3 S3 _ => ?_
    exact ⟨π3, h3, x, v, h', ((N2.trans N3).im w1).symm, (N2.trans N3).wf w1, S3.hr, m3, fun π4 H4 N4 R4 w4 => q π4 H4 ((N1.trans (N2.trans N3)).trans N4) R4 w4⟩

theorem px_rev (hK : X.K = G.K) {k : Nat} {p1 p2 p3 : Pos} (ha : PEh X G C a ea) : PEh X G C (.Subscript a (.Slice none none (some (.UnaryOp .USub (.Constant (.int 1) k p1) p2)) p3) pos) (.bcall "[::-1]" (.cons ea .nil)) :=
  pe_of (pe_revL ha) fun σ H Q ⟨π, e, h, v, h', S, hm, q⟩ => by
    simp only [ev, evs] at hm
    obtain ⟨xs, h1, e1, m1⟩ := bd_ok hm
    obtain ⟨x, h2, e2, m2⟩ := bd_ok e1
    obtain ⟨ys, h3, e3, m3⟩ := bd_ok m2
    obtain ⟨b1, b2⟩ := rt_ok e3
    subst b1 b2
    obtain ⟨b1, b2⟩ := rt_ok m3
    subst b1 b2
    refine goE S e2 fun π1 H1 N1 S1 w1 => ?_
    replace m1 : revO x h2 = some (.ok v, h') := m1
    unfold revO at m1
    split at m1
    · rename_i d
      split at m1
      · rename_i zs hz
        obtain ⟨l1, w⟩ := S1.hr.seqL hz
        rw [← hK] at l1
        refine ⟨_, _, rfl, l1, fun p hp => ?_⟩
        have z := new_lst S1.hr (xs := zs.reverse) (fun u hu => w u (List.mem_reverse.mp hu)) m1 (Q := Q) (fun π2 H2 N2 R2 w2 => q π2 H2 (N1.trans N2) R2 w2) hp
        have er : imL π1 zs.reverse = (imL π1 zs).reverse := List.map_reverse
        rw [er] at z
        exact z
      · cases m1
    · exact (no_ok m1).elim

/-! ### calls -/
/-- a def does what F says, of n arguments -/
def spH (G : Gd) (n : Nat) (F : List V → Mo V) : Sp := fun vs H Q _ =>
  ∃ π h as v h', vs = imL π as ∧ as.length = n ∧ wfL h.length as ∧ HR G π h H ∧ F as h = some (.ok v, h') ∧ Then G Q π h h' v
structure DefOk (X : Cx) (G : Gd) (k : Nat) (x : Str) (n : Nat) (F : List V → Mo V) : Prop where
  has : ∃ (f : Addr) (fd : FuncData) (ps : List Str), X.mg x = some (.ref f) ∧ PySem.W.keepIn X.K (.ref f) = true ∧ Binds X.K fd ps [] ∧ FnG X.prog X.w X.K X.mg X.base CX0 k f fd ps (spH G n F)
theorem evs_len {C : Cfg} : ∀ {es : Exs} {e : Ev} {h h' : Hh} {vs : List V}, evs C es e h = some (.ok vs, h') → ∀ n, (match es with | .nil => n = 0 | .cons _ _ => True) → True := fun _ _ _ => trivial
/-- the number of terms -/
def Exs.len : Exs → Nat | .nil => 0 | .cons _ r => r.len + 1
theorem evs_length {C : Cfg} : ∀ (es : Exs) {e : Ev} {h h' : Hh} {vs : List V}, evs C es e h = some (.ok vs, h') → vs.length = es.len
  | .nil, e, h, h', vs, hm => by
    simp only [evs] at hm
    obtain ⟨e1, _⟩ := rt_ok hm
    subst e1; rfl
  | .cons a r, e, h, h', vs, hm => by
    simp only [evs] at hm
    obtain ⟨x, h1, _, m1⟩ := bd_ok hm
    obtain ⟨xs, h2, e2, m2⟩ := bd_ok m1
    obtain ⟨e3, _⟩ := rt_ok m2
    subst e3
    show xs.length + 1 = r.len + 1
    rw [evs_length r e2]
theorem px_call {x : Str} {q : String} {k n : Nat} {p : Pos} {e1 : Expr} {es : List Expr} {ee : Exs} (D : DefOk X G k x n (C.call q)) (hgd : X.A.guards = some []) (hr : Room k X.A) (hg : Gl X x)
    (hdb : (x == ("__debug__" : Str)) = false) (ha : PAh X G C (e1 :: es) ee) (hn : ee.len = n) (hp : ∀ e ∈ e1 :: es, plE e = true) : PEh X G C (.Call (.Name x p) (e1 :: es) [] pos) (.call q ee) := by
  obtain ⟨f, fd, ps, hm, hk, hb, F⟩ := D.has
  refine pe_of (gcall (E := E0) F hgd hr hg hm hk hb .nil pass0 ha hdb (star_cons (hp e1 List.mem_cons_self)) (back_plain fun e he => hp e (List.mem_cons_of_mem _ he))) ?_
  intro σ H Q ⟨π, e, h, v, h', S, hm, q⟩
  simp only [ev] at hm
  obtain ⟨xs, h1, m1, m2⟩ := bd_ok hm
  refine goA S m1 fun π1 H1 N1 S1 w1 => ?_
  exact ⟨π1, h1, xs, v, h', by rw [List.append_nil], (evs_length ee m1).trans hn, w1, S1.hr, m2, fun π2 H2 N2 R2 w2 => q π2 H2 (N1.trans N2) R2 w2⟩
theorem px_call0 {x : Str} {q : String} {k : Nat} {p : Pos} (D : DefOk X G k x 0 (C.call q)) (hgd : X.A.guards = some []) (hr : Room k X.A) (hg : Gl X x)
    (hdb : (x == ("__debug__" : Str)) = false) : PEh X G C (.Call (.Name x p) [] [] pos) (.call q .nil) := by
  obtain ⟨f, fd, ps, hm, hk, hb, F⟩ := D.has
  refine pe_of (gcall0 (E := E0) F hgd hr hg hm hk hb .nil pass0 hdb) ?_
  intro σ H Q ⟨π, e, h, v, h', S, hm, q⟩
  simp only [ev, evs] at hm
  obtain ⟨xs, h1, m1, m2⟩ := bd_ok hm
  obtain ⟨e1, e2⟩ := rt_ok m1
  subst e1 e2
  exact ⟨π, h, [], v, h', rfl, rfl, (fun _ z => nomatch z), S.hr, m2, q⟩
theorem px_bcall {x : Str} {f id : String} {p : Pos} {e1 : Expr} {es : List Expr} {ee : Exs} (hc : CallR X (.builtin id) (RLh G (bfn f))) (hg : Gl X x) (hm : X.mg x = none) (hv : bootBuiltins x = some (.builtin id))
    (hn : x ≠ "__name__") (hdb : (x == ("__debug__" : Str)) = false) (ha : PAh X G C (e1 :: es) ee) (hp : ∀ e ∈ e1 :: es, plE e = true) : PEh X G C (.Call (.Name x p) (e1 :: es) [] pos) (.bcall f ee) :=
  pe_of (pe_callB hc hg hm hv ha hn hdb (star_cons (hp e1 List.mem_cons_self)) (back_plain fun e he => hp e (List.mem_cons_of_mem _ he))) fun σ H Q ⟨π, e, h, v, h', S, hm, q⟩ => by
    simp only [ev] at hm
    obtain ⟨xs, h1, m1, m2⟩ := bd_ok hm
    refine goA S m1 fun π1 H1 N1 S1 w1 => ?_
    exact ⟨π1, h1, xs, v, h', rfl, w1, S1.hr, m2, fun π2 H2 N2 R2 w2 => q π2 H2 (N1.trans N2) R2 w2⟩
theorem px_tcall {x : Str} {f T : String} {p : Pos} {e1 : Expr} {es : List Expr} {ee : Exs} (hc : CallR X (.type T) (RLh G (bfn f))) (hg : Gl X x) (hm : X.mg x = none) (hv : bootBuiltins x = some (.type T))
    (hn : x ≠ "__name__") (hdb : (x == ("__debug__" : Str)) = false) (ha : PAh X G C (e1 :: es) ee) (hp : ∀ e ∈ e1 :: es, plE e = true) : PEh X G C (.Call (.Name x p) (e1 :: es) [] pos) (.bcall f ee) :=
  pe_of (pe_callTy hc hg hm hv ha hn hdb (star_cons (hp e1 List.mem_cons_self)) (back_plain fun e he => hp e (List.mem_cons_of_mem _ he))) fun σ H Q ⟨π, e, h, v, h', S, hm, q⟩ => by
    simp only [ev] at hm
    obtain ⟨xs, h1, m1, m2⟩ := bd_ok hm
    refine goA S m1 fun π1 H1 N1 S1 w1 => ?_
    exact ⟨π1, h1, xs, v, h', rfl, w1, S1.hr, m2, fun π2 H2 N2 R2 w2 => q π2 H2 (N1.trans N2) R2 w2⟩

theorem px_is {f t : String} {y : Str} {p p2 : Pos} {e1 : Expr} {ea : Ex} (hK : X.K = G.K) (hf : ∀ x, bfn f [x] = isO t x) (ht : t ∈ ["int", "bool", "list", "tuple", "str"]) (hg : Gl X "isinstance") (hm : X.mg "isinstance" = none)
    (gy : Gl X y) (my : X.mg y = none) (by_ : bootBuiltins y = some (.type t)) (hn : y ≠ "__name__") (hd : (y == ("__debug__" : Str)) = false) (ha : PEh X G C e1 ea) (hp : plE e1 = true) :
    PEh X G C (.Call (.Name "isinstance" p) [e1, .Name y p2] [] pos) (.bcall f (.cons ea .nil)) :=
  pe_of (pe_callB call_isi hg hm (by decide +kernel) (pa_cons ha (pa_cons (pe_bltn (v := .ty t) gy my by_ rfl hn hd) pa_nil) (hs := star_cons hp)) (by decide) (by decide) (star_cons hp) (back_plain fun e he => by rw [List.mem_singleton.mp he]; rfl)) fun σ H Q ⟨π, e, h, v, h', S, hm, q⟩ => by
    simp only [ev, evs] at hm
    obtain ⟨xs, h1, m1, m2⟩ := bd_ok hm
    obtain ⟨x, h2, e2, m3⟩ := bd_ok m1
    obtain ⟨ys, h3, e3, m4⟩ := bd_ok m3
    obtain ⟨b1, b2⟩ := rt_ok e3
    subst b1 b2
    obtain ⟨b1, b2⟩ := rt_ok m4
    subst b1 b2
    rw [hf] at m2
    obtain ⟨m5, b2⟩ := look_ok m2
    subst b2
    obtain ⟨s, hs, b3⟩ := Option.map_eq_some_iff.mp m5
    subst b3
    refine goE S e2 fun π1 H1 N1 S1 w1 => ?_
    have ty := tyO_ok S1.hr hs
    rw [← hK] at ty
    exact ⟨im π1 x, .ty t, .type s, .type t, subTy s t, rfl, .ty t, ty, subTy_ok hs ht, q π1 H1 N1 S1.hr trivial⟩

/-! ### instances -/
theorem HR.own {π : Nat → Addr} {h : Hh} {H : Hp} {x dx : Addr} (R : HR G π h H) (hd : H dx = none) : HR G π h (upd H dx (.own x)) :=
  ⟨fun i o e => (R.ob i o e).move (R.wo i o e) (fun _ _ => rfl) fun u hu => by rw [upd_ne (ne_of_none hu hd)]; exact hu, R.wo, R.inj⟩
theorem imF_nil {π : Nat → Addr} : imF π [] = [] := rfl
structure MkOk (X : Cx) (G : Gd) (k : Nat) (x : Str) (c : Nat) (n : Nat) (F : List V → Mo V) : Prop where
  has : ∃ (f : Addr) (fd : FuncData) (ps : List Str), X.mg x = some (.ref (G.cls c)) ∧ Mk X.K (G.cls c) f ∧ Binds X.K fd ps [] ∧ FnG X.prog X.w X.K X.mg X.base CX0 k f fd ps (spH G (n + 1) F)
theorem px_mk {x : Str} {k n : Nat} {cl : Nat} {p : Pos} {e1 : Expr} {es : List Expr} {ee : Exs} (D : MkOk X G k x cl n (C.call (C.cname cl ++ ".__init__"))) (hgd : X.A.guards = some []) (hr : Room (k + 1) X.A) (hg : Gl X x)
    (hdb : (x == ("__debug__" : Str)) = false) (ha : PAh X G C (e1 :: es) ee) (hn : ee.len = n) (hp : ∀ e ∈ e1 :: es, plE e = true) : PEh X G C (.Call (.Name x p) (e1 :: es) [] pos) (.mk cl ee) := by
  obtain ⟨f, fd, ps, hm, M, hb, F⟩ := D.has
  refine pe_of (gmake (E := E0) M F hgd hr hg hm hb .nil pass0 ha hdb (star_cons (hp e1 List.mem_cons_self)) (back_plain fun e he => hp e (List.mem_cons_of_mem _ he))) ?_
  intro σ H Q ⟨π, e, h, v, h', S, hm, q⟩
  simp only [ev] at hm
  obtain ⟨xs, h1, m1, m2⟩ := bd_ok hm
  refine goA S m1 fun π1 H1 N1 S1 w1 => fun x dx hx hdx hne => ?_
  unfold makeO at m2
  obtain ⟨y, h2, a1, a2⟩ := bd_ok m2
  unfold alloc at a1
  cases a1
  obtain ⟨r, h3, a3, a4⟩ := bd_ok a2
  have R2 : HR G π1 h1 (upd H1 dx (.own x)) := S1.hr.own hdx
  have fx : (upd H1 dx (.own x)) x = none := by rw [upd_ne (fun z => hne z.symm)]; exact hx
  have R3 : HR G (ext π1 h1.length x) (h1 ++ [.ins cl []]) (upd (upd H1 dx (.own x)) x (.ins (G.cls cl) dx [])) := by
    refine R2.laid fx (fun _ z => nomatch z) ?_
    refine ⟨dx, ?_⟩
    rw [upd_same]; rfl
  have N2 : Nx π1 h1 (ext π1 h1.length x) (h1 ++ [.ins cl []]) := ext_nx _ x
  refine ⟨ext π1 h1.length x, h1 ++ [.ins cl []], .ref h1.length :: xs, r, h3, ?_, ?_, ?_, R3, a3, ?_⟩
  · rw [List.append_nil]
    show _ = V.ref (ext π1 h1.length x h1.length) :: imL (ext π1 h1.length x) xs
    rw [ext_at, N2.imL w1]
  · show xs.length + 1 = n + 1
    rw [evs_length ee m1, hn]
  · intro u hu
    rcases List.mem_cons.mp hu with rfl | hu
    · show h1.length < (h1 ++ [Ob.ins cl []]).length
      rw [List.length_append]; exact Nat.lt_succ_self _
    · exact N2.wf (w1 u hu)
  · intro π4 H4 N4 R4 w4
    split at a4
    · rename_i hr0
      obtain ⟨b1, b2⟩ := rt_ok a4
      subst hr0 b1 b2
      have lt : h1.length < (h1 ++ [Ob.ins cl []]).length := by rw [List.length_append]; exact Nat.lt_succ_self _
      refine ⟨rfl, ?_⟩
      have z := q π4 H4 ((N1.trans N2).trans N4) R4 (N4.wf (v := .ref h1.length) lt)
      have ez : im π4 (.ref h1.length) = .ref x := by
        rw [N4.im (v := .ref h1.length) lt]
        exact congrArg V.ref ext_at
      rw [ez] at z
      exact z
    · exact (no_ok a4).elim
structure MethOk (X : Cx) (G : Gd) (k : Nat) (c : Nat) (m : Str) (n : Nat) (F : List V → Mo V) : Prop where
  has : ∃ (f : Addr) (fd : FuncData) (ps : List Str), Cls X.K (G.cls c) ∧ Meth X.K (G.cls c) m f ∧ Binds X.K fd ps [] ∧ FnG X.prog X.w X.K X.mg X.base CX0 k f fd ps (spH G (n + 1) F)
theorem recv_ok {m : Str} {x : V} {h h' : Hh} {r : Rc} (e : recv m x h = some (.ok r, h')) : h = h' ∧ ∃ a, x = .ref a ∧ ((∃ ys, h[a]? = some (.lst ys) ∧ r = .lst a) ∨ ∃ c fs, h[a]? = some (.ins c fs) ∧ fs.lookup m = none ∧ r = .ins c a) := by
  unfold recv at e
  split at e
  · rename_i a
    obtain ⟨e1, e2⟩ := look_ok e
    refine ⟨e2, a, rfl, ?_⟩
    split at e1
    · rename_i ys hy
      cases e1
      exact .inl ⟨ys, hy, rfl⟩
    · rename_i c fs hy
      split at e1
      · rename_i hl
        cases e1
        exact .inr ⟨c, fs, hy, hl, rfl⟩
      · cases e1
    · cases e1
  · exact (no_ok e).elim
theorem lookup_imF {π : Nat → Addr} {m : Str} : ∀ {fs : List (Str × V)}, (imF π fs).lookup m = (fs.lookup m).map (im π)
  | [] => rfl
  | (k, v) :: r => by
    show List.lookup m ((k, im π v) :: imF π r) = Option.map (im π) (List.lookup m ((k, v) :: r))
    rw [List.lookup_cons, List.lookup_cons]
    cases m == k
    · exact lookup_imF
    · rfl
/-- how a list's method is run -/
structure LMeth (X : Cx) (G : Gd) (m : Str) (ms : String) : Prop where
  has : ∃ id : String, Slot "list" m id ∧ typeOf (.builtin id) = pure (.type "method_descriptor") ∧ MtR X id (RMh G ms)
theorem px_meth {k : Nat} {m : Str} {ms : String} {o : Expr} {eo : Ex} {apos : Pos} {e1 : Expr} {es : List Expr} {ee : Exs}
    (D : ∀ c, C.hasM c ms = true → MethOk X G k c m ee.len (C.call (C.cname c ++ "." ++ ms))) (L : LMeth X G m ms ∨ ∀ a vs h, lmeth ms a vs h = none) (hgd : X.A.guards = some []) (hr : Room k X.A)
    (ho : PEh X G C o eo) (hpo : plE o = true) (ha : PAh X G C (e1 :: es) ee) (hp : ∀ e ∈ e1 :: es, plE e = true) (hl : (apos.endLine == pos.line) = true) (h30 : (e1 :: es).length < 30) :
    PEh X G C (.Call (.Attribute o m apos) (e1 :: es) [] pos) (.meth m ms eo ee) := by
  refine pe_pick fun σ H Q ⟨π, e, h, v, h', S, hm, q⟩ => ?_
  simp only [ev] at hm
  obtain ⟨x, h1, a1, m1⟩ := bd_ok hm
  obtain ⟨r, h1', a2, m2⟩ := bd_ok m1
  obtain ⟨vs, h2, a3, m3⟩ := bd_ok m2
  obtain ⟨e0, d, rfl, hcase⟩ := recv_ok a2
  subst e0
  have hs := star_cons (es := es) (env := X.env) (hp e1 List.mem_cons_self)
  have hb := back_plain (pos := pos) (env := X.env) (es := es) fun e he => hp e (List.mem_cons_of_mem _ he)
  rcases hcase with ⟨ys, hy, rfl⟩ | ⟨c, fs, hy, hlk, rfl⟩
  · rcases L with L | L
    · obtain ⟨id, slot, hty, mt⟩ := L.has
      refine ⟨_, pe_bm PySem.F.plainAttrs_list slot hty mt ho ha (base_plain hpo) ?_ hl hs hb, ?_⟩
      · rw [few_plain hp]
        show (true && true && decide ((e1 :: es).length + 0 + 0 < 30)) = true
        simp only [Bool.true_and, decide_eq_true_eq]; exact h30
      · refine goE S a1 fun π1 H1 N1 S1 w1 => ?_
        refine ⟨.inl ⟨rfl, _, .inl (.inl (S1.hr.ob _ _ hy))⟩, ?_⟩
        refine goA S1 a3 fun π2 H2 N2 S2 w2 => ?_
        have wd : d < h1.length := w1
        exact ⟨π2, h2, d, vs, v, h', congrArg V.ref (N2.ag d wd).symm, rfl, Nat.lt_of_lt_of_le wd N2.le, w2, S2.hr, m3, fun π3 H3 N3 R3 w3 => q π3 H3 ((N1.trans N2).trans N3) R3 w3⟩
    · have z : lmeth ms d vs h2 = some (.ok v, h') := m3
      rw [L] at z
      cases z
  · have m3 : (if C.hasM c ms = true then C.call (C.cname c ++ "." ++ ms) (.ref d :: vs) else no) h2 = some (.ok v, h') := m3
    split at m3
    · rename_i hc
      obtain ⟨f, fd, ps, cls, mth, hbd, F⟩ := (D c hc).has
      refine ⟨_, gmeth (E := E0) ho cls mth F hgd hr hbd .nil pass0 ha hs hb (mc_eq hpo hp h30 hl), ?_⟩
      refine goE S a1 fun π1 H1 N1 S1 w1 => ?_
      obtain ⟨dx, hd⟩ := S1.hr.ob _ _ hy
      refine ⟨π1 d, dx, imF π1 fs, rfl, hd, by rw [lookup_imF, hlk]; rfl, ?_⟩
      refine goA S1 a3 fun π2 H2 N2 S2 w2 => ?_
      have wd : d < h1.length := w1
      refine ⟨π2, h2, .ref d :: vs, v, h', ?_, ?_, ?_, S2.hr, m3, fun π3 H3 N3 R3 w3 => q π3 H3 ((N1.trans N2).trans N3) R3 w3⟩
      · rw [List.append_nil]
        exact congrArg (· :: imL π2 vs) (congrArg V.ref (N2.ag d wd).symm)
      · show vs.length + 1 = ee.len + 1
        rw [evs_length ee a3]
      · intro u hu
        rcases List.mem_cons.mp hu with rfl | hu
        · exact N2.wf (v := .ref d) wd
        · exact w2 u hu
    · exact (no_ok m3).elim
theorem px_meth0 {k : Nat} {m : Str} {ms : String} {o : Expr} {eo : Ex} {apos : Pos}
    (D : ∀ c, C.hasM c ms = true → MethOk X G k c m 0 (C.call (C.cname c ++ "." ++ ms))) (L : LMeth X G m ms ∨ ∀ a vs h, lmeth ms a vs h = none) (hgd : X.A.guards = some []) (hr : Room k X.A)
    (ho : PEh X G C o eo) (hpo : plE o = true) (hl : (apos.endLine == pos.line) = true) :
    PEh X G C (.Call (.Attribute o m apos) [] [] pos) (.meth m ms eo .nil) := by
  refine pe_pick fun σ H Q ⟨π, e, h, v, h', S, hm, q⟩ => ?_
  simp only [ev, evs] at hm
  obtain ⟨x, h1, a1, m1⟩ := bd_ok hm
  obtain ⟨r, h1', a2, m2⟩ := bd_ok m1
  obtain ⟨vs, h2, a3, m3⟩ := bd_ok m2
  obtain ⟨e0, d, rfl, hcase⟩ := recv_ok a2
  obtain ⟨e5, e6⟩ := rt_ok a3
  subst e0 e5 e6
  rcases hcase with ⟨ys, hy, rfl⟩ | ⟨c, fs, hy, hlk, rfl⟩
  · rcases L with L | L
    · obtain ⟨id, slot, hty, mt⟩ := L.has
      refine ⟨_, pe_bm0 PySem.F.plainAttrs_list slot hty mt ho (base_plain hpo) hl, ?_⟩
      refine goE S a1 fun π1 H1 N1 S1 w1 => ?_
      refine ⟨.inl ⟨rfl, _, .inl (.inl (S1.hr.ob _ _ hy))⟩, ?_⟩
      have wd : d < h1.length := w1
      exact ⟨π1, h1, d, [], v, h', rfl, rfl, wd, (fun _ z => nomatch z), S1.hr, m3, fun π3 H3 N3 R3 w3 => q π3 H3 (N1.trans N3) R3 w3⟩
    · have z : lmeth ms d [] h1 = some (.ok v, h') := m3
      rw [L] at z
      cases z
  · have m3 : (if C.hasM c ms = true then C.call (C.cname c ++ "." ++ ms) [.ref d] else no) h1 = some (.ok v, h') := m3
    split at m3
    · rename_i hc
      obtain ⟨f, fd, ps, cls, mth, hbd, F⟩ := (D c hc).has
      refine ⟨_, gmeth0 (E := E0) ho cls mth F hgd hr hbd .nil pass0 (mc_eq hpo (fun _ z => nomatch z) (by decide) hl), ?_⟩
      refine goE S a1 fun π1 H1 N1 S1 w1 => ?_
      obtain ⟨dx, hd⟩ := S1.hr.ob _ _ hy
      refine ⟨π1 d, dx, imF π1 fs, rfl, hd, by rw [lookup_imF, hlk]; rfl, ?_⟩
      have wd : d < h1.length := w1
      refine ⟨π1, h1, [.ref d], v, h', rfl, rfl, ?_, S1.hr, m3, fun π3 H3 N3 R3 w3 => q π3 H3 (N1.trans N3) R3 w3⟩
      intro u hu
      rw [List.mem_singleton.mp hu]
      exact wd
    · exact (no_ok m3).elim
structure FldOk (X : Cx) (G : Gd) (c : Nat) (f : Str) : Prop where
  cl : Cls X.K (G.cls c)
  na : NoAttr X.K (G.cls c) f
theorem lookup_mem {f : Str} {v : V} : ∀ {fs : List (Str × V)}, fs.lookup f = some v → ∃ k, (k, v) ∈ fs
  | (k, u) :: r, e => by
    rw [List.lookup_cons] at e
    split at e
    · cases e; exact ⟨k, List.mem_cons_self⟩
    · obtain ⟨k2, z⟩ := lookup_mem e; exact ⟨k2, List.mem_cons_of_mem _ z⟩
theorem px_fld {o : Expr} {eo : Ex} {f : Str} (D : ∀ c, C.fld c f = true → FldOk X G c f) (ho : PEh X G C o eo) (hpo : plE o = true) : PEh X G C (.Attribute o f pos) (.fld eo f) :=
  pe_of (pe_fld ho (base_plain hpo)) fun σ H Q ⟨π, e, h, v, h', S, hm, q⟩ => by
    simp only [ev] at hm
    obtain ⟨x, h1, a1, m1⟩ := bd_ok hm
    refine goE S a1 fun π1 H1 N1 S1 w1 => ?_
    unfold fldO at m1
    split at m1
    · rename_i d
      obtain ⟨b1, b2⟩ := look_ok m1
      subst b2
      split at b1
      · rename_i c fs hy
        split at b1
        · rename_i hc
          obtain ⟨dx, hd⟩ := S1.hr.ob _ _ hy
          have D' := D c hc
          refine ⟨π1 d, G.cls c, dx, imF π1 fs, im π1 v, rfl, hd, D'.cl, D'.na, by rw [lookup_imF, b1]; rfl, q π1 H1 N1 S1.hr ?_⟩
          obtain ⟨k, hk⟩ := lookup_mem b1
          exact S1.hr.wo _ _ hy (k, v) hk
        · cases b1
      · cases b1
    · exact (no_ok m1).elim
end
end HI

set_option maxRecDepth 100000
set_option maxHeartbeats 4000000
/-! targets, walks, comprehensions -/
namespace HI
open PySem PySem.Spec PyProof.Rows L2

def gNames : List Nat → TGs
  | [] => gNil
  | i :: r => gCons (gName i) (gNames r)
def tgR (K : PySem.W.Frag) : Tg → TG
  | .nm i => gName i
  | .tp is => gTup K is.length (gNames is)
section
variable {G : Gd} {σ : L2.St} {H : Hp} {π : Nat → Addr} {e e1 : Ev} {h : Hh}
theorem setAll_ok : ∀ {is : List Nat} {xs : List V} {e e1 : Ev}, setAll is xs e = some e1 → wfE h.length e → wfL h.length xs → ∀ {Q : L2.St → Hp → Prop},
    (wfE h.length e1 → Q (imE π e1) H) → gNames is (imL π xs) (imE π e) H Q
  | [], [], e, e1, hs, we, _, Q, q => by
    cases hs
    exact ⟨rfl, q we⟩
  | i :: is, x :: xs, e, e1, hs, we, wx, Q, q => by
    refine ⟨im π x, imL π xs, rfl, ?_⟩
    show gNames is (imL π xs) ((imE π e).set i (some (im π x))) H Q
    rw [← imE_set]
    exact setAll_ok (is := is) (xs := xs) hs (we.set (wx x List.mem_cons_self)) (fun u hu => wx u (List.mem_cons_of_mem _ hu)) q
  | [], _ :: _, _, _, hs, _, _, _, _ => by cases hs
  | _ :: _, [], _, _, hs, _, _, _, _ => by cases hs
theorem setAll_len : ∀ {is : List Nat} {xs : List V} {e e1 : Ev}, setAll is xs e = some e1 → is.length = xs.length
  | [], [], _, _, _ => rfl
  | i :: is, x :: xs, e, e1, hs => congrArg (· + 1) (setAll_len (is := is) (xs := xs) hs)
  | [], _ :: _, _, _, hs => by cases hs
  | _ :: _, [], _, _, hs => by cases hs
theorem asg_ok {K : PySem.W.Frag} (hK : K = G.K) {t : Tg} {x : V} (S : Sx G σ H π e h) (hs : asg t x e h = some e1) (wx : wf h.length x) {Q : L2.St → Hp → Prop}
    (q : Sx G (imE π e1) H π e1 h → Q (imE π e1) H) : tgR K t (im π x) σ H Q := by
  rw [S.sl]
  cases t with
  | nm i =>
    cases hs
    show Q ((imE π e).set i (some (im π x))) H
    rw [← imE_set]
    exact q ⟨rfl, S.we.set wx, S.hr⟩
  | tp is =>
    unfold asg at hs
    cases x with
    | ref a =>
      simp only at hs
      split at hs
      · rename_i xs hx
        obtain ⟨l1, w1⟩ := S.hr.seqT hx
        rw [← hK] at l1
        refine ⟨π a, imL π xs, rfl, l1, by rw [imL_len]; exact (setAll_len hs).symm, ?_⟩
        exact setAll_ok hs S.we w1 fun we1 => q ⟨rfl, we1, S.hr⟩
      · cases hs
    | _ => cases hs
end

/-! ### what is walked -/
/-- the sequence stands there -/
def SgAt (h : Hh) (p : Sg) : Prop := match p.t with | true => seqT h p.a = some p.xs | false => seqL h p.a = some p.xs
/-- the items of a walk are those that the model yields -/
structure Wk (G : Gd) (iv : Iv) (J : L2.It) (π1 : Nat → Addr) (h1 : Hh) : Prop where
  go : ∀ {π hi hi' H i x}, Nx π1 h1 π hi → HR G π hi H → iv.at i hi = some (.ok x, hi') → J.go i H ∧
    ∀ x' H', J.yld i H x' H' → ∃ π', Nx π hi π' hi' ∧ HR G π' hi' H' ∧ x' = im π' x ∧ wf hi'.length x
  stop : ∀ {π hi H}, Nx π1 h1 π hi → HR G π hi H → iv.ends hi = true → J.stop iv.size H

section
variable {G : Gd} {π1 : Nat → Addr} {h1 : Hh}
theorem now_ok {a n : Nat} {h : Hh} {ys : List V} (e : nowL h a n = some ys) : seqL h a = some ys ∧ ys.length = n := by
  unfold nowL at e
  split at e
  · rename_i zs hz
    split at e
    · rename_i c
      cases e
      exact ⟨hz, c⟩
    · cases e
  · cases e
theorem nowT_ok {a n : Nat} {h : Hh} {ys : List V} (e : nowT h a n = some ys) : seqT h a = some ys ∧ ys.length = n := by
  unfold nowT at e
  split at e
  · rename_i zs hz
    split at e
    · rename_i c
      cases e
      exact ⟨hz, c⟩
    · cases e
  · cases e
theorem item_ok {o : Option (List V)} {i : Nat} {x : V} (e : itemO o i = some x) : ∃ ys, o = some ys ∧ ys[i]? = some x := by
  unfold itemO at e
  split at e
  · exact ⟨_, rfl, e⟩
  · cases e
theorem seq_im {K : PySem.W.Frag} (hK : K = G.K) {a : Nat} {xs ys : List V} {π hi H} (hx : seqL h1 a = some xs) (N : Nx π1 h1 π hi) (R : HR G π hi H) (e : seqL hi a = some ys) : SqL K H (π1 a) (imL π ys) ∧ wfL hi.length ys := by
  obtain ⟨l, w⟩ := R.seqL e
  rw [N.ag a (seqL_lt hx)] at l
  rw [hK]
  exact ⟨l, w⟩
theorem seqT_im {K : PySem.W.Frag} (hK : K = G.K) {a : Nat} {xs ys : List V} {π hi H} (hx : seqT h1 a = some xs) (N : Nx π1 h1 π hi) (R : HR G π hi H) (e : seqT hi a = some ys) : SqT K H (π1 a) (imL π ys) ∧ wfL hi.length ys := by
  obtain ⟨l, w⟩ := R.seqT e
  rw [N.ag a (seqT_lt hx)] at l
  rw [hK]
  exact ⟨l, w⟩
theorem im_at {π : Nat → Addr} {ys : List V} {i : Nat} {x : V} (e : ys[i]? = some x) : (imL π ys)[i]? = some (im π x) := by
  show (ys.map (im π))[i]? = _
  rw [List.getElem?_map, e]; rfl
theorem wk_list {K : PySem.W.Frag} (hK : K = G.K) {a : Nat} {xs : List V} (hx : seqL h1 a = some xs) (w1 : wfL h1.length xs) : Wk G (.lst a xs) (Itl K (π1 a)) π1 h1 := by
  constructor
  · intro π hi hi' H i x N R e
    obtain ⟨e1, e2⟩ := look_ok (show look (fun h => itemO (nowL h a xs.length) i) hi = some (.ok x, hi') from e)
    subst e2
    obtain ⟨ys, e3, e4⟩ := item_ok e1
    obtain ⟨hs, _⟩ := now_ok e3
    obtain ⟨l, w⟩ := seq_im hK hx N R hs
    refine ⟨⟨imL π ys, im π x, l, im_at e4⟩, ?_⟩
    rintro x' H' ⟨rfl, y⟩
    refine ⟨π, Nx.refl, R, ?_, w x (List.mem_of_getElem? e4)⟩
    exact (Option.some.inj ((im_at e4).symm.trans (y _ l))).symm
  · intro π hi H N R e
    obtain ⟨ys, e3⟩ := Option.isSome_iff_exists.mp (show (nowL hi a xs.length).isSome = true from e)
    obtain ⟨hs, hl⟩ := now_ok e3
    obtain ⟨l, w⟩ := seq_im hK hx N R hs
    exact ⟨imL π ys, l, by rw [imL_len, hl]; exact Nat.le_refl _⟩
theorem wk_tup {K : PySem.W.Frag} (hK : K = G.K) {a : Nat} {xs : List V} (hx : seqT h1 a = some xs) (w1 : wfL h1.length xs) : Wk G (.tup a xs) (Itt K (π1 a)) π1 h1 := by
  constructor
  · intro π hi hi' H i x N R e
    obtain ⟨e1, e2⟩ := look_ok (show look (fun h => itemO (nowT h a xs.length) i) hi = some (.ok x, hi') from e)
    subst e2
    obtain ⟨ys, e3, e4⟩ := item_ok e1
    obtain ⟨hs, _⟩ := nowT_ok e3
    obtain ⟨l, w⟩ := seqT_im hK hx N R hs
    refine ⟨⟨imL π ys, im π x, l, im_at e4⟩, ?_⟩
    rintro x' H' ⟨rfl, y⟩
    refine ⟨π, Nx.refl, R, ?_, w x (List.mem_of_getElem? e4)⟩
    exact (Option.some.inj ((im_at e4).symm.trans (y _ l))).symm
  · intro π hi H N R e
    obtain ⟨ys, e3⟩ := Option.isSome_iff_exists.mp (show (nowT hi a xs.length).isSome = true from e)
    obtain ⟨hs, hl⟩ := nowT_ok e3
    obtain ⟨l, w⟩ := seqT_im hK hx N R hs
    exact ⟨imL π ys, l, by rw [imL_len, hl]; exact Nat.le_refl _⟩
theorem wk_rng {lo : Int} {n : Nat} : Wk G (.rng lo n) (Itr lo n) π1 h1 := by
  constructor
  · intro π hi hi' H i x N R e
    have e : (if i < n then rt (.int (lo + i)) else no : Mo V) hi = some (.ok x, hi') := e
    split at e
    · rename_i hlt
      obtain ⟨e1, e2⟩ := rt_ok e
      subst e1 e2
      refine ⟨hlt, ?_⟩
      rintro x' H' ⟨rfl, rfl⟩
      exact ⟨π, Nx.refl, R, rfl, trivial⟩
    · exact (no_ok e).elim
  · intro π hi H N R e
    exact Nat.le_refl n
theorem wk_down {lo : Int} {n : Nat} : Wk G (.down lo n) (Itc lo (-1) n) π1 h1 := by
  constructor
  · intro π hi hi' H i x N R e
    have e : (if i < n then rt (.int (lo - i)) else no : Mo V) hi = some (.ok x, hi') := e
    split at e
    · rename_i hlt
      obtain ⟨e1, e2⟩ := rt_ok e
      subst e1 e2
      refine ⟨hlt, ?_⟩
      rintro x' H' ⟨rfl, rfl⟩
      refine ⟨π, Nx.refl, R, ?_, trivial⟩
      show V.int (lo + (i : Int) * -1) = V.int (lo - (i : Int))
      congr 1
      omega
    · exact (no_ok e).elim
  · intro π hi H N R e
    exact Nat.le_refl n
/-- a sequence, as it stands now -/
theorem now_im {K : PySem.W.Frag} (hK : K = G.K) {p : Sg} (hx : SgAt h1 p) {ys : List V} {π hi H} (N : Nx π1 h1 π hi) (R : HR G π hi H) (e : nowS hi p = some ys) : SqB p.t K H (π1 p.a) (imL π ys) ∧ wfL hi.length ys ∧ ys.length = p.xs.length := by
  obtain ⟨t, a, xs⟩ := p
  unfold nowS at e
  cases t with
  | true =>
    rw [if_pos rfl] at e
    obtain ⟨hs, hl⟩ := nowT_ok e
    obtain ⟨l, w⟩ := seqT_im hK hx N R hs
    exact ⟨l, w, hl⟩
  | false =>
    rw [if_neg Bool.false_ne_true] at e
    obtain ⟨hs, hl⟩ := now_ok e
    obtain ⟨l, w⟩ := seq_im hK hx N R hs
    exact ⟨l, w, hl⟩
theorem wk_enum {K : PySem.W.Frag} (hK : K = G.K) {p : Sg} (hx : SgAt h1 p) : Wk G (.enum p) (IteB K p.t (π1 p.a)) π1 h1 := by
  constructor
  · intro π hi hi' H i x N R e
    obtain ⟨y, h2, b1, b2⟩ := bd_ok (show bd (look fun h => itemO (nowS h p) i) (fun x => alloc (.tup [.int (i : Nat), x])) hi = some (.ok x, hi') from e)
    obtain ⟨e1, e2⟩ := look_ok b1
    subst e2
    obtain ⟨ys, e3, e4⟩ := item_ok e1
    obtain ⟨l, w, _⟩ := now_im hK hx N R e3
    unfold alloc at b2
    cases b2
    have wy := w y (List.mem_of_getElem? e4)
    refine ⟨⟨imL π ys, im π y, l, im_at e4⟩, ?_⟩
    rintro x' H' ⟨T, u, rfl, hT, rfl, y2⟩
    have z := (im_at e4).symm.trans (y2 _ l)
    cases z
    have R' := R.tup (xs := [.int (i : Nat), y]) hT (fun v hv => by
      rcases List.mem_cons.mp hv with rfl | hv
      · trivial
      · rw [List.mem_singleton.mp hv]; exact wy)
    exact ⟨ext π hi.length T, ext_nx _ T, R', (congrArg V.ref ext_at).symm, by show hi.length < _; rw [List.length_append]; exact Nat.lt_succ_self _⟩
  · intro π hi H N R e
    obtain ⟨ys, e3⟩ := Option.isSome_iff_exists.mp (show (nowS hi p).isSome = true from e)
    obtain ⟨l, w, hl⟩ := now_im hK hx N R e3
    exact ⟨imL π ys, l, by rw [imL_len, hl]; exact Nat.le_refl _⟩
theorem wk_zip {K : PySem.W.Frag} (hK : K = G.K) {p q : Sg} (hx : SgAt h1 p) (hy : SgAt h1 q) : Wk G (.zip p q) (Itz2 K p.t q.t (π1 p.a) (π1 q.a)) π1 h1 := by
  constructor
  · intro π hi hi' H i x N R e
    obtain ⟨u, h2, b1, b2⟩ := bd_ok (show bd (look fun h => itemO (nowS h p) i) (fun x => bd (look fun h => itemO (nowS h q) i) fun y => alloc (.tup [x, y])) hi = some (.ok x, hi') from e)
    obtain ⟨v, h3, b3, b4⟩ := bd_ok b2
    obtain ⟨e1, e2⟩ := look_ok b1
    obtain ⟨e5, e6⟩ := look_ok b3
    subst e2 e6
    obtain ⟨us, e3, e4⟩ := item_ok e1
    obtain ⟨vs, e7, e8⟩ := item_ok e5
    obtain ⟨l1, wl1, _⟩ := now_im hK hx N R e3
    obtain ⟨l2, wl2, _⟩ := now_im hK hy N R e7
    unfold alloc at b4
    cases b4
    have wu := wl1 u (List.mem_of_getElem? e4)
    have wv := wl2 v (List.mem_of_getElem? e8)
    refine ⟨⟨imL π us, imL π vs, im π u, im π v, l1, l2, im_at e4, im_at e8⟩, ?_⟩
    rintro x' H' ⟨T, c, d, rfl, hT, rfl, y1, y2⟩
    have z1 := (im_at e4).symm.trans (y1 _ l1)
    have z2 := (im_at e8).symm.trans (y2 _ l2)
    cases z1
    cases z2
    have R' := R.tup (xs := [u, v]) hT (fun t ht => by
      rcases List.mem_cons.mp ht with rfl | ht
      · exact wu
      · rw [List.mem_singleton.mp ht]; exact wv)
    exact ⟨ext π hi.length T, ext_nx _ T, R', (congrArg V.ref ext_at).symm, by show hi.length < _; rw [List.length_append]; exact Nat.lt_succ_self _⟩
  · intro π hi H N R e
    have e : ((nowS hi p).isSome && (nowS hi q).isSome) = true := e
    rw [Bool.and_eq_true] at e
    obtain ⟨us, e3⟩ := Option.isSome_iff_exists.mp e.1
    obtain ⟨vs, e4⟩ := Option.isSome_iff_exists.mp e.2
    obtain ⟨l1, _, hl⟩ := now_im hK hx N R e3
    obtain ⟨l2, _, hl2⟩ := now_im hK hy N R e4
    refine ⟨imL π us, imL π vs, l1, l2, ?_⟩
    rw [imL_len, imL_len, hl, hl2]
    show min _ _ ≤ p.xs.length ∧ min _ _ ≤ q.xs.length ∧ (min _ _ = p.xs.length ∨ min _ _ = q.xs.length)
    omega
theorem wk_zip3 {K : PySem.W.Frag} (hK : K = G.K) {p q r : Sg} (hx : SgAt h1 p) (hy : SgAt h1 q) (hz : SgAt h1 r) : Wk G (.zip3 p q r) (Itz3 K p.t q.t r.t (π1 p.a) (π1 q.a) (π1 r.a)) π1 h1 := by
  constructor
  · intro π hi hi' H i x N R e
    obtain ⟨u, h2, b1, b2⟩ := bd_ok (show bd (look fun h => itemO (nowS h p) i) (fun x => bd (look fun h => itemO (nowS h q) i) fun y => bd (look fun h => itemO (nowS h r) i) fun z => alloc (.tup [x, y, z])) hi = some (.ok x, hi') from e)
    obtain ⟨v, h3, b3, b4⟩ := bd_ok b2
    obtain ⟨w, h4, b5, b6⟩ := bd_ok b4
    obtain ⟨e1, e2⟩ := look_ok b1
    obtain ⟨e5, e6⟩ := look_ok b3
    obtain ⟨f1, f2⟩ := look_ok b5
    subst e2 e6 f2
    obtain ⟨us, e3, e4⟩ := item_ok e1
    obtain ⟨vs, e7, e8⟩ := item_ok e5
    obtain ⟨ws, f3, f4⟩ := item_ok f1
    obtain ⟨l1, wl1, _⟩ := now_im hK hx N R e3
    obtain ⟨l2, wl2, _⟩ := now_im hK hy N R e7
    obtain ⟨l3, wl3, _⟩ := now_im hK hz N R f3
    unfold alloc at b6
    cases b6
    have wu := wl1 u (List.mem_of_getElem? e4)
    have wv := wl2 v (List.mem_of_getElem? e8)
    have ww := wl3 w (List.mem_of_getElem? f4)
    refine ⟨⟨imL π us, imL π vs, imL π ws, im π u, im π v, im π w, l1, l2, l3, im_at e4, im_at e8, im_at f4⟩, ?_⟩
    rintro x' H' ⟨T, c, d, g, rfl, hT, rfl, y1, y2, y3⟩
    have z1 := (im_at e4).symm.trans (y1 _ l1)
    have z2 := (im_at e8).symm.trans (y2 _ l2)
    have z3 := (im_at f4).symm.trans (y3 _ l3)
    cases z1
    cases z2
    cases z3
    have R' := R.tup (xs := [u, v, w]) hT (fun t ht => by
      rcases List.mem_cons.mp ht with rfl | ht
      · exact wu
      · rcases List.mem_cons.mp ht with rfl | ht
        · exact wv
        · rw [List.mem_singleton.mp ht]; exact ww)
    exact ⟨ext π hi.length T, ext_nx _ T, R', (congrArg V.ref ext_at).symm, by show hi.length < _; rw [List.length_append]; exact Nat.lt_succ_self _⟩
  · intro π hi H N R e
    have e : ((nowS hi p).isSome && (nowS hi q).isSome && (nowS hi r).isSome) = true := e
    rw [Bool.and_eq_true, Bool.and_eq_true] at e
    obtain ⟨us, e3⟩ := Option.isSome_iff_exists.mp e.1.1
    obtain ⟨vs, e4⟩ := Option.isSome_iff_exists.mp e.1.2
    obtain ⟨ws, e5⟩ := Option.isSome_iff_exists.mp e.2
    obtain ⟨l1, _, hl⟩ := now_im hK hx N R e3
    obtain ⟨l2, _, hl2⟩ := now_im hK hy N R e4
    obtain ⟨l3, _, hl3⟩ := now_im hK hz N R e5
    refine ⟨imL π us, imL π vs, imL π ws, l1, l2, l3, ?_⟩
    rw [imL_len, imL_len, imL_len, hl, hl2, hl3]
    show min (min _ _) _ ≤ p.xs.length ∧ min (min _ _) _ ≤ q.xs.length ∧ min (min _ _) _ ≤ r.xs.length ∧ (min (min _ _) _ = p.xs.length ∨ min (min _ _) _ = q.xs.length ∨ min (min _ _) _ = r.xs.length)
    omega
end

/-! ### list comprehensions -/
theorem wipe_at : ∀ (vs : List Nat) (σ : L2.St) (j : Nat), (wipe σ vs)[j]? = if j ∈ vs then (if j < σ.length then some none else none) else σ[j]?
  | [], σ, j => by simp [wipe]
  | v :: vs, σ, j => by
    unfold wipe
    by_cases hv : v = j
    · subst hv
      rw [if_pos List.mem_cons_self]
      by_cases hl : v < σ.length
      · rw [if_pos hl, List.getElem?_set_self (by rw [wipe_length]; exact hl)]
      · rw [if_neg hl, List.getElem?_eq_none (by rw [List.length_set, wipe_length]; omega)]
    · rw [List.getElem?_set_ne hv, wipe_at vs σ j]
      have e : j ∈ v :: vs ↔ j ∈ vs := by simp [Ne.symm hv]
      simp only [e]
theorem wipe_eq {σ τ : L2.St} {vs : List Nat} (hl : τ.length = σ.length) (h : ∀ j, j ∉ vs → τ[j]? = σ[j]?) : wipe τ vs = wipe σ vs := by
  refine List.ext_getElem? fun j => ?_
  rw [wipe_at, wipe_at, hl]
  by_cases hj : j ∈ vs
  · rw [if_pos hj, if_pos hj]
  · rw [if_neg hj, if_neg hj, h j hj]
theorem wipe_im {π : Nat → Addr} : ∀ (vs : List Nat) (e : Ev), imE π (wipeE e vs) = wipe (imE π e) vs
  | [], e => rfl
  | v :: vs, e => by
    show ((wipeE e vs).set v none).map (imO π) = (wipe (imE π e) vs).set v none
    rw [List.map_set, ← wipe_im vs e]; rfl
theorem wipeE_wf {n : Nat} : ∀ (vs : List Nat) {e : Ev}, wfE n e → wfE n (wipeE e vs)
  | [], _, w => w
  | v :: vs, e, w => fun u hu => by
    rcases List.mem_or_eq_of_mem_set (show some u ∈ (wipeE e vs).set v none from hu) with z | z
    · exact wipeE_wf vs w u z
    · cases z
def Tg.sl : Tg → List Nat | .nm i => [i] | .tp is => is
theorem setAll_out : ∀ {is : List Nat} {xs : List V} {e e1 : Ev}, setAll is xs e = some e1 → e1.length = e.length ∧ ∀ j, j ∉ is → e1[j]? = e[j]?
  | [], [], _, _, hs => by cases hs; exact ⟨rfl, fun _ _ => rfl⟩
  | i :: is, x :: xs, e, e1, hs => by
    obtain ⟨h1, h2⟩ := setAll_out (is := is) (xs := xs) (e := e.set i (some x)) hs
    refine ⟨h1.trans (List.length_set ..), fun j hj => ?_⟩
    rw [h2 j fun z => hj (List.mem_cons_of_mem _ z), List.getElem?_set_ne fun z => hj (by rw [z]; exact List.mem_cons_self)]
  | [], _ :: _, _, _, hs => by cases hs
  | _ :: _, [], _, _, hs => by cases hs
theorem asg_out {t : Tg} {x : V} {e e1 : Ev} {h : Hh} (hs : asg t x e h = some e1) : e1.length = e.length ∧ ∀ j, j ∉ t.sl → e1[j]? = e[j]? := by
  cases t with
  | nm i =>
    cases hs
    refine ⟨List.length_set .., fun j hj => ?_⟩
    rw [List.getElem?_set_ne fun z => hj (by rw [z]; exact List.mem_singleton.mpr rfl)]
  | tp is =>
    unfold asg at hs
    cases x with
    | ref a =>
      simp only at hs
      split at hs
      · exact setAll_out hs
      · cases hs
    | _ => cases hs
theorem imE_at {π : Nat → Addr} {e : Ev} {j : Nat} : (imE π e)[j]? = (e[j]?).map (imO π) := List.getElem?_map

/-- the turns of a comprehension -/
theorem comp_ok {X : Cx} {G : Gd} {iv : Iv} {J : L2.It} {π1 : Nat → Addr} {h1 h2 : Hh} {H1 : Hp} {e : Ev} {σ : L2.St} {own : List Nat} {t : Tg} {c : Ev → Mo Bool} {el : Ev → Mo V} {tt : TT} {te : TE} {Qd : Hp → Prop} {D : Addr}
    (hK : X.K = G.K) (W : Wk G iv J π1 h1) (S : Sx G σ H1 π1 e h1) (hD : H1 D = none) (ho : ∀ i ∈ t.sl, i ∈ own)
    (ht : ∀ σ H Q, TTh G c σ H Q → tt σ H Q) (he : ∀ σ H Q, TEh G el σ H Q → te σ H Q)
    (hm : compGo iv t c el h1.length (wipeE e own) iv.size 0 (h1 ++ [.lst []]) = some (.ok (), h2))
    (hq : ∀ π' H', Nx π1 h1 π' h2 → HR G π' h2 H' → π' h1.length = D → h1.length < h2.length → Qd H') :
    ∃ W : Nat → Nat → Hp → Prop, (∃ m, W 0 m (upd H1 D (.lst []))) ∧ ∀ i m H, W i m H →
      (J.stop i H ∧ Qd H) ∨ (J.go i H ∧ ∃ Nxt : Hp → Prop, (∀ H', Nxt H' → ∃ m', m' < m ∧ W (i + 1) m' H') ∧ ∀ x H', J.yld i H x H' → tgR X.K t x (wipe σ own) H' fun σ2 H2 => wipe σ2 own = wipe σ own ∧ tt σ2 H2 fun b H3 =>
        if b = true then te σ2 H3 fun y H4 => ∃ acc, H4 D = some (.lst acc) ∧ acc.length < sizeLine ∧ Nxt (upd H4 D (.lst (acc ++ [y]))) else Nxt H3) := by
  have N0 : Nx π1 h1 (ext π1 h1.length D) (h1 ++ [.lst []]) := ext_nx _ D
  have R0 := S.hr.lst (xs := []) hD (fun _ z => nomatch z)
  have l0 : h1.length < (h1 ++ [Ob.lst []]).length := by rw [List.length_append]; exact Nat.lt_succ_self _
  refine ⟨fun i m H => m + i = iv.size ∧ ∃ π hi, Nx π1 h1 π hi ∧ HR G π hi H ∧ π h1.length = D ∧ h1.length < hi.length ∧
      compGo iv t c el h1.length (wipeE e own) m i hi = some (.ok (), h2), ⟨iv.size, rfl, _, _, N0, R0, ext_at, l0, hm⟩, ?_⟩
  rintro i m H ⟨hmi, π, hi, N, R, hπ, hl, hg⟩
  cases m with
  | zero =>
    have e0 : i = iv.size := by omega
    have hg : (if iv.ends hi then some ((.ok () : Rs Unit), hi) else none) = some (.ok (), h2) := hg
    split at hg
    · rename_i hs
      cases hg
      refine .inl ⟨?_, hq π H N R hπ hl⟩
      rw [e0]
      exact W.stop N R hs
    · cases hg
  | succ m =>
    obtain ⟨x, h3, a1, b1⟩ := bd_ok (show bd (iv.at i) _ hi = _ from hg)
    obtain ⟨e1, h4, a2, b2⟩ := bd_ok b1
    obtain ⟨b, h5, a3, b3⟩ := bd_ok b2
    obtain ⟨as2, r2⟩ := look_ok a2
    subst r2
    obtain ⟨go, yl⟩ := W.go N R a1
    refine .inr ⟨go, fun H' => m + (i + 1) = iv.size ∧ ∃ π hi, Nx π1 h1 π hi ∧ HR G π hi H' ∧ π h1.length = D ∧ h1.length < hi.length ∧
      compGo iv t c el h1.length (wipeE e own) m (i + 1) hi = some (.ok (), h2), fun H' z => ⟨m, Nat.lt_succ_self m, z⟩, ?_⟩
    intro x' H' hy
    obtain ⟨π3, N3, R3, rfl, wx⟩ := yl x' H' hy
    have N03 := N.trans N3
    have S3 : Sx G (wipe σ own) H' π3 (wipeE e own) h3 := by
      refine ⟨?_, N03.wfE (wipeE_wf own S.we), R3⟩
      rw [wipe_im, S.sl, N03.imE S.we]
    refine asg_ok hK S3 as2 wx fun S4 => ⟨?_, ?_⟩
    · have out := asg_out as2
      have l1 : (imE π3 e1).length = (wipe σ own).length := by
        rw [S3.sl]
        show (e1.map _).length = ((wipeE e own).map _).length
        rw [List.length_map, List.length_map, out.1]
      have z : wipe (imE π3 e1) own = wipe (wipe σ own) own := wipe_eq l1 fun j hj => by
        rw [S3.sl, imE_at, imE_at, out.2 j fun z => hj (ho j z)]
      rw [z]
      refine wipe_eq (wipe_length ..) fun j hj => ?_
      rw [wipe_at, if_neg hj]
    · refine ht _ _ _ (goT S4 a3 fun π5 H5 N5 S5 _ => ?_)
      have N05 := N03.trans N5
      have hD5 : π5 h1.length = D := (N5.ag _ (Nat.lt_of_lt_of_le hl N3.le)).trans ((N3.ag _ hl).trans hπ)
      have hl5 : h1.length < h5.length := Nat.lt_of_lt_of_le hl (N3.trans N5).le
      cases b with
      | false =>
        rw [if_neg Bool.false_ne_true]
        exact ⟨by omega, π5, h5, N05, S5.hr, hD5, hl5, b3⟩
      | true =>
        rw [if_pos rfl]
        obtain ⟨y, h6, a4, b4⟩ := bd_ok (show bd (el e1) _ h5 = _ from b3)
        obtain ⟨u, h7, a5, b5⟩ := bd_ok b4
        refine he _ _ _ (goE S5 a4 fun π6 H6 N6 S6 w6 => ?_)
        unfold push at a5
        split at a5
        · cases a5
        · rename_i acc hacc
          split at a5
          · rename_i hz
            cases a5
            have hD6 : π6 h1.length = D := (N6.ag _ hl5).trans hD5
            obtain ⟨la, wa⟩ := S6.hr.lstAt hacc
            rw [hD6] at la
            refine ⟨imL π6 acc, la, by rw [imL_len]; exact hz, by omega, π6, _, (N05.trans N6).trans set_nx, ?_, hD6, by rw [List.length_set]; exact Nat.lt_of_lt_of_le hl5 N6.le, b5⟩
            have R7 := S6.hr.setL hacc (ys := acc ++ [y]) (wfL_app wa fun v hv => by rw [List.mem_singleton.mp hv]; exact w6)
            rw [imL_app, hD6] at R7
            exact R7
          · cases a5
end HI

set_option maxRecDepth 100000
set_option maxHeartbeats 4000000
/-! sources of walks; statements -/
namespace HI
open PySem PySem.Spec PyProof.Rows L2

structure PIh (X : Cx) (G : Gd) (tg iter : Expr) (mi : Ev → Mo Iv) : Prop where
  has : ∀ {σ H π e h iv h1}, Sx G σ H π e h → mi e h = some (.ok iv, h1) → ∃ wi : TI, PI X tg iter wi ∧
    ∀ R : L2.It → Hp → Prop, (∀ π1 H1 J, Nx π h π1 h1 → Sx G σ H1 π1 e h1 → Wk G iv J π1 h1 → R J H1) → wi σ H R
section
variable {X : Cx} {G : Gd} {C : Cfg} {tg a b u : Expr} {ea eb : Ex} {p pos : Pos}
theorem pix_seq (hK : X.K = G.K) (ha : PEh X G C a ea) : PIh X G tg a (evI C (.seq ea)) := by
  constructor
  intro σ H π e h iv h1 S hm
  simp only [evI] at hm
  obtain ⟨x, h2, a1, m1⟩ := bd_ok hm
  unfold seqO at m1
  split at m1
  · rename_i d
    obtain ⟨b1, b2⟩ := look_ok m1
    subst b2
    split at b1
    · rename_i xs hx
      cases b1
      refine ⟨_, pi_list ha, fun R k => ?_⟩
      refine goE S a1 fun π1 H1 N1 S1 w1 => ?_
      obtain ⟨l1, wl⟩ := S1.hr.seqL hx
      rw [← hK] at l1
      exact ⟨π1 d, rfl, ⟨_, l1⟩, k π1 H1 _ N1 S1 (wk_list hK hx wl)⟩
    · split at b1
      · rename_i xs hx
        cases b1
        refine ⟨_, pi_tup ha, fun R k => ?_⟩
        refine goE S a1 fun π1 H1 N1 S1 w1 => ?_
        obtain ⟨l1, wl⟩ := S1.hr.seqT hx
        rw [← hK] at l1
        exact ⟨π1 d, rfl, ⟨_, l1⟩, k π1 H1 _ N1 S1 (wk_tup hK hx wl)⟩
      · cases b1
  · exact (no_ok m1).elim
theorem evs1 {C : Cfg} {ea : Ex} {e : Ev} {h h1 : Hh} {x : V} (a1 : ev C ea e h = some (.ok x, h1)) : evs C (.cons ea .nil) e h = some (.ok [x], h1) := by
  simp only [evs, bd, a1, rt]
theorem evs2 {C : Cfg} {ea eb : Ex} {e : Ev} {h h1 h2 : Hh} {x y : V} (a1 : ev C ea e h = some (.ok x, h1)) (a2 : ev C eb e h1 = some (.ok y, h2)) : evs C (.cons ea (.cons eb .nil)) e h = some (.ok [x, y], h2) := by
  simp only [evs, bd, a1, a2, rt]
theorem toI_ok {x : V} {i : Int} {h h' : Hh} (e : toI x h = some (.ok i, h')) : x = .int i ∧ h = h' := by
  unfold toI at e
  split at e
  · obtain ⟨e1, e2⟩ := rt_ok e; subst e1; exact ⟨rfl, e2⟩
  · exact (no_ok e).elim
theorem rngO_ok {i j : Int} {iv : Iv} {h h' : Hh} (e : rngO i j h = some (.ok iv, h')) : ((-(2 ^ 62) ≤ i ∧ i < 2 ^ 62) ∧ -(2 ^ 62) ≤ j ∧ j < 2 ^ 62) ∧ iv = .rng i (j - i).toNat ∧ h = h' := by
  unfold rngO at e
  split at e
  · rename_i c
    obtain ⟨e1, e2⟩ := rt_ok e; exact ⟨c, e1.symm, e2⟩
  · exact (no_ok e).elim
theorem sgO_ok {x : V} {q : Sg} {h h' : Hh} (e : sgO x h = some (.ok q, h')) : x = .ref q.a ∧ SgAt h q ∧ h = h' := by
  unfold sgO at e
  split at e
  · rename_i d
    obtain ⟨e1, e2⟩ := look_ok e
    subst e2
    cases hs : seqL h d with
    | some xs => rw [hs] at e1; cases e1; exact ⟨rfl, hs, rfl⟩
    | none =>
      rw [hs] at e1
      cases ht : seqT h d with
      | some xs => simp only [ht] at e1; cases e1; exact ⟨rfl, ht, rfl⟩
      | none => simp only [ht] at e1; cases e1
  · exact (no_ok e).elim
theorem downO_ok {i j : Int} {iv : Iv} {h h' : Hh} (e : downO i j h = some (.ok iv, h')) : ((-(2 ^ 62) ≤ i ∧ i < 2 ^ 62) ∧ -(2 ^ 62) ≤ j ∧ j < 2 ^ 62) ∧ iv = .down i (i - j).toNat ∧ h = h' := by
  unfold downO at e
  split at e
  · rename_i c
    obtain ⟨e1, e2⟩ := rt_ok e; exact ⟨c, e1.symm, e2⟩
  · exact (no_ok e).elim
theorem sg_sq {G : Gd} {π : Nat → Addr} {h : Hh} {H : Hp} (R : HR G π h H) {q : Sg} (s : SgAt h q) : SqB q.t G.K H (π q.a) (imL π q.xs) := by
  obtain ⟨t, a, xs⟩ := q
  cases t with
  | true => exact (R.seqT s).1
  | false => exact (R.seqL s).1
theorem pix_rng1 (hg : Gl X "range") (hm : X.mg "range" = none) (ha : PEh X G C a ea) (hp : plE a = true) : PIh X G tg (.Call (.Name "range" p) [a] [] pos) (evI C (.rng1 ea)) := by
  constructor
  intro σ H π e h iv h1 S hm'
  simp only [evI] at hm'
  obtain ⟨x, h2, a1, m1⟩ := bd_ok hm'
  obtain ⟨j, h3, a2, m2⟩ := bd_ok m1
  obtain ⟨rfl, e1⟩ := toI_ok a2
  subst e1
  obtain ⟨⟨⟨c1, c2⟩, c3, c4⟩, rfl, e2⟩ := rngO_ok m2
  subst e2
  refine ⟨_, pi_range1 hg hm (pax_cons ha pax_nil hp) (star_cons hp), fun R k => ?_⟩
  refine goA S (evs1 a1) fun π1 H1 N1 S1 w1 => ?_
  have z := k π1 H1 _ N1 S1 (wk_rng (lo := 0) (n := (j - 0).toNat))
  rw [Int.sub_zero] at z
  exact ⟨j, rfl, c3, c4, z⟩
theorem pix_rng2 (hg : Gl X "range") (hm : X.mg "range" = none) (ha : PEh X G C a ea) (hb : PEh X G C b eb) (hp : plE a = true) (hp2 : plE b = true) : PIh X G tg (.Call (.Name "range" p) [a, b] [] pos) (evI C (.rng2 ea eb)) := by
  constructor
  intro σ H π e h iv h1 S hm'
  simp only [evI] at hm'
  obtain ⟨x, h2, a1, m1⟩ := bd_ok hm'
  obtain ⟨y, h3, a2, m2⟩ := bd_ok m1
  obtain ⟨i, h4, a3, m3⟩ := bd_ok m2
  obtain ⟨j, h5, a4, m4⟩ := bd_ok m3
  obtain ⟨rfl, e1⟩ := toI_ok a3
  obtain ⟨rfl, e2⟩ := toI_ok a4
  subst e1 e2
  obtain ⟨c, rfl, e3⟩ := rngO_ok m4
  subst e3
  have s1 : starEach [b] X.env = [(false, eval b X.env)] := star_cons hp2
  refine ⟨_, pi_range2 hg hm (pax_cons ha (pax_cons hb pax_nil hp2) hp) (by rw [star_cons hp, s1]) s1, fun R k => ?_⟩
  refine goA S (evs2 a1 a2) fun π1 H1 N1 S1 w1 => ?_
  exact ⟨i, j, rfl, ⟨c.1.1, c.1.2, c.2.1, c.2.2⟩, k π1 H1 _ N1 S1 wk_rng⟩
theorem evs3 {C : Cfg} {ea eb ec : Ex} {e : Ev} {h h1 h2 h3 : Hh} {x y z : V} (a1 : ev C ea e h = some (.ok x, h1)) (a2 : ev C eb e h1 = some (.ok y, h2)) (a3 : ev C ec e h2 = some (.ok z, h3)) : evs C (.cons ea (.cons eb (.cons ec .nil))) e h = some (.ok [x, y, z], h3) := by
  simp only [evs, bd, a1, a2, a3, rt]
theorem pix_down (hu : PEh X G C u (.neg (.cst (.int 1)))) (hup : plE u = true) (hg : Gl X "range") (hm : X.mg "range" = none) (ha : PEh X G C a ea) (hb : PEh X G C b eb) (hp : plE a = true) (hp2 : plE b = true) : PIh X G tg (.Call (.Name "range" p) [a, b, u] [] pos) (evI C (.down ea eb)) := by
  constructor
  intro σ H π e h iv h1 S hm'
  simp only [evI] at hm'
  obtain ⟨x, h2, a1, m1⟩ := bd_ok hm'
  obtain ⟨y, h3, a2, m2⟩ := bd_ok m1
  obtain ⟨i, h4, a3, m3⟩ := bd_ok m2
  obtain ⟨j, h5, a4, m4⟩ := bd_ok m3
  obtain ⟨rfl, e1⟩ := toI_ok a3
  obtain ⟨rfl, e2⟩ := toI_ok a4
  subst e1 e2
  obtain ⟨c, rfl, e3⟩ := downO_ok m4
  subst e3
  have s1 : starEach [b, u] X.env = (false, eval b X.env) :: starEach [u] X.env := star_cons hp2
  have a3 : ev C (.neg (.cst (.int 1))) e h3 = some (.ok (.int (-1)), h3) := by simp only [ev, rt, bd, toI]
  refine ⟨_, pi_range3 hg hm (pax_cons ha (pax_cons hb (pax_cons hu pax_nil hup) hp2) hp) (star_cons hp) (back_plain fun z hz => ?_), fun R k => ?_⟩
  · rcases List.mem_cons.mp hz with rfl | hz
    · exact hp2
    · rw [List.mem_singleton.mp hz]; exact hup
  refine goA S (evs3 a1 a2 a3) fun π1 H1 N1 S1 w1 => ?_
  exact ⟨i, j, -1, _, rfl, RgC.neg c.1.1 c.1.2 c.2.1 c.2.2, k π1 H1 _ N1 S1 wk_down⟩
theorem pix_enum (hK : X.K = G.K) {elts : List Expr} {kk : Nat} {tpos : Pos} (hg : Gl X "enumerate") (hm : X.mg "enumerate" = none) (ha : PEh X G C a ea) (hp : plE a = true) :
    PIh X G (.Tuple elts kk tpos) (.Call (.Name "enumerate" p) [a] [] pos) (evI C (.enum ea)) := by
  constructor
  intro σ H π e h iv h1 S hm'
  simp only [evI] at hm'
  obtain ⟨x, h2, a1, m1⟩ := bd_ok hm'
  obtain ⟨q, h3, a2, m2⟩ := bd_ok m1
  obtain ⟨rfl, hs, e1⟩ := sgO_ok a2
  subst e1
  obtain ⟨e2, e3⟩ := rt_ok m2
  subst e2 e3
  refine ⟨_, pi_enumB hg hm (pax_cons ha pax_nil hp) (star_cons hp), fun R k => ?_⟩
  refine goA S (evs1 a1) fun π1 H1 N1 S1 w1 => ?_
  have l1 := sg_sq S1.hr hs
  rw [← hK] at l1
  exact ⟨q.t, π1 q.a, imL π1 q.xs, rfl, l1, k π1 H1 _ N1 S1 (wk_enum hK hs)⟩
theorem pix_zip (hK : X.K = G.K) {elts : List Expr} {kk : Nat} {tpos : Pos} (hg : Gl X "zip") (hm : X.mg "zip" = none) (ha : PEh X G C a ea) (hb : PEh X G C b eb) (hp : plE a = true) (hp2 : plE b = true) :
    PIh X G (.Tuple elts kk tpos) (.Call (.Name "zip" p) [a, b] [] pos) (evI C (.zip ea eb)) := by
  constructor
  intro σ H π e h iv h1 S hm'
  simp only [evI] at hm'
  obtain ⟨x, h2, a1, m1⟩ := bd_ok hm'
  obtain ⟨y, h3, a2, m2⟩ := bd_ok m1
  obtain ⟨q, h4, a3, m3⟩ := bd_ok m2
  obtain ⟨r, h5, a4, m4⟩ := bd_ok m3
  obtain ⟨rfl, hs, e1⟩ := sgO_ok a3
  obtain ⟨rfl, ht, e2⟩ := sgO_ok a4
  subst e1 e2
  obtain ⟨e3, e4⟩ := rt_ok m4
  subst e3 e4
  refine ⟨_, pi_zip2 hg hm (pax_cons ha (pax_cons hb pax_nil hp2) hp) (star_cons hp) (back_plain fun z hz => by rw [List.mem_singleton.mp hz]; exact hp2), fun R k => ?_⟩
  refine goA S (evs2 a1 a2) fun π1 H1 N1 S1 w1 => ?_
  have l1 := sg_sq S1.hr hs
  have l2 := sg_sq S1.hr ht
  rw [← hK] at l1 l2
  exact ⟨q.t, r.t, π1 q.a, π1 r.a, imL π1 q.xs, imL π1 r.xs, rfl, l1, l2, k π1 H1 _ N1 S1 (wk_zip hK hs ht)⟩
theorem pix_zip3 (hK : X.K = G.K) {c : Expr} {ec : Ex} {elts : List Expr} {kk : Nat} {tpos : Pos} (hg : Gl X "zip") (hm : X.mg "zip" = none) (ha : PEh X G C a ea) (hb : PEh X G C b eb) (hc : PEh X G C c ec) (hp : plE a = true) (hp2 : plE b = true) (hp3 : plE c = true) :
    PIh X G (.Tuple elts kk tpos) (.Call (.Name "zip" p) [a, b, c] [] pos) (evI C (.zip3 ea eb ec)) := by
  constructor
  intro σ H π e h iv h1 S hm'
  simp only [evI] at hm'
  obtain ⟨x, h2, a1, m1⟩ := bd_ok hm'
  obtain ⟨y, h3, a2, m2⟩ := bd_ok m1
  obtain ⟨v, h4, a3, m3⟩ := bd_ok m2
  obtain ⟨q, h5, b1, m4⟩ := bd_ok m3
  obtain ⟨r, h6, b2, m5⟩ := bd_ok m4
  obtain ⟨s, h7, b3, m6⟩ := bd_ok m5
  obtain ⟨rfl, hs, e1⟩ := sgO_ok b1
  obtain ⟨rfl, ht, e2⟩ := sgO_ok b2
  obtain ⟨rfl, hu, e3⟩ := sgO_ok b3
  subst e1 e2 e3
  obtain ⟨e4, e5⟩ := rt_ok m6
  subst e4 e5
  refine ⟨_, pi_zip3 hg hm (pax_cons ha (pax_cons hb (pax_cons hc pax_nil hp3) hp2) hp) (star_cons hp) (back_plain fun z hz => ?_), fun R k => ?_⟩
  · rcases List.mem_cons.mp hz with rfl | hz
    · exact hp2
    · rw [List.mem_singleton.mp hz]; exact hp3
  refine goA S (evs3 a1 a2 a3) fun π1 H1 N1 S1 w1 => ?_
  have l1 := sg_sq S1.hr hs
  have l2 := sg_sq S1.hr ht
  have l3 := sg_sq S1.hr hu
  rw [← hK] at l1 l2 l3
  exact ⟨q.t, r.t, s.t, π1 q.a, π1 r.a, π1 s.a, imL π1 q.xs, imL π1 r.xs, imL π1 s.xs, rfl, l1, l2, l3, k π1 H1 _ N1 S1 (wk_zip3 hK hs ht hu)⟩

/-- a list comprehension -/
theorem px_comp (hK : X.K = G.K) (hc : X.calm = true) (hN : X.N.Nodup) {elt iter : Expr} {ifs : List Expr} {scope : Scope} {own : List (Str × Nat)} {t : Tg} {ei : It} {ec el : Ex}
    (hi : PIh X G tg iter (evI C ei)) (ok : BlkOk X.N X.env.scope scope own) (hp : plE iter = true) (ho : ∀ i ∈ t.sl, i ∈ own.map (·.2))
    (hg : ∀ (s : Shared) (H : Hp) (D : Addr) (cl : List (Str × Addr)) (fp : List Addr), PG (X.blk s H scope (compEnvC scope cl D X.env) fp) tg (tgR X.K t))
    (ht : ∀ (s : Shared) (H : Hp) (D : Addr) (cl : List (Str × Addr)) (fp : List Addr), PTs (X.blk s H scope (compEnvC scope cl D X.env) fp) ifs (TTh G (fun e => bd (ev C ec e) tru)))
    (he : ∀ (s : Shared) (H : Hp) (D : Addr) (cl : List (Str × Addr)) (fp : List Addr), PEh (X.blk s H scope (compEnvC scope cl D X.env) fp) G C elt el) :
    PEh X G C (.ListComp elt [⟨tg, iter, ifs, 0⟩] scope pos) (.comp (own.map (·.2)) t ei ec el) := by
  refine pe_pick fun σ H Q ⟨π, e, h, v, h', S, hm, q⟩ => ?_
  simp only [ev] at hm
  obtain ⟨iv, h1, a1, m1⟩ := bd_ok hm
  obtain ⟨wi, P, K1⟩ := hi.has S a1
  refine ⟨_, pe_lc hc hN P ok hg ht he (fold_plain hp), ?_⟩
  refine K1 _ fun π1 H1 J N1 S1 W => ?_
  intro D hD
  unfold compL at m1
  obtain ⟨x, h2, a2, m2⟩ := bd_ok m1
  unfold alloc at a2
  cases a2
  obtain ⟨u, h3, a3, m3⟩ := bd_ok (show bd (compGo _ _ _ _ _ _ _ _) _ _ = _ from m2)
  obtain ⟨e1, e2⟩ := rt_ok m3
  subst e1 e2
  refine comp_ok hK W S1 hD ho (fun _ _ _ z => z) (fun _ _ _ z => z) a3 fun π3 H3 N3 R3 hD3 hl => ?_
  have z := q π3 H3 (N1.trans N3) R3 (show h1.length < h3.length from hl)
  have e3 : im π3 (.ref h1.length) = .ref D := congrArg V.ref hD3
  rw [e3] at z
  exact z
/-- .. given to a name -/
theorem ps_comp (hK : X.K = G.K) (hc : X.calm = true) (hN : X.N.Nodup) {elt iter : Expr} {ifs : List Expr} {scope : Scope} {own : List (Str × Nat)} {t : Tg} {ei : It} {ec el : Ex} {i : Nat} {y : Str} {py spos : Pos}
    (hy : X.N[i]? = some y) (hyl : X.env.scope.names.lookup y = some .local) (hsw : swapsWith (.ListComp elt [⟨tg, iter, ifs, 0⟩] scope pos) (some (.Name y py)) spos.line X.env = pure true)
    (hi : PIh X G tg iter (evI C ei)) (ok : BlkOk X.N X.env.scope scope own) (hp : plE iter = true) (ho : ∀ i ∈ t.sl, i ∈ own.map (·.2))
    (hg : ∀ (s : Shared) (H : Hp) (D : Addr) (cl : List (Str × Addr)) (fp : List Addr), PG (X.blk s H scope (compEnvC scope cl D X.env) fp) tg (tgR X.K t))
    (ht : ∀ (s : Shared) (H : Hp) (D : Addr) (cl : List (Str × Addr)) (fp : List Addr), PTs (X.blk s H scope (compEnvC scope cl D X.env) fp) ifs (TTh G (fun e => bd (ev C ec e) tru)))
    (he : ∀ (s : Shared) (H : Hp) (D : Addr) (cl : List (Str × Addr)) (fp : List Addr), PEh (X.blk s H scope (compEnvC scope cl D X.env) fp) G C elt el) :
    PS X (.Assign [.Name y py] (.ListComp elt [⟨tg, iter, ifs, 0⟩] scope pos) spos) (tAsg (TEh G (ev C (.comp (own.map (·.2)) t ei ec el))) (gName i)) := by
  refine ps_pick fun D0 σ H z => ?_
  obtain ⟨π, e, h, v, h', S, hm, q⟩ := z
  simp only [ev] at hm
  obtain ⟨iv, h1, a1, m1⟩ := bd_ok hm
  obtain ⟨wi, P, K1⟩ := hi.has S a1
  refine ⟨_, ps_setLc hc hN hy hyl hsw P ok hg ht he (fold_plain hp), ?_⟩
  refine K1 _ fun π1 H1 J N1 S1 W => ?_
  intro D hD
  unfold compL at m1
  obtain ⟨x, h2, a2, m2⟩ := bd_ok m1
  unfold alloc at a2
  cases a2
  obtain ⟨u, h3, a3, m3⟩ := bd_ok (show bd (compGo _ _ _ _ _ _ _ _) _ _ = _ from m2)
  obtain ⟨e1, e2⟩ := rt_ok m3
  subst e1 e2
  refine comp_ok hK W S1 hD ho (fun _ _ _ z => z) (fun _ _ _ z => z) a3 fun π3 H3 N3 R3 hD3 hl => ?_
  have z := q π3 H3 (N1.trans N3) R3 (show h1.length < h3.length from hl)
  have e3 : im π3 (.ref h1.length) = .ref D := congrArg V.ref hD3
  rw [e3] at z
  exact z
end

/-! ### statements -/
/-- what follows a statement's outcome -/
def Fo (D : Ends) (π : Nat → Addr) (n : Nat) (H : Hp) : Fl → Prop
  | .nx e => wfE n e → D.nx (imE π e) H
  | .rt v => wf n v → D.rt (im π v) H
  | .bk e => wfE n e → D.bk (imE π e) H
  | .ct e => wfE n e → D.ct (imE π e) H
structure TSh (G : Gd) (m : Ev → Mo Fl) (D : Ends) (σ : L2.St) (H : Hp) : Prop where
  has : ∃ π e h f h', Sx G σ H π e h ∧ m e h = some (.ok f, h') ∧ ∀ π' H', Nx π h π' h' → HR G π' h' H' → Fo D π' h'.length H' f
section
variable {X : Cx} {G : Gd} {C : Cfg} {pos : Pos} {a b c : Expr} {ea eb ec : Ex}
abbrev PSh (X : Cx) (G : Gd) (C : Cfg) (s : Stmt) (ss : Sm) : Prop := PS X s (TSh G (ex C ss))
abbrev PSsh (X : Cx) (G : Gd) (C : Cfg) (s : List Stmt) (ss : Sms) : Prop := PSs X s (TSh G (exs C ss))
theorem pss_nilh : PSsh X G C [] .nil := pss_of pss_nil fun D σ H ⟨π, e, h, f, h', S, hm, q⟩ => by
  simp only [exs] at hm
  obtain ⟨e1, e2⟩ := rt_ok hm
  subst e1 e2
  have z := q π H Nx.refl S.hr S.we
  rw [← S.sl] at z
  exact z
theorem pss_consh {s : Stmt} {r : List Stmt} {ss : Sm} {rr : Sms} (h1 : PSh X G C s ss) (h2 : PSsh X G C r rr) : PSsh X G C (s :: r) (.cons ss rr) :=
  pss_of (pss_cons h1 h2) fun D σ H ⟨π, e, h, f, h', S, hm, q⟩ => by
    simp only [exs] at hm
    obtain ⟨g, h2, a1, m1⟩ := bd_ok hm
    refine ⟨π, e, h, g, h2, S, a1, fun π1 H1 N1 R1 => ?_⟩
    cases g with
    | nx e1 =>
      intro we
      exact ⟨π1, e1, h2, f, h', ⟨rfl, we, R1⟩, m1, fun π2 H2 N2 R2 => q π2 H2 (N1.trans N2) R2⟩
    | rt v =>
      obtain ⟨e1, e2⟩ := rt_ok m1
      subst e1 e2
      exact q π1 H1 N1 R1
    | bk e1 =>
      obtain ⟨e1, e2⟩ := rt_ok m1
      subst e1 e2
      exact q π1 H1 N1 R1
    | ct e1 =>
      obtain ⟨e1, e2⟩ := rt_ok m1
      subst e1 e2
      exact q π1 H1 N1 R1
/-- a target takes a value -/
theorem asg_go (hK : X.K = G.K) {t : Tg} {σ : L2.St} {H : Hp} {π e h x h1 h' f D} (S : Sx G σ H π e h1) (wx : wf h1.length x) (m : bd (look (asg t x e)) (fun e1 => rt (Fl.nx e1)) h1 = some (.ok f, h'))
    (q : ∀ π' H', Nx π h1 π' h' → HR G π' h' H' → Fo D π' h'.length H' f) (hh : h = h1) : tgR X.K t (im π x) σ H D.nx := by
  obtain ⟨e1, h2, a1, m1⟩ := bd_ok m
  obtain ⟨a2, r2⟩ := look_ok a1
  obtain ⟨r3, r4⟩ := rt_ok m1
  subst r2 r3 r4
  exact asg_ok hK S a2 wx fun S1 => q π H Nx.refl S1.hr S1.we
theorem psx_asg (hK : X.K = G.K) {tg : Expr} {t : Tg} (ha : PEh X G C a ea) (hg : PG X tg (tgR X.K t)) (hs : swapsWithSole [tg] a pos.line X.env = pure false) (hw : swappedStores [tg] a X.env = pure none)
    (h1 : (assignEach [tg] X.env).map (·.2) = [assign tg X.env]) : PSh X G C (.Assign [tg] a pos) (.asg t ea) :=
  ps_of (ps_asg ha hg hs hw h1) fun D σ H ⟨π, e, h, f, h', S, hm, q⟩ => by
    simp only [ex] at hm
    obtain ⟨x, h2, a1, m1⟩ := bd_ok hm
    refine goE S a1 fun π1 H1 N1 S1 w1 => ?_
    exact asg_go hK S1 w1 m1 (fun π2 H2 N2 R2 => q π2 H2 (N1.trans N2) R2) rfl
theorem psx_set (hK : X.K = G.K) {i : Nat} {x : Str} {p' : Pos} (hN : X.N.Nodup) (hi : X.N[i]? = some x) (hx : Loc X.env.scope x) (ha : PEh X G C a ea) (hs : swapsWith a (some (.Name x p')) pos.line X.env = pure false)
    (hf : X.fn x = true ∨ X.env.scope.names.lookup x = some .local) : PSh X G C (.Assign [.Name x p'] a pos) (.asg (.nm i) ea) :=
  ps_of (ps_set hN hi hx ha hs hf) fun D σ H ⟨π, e, h, f, h', S, hm, q⟩ => by
    simp only [ex] at hm
    obtain ⟨x, h2, a1, m1⟩ := bd_ok hm
    refine goE S a1 fun π1 H1 N1 S1 w1 => ?_
    exact asg_go (X := X) (t := .nm i) hK S1 w1 m1 (fun π2 H2 N2 R2 => q π2 H2 (N1.trans N2) R2) rfl
/-- by a statement that stores a comprehension at a name -/
theorem psx_setc (hK : X.K = G.K) {i : Nat} {s : Stmt} (p : PS X s (tAsg (TEh G (ev C ea)) (gName i))) : PSh X G C s (.asg (.nm i) ea) :=
  ps_of p fun D σ H ⟨π, e, h, f, h', S, hm, q⟩ => by
    simp only [ex] at hm
    obtain ⟨x, h2, a1, m1⟩ := bd_ok hm
    refine goE S a1 fun π1 H1 N1 S1 w1 => ?_
    exact asg_go (X := X) (t := .nm i) hK S1 w1 m1 (fun π2 H2 N2 R2 => q π2 H2 (N1.trans N2) R2) rfl
theorem psx_sub {o i : Expr} {eo ei : Ex} {p' : Pos} (ha : PEh X G C a ea) (ho : PEh X G C o eo) (hi : PEh X G C i ei) (hp : plE a = true) (hl : ∀ w x y z, a ≠ .ListComp w x y z)
    (hsub : ∀ v, assign (.Subscript o i p') X.env v = (do
      let ov ← holding [v] (eval o X.env)
      let iv ← holding [v, ov] (eval i X.env)
      standAt p'
      holding [v, ov, iv] (setItem ov iv v)
      release [v, ov, iv] [])) : PSh X G C (.Assign [.Subscript o i p'] a pos) (.asgSub eo ei ea) := by
  have g := pg_sub (pos := p') ho hi (set_ok (X := X) (G := G)) hsub
  have hsw : swapsWithSole [.Subscript o i p'] a pos.line X.env = pure false := by
    unfold swapsWithSole
    first
      | exact swap_plain hp hl
      | (split <;> first | exact swap_plain hp hl | rfl)
  refine ps_of (ps_asg ha g hsw rfl rfl) fun D σ H ⟨π, e, h, f, h', S, hm, q⟩ => ?_
  simp only [ex] at hm
  obtain ⟨x, h1, a1, m1⟩ := bd_ok hm
  obtain ⟨y, h2, a2, m2⟩ := bd_ok m1
  obtain ⟨z, h3, a3, m3⟩ := bd_ok m2
  obtain ⟨u, h4, a4, m4⟩ := bd_ok m3
  obtain ⟨e1, e2⟩ := rt_ok m4
  subst e1 e2
  refine goE S a1 fun π1 H1 N1 S1 w1 => ?_
  refine goE S1 a2 fun π2 H2 N2 S2 w2 => ?_
  refine goE S2 a3 fun π3 H3 N3 S3 w3 => ?_
  refine ⟨π3, h3, y, z, x, h4, (N3.im w2).symm, rfl, ((N2.trans N3).im w1).symm, N3.wf w2, w3, (N2.trans N3).wf w1, S3.hr, a4, fun π4 H4 N4 R4 => ?_⟩
  have S4 := S3.nx N4 R4
  have w := q π4 H4 ((N1.trans (N2.trans N3)).trans N4) R4 S4.we
  rw [← S4.sl] at w
  exact w
theorem psx_ex (ha : PEh X G C a ea) (hs : PS X (.Expr a pos) (tDrop (TEh G (ev C ea)))) : PSh X G C (.Expr a pos) (.ex ea) :=
  ps_of hs fun D σ H ⟨π, e, h, f, h', S, hm, q⟩ => by
    simp only [ex] at hm
    obtain ⟨x, h1, a1, m1⟩ := bd_ok hm
    obtain ⟨e1, e2⟩ := rt_ok m1
    subst e1 e2
    refine goE S a1 fun π1 H1 N1 S1 w1 => ?_
    have w := q π1 H1 N1 S1.hr S1.we
    rw [← S1.sl] at w
    exact w
theorem psx_ret (ha : PEh X G C a ea) : PSh X G C (.Return (some a) pos) (.ret ea) :=
  ps_of (ps_ret ha) fun D σ H ⟨π, e, h, f, h', S, hm, q⟩ => by
    simp only [ex] at hm
    obtain ⟨x, h1, a1, m1⟩ := bd_ok hm
    obtain ⟨e1, e2⟩ := rt_ok m1
    subst e1 e2
    exact goE S a1 fun π1 H1 N1 S1 w1 => q π1 H1 N1 S1.hr w1
theorem psx_retN : PSh X G C (.Return none pos) (.ret (.cst .non)) :=
  ps_of ps_retN fun D σ H ⟨π, e, h, f, h', S, hm, q⟩ => by
    simp only [ex, ev] at hm
    obtain ⟨x, h1, a1, m1⟩ := bd_ok hm
    obtain ⟨e3, e4⟩ := rt_ok a1
    obtain ⟨e1, e2⟩ := rt_ok m1
    subst e3 e4 e1 e2
    exact q π H Nx.refl S.hr trivial
theorem psx_if {s t : List Stmt} {ss tt : Sms} (hc : PTh X G C c ec) (hs : PSsh X G C s ss) (ht : PSsh X G C t tt) : PSh X G C (.If c s t pos) (.ite ec ss tt) :=
  ps_of (ps_if hc hs ht) fun D σ H ⟨π, e, h, f, h', S, hm, q⟩ => by
    simp only [ex] at hm
    obtain ⟨k, h1, a1, m1⟩ := bd_ok hm
    refine goT S a1 fun π1 H1 N1 S1 _ => ?_
    cases k with
    | true =>
      rw [if_pos rfl]
      exact ⟨π1, e, h1, f, h', S1, m1, fun π2 H2 N2 R2 => q π2 H2 (N1.trans N2) R2⟩
    | false =>
      rw [if_neg Bool.false_ne_true]
      exact ⟨π1, e, h1, f, h', S1, m1, fun π2 H2 N2 R2 => q π2 H2 (N1.trans N2) R2⟩
theorem psx_brk : PSh X G C (.Break pos) .brk := ps_of ps_break fun D σ H ⟨π, e, h, f, h', S, hm, q⟩ => by
  simp only [ex] at hm
  obtain ⟨e1, e2⟩ := rt_ok hm
  subst e1 e2
  have z := q π H Nx.refl S.hr S.we
  rw [← S.sl] at z
  exact z
theorem psx_cont : PSh X G C (.Continue pos) .cont := ps_of ps_continue fun D σ H ⟨π, e, h, f, h', S, hm, q⟩ => by
  simp only [ex] at hm
  obtain ⟨e1, e2⟩ := rt_ok hm
  subst e1 e2
  have z := q π H Nx.refl S.hr S.we
  rw [← S.sl] at z
  exact z
theorem psx_pass : PSh X G C (.Pass pos) .pass := ps_of ps_pass fun D σ H ⟨π, e, h, f, h', S, hm, q⟩ => by
  simp only [ex] at hm
  obtain ⟨e1, e2⟩ := rt_ok hm
  subst e1 e2
  have z := q π H Nx.refl S.hr S.we
  rw [← S.sl] at z
  exact z
theorem psx_never {s : Stmt} : PSh X G C s .never := ps_of ps_never fun D σ H ⟨π, e, h, f, h', S, hm, q⟩ => by
  simp only [ex] at hm
  exact (no_ok hm).elim
end
end HI

set_option maxRecDepth 100000
set_option maxHeartbeats 4000000
/-! sorted(zip(a, b)) -/
namespace HI
open PySem PySem.Spec PyProof.Rows L2 SrtO
def ZSt (z TI TO i1 i2 a b S : Addr) (xs ys : Array Value) (k : Nat) (h : Heap) : Prop :=
  IsPair h TI (.ref i1) (.ref i2) ∧ h.IsListIter i1 a k ∧ h.IsListIter i2 b k ∧ h.IsList a xs ∧ h.IsList b ys ∧ (∃ o, h.get? TO = some o) ∧
  ((IsZip h z TI TO .none ∧ ∃ u v, IsPair h TO u v) ∨ ∃ T f oT, IsZipHeld h z TI TO T f ∧ h.get? T = some oT ∧ T ≠ z ∧ T ≠ i1 ∧ T ≠ i2 ∧ T ≠ S)
structure ZOff (z TI TO i1 i2 a b S : Addr) : Prop where
  z : S ≠ z
  TI : S ≠ TI
  TO : S ≠ TO
  i1 : S ≠ i1
  i2 : S ≠ i2
  a : S ≠ a
  b : S ≠ b
section
variable {prog : Program} {w : World} {A : Around} {E : Value → Shared → Prop} {s : Shared} {z TI TO i1 i2 a b S : Addr} {xs ys : Array Value} {k : Nat}
theorem ZSt.keep {h h' : Heap} (st : ZSt z TI TO i1 i2 a b S xs ys k h) (o : ZOff z TI TO i1 i2 a b S) (hk : ∀ c u, c ≠ S → h.get? c = some u → h'.get? c = some u) : ZSt z TI TO i1 i2 a b S xs ys k h' := by
  obtain ⟨hTI, h1, h2, hl1, hl2, ⟨oO, hO⟩, hz⟩ := st
  refine ⟨hk _ _ (Ne.symm o.TI) hTI, h1.at fun u e => hk _ u (Ne.symm o.i1) e, h2.at fun u e => hk _ u (Ne.symm o.i2) e, hl1.at fun u e => hk _ u (Ne.symm o.a) e, hl2.at fun u e => hk _ u (Ne.symm o.b) e, ⟨_, hk _ _ (Ne.symm o.TO) hO⟩, ?_⟩
  rcases hz with ⟨hz, u, v, hTO⟩ | ⟨T, f, oT, hz, hT, r1, r2, r3, r4⟩
  · exact .inl ⟨hk _ _ (Ne.symm o.z) hz, u, v, hk _ _ (Ne.symm o.TO) hTO⟩
  · exact .inr ⟨T, f, oT, hk _ _ (Ne.symm o.z) hz, hk _ _ r4 hT, r1, r2, r3, r4⟩
theorem ZSt.lt {h : Heap} (st : ZSt z TI TO i1 i2 a b S xs ys k h) : z < h.objs.size ∧ TI < h.objs.size ∧ TO < h.objs.size ∧ i1 < h.objs.size ∧ i2 < h.objs.size := by
  obtain ⟨hTI, ⟨_, h1, _⟩, ⟨_, h2, _⟩, hl1, hl2, ⟨_, hO⟩, hz⟩ := st
  refine ⟨?_, Heap.lt_size hTI, Heap.lt_size hO, Heap.lt_size h1, Heap.lt_size h2⟩
  rcases hz with ⟨hz, u, v, hTO⟩ | ⟨T, f, oT, hz, hT, r1, r2, r3, r4⟩
  · exact Heap.lt_size hz
  · exact Heap.lt_size hz
theorem zst_item (D : ZipApart z TI TO i1 i2 a b) (st : ZSt z TI TO i1 i2 a b S xs ys k s.heap) {x y : Value} (ex : xs[k]? = some x) (ey : ys[k]? = some y) (hS : S < s.heap.objs.size) {Q : Option Value → Shared → Prop}
    (hQ : ∀ h', ZSt z TI TO i1 i2 a b S xs ys (k + 1) h' → IsPair h' s.heap.objs.size x y → (∀ c o, c ∉ [z, TI, TO, i1, i2] → s.heap.get? c = some o → h'.get? c = some o) → Q (some (.ref s.heap.objs.size)) { s with heap := h' }) :
    wpAny (model prog w) A (pyNext (.ref z)) Q E s := by
  obtain ⟨hTI, h1, h2, hl1, hl2, ⟨oO, hO⟩, hz⟩ := st
  have lt : ∀ {c o}, s.heap.get? c = some o → s.heap.objs.size ≠ c := fun e => Nat.ne_of_gt (Heap.lt_size e)
  have n1 : s.heap.objs.size ≠ i1 := let ⟨_, e, _⟩ := h1; lt e
  have n2 : s.heap.objs.size ≠ i2 := let ⟨_, e, _⟩ := h2; lt e
  rcases hz with ⟨hz, u, v, hTO⟩ | ⟨T, f, oT, hz, hT, r1, r2, r3, r4⟩
  · refine wpAny_pyNext_zip_item D hz hTI hTO h1 h2 hl1 hl2 ex ey fun h' a1 a2 a3 a4 a5 a6 hk => ?_
    exact hQ h' ⟨hk _ _ D.TIz D.TITO D.TIi1 D.TIi2 hTI, a3, a4, hl1.at fun o e => hk _ o D.l1z D.l1TO D.l1i1 D.l1i2 e, hl2.at fun o e => hk _ o D.l2z D.l2TO D.l2i1 D.l2i2 e, ⟨_, a2⟩,
      .inr ⟨s.heap.objs.size, false, _, a1, a5, lt hz, n1, n2, Nat.ne_of_gt hS⟩⟩ a5
      fun c o hc e => hk c o (fun q => hc (by simp [q])) (fun q => hc (by simp [q])) (fun q => hc (by simp [q])) (fun q => hc (by simp [q])) e
  · refine wpAny_pyNext_zip_item_held D hz hT hTI h1 h2 hl1 hl2 ex ey fun h' a1 a3 a4 a5 a6 hk => ?_
    exact hQ h' ⟨hk _ _ D.TIz D.TIi1 D.TIi2 hTI, a3, a4, hl1.at fun o e => hk _ o D.l1z D.l1i1 D.l1i2 e, hl2.at fun o e => hk _ o D.l2z D.l2i1 D.l2i2 e, ⟨_, hk _ _ D.TOz D.TOi1 D.TOi2 hO⟩,
      .inr ⟨T, true, oT, a1, hk _ _ r1 r2 r3 hT, r1, r2, r3, r4⟩⟩ a5
      fun c o hc e => hk c o (fun q => hc (by simp [q])) (fun q => hc (by simp [q])) (fun q => hc (by simp [q])) e
theorem zst_end (hA : A.handled = none) (D : ZipApart z TI TO i1 i2 a b) (st : ZSt z TI TO i1 i2 a b S xs ys k s.heap) (he : xs[k]? = none ∨ ys[k]? = none) {Q : Option Value → Shared → Prop}
    (hQ : ∀ h', (∀ c o, c ∉ [z, TI, TO, i1, i2] → s.heap.get? c = some o → h'.get? c = some o) → Q none { s with heap := h' }) : wpAny (model prog w) A (pyNext (.ref z)) Q E s := by
  obtain ⟨hTI, h1, h2, hl1, hl2, ⟨oO, hO⟩, hz⟩ := st
  rcases hz with ⟨hz, u, v, hTO⟩ | ⟨T, f, oT, hz, hT, r1, r2, r3, r4⟩
  · exact wpAny_pyNext_zip_end hA D hz hTI hTO h1 h2 hl1 hl2 he fun h' hk => hQ h' fun c o hc e => hk c o (fun q => hc (by simp [q])) (fun q => hc (by simp [q])) (fun q => hc (by simp [q])) (fun q => hc (by simp [q])) e
  · exact wpAny_pyNext_zip_end_held hA D hz hT hTI h1 h2 hl1 hl2 he fun h' hk => hQ h' fun c o hc e => hk c o (fun q => hc (by simp [q])) (fun q => hc (by simp [q])) (fun q => hc (by simp [q])) e
end

section
variable {X : Cx} {G : Gd} {pins : List (Addr × Obj)} {σ : L2.St} {z TI TO i1 i2 a b S : Addr} {xs ys : Array Value}
abbrev listAt (h : Heap) (S : Addr) (acc : Array Value) (c : Nat) : Prop := h.get? S = some { cls := .type "list", dict := none, data := .seq acc c, slots := #[] }
theorem zip_loop (hc : X.calm = true) (A1 : Around) (hA : A1.in1.handled = none) (D : ZipApart z TI TO i1 i2 a b) (O : ZOff z TI TO i1 i2 a b S) (res : Value) {R : Result → Shared → Prop} {h2 : Hh} {π0 : Nat → Addr} {h0 : Hh} {H0 : Hp} :
    ∀ (vs us : List V) (k : Nat) (s : Shared) (H : Hp) (acc : Array Value) (c : Nat) (π : Nat → Addr) (h : Hh) (ts r : List V),
      Inv X pins σ H s → (∀ d ∈ [z, TI, TO, i1, i2, S], FpOk X pins H d) → ZSt z TI TO i1 i2 a b S xs ys k s.heap → listAt s.heap S acc c →
      HR G π h H → Nx π0 h0 π h → wfL h.length ts → wfL h.length vs → wfL h.length us → Vals (imL π ts) acc.toList → k + max vs.length us.length ≤ sizeLine → acc.size ≤ k →
      Vals (imL π vs) (xs.toList.drop k) → Vals (imL π us) (ys.toList.drop k) → pairsO vs us h = some (.ok r, h2) →
      (∀ s' H' π' acc' c', Inv X pins σ H' s' → FpOk X pins H' S → HR G π' h2 H' → Nx π0 h0 π' h2 → wfL h2.length (ts ++ r) → listAt s'.heap S acc' c' → Vals (imL π' (ts ++ r)) acc'.toList → R (.ok (.ret res)) s') →
      codeAny (model X.prog X.w) A1 (.builtin "list.extend.loop" ⟨[.ref S, .ref z, res], []⟩) R s := by
  intro vs
  have endc : ∀ (k : Nat) (s : Shared) (H : Hp) (acc : Array Value) (c : Nat) (π : Nat → Addr) (h : Hh) (ts r : List V),
      Inv X pins σ H s → (∀ d ∈ [z, TI, TO, i1, i2, S], FpOk X pins H d) → ZSt z TI TO i1 i2 a b S xs ys k s.heap → listAt s.heap S acc c →
      HR G π h H → Nx π0 h0 π h → wfL h.length ts → Vals (imL π ts) acc.toList → (xs.toList.drop k = [] ∨ ys.toList.drop k = []) → r = [] → h2 = h →
      (∀ s' H' π' acc' c', Inv X pins σ H' s' → FpOk X pins H' S → HR G π' h2 H' → Nx π0 h0 π' h2 → wfL h2.length (ts ++ r) → listAt s'.heap S acc' c' → Vals (imL π' (ts ++ r)) acc'.toList → R (.ok (.ret res)) s') →
      codeAny (model X.prog X.w) A1 (.builtin "list.extend.loop" ⟨[.ref S, .ref z, res], []⟩) R s := by
    intro k s H acc c π h ts r I hf st hS HRR N wt vt he hr hh hR
    subst hr hh
    refine codeAny_builtin PySem.F.entry_extend_loop ?_
    rw [Around.under_plainId PySem.F.plain_extend_loop _]
    show wpAny _ A1.in1 (pyNext (.ref z) >>= _) _ _ s
    have he' : xs[k]? = none ∨ ys[k]? = none := by
      rcases he with q | q
      · left
        rw [← Array.getElem?_toList]
        exact List.getElem?_eq_none (List.drop_eq_nil_iff.mp q)
      · right
        rw [← Array.getElem?_toList]
        exact List.getElem?_eq_none (List.drop_eq_nil_iff.mp q)
    refine wpAny_bind (zst_end hA D st he' fun h' hk => ?_)
    have nS : S ∉ [z, TI, TO, i1, i2] := fun q => by
      simp only [List.mem_cons, List.not_mem_nil, or_false] at q
      rcases q with q | q | q | q | q
      · exact O.z q
      · exact O.TI q
      · exact O.TO q
      · exact O.i1 q
      · exact O.i2 q
    refine wpAny_pure (hR _ H π acc c (I.turnedL (t' := s.toks) (ch := [z, TI, TO, i1, i2]) hk fun d hd => hf d (List.mem_append_left [S] hd)) (hf S (by simp)) HRR N (by rw [List.append_nil]; exact wt) (hk _ _ nS hS) (by rw [List.append_nil]; exact vt))
  have nS : S ∉ [z, TI, TO, i1, i2] := fun q => by
    simp only [List.mem_cons, List.not_mem_nil, or_false] at q
    rcases q with q | q | q | q | q
    · exact O.z q
    · exact O.TI q
    · exact O.TO q
    · exact O.i1 q
    · exact O.i2 q
  induction vs with
  | nil =>
    intro us k s H acc c π h ts r I hf st hS HRR N wt wv wu vt hz hz2 v1 v2 hp hR
    obtain ⟨e1, e2⟩ := rt_ok (show rt [] h = some (.ok r, h2) by cases us <;> exact hp)
    cases hd : xs.toList.drop k with
    | cons u l => rw [hd] at v1; cases v1
    | nil => exact endc k s H acc c π h ts r I hf st hS HRR N wt vt (.inl hd) e1.symm e2.symm hR
  | cons x vs ih =>
    intro us k s H acc c π h ts r I hf st hS HRR N wt wv wu vt hz hz2 v1 v2 hp hR
    cases us with
    | nil =>
      obtain ⟨e1, e2⟩ := rt_ok (show rt [] h = some (.ok r, h2) from hp)
      cases hd : ys.toList.drop k with
      | cons u l => rw [hd] at v2; cases v2
      | nil => exact endc k s H acc c π h ts r I hf st hS HRR N wt vt (.inr hd) e1.symm e2.symm hR
    | cons y us =>
      have hp' : bd (alloc (.tup [x, y])) (fun t => bd (pairsO vs us) fun r => rt (t :: r)) h = some (.ok r, h2) := hp
      obtain ⟨t, h1, e1, m1⟩ := bd_ok hp'
      obtain ⟨r', h2', e2, m2⟩ := bd_ok m1
      obtain ⟨e3, e4⟩ := rt_ok m2
      subst e3 e4
      unfold alloc at e1
      cases e1
      cases hd1 : xs.toList.drop k with
      | nil => rw [hd1] at v1; cases v1
      | cons u l =>
        cases hd2 : ys.toList.drop k with
        | nil => rw [hd2] at v2; cases v2
        | cons u2 l2 =>
          rw [hd1] at v1
          rw [hd2] at v2
          cases v1 with
          | cons ru v1 =>
            cases v2 with
            | cons ru2 v2 =>
              have g1 : xs[k]? = some u := by
                rw [← Array.getElem?_toList]
                have := congrArg List.head? hd1
                rwa [List.head?_drop] at this
              have g2 : ys[k]? = some u2 := by
                rw [← Array.getElem?_toList]
                have := congrArg List.head? hd2
                rwa [List.head?_drop] at this
              have d1 : xs.toList.drop (k + 1) = l := by rw [← List.tail_drop, hd1]; rfl
              have d2 : ys.toList.drop (k + 1) = l2 := by rw [← List.tail_drop, hd2]; rfl
              refine codeAny_builtin PySem.F.entry_extend_loop ?_
              rw [Around.under_plainId PySem.F.plain_extend_loop _]
              show wpAny _ A1.in1 (pyNext (.ref z) >>= _) _ _ s
              have hSl : S < s.heap.objs.size := Heap.lt_size hS
              obtain ⟨lz, lTI, lTO, l1, l2'⟩ := st.lt
              refine wpAny_bind (zst_item D st g1 g2 hSl fun h' st' hT hk => ?_)
              have fresh : H s.heap.objs.size = none := I.hok.fresh (Nat.le_refl _)
              have wxy : wfL h.length [x, y] := fun v hv => by
                simp only [List.mem_cons, List.not_mem_nil, or_false] at hv
                rcases hv with rfl | rfl
                · exact wv _ List.mem_cons_self
                · exact wu _ List.mem_cons_self
              have new : ObjOk X.prog X.w (upd H s.heap.objs.size (.tup (imL π [x, y]))) h' s.heap.objs.size (.tup (imL π [x, y])) :=
                ⟨by show 2 ≤ sizeLine; decide, [u, u2], .cons ru (.cons ru2 .nil), ⟨_, hT, rfl, _, rfl⟩⟩
              have hf5 : ∀ d ∈ [z, TI, TO, i1, i2], FpOk X pins H d := fun d hd => hf d (List.mem_append_left [S] hd)
              have I1 : Inv X pins σ (upd H s.heap.objs.size (.tup (imL π [x, y]))) { s with heap := h' } := I.turnedNew (t' := s.toks) (ch := [z, TI, TO, i1, i2]) hk hf5 (Nat.le_refl _) new
              have hf' : ∀ d ∈ [z, TI, TO, i1, i2, S], FpOk X pins (upd H s.heap.objs.size (.tup (imL π [x, y]))) d := fun d hd => by
                obtain ⟨q1, q2⟩ := hf d hd
                refine ⟨?_, q2⟩
                rw [upd_ne ?_]
                · exact q1
                · simp only [List.mem_cons, List.not_mem_nil, or_false] at hd
                  rcases hd with q | q | q | q | q | q <;> rw [q] <;> exact Nat.ne_of_lt (by assumption)
              have hS' : listAt h' S acc c := hk _ _ nS hS
              show wpAny _ A1.in1 (updateSeq S (·.push (.ref s.heap.objs.size)) >>= _) _ _ _
              refine wpAny_bind (wpAny_updateSeq hS' rfl (wpAny_pure ⟨plainId_quiet PySem.F.plain_extend_loop _, ?_⟩) (by rw [List.length_cons] at hz; omega) (by rw [Array.size_push]; rw [List.length_cons] at hz; omega))
              have N1 := ext_nx (π := π) (h := h) (.tup [x, y]) s.heap.objs.size
              have wn : ∀ {vs : List V}, wfL h.length vs → wfL (h ++ [Ob.tup [x, y]]).length vs := fun w v hv => (w v hv).mono N1.le
              have oth : ∀ d o, d ≠ S → h'.get? d = some o → (h'.update S (Obj.mapSeq (·.push (.ref s.heap.objs.size)))).get? d = some o := fun d o hd e => (Heap.get?_update_other _ _ (Ne.symm hd)).trans e
              refine ih us (k + 1) _ _ (acc.push (.ref s.heap.objs.size)) _ _ _ (ts ++ [.ref h.length]) r' (I1.turnedL (t' := s.toks) (ch := [S]) (fun d o hd e => oth d o (fun q => hd (by simp [q])) e) fun d hd => hf' d (List.mem_append_right [z, TI, TO, i1, i2] hd)) hf' (st'.keep O oth)
                (Heap.get?_update_self _ hS' rfl) (HRR.tup fresh wxy) (N.trans N1) ?_ (wn fun v hv => wv v (List.mem_cons_of_mem _ hv)) (wn fun v hv => wu v (List.mem_cons_of_mem _ hv)) ?_ ?_ (by rw [Array.size_push]; omega) ?_ ?_ e2 ?_
              · intro v hv
                rcases List.mem_append.mp hv with hv | hv
                · exact wn wt v hv
                · rw [List.mem_singleton.mp hv]
                  show h.length < _
                  rw [List.length_append]; exact Nat.lt_succ_self _
              · rw [Array.toList_push, imL_app, N1.imL wt]
                refine vt.append ?_
                show Vals [im _ (V.ref h.length)] _
                rw [show im (ext π h.length s.heap.objs.size) (V.ref h.length) = .ref s.heap.objs.size from congrArg V.ref ext_at]
                exact .cons rfl .nil
              · rw [List.length_cons, List.length_cons] at hz; omega
              · rw [d1, N1.imL (fun v hv => wv v (List.mem_cons_of_mem _ hv))]; exact v1
              · rw [d2, N1.imL (fun v hv => wu v (List.mem_cons_of_mem _ hv))]; exact v2
              · intro s' H' π' acc' c' J1 J2 J3 J4 J5 J6 J7
                rw [List.append_assoc] at J5 J7
                exact hR s' H' π' acc' c' J1 J2 J3 J4 J5 J6 J7
end
end HI

set_option maxRecDepth 100000
set_option maxHeartbeats 4000000
/-! sorted(zip(a, b)): the call -/
namespace HI
open PySem PySem.Spec PyProof.Rows L2 SrtO
theorem nolen_zip : typeLookup (.type "zip") "__len__" = pure none := by rw [typeLookup_type, builtinLookup_eq_fast]; kernel_rfl
theorem nohint_zip : typeLookup (.type "zip") "__length_hint__" = pure none := by rw [typeLookup_type, builtinLookup_eq_fast]; kernel_rfl
section
variable {X : Cx} {G : Gd} {pins : List (Addr × Obj)} {σ : L2.St} {z TI TO i1 i2 a b : Addr} {xs ys : Array Value} {s : Shared} {H : Hp} {E : Value → Shared → Prop}
theorem collect_zip (hc : X.calm = true) {A : Around} (hA : A.handled = none) {π : Nat → Addr} {h h2 : Hh} {vs us r : List V} {Q : List Value → Shared → Prop} (D : ZipApart z TI TO i1 i2 a b)
    (I : Inv X pins σ H s) (hf : ∀ d ∈ [z, TI, TO, i1, i2], FpOk X pins H d) (hz : IsZip s.heap z TI TO .none) (hTI : IsPair s.heap TI (.ref i1) (.ref i2)) (hTO : ∃ u v, IsPair s.heap TO u v)
    (h1 : s.heap.IsListIter i1 a 0) (h2' : s.heap.IsListIter i2 b 0) (hl1 : s.heap.IsList a xs) (hl2 : s.heap.IsList b ys)
    (R : HR G π h H) (wv : wfL h.length vs) (wu : wfL h.length us) (v1 : Vals (imL π vs) xs.toList) (v2 : Vals (imL π us) ys.toList) (hsz : max vs.length us.length ≤ sizeLine) (hp : pairsO vs us h = some (.ok r, h2))
    (hQ : ∀ s' H' π' (acc' : Array Value), Inv X pins σ H' s' → HR G π' h2 H' → Nx π h π' h2 → wfL h2.length r → Vals (imL π' r) acc'.toList → Q acc'.toList s') :
    wpAny (model X.prog X.w) A (collect (.ref z)) Q E s := by
  have lt : ∀ {c o}, s.heap.get? c = some o → s.heap.objs.size ≠ c := fun e => Nat.ne_of_gt (Heap.lt_size e)
  have O : ZOff z TI TO i1 i2 a b s.heap.objs.size := ⟨lt hz, lt hTI, (let ⟨_, _, e⟩ := hTO; lt e), (let ⟨_, e, _⟩ := h1; lt e), (let ⟨_, e, _⟩ := h2'; lt e), (let ⟨_, e, _⟩ := hl1; lt e), (let ⟨_, e, _⟩ := hl2; lt e)⟩
  have st : ZSt z TI TO i1 i2 a b s.heap.objs.size xs ys 0 s.heap := ⟨hTI, h1, h2', hl1, hl2, (let ⟨_, _, e⟩ := hTO; ⟨_, e⟩), .inl ⟨hz, hTO⟩⟩
  unfold collect
  refine wpAny_bind (wpAny_runValue (codeAny_builtin PySem.F.entry_proto_collect ?_))
  rw [Around.under_plainId PySem.F.plain_proto_collect _]
  show wpAny _ A.in1 (newList [] >>= fun l => again (.builtin "list.__iadd__" ⟨[l, .ref z], []⟩)) _ _ s
  refine wpAny_bind (wpAny_newObj_type ?_)
  refine wpAny_pure ⟨plainId_quiet PySem.F.plain_list_iadd _, codeAny_builtin PySem.F.entry_list_iadd ?_⟩
  rw [Around.under_plainId PySem.F.plain_list_iadd _]
  have old₁ : ∀ c o, s.heap.get? c = some o → (s.heap.push { cls := .type "list", data := .seq ([] : List Value).toArray }).get? c = some o := fun c o e => Heap.get?_push_of_some _ e
  have hS₁ : (s.heap.push { cls := .type "list", data := .seq ([] : List Value).toArray }).get? s.heap.objs.size = some { cls := .type "list", data := .seq ([] : List Value).toArray } := Heap.get?_push_size _ rfl
  have hT : ∀ tk, ({ s with heap := s.heap.push { cls := .type "list", data := .seq ([] : List Value).toArray }, toks := tk } : Shared).TypeIs (.ref z) "zip" := fun _ => ⟨_, old₁ _ _ hz, rfl⟩
  show wpAny _ A.in1 (Builtin.List.listExtendWith (.ref s.heap.objs.size) (.ref z) (.ref s.heap.objs.size)) _ _ _
  unfold Builtin.List.listExtendWith
  refine wpAny_bind (wpAny_typeOf (hT _) ?_)
  have e1 : Builtin.List.listSameRef (.ref s.heap.objs.size) (.ref z) = false := by simp [Builtin.List.listSameRef, O.z]
  have e2 : (Value.type "zip" == Value.type "list") = false := by decide
  have e3 : (Value.type "zip" == Value.type "tuple") = false := by decide
  simp only [e1, e2, e3, Bool.or_false, Bool.false_eq_true, if_false]
  refine wpAny_bind (wpAny_pyIter_zip (old₁ _ _ hz) ?_)
  refine wpAny_bind (wpAny_holding ?_)
  unfold Builtin.List.listLengthHint
  refine wpAny_bind (wpAny_specialOf (hT _) nolen_zip ?_)
  show wpAny _ A.in1 (specialOf (Value.ref z) (Str.ofString "__length_hint__") >>= _) _ _ _
  refine wpAny_bind (wpAny_specialOf (hT _) nohint_zip ?_)
  refine wpAny_pure ?_
  show wpAny _ A.in1 (rule "list.extend.makes-room" >>= fun _ => Builtin.List.listTouch (.ref s.heap.objs.size) >>= fun _ =>
    again (.builtin "list.extend.loop" ⟨[.ref s.heap.objs.size, .ref z, .ref s.heap.objs.size], []⟩)) _ _ _
  refine wpAny_bind (wpAny_rule ?_)
  refine wpAny_bind ?_
  show wpAny _ A.in1 (updateSeq s.heap.objs.size (·.push .none) >>= fun _ => updateSeq s.heap.objs.size (·.pop)) _ _ _
  refine wpAny_bind (wpAny_updateSeq hS₁ rfl ?_)
  have hS₂ := Heap.get?_update_self (Obj.mapSeq (·.push Value.none)) hS₁ rfl
  refine wpAny_updateSeq hS₂ rfl ?_
  have hS₃ := Heap.get?_update_self (Obj.mapSeq (·.pop)) hS₂ rfl
  have oth : ∀ b o, s.heap.get? b = some o →
      (((s.heap.push { cls := .type "list", data := .seq ([] : List Value).toArray }).update s.heap.objs.size (Obj.mapSeq (·.push Value.none))).update s.heap.objs.size (Obj.mapSeq (·.pop))).get? b = some o :=
    fun b o e => by
      have hb := lt e
      exact (Heap.get?_update_other _ _ hb).trans ((Heap.get?_update_other _ _ hb).trans (old₁ b o e))
  have fS : FpOk X pins H s.heap.objs.size := I.fpOk (Nat.le_refl _) (I.hok.fresh (Nat.le_refl _))
  refine wpAny_pure ⟨plainId_quiet PySem.F.plain_extend_loop _, zip_loop (G := G) (H0 := H) hc A hA D O _ vs us 0 _ H _ _ π h [] r (I.kept (t' := s.toks) oth) (fun d hd => ?_) (st.keep O fun c o _ e => oth c o e) hS₃ R (Nx.refl) (fun v hv => by cases hv) wv wu .nil (by omega) (Nat.le_refl _) v1 v2 hp ?_⟩
  · rcases List.mem_append.mp (show d ∈ [z, TI, TO, i1, i2] ++ [s.heap.objs.size] from hd) with hd | hd
    · exact hf d hd
    · rw [List.mem_singleton.mp hd]; exact fS
  · intro s' H' π' acc' c' J1 J2 J3 J4 J5 J6 J7
    show wpAny _ A (load s.heap.objs.size >>= _) _ _ s'
    refine wpAny_bind (wpAny_load J6 ?_)
    exact wpAny_pure (hQ s' H' π' acc' J1 J3 J4 J5 J7)
theorem sort_tail (A : Around) {π : Nat → Addr} {h h' : Hh} {xs : List V} {shape : Nat → Bool} {v : V} {Q : VK} (hK : X.K = G.K) (I : Inv X pins σ H s) (R : HR G π h H) (w1 : wfL h.length xs) (hz : xs.length ≤ sizeLine)
    (hks : ∀ x ∈ xs, hasK h shape x = true) (e : alloc (.lst (isort (ltK h shape) xs)) h = some (.ok v, h')) (q : Then G Q π h h' v) :
    wpAny (model X.prog X.w) A.in1 (newList (xs.map (valR π)) >>= fun l => holding [l] (call (.builtin "list.sort") [l] []) >>= fun _ => (ret l : Sem PySem.Fin)) (fun fin s' => ∃ u, fin = .done (.ret u) ∧ EP X pins σ Q u s') E s := by
  have hr : ∀ x ∈ xs, ∃ b, x = .ref b := fun x hm => by
    obtain ⟨b, _, _, e, _⟩ := hasK_ok (hks x hm)
    exact ⟨b, e⟩
  have kv : ∀ x ∈ xs, ∃ l, KeyAt s.heap shape (valR π x) l ∧ keyV h shape x = some l := fun x hm => by
    obtain ⟨b, ks, l, rfl, hs, hi, hk, hne⟩ := hasK_ok (hks x hm)
    obtain ⟨l2, _⟩ := R.seqT hs
    rw [← hK] at l2
    obtain ⟨is, rv2, it, _⟩ := I.tuple l2
    exact ⟨l, ⟨_, _, rfl, it, tupItems_eq 0 rv2 hi, hne⟩, hk⟩
  have hkey : ∀ x ∈ xs, ∀ y ∈ xs, ltVal s.heap shape (valR π x) (valR π y) = ltK h shape x y := fun x hx y hy => by
    obtain ⟨l1, k1, e1⟩ := kv x hx
    obtain ⟨l2, k2, e2⟩ := kv y hy
    unfold ltVal ltK
    rw [k1.key, k2.key, e1, e2]
  have O : Swo (ltVal s.heap shape) := Swo.of swo_lexI fun v => (tupKey s.heap shape v).getD []
  have hz' : (xs.map (valR π)).length ≤ sizeLine := by rw [List.length_map]; exact hz
  refine wpAny_bind (wpAny_newList ?_ hz')
  have hoL : (s.heap.push (seqObj "list" (xs.map (valR π)).toArray 0)).get? s.heap.objs.size = some (seqObj "list" (xs.map (valR π)).toArray 0) := Heap.get?_push_size _ rfl
  have keep : ∀ b o, s.heap.get? b = some o → b ≠ s.heap.objs.size ∧ (s.heap.push (seqObj "list" (xs.map (valR π)).toArray 0)).get? b = some o := fun b o q => ⟨Nat.ne_of_lt (Heap.lt_size q), Heap.get?_push_of_some _ q⟩
  have hS : 2 ≤ (xs.map (valR π)).length → ∀ (h₁ : Heap) (a' : Addr), h₁.get? a' = some (seqObj "list" (xs.map (valR π)).toArray 0) → (∀ b o, s.heap.get? b = some o → b ≠ a' ∧ h₁.get? b = some o) → SortableO X.prog X.w A.in1.in1 { s with heap := h₁ } a' (xs.map (valR π)) (ltVal s.heap shape) := by
    intro h2 h₁ a' ha kk
    have hv1 : ∀ v ∈ xs.map (valR π), ∃ l, KeyAt h₁ shape v l ∧ tupKey s.heap shape v = some l := fun v hm => by
      obtain ⟨x, hx, rfl⟩ := List.mem_map.mp hm
      obtain ⟨l, k, _⟩ := kv x hx
      obtain ⟨c, is, e, t, e2, z⟩ := k.has
      exact ⟨l, ⟨c, is, e, t.keeps fun b o e => (kk b o e).2, e2, z⟩, k.key⟩
    have S := sortable_tups (prog := X.prog) (w := X.w) (A := A.in1.in1) (s := { s with heap := h₁ }) (a := a') (shape := shape) h2 (fun v hm => by obtain ⟨l, k, _⟩ := hv1 v hm; exact ⟨l, k⟩) (fun is ⟨o, ho, hc, _⟩ => by
      rw [ha] at ho
      cases ho
      exact absurd (Value.type.inj hc) (by decide))
    intro h' keep
    obtain ⟨κ, S1, S2⟩ := S h' keep
    refine ⟨κ, S1, fun p q hp hq => ?_⟩
    have z := S2 p q hp hq
    obtain ⟨l1, k1, e1⟩ := hv1 _ hp
    obtain ⟨l2, k2, e2⟩ := hv1 _ hq
    have e3 : ltVal h₁ shape p.1 q.1 = ltVal s.heap shape p.1 q.1 := by
      unfold ltVal
      rw [k1.key, k2.key, e1, e2]
    refine wpAny_mono z (fun r s' hh => ⟨hh.1, hh.2.trans e3⟩) fun _ _ z => z
  refine wpAny_bind (wpAny_holding (wpAny_call_entry slot_list_sort ⟨_, hoL, rfl⟩ entry_list_sort (list_sort_ord O hoL hz' (fun h2 => hS h2 _ _ hoL keep) fun out h1 h2 => ⟨_, rfl, ?_⟩) (args_list_sort _)))
  refine wpAny_pure ⟨_, rfl, ?_⟩
  have eo : out = (isort (ltK h shape) xs).map (valR π) := by
    have s1 : Srtd (ltVal s.heap shape) ((isort (ltK h shape) xs).map (valR π)) := by
      refine List.pairwise_map.mpr ?_
      refine (isort_sorted swo_ltK xs).imp_of_mem fun {x y} hx hy hh => ?_
      rw [hkey y (isort_mem.mp hy) x (isort_mem.mp hx)]
      exact hh
    have s2 : Stb (ltVal s.heap shape) ((isort (ltK h shape) xs).map (valR π)) (xs.map (valR π)) := by
      have t : ∀ xs : List V, (∀ x ∈ xs, ∀ y ∈ xs, ltVal s.heap shape (valR π x) (valR π y) = ltK h shape x y) → isort (ltK h shape) xs = isort (fun x y => ltVal s.heap shape (valR π x) (valR π y)) xs := by
        intro xs
        induction xs with
        | nil => intro _; rfl
        | cons x r ih =>
          intro hk
          show ins _ x (isort _ r) = ins _ x (isort _ r)
          rw [← ih fun y hy z hz => hk y (List.mem_cons_of_mem _ hy) z (List.mem_cons_of_mem _ hz)]
          have hm : ∀ z ∈ isort (ltK h shape) r, ltVal s.heap shape (valR π z) (valR π x) = ltK h shape z x := fun z hz => hk z (List.mem_cons_of_mem _ (isort_mem.mp hz)) x List.mem_cons_self
          revert hm
          generalize isort (ltK h shape) r = l
          intro hm
          induction l with
          | nil => rfl
          | cons y l ihl =>
            show (if ltK h shape y x then _ else _) = (if ltVal s.heap shape (valR π y) (valR π x) then _ else _)
            rw [hm y List.mem_cons_self, ihl fun z hz => hm z (List.mem_cons_of_mem _ hz)]
      rw [t xs hkey]
      exact Stb.map O (valR π) (isort_stb (Swo.of O (valR π)) xs)
    exact stb_uniq O h1 s1 (h2.trans (Stb.sym s2))
  subst eo
  obtain ⟨ep, he'⟩ := PyProof.Rows.sortedHeap_at (out := ((isort (ltK h shape) xs).map (valR π)).toArray) hoL
  have wl : wfL h.length (isort (ltK h shape) xs) := fun v hv => w1 v (isort_mem.mp hv)
  have fr : H s.heap.objs.size = none := I.hok.fresh (Nat.le_refl _)
  have z := new_lst R wl e q fr
  have rl := refs_vals (π := π) (xs := isort (ltK h shape) xs) fun x hx => hr x (isort_mem.mp hx)
  refine ⟨.ref _, upd H s.heap.objs.size (.lst (imL π (isort (ltK h shape) xs))), I.laid (t' := s.toks) (fun b u e => ?_) (Nat.le_refl _) ⟨?_, _, ep, rl, he'⟩, rfl, z⟩
  · have hlt := Heap.lt_size e
    rw [PyProof.Rows.sortedHeap_old (Nat.ne_of_lt hlt) (by rw [size_push']; exact Nat.lt_succ_of_lt hlt)]
    exact (keep b u e).2
  · rw [imL_len, isort_len]
    exact hz
theorem pairsO_len : ∀ (vs us : List V) {h : Hh} {r : List V} {h2 : Hh}, pairsO vs us h = some (.ok r, h2) → r.length ≤ vs.length ∧ ∀ x ∈ r, ∃ j, x = .ref j
  | [], us, h, r, h2, e => by
    obtain ⟨e1, e2⟩ := rt_ok (show rt [] h = some (.ok r, h2) by cases us <;> exact e)
    subst e1
    exact ⟨Nat.le_refl _, fun x hx => by cases hx⟩
  | v :: vs, [], h, r, h2, e => by
    obtain ⟨e1, e2⟩ := rt_ok (show rt [] h = some (.ok r, h2) from e)
    subst e1
    exact ⟨Nat.zero_le _, fun x hx => by cases hx⟩
  | v :: vs, u :: us, h, r, h2, e => by
    have hp' : bd (alloc (.tup [v, u])) (fun t => bd (pairsO vs us) fun r => rt (t :: r)) h = some (.ok r, h2) := e
    obtain ⟨t, h1, e1, m1⟩ := bd_ok hp'
    obtain ⟨r', h2', e2, m2⟩ := bd_ok m1
    obtain ⟨e3, e4⟩ := rt_ok m2
    subst e3 e4
    unfold alloc at e1
    cases e1
    obtain ⟨l, k⟩ := pairsO_len vs us e2
    refine ⟨Nat.succ_le_succ l, fun x hx => ?_⟩
    rcases List.mem_cons.mp hx with rfl | hx
    · exact ⟨_, rfl⟩
    · exact k x hx
theorem cr_sz (hK : X.K = G.K) (hc : X.calm = true) {z TI TO i1 i2 : Addr} {h h' : Hh} {π : Nat → Addr} {a b : Nat} {vs us : List V} {its1 its2 : List Value} {v : V} {Q : VK} (D : ZipApart z TI TO i1 i2 (π a) (π b))
    (I : Inv X pins σ H s) (hf : ∀ d ∈ [z, TI, TO, i1, i2], FpOk X pins H d) (hz : IsZip s.heap z TI TO .none) (hTI : IsPair s.heap TI (.ref i1) (.ref i2)) (hTO : ∃ u v, IsPair s.heap TO u v)
    (h1 : s.heap.IsListIter i1 (π a) 0) (h2' : s.heap.IsListIter i2 (π b) 0) (hl1 : s.heap.IsList (π a) its1.toArray) (hl2 : s.heap.IsList (π b) its2.toArray)
    (R : HR G π h H) (wv : wfL h.length vs) (wu : wfL h.length us) (v1 : Vals (imL π vs) its1) (v2 : Vals (imL π us) its2) (z1 : vs.length ≤ sizeLine) (z2 : us.length ≤ sizeLine) (hp : bd (pairsO vs us) sortV h = some (.ok v, h')) (q : Then G Q π h h' v) :
    wpAny (model X.prog X.w) X.A (call (.builtin "sorted") [.ref z]) (EP X pins σ Q) X.xe s := by
  obtain ⟨r, h2, e1, e2⟩ := bd_ok hp
  refine Calls.call_function_entry kind_sorted plain_sorted entry_sorted (args_sorted1 _) ?_
  unfold Builtin.«sorted»
  refine wpAny_bind (m := checkCount "sorted" 1 1 _) (wpAny_pure ?_)
  refine wpAny_bind (collect_zip (G := G) (A := X.A.in1) hc (I.ok.hd hc) D I hf hz hTI hTO h1 h2' hl1 hl2 R wv wu v1 v2 (by omega) e1 fun s' H' π' acc' J1 J2 J3 J4 J5 => ?_)
  have hlen : r.length ≤ sizeLine := Nat.le_trans (pairsO_len _ _ e1).1 z1
  have q' : Then G Q π' h2 h' v := fun π4 H4 N4 R4 w4 => q π4 H4 (J3.trans N4) R4 w4
  unfold sortV at e2
  split at e2
  · rename_i hi
    have hn : r = [] := by
      cases r with
      | nil => rfl
      | cons x r =>
        obtain ⟨j, rfl⟩ := (pairsO_len _ _ e1).2 x List.mem_cons_self
        rw [List.all_cons, Bool.and_eq_true] at hi
        cases hi.1
    subst hn
    have e0 : acc'.toList = ([] : List V).map (valR π') := by
      cases hq : acc'.toList with
      | nil => rfl
      | cons u l => rw [hq] at J5; cases J5
    rw [e0]
    exact sort_tail X.A (shape := fun _ => true) hK J1 J2 J4 hlen (fun x hx => by cases hx) e2 q'
  · split at e2
    · split at e2
      · split at e2
        · rename_i hall
          have hks := fun x hx => List.all_eq_true.mp hall x hx
          have e0 := vals_refs (fun x hm => by
            obtain ⟨b, _, _, e, _⟩ := hasK_ok (hks x hm)
            exact ⟨b, e⟩) J5
          rw [e0]
          exact sort_tail X.A hK J1 J2 J4 hlen hks e2 q'
        · cases e2
      · cases e2
    · cases e2
end
end HI

set_option maxRecDepth 100000
set_option maxHeartbeats 4000000
/-! sorted(zip(a, b)): the expression -/
namespace HI
open PySem PySem.Spec PyProof.Rows L2 SrtO
section
variable {X : Cx} {G : Gd} {C : Cfg} {pos : Pos} {a b : Expr} {ea eb : Ex}
theorem px_sz (hK : X.K = G.K) (hc : X.calm = true) {p p2 pos2 : Pos} (hg : Gl X "sorted") (hm : X.mg "sorted" = none) (hgz : Gl X "zip") (hmz : X.mg "zip" = none) (ha : PAh X G C [a, b] (.cons ea (.cons eb .nil))) (hp1 : plE a = true) (hp2 : plE b = true) :
    PEh X G C (.Call (.Name "sorted" p) [.Call (.Name "zip" p2) [a, b] [] pos2] [] pos) (.bcall "sortzip" (.cons ea (.cons eb .nil))) := by
  refine ⟨fun pins s σ H Q I hq => ?_⟩
  refine wpAny_Call_Name_kw (ld_blt I hg hm (show bootBuiltins "sorted" = some (.builtin "sorted") by decide +kernel) ?_ (by decide) (by decide))
  refine PyProof.Rows.callWith_builtin1 (PyProof.Rows.spliced_more ?_) rfl rfl
  obtain ⟨π, e, h, v, h', S, hm', q⟩ := hq
  simp only [ev] at hm'
  obtain ⟨xs, h1, m1, m2⟩ := bd_ok hm'
  have hA := goA (Q := fun vs H1 => ∃ π1 h, vs = imL π1 xs ∧ wfL h.length xs ∧ HR G π1 h H1 ∧ bfn "sortzip" xs h = some (.ok v, h') ∧ Then G Q π1 h h' v) S m1 fun π1 H1 N1 S1 w1 => ⟨π1, h1, rfl, w1, S1.hr, m2, fun π2 H2 N2 R2 w2 => q π2 H2 (N1.trans N2) R2 w2⟩
  refine Call_ (ld_blt I hgz hmz PyProof.Rows.boot_zip (PyProof.Rows.callWith_type1 (thn (ha.run pos2 pins s σ H _ I hA) fun us s1 ⟨vs, H1, I1, r1, π1, h, hv, wv, R, hb, q1'⟩ => ?_) (star_cons hp1) (back_plain fun e he => by rw [List.mem_singleton.mp he]; exact hp2)))
  subst hv
  unfold bfn at hb
  split at hb
  · exact (no_ok hb).elim
  · exact (no_ok hb).elim
  · rename_i x y hne _
    replace hb : szO x y h = some (.ok v, h') := hb
    unfold szO at hb
    split at hb
    · rename_i ia ib _
      split at hb
      · rename_i as ha1
        split at hb
        · rename_i bs hb1
          obtain ⟨q1, w1⟩ := R.seqL ha1
          obtain ⟨q2, w2⟩ := R.seqL hb1
          rw [← hK] at q1 q2
          obtain ⟨u1, us', rfl, t1, t2⟩ : ∃ u1 us', us = u1 :: us' ∧ RelV (.ref (π1 ia)) u1 ∧ Vals [.ref (π1 ib)] us' := by
            cases r1 with
            | cons r rr => exact ⟨_, _, rfl, r, rr⟩
          obtain ⟨u2, rfl, t3⟩ := vals1 t2
          obtain rfl : u1 = Value.ref (π1 ia) := t1
          obtain rfl : u2 = Value.ref (π1 ib) := t3
          obtain ⟨its, rv, p1, z1⟩ := I1.list q1
          obtain ⟨its2, rv2, p2, z2⟩ := I1.list q2
          refine call_zip_2 p1.isList p2.isList fun h2 hz hTI hTO g1 g2 hsz hk => ?_
          refine PyProof.Rows.spliced_none ?_
          have I2 : Inv X pins σ H1 { s1 with heap := h2 } := I1.kept (t' := s1.toks) hk
          rw [imL_len] at z1 z2
          refine cr_sz (G := G) hK hc (PySem.W.ktu_apart s1.heap.objs.size _ _ p1.lt p2.lt) I2 (fun c hcm => ?_) hz hTI ⟨_, _, hTO⟩ g1 g2 (p1.isList.at fun o e => hk _ o e) (p2.isList.at fun o e => hk _ o e) R w1 w2 rv rv2 z1 z2 hb q1'
          have e' : c = s1.heap.objs.size + 4 ∨ c = s1.heap.objs.size + 2 ∨ c = s1.heap.objs.size + 3 ∨ c = s1.heap.objs.size ∨ c = s1.heap.objs.size + 1 := by simpa using hcm
          have hle : s1.heap.objs.size ≤ c := by
            rcases e' with z | z | z | z | z
            · rw [z]; exact Nat.le_add_right _ _
            · rw [z]; exact Nat.le_add_right _ _
            · rw [z]; exact Nat.le_add_right _ _
            · rw [z]; exact Nat.le_refl _
            · rw [z]; exact Nat.le_add_right _ _
          exact I1.fpOk hle (I1.hok.fresh hle)
        · cases hb
      · cases hb
    · exact (no_ok hb).elim
  · exact (no_ok hb).elim
end
end HI

set_option maxRecDepth 100000
set_option maxHeartbeats 4000000
/-! stores by an operator, loops, fields -/
namespace HI
open PySem PySem.Spec PyProof.Rows L2
section
variable {X : Cx} {G : Gd} {C : Cfg} {pos : Pos} {a b c : Expr} {ea eb ec : Ex}
/-- an operator in place, by the interpreter -/
def IPh (G : Gd) (o : Op2) : TIp := R2h G (intO o)
theorem ip_ok {op : Operator} {o : Op2} (h : (op = .Add ∧ o = .add) ∨ (op = .Sub ∧ o = .sub) ∨ (op = .Mult ∧ o = .mul)) : PIp X op (IPh G o) := by
  intro pins s σ H x y v u Q I rx ry q
  obtain ⟨π, h', a, b, r, h2, rfl, rfl, wa, wb, R, e, q⟩ := q
  unfold intO at e
  split at e
  · rename_i i j
    obtain ⟨e1, e2⟩ := opt_ok e
    subst e2
    rcases h with ⟨rfl, rfl⟩ | ⟨rfl, rfl⟩ | ⟨rfl, rfl⟩
    · cases e1
      exact iop_add pins s σ H _ _ v u Q I rx ry ⟨i, j, rfl, rfl, same (v := .int _) q R trivial⟩
    · cases e1
      exact iop_sub pins s σ H _ _ v u Q I rx ry ⟨i, j, rfl, rfl, same (v := .int _) q R trivial⟩
    · simp only [intOp] at e1
      split at e1
      · rename_i c
        cases e1
        obtain ⟨t, rfl⟩ := rx
        obtain ⟨t', rfl⟩ := ry
        exact imul_int ⟨.int _, H, I.tok _, ⟨_, rfl⟩, same (v := .int _) q R trivial⟩ (CMulW.ok c)
      · cases e1
  · exact (no_ok e).elim
theorem psx_aug (hK : X.K = G.K) {i : Nat} {x : Str} {p' : Pos} {op : Operator} {o : Op2} (hN : X.N.Nodup) (hi : X.N[i]? = some x) (hx : Loc X.env.scope x) (ha : PEh X G C a ea)
    (ho : (op = .Add ∧ o = .add) ∨ (op = .Sub ∧ o = .sub) ∨ (op = .Mult ∧ o = .mul)) (hf : X.fn x = true ∨ X.env.scope.names.lookup x = some .local) : PSh X G C (.AugAssign (.Name x p') op a pos) (.aug i o ea) :=
  ps_of (ps_aug hN hi hx ha (ip_ok (G := G) ho) hf) fun D σ H ⟨π, e, h, f, h', S, hm, q⟩ => by
    simp only [ex] at hm
    obtain ⟨u, h1, a1, m1⟩ := bd_ok hm
    obtain ⟨y, h2, a2, m2⟩ := bd_ok m1
    obtain ⟨v, h3, a3, m3⟩ := bd_ok m2
    obtain ⟨e1, e2⟩ := rt_ok m3
    subst e1 e2
    unfold getS at a1
    cases hu : e[i]? with
    | none => rw [hu] at a1; exact (no_ok a1).elim
    | some w =>
    rw [hu] at a1
    cases w with
    | none => exact (no_ok a1).elim
    | some w =>
      obtain ⟨e3, e4⟩ := rt_ok a1
      subst e3 e4
      have ww := S.we w (List.mem_of_getElem? hu)
      refine ⟨im π w, ?_, ?_⟩
      · rw [S.sl]
        show (e.map (imO π))[i]? = _
        rw [List.getElem?_map, hu]; rfl
      · refine goE S a2 fun π1 H1 N1 S1 w1 => ?_
        refine ⟨π1, h2, w, y, v, h3, (N1.im ww).symm, rfl, N1.wf ww, w1, S1.hr, a3, fun π2 H2 N2 R2 w2 => ?_⟩
        have S2 := S1.nx N2 R2
        have z := q π2 H2 (N1.trans N2) R2 (S2.we.set w2)
        rw [imE_set, ← S2.sl] at z
        exact z
/-- xs[i] by values, a list -/
theorem get_list (hK : X.K = G.K) : PGet X (fun o i H Q => ∃ π h a k xs v, o = .ref (π a) ∧ i = .int k ∧ seqL h a = some xs ∧ HR G π h H ∧ atI xs k = some v ∧ Q (im π v) H) := by
  intro pins s σ H o i ov iv Q I ro ri q
  obtain ⟨π, h, a, k, xs, v, rfl, rfl, hx, R, he, q⟩ := q
  cases ro
  obtain ⟨t, rfl⟩ := ri
  obtain ⟨l1, w1⟩ := R.seqL hx
  rw [← hK] at l1
  obtain ⟨its, r, pl, hz⟩ := I.list l1
  have he' := atI_map (f := im π) he
  obtain ⟨j, h1, h2, h3, h4, h5⟩ := atI_get he'
  obtain ⟨w, ew, rw'⟩ := r.get h2
  have hl := r.length
  have hn := line63
  have hz' : (imL π xs).length < 2 ^ 63 := Nat.lt_of_le_of_lt hz hn
  have fin : EP X pins σ Q w s := ⟨im π v, H, I, rw', q⟩
  have esz : its.toArray.size = (imL π xs).length := by rw [List.size_toArray]; exact hl.symm
  generalize hlen : (imL π xs).length = n at h1 h4 h5 hz' esz
  by_cases h0 : 0 ≤ k
  · have hj : k.toNat = j := by
      rw [seqIndex_of h0 h5] at h1
      exact Option.some.inj h1
    exact wpAny_getItem_list pl.isList h0 (by omega) (by rw [hj]; simpa using ew) fin
  · have hj : (k + (its.toArray.size : Int)).toNat = j := by
      rw [seqIndex_neg (by omega) h4] at h1
      rw [esz]
      exact Option.some.inj h1
    exact wpAny_getItem_list_neg pl.isList (by omega) (by rw [esz]; omega) (by omega) (by rw [hj]; simpa using ew) fin
theorem psx_augSub (hK : X.K = G.K) {o i : Expr} {eo ei : Ex} {op : Operator} {oo : Op2} {p' : Pos} (ho : PEh X G C o eo) (hi : PEh X G C i ei) (ha : PEh X G C a ea)
    (hop : (op = .Add ∧ oo = .add) ∨ (op = .Sub ∧ oo = .sub) ∨ (op = .Mult ∧ oo = .mul))
    (hs : ∀ ov iv new, augStore i ov iv new = (do holding [new, ov, iv] (setItem ov iv new); release [new, ov, iv] []; pure .next)) : PSh X G C (.AugAssign (.Subscript o i p') op a pos) (.augSub eo ei oo ea) :=
  ps_of (ps_augS ho hi (get_list hK) ha (ip_ok (G := G) hop) (set_ok (X := X) (G := G)) hs) fun D σ H ⟨π, e, h, f, h', S, hm, q⟩ => by
    simp only [ex] at hm
    obtain ⟨x, h1, a1, m1⟩ := bd_ok hm
    obtain ⟨y, h2, a2, m2⟩ := bd_ok m1
    obtain ⟨old, h3, a3, m3⟩ := bd_ok m2
    obtain ⟨z, h4, a4, m4⟩ := bd_ok m3
    obtain ⟨v, h5, a5, m5⟩ := bd_ok m4
    obtain ⟨u, h6, a6, m6⟩ := bd_ok m5
    obtain ⟨e1, e2⟩ := rt_ok m6
    subst e1 e2
    refine goE S a1 fun π1 H1 N1 S1 w1 => ?_
    refine goE S1 a2 fun π2 H2 N2 S2 w2 => ?_
    have lst : ∃ d k xs, x = .ref d ∧ y = .int k ∧ seqL h2 d = some xs ∧ atI xs k = some old ∧ h2 = h3 := by
      unfold indexL at a3
      split at a3
      · rename_i d k
        obtain ⟨b1, b2⟩ := look_ok a3
        split at b1
        · rename_i xs hx
          exact ⟨d, k, xs, rfl, rfl, hx, b1, b2⟩
        · cases b1
      · exact (no_ok a3).elim
    obtain ⟨d, k, xs, rfl, rfl, hx, hat, e3⟩ := lst
    subst e3
    have wold : wf h2.length old := (S2.hr.seqL hx).2 old (atI_mem hat)
    refine ⟨π2, h2, d, k, xs, old, (N2.im w1).symm, rfl, hx, S2.hr, hat, ?_⟩
    refine goE S2 a4 fun π3 H3 N3 S3 w3 => ?_
    refine ⟨π3, h4, old, z, v, h5, (N3.im wold).symm, rfl, N3.wf wold, w3, S3.hr, a5, fun π4 H4 N4 R4 w4 => ?_⟩
    have S4 := S3.nx N4 R4
    refine ⟨π4, h5, .ref d, .int k, v, h6, ((N2.trans (N3.trans N4)).im w1).symm, rfl, rfl, (N2.trans (N3.trans N4)).wf w1, trivial, w4, R4, a6, fun π5 H5 N5 R5 => ?_⟩
    have S5 := S4.nx N5 R5
    have t := q π5 H5 (((N1.trans N2).trans (N3.trans N4)).trans N5) R5 S5.we
    rw [← S5.sl] at t
    exact t
theorem putF_wf {n : Nat} {f : Str} {y : V} (wy : wf n y) : ∀ (fs : List (Str × V)), (∀ p ∈ fs, wf n p.2) → ∀ p ∈ putF f y fs, wf n p.2
  | [], _, p, hp => by
    rw [List.mem_singleton.mp hp]; exact wy
  | (g, w) :: fs, w0, p, hp => by
    unfold putF at hp
    split at hp
    · rcases List.mem_cons.mp hp with rfl | hp
      · exact wy
      · exact w0 p (List.mem_cons_of_mem _ hp)
    · rcases List.mem_cons.mp hp with rfl | hp
      · exact w0 _ List.mem_cons_self
      · exact putF_wf wy fs (fun q hq => w0 q (List.mem_cons_of_mem _ hq)) p hp
theorem putF_im {π : Nat → Addr} {f : Str} {y : V} : ∀ (fs : List (Str × V)), imF π (putF f y fs) = putF f (im π y) (imF π fs)
  | [] => rfl
  | (g, w) :: fs => by
    have e : imF π ((g, w) :: fs) = (g, im π w) :: imF π fs := rfl
    rw [e]
    unfold putF
    split
    · rfl
    · rw [← putF_im fs]; rfl
theorem psx_fld {o : Expr} {eo : Ex} {f : Str} {p' : Pos} (Df : ∀ c, C.fld c f = true → FldOk X G c f) (ho : PEh X G C o eo) (ha : PEh X G C a ea) (hs : swapsWith a (some (.Attribute o f p')) pos.line X.env = pure false)
    : PSh X G C (.Assign [.Attribute o f p'] a pos) (.asgFld eo f ea) :=
  ps_of (ps_fld ho ha hs) fun D σ H ⟨π, e, h, r, h', S, hm, q⟩ => by
    simp only [ex] at hm
    obtain ⟨y, h1, a1, m1⟩ := bd_ok hm
    obtain ⟨x, h2, a2, m2⟩ := bd_ok m1
    obtain ⟨u, h3, a3, m3⟩ := bd_ok m2
    obtain ⟨e1, e2⟩ := rt_ok m3
    subst e1 e2
    refine goE S a1 fun π1 H1 N1 S1 w1 => ?_
    refine goE S1 a2 fun π2 H2 N2 S2 w2 => ?_
    unfold setF at a3
    split at a3
    · rename_i d
      split at a3
      · rename_i c fs hy
        split at a3
        · rename_i hc
          cases a3
          obtain ⟨dx, hd⟩ := S2.hr.ob _ _ hy
          have D' := Df c hc.1
          have wfs : ∀ p ∈ putF f y fs, wf h2.length p.2 := putF_wf (N2.wf w1) fs (S2.hr.wo _ _ hy)
          have epf := putF_im (π := π2) (f := f) (y := y) fs
          have R3 : HR G π2 (h2.set d (.ins c (putF f y fs))) (upd H2 (π2 d) (.ins (G.cls c) dx (putF f (im π1 y) (imF π2 fs)))) := by
            refine S2.hr.put hy rfl rfl wfs ⟨dx, ?_⟩
            rw [upd_same, epf, N2.im w1]
          refine ⟨π2 d, G.cls c, dx, imF π2 fs, rfl, hd, D'.cl, D'.na, by rw [List.length_map]; exact hc.2, ?_⟩
          have S3 := S2.nx set_nx R3
          have t := q π2 _ ((N1.trans N2).trans set_nx) R3 S3.we
          rw [← S3.sl] at t
          exact t
        · cases a3
      · cases a3
    · exact (no_ok a3).elim

/-- a for -/
theorem psx_for (hK : X.K = G.K) (hc : X.calm = true) (hx : X.xe = fun _ _ => False) {tg iter : Expr} {body : List Stmt} {t : Tg} {ei : It} {bb : Sms} (hi : PIh X G tg iter (evI C ei)) (hp : plE iter = true)
    (hg : PG X tg (tgR X.K t)) (hb : PSsh X G C body bb) : PSh X G C (.For tg iter body [] pos) (.for_ t ei bb) := by
  have own : PassesOwn (model X.prog X.w) X.A X.env X.xe := by rw [hx]; exact PassesOwn.never
  refine ps_pick fun D σ H ⟨π, e, h, f, h', S, hm, q⟩ => ?_
  simp only [ex] at hm
  obtain ⟨iv, h1, a1, m1⟩ := bd_ok hm
  obtain ⟨wi, P, K1⟩ := hi.has S a1
  refine ⟨_, ps_for own hc P hg hb (fold_plain hp), ?_⟩
  refine K1 _ fun π1 H1 J N1 S1 W => ?_
  refine ⟨fun i m σ H => m + i = iv.size ∧ ∃ π e hi, Nx π1 h1 π hi ∧ Sx G σ H π e hi ∧ forGo iv t (fun e => exs C bb e) m i e hi = some (.ok f, h'), ⟨iv.size, rfl, π1, e, h1, Nx.refl, S1, m1⟩, ?_⟩
  rintro i m σ2 H2 ⟨hmi, π2, e2, hi, N2, S2, hg2⟩
  cases m with
  | zero =>
    have e0 : i = iv.size := by omega
    have hg2 : (if iv.ends hi then some ((.ok (.nx e2) : Rs Fl), hi) else none) = some (.ok f, h') := hg2
    split at hg2
    · rename_i hs
      cases hg2
      refine .inl ⟨by rw [e0]; exact W.stop N2 S2.hr hs, ?_⟩
      have z := q π2 H2 (N1.trans N2) S2.hr S2.we
      rw [← S2.sl] at z
      exact z
    · cases hg2
  | succ m =>
    obtain ⟨x, h3, b1, c1⟩ := bd_ok (show bd (iv.at i) _ hi = _ from hg2)
    obtain ⟨e3, h4, b2, c2⟩ := bd_ok c1
    obtain ⟨g, h5, b3, c3⟩ := bd_ok c2
    obtain ⟨as2, r2⟩ := look_ok b2
    subst r2
    obtain ⟨go, yl⟩ := W.go N2 S2.hr b1
    refine .inr ⟨go, fun σ H => m + (i + 1) = iv.size ∧ ∃ π e hi, Nx π1 h1 π hi ∧ Sx G σ H π e hi ∧ forGo iv t (fun e => exs C bb e) m (i + 1) e hi = some (.ok f, h'), fun _ _ z => ⟨m, Nat.lt_succ_self m, z⟩, ?_⟩
    intro x' H' hy
    obtain ⟨π3, N3, R3, rfl, wx⟩ := yl x' H' hy
    refine asg_ok hK (S2.nx N3 R3) as2 wx fun S4 => ?_
    refine ⟨π3, e3, h3, g, h5, S4, b3, fun π5 H5 N5 R5 => ?_⟩
    have N15 := (N2.trans N3).trans N5
    cases g with
    | nx e6 => exact fun we => ⟨by omega, π5, e6, h5, N15, ⟨rfl, we, R5⟩, c3⟩
    | ct e6 => exact fun we => ⟨by omega, π5, e6, h5, N15, ⟨rfl, we, R5⟩, c3⟩
    | bk e6 =>
      intro we
      obtain ⟨r1, r2⟩ := rt_ok c3
      subst r1 r2
      exact q π5 H5 (N1.trans N15) R5 we
    | rt v =>
      obtain ⟨r1, r2⟩ := rt_ok c3
      subst r1 r2
      exact q π5 H5 (N1.trans N15) R5
end
end HI

set_option maxRecDepth 100000
set_option maxHeartbeats 4000000
/-! from the linked text's terms to the small language: terms -/
namespace HI
open PySem PySem.Spec PyProof.Rows L2

structure Sc where
  N : List Str
  sc : Scope
  own : Str → Bool
structure Tab where
  defs : List (Str × String × Nat)
  cls : List (Str × Nat × Nat)
  meths : List (Str × String × Nat)
  bns : List Str
  gls : List (Str × V)

def kd (S : Sc) (x : Str) : Option NameKind := S.sc.names.lookup x
def slotN (S : Sc) (x : Str) : Option Nat :=
  match S.N.findIdx? (fun y => decide (y = x)) with
  | some i => if S.N[i]? = some x then some i else none
  | none => none
def visN (S : Sc) (x : Str) : Option Nat :=
  if (kd S x = some .local ∨ kd S x = some .cell ∨ kd S x = some .free) ∧ (x == ("__debug__" : Str)) = false ∧ (x == ("__classdict__" : Str)) = false then slotN S x else none
def stoN (S : Sc) (x : Str) : Option Nat :=
  if kd S x = some .local ∨ (kd S x = some .cell ∧ S.own x = true) then slotN S x else none
def gloN (S : Sc) (x : Str) : Bool := decide (kd S x = some .globalImplicit) && !(x == ("__debug__" : Str))

def cOp : Operator → Option Op2
  | .Add => some .add
  | .Sub => some .sub
  | .Mult => some .mul
  | .Mod => some .mod
  | .Pow => some .pow
  | .LShift => some .shl
  | .RShift => some .shr
  | .BitAnd => some .band
  | .FloorDiv => some .fdiv
  | _ => none
def cCm : CmpOp → Op2
  | .Eq => .eq
  | .NotEq => .ne
  | .Lt => .lt
  | .LtE => .le
  | .Gt => .gt
  | .GtE => .ge
  | .Is => .is_
  | .IsNot => .isnot
  | .In => .in_
  | .NotIn => .notin
def cCst : Const → Option V
  | .none => some .non
  | .bool b => some (.bl b)
  | .int i => some (.int i)
  | .str s => some (.str s)
  | _ => none
def isIf : Expr → Bool
  | .IfExp .. => true
  | _ => false
def isLc : Expr → Bool
  | .ListComp .. => true
  | _ => false
def isTp : Expr → Bool
  | .Tuple .. => true
  | _ => false

def cEs (f : Expr → Option Ex) : List Expr → Option Exs
  | [] => some .nil
  | e :: r => if plE e = true then (f e).bind fun a => (cEs f r).map fun b => .cons a b else none
def cBool (f : Expr → Option Ex) (op : BoolOp) : List Expr → Option Ex
  | [] => none
  | [e] => if isIf e = false then f e else none
  | e :: e2 :: r => if isIf e = false then (f e).bind fun a => (cBool f op (e2 :: r)).map fun b => (match op with | .And => .and a b | .Or => .or a b) else none
def cPart (f : Expr → Option Ex) : Option Expr → Option (Bool × Ex)
  | none => some (false, .cst .non)
  | some e => (f e).map (true, ·)
def cNames (S : Sc) : List Expr → Option (List Nat)
  | [] => some []
  | .Name x _ :: r => (stoN S x).bind fun i => (cNames S r).map (i :: ·)
  | _ :: _ => none
def cTg (S : Sc) : Expr → Option Tg
  | .Name x _ => (stoN S x).map .nm
  | .Tuple es _ _ => (cNames S es).map .tp
  | _ => none
/-- a walk's source -/
def cCall1 (T : Tab) (S : Sc) (f : Expr → Option Ex) (tg iter : Expr) (x : Str) (a : Expr) : Option It :=
  if gloN S x = true ∧ x ∈ T.bns ∧ plE a = true ∧ x = ("range" : Str) then (f a).map .rng1
  else if gloN S x = true ∧ x ∈ T.bns ∧ plE a = true ∧ x = ("enumerate" : Str) ∧ isTp tg = true then (f a).map .enum
  else (f iter).map .seq
def cCall2 (T : Tab) (S : Sc) (f : Expr → Option Ex) (tg iter : Expr) (x : Str) (a b : Expr) : Option It :=
  if gloN S x = true ∧ x ∈ T.bns ∧ plE a = true ∧ plE b = true ∧ x = ("range" : Str) then (f a).bind fun u => (f b).map fun v => .rng2 u v
  else if gloN S x = true ∧ x ∈ T.bns ∧ plE a = true ∧ plE b = true ∧ x = ("zip" : Str) ∧ isTp tg = true then (f a).bind fun u => (f b).map fun v => .zip u v
  else (f iter).map .seq
def isM1 : Expr → Bool
  | .UnaryOp .USub (.Constant (.int 1) _ _) _ => true
  | _ => false
def cCall3 (T : Tab) (S : Sc) (f : Expr → Option Ex) (tg iter : Expr) (x : Str) (a b c : Expr) : Option It :=
  if gloN S x = true ∧ x ∈ T.bns ∧ plE a = true ∧ plE b = true ∧ plE c = true ∧ x = ("range" : Str) ∧ isM1 c = true then (f a).bind fun u => (f b).map fun v => .down u v
  else if gloN S x = true ∧ x ∈ T.bns ∧ plE a = true ∧ plE b = true ∧ plE c = true ∧ x = ("zip" : Str) ∧ isTp tg = true then (f a).bind fun u => (f b).bind fun v => (f c).map fun w => .zip3 u v w
  else (f iter).map .seq
def cIt (T : Tab) (S : Sc) (f : Expr → Option Ex) (tg iter : Expr) : Option It := match iter with
  | .Call (.Name x _) [a] [] _ => cCall1 T S f tg iter x a
  | .Call (.Name x _) [a, b] [] _ => cCall2 T S f tg iter x a b
  | .Call (.Name x _) [a, b, c] [] _ => cCall3 T S f tg iter x a b c
  | _ => (f iter).map .seq

/-- the built-in functions: name, key, id, is it a class -/
def bTab : List (Str × String × String × Bool) :=
  [("len", "len", "len", false), ("abs", "abs", "abs", false), ("max", "max", "max", false), ("min", "min", "min", false), ("repr", "repr", "repr", false), ("sorted", "sorted", "sorted", false),
   ("all", "all", "all", false), ("any", "any", "any", false), ("sum", "sum", "sum", false),
   ("int", "int", "int", true), ("tuple", "tuple", "tuple", true), ("list", "list", "list", true)]
def isTab : List (Str × String) := [("int", "is int"), ("bool", "is bool"), ("list", "is list"), ("tuple", "is tuple"), ("str", "is str")]
def cIs (T : Tab) (S : Sc) (f : Expr → Option Ex) (x : Str) (es : List Expr) : Option Ex := match es with
  | [a, .Name y _] => if x = ("isinstance" : Str) ∧ gloN S x = true ∧ gloN S y = true ∧ x ∈ T.bns ∧ y ∈ T.bns ∧ plE a = true then (isTab.lookup y).bind fun k => (f a).map fun ea => .bcall k (.cons ea .nil) else none
  | [.Call (.Name y _) [a, b] [] _] => if x = ("sorted" : Str) ∧ y = ("zip" : Str) ∧ gloN S x = true ∧ gloN S y = true ∧ x ∈ T.bns ∧ y ∈ T.bns ∧ plE a = true ∧ plE b = true then (f a).bind fun ea => (f b).map fun eb => .bcall "sortzip" (.cons ea (.cons eb .nil)) else none
  | _ => none
def cCallN (T : Tab) (S : Sc) (f : Expr → Option Ex) (x : Str) (es : List Expr) : Option Ex :=
  if gloN S x = true then
    (cEs f es).bind fun ee => match T.defs.lookup x with
      | some (q, n) => if ee.len = n then some (.call q ee) else none
      | none => match T.cls.lookup x with
        | some (c, n) => if ee.len = n ∧ es ≠ [] then some (.mk c ee) else none
        | none => if x ∈ T.bns ∧ es ≠ [] then match bTab.lookup x with
            | some (g, _, _) => some (.bcall g ee)
            | none => none
          else none
  else none
def cCallM (T : Tab) (f : Expr → Option Ex) (o : Expr) (m : Str) (apos pos : Pos) (es : List Expr) : Option Ex :=
  if plE o = true ∧ (apos.endLine == pos.line) = true ∧ es.length < 30 then
    (f o).bind fun eo => (cEs f es).bind fun ee => match T.meths.lookup m with
      | some (ms, n) => if ee.len = n then some (.meth m ms eo ee) else none
      | none => none
  else none
def cCall (T : Tab) (S : Sc) (f : Expr → Option Ex) (fn : Expr) (es : List Expr) (pos : Pos) : Option Ex := match fn with
  | .Name x _ => match cIs T S f x es with
    | some e => some e
    | none => cCallN T S f x es
  | .Attribute o m apos => cCallM T f o m apos pos es
  | _ => none
def cSub (f : Expr → Option Ex) (a i : Expr) : Option Ex := match i with
  | .Slice none none (some (.UnaryOp .USub (.Constant (.int 1) _ _) _)) _ => (f a).map fun ea => .bcall "[::-1]" (.cons ea .nil)
  | .Slice lo hi none _ => (f a).bind fun ea => (cPart f lo).bind fun l => (cPart f hi).map fun h => .slc ea l.1 l.2 h.1 h.2
  | i => if plE i = true then (f a).bind fun ea => (f i).map fun ei => .idx ea ei else none
def cCmp (f : Expr → Option Ex) (a : Expr) (ops : List CmpOp) (bs : List Expr) : Option Ex := match ops, bs with
  | [o], [b] => if plE b = true then (f a).bind fun ea => (f b).map fun eb => .bin (cCm o) ea eb else none
  | [o, p], [b, c] => if lastMarks [o, p] [b, c] = false then (f a).bind fun ea => (f b).bind fun eb => (f c).map fun ec => .chain (cCm o) (cCm p) ea eb ec else none
  | _, _ => none
def cUn (f : Expr → Option Ex) (op : UnaryOp) (a : Expr) : Option Ex := match op with
  | .Not => if isIf a = false then (f a).map .not else none
  | .USub => (f a).map .neg
  | _ => none
/-- a comprehension's scope -/
def Sc.blk (S : Sc) (scope : Scope) : Sc := ⟨S.N, relS scope S.sc, fun x => scope.names.lookup x == some .cell⟩
def ownOf (S : Sc) (scope : Scope) : List (Str × Nat) := scope.names.filterMap fun y => if y.2 = .local ∨ y.2 = .cell then (slotN S y.1).map fun i => (y.1, i) else none
def cIfs (f : Expr → Option Ex) : List Expr → Option Ex
  | [] => some (.cst (.bl true))
  | [c] => if isIf c = false then f c else none
  | _ => none
def cComp (T : Tab) (S : Sc) (f : Sc → Expr → Option Ex) (el : Expr) (gs : List Comprehension) (scope : Scope) : Option Ex := match gs with
  | [⟨tg, iter, ifs, k⟩] =>
    if k = 0 ∧ plE iter = true ∧ blkC S.N S.sc scope (ownOf S scope) = true then
      (cTg (S.blk scope) tg).bind fun t => if t.sl.all (fun i => decide (i ∈ (ownOf S scope).map (·.2))) = true then
        (cIt T S (f S) tg iter).bind fun it => (cIfs (f (S.blk scope)) ifs).bind fun c => (f (S.blk scope) el).map fun e => .comp ((ownOf S scope).map (·.2)) t it c e
      else none
    else none
  | _ => none
def cE (T : Tab) : Nat → Sc → Expr → Option Ex
  | 0, _, _ => none
  | n + 1, S, e => match e with
    | .Name x _ => match visN S x with
      | some i => some (.slot i)
      | none => if gloN S x = true then (T.gls.lookup x).map .cst else none
    | .Constant c _ _ => (cCst c).map .cst
    | .BinOp a op b _ => (cOp op).bind fun o => (cE T n S a).bind fun ea => (cE T n S b).map fun eb => .bin o ea eb
    | .UnaryOp op a _ => cUn (cE T n S) op a
    | .BoolOp op es _ => cBool (cE T n S) op es
    | .Compare a ops bs _ => cCmp (cE T n S) a ops bs
    | .IfExp c a b _ => if isIf c = false then (cE T n S c).bind fun ec => (cE T n S a).bind fun ea => (cE T n S b).map fun eb => .ite ec ea eb else none
    | .Tuple es _ _ => (cEs (cE T n S) es).map .tup
    | .List es _ => (cEs (cE T n S) es).map .lst
    | .Subscript a i _ => cSub (cE T n S) a i
    | .Call fn es kws pos => if kws.length = 0 then cCall T S (cE T n S) fn es pos else none
    | .Attribute o x _ => if plE o = true then (cE T n S o).map fun eo => .fld eo x else none
    | .ListComp el gs scope _ => cComp T S (cE T n) el gs scope
    | _ => none

/-! ### it says what the text says -/
/-- what a context of any block has -/
structure Bs (X : Cx) (G : Gd) : Prop where
  K : X.K = G.K
  gd : X.A.guards = some []
  un : X.A.units + 200 < cLine
  calm : X.calm = true
structure Cg (X : Cx) (G : Gd) (C : Cfg) (T : Tab) (k : Nat) (S : Sc) : Prop where
  N : X.N = S.N
  nd : X.N.Nodup
  sc : X.env.scope = S.sc
  fn : ∀ x, S.own x = true → X.fn x = true
  kind : X.env.scope.kind = .function
  calm : X.calm = true
  gd : X.A.guards = some []
  room : Room (k + 1) X.A
  K : X.K = G.K
  defs : ∀ x q n, T.defs.lookup x = some (q, n) → DefOk X G k x n (C.call q)
  cls : ∀ x c n, T.cls.lookup x = some (c, n) → MkOk X G k x c n (C.call (C.cname c ++ ".__init__"))
  meths : ∀ m ms n, T.meths.lookup m = some (ms, n) → (∀ c, C.hasM c ms = true → MethOk X G k c m n (C.call (C.cname c ++ "." ++ ms))) ∧ ((∀ X', Bs X' G → LMeth X' G m ms) ∨ ∀ a vs h, lmeth ms a vs h = none)
  flds : ∀ c f, C.fld c f = true → FldOk X G c f
  bns : ∀ x ∈ T.bns, X.mg x = none
  gls : ∀ x v, T.gls.lookup x = some v → (∃ u, X.mg x = some u ∧ RelV v u) ∧ (∀ π, im π v = v) ∧ ∀ n, wf n v

section
variable {X : Cx} {G : Gd} {C : Cfg} {T : Tab} {k : Nat} {S : Sc} {pos : Pos}
theorem slotN_ok (g : Cg X G C T k S) {x : Str} {i : Nat} (h : slotN S x = some i) : X.N[i]? = some x := by
  unfold slotN at h
  split at h
  · split at h
    · cases h; rw [g.N]; assumption
    · cases h
  · cases h
theorem visN_ok (g : Cg X G C T k S) {x : Str} {i : Nat} (h : visN S x = some i) : PEh X G C (.Name x pos) (.slot i) := by
  unfold visN at h
  split at h
  · rename_i c
    refine px_slot (slotN_ok g h) ?_ c.2.1 c.2.2
    have e := c.1
    unfold kd at e
    rw [← g.sc] at e
    exact e
  · cases h
theorem stoN_ok (g : Cg X G C T k S) {x : Str} {i : Nat} (h : stoN S x = some i) : X.N[i]? = some x ∧ Loc X.env.scope x ∧ (X.fn x = true ∨ X.env.scope.names.lookup x = some .local) := by
  unfold stoN at h
  split at h
  · rename_i c
    unfold kd at c
    rw [← g.sc] at c
    refine ⟨slotN_ok g h, ?_, ?_⟩
    · rcases c with c | c
      · exact .inl c
      · exact .inr c.1
    · rcases c with c | c
      · exact .inr c
      · exact .inl (g.fn x c.2)
  · cases h
theorem gloN_ok (g : Cg X G C T k S) {x : Str} (h : gloN S x = true) : Gl X x ∧ (x == ("__debug__" : Str)) = false := by
  unfold gloN kd at h
  rw [Bool.and_eq_true, ← g.sc] at h
  refine ⟨of_decide_eq_true (p := X.env.scope.names.lookup x = some .globalImplicit) h.1, ?_⟩
  have := h.2
  simpa using this
theorem names_ok (g : Cg X G C T k S) : ∀ {es : List Expr} {is : List Nat}, cNames S es = some is → PGs X es (gNames is) ∧ (assignEach es X.env).length = is.length ∧ (assignEach es X.env).findIdx? (·.1) = none
  | [], is, h => by
    cases h
    exact ⟨pgs_nil, rfl, rfl⟩
  | e :: r, is, h => by
    cases e with
    | Name x p =>
      have h : ((stoN S x).bind fun i => (cNames S r).map (i :: ·)) = some is := h
      obtain ⟨i, hi, h⟩ := Option.bind_eq_some_iff.mp h
      obtain ⟨js, hj, h⟩ := Option.map_eq_some_iff.mp h
      subst h
      obtain ⟨p1, p2, p3⟩ := names_ok g hj
      obtain ⟨q1, q2, q3⟩ := stoN_ok g hi
      refine ⟨pgs_cons (pg_name g.nd q1 q2 q3) p1 rfl, ?_, ?_⟩
      · show (assignEach r X.env).length + 1 = js.length + 1
        rw [p2]
      · show List.findIdx? _ ((false, _) :: assignEach r X.env) = none
        rw [List.findIdx?_cons, p3]; rfl
    | _ => cases h
theorem tg_ok (g : Cg X G C T k S) {tg : Expr} {t : Tg} (h : cTg S tg = some t) : PG X tg (tgR X.K t) := by
  cases tg with
  | Name x p =>
    obtain ⟨i, hi, h⟩ := Option.map_eq_some_iff.mp (show (stoN S x).map Tg.nm = some t from h)
    subst h
    obtain ⟨q1, q2, q3⟩ := stoN_ok g hi
    exact pg_name g.nd q1 q2 q3
  | Tuple es kk p =>
    obtain ⟨is, hi, h⟩ := Option.map_eq_some_iff.mp (show (cNames S es).map Tg.tp = some t from h)
    subst h
    obtain ⟨q1, q2, q3⟩ := names_ok g hi
    exact pg_tup g.calm q1 q2 q3
  | _ => cases h

theorem opR_of (g : Cg X G C T k S) {op : Operator} {o : Op2} (h : cOp op = some o) : OpR X (binaryOp op) (R2h G (op2 o)) := by
  have hK := g.K
  cases op <;> simp only [cOp] at h <;> cases h
  · exact or_add hK
  · exact or_sub
  · exact or_mul hK
  · exact or_mod
  · exact or_pow
  · exact or_shl
  · exact or_shr
  · exact or_band
  · exact or_fdiv
theorem cmR_of (g : Cg X G C T k S) (op : CmpOp) : OpR X (compareOp op) (R2h G (op2 (cCm op))) := by
  have hK := g.K
  have hu := g.room.un
  cases op
  · exact or_eq hK (by omega)
  · exact or_ne hK (by omega)
  · exact or_lt
  · exact or_le
  · exact or_gt
  · exact or_ge
  · exact or_is
  · exact or_isnot
  · exact or_in hK (by omega)
  · exact or_notin hK (by omega)
theorem boolCm (op : CmpOp) : boolOp (cCm op) = true := by cases op <;> rfl

/-- a term and what it is compiled to -/
def Rx (X : Cx) (G : Gd) (C : Cfg) (e : Expr) (ee : Ex) : Prop := PEh X G C e ee ∧ (isIf e = false → PTh X G C e ee)
/-- what is asked of a part's compiler -/
def Fo1 (X : Cx) (G : Gd) (C : Cfg) (f : Expr → Option Ex) : Prop := ∀ e ee, f e = some ee → Rx X G C e ee
theorem Rx.plain (g : Cg X G C T k S) {e : Expr} {ee : Ex} (h : PEh X G C e ee) (h1 : ∀ a b, e ≠ .UnaryOp .Not a b) (h2 : ∀ a b c, e ≠ .BoolOp a b c) (h4 : ∀ a b c d, e ≠ .Compare a b c d) : Rx X G C e ee :=
  ⟨h, fun hi => pc_tru g.K h (truth_plain h1 h2 (fun a b c d z => by subst z; cases hi) h4)⟩
theorem cEs_ok {f : Expr → Option Ex} (F : Fo1 X G C f) : ∀ {es : List Expr} {ee : Exs}, cEs f es = some ee → PAh X G C es ee ∧ (∀ e ∈ es, plE e = true) ∧ ee.len = es.length
  | [], ee, h => by
    cases h
    exact ⟨pax_nil, (fun _ z => nomatch z), rfl⟩
  | e :: r, ee, h => by
    unfold cEs at h
    split at h
    · rename_i hp
      obtain ⟨a, ha, h⟩ := Option.bind_eq_some_iff.mp h
      obtain ⟨b, hb, h⟩ := Option.map_eq_some_iff.mp h
      subst h
      obtain ⟨q1, q2, q3⟩ := cEs_ok F hb
      refine ⟨pax_cons (F e a ha).1 q1 hp, fun x hx => ?_, by show b.len + 1 = r.length + 1; rw [q3]⟩
      rcases List.mem_cons.mp hx with rfl | hx
      · exact hp
      · exact q2 x hx
    · cases h
theorem cBool_ok (g : Cg X G C T k S) {f : Expr → Option Ex} (F : Fo1 X G C f) {op : BoolOp} : ∀ {es : List Expr} {ee : Ex}, cBool f op es = some ee → PEh X G C (.BoolOp op es pos) ee ∧ PWh X G C (.BoolOp op es pos) ee
  | [], ee, h => by cases h
  | [e], ee, h => by
    unfold cBool at h
    split at h
    · rename_i hi
      have q := F e ee h
      refine ⟨pe_one q.1, ?_⟩
      cases op with
      | And => exact pw_and1 (q.2 hi)
      | Or => exact pw_or1 (q.2 hi)
    · cases h
  | e :: e2 :: r, ee, h => by
    unfold cBool at h
    split at h
    · rename_i hi
      obtain ⟨a, ha, h⟩ := Option.bind_eq_some_iff.mp h
      obtain ⟨b, hb, h⟩ := Option.map_eq_some_iff.mp h
      obtain ⟨r1, r2⟩ := cBool_ok g F hb
      have q := F e a ha
      cases op with
      | And => subst h; exact ⟨px_and g.K q.1 r1, pw_andh (q.2 hi) r2⟩
      | Or => subst h; exact ⟨px_or g.K q.1 r1, pw_orh (q.2 hi) r2⟩
    · cases h
theorem cPart_ok {f : Expr → Option Ex} (F : Fo1 X G C f) {o : Option Expr} {r : Bool × Ex} (h : cPart f o = some r) : PO X o (TOh G fun e => partO r.1 (ev C r.2 e)) := by
  cases o with
  | none => cases h; exact pox_none
  | some e =>
    obtain ⟨a, ha, h⟩ := Option.map_eq_some_iff.mp (show (f e).map (true, ·) = some r from h)
    subst h
    exact pox_some (F e a ha).1
theorem cSub_ok (g : Cg X G C T k S) {f : Expr → Option Ex} (F : Fo1 X G C f) {a i : Expr} {ee : Ex} (h : cSub f a i = some ee) : PEh X G C (.Subscript a i pos) ee := by
  unfold cSub at h
  split at h
  · obtain ⟨ea, ha, h⟩ := Option.map_eq_some_iff.mp h
    subst h
    exact px_rev g.K (F _ _ ha).1
  · obtain ⟨ea, ha, h⟩ := Option.bind_eq_some_iff.mp h
    obtain ⟨l, hl, h⟩ := Option.bind_eq_some_iff.mp h
    obtain ⟨u, hu, h⟩ := Option.map_eq_some_iff.mp h
    subst h
    exact px_slc g.K (F _ _ ha).1 (cPart_ok F hl) (cPart_ok F hu)
  · split at h
    · rename_i hp
      obtain ⟨ea, ha, h⟩ := Option.bind_eq_some_iff.mp h
      obtain ⟨ei, hi, h⟩ := Option.map_eq_some_iff.mp h
      subst h
      exact px_idx g.K (F _ _ ha).1 (F _ _ hi).1 hp
    · cases h
theorem cCmp_ok (g : Cg X G C T k S) {f : Expr → Option Ex} (F : Fo1 X G C f) {a : Expr} {ops : List CmpOp} {bs : List Expr} {ee : Ex} (h : cCmp f a ops bs = some ee) : Rx X G C (.Compare a ops bs pos) ee := by
  unfold cCmp at h
  split at h
  · split at h
    · rename_i hp
      obtain ⟨ea, ha, h⟩ := Option.bind_eq_some_iff.mp h
      obtain ⟨eb, hb, h⟩ := Option.map_eq_some_iff.mp h
      subst h
      exact ⟨px_cmp (cmR_of g _) (F _ _ ha).1 (F _ _ hb).1 hp, fun _ => pc_cmp (cmR_of g _) (boolCm _) (F _ _ ha).1 (F _ _ hb).1 hp⟩
    · cases h
  · split at h
    · rename_i hp
      obtain ⟨ea, ha, h⟩ := Option.bind_eq_some_iff.mp h
      obtain ⟨eb, hb, h⟩ := Option.bind_eq_some_iff.mp h
      obtain ⟨ec, hc, h⟩ := Option.map_eq_some_iff.mp h
      subst h
      exact ⟨px_chain (cmR_of g _) (cmR_of g _) (boolCm _) (F _ _ ha).1 (F _ _ hb).1 (F _ _ hc).1 hp,
        fun _ => pc_chain (cmR_of g _) (cmR_of g _) (boolCm _) (boolCm _) (F _ _ ha).1 (F _ _ hb).1 (F _ _ hc).1 hp⟩
    · cases h
  · cases h
theorem cUn_ok (g : Cg X G C T k S) {f : Expr → Option Ex} (F : Fo1 X G C f) {op : UnaryOp} {a : Expr} {ee : Ex} (h : cUn f op a = some ee) : Rx X G C (.UnaryOp op a pos) ee := by
  unfold cUn at h
  split at h
  · split at h
    · rename_i hi
      obtain ⟨ea, ha, h⟩ := Option.map_eq_some_iff.mp h
      subst h
      exact ⟨px_not g.K (F _ _ ha).1, fun _ => pc_not ((F _ _ ha).2 hi)⟩
    · cases h
  · obtain ⟨ea, ha, h⟩ := Option.map_eq_some_iff.mp h
    subst h
    exact Rx.plain g (px_neg (F _ _ ha).1) (fun _ _ z => by cases z) (fun _ _ _ z => by cases z) fun _ _ _ _ z => by cases z
  · cases h

theorem lookup_in {α β : Type} [BEq α] [LawfulBEq α] {x : α} {v : β} : ∀ {l : List (α × β)}, l.lookup x = some v → (x, v) ∈ l
  | (y, w) :: r, h => by
    rw [List.lookup_cons] at h
    split at h
    · rename_i e
      cases h
      rw [eq_of_beq e]; exact List.mem_cons_self
    · exact List.mem_cons_of_mem _ (lookup_in h)
theorem px_bt (g : Cg X G C T k S) {x : Str} {f i : String} {ty : Bool} {p : Pos} {e1 : Expr} {es : List Expr} {ee : Exs} (h : bTab.lookup x = some (f, i, ty)) (hg : Gl X x) (hm : X.mg x = none)
    (ha : PAh X G C (e1 :: es) ee) (hp : ∀ e ∈ e1 :: es, plE e = true) : PEh X G C (.Call (.Name x p) (e1 :: es) [] pos) (.bcall f ee) := by
  have m := lookup_in h
  have hu := g.room.un
  have hK := g.K
  unfold bTab at m
  simp only [List.mem_cons, Prod.mk.injEq, List.mem_nil_iff, or_false, List.not_mem_nil] at m
  rcases m with m | m | m | m | m | m | m | m | m | m | m | m
  · obtain ⟨rfl, rfl, rfl, rfl⟩ := m
    exact px_bcall (cr_len hK) hg hm PySem.boot_len (by decide) (by decide) ha hp
  · obtain ⟨rfl, rfl, rfl, rfl⟩ := m
    exact px_bcall cr_abs hg hm (by decide +kernel) (by decide) (by decide) ha hp
  · obtain ⟨rfl, rfl, rfl, rfl⟩ := m
    exact px_bcall (cr_max g.calm hK) hg hm (by decide +kernel) (by decide) (by decide) ha hp
  · obtain ⟨rfl, rfl, rfl, rfl⟩ := m
    exact px_bcall (cr_min g.calm hK) hg hm (by decide +kernel) (by decide) (by decide) ha hp
  · obtain ⟨rfl, rfl, rfl, rfl⟩ := m
    exact px_bcall (cr_repr hK g.gd (by omega)) hg hm (by decide +kernel) (by decide) (by decide) ha hp
  · obtain ⟨rfl, rfl, rfl, rfl⟩ := m
    exact px_bcall (cr_sorted hK) hg hm (by decide +kernel) (by decide) (by decide) ha hp
  · obtain ⟨rfl, rfl, rfl, rfl⟩ := m
    exact px_bcall (cr_all g.calm hK) hg hm (by decide +kernel) (by decide) (by decide) ha hp
  · obtain ⟨rfl, rfl, rfl, rfl⟩ := m
    exact px_bcall (cr_any g.calm hK) hg hm (by decide +kernel) (by decide) (by decide) ha hp
  · obtain ⟨rfl, rfl, rfl, rfl⟩ := m
    exact px_bcall (cr_sum g.calm hK) hg hm (by decide +kernel) (by decide) (by decide) ha hp
  · obtain ⟨rfl, rfl, rfl, rfl⟩ := m
    exact px_tcall cr_int hg hm (by decide +kernel) (by decide) (by decide) ha hp
  · obtain ⟨rfl, rfl, rfl, rfl⟩ := m
    exact px_tcall (cr_tuple hK) hg hm (by decide +kernel) (by decide) (by decide) ha hp
  · obtain ⟨rfl, rfl, rfl, rfl⟩ := m
    exact px_tcall (cr_list hK) hg hm (by decide +kernel) (by decide) (by decide) ha hp
theorem cCallN_ok (g : Cg X G C T k S) {f : Expr → Option Ex} (F : Fo1 X G C f) {x : Str} {p : Pos} {es : List Expr} {ee : Ex} (h : cCallN T S f x es = some ee) : PEh X G C (.Call (.Name x p) es [] pos) ee := by
  unfold cCallN at h
  split at h
  · rename_i hgl
    obtain ⟨g1, g2⟩ := gloN_ok g hgl
    obtain ⟨aa, ha, h⟩ := Option.bind_eq_some_iff.mp h
    obtain ⟨q1, q2, q3⟩ := cEs_ok F ha
    have r1 : Room k X.A := g.room.mono (Nat.le_succ k)
    split at h
    · rename_i q n hd
      split at h
      · rename_i hn
        cases h
        have D := g.defs x q n hd
        cases es with
        | nil =>
          cases ha
          subst hn
          exact px_call0 D g.gd r1 g1 g2
        | cons e1 es => exact px_call D g.gd r1 g1 g2 q1 hn q2
      · cases h
    · split at h
      · rename_i c n hd
        split at h
        · rename_i hn
          cases h
          have D := g.cls x c n hd
          cases es with
          | nil => exact absurd rfl hn.2
          | cons e1 es => exact px_mk D g.gd g.room g1 g2 q1 hn.1 q2
        · cases h
      · split at h
        · rename_i hb
          split at h
          · rename_i gg i ty hl
            cases h
            cases es with
            | nil => exact absurd rfl hb.2
            | cons e1 es => exact px_bt g hl g1 (g.bns x hb.1) q1 q2
          · cases h
        · cases h
  · cases h
theorem cCallM_ok (g : Cg X G C T k S) {f : Expr → Option Ex} (F : Fo1 X G C f) {o : Expr} {m : Str} {apos : Pos} {es : List Expr} {ee : Ex} (h : cCallM T f o m apos pos es = some ee) : PEh X G C (.Call (.Attribute o m apos) es [] pos) ee := by
  unfold cCallM at h
  split at h
  · rename_i hc
    obtain ⟨eo, ho, h⟩ := Option.bind_eq_some_iff.mp h
    obtain ⟨aa, ha, h⟩ := Option.bind_eq_some_iff.mp h
    obtain ⟨q1, q2, q3⟩ := cEs_ok F ha
    have r1 : Room k X.A := g.room.mono (Nat.le_succ k)
    have hu := r1.un
    split at h
    · rename_i ms n hm
      split at h
      · rename_i hn
        cases h
        obtain ⟨D, L⟩ := g.meths m ms n hm
        have L : LMeth X G m ms ∨ ∀ a vs h, lmeth ms a vs h = none := L.imp_left fun L => L X ⟨g.K, g.gd, by omega, g.calm⟩
        subst hn
        cases es with
        | nil =>
          cases ha
          exact px_meth0 D L g.gd r1 (F _ _ ho).1 hc.1 hc.2.1
        | cons e1 es => exact px_meth D L g.gd r1 (F _ _ ho).1 hc.1 q1 q2 hc.2.1 hc.2.2
      · cases h
    · cases h
  · cases h
theorem cIs_ok (g : Cg X G C T k S) {f : Expr → Option Ex} (F : Fo1 X G C f) {x : Str} {p : Pos} {es : List Expr} {ee : Ex} (h : cIs T S f x es = some ee) : PEh X G C (.Call (.Name x p) es [] pos) ee := by
  unfold cIs at h
  split at h
  · rename_i a y p2
    split at h
    · rename_i c
      obtain ⟨rfl, c1, c2, c3, c4, c5⟩ := c
      obtain ⟨kk, hk, h⟩ := Option.bind_eq_some_iff.mp h
      obtain ⟨ea, ha, h⟩ := Option.map_eq_some_iff.mp h
      subst h
      have m := lookup_in hk
      unfold isTab at m
      simp only [List.mem_cons, Prod.mk.injEq, List.mem_nil_iff, or_false, List.not_mem_nil] at m
      rcases m with m | m | m | m | m
      · obtain ⟨rfl, rfl⟩ := m
        exact px_is (t := "int") g.K (fun _ => rfl) (by decide) (gloN_ok g c1).1 (g.bns _ c3) (gloN_ok g c2).1 (g.bns _ c4) (by decide +kernel) (by decide) (by decide) (F _ _ ha).1 c5
      · obtain ⟨rfl, rfl⟩ := m
        exact px_is (t := "bool") g.K (fun _ => rfl) (by decide) (gloN_ok g c1).1 (g.bns _ c3) (gloN_ok g c2).1 (g.bns _ c4) (by decide +kernel) (by decide) (by decide) (F _ _ ha).1 c5
      · obtain ⟨rfl, rfl⟩ := m
        exact px_is (t := "list") g.K (fun _ => rfl) (by decide) (gloN_ok g c1).1 (g.bns _ c3) (gloN_ok g c2).1 (g.bns _ c4) (by decide +kernel) (by decide) (by decide) (F _ _ ha).1 c5
      · obtain ⟨rfl, rfl⟩ := m
        exact px_is (t := "tuple") g.K (fun _ => rfl) (by decide) (gloN_ok g c1).1 (g.bns _ c3) (gloN_ok g c2).1 (g.bns _ c4) (by decide +kernel) (by decide) (by decide) (F _ _ ha).1 c5
      · obtain ⟨rfl, rfl⟩ := m
        exact px_is (t := "str") g.K (fun _ => rfl) (by decide) (gloN_ok g c1).1 (g.bns _ c3) (gloN_ok g c2).1 (g.bns _ c4) (by decide +kernel) (by decide) (by decide) (F _ _ ha).1 c5
    · cases h
  · rename_i y p2 a b pos2
    split at h
    · rename_i c
      obtain ⟨rfl, rfl, c1, c2, c3, c4, c5, c6⟩ := c
      obtain ⟨ea, ha, h⟩ := Option.bind_eq_some_iff.mp h
      obtain ⟨eb, hb, h⟩ := Option.map_eq_some_iff.mp h
      subst h
      exact px_sz g.K g.calm (gloN_ok g c1).1 (g.bns _ c3) (gloN_ok g c2).1 (g.bns _ c4) (pax_cons (F _ _ ha).1 (pax_cons (F _ _ hb).1 pax_nil c6) c5) c5 c6
    · cases h
  · cases h
theorem cCall_ok (g : Cg X G C T k S) {f : Expr → Option Ex} (F : Fo1 X G C f) {fn : Expr} {es : List Expr} {ee : Ex} (h : cCall T S f fn es pos = some ee) : PEh X G C (.Call fn es [] pos) ee := by
  unfold cCall at h
  split at h
  · split at h
    · rename_i hi
      cases h
      exact cIs_ok g F hi
    · exact cCallN_ok g F h
  · exact cCallM_ok g F h
  · cases h
theorem cIt_ok (g : Cg X G C T k S) {f : Expr → Option Ex} (F : Fo1 X G C f) {tg iter : Expr} {it : It} (h : cIt T S f tg iter = some it) : PIh X G tg iter (evI C it) := by
  have sq : ∀ {it : It}, (f iter).map It.seq = some it → PIh X G tg iter (evI C it) := by
    intro it h
    obtain ⟨a, ha, h⟩ := Option.map_eq_some_iff.mp h
    subst h
    exact pix_seq g.K (F _ _ ha).1
  unfold cIt at h
  split at h
  · unfold cCall1 at h
    split at h
    · rename_i c
      obtain ⟨c1, c2, c3, rfl⟩ := c
      obtain ⟨a, ha, h⟩ := Option.map_eq_some_iff.mp h
      subst h
      exact pix_rng1 (gloN_ok g c1).1 (g.bns _ c2) (F _ _ ha).1 c3
    · split at h
      · rename_i c
        obtain ⟨c1, c2, c3, rfl, c5⟩ := c
        obtain ⟨a, ha, h⟩ := Option.map_eq_some_iff.mp h
        subst h
        cases tg with
        | Tuple elts kk tp => exact pix_enum g.K (gloN_ok g c1).1 (g.bns _ c2) (F _ _ ha).1 c3
        | _ => cases c5
      · exact sq h
  · unfold cCall2 at h
    split at h
    · rename_i c
      obtain ⟨c1, c2, c3, c4, rfl⟩ := c
      obtain ⟨a, ha, h⟩ := Option.bind_eq_some_iff.mp h
      obtain ⟨b, hb, h⟩ := Option.map_eq_some_iff.mp h
      subst h
      exact pix_rng2 (gloN_ok g c1).1 (g.bns _ c2) (F _ _ ha).1 (F _ _ hb).1 c3 c4
    · split at h
      · rename_i c
        obtain ⟨c1, c2, c3, c4, rfl, c5⟩ := c
        obtain ⟨a, ha, h⟩ := Option.bind_eq_some_iff.mp h
        obtain ⟨b, hb, h⟩ := Option.map_eq_some_iff.mp h
        subst h
        cases tg with
        | Tuple elts kk tp => exact pix_zip g.K (gloN_ok g c1).1 (g.bns _ c2) (F _ _ ha).1 (F _ _ hb).1 c3 c4
        | _ => cases c5
      · exact sq h
  · unfold cCall3 at h
    split at h
    · rename_i c
      obtain ⟨c1, c2, c3, c4, c5, rfl, c6⟩ := c
      obtain ⟨a, ha, h⟩ := Option.bind_eq_some_iff.mp h
      obtain ⟨b, hb, h⟩ := Option.map_eq_some_iff.mp h
      subst h
      refine pix_down ?_ c5 (gloN_ok g c1).1 (g.bns _ c2) (F _ _ ha).1 (F _ _ hb).1 c3 c4
      unfold isM1 at c6
      split at c6
      · exact px_neg (px_cst pe_int (fun _ => rfl) fun _ => trivial)
      · cases c6
    · split at h
      · rename_i c
        obtain ⟨c1, c2, c3, c4, c5, rfl, c6⟩ := c
        obtain ⟨a, ha, h⟩ := Option.bind_eq_some_iff.mp h
        obtain ⟨b, hb, h⟩ := Option.bind_eq_some_iff.mp h
        obtain ⟨d, hd, h⟩ := Option.map_eq_some_iff.mp h
        subst h
        cases tg with
        | Tuple elts kk tp => exact pix_zip3 g.K (gloN_ok g c1).1 (g.bns _ c2) (F _ _ ha).1 (F _ _ hb).1 (F _ _ hd).1 c3 c4 c5
        | _ => cases c6
      · exact sq h
  · exact sq h
/-- a comprehension's context -/
theorem Cg.blk (g : Cg X G C T k S) {s : Shared} {H : Hp} {scope : Scope} {D : Addr} {cl : List (Str × Addr)} {fp : List Addr} (hk : scope.kind = .function) : Cg (X.blk s H scope (compEnvC scope cl D X.env) fp) G C T k (S.blk scope) where
  N := g.N
  nd := g.nd
  sc := by
    show relS scope X.env.scope = relS scope S.sc
    rw [g.sc]
  fn := fun x z => z
  kind := hk
  calm := g.calm
  gd := g.gd
  room := g.room
  K := g.K
  defs := fun x q n h => ⟨(g.defs x q n h).has⟩
  cls := fun x q n h => ⟨(g.cls x q n h).has⟩
  meths := fun m ms n h => ⟨fun c hc => ⟨((g.meths m ms n h).1 c hc).has⟩, (g.meths m ms n h).2⟩
  flds := fun c f h => ⟨(g.flds c f h).cl, (g.flds c f h).na⟩
  bns := g.bns
  gls := g.gls
end
end HI

set_option maxRecDepth 100000
set_option maxHeartbeats 4000000
/-! .. comprehensions, statements -/
namespace HI
open PySem PySem.Spec PyProof.Rows L2

section
variable {X : Cx} {G : Gd} {C : Cfg} {T : Tab} {k : Nat} {S : Sc} {pos : Pos}
theorem cIfs_ok {f : Expr → Option Ex} (F : Fo1 X G C f) {ifs : List Expr} {c : Ex} (h : cIfs f ifs = some c) : PTs X ifs (TTh G (fun e => bd (ev C c e) tru)) := by
  unfold cIfs at h
  split at h
  · cases h
    refine ⟨fun pins s σ H Q I ⟨π, e, h, b, h', S, hm, q⟩ => ?_⟩
    simp only [ev] at hm
    obtain ⟨x, h1, a1, m1⟩ := bd_ok hm
    obtain ⟨e1, e2⟩ := rt_ok a1
    subst e1 e2
    obtain ⟨e3, e4⟩ := tru_bl m1
    subst e3 e4
    exact pts_nil.run pins s σ H Q I (q π H Nx.refl S.hr trivial)
  · split at h
    · rename_i hi
      exact pts_one ((F _ _ h).2 hi)
    · cases h
  · cases h
/-- what a comprehension's compiler says -/
structure CompOk (X : Cx) (G : Gd) (C : Cfg) (S : Sc) (tg iter el : Expr) (ifs : List Expr) (scope : Scope) (own : List (Str × Nat)) (t : Tg) (ei : It) (ec ee : Ex) : Prop where
  pl : plE iter = true
  bl : BlkOk X.N X.env.scope scope own
  ho : ∀ i ∈ t.sl, i ∈ own.map (·.2)
  hi : PIh X G tg iter (evI C ei)
  hg : ∀ (s : Shared) (H : Hp) (D : Addr) (cl : List (Str × Addr)) (fp : List Addr), PG (X.blk s H scope (compEnvC scope cl D X.env) fp) tg (tgR X.K t)
  ht : ∀ (s : Shared) (H : Hp) (D : Addr) (cl : List (Str × Addr)) (fp : List Addr), PTs (X.blk s H scope (compEnvC scope cl D X.env) fp) ifs (TTh G (fun e => bd (ev C ec e) tru))
  he : ∀ (s : Shared) (H : Hp) (D : Addr) (cl : List (Str × Addr)) (fp : List Addr), PEh (X.blk s H scope (compEnvC scope cl D X.env) fp) G C el ee
theorem cComp_ok (g : Cg X G C T k S) {f : Sc → Expr → Option Ex} (F : ∀ X' S', Cg X' G C T k S' → Fo1 X' G C (f S')) {el : Expr} {gs : List Comprehension} {scope : Scope} {r : Ex} (h : cComp T S f el gs scope = some r) :
    ∃ tg iter ifs own t ei ec ee, gs = [⟨tg, iter, ifs, 0⟩] ∧ r = .comp (own.map (·.2)) t ei ec ee ∧ CompOk X G C S tg iter el ifs scope own t ei ec ee := by
  unfold cComp at h
  split at h
  · rename_i tg iter ifs kk
    split at h
    · rename_i c
      obtain ⟨rfl, c2, c3⟩ := c
      obtain ⟨t, ht, h⟩ := Option.bind_eq_some_iff.mp h
      split at h
      · rename_i ho
        obtain ⟨it, hit, h⟩ := Option.bind_eq_some_iff.mp h
        obtain ⟨ec, hc, h⟩ := Option.bind_eq_some_iff.mp h
        obtain ⟨ee, he, h⟩ := Option.map_eq_some_iff.mp h
        have B : BlkOk X.N X.env.scope scope (ownOf S scope) := by
          rw [g.N, g.sc]
          exact blkOk_by c3
        refine ⟨tg, iter, ifs, ownOf S scope, t, it, ec, ee, rfl, h.symm, c2, B, fun i hi => ?_, cIt_ok g (F X S g) hit, fun s H D cl fp => ?_, fun s H D cl fp => ?_, fun s H D cl fp => ?_⟩
        · exact of_decide_eq_true (List.all_eq_true.mp ho i hi)
        · exact tg_ok (g.blk (s := s) (H := H) (D := D) (cl := cl) (fp := fp) B.kind) ht
        · exact cIfs_ok (F _ _ (g.blk (s := s) (H := H) (D := D) (cl := cl) (fp := fp) B.kind)) hc
        · exact (F _ _ (g.blk (s := s) (H := H) (D := D) (cl := cl) (fp := fp) B.kind) _ _ he).1
      · cases h
    · cases h
  · cases h
theorem cE_ok : ∀ (n : Nat) (X : Cx) (S : Sc), Cg X G C T k S → Fo1 X G C (cE T n S)
  | 0, X, S, g, e, ee, h => by cases h
  | n + 1, X, S, g, e, ee, h => by
    have F := cE_ok n X S g
    cases e with
    | Name x p =>
      have h : (match visN S x with | some i => some (.slot i) | none => if gloN S x = true then (T.gls.lookup x).map .cst else none) = some ee := h
      split at h
      · rename_i i hi
        cases h
        exact Rx.plain g (visN_ok g hi) (fun _ _ z => by cases z) (fun _ _ _ z => by cases z) fun _ _ _ _ z => by cases z
      · split at h
        · rename_i hgl
          obtain ⟨v, hv, h⟩ := Option.map_eq_some_iff.mp h
          subst h
          obtain ⟨⟨u, mu, ru⟩, q1, q2⟩ := g.gls x v hv
          exact Rx.plain g (px_cst (pe_glob (gloN_ok g hgl).1 mu ru (gloN_ok g hgl).2) q1 q2) (fun _ _ z => by cases z) (fun _ _ _ z => by cases z) fun _ _ _ _ z => by cases z
        · cases h
    | Constant c kk p =>
      obtain ⟨v, hv, h⟩ := Option.map_eq_some_iff.mp (show (cCst c).map Ex.cst = some ee from h)
      subst h
      refine Rx.plain g ?_ (fun _ _ z => by cases z) (fun _ _ _ z => by cases z) fun _ _ _ _ z => by cases z
      cases c <;> simp only [cCst] at hv <;> cases hv
      · exact px_cst pe_non (fun _ => rfl) fun _ => trivial
      · exact px_cst pe_bl (fun _ => rfl) fun _ => trivial
      · exact px_cst pe_int (fun _ => rfl) fun _ => trivial
      · exact px_cst pe_str (fun _ => rfl) fun _ => trivial
    | BinOp a op b p =>
      obtain ⟨o, ho, h⟩ := Option.bind_eq_some_iff.mp (show ((cOp op).bind fun o => (cE T n S a).bind fun ea => (cE T n S b).map fun eb => Ex.bin o ea eb) = some ee from h)
      obtain ⟨ea, ha, h⟩ := Option.bind_eq_some_iff.mp h
      obtain ⟨eb, hb, h⟩ := Option.map_eq_some_iff.mp h
      subst h
      exact Rx.plain g (px_bin (opR_of g ho) (F _ _ ha).1 (F _ _ hb).1) (fun _ _ z => by cases z) (fun _ _ _ z => by cases z) fun _ _ _ _ z => by cases z
    | UnaryOp op a p => exact cUn_ok g F (show cUn (cE T n S) op a = some ee from h)
    | BoolOp op es p =>
      obtain ⟨q1, q2⟩ := cBool_ok g F (pos := p) (show cBool (cE T n S) op es = some ee from h)
      exact ⟨q1, fun _ => q2.pt⟩
    | Compare a ops bs p => exact cCmp_ok g F (show cCmp (cE T n S) a ops bs = some ee from h)
    | IfExp c a b p =>
      have h : (if isIf c = false then (cE T n S c).bind fun ec => (cE T n S a).bind fun ea => (cE T n S b).map fun eb => Ex.ite ec ea eb else none) = some ee := h
      split at h
      · rename_i hi
        obtain ⟨ec, hc, h⟩ := Option.bind_eq_some_iff.mp h
        obtain ⟨ea, ha, h⟩ := Option.bind_eq_some_iff.mp h
        obtain ⟨eb, hb, h⟩ := Option.map_eq_some_iff.mp h
        subst h
        exact ⟨px_ite ((F _ _ hc).2 hi) (F _ _ ha).1 (F _ _ hb).1, fun z => by cases z⟩
      · cases h
    | Tuple es kk p =>
      obtain ⟨aa, ha, h⟩ := Option.map_eq_some_iff.mp (show (cEs (cE T n S) es).map Ex.tup = some ee from h)
      subst h
      exact Rx.plain g (px_tup (cEs_ok F ha).1) (fun _ _ z => by cases z) (fun _ _ _ z => by cases z) fun _ _ _ _ z => by cases z
    | List es p =>
      obtain ⟨aa, ha, h⟩ := Option.map_eq_some_iff.mp (show (cEs (cE T n S) es).map Ex.lst = some ee from h)
      subst h
      exact Rx.plain g (px_lst (cEs_ok F ha).1) (fun _ _ z => by cases z) (fun _ _ _ z => by cases z) fun _ _ _ _ z => by cases z
    | Subscript a i p =>
      exact Rx.plain g (cSub_ok g F (show cSub (cE T n S) a i = some ee from h)) (fun _ _ z => by cases z) (fun _ _ _ z => by cases z) fun _ _ _ _ z => by cases z
    | Call fn es kws p =>
      have h : (if kws.length = 0 then cCall T S (cE T n S) fn es p else none) = some ee := h
      split at h
      · rename_i hk
        obtain rfl := List.length_eq_zero_iff.mp hk
        exact Rx.plain g (cCall_ok g F h) (fun _ _ z => by cases z) (fun _ _ _ z => by cases z) fun _ _ _ _ z => by cases z
      · cases h
    | Attribute o x p =>
      have h : (if plE o = true then (cE T n S o).map fun eo => Ex.fld eo x else none) = some ee := h
      split at h
      · rename_i hp
        obtain ⟨eo, ho, h⟩ := Option.map_eq_some_iff.mp h
        subst h
        exact Rx.plain g (px_fld (fun c => g.flds c x) (F _ _ ho).1 hp) (fun _ _ z => by cases z) (fun _ _ _ z => by cases z) fun _ _ _ _ z => by cases z
      · cases h
    | ListComp el gs scope p =>
      obtain ⟨tg, iter, ifs, own, t, ei, ec, e2, rfl, rfl, K⟩ := cComp_ok g (fun X' S' g' => cE_ok n X' S' g') (show cComp T S (cE T n) el gs scope = some ee from h)
      exact Rx.plain g (px_comp g.K g.calm g.nd K.hi K.bl K.pl K.ho K.hg K.ht K.he) (fun _ _ z => by cases z) (fun _ _ _ z => by cases z) fun _ _ _ _ z => by cases z
    | _ => cases h
end

/-! ### statements -/
/-- is a comprehension stored at a name a store of its own -/
def swD (S : Sc) (x : Str) (px lp : Pos) (scope : Scope) : Bool := kd S x == some .local && px.line == lp.line && !(scope.names.any fun (n, k) => n == x && (k == .local || k == .cell))
def noStar : Expr → Bool
  | .Starred .. => false
  | _ => true
/-- names stored at once -/
def cPar (S : Sc) (ts vs : List Expr) : Option (List Nat) := match ts, vs with
  | [.Name x px, .Name y py], [a, b] =>
    if kd S x = some .local ∧ kd S y = some .local ∧ px.line = py.line ∧ x ≠ y ∧ noStar a = true ∧ noStar b = true ∧ (foldedForSure 8 a && foldedForSure 8 b) = false ∧ (constantsAlone 8 a && constantsAlone 8 b) = false then
      (slotN S x).bind fun i => (slotN S y).bind fun j => if i ≠ j then some [i, j] else none
    else none
  | [.Name x px, .Name y py, .Name z pz], [a, b, c] =>
    if kd S x = some .local ∧ kd S y = some .local ∧ kd S z = some .local ∧ px.line = py.line ∧ px.line = pz.line ∧ x ≠ y ∧ x ≠ z ∧ y ≠ z ∧ noStar a = true ∧ noStar b = true ∧ noStar c = true ∧
        (foldedForSure 8 a && (foldedForSure 8 b && foldedForSure 8 c)) = false ∧ (constantsAlone 8 a && (constantsAlone 8 b && constantsAlone 8 c)) = false then
      (slotN S x).bind fun i => (slotN S y).bind fun j => (slotN S z).bind fun l => if i ≠ j ∧ i ≠ l ∧ j ≠ l then some [i, j, l] else none
    else none
  | _, _ => none
/-- .. not at once: all constants, or too many -/
def notPar (ts vs : List Expr) : Bool := decide (3 < ts.length) || vs.all (foldedForSure 8)
/-- names of which one is not of this block alone -/
def oneCell (S : Sc) (ts : List Expr) : Bool := ts.any fun e => match e with | .Name x _ => !(decide (kd S x = some .local)) | _ => false

def cAsgN (S : Sc) (f : Expr → Option Ex) (x : Str) (px : Pos) (a : Expr) : Option Sm :=
  if plE a = true ∧ isLc a = false then (stoN S x).bind fun i => (f a).map fun ea => .asg (.nm i) ea else none
def cAsgC (T : Tab) (S : Sc) (f : Sc → Expr → Option Ex) (x : Str) (px : Pos) (el : Expr) (gs : List Comprehension) (scope : Scope) (lp : Pos) : Option Sm :=
  (stoN S x).bind fun i => if swD S x px lp scope = true then (cComp T S f el gs scope).map fun e => .asg (.nm i) e else (f S (.ListComp el gs scope lp)).map fun e => .asg (.nm i) e
def cAsgT (S : Sc) (f : Expr → Option Ex) (ts : List Expr) (a : Expr) : Option Sm := match a with
  | .Tuple vs _ _ => match cPar S ts vs with
    | some is => (cEs f vs).map fun es => .par is es
    | none => if (notPar ts vs = true ∨ oneCell S ts = true) ∧ vs.length < 30 then (cNames S ts).bind fun is => (cEs f vs).map fun es => .par is es else if notPar ts vs = true then (cNames S ts).bind fun is => (f a).map fun ea => .asg (.tp is) ea else none
  | _ => (cNames S ts).bind fun is => (f a).map fun ea => .asg (.tp is) ea
def isSl : Expr → Bool
  | .Slice .. => true
  | _ => false
def cAsg (T : Tab) (S : Sc) (f : Sc → Expr → Option Ex) (t a : Expr) : Option Sm := match t with
  | .Name x px => match a with
    | .ListComp el gs scope lp => cAsgC T S f x px el gs scope lp
    | a => cAsgN S (f S) x px a
  | .Tuple ts _ _ => cAsgT S (f S) ts a
  | .Subscript o i _ => if plE a = true ∧ isLc a = false ∧ plE i = true then (f S a).bind fun ea => (f S o).bind fun eo => (f S i).map fun ei => .asgSub eo ei ea else none
  | .Attribute o x _ => if plE a = true ∧ isLc a = false then (f S o).bind fun eo => (f S a).map fun ea => .asgFld eo x ea else none
  | _ => none
def augOp : Operator → Option Op2
  | .Add => some .add
  | .Sub => some .sub
  | .Mult => some .mul
  | _ => none
def cAug (S : Sc) (f : Expr → Option Ex) (t : Expr) (op : Operator) (a : Expr) : Option Sm := match t with
  | .Name x _ => (augOp op).bind fun o => (stoN S x).bind fun i => (f a).map fun ea => .aug i o ea
  | .Subscript o i _ => if plE i = true then (augOp op).bind fun oo => (f o).bind fun eo => (f i).bind fun ei => (f a).map fun ea => .augSub eo ei oo ea else none
  | _ => none
def cSs (f : Stmt → Option Sm) : List Stmt → Option Sms
  | [] => some .nil
  | s :: r => (f s).bind fun a => (cSs f r).map fun b => .cons a b
def cS (T : Tab) : Nat → Sc → Stmt → Option Sm
  | 0, _, _ => none
  | n + 1, S, s => match s with
    | .Assign [t] a _ => cAsg T S (cE T n) t a
    | .AugAssign t op a _ => cAug S (cE T n S) t op a
    | .For tg iter b els _ => if els.length = 0 ∧ plE iter = true then (cTg S tg).bind fun t => (cIt T S (cE T n S) tg iter).bind fun it => (cSs (cS T n S) b).map fun bb => .for_ t it bb else none
    | .While c b els _ => if els.length = 0 ∧ isIf c = false then (cE T n S c).bind fun ec => (cSs (cS T n S) b).map fun bb => .while_ 1000000000 ec bb else none
    | .If c a b _ => if isIf c = false then (cE T n S c).bind fun ec => (cSs (cS T n S) a).bind fun aa => (cSs (cS T n S) b).map fun bb => .ite ec aa bb else none
    | .Return none _ => some (.ret (.cst .non))
    | .Return (some a) _ => (cE T n S a).map .ret
    | .Expr a _ => if plE a = true ∧ isLc a = false then (cE T n S a).map .ex else none
    | .Break _ => some .brk
    | .Continue _ => some .cont
    | .Pass _ => some .pass
    | .Raise .. => some .never
    | _ => none
end HI

set_option maxRecDepth 100000
set_option maxHeartbeats 4000000
/-! .. statements: it says what the text says -/
namespace HI
open PySem PySem.Spec PyProof.Rows L2

section
variable {X : Cx} {G : Gd} {C : Cfg} {T : Tab} {k : Nat} {S : Sc} {pos : Pos}
/-- a while -/
theorem psx_while (hx : X.xe = fun _ _ => False) {c : Expr} {ec : Ex} {b : List Stmt} {bb : Sms} {n : Nat} (hc : PTh X G C c ec) (hb : PSsh X G C b bb) : PSh X G C (.While c b [] pos) (.while_ n ec bb) := by
  have own : PassesOwn (model X.prog X.w) X.A X.env X.xe := by rw [hx]; exact PassesOwn.never
  refine ps_of (ps_while own hc hb) fun D σ H ⟨π, e, h, f, h', S, hm, q⟩ => ?_
  simp only [ex] at hm
  refine ⟨fun m σ H => ∃ π1 e1 h1, Nx π h π1 h1 ∧ Sx G σ H π1 e1 h1 ∧ whileGo (fun e => evT C ec e) (fun e => exs C bb e) m e1 h1 = some (.ok f, h'), ⟨n, π, e, h, Nx.refl, S, hm⟩, ?_⟩
  rintro m σ2 H2 ⟨π2, e2, h2, N2, S2, g2⟩
  cases m with
  | zero => exact (no_ok g2).elim
  | succ m =>
    obtain ⟨kk, h3, a1, m1⟩ := bd_ok (show bd (evT C ec e2) _ h2 = _ from g2)
    refine goT S2 a1 fun π3 H3 N3 S3 _ => ?_
    cases kk with
    | false =>
      rw [if_neg Bool.false_ne_true]
      obtain ⟨r1, r2⟩ := rt_ok m1
      subst r1 r2
      have z := q π3 H3 (N2.trans N3) S3.hr S3.we
      rw [← S3.sl] at z
      exact z
    | true =>
      rw [if_pos rfl]
      obtain ⟨g, h5, b3, c3⟩ := bd_ok m1
      refine ⟨fun σ H => ∃ π1 e1 h1, Nx π h π1 h1 ∧ Sx G σ H π1 e1 h1 ∧ whileGo (fun e => evT C ec e) (fun e => exs C bb e) m e1 h1 = some (.ok f, h'), fun _ _ z => ⟨m, Nat.lt_succ_self m, z⟩, ?_⟩
      refine ⟨π3, e2, h3, g, h5, S3, b3, fun π5 H5 N5 R5 => ?_⟩
      have N15 := (N2.trans N3).trans N5
      cases g with
      | nx e6 => exact fun we => ⟨π5, e6, h5, N15, ⟨rfl, we, R5⟩, c3⟩
      | ct e6 => exact fun we => ⟨π5, e6, h5, N15, ⟨rfl, we, R5⟩, c3⟩
      | bk e6 =>
        intro we
        obtain ⟨r1, r2⟩ := rt_ok c3
        subst r1 r2
        exact q π5 H5 N15 R5 we
      | rt v =>
        obtain ⟨r1, r2⟩ := rt_ok c3
        subst r1 r2
        exact q π5 H5 N15 R5
theorem par_go {G : Gd} {σ : L2.St} {H : Hp} {D : Ends} {f : Fl} {π e h h' is vs} (S : Sx G σ H π e h) (w : wfL h.length vs) (m : bd (opt (setAll is vs e)) (fun e1 => rt (Fl.nx e1)) h = some (.ok f, h'))
    (q : ∀ π' H', Nx π h π' h' → HR G π' h' H' → Fo D π' h'.length H' f) : gNames is (imL π vs) σ H D.nx := by
  obtain ⟨e1, h2, a1, m1⟩ := bd_ok m
  obtain ⟨a2, r2⟩ := opt_ok a1
  obtain ⟨r3, r4⟩ := rt_ok m1
  subst r2 r3 r4
  rw [S.sl]
  exact setAll_ok a2 S.we w fun we => q π H Nx.refl S.hr we
theorem cPar_ok (g : Cg X G C T k S) {ts vs : List Expr} {is : List Nat} {es : Exs} {kt k2 : Nat} {pt pt2 : Pos} (h : cPar S ts vs = some is) (ha : PAh X G C vs es) : PSh X G C (.Assign [.Tuple ts kt pt] (.Tuple vs k2 pt2) pos) (.par is es) := by
  have hb : X.env.blockKind = .function := by unfold Env.blockKind; rw [g.kind]; rfl
  have kk : ∀ x, kd S x = some .local → X.env.kindOf x = some .local := fun x e => by
    show X.env.scope.names.lookup x = _
    rw [g.sc]; exact e
  unfold cPar at h
  split at h
  · rename_i x px y py a b
    split at h
    · rename_i c
      obtain ⟨c1, c2, c3, c4, c5, c6, c7, c8⟩ := c
      obtain ⟨i, hi, h⟩ := Option.bind_eq_some_iff.mp h
      obtain ⟨j, hj, h⟩ := Option.bind_eq_some_iff.mp h
      split at h
      · rename_i hij
        cases h
        have hx := kk x c1
        have hy := kk y c2
        have hw : swappedStores [.Tuple [.Name x px, .Name y py] kt pt] (.Tuple [a, b] k2 pt2) X.env = pure (some [x, y]) := by
          unfold swappedStores
          simp only [hb, hx, hy, List.any_cons, List.any_nil, List.all_cons, List.all_nil, c7, c8, Bool.and_true, List.filterMap_cons, List.filterMap_nil, List.head?_cons, Option.map_some, Option.getD_some, Expr.pos, c3, List.length_cons, List.length_nil]
          simp [List.eraseDups_cons, Ne.symm c4, c4]
          intro hz
          exfalso
          rcases hz with hz | hz
          · cases a <;> first | exact absurd hz Bool.false_ne_true | exact absurd c5 Bool.false_ne_true
          · cases b <;> first | exact absurd hz Bool.false_ne_true | exact absurd c6 Bool.false_ne_true
        refine ps_of (ps_par g.calm g.nd (slotN_ok g hi) (slotN_ok g hj) hij hx hy ha hw) fun D σ H ⟨π, e, h, f, h', S, hm, q⟩ => ?_
        simp only [ex] at hm
        obtain ⟨ws, h1, a1, m1⟩ := bd_ok hm
        refine goA S a1 fun π1 H1 N1 S1 w1 => ?_
        have z := par_go S1 w1 m1 fun π2 H2 N2 R2 => q π2 H2 (N1.trans N2) R2
        obtain ⟨v, r, e1, v2, r2, e2, e3, z⟩ := z
        exact ⟨v, v2, by rw [e1, e2, e3], z⟩
      · cases h
    · cases h
  · rename_i x px y py z pz a b c
    split at h
    · rename_i cc
      obtain ⟨c1, c2, c3, c4, c5, c6, c7, c8, c9, c10, c11, c12, c13⟩ := cc
      obtain ⟨i, hi, h⟩ := Option.bind_eq_some_iff.mp h
      obtain ⟨j, hj, h⟩ := Option.bind_eq_some_iff.mp h
      obtain ⟨l, hl, h⟩ := Option.bind_eq_some_iff.mp h
      split at h
      · rename_i hij
        cases h
        have hx := kk x c1
        have hy := kk y c2
        have hz := kk z c3
        have hw : swappedStores [.Tuple [.Name x px, .Name y py, .Name z pz] kt pt] (.Tuple [a, b, c] k2 pt2) X.env = pure (some [x, y, z]) := by
          unfold swappedStores
          simp only [hb, hx, hy, hz, List.any_cons, List.any_nil, List.all_cons, List.all_nil, c12, c13, Bool.and_true, List.filterMap_cons, List.filterMap_nil, List.head?_cons, Option.map_some, Option.getD_some, Expr.pos, ← c4, ← c5, List.length_cons, List.length_nil]
          simp [List.eraseDups_cons, Ne.symm c6, c6, Ne.symm c7, c7, Ne.symm c8, c8]
          intro hz
          exfalso
          rcases hz with hz | hz | hz
          · cases a <;> first | exact absurd hz Bool.false_ne_true | exact absurd c9 Bool.false_ne_true
          · cases b <;> first | exact absurd hz Bool.false_ne_true | exact absurd c10 Bool.false_ne_true
          · cases c <;> first | exact absurd hz Bool.false_ne_true | exact absurd c11 Bool.false_ne_true
        refine ps_of (ps_par3 g.calm g.nd (slotN_ok g hi) (slotN_ok g hj) (slotN_ok g hl) hij.1 hij.2.1 hij.2.2 hx hy hz ha hw) fun D σ H ⟨π, e, h, f, h', S, hm, q⟩ => ?_
        simp only [ex] at hm
        obtain ⟨ws, h1, a1, m1⟩ := bd_ok hm
        refine goA S a1 fun π1 H1 N1 S1 w1 => ?_
        have z := par_go S1 w1 m1 fun π2 H2 N2 R2 => q π2 H2 (N1.trans N2) R2
        obtain ⟨v, r, e1, v2, r2, e2, v3, r3, e3, e4, z⟩ := z
        exact ⟨v, v2, v3, by rw [e1, e2, e3, e4], z⟩
      · cases h
    · cases h
  · cases h
theorem swT_false (g : Cg X G C T k S) {ts : List Expr} {kt : Nat} {pt : Pos} {a : Expr} {l : Nat} : swapsWithSole [.Tuple ts kt pt] a l X.env = pure false := by
  unfold swapsWithSole swapsWith
  cases a <;> rfl
theorem names_names {S : Sc} : ∀ {ts : List Expr} {is : List Nat}, cNames S ts = some is → is.length = ts.length
  | [], is, h => by cases h; rfl
  | e :: r, is, h => by
    cases e with
    | Name x p =>
      obtain ⟨i, hi, h⟩ := Option.bind_eq_some_iff.mp (show ((stoN S x).bind fun i => (cNames S r).map (i :: ·)) = some is from h)
      obtain ⟨js, hj, h⟩ := Option.map_eq_some_iff.mp h
      subst h
      exact congrArg (· + 1) (names_names hj)
    | _ => cases h
theorem HR.more {G : Gd} {π : Nat → Addr} {h : Hh} {H : Hp} {p : Addr} {o : HO} (R : HR G π h H) (hd : H p = none) : HR G π h (upd H p o) :=
  ⟨fun i ob e => (R.ob i ob e).move (R.wo i ob e) (fun _ _ => rfl) fun u hu => by rw [upd_ne (ne_of_none hu hd)]; exact hu, R.wo, R.inj⟩
/-- names stored by way of a tuple -/
theorem psx_parT (g : Cg X G C T k S) {ts vs : List Expr} {is : List Nat} {es : Exs} {kt k2 : Nat} {pt pt2 : Pos} (hi : cNames S ts = some is) (ha : PAh X G C vs es) (hl : vs.length < 30) (he : es.len = vs.length)
    (hw : swappedStores [.Tuple ts kt pt] (.Tuple vs k2 pt2) X.env = pure none) : PSh X G C (.Assign [.Tuple ts kt pt] (.Tuple vs k2 pt2) pos) (.par is es) := by
  obtain ⟨q1, q2, q3⟩ := names_ok g hi
  refine ps_of (ps_asg (pe_tup ha) (pg_tup g.calm q1 q2 q3) (swT_false g) hw rfl) fun D σ H ⟨π, e, h, f, h', S, hm, q⟩ => ?_
  simp only [ex] at hm
  obtain ⟨ws, h1, a1, m1⟩ := bd_ok hm
  refine goA S a1 fun π1 H1 N1 S1 w1 => ⟨?_, fun p hp => ?_⟩
  · rw [imL_len, evs_length es a1, he]
    have : (30 : Nat) ≤ sizeLine := by decide
    omega
  · have S2 : Sx G σ (upd H1 p (.tup (imL π1 ws))) π1 e h1 := ⟨S1.sl, S1.we, S1.hr.more hp⟩
    have z := par_go S2 w1 m1 fun π2 H2 N2 R2 => q π2 H2 (N1.trans N2) R2
    have hlen : ws.length = is.length := by
      obtain ⟨e1, h2, a2, m2⟩ := bd_ok m1
      obtain ⟨a3, _⟩ := opt_ok a2
      exact (setAll_len a3).symm
    exact ⟨p, imL π1 ws, rfl, .inl (.inl upd_same), by rw [imL_len]; exact hlen, z⟩
theorem oneCell_none {ts vs : List Expr} {kt k2 : Nat} {pt pt2 : Pos} (g : Cg X G C T k S) (h : oneCell S ts = true) : swappedStores [.Tuple ts kt pt] (.Tuple vs k2 pt2) X.env = pure none := by
  have hlt : ∀ (l : Nat) (ts : List Expr), oneCell S ts = true → (ts.filterMap fun e => match e with | .Name id pos => if X.env.kindOf id == some .local && pos.line == l then some id else none | _ => none).length < ts.length := by
    intro l ts
    induction ts with
    | nil => intro h; cases h
    | cons e r ih =>
      intro h
      unfold oneCell at h
      rw [List.any_cons] at h
      rw [List.filterMap_cons]
      have le := List.length_filterMap_le (fun e => match e with | .Name id pos => if X.env.kindOf id == some .local && pos.line == l then some id else none | _ => none) r
      rw [Bool.or_eq_true] at h
      rcases h with h | h
      · have : (match e with | .Name id pos => if X.env.kindOf id == some .local && pos.line == l then some id else none | _ => none) = none := by
          cases e with
          | Name x p =>
            have h : (!(decide (kd S x = some .local))) = true := h
            have hk : X.env.kindOf x ≠ some .local := by
              show X.env.scope.names.lookup x ≠ _
              rw [g.sc]
              exact (show ¬ kd S x = some .local from by simpa using h)
            have : (X.env.kindOf x == some .local) = false := beq_eq_false_iff_ne.mpr hk
            simp only [this, Bool.false_and, Bool.false_eq_true, if_false]
          | _ => rfl
        rw [this]
        exact Nat.lt_succ_of_le le
      · have := ih h
        split
        · exact Nat.lt_succ_of_lt this
        · exact Nat.succ_lt_succ this
  unfold swappedStores
  have e1 := hlt ((ts.head?.map (·.pos.line)).getD 0) ts h
  dsimp only
  split
  · rfl
  · split
    · rfl
    · rw [if_pos]
      rw [Bool.or_eq_true]
      exact .inl (by rw [bne_iff_ne]; exact Nat.ne_of_lt e1)
theorem notPar_none {ts vs : List Expr} {kt k2 : Nat} {pt pt2 : Pos} (hn : notPar ts vs = true) : swappedStores [.Tuple ts kt pt] (.Tuple vs k2 pt2) X.env = pure none := by
  unfold notPar at hn
  rw [Bool.or_eq_true] at hn
  unfold swappedStores
  rcases hn with hn | hn
  · have hn : 3 < ts.length := of_decide_eq_true hn
    have e1 : (ts.length == 2 || ts.length == 3) = false := by
      rw [Bool.or_eq_false_iff]
      exact ⟨beq_eq_false_iff_ne.mpr (by omega), beq_eq_false_iff_ne.mpr (by omega)⟩
    simp only [e1, Bool.not_false, Bool.true_or, if_true, pure_bind]
  · simp only [hn, if_true]
    split
    · rfl
    · split
      · rfl
      · split
        · rfl
        · rfl
theorem sole (e : Expr) (he : ∀ a b, e ≠ .Starred a b) : True := trivial
theorem cAsgT_ok (g : Cg X G C T k S) {f : Expr → Option Ex} (F : Fo1 X G C f) {ts : List Expr} {a : Expr} {kt : Nat} {pt : Pos} {r : Sm} (h : cAsgT S f ts a = some r) : PSh X G C (.Assign [.Tuple ts kt pt] a pos) r := by
  have nrm : ∀ {r : Sm}, swappedStores [.Tuple ts kt pt] a X.env = pure none → ((cNames S ts).bind fun is => (f a).map fun ea => Sm.asg (.tp is) ea) = some r → PSh X G C (.Assign [.Tuple ts kt pt] a pos) r := by
    intro r hw h
    obtain ⟨is, hi, h⟩ := Option.bind_eq_some_iff.mp h
    obtain ⟨ea, ha, h⟩ := Option.map_eq_some_iff.mp h
    subst h
    obtain ⟨q1, q2, q3⟩ := names_ok g hi
    exact psx_asg g.K (F _ _ ha).1 (pg_tup g.calm q1 q2 q3) (swT_false g) hw rfl
  unfold cAsgT at h
  split at h
  · rename_i vs k2 p2
    split at h
    · rename_i is hp
      obtain ⟨es, he, h⟩ := Option.map_eq_some_iff.mp h
      subst h
      exact cPar_ok g hp (cEs_ok F he).1
    · split at h
      · rename_i hc
        obtain ⟨is, hi, h⟩ := Option.bind_eq_some_iff.mp h
        obtain ⟨es, he, h⟩ := Option.map_eq_some_iff.mp h
        subst h
        obtain ⟨z1, _, z3⟩ := cEs_ok F he
        exact psx_parT g hi z1 hc.2 z3 (hc.1.elim notPar_none (oneCell_none g))
      · split at h
        · rename_i hn
          exact nrm (notPar_none hn) h
        · cases h
  · rename_i hnt
    refine nrm ?_ h
    unfold swappedStores
    cases a <;> first | rfl | exact absurd rfl (hnt _ _ _)
theorem swLc {env : Env} (hk : env.scope.kind = .function) {el : Expr} {gs : List Comprehension} {scope : Scope} {lp px : Pos} {x : Str} {l : Nat} (hs : env.scope = S.sc) :
    swapsWith (.ListComp el gs scope lp) (some (.Name x px)) l env = pure (swD S x px lp scope) := by
  have hb : env.blockKind = .function := by unfold Env.blockKind; rw [hk]; rfl
  have e : env.kindOf x = kd S x := by
    show env.scope.names.lookup x = _
    rw [hs]; rfl
  unfold swapsWith swD
  simp only [hb, e, Expr.pos]
  rfl
theorem isLc_ne {a : Expr} (h : isLc a = false) : ∀ w x y z, a ≠ .ListComp w x y z := fun w x y z e => by subst e; cases h
theorem asgSub_at {o i : Expr} {p : Pos} (h : plE i = true) : ∀ v, assign (.Subscript o i p) X.env v = (do
      let ov ← holding [v] (eval o X.env)
      let iv ← holding [v, ov] (eval i X.env)
      standAt p
      holding [v, ov, iv] (setItem ov iv v)
      release [v, ov, iv] []) := by
  intro v
  cases i <;> first | rfl | cases h
theorem augSub_at {i : Expr} (h : plE i = true) : ∀ ov iv new, augStore i ov iv new = (do holding [new, ov, iv] (setItem ov iv new); release [new, ov, iv] []; pure .next) := by
  intro ov iv new
  cases i <;> first | rfl | cases h
theorem cAsg_ok (g : Cg X G C T k S) {n : Nat} {t a : Expr} {r : Sm} (h : cAsg T S (cE T n) t a = some r) : PSh X G C (.Assign [t] a pos) r := by
  have F : Fo1 X G C (cE T n S) := cE_ok n X S g
  unfold cAsg at h
  split at h
  · split at h
    · rename_i x px _ el gs scope lp
      unfold cAsgC at h
      obtain ⟨i, hi, h⟩ := Option.bind_eq_some_iff.mp h
      obtain ⟨q1, q2, q3⟩ := stoN_ok g hi
      have sw := swLc (env := X.env) (S := S) (el := el) (gs := gs) (scope := scope) (lp := lp) (px := px) (x := x) (l := pos.line) g.kind g.sc
      split at h
      · rename_i hs
        obtain ⟨ee, he, h⟩ := Option.map_eq_some_iff.mp h
        subst h
        obtain ⟨tg, iter, ifs, own, t, ei, ec, e2, rfl, rfl, K⟩ := cComp_ok g (fun X' S' g' => cE_ok n X' S' g') he
        rw [hs] at sw
        have hl : X.env.scope.names.lookup x = some .local := by
          unfold swD at hs
          rw [Bool.and_eq_true, Bool.and_eq_true] at hs
          rw [g.sc]
          exact eq_of_beq hs.1.1
        exact psx_setc g.K (ps_comp g.K g.calm g.nd q1 hl sw K.hi K.bl K.pl K.ho K.hg K.ht K.he)
      · rename_i hs
        obtain ⟨ea, ha, h⟩ := Option.map_eq_some_iff.mp h
        subst h
        rw [Bool.not_eq_true] at hs
        rw [hs] at sw
        exact psx_set g.K g.nd q1 q2 (F _ _ ha).1 sw q3
    · unfold cAsgN at h
      split at h
      · rename_i c
        obtain ⟨i, hi, h⟩ := Option.bind_eq_some_iff.mp h
        obtain ⟨ea, ha, h⟩ := Option.map_eq_some_iff.mp h
        subst h
        obtain ⟨q1, q2, q3⟩ := stoN_ok g hi
        exact psx_set g.K g.nd q1 q2 (F _ _ ha).1 (swap_plain c.1 (isLc_ne c.2)) q3
      · cases h
  · exact cAsgT_ok g F h
  · split at h
    · rename_i c
      obtain ⟨ea, ha, h⟩ := Option.bind_eq_some_iff.mp h
      obtain ⟨eo, ho, h⟩ := Option.bind_eq_some_iff.mp h
      obtain ⟨ei, hi, h⟩ := Option.map_eq_some_iff.mp h
      subst h
      exact psx_sub (F _ _ ha).1 (F _ _ ho).1 (F _ _ hi).1 c.1 (isLc_ne c.2.1) (asgSub_at c.2.2)
    · cases h
  · split at h
    · rename_i c
      obtain ⟨eo, ho, h⟩ := Option.bind_eq_some_iff.mp h
      obtain ⟨ea, ha, h⟩ := Option.map_eq_some_iff.mp h
      subst h
      exact psx_fld (fun c => g.flds c _) (F _ _ ho).1 (F _ _ ha).1 (swap_plain c.1 (isLc_ne c.2))
    · cases h
  · cases h
theorem augOp_ok {op : Operator} {o : Op2} (h : augOp op = some o) : (op = .Add ∧ o = .add) ∨ (op = .Sub ∧ o = .sub) ∨ (op = .Mult ∧ o = .mul) := by
  cases op <;> simp only [augOp] at h <;> cases h
  · exact .inl ⟨rfl, rfl⟩
  · exact .inr (.inl ⟨rfl, rfl⟩)
  · exact .inr (.inr ⟨rfl, rfl⟩)
theorem cAug_ok (g : Cg X G C T k S) {f : Expr → Option Ex} (F : Fo1 X G C f) {t a : Expr} {op : Operator} {r : Sm} (h : cAug S f t op a = some r) : PSh X G C (.AugAssign t op a pos) r := by
  unfold cAug at h
  split at h
  · obtain ⟨o, ho, h⟩ := Option.bind_eq_some_iff.mp h
    obtain ⟨i, hi, h⟩ := Option.bind_eq_some_iff.mp h
    obtain ⟨ea, ha, h⟩ := Option.map_eq_some_iff.mp h
    subst h
    obtain ⟨q1, q2, q3⟩ := stoN_ok g hi
    exact psx_aug g.K g.nd q1 q2 (F _ _ ha).1 (augOp_ok ho) q3
  · split at h
    · rename_i hp
      obtain ⟨oo, hoo, h⟩ := Option.bind_eq_some_iff.mp h
      obtain ⟨eo, ho, h⟩ := Option.bind_eq_some_iff.mp h
      obtain ⟨ei, hi, h⟩ := Option.bind_eq_some_iff.mp h
      obtain ⟨ea, ha, h⟩ := Option.map_eq_some_iff.mp h
      subst h
      exact psx_augSub g.K (F _ _ ho).1 (F _ _ hi).1 (F _ _ ha).1 (augOp_ok hoo) (augSub_at hp)
    · cases h
  · cases h
theorem cSs_ok {f : Stmt → Option Sm} (F : ∀ s r, f s = some r → PSh X G C s r) : ∀ {ss : List Stmt} {r : Sms}, cSs f ss = some r → PSsh X G C ss r
  | [], r, h => by cases h; exact pss_nilh
  | s :: ss, r, h => by
    obtain ⟨a, ha, h⟩ := Option.bind_eq_some_iff.mp (show ((f s).bind fun a => (cSs f ss).map fun b => Sms.cons a b) = some r from h)
    obtain ⟨b, hb, h⟩ := Option.map_eq_some_iff.mp h
    subst h
    exact pss_consh (F _ _ ha) (cSs_ok F hb)
theorem cS_ok (hx : X.xe = fun _ _ => False) (g : Cg X G C T k S) : ∀ (n : Nat) (s : Stmt) (r : Sm), cS T n S s = some r → PSh X G C s r
  | 0, s, r, h => by cases h
  | n + 1, s, r, h => by
    have F : Fo1 X G C (cE T n S) := cE_ok n X S g
    have Fs : ∀ {ss : List Stmt} {r : Sms}, cSs (cS T n S) ss = some r → PSsh X G C ss r := fun h => cSs_ok (fun s r h => cS_ok hx g n s r h) h
    unfold cS at h
    split at h
    · exact cAsg_ok g h
    · exact cAug_ok g F h
    · split at h
      · rename_i c
        obtain ⟨t, ht, h⟩ := Option.bind_eq_some_iff.mp h
        obtain ⟨it, hi, h⟩ := Option.bind_eq_some_iff.mp h
        obtain ⟨bb, hb, h⟩ := Option.map_eq_some_iff.mp h
        subst h
        obtain rfl := List.length_eq_zero_iff.mp c.1
        exact psx_for g.K g.calm hx (cIt_ok g F hi) c.2 (tg_ok g ht) (Fs hb)
      · cases h
    · split at h
      · rename_i c
        obtain ⟨ec, hc, h⟩ := Option.bind_eq_some_iff.mp h
        obtain ⟨bb, hb, h⟩ := Option.map_eq_some_iff.mp h
        subst h
        obtain rfl := List.length_eq_zero_iff.mp c.1
        exact psx_while hx ((F _ _ hc).2 c.2) (Fs hb)
      · cases h
    · split at h
      · rename_i c
        obtain ⟨ec, hc, h⟩ := Option.bind_eq_some_iff.mp h
        obtain ⟨aa, ha, h⟩ := Option.bind_eq_some_iff.mp h
        obtain ⟨bb, hb, h⟩ := Option.map_eq_some_iff.mp h
        subst h
        exact psx_if ((F _ _ hc).2 c) (Fs ha) (Fs hb)
      · cases h
    · cases h; exact psx_retN
    · obtain ⟨ea, ha, h⟩ := Option.map_eq_some_iff.mp h
      subst h
      exact psx_ret (F _ _ ha).1
    · split at h
      · rename_i c
        obtain ⟨ea, ha, h⟩ := Option.map_eq_some_iff.mp h
        subst h
        exact psx_ex (F _ _ ha).1 (ps_expr (F _ _ ha).1 (swap_plain c.1 (isLc_ne c.2)))
      · cases h
    · cases h; exact psx_brk
    · cases h; exact psx_cont
    · cases h; exact psx_pass
    · cases h; exact psx_never
    · cases h
end
end HI

set_option maxRecDepth 100000
set_option maxHeartbeats 4000000
/-! defs, the law -/
namespace HI
open PySem PySem.Spec PyProof.Rows L2

structure Df where
  x : Str
  q : String
  st : Stmt
  N : List Str
  ps : List Str
  b : Sms
  own : Option Nat := none
def callD (D : List (String × Nat × Sms)) (cf : Cfg) : Nat → String → List V → Mo V
  | 0, _, _ => no
  | k + 1, q, vs => match D.lookup q with
    | some (n, b) => body { cf with call := callD D cf k } n b vs
    | none => no
def tabOf (D : List Df) : List (String × Nat × Sms) := D.map fun d => (d.q, d.N.length, d.b)
def cfOf (CT : List Ci) : Cfg := { call := fun _ _ => no, glob := fun _ => none, fld := fldOf CT, hasM := hasMOf CT, cname := cnameOf CT }
def lmT : List (Str × String × Nat) := [("append", "append", 1), ("insert", "insert", 2), ("clear", "clear", 0), ("reverse", "reverse", 0)]
def lmNames : List String := ["append", "insert", "clear", "reverse"]
def clsT : Nat → List Ci → List (Str × Nat × Nat)
  | _, [] => []
  | k, i :: r => (i.x, k, i.n) :: clsT (k + 1) r
def tab0 (D : List Df) (CT : List Ci) (mt : List (Str × String × Nat)) (bns : List Str) (gls : List (Str × V)) : Tab :=
  ⟨(D.filter fun d => d.own.isNone).map fun d => (d.x, d.q, d.ps.length), clsT 0 CT, lmT ++ mt, bns, gls⟩
theorem lmT_ok {X : Cx} {G : Gd} (h : Bs X G) {m : Str} {ms : String} {n : Nat} (e : (m, ms, n) ∈ lmT) : LMeth X G m ms := by
  have z := e
  unfold lmT at z
  simp only [List.mem_cons, Prod.mk.injEq, List.not_mem_nil, or_false] at z
  rcases z with ⟨rfl, rfl, rfl⟩ | ⟨rfl, rfl, rfl⟩ | ⟨rfl, rfl, rfl⟩ | ⟨rfl, rfl, rfl⟩
  · exact ⟨_, PySem.F.slot_list_append, PySem.F.type_list_append, mr_append⟩
  · exact ⟨_, PySem.F.slot_list_insert, PySem.F.type_list_insert, mr_insert⟩
  · exact ⟨_, PySem.F.slot_list_clear, PySem.F.type_list_clear, mr_clear⟩
  · exact ⟨_, PySem.F.slot_list_reverse, PySem.F.type_list_reverse, mr_reverse⟩
theorem lmeth_no {ms : String} (hn : lmNames.contains ms = false) (a : Nat) (vs : List V) (h : Hh) : lmeth ms a vs h = none := by
  unfold lmeth
  split
  · rfl
  · split <;> first
      | rfl
      | (exact absurd hn (by decide))
/-- where a def stands -/
def Plc (K : PySem.W.Frag) (mg : Str → Option Value) (G : Gd) (d : Df) (f : Addr) : Prop := match d.own with
  | none => mg d.x = some (.ref f) ∧ PySem.W.keepIn K (.ref f) = true
  | some c => if d.x = "__init__" then Mk K (G.cls c) f else Meth K (G.cls c) d.x f
/-- what is checked of a def, and where it stands -/
structure DfOk (K : PySem.W.Frag) (mg : Str → Option Value) (G : Gd) (T : Tab) (d : Df) : Prop where
  cmp : cSs (cS T 60 ⟨d.N, defScope d.st, fun _ => true⟩) (defBody d.st) = some d.b
  scp : FnScope d.N d.ps (defScope d.st)
  pl : ∃ (f : Addr) (fd : FuncData), Plc K mg G d f ∧ Fun K d.x d.q d.st f fd ∧ Binds K fd d.ps []
/-- the classes' facts -/
structure ClOk (K : PySem.W.Frag) (mg : Str → Option Value) (G : Gd) (CT : List Ci) : Prop where
  cl : ∀ (c : Nat) (i : Ci), CT[c]? = some i → Cls K (G.cls c) ∧ mg i.x = some (.ref (G.cls c)) ∧ ∀ f ∈ i.fs, NoAttr K (G.cls c) f
def initChk (D : List Df) (i : Ci) (c : Nat) : Bool := D.any fun d => d.q == i.name ++ ".__init__" && (d.own == some c && (decide (d.x = "__init__") && d.ps.length == i.n + 1))
def methChk (D : List Df) (i : Ci) (c : Nat) (m : Str) (ms : String) (n : Nat) : Bool := !i.ms.contains ms || D.any fun d => d.q == i.name ++ "." ++ ms && (d.own == some c && (decide (d.x = m) && (!decide (m = "__init__") && d.ps.length == n + 1)))
def clsChk (D : List Df) (mt : List (Str × String × Nat)) : Nat → List Ci → Bool
  | _, [] => true
  | c, i :: r => initChk D i c && ((lmT ++ mt).all (fun p => methChk D i c p.1 p.2.1 p.2.2) && clsChk D mt (c + 1) r)
def mtChk (mt : List (Str × String × Nat)) : Bool := mt.all fun p => !lmNames.contains p.2.1
theorem clsT_in : ∀ {CT : List Ci} {k : Nat} {x : Str} {c n : Nat}, (x, c, n) ∈ clsT k CT → ∃ i j, CT[j]? = some i ∧ c = k + j ∧ x = i.x ∧ n = i.n
  | [], k, x, c, n, h => by cases h
  | i :: r, k, x, c, n, h => by
    rcases List.mem_cons.mp h with h | h
    · cases h
      exact ⟨i, 0, rfl, rfl, rfl, rfl⟩
    · obtain ⟨i2, j, h1, h2, h3, h4⟩ := clsT_in h
      exact ⟨i2, j + 1, h1, by omega, h3, h4⟩
theorem clsChk_at {D : List Df} {mt : List (Str × String × Nat)} : ∀ {CT : List Ci} {k j : Nat} {i : Ci}, clsChk D mt k CT = true → CT[j]? = some i → initChk D i (k + j) = true ∧ ∀ p ∈ lmT ++ mt, methChk D i (k + j) p.1 p.2.1 p.2.2 = true
  | [], k, j, i, h, e => by simp at e
  | i0 :: r, k, j, i, h, e => by
    unfold clsChk at h
    rw [Bool.and_eq_true, Bool.and_eq_true] at h
    cases j with
    | zero =>
      cases e
      exact ⟨h.1, fun p hp => List.all_eq_true.mp h.2.1 p hp⟩
    | succ j =>
      have := clsChk_at h.2.2 (show r[j]? = some i from e)
      rw [show k + 1 + j = k + (j + 1) by omega] at this
      exact this
theorem tab_at {D : List Df} (nd : (D.map (·.q)).Nodup) : ∀ {d : Df}, d ∈ D → (tabOf D).lookup d.q = some (d.N.length, d.b) := by
  induction D with
  | nil => intro d h; cases h
  | cons c r ih =>
    intro d h
    have nd' : c.q ∉ r.map (·.q) ∧ (r.map (·.q)).Nodup := List.nodup_cons.mp nd
    show List.lookup d.q ((c.q, c.N.length, c.b) :: tabOf r) = _
    rw [List.lookup_cons]
    rcases List.mem_cons.mp h with rfl | h
    · rw [beq_self_eq_true]
    · have ne : (d.q == c.q) = false := beq_eq_false_iff_ne.mpr fun e => nd'.1 (by rw [← e]; exact List.mem_map_of_mem h)
      rw [ne]
      exact ih nd'.2 h
theorem fo_body {D : Ends} {b : Sms} {C : Cfg} {n : Nat} {as : List V} {h h' : Hh} {v : V} (hm : body C n b as h = some (.ok v, h')) :
    ∃ f, exs C b (as.map some ++ List.replicate (n - as.length) none) h = some (.ok f, h') ∧ ((∃ e, f = .nx e ∧ v = .non) ∨ f = .rt v) := by
  unfold body at hm
  obtain ⟨f, h1, a1, m1⟩ := bd_ok hm
  cases f with
  | nx e =>
    obtain ⟨e1, e2⟩ := rt_ok m1
    subst e1 e2
    exact ⟨_, a1, .inl ⟨e, rfl, rfl⟩⟩
  | rt u =>
    obtain ⟨e1, e2⟩ := rt_ok m1
    subst e1 e2
    exact ⟨_, a1, .inr rfl⟩
  | bk e => exact (no_ok m1).elim
  | ct e => exact (no_ok m1).elim
/-- what is told of the whole text -/
structure Tx0 (K : PySem.W.Frag) (mg : Str → Option Value) (G : Gd) (D : List Df) (CT : List Ci) (mt : List (Str × String × Nat)) (bns : List Str) (gls : List (Str × V)) : Prop where
  hK : G.K = K
  nd : (D.map (·.q)).Nodup
  ok : ∀ d ∈ D, DfOk K mg G (tab0 D CT mt bns gls) d
  cl : ClOk K mg G CT
  ck : clsChk D mt 0 CT = true
  mt : mtChk mt = true
  hb : ∀ x ∈ bns, mg x = none
  hg : ∀ x v, gls.lookup x = some v → (∃ u, mg x = some u ∧ RelV v u) ∧ (∀ π, im π v = v) ∧ ∀ n, wf n v
theorem def_one {P : Program} {w : World} {K : PySem.W.Frag} {mg : Str → Option Value} {base : Heap} {D : List Df} {CT : List Ci} {mt : List (Str × String × Nat)} {bns : List Str} {gls : List (Str × V)} {G : Gd} (Z : Tx0 K mg G D CT mt bns gls) (j : Nat)
    (ih : ∀ d : Df, d ∈ D → ∃ (f : Addr) (fd : FuncData), Plc K mg G d f ∧ Binds K fd d.ps [] ∧ FnG P w K mg base CX0 (2 * j) f fd d.ps (spH G d.ps.length (callD (tabOf D) (cfOf CT) j d.q)))
    {d : Df} (hd : d ∈ D) (cmp : cSs (cS (tab0 D CT mt bns gls) 60 ⟨d.N, defScope d.st, fun _ => true⟩) (defBody d.st) = some d.b) (scp : FnScope d.N d.ps (defScope d.st)) {f : Addr} {fd : FuncData} (F : Fun K d.x d.q d.st f fd) :
    FnG P w K mg base CX0 (2 * j + 1 + 1) f fd d.ps (spH G d.ps.length (callD (tabOf D) (cfOf CT) (j + 1) d.q)) := by
  refine (fnG_of (k := 2 * j + 1) F scp (fun vs H Q E ⟨π, h, as, v, h', e1, e2, _⟩ => by rw [e1, imL_len, e2]) ?_)
  intro cdv A outer s H vs Q E hg hr ⟨π, h, as, v, h', e1, e2, e3, R, e, q⟩
  let C : Cfg := { cfOf CT with call := callD (tabOf D) (cfOf CT) j }
  have g : Cg (cxOf CX0 P w K mg base d.N d.q (defScope d.st) f cdv A outer s H E).nox G C (tab0 D CT mt bns gls) (2 * j) ⟨d.N, defScope d.st, fun _ => true⟩ := by
    refine ⟨rfl, scp.nd, rfl, fun _ _ => rfl, scp.kind, rfl, hg, hr, Z.hK.symm, ?_, ?_, ?_, ?_, Z.hb, Z.hg⟩
    · intro x qq n hl
      have m := lookup_in hl
      obtain ⟨d2, hd2, e⟩ := List.mem_map.mp m
      cases e
      obtain ⟨hd2, ho⟩ := List.mem_filter.mp hd2
      obtain ⟨f2, fd2, k1, k3, k4⟩ := ih d2 hd2
      have ho : d2.own = none := by simpa using ho
      unfold Plc at k1
      rw [ho] at k1
      exact ⟨f2, fd2, d2.ps, k1.1, k1.2, k3, k4⟩
    · intro x c n hl
      obtain ⟨i, jj, h1, h2, rfl, rfl⟩ := clsT_in (lookup_in hl)
      obtain rfl : c = jj := by omega
      obtain ⟨ck, _⟩ := clsChk_at Z.ck h1
      unfold initChk at ck
      obtain ⟨d2, hd2, ck⟩ := List.any_eq_true.mp ck
      simp only [Bool.and_eq_true, beq_iff_eq, decide_eq_true_eq] at ck
      obtain ⟨q1, q2, q3, q4⟩ := ck
      rw [Nat.zero_add] at q2
      obtain ⟨f2, fd2, k1, k3, k4⟩ := ih d2 hd2
      unfold Plc at k1
      rw [q2] at k1
      dsimp only at k1
      rw [if_pos q3] at k1
      refine ⟨f2, fd2, d2.ps, (Z.cl.cl c i h1).2.1, k1, k3, ?_⟩
      have en : C.cname c = i.name := by
        show cnameOf CT c = _
        unfold cnameOf
        rw [h1]
      rw [en, ← q1, ← q4]
      exact k4
    · intro m ms n hl
      have hm := lookup_in hl
      refine ⟨fun c hc => ?_, ?_⟩
      · have hc : hasMOf CT c ms = true := hc
        unfold hasMOf at hc
        split at hc
        · rename_i i hi
          obtain ⟨_, ck⟩ := clsChk_at Z.ck hi
          have ck := ck _ hm
          unfold methChk at ck
          rw [hc, Bool.not_true, Bool.false_or] at ck
          obtain ⟨d2, hd2, ck⟩ := List.any_eq_true.mp ck
          simp only [Bool.and_eq_true, beq_iff_eq, decide_eq_true_eq, Bool.not_eq_true', decide_eq_false_iff_not] at ck
          obtain ⟨q1, q2, q3, q4, q5⟩ := ck
          rw [Nat.zero_add] at q2
          obtain ⟨f2, fd2, k1, k3, k4⟩ := ih d2 hd2
          unfold Plc at k1
          rw [q2] at k1
          dsimp only at k1
          rw [q3, if_neg q4] at k1
          refine ⟨f2, fd2, d2.ps, (Z.cl.cl c i hi).1, k1, k3, ?_⟩
          have en : C.cname c = i.name := by
            show cnameOf CT c = _
            unfold cnameOf
            rw [hi]
          rw [en, ← q1, ← q5]
          exact k4
        · cases hc
      · rcases List.mem_append.mp hm with hm | hm
        · exact .inl fun X' B => lmT_ok B hm
        · refine .inr fun a vs h => lmeth_no ?_ a vs h
          have := List.all_eq_true.mp Z.mt _ hm
          simpa using this
    · intro c f hc
      have hc : fldOf CT c f = true := hc
      unfold fldOf at hc
      split at hc
      · rename_i i hi
        obtain ⟨z1, _, z3⟩ := Z.cl.cl c i hi
        exact ⟨z1, z3 f (by simpa using hc)⟩
      · cases hc
  have p := cSs_ok (fun s r h => cS_ok rfl g 60 s r h) cmp
  refine ⟨_, p.nox, ?_⟩
  have hc : callD (tabOf D) (cfOf CT) (j + 1) d.q as h = body C d.N.length d.b as h := by
    show (match (tabOf D).lookup d.q with | some (n, b) => body { cfOf CT with call := callD (tabOf D) (cfOf CT) j } n b as | none => no) h = _
    rw [tab_at Z.nd hd]
  rw [hc] at e
  obtain ⟨fl, e5, hf⟩ := fo_body (D := { nx := fun _ H' => Q .non H', rt := Q }) e
  refine ⟨π, _, h, fl, h', ⟨?_, ?_, R⟩, e5, fun π' H' N R' => ?_⟩
  · unfold L2.start
    rw [e1, imL_len]
    show List.map some (as.map (im π)) ++ _ = List.map (imO π) (as.map some ++ List.replicate (d.N.length - as.length) none)
    rw [List.map_append, List.map_map, List.map_map, List.map_replicate]
    rfl
  · intro u hu
    rcases List.mem_append.mp hu with z | z
    · obtain ⟨x, hx, e⟩ := List.mem_map.mp z
      cases e
      exact e3 u hx
    · have := (List.mem_replicate.mp z).2
      cases this
  · rcases hf with ⟨e6, rfl, rfl⟩ | rfl
    · exact fun _ => q π' H' N R' trivial
    · exact q π' H' N R'
theorem defs_ok {P : Program} {w : World} {K : PySem.W.Frag} {mg : Str → Option Value} {base : Heap} {D : List Df} {CT : List Ci} {mt : List (Str × String × Nat)} {bns : List Str} {gls : List (Str × V)} {G : Gd} (Z : Tx0 K mg G D CT mt bns gls) : ∀ (j : Nat) (d : Df), d ∈ D →
    ∃ (f : Addr) (fd : FuncData), Plc K mg G d f ∧ Binds K fd d.ps [] ∧ FnG P w K mg base CX0 (2 * j) f fd d.ps (spH G d.ps.length (callD (tabOf D) (cfOf CT) j d.q)) := by
  intro j
  induction j with
  | zero =>
    intro d hd
    obtain ⟨f, fd, h1, F, h2⟩ := (Z.ok d hd).pl
    refine ⟨f, fd, h1, h2, ⟨fun vs H Q E ⟨π, h, as, v, h', e1, e2, _⟩ => ?_, fun A outer s H args us vs Q E _ _ _ _ _ ⟨π, h, as, v, h', e1, e2, e3, R, e, q⟩ => ?_⟩⟩
    · rw [e1, imL_len, e2]
    · exact (no_ok e).elim
  | succ j ih =>
    intro d hd
    obtain ⟨f, fd, h1, F, h2⟩ := (Z.ok d hd).pl
    exact ⟨f, fd, h1, h2, def_one Z j ih hd (Z.ok d hd).cmp (Z.ok d hd).scp F⟩
/-- the law's def -/
theorem law_fn {P : Program} {w : World} {K : PySem.W.Frag} {mg : Str → Option Value} {D : List Df} {CT : List Ci} {mt : List (Str × String × Nat)} {bns : List Str} {gls : List (Str × V)} {G : Gd} (Z : Tx0 K mg G D CT mt bns gls) (j : Nat)
    {d : Df} (hd : d ∈ D) {f : Addr} {fd : FuncData} (F : Fun K d.x d.q d.st f fd) (hn : d.ps.length = 1) : ∀ base : Heap, FnG P w K mg base CX0 (2 * j + 1 + 1) f fd d.ps (spH G 1 (callD (tabOf D) (cfOf CT) (j + 1) d.q)) := by
  intro base
  have := def_one (P := P) (w := w) (base := base) Z j (defs_ok Z j) hd (Z.ok d hd).cmp (Z.ok d hd).scp F
  rwa [hn] at this

/-! ### the law -/
/-- the heap in which no more than the script is told -/
def scriptH (t : Option Obj) (a : Addr) (xs : List V) : Hp := fun b => match t with
  | some o => if b = a then some (.frz o (.lst xs)) else none
  | none => none
theorem law_go {P : Program} {w : World} {K : PySem.W.Frag} {mg mb : Str → Option Value} {G : Gd} {k : Nat} {fa a : Addr} {fd : FuncData} {x : Str} {F : List V → Mo V} {s : Shared} {us : List Value} {ns : List Int} {hF : Hh}
    (hG : G.K = K) (kin : K.In s.heap) (hmg : s.heap.Ns mainGlobals mg) (hmb : s.heap.Ns builtinsNs mb) (boot : ∀ x : Str, x ≠ "__name__" → mb x = bootBuiltins x) (nl : s.heap.NoLimit) (ng : s.gens = #[])
    (hobj : s.heap.get? a = some { cls := .type "list", data := .seq us.toArray }) (hints : IntsAre us ns) (short : ns.length ≤ sizeLine) (room : Room k callerA)
    (fn : ∀ base : Heap, FnG P w K mg base CX0 k fa fd [x] (spH G 1 F)) (bind : ∀ (s : Shared) (u : Value), BindsTo s fd ⟨[u], []⟩ [(x, u)])
    (run : F [.ref 0] [.rol (ns.map V.int)] = some (.ok (.bl true), hF)) :
    codeAny (model P w) callerA (.call (.ref fa) ⟨[.ref a], []⟩) (fun r s' => r = .ok (.ret (.bool true)) ∧ OldK s.heap s'.heap ∧ s'.os = s.os ∧ AllBare s'.gens) s := by
  have vals := vals_ints hints
  have len := hints.length
  have nt : ∀ t : Option Obj, (t = none ∧ K.lookup a ≠ none) ∨ (t = some { cls := .type "list", data := .seq us.toArray } ∧ K.lookup a = none) →
      codeAny (model P w) callerA (.call (.ref fa) ⟨[.ref a], []⟩) (fun r s' => r = .ok (.ret (.bool true)) ∧ OldK s.heap s'.heap ∧ s'.os = s.os ∧ AllBare s'.gens) s := by
    intro t ht
    generalize hH : scriptH t a (ns.map V.int) = H
    -- what is told
    have told : ∀ b u, H b = some u → b = a ∧ u = .frz { cls := .type "list", data := .seq us.toArray } (.lst (ns.map V.int)) ∧ K.lookup a = none := by
      intro b u e
      subst hH
      unfold scriptH at e
      rcases ht with ⟨rfl, _⟩ | ⟨rfl, hk⟩
      · cases e
      · dsimp only at e
        split at e
        · rename_i hb
          cases e
          exact ⟨hb, rfl, hk⟩
        · cases e
    have hid : ∀ {b : Addr} {o : Obj}, s.heap.get? b = some o → b ≠ a ∨ K.lookup a ≠ none → (hidT s.heap H).get? b = some o := by
      intro b o e hb
      refine hidT_get e ?_
      cases q : H b with
      | none => rfl
      | some u =>
        obtain ⟨z1, _, z2⟩ := told b u q
        rcases hb with z | z
        · exact absurd z1 z
        · exact absurd z2 z
    have nsOf : ∀ {b : Addr} {m : Str → Option Value}, s.heap.Ns b m → (hidT s.heap H).Ns b m := by
      rintro b m ⟨o, es, ep, e, d, r⟩
      refine ⟨o, es, ep, hid e (.inl fun z => ?_), d, r⟩
      subst z
      rw [hobj] at e
      cases e
      have d' : Data.seq us.toArray _ = Data.dict es ep := d
      cases d'
    have kin' : K.In (hidT s.heap H) := by
      intro b o e
      by_cases hb : b = a
      · subst hb
        exact hid (kin _ o e) (.inr (by rw [e]; exact fun z => by cases z))
      · exact hid (kin b o e) (.inl hb)
    have md : Mod K mg (hidT s.heap H) := ⟨kin', nsOf hmg, ⟨mb, nsOf hmb, boot⟩, let ⟨mc, z1, z2⟩ := nl; ⟨mc, nsOf z1, z2⟩⟩
    have lay : HOk P w H s.heap := by
      intro b u e
      obtain ⟨rfl, rfl, _⟩ := told b u e
      exact ⟨hobj, by rw [List.length_map]; exact short, us, _, vals, hobj⟩
    have env : Env0 P w K mg (hidT s.heap H) callerA [] s H :=
      ⟨rfl, md, fun b o e => of_hidT e, Nat.le_of_eq (hidT_size _ _), trivial, fun b hb => absurd (show b ∈ ([] : List Addr) from hb) (by simp), lay, .of_eq ng⟩
    have hr : HR G (fun _ => a) [.rol (ns.map V.int)] H := by
      have ei : imL (fun _ => a) (ns.map V.int) = ns.map V.int := by
        show List.map _ (List.map _ _) = _
        rw [List.map_map]; rfl
      refine ⟨fun i o e => ?_, fun i o e => ?_, fun i j o u e1 e2 m1 m2 hj => ?_⟩
      · cases i with
        | zero =>
          cases e
          rcases ht with ⟨rfl, hk⟩ | ⟨rfl, _⟩
          · refine .inr ?_
            cases q : K.lookup a with
            | none => exact absurd q hk
            | some o =>
              have z := kin a o q
              rw [hobj] at z
              cases z
              refine ⟨_, us.toArray, _, by rw [hG]; exact q, rfl, fun _ => rfl, rfl, by rw [List.size_toArray, len]; exact short, ?_⟩
              rw [ei]
              simpa using vals
          · refine .inl ⟨{ cls := .type "list", data := .seq us.toArray }, ?_⟩
            rw [← hH, ei]
            exact if_pos rfl
        | succ i => cases e
      · cases i with
        | zero =>
          cases e
          intro v hv
          obtain ⟨n, _, rfl⟩ := List.mem_map.mp hv
          trivial
        | succ i => cases e
      · cases i with
        | zero => cases e1; cases m1
        | succ i => cases e1
    have sp : spH G 1 F [.ref a] H (fun v _ => v = .bl true) fun _ _ _ => False :=
      ⟨fun _ => a, _, [.ref 0], .bl true, hF, rfl, rfl, fun v hv => by rw [List.mem_singleton.mp hv]; exact Nat.zero_lt_one, hr, run, fun _ _ _ _ _ => rfl⟩
    refine codeAny_mono ((fn _).run callerA [] s H ⟨[.ref a], []⟩ [.ref a] [.ref a] _ _ rfl room env (bind s (.ref a)) (.cons rfl .nil) sp) fun r s' hq => ?_
    match r, hq with
    | .ok (.ret u), hq =>
      obtain ⟨v, H', os, bare, un, hok', r', q⟩ := hq
      obtain rfl : v = .bl true := q
      obtain rfl : u = Value.bool true := r'
      refine ⟨rfl, OldK.of_keep fun b o e => ?_, os, bare⟩
      cases q : H b with
      | none => exact un.keep b o e q (by intro z; exact absurd (show b ∈ ([] : List Addr) from z) (by simp)) (by simp)
      | some u =>
        obtain ⟨rfl, rfl, _⟩ := told b u q
        obtain ⟨z, _⟩ := hok' _ _ (un.frzs _ _ _ q)
        rw [hobj] at e
        cases e
        exact z
    | .error e, hq => exact hq.elim
  cases hk : K.lookup a with
  | some o => exact nt none (.inl ⟨rfl, by rw [hk]; exact fun z => by cases z⟩)
  | none => exact nt _ (.inr ⟨rfl, hk⟩)

/-- the goal that the head leaves -/
theorem walk_go {l : PySem.W.OpenLaw} {n k : Nat} {q : Program} {loose : List Str} {XP : (Str → Option Value) → Heap → Prop} {YP : World → Heap → Prop} {d : DefRec} {K : Params → PySem.W.Frag} {x : Str} {F : List V → Mo V}
    (hn : l.most = some n) (hn2 : n ≤ sizeLine) (hdf : d.params.defaults = []) (hr : Room k callerA)
    (hY : ∀ (w : World) (h : Heap), YP w h → (K w.params).In h)
    (fn : ∀ (w : World) (mg : Str → Option Value) (fa : Addr) (h : Heap), (K w.params).In h → h.Ns mainGlobals mg → mg d.name = some (.ref fa) →
      ∃ (fd : FuncData) (G : Gd), G.K = K w.params ∧ (∀ (s : Shared) (u : Value), BindsTo s fd ⟨[u], []⟩ [(x, u)]) ∧ ∀ base : Heap, FnG l.prog w (K w.params) mg base CX0 k fa fd [x] (spH G 1 F))
    (law : ∀ ns : List Int, ns.length ≤ n → ∃ h', F [.ref 0] [.rol (ns.map V.int)] = some (.ok (.bl true), h')) :
    PySem.W.WalkO q loose XP YP l.row.toRowW d [] (fun f vs => PySem.call f vs) := by
  refine Att.attach_call hn hdf fun w s₀ s₁ mg mb fa o pm cd doc a vs ns Gr Y ho hd hcd hmg hobj hints hlen hg => ?_
  have kin := hY w _ Y
  obtain ⟨fd, G, hG, hb, hF⟩ := fn w mg fa _ kin Gr.T.g hmg
  obtain ⟨h', e⟩ := law ns hlen
  exact law_go hG kin Gr.T.g Gr.T.b Gr.T.builtins Gr.T.nolimit hg hobj hints (Nat.le_trans hlen hn2) hr hF hb e
end HI

/-! the small language over data alone: a list that changes belongs to one name -/
namespace HI
open PySem L2

/-- what a name holds: data that nobody changes any more, or a list of its own -/
inductive Va | fz (d : PyData) | own (d : PyData) | rol (xs : List PyData)
/-- what a term comes to: such data, a new list, or the list of a name -/
inductive Re | fz (d : PyData) | own (d : PyData) | var (i : Nat) | rol (xs : List PyData)
abbrev Dn := List (Option Va)
section
variable {α β : Type}
end
def vD : V → Option PyData
  | .non => some .none
  | .bl b => some (.bool b)
  | .int i => some (.int i)
  | .str s => some (.str s)
  | _ => none
def isNoneD : PyData → Bool
  | .none => true
  | _ => false
def isnB (b : Bool) : PyData → Option Bool
  | .bool a => some (decide (a = b))
  | _ => none
def isnD (x : PyData) : PyData → Option Bool
  | .none => some (isNoneD x)
  | .bool b => isnB b x
  | _ => none
def intD (o : Op2) : PyData → PyData → Option PyData
  | .int i, .int j => (intOp o i j).bind vD
  | _, _ => none
def eqP0 (x y : PyData) : Option Bool := if SeqAt.shaped x = true ∧ SeqAt.shaped y = true then some (PyData.eqv x y) else none
def eqP : PyData → PyData → Option Bool
  | .str s, .str t => some (decide (s = t))
  | x, y => eqP0 x y
def inP (x y : PyData) : Option Bool := if SeqAt.shaped x = true ∧ SeqAt.shaped y = true then (match y with | .list es => some (es.any fun z => PyData.eqv z x) | _ => none) else none
def addD : PyData → PyData → Option Re
  | .int i, .int j => some (.fz (.int (i + j)))
  | .str s, .str t => if s.length + t.length ≤ sizeLine then some (.fz (.str (s ++ t))) else none
  | .list xs, .list ys => if xs.length + ys.length ≤ sizeLine then some (.own (.list (xs ++ ys))) else none
  | .tuple xs, .tuple ys => if xs.length + ys.length ≤ sizeLine then some (.fz (.tuple (xs ++ ys))) else none
  | _, _ => none
def mulD : PyData → PyData → Option Re
  | .int i, .int j => (intD .mul (.int i) (.int j)).map .fz
  | .list xs, .int k => if (-(2 ^ 63) ≤ k ∧ k < 2 ^ 63) ∧ xs.length * k.toNat ≤ sizeLine then some (.own (.list (List.replicate k.toNat xs).flatten)) else none
  | .tuple xs, .int k => if (-(2 ^ 63) ≤ k ∧ k < 2 ^ 63) ∧ xs.length * k.toNat ≤ sizeLine then some (.fz (.tuple (List.replicate k.toNat xs).flatten)) else none
  | _, _ => none
def opD (o : Op2) (x y : PyData) : Option Re := match o with
  | .eq => (eqP x y).map fun b => .fz (.bool b)
  | .ne => (eqP x y).map fun b => .fz (.bool !b)
  | .in_ => (inP x y).map fun b => .fz (.bool b)
  | .notin => (inP x y).map fun b => .fz (.bool !b)
  | .is_ => (isnD x y).map fun b => .fz (.bool b)
  | .isnot => (isnD x y).map fun b => .fz (.bool !b)
  | .add => addD x y
  | .mul => mulD x y
  | o => (intD o x y).map .fz
def truD : PyData → Option Bool
  | .none => some false
  | .bool b => some b
  | .int i => some (i != 0)
  | .str y => if y.length ≤ sizeLine then some ((y.length : Int) != 0) else none
  | .list xs => some (!xs.isEmpty)
  | .tuple xs => some (!xs.isEmpty)
  | .dict _ => none
def indexD : PyData → PyData → Option PyData
  | .list xs, .int k => atI xs k
  | .tuple xs, .int k => atI xs k
  | .str z, .int k => if z.length ≤ sizeLine then (atI z.cps.toList k).map fun c => .str ⟨#[c]⟩ else none
  | _, _ => none
def cutD (xs : List PyData) (lo hi : Option Int) : List PyData := (xs.drop (HT.sIx xs.length 0 lo)).take (HT.sIx xs.length xs.length hi - HT.sIx xs.length 0 lo)
def sliceD (x : PyData) (lo hi : Option Int) : Option Re := match x with
  | .list xs => some (.own (.list (cutD xs lo hi)))
  | .tuple xs => if HT.sIx xs.length 0 lo = 0 ∧ HT.sIx xs.length xs.length hi = xs.length then none else some (.fz (.tuple (cutD xs lo hi)))
  | _ => none
/-- sorting by keys -/
def kItemsD (shape : Nat → Bool) : Nat → List PyData → Option (List Kit)
  | _, [] => some []
  | i, .int n :: r => if shape i = true then none else (kItemsD shape (i + 1) r).map (Sum.inl n :: ·)
  | i, .str x :: r => if shape i = true then (kItemsD shape (i + 1) r).map (Sum.inr x.cps.toList :: ·) else none
  | _, _ :: _ => none
def shapeD (k : List PyData) (i : Nat) : Bool := match k[i]? with | some (.str _) => true | _ => false
def keyD (shape : Nat → Bool) : PyData → Option (List Kit)
  | .tuple xs => kItemsD shape 0 xs
  | _ => none
def ltD (shape : Nat → Bool) (u v : PyData) : Bool := PyProof.Rows.lexLt PyProof.Rows.itemOrd ((keyD shape u).getD []) ((keyD shape v).getD [])
def ltID : PyData → PyData → Bool
  | .int i, .int j => decide (i < j)
  | _, _ => false
def isID : PyData → Bool
  | .int _ => true
  | _ => false
def hasKD (shape : Nat → Bool) (v : PyData) : Bool := match keyD shape v with | some (_ :: _) => true | _ => false
def sortD (xs : List PyData) : Option (List PyData) :=
  if xs.all isID = true then some (isort ltID xs)
  else match xs with
    | .tuple k :: _ => if xs.all (hasKD (shapeD k)) = true then some (isort (ltD (shapeD k)) xs) else none
    | _ => none
def lenD : PyData → Option PyData
  | .list xs => some (.int xs.length)
  | .tuple xs => some (.int xs.length)
  | .str z => if z.length ≤ sizeLine then some (.int z.length) else none
  | _ => none
def reprD (d : PyData) : Option PyData := if SeqAt.shaped d = true ∧ d.showable = true ∧ d.hasDict = false ∧ d.shown.length ≤ sizeLine then some (.str d.shown) else none
def boolL (xs : List PyData) : Option (List Bool) := xs.mapM fun x => match x with | .bool b => some b | _ => none
def intL (xs : List PyData) : Option (List Int) := xs.mapM fun x => match x with | .int i => some i | _ => none
def boolsD : PyData → Option (List Bool)
  | .list xs => boolL xs
  | _ => none
def intsD : PyData → Option (List Int)
  | .list xs => intL xs
  | _ => none
def tyD : PyData → Option String
  | .none => some "NoneType"
  | .bool _ => some "bool"
  | .int _ => some "int"
  | .str _ => some "str"
  | .list _ => some "list"
  | .tuple _ => some "tuple"
  | .dict _ => none
def isD (t : String) (x : PyData) : Option Re := (tyD x).map fun s => .fz (.bool (subTy s t))
def bfnD (f : String) (vs : List PyData) : Option Re := match vs with
  | [x] => match f with
    | "len" => (lenD x).map .fz
    | "abs" => match x with | .int i => some (.fz (.int (if i < 0 then -i else i))) | _ => none
    | "int" => match x with | .int i => some (.fz (.int i)) | .bool b => some (.fz (.int (if b then 1 else 0))) | _ => none
    | "tuple" => match x with | .list xs => some (.fz (.tuple xs)) | .tuple xs => some (.fz (.tuple xs)) | _ => none
    | "list" => match x with | .list xs => some (.own (.list xs)) | .tuple xs => some (.own (.list xs)) | _ => none
    | "repr" => (reprD x).map .fz
    | "sorted" => match x with | .list xs => (sortD xs).map fun ys => .own (.list ys) | _ => none
    | "all" => (boolsD x).map fun bs => .fz (.bool (bs.all id))
    | "any" => (boolsD x).map fun bs => .fz (.bool (bs.any id))
    | "sum" => (intsD x).map fun ns => .fz (.int ns.sum)
    | "max" => ((intsD x).bind maxI).map fun m => .fz (.int m)
    | "min" => ((intsD x).bind minI).map fun m => .fz (.int m)
    | "[::-1]" => match x with | .list xs => some (.own (.list xs.reverse)) | _ => none
    | "is int" => isD "int" x
    | "is bool" => isD "bool" x
    | "is list" => isD "list" x
    | "is tuple" => isD "tuple" x
    | "is str" => isD "str" x
    | _ => none
  | [.int i, .int j] => match f with
    | "max" => some (.fz (.int (if j > i then j else i)))
    | "min" => some (.fz (.int (if j < i then j else i)))
    | _ => none
  | [.list xs, .list ys] => match f with
    | "sortzip" => (sortD (List.zipWith (fun x y => .tuple [x, y]) xs ys)).map fun zs => .own (.list zs)
    | _ => none
  | _ => none
def lmethD (m : String) (xs : List PyData) (vs : List PyData) : Option (List PyData) := match m, vs with
  | "append", [y] => if xs.length < sizeLine then some (xs ++ [y]) else none
  | "insert", [.int i, y] => if xs.length < sizeLine ∧ 0 ≤ i ∧ i < 2 ^ 63 then some (xs.take i.toNat ++ [y] ++ xs.drop i.toNat) else none
  | "clear", [] => some []
  | "reverse", [] => some xs.reverse
  | _, _ => none
def setD (k : PyData) (d : PyData) (x : PyData) : Option PyData := match k, x with
  | .int k, .list xs => (ixN xs.length k).map fun j => .list (xs.set j d)
  | _, _ => none
def lmethL (ms : String) (ds : List PyData) : PyData → Option PyData
  | .list xs => (lmethD ms xs ds).map .list
  | _ => none
/-! ### instances -/
def encF : List (Str × PyData) → List (PyData × PyData)
  | [] => []
  | (f, d) :: r => (.str f, d) :: encF r
def insD (c : Nat) (fs : List (Str × PyData)) : PyData := .dict ((.none, .int c) :: encF fs)
def decF : List (PyData × PyData) → Option (List (Str × PyData))
  | [] => some []
  | (.str f, d) :: r => (decF r).map fun z => (f, d) :: z
  | _ => none
def insOf : PyData → Option (Nat × List (Str × PyData))
  | .dict ((.none, .int (.ofNat c)) :: r) => (decF r).map fun z => (c, z)
  | _ => none
def putD (f : Str) (d : PyData) : List (Str × PyData) → List (Str × PyData)
  | [] => [(f, d)]
  | (g, e) :: r => if g = f then (g, d) :: r else (g, e) :: putD f d r

/-! ### walks -/

def nodupB : List Nat → Bool
  | [] => true
  | x :: r => !r.contains x && nodupB r
def fldD (I : List Ci) (f : Str) (d : PyData) : Option PyData := match insOf d with
  | some (c, fs) => if fldOf I c f = true then fs.lookup f else none
  | none => none
def setFD (I : List Ci) (f : Str) (v : PyData) (d : PyData) : Option PyData := match insOf d with
  | some (c, fs) => if fldOf I c f = true ∧ fs.length < 1000 then some (insD c (putD f v fs)) else none
  | none => none


/-- a program: its defs, its classes -/
structure Pr where
  D : List (String × Nat × Sms)
  I : List Ci
def Pr.lookup (T : Pr) (q : String) : Option (Nat × Sms) := T.D.lookup q
end HI

set_option maxRecDepth 100000
set_option maxHeartbeats 4000000
/-! data in a heap; what no step disturbs -/
namespace HI
open PySem L2

abbrev Av := Nat → Prop
theorem lt_of_get {h : Hh} {b : Nat} {o : Ob} (e : h[b]? = some o) : b < h.length := by
  rcases Nat.lt_or_ge b h.length with z | z
  · exact z
  · rw [List.getElem?_eq_none z] at e; cases e
mutual
/-- v reads as this data, and no list on the way is one that may change -/
def Fz (h : Hh) (A : Av) : PyData → V → Prop
  | .none, v => v = .non
  | .bool b, v => v = .bl b
  | .int i, v => v = .int i
  | .str s, v => v = .str s
  | .list ds, v => ∃ (a : Nat) (xs : List V), v = .ref a ∧ h[a]? = some (.lst xs) ∧ ¬ A a ∧ FzL h A ds xs
  | .tuple ds, v => ∃ a xs, v = .ref a ∧ seqT h a = some xs ∧ FzL h A ds xs
  | .dict kvs, v => ∃ (a : Nat) (c : Nat) (fs : List (Str × V)), v = .ref a ∧ h[a]? = some (.ins c fs) ∧ ¬ A a ∧ FzI h A c kvs fs
def FzL (h : Hh) (A : Av) : List PyData → List V → Prop
  | [], xs => xs = []
  | d :: ds, xs => ∃ x r, xs = x :: r ∧ Fz h A d x ∧ FzL h A ds r
def FzI (h : Hh) (A : Av) (c : Nat) : List (PyData × PyData) → List (Str × V) → Prop
  | [], _ => False
  | (k, x) :: r, fs => k = .none ∧ x = .int c ∧ FzF h A r fs
def FzF (h : Hh) (A : Av) : List (PyData × PyData) → List (Str × V) → Prop
  | [], fs => fs = []
  | (k, d) :: r, fs => ∃ f x fr, fs = (f, x) :: fr ∧ k = .str f ∧ Fz h A d x ∧ FzF h A r fr
end
/-- the object of a thing that may change -/
def Cn (h : Hh) (A : Av) : PyData → Ob → Prop
  | .list ds, o => ∃ xs, o = .lst xs ∧ FzL h A ds xs
  | .dict kvs, o => ∃ c fs, o = .ins c fs ∧ FzI h A c kvs fs
  | _, _ => False
/-- what was read reads so still -/
structure Ok (h : Hh) (A : Av) (h' : Hh) (A' : Av) : Prop where
  l : ∀ (b : Nat) (o : Ob), h[b]? = some o → Mu o = true → ¬ A b → h'[b]? = some o ∧ ¬ A' b
  t : ∀ b xs, seqT h b = some xs → seqT h' b = some xs
  r : ∀ (b : Nat) (xs : List V), h[b]? = some (.rol xs) → h'[b]? = some (.rol xs)
mutual
theorem Fz.ok {h h' : Hh} {A A' : Av} (k : Ok h A h' A') : ∀ (d : PyData) (v : V), Fz h A d v → Fz h' A' d v
  | .none, v, z => by simpa only [Fz] using z
  | .bool b, v, z => by simpa only [Fz] using z
  | .int i, v, z => by simpa only [Fz] using z
  | .str s, v, z => by simpa only [Fz] using z
  | .list ds, v, z => by
    simp only [Fz] at z ⊢
    obtain ⟨a, xs, e, s, na, r⟩ := z
    exact ⟨a, xs, e, (k.l a _ s rfl na).1, (k.l a _ s rfl na).2, FzL.ok k ds xs r⟩
  | .tuple ds, v, z => by
    simp only [Fz] at z ⊢
    obtain ⟨a, xs, e, s, r⟩ := z
    exact ⟨a, xs, e, k.t a xs s, FzL.ok k ds xs r⟩
  | .dict kvs, v, z => by
    simp only [Fz] at z ⊢
    obtain ⟨a, c, fs, e, s, na, r⟩ := z
    exact ⟨a, c, fs, e, (k.l a _ s rfl na).1, (k.l a _ s rfl na).2, FzI.ok k c kvs fs r⟩
theorem FzL.ok {h h' : Hh} {A A' : Av} (k : Ok h A h' A') : ∀ (ds : List PyData) (xs : List V), FzL h A ds xs → FzL h' A' ds xs
  | [], xs, z => by simpa only [FzL] using z
  | d :: ds, xs, z => by
    simp only [FzL] at z ⊢
    obtain ⟨x, r, e, f, g⟩ := z
    exact ⟨x, r, e, Fz.ok k d x f, FzL.ok k ds r g⟩
theorem FzI.ok {h h' : Hh} {A A' : Av} (k : Ok h A h' A') (c : Nat) : ∀ (ds : List (PyData × PyData)) (xs : List (Str × V)), FzI h A c ds xs → FzI h' A' c ds xs
  | [], xs, z => by simp only [FzI] at z
  | (k0, x) :: r, xs, z => by
    simp only [FzI] at z ⊢
    exact ⟨z.1, z.2.1, FzF.ok k r xs z.2.2⟩
theorem FzF.ok {h h' : Hh} {A A' : Av} (k : Ok h A h' A') : ∀ (ds : List (PyData × PyData)) (xs : List (Str × V)), FzF h A ds xs → FzF h' A' ds xs
  | [], xs, z => by simpa only [FzF] using z
  | (k0, d) :: r, xs, z => by
    simp only [FzF] at z ⊢
    obtain ⟨f, x, fr, e1, e2, g1, g2⟩ := z
    exact ⟨f, x, fr, e1, e2, Fz.ok k d x g1, FzF.ok k r fr g2⟩
end
theorem Cn.ok {h h' : Hh} {A A' : Av} (k : Ok h A h' A') {d : PyData} {o : Ob} (z : Cn h A d o) : Cn h' A' d o := by
  cases d with
  | list ds =>
    obtain ⟨xs, e, r⟩ := z
    exact ⟨xs, e, FzL.ok k ds xs r⟩
  | dict kvs =>
    obtain ⟨c, fs, e, r⟩ := z
    exact ⟨c, fs, e, FzI.ok k c kvs fs r⟩
  | _ => exact z.elim
theorem Cn.mu {h : Hh} {A : Av} {d : PyData} {o : Ob} (z : Cn h A d o) : Mu o = true := by
  cases d with
  | list ds =>
    obtain ⟨xs, rfl, r⟩ := z
    rfl
  | dict kvs =>
    obtain ⟨c, fs, rfl, r⟩ := z
    rfl
  | _ => exact z.elim
theorem Cn.fz {h : Hh} {A : Av} {d : PyData} {o : Ob} {a : Nat} (z : Cn h A d o) (g : h[a]? = some o) (na : ¬ A a) : Fz h A d (.ref a) := by
  cases d with
  | list ds =>
    obtain ⟨xs, rfl, r⟩ := z
    simp only [Fz]
    exact ⟨a, xs, rfl, g, na, r⟩
  | dict kvs =>
    obtain ⟨c, fs, rfl, r⟩ := z
    simp only [Fz]
    exact ⟨a, c, fs, rfl, g, na, r⟩
  | _ => exact z.elim
theorem Ok.mono {h : Hh} {A A' : Av} (m : ∀ b, A' b → A b) : Ok h A h A' := ⟨fun b xs e _ n => ⟨e, fun z => n (m b z)⟩, fun b xs e => e, fun b xs e => e⟩
section
variable {h : Hh} {A : Av}
theorem FzL.nil : FzL h A [] [] := by simp only [FzL]
theorem FzL.cons {d : PyData} {ds : List PyData} {x : V} {xs : List V} (a : Fz h A d x) (b : FzL h A ds xs) : FzL h A (d :: ds) (x :: xs) := by
  simp only [FzL]; exact ⟨x, xs, rfl, a, b⟩
theorem FzL.iff : ∀ {ds : List PyData} {xs : List V}, FzL h A ds xs ↔ ∃ ps : List (PyData × V), ds = ps.map (·.1) ∧ xs = ps.map (·.2) ∧ ∀ p ∈ ps, Fz h A p.1 p.2
  | [], xs => by
    simp only [FzL]
    constructor
    · rintro rfl; exact ⟨[], rfl, rfl, fun _ z => nomatch z⟩
    · rintro ⟨ps, e, rfl, _⟩
      cases ps with
      | nil => rfl
      | cons p r => cases e
  | d :: ds, xs => by
    simp only [FzL]
    constructor
    · rintro ⟨x, r, rfl, f, g⟩
      obtain ⟨ps, rfl, rfl, k⟩ := FzL.iff.mp g
      refine ⟨(d, x) :: ps, rfl, rfl, fun p hp => ?_⟩
      rcases List.mem_cons.mp hp with rfl | hp
      · exact f
      · exact k p hp
    · rintro ⟨ps, e, rfl, k⟩
      cases ps with
      | nil => cases e
      | cons p r =>
        cases e
        exact ⟨p.2, r.map (·.2), rfl, k p List.mem_cons_self, FzL.iff.mpr ⟨r, rfl, rfl, fun q hq => k q (List.mem_cons_of_mem _ hq)⟩⟩
theorem FzL.len {ds : List PyData} {xs : List V} (r : FzL h A ds xs) : ds.length = xs.length := by
  obtain ⟨ps, rfl, rfl, _⟩ := FzL.iff.mp r
  rw [List.length_map, List.length_map]
theorem FzL.get {ds : List PyData} {xs : List V} (r : FzL h A ds xs) {i : Nat} {d : PyData} (e : ds[i]? = some d) : ∃ x, xs[i]? = some x ∧ Fz h A d x := by
  obtain ⟨ps, rfl, rfl, k⟩ := FzL.iff.mp r
  rw [List.getElem?_map] at e
  obtain ⟨p, hp, rfl⟩ := Option.map_eq_some_iff.mp e
  exact ⟨p.2, by rw [List.getElem?_map, hp]; rfl, k p (List.mem_of_getElem? hp)⟩
theorem FzL.app {ds es : List PyData} {xs ys : List V} (r : FzL h A ds xs) (s : FzL h A es ys) : FzL h A (ds ++ es) (xs ++ ys) := by
  obtain ⟨ps, rfl, rfl, k⟩ := FzL.iff.mp r
  obtain ⟨qs, rfl, rfl, l⟩ := FzL.iff.mp s
  refine FzL.iff.mpr ⟨ps ++ qs, by rw [List.map_append], by rw [List.map_append], fun p hp => ?_⟩
  exact (List.mem_append.mp hp).elim (k p) (l p)
theorem FzL.drop {ds : List PyData} {xs : List V} (r : FzL h A ds xs) (n : Nat) : FzL h A (ds.drop n) (xs.drop n) := by
  obtain ⟨ps, rfl, rfl, k⟩ := FzL.iff.mp r
  exact FzL.iff.mpr ⟨ps.drop n, by rw [List.map_drop], by rw [List.map_drop], fun p hp => k p (List.mem_of_mem_drop hp)⟩
theorem FzL.take {ds : List PyData} {xs : List V} (r : FzL h A ds xs) (n : Nat) : FzL h A (ds.take n) (xs.take n) := by
  obtain ⟨ps, rfl, rfl, k⟩ := FzL.iff.mp r
  exact FzL.iff.mpr ⟨ps.take n, by rw [List.map_take], by rw [List.map_take], fun p hp => k p (List.mem_of_mem_take hp)⟩
theorem FzL.set {ds : List PyData} {xs : List V} {d : PyData} {x : V} (r : FzL h A ds xs) (f : Fz h A d x) (n : Nat) : FzL h A (ds.set n d) (xs.set n x) := by
  obtain ⟨ps, rfl, rfl, k⟩ := FzL.iff.mp r
  refine FzL.iff.mpr ⟨ps.set n (d, x), by rw [List.map_set], by rw [List.map_set], fun p hp => ?_⟩
  rcases List.mem_or_eq_of_mem_set hp with z | rfl
  · exact k p z
  · exact f
theorem FzL.rev {ds : List PyData} {xs : List V} (r : FzL h A ds xs) : FzL h A ds.reverse xs.reverse := by
  obtain ⟨ps, rfl, rfl, k⟩ := FzL.iff.mp r
  exact FzL.iff.mpr ⟨ps.reverse, by rw [List.map_reverse], by rw [List.map_reverse], fun p hp => k p (List.mem_reverse.mp hp)⟩
theorem FzL.rep {ds : List PyData} {xs : List V} (r : FzL h A ds xs) : ∀ n, FzL h A (List.replicate n ds).flatten (List.replicate n xs).flatten
  | 0 => FzL.nil
  | n + 1 => by
    rw [List.replicate_succ, List.replicate_succ, List.flatten_cons, List.flatten_cons]
    exact r.app (FzL.rep r n)
theorem FzL.one {d : PyData} {x : V} (f : Fz h A d x) : FzL h A [d] [x] := FzL.cons f FzL.nil
theorem FzL.atI {ds : List PyData} {xs : List V} (r : FzL h A ds xs) {i : Int} {d : PyData} (e : L2.atI ds i = some d) : ∃ x, L2.atI xs i = some x ∧ Fz h A d x := by
  unfold L2.atI at *
  rw [← r.len]
  obtain ⟨j, hj, e⟩ := Option.bind_eq_some_iff.mp e
  rw [hj]
  exact r.get e
end
mutual
theorem rd_of {h : Hh} {A : Av} : ∀ (d : PyData) (n : Nat) (v : V), Fz h A d v → d.canLay0 = true → d.depth < n → rd h n v = some d
  | d, 0, v, _, _, l => absurd l (Nat.not_lt_zero _)
  | .none, n + 1, v, z, _, _ => by simp only [Fz] at z; subst z; rfl
  | .bool b, n + 1, v, z, _, _ => by simp only [Fz] at z; subst z; rfl
  | .int i, n + 1, v, z, _, _ => by simp only [Fz] at z; subst z; rfl
  | .str s, n + 1, v, z, _, _ => by simp only [Fz] at z; subst z; rfl
  | .list ds, n + 1, v, z, cl, l => by
    simp only [Fz] at z
    obtain ⟨a, xs, rfl, s, na, r⟩ := z
    have l : PyData.depthAll ds < n := by
      have : PyData.depthAll ds + 1 < n + 1 := by simpa only [PyData.depth] using l
      omega
    show (match seqL h a with | some xs => (xs.mapM (rd h n)).map PyData.list | none => _) = _
    rw [show seqL h a = some xs by unfold seqL; rw [s]]
    show (xs.mapM (rd h n)).map PyData.list = _
    rw [rdL_of ds n xs r (by simpa only [PyData.canLay0] using cl) l]; rfl
  | .tuple ds, n + 1, v, z, cl, l => by
    simp only [Fz] at z
    obtain ⟨a, xs, rfl, s, r⟩ := z
    have l : PyData.depthAll ds < n := by
      have : PyData.depthAll ds + 1 < n + 1 := by simpa only [PyData.depth] using l
      omega
    have s2 : seqL h a = none := by
      unfold seqT at s
      unfold seqL
      split at s
      · rename_i e; rw [e]
      · rename_i e; rw [e]
      · cases s
    show (match seqL h a with | some xs => _ | none => match seqT h a with | some xs => (xs.mapM (rd h n)).map PyData.tuple | none => none) = _
    rw [s2, s]
    show (xs.mapM (rd h n)).map PyData.tuple = _
    rw [rdL_of ds n xs r (by simpa only [PyData.canLay0] using cl) l]; rfl
  | .dict _, n + 1, v, z, cl, _ => by simp [PyData.canLay0] at cl
theorem rdL_of {h : Hh} {A : Av} : ∀ (ds : List PyData) (n : Nat) (xs : List V), FzL h A ds xs → PyData.canLayAll0 ds = true → PyData.depthAll ds < n → xs.mapM (rd h n) = some ds
  | [], n, xs, z, _, _ => by simp only [FzL] at z; subst z; rfl
  | d :: ds, n, xs, z, cl, l => by
    simp only [FzL] at z
    obtain ⟨x, r, rfl, f, g⟩ := z
    have l : max d.depth (PyData.depthAll ds) < n := by simpa only [PyData.depthAll] using l
    have cl : d.canLay0 = true ∧ PyData.canLayAll0 ds = true := by simpa only [PyData.canLayAll0, Bool.and_eq_true] using cl
    rw [List.mapM_cons, rd_of d n x f cl.1 (by omega), rdL_of ds n r g cl.2 (by omega)]; rfl
end
theorem rdS_of {h : Hh} {A : Av} {d : PyData} {v : V} (z : Fz h A d v) (s : SeqAt.shaped d = true) : rdS h v = some d := by
  have l := SeqAt.depth_of_shaped s
  unfold rdS
  rw [rd_of d 66 v z (SeqAt.canLay_of_shaped s) (by omega)]
  show (if SeqAt.shaped d = true then some d else none) = _
  rw [if_pos s]

/-- the lists that the names own -/
def Oa (e : Ev) (E : Dn) (b : Nat) : Prop := ∃ (i : Nat) (d : PyData), e[i]? = some (some (V.ref b)) ∧ E[i]? = some (some (.own d))
structure RelE (h : Hh) (A : Av) (e : Ev) (E : Dn) : Prop where
  len : e.length = E.length
  fz : ∀ (i : Nat) (d : PyData), E[i]? = some (some (.fz d)) → ∃ v, e[i]? = some (some v) ∧ Fz h A d v
  ow : ∀ (i : Nat) (d : PyData), E[i]? = some (some (.own d)) → ∃ (a : Nat) (o : Ob), e[i]? = some (some (.ref a)) ∧ h[a]? = some o ∧ A a ∧ Cn h A d o
  ro : ∀ (i : Nat) (xs : List PyData), E[i]? = some (some (.rol xs)) → ∃ (a : Nat) (vs : List V), e[i]? = some (some (.ref a)) ∧ h[a]? = some (.rol vs) ∧ FzL h A xs vs
  inj : ∀ (i j a : Nat) (xs ys : PyData), e[i]? = some (some (.ref a)) → e[j]? = some (some (.ref a)) → E[i]? = some (some (.own xs)) → E[j]? = some (some (.own ys)) → i = j
  lt : ∀ b : Nat, A b → ∃ o : Ob, h[b]? = some o ∧ Mu o = true
theorem RelE.mine {h : Hh} {A : Av} {e : Ev} {E : Dn} (R : RelE h A e E) {b : Nat} (o : Oa e E b) : A b ∧ ∃ vs : Ob, h[b]? = some vs ∧ Mu vs = true := by
  obtain ⟨i, xs, h1, h2⟩ := o
  obtain ⟨a, vs, h3, h4, h5, h6⟩ := R.ow i xs h2
  rw [h1] at h3
  cases h3
  exact ⟨h5, vs, h4, h6.mu⟩
/-- steps of a term: the names stand, the lists of others too -/
structure Pst (n : Nat) (e : Ev) (h : Hh) (A : Av) (E : Dn) (h' : Hh) (A' : Av) (E' : Dn) : Prop where
  le : h.length ≤ h'.length
  sub : ∀ b, A' b → A b ∨ h.length ≤ b
  keep : ∀ b, b < n → A b → ¬ Oa e E b → A' b
  same : ∀ b : Nat, b < h.length → ¬ Oa e E b → (A b → b < n) → h'[b]? = h[b]?
  rel : RelE h' A' e E'
  mine : ∀ b, Oa e E' b → Oa e E b
  dom : ∀ (i : Nat) (v : Va), E[i]? = some (some v) → ∃ v', E'[i]? = some (some v')
theorem Pst.refl {n e h A E} (R : RelE h A e E) : Pst n e h A E h A E := ⟨Nat.le_refl _, fun _ z => .inl z, fun _ _ z _ => z, fun _ _ _ _ => rfl, R, fun _ z => z, fun _ v z => ⟨v, z⟩⟩
theorem Pst.mono {n m e h A E h' A' E'} (l : m ≤ n) (p : Pst n e h A E h' A' E') : Pst m e h A E h' A' E' := ⟨p.le, p.sub, fun b hb => p.keep b (Nat.lt_of_lt_of_le hb l), fun b hb o q => p.same b hb o fun z => Nat.lt_of_lt_of_le (q z) l, p.rel, p.mine, p.dom⟩
theorem Pst.trans {n e h A E h1 A1 E1 h2 A2 E2} (p : Pst n e h A E h1 A1 E1) (q : Pst n e h1 A1 E1 h2 A2 E2) : Pst n e h A E h2 A2 E2 := by
  refine ⟨Nat.le_trans p.le q.le, fun b z => ?_, fun b hb z n => q.keep b hb (p.keep b hb z n) fun o => n (p.mine b o), fun b l n z => (q.same b (Nat.lt_of_lt_of_le l p.le) (fun o => n (p.mine b o)) fun y => (p.sub b y).elim z fun y => absurd l (Nat.not_lt_of_le y)).trans (p.same b l n z), q.rel, fun b o => p.mine b (q.mine b o), fun i v z => ?_⟩
  · rcases q.sub b z with z | z
    · exact p.sub b z
    · exact .inr (Nat.le_trans p.le z)
  · obtain ⟨v', z'⟩ := p.dom i v z
    exact q.dom i v' z'
/-- what a term comes to, in the heap -/
def RR (n : Nat) (h : Hh) (A : Av) (e : Ev) (E : Dn) : Re → V → Prop
  | .fz d, v => Fz h A d v
  | .own d, v => ∃ (a : Nat) (o : Ob), v = .ref a ∧ n ≤ a ∧ h[a]? = some o ∧ A a ∧ ¬ Oa e E a ∧ Cn h A d o
  | .var i, v => e[i]? = some (some v) ∧ ∃ va, E[i]? = some (some va)
  | .rol xs, v => ∃ (a : Nat) (vs : List V), v = .ref a ∧ h[a]? = some (.rol vs) ∧ FzL h A xs vs
theorem RR.mono {n m h A e E r v} (l : m ≤ n) (z : RR n h A e E r v) : RR m h A e E r v := by
  cases r with
  | own xs =>
    obtain ⟨a, vs, e1, l1, g⟩ := z
    exact ⟨a, vs, e1, Nat.le_trans l l1, g⟩
  | fz d => exact z
  | var i => exact z
  | rol xs => exact z
/-- v as data, now -/
def Vw (h : Hh) (A : Av) (d : PyData) (v : V) : Prop := match d with
  | .list ds => ∃ (a : Nat) (xs : List V), v = .ref a ∧ h[a]? = some (.lst xs) ∧ FzL h A ds xs
  | .dict kvs => ∃ (a : Nat) (c : Nat) (fs : List (Str × V)), v = .ref a ∧ h[a]? = some (.ins c fs) ∧ FzI h A c kvs fs
  | d => Fz h A d v
theorem Cn.vw {h : Hh} {A : Av} {d : PyData} {o : Ob} {a : Nat} (z : Cn h A d o) (g : h[a]? = some o) : Vw h A d (.ref a) := by
  cases d with
  | list ds =>
    obtain ⟨xs, rfl, r⟩ := z
    exact ⟨a, xs, rfl, g, r⟩
  | dict kvs =>
    obtain ⟨c, fs, rfl, r⟩ := z
    exact ⟨a, c, fs, rfl, g, r⟩
  | _ => exact z.elim
/-- .. or the script -/
def VwR (h : Hh) (A : Av) (d : PyData) (v : V) : Prop := match d with
  | .list ds => ∃ (a : Nat) (xs : List V), v = .ref a ∧ seqL h a = some xs ∧ FzL h A ds xs
  | .dict kvs => ∃ (a : Nat) (c : Nat) (fs : List (Str × V)), v = .ref a ∧ h[a]? = some (.ins c fs) ∧ FzI h A c kvs fs
  | d => Fz h A d v
theorem Vw.of {h A d v} (z : Fz h A d v) : Vw h A d v := by
  cases d with
  | list ds =>
    simp only [Fz] at z
    obtain ⟨a, xs, e, s, _, r⟩ := z
    exact ⟨a, xs, e, s, r⟩
  | dict kvs =>
    simp only [Fz] at z
    obtain ⟨a, c, fs, e, s, _, r⟩ := z
    exact ⟨a, c, fs, e, s, r⟩
  | _ => exact z
theorem Vw.r {h A d v} (z : Vw h A d v) : VwR h A d v := by
  cases d with
  | list ds =>
    obtain ⟨a, xs, e, s, r⟩ := z
    exact ⟨a, xs, e, by unfold seqL; rw [s], r⟩
  | _ => exact z
theorem Vw.fz {h A d v} (z : Vw h A d v) : Fz h (fun _ => False) d v := by
  have k : Ok h A h (fun _ => False) := Ok.mono fun _ z => z.elim
  cases d with
  | list ds =>
    obtain ⟨a, xs, e, s, r⟩ := z
    simp only [Fz]
    exact ⟨a, xs, e, s, fun z => z, FzL.ok k ds xs r⟩
  | none => exact Fz.ok k _ v z
  | bool b => exact Fz.ok k _ v z
  | int b => exact Fz.ok k _ v z
  | str b => exact Fz.ok k _ v z
  | tuple b => exact Fz.ok k _ v z
  | dict b =>
    obtain ⟨a, c, fs, e, s, r⟩ := z
    simp only [Fz]
    exact ⟨a, c, fs, e, s, fun z => z, FzI.ok k c b fs r⟩
theorem seqL_of {h : Hh} {a : Nat} {vs : List V} (g : h[a]? = some (.lst vs)) : seqL h a = some vs := by unfold seqL; rw [g]
/-! ### new objects -/
theorem get_app {h : Hh} {o : Ob} {b : Nat} (l : b < h.length) : (h ++ [o])[b]? = h[b]? := List.getElem?_append_left l
theorem getNew {h : Hh} {o : Ob} : (h ++ [o])[h.length]? = some o := by simp
theorem ok_app {h : Hh} {A A' : Av} {o : Ob} (m : ∀ b, b < h.length → A' b → A b) : Ok h A (h ++ [o]) A' := by
  constructor
  · intro b xs s _ n
    have l := lt_of_get s
    exact ⟨(get_app l).trans s, fun z => n (m b l z)⟩
  · intro b xs s
    have l := seqT_lt s
    unfold seqT at *
    rw [get_app l]; exact s
  · intro b xs s
    exact (get_app (lt_of_get s)).trans s
theorem RelE.app {h A e E o A'} (R : RelE h A e E) (m : ∀ b, b < h.length → A' b → A b) (k : ∀ b, A b → A' b) (lt : ∀ b, A' b → ∃ u : Ob, (h ++ [o])[b]? = some u ∧ Mu u = true) : RelE (h ++ [o]) A' e E := by
  have ok := ok_app (o := o) m
  refine ⟨R.len, fun i d z => ?_, fun i xs z => ?_, fun i xs z => ?_, R.inj, lt⟩
  · obtain ⟨v, h1, h2⟩ := R.fz i d z
    exact ⟨v, h1, Fz.ok ok d v h2⟩
  · obtain ⟨a, vs, h1, h2, h3, h4⟩ := R.ow i xs z
    exact ⟨a, vs, h1, (get_app (lt_of_get h2)).trans h2, k a h3, h4.ok ok⟩
  · obtain ⟨a, vs, h1, h2, h4⟩ := R.ro i xs z
    exact ⟨a, vs, h1, ok.r a vs h2, FzL.ok ok xs vs h4⟩
theorem pst_tup {n h A e E o} (R : RelE h A e E) : Pst n e h A E (h ++ [o]) A E := by
  refine ⟨by rw [List.length_append]; omega, fun _ z => .inl z, fun _ _ z _ => z, fun b l _ _ => get_app l, R.app (fun _ _ z => z) (fun _ z => z) fun b z => ?_, fun _ z => z, fun _ v z => ⟨v, z⟩⟩
  obtain ⟨xs, g, m⟩ := R.lt b z
  exact ⟨xs, (get_app (lt_of_get g)).trans g, m⟩
/-- with a new list -/
def plus (A : Av) (a : Nat) : Av := fun b => A b ∨ b = a
theorem pst_obj {n h A e E} {ob : Ob} (R : RelE h A e E) (mo : Mu ob = true) : Pst n e h A E (h ++ [ob]) (plus A h.length) E := by
  refine ⟨by rw [List.length_append]; omega, fun b z => ?_, fun _ _ z _ => .inl z, fun b l _ _ => get_app l, R.app (fun b l z => ?_) (fun _ z => .inl z) fun b z => ?_, fun _ z => z, fun _ v z => ⟨v, z⟩⟩
  · rcases z with z | rfl
    · exact .inl z
    · exact .inr (Nat.le_refl _)
  · rcases z with z | rfl
    · exact z
    · exact absurd l (Nat.lt_irrefl _)
  · rcases z with z | rfl
    · obtain ⟨xs, g, m⟩ := R.lt b z
      exact ⟨xs, (get_app (lt_of_get g)).trans g, m⟩
    · exact ⟨ob, getNew, mo⟩
theorem pst_lst {n h A e E vs} (R : RelE h A e E) : Pst n e h A E (h ++ [.lst vs]) (plus A h.length) E := pst_obj R rfl
theorem RelE.lt_mine {h A e E} (R : RelE h A e E) {b : Nat} (o : Oa e E b) : b < h.length := by
  obtain ⟨_, vs, g, _⟩ := R.mine o
  exact lt_of_get g
/-- a step comes to this -/
def Out (h : Hh) (A : Av) (e : Ev) (E : Dn) (r : Re) (E' : Dn) (o : Option (Rs V × Hh)) : Prop := ∃ v h' A', o = some (.ok v, h') ∧ Pst h.length e h A E h' A' E' ∧ RR h.length h' A' e E' r v
theorem out_lst {h A e E ds vs} (R : RelE h A e E) (r : FzL h A ds vs) : Out h A e E (.own (.list ds)) E (alloc (.lst vs) h) := by
  refine ⟨_, _, plus A h.length, rfl, pst_lst R, h.length, .lst vs, rfl, Nat.le_refl _, getNew, .inr rfl, fun o => Nat.lt_irrefl _ (R.lt_mine o), vs, rfl, ?_⟩
  exact FzL.ok (ok_app fun b l z => z.elim id fun q => absurd l (by omega)) ds vs r
theorem out_tup {h A e E ds vs} (R : RelE h A e E) (r : FzL h A ds vs) : Out h A e E (.fz (.tuple ds)) E (alloc (.tup vs) h) := by
  refine ⟨_, _, A, rfl, pst_tup R, ?_⟩
  show Fz _ _ (.tuple ds) _
  simp only [Fz]
  refine ⟨h.length, vs, rfl, ?_, FzL.ok (ok_app fun b l z => z) ds vs r⟩
  unfold seqT
  rw [getNew]
theorem out_same {h A e E d v} (R : RelE h A e E) (r : Fz h A d v) : Out h A e E (.fz d) E (some (.ok v, h)) := ⟨v, h, A, rfl, Pst.refl R, r⟩
end HI

set_option maxRecDepth 100000
set_option maxHeartbeats 4000000
/-! operations: over data as in the heap -/
namespace HI
open PySem L2

section
variable {h : Hh} {A : Av} {e : Ev} {E : Dn} {x y v : V}
theorem vw_int {i : Int} (z : Vw h A (.int i) x) : x = .int i := by simpa only [Vw, Fz] using z
theorem vw_str {i : Str} (z : Vw h A (.str i) x) : x = .str i := by simpa only [Vw, Fz] using z
theorem vw_bool {i : Bool} (z : Vw h A (.bool i) x) : x = .bl i := by simpa only [Vw, Fz] using z
theorem vw_none (z : Vw h A .none x) : x = .non := by simpa only [Vw, Fz] using z
theorem vw_list {ds : List PyData} (z : Vw h A (.list ds) x) : ∃ (a : Nat) (xs : List V), x = .ref a ∧ h[a]? = some (.lst xs) ∧ FzL h A ds xs := z
theorem lstAt_of {a : Nat} {xs : List V} (g : h[a]? = some (.lst xs)) : lstAt h a = some xs := by unfold lstAt; rw [g]
theorem vr_list {ds : List PyData} (z : VwR h A (.list ds) x) : ∃ (a : Nat) (xs : List V), x = .ref a ∧ seqL h a = some xs ∧ FzL h A ds xs := z
theorem vr_str {i : Str} (z : VwR h A (.str i) x) : x = .str i := by simpa only [VwR, Fz] using z
theorem vr_tup {ds : List PyData} (z : VwR h A (.tuple ds) x) : ∃ a xs, x = .ref a ∧ seqT h a = some xs ∧ FzL h A ds xs := by
  have z : Fz h A (.tuple ds) x := z
  simpa only [Fz] using z
theorem vw_tup {ds : List PyData} (z : Vw h A (.tuple ds) x) : ∃ a xs, x = .ref a ∧ seqT h a = some xs ∧ FzL h A ds xs := by
  have z : Fz h A (.tuple ds) x := z
  simpa only [Fz] using z
theorem vw_dict {ds : List (PyData × PyData)} (z : Vw h A (.dict ds) x) : ∃ (a : Nat) (c : Nat) (fs : List (Str × V)), x = .ref a ∧ h[a]? = some (.ins c fs) ∧ FzI h A c ds fs := z
theorem fz_bool {b : Bool} : Fz h A (.bool b) (.bl b) := by simp only [Fz]
theorem fz_int {b : Int} : Fz h A (.int b) (.int b) := by simp only [Fz]
theorem fz_str {b : Str} : Fz h A (.str b) (.str b) := by simp only [Fz]
theorem fz_none : Fz h A .none .non := by simp only [Fz]
theorem vD_ok {d : PyData} (z : vD v = some d) : Fz h A d v := by
  cases v <;> simp only [vD] at z <;> cases z
  · exact fz_none
  · exact fz_bool
  · exact fz_int
  · exact fz_str
theorem seqT_notL {a : Nat} {xs : List V} (s : seqT h a = some xs) : seqL h a = none := by
  unfold seqT at s
  unfold seqL
  split at s
  · rename_i e; rw [e]
  · rename_i e; rw [e]
  · cases s
theorem seqT_notl {a : Nat} {xs : List V} (s : seqT h a = some xs) : lstAt h a = none := by
  unfold seqT at s
  unfold lstAt
  split at s
  · rename_i e; rw [e]
  · rename_i e; rw [e]
  · cases s
theorem eqP0_ok {dx dy : PyData} {b : Bool} (vx : Vw h A dx x) (vy : Vw h A dy y) (m : eqP0 dx dy = some b) : eqD h x y = some b := by
  unfold eqP0 at m
  split at m
  · rename_i c
    cases m
    unfold eqD
    rw [rdS_of vx.fz c.1, rdS_of vy.fz c.2]
  · cases m
theorem eqS_none {dx dy : PyData} (vx : Vw h A dx x) (vy : Vw h A dy y) (hn : ∀ s t, ¬ (dx = .str s ∧ dy = .str t)) : eqS x y = none := by
  have str : ∀ {d : PyData} {v : V} {s : Str}, Vw h A d v → v = .str s → d = .str s := fun {d v s} z e => by
    subst e
    cases d with
    | none => exact absurd (vw_none z) (by intro q; cases q)
    | bool b => exact absurd (vw_bool z) (by intro q; cases q)
    | int b => exact absurd (vw_int z) (by intro q; cases q)
    | str t => have := vw_str z; cases this; rfl
    | list ds => obtain ⟨_, _, q, _⟩ := vw_list z; cases q
    | tuple ds => obtain ⟨_, _, q, _⟩ := vw_tup z; cases q
    | dict ds => obtain ⟨_, _, _, q, _⟩ := vw_dict z; cases q
  cases x with
  | str s =>
    cases y with
    | str t => exact absurd ⟨str vx rfl, str vy rfl⟩ (hn s t)
    | _ => rfl
  | _ => rfl
theorem eqP_ok {dx dy : PyData} {b : Bool} (vx : Vw h A dx x) (vy : Vw h A dy y) (m : eqP dx dy = some b) : eqO h x y = some b := by
  by_cases hs : ∃ s t, dx = .str s ∧ dy = .str t
  · obtain ⟨s, t, rfl, rfl⟩ := hs
    obtain rfl := vw_str vx
    obtain rfl := vw_str vy
    have m : some (decide (s = t)) = some b := m
    cases m
    show some (decide (V.str s = V.str t)) = _
    congr 1
    rw [Bool.eq_iff_iff]
    simp
  · have hn : ∀ s t, ¬ (dx = .str s ∧ dy = .str t) := fun s t q => hs ⟨s, t, q⟩
    have m0 : eqP0 dx dy = some b := by
      unfold eqP at m
      split at m
      · exact absurd ⟨rfl, rfl⟩ (hn _ _)
      · exact m
    unfold eqO
    rw [eqS_none vx vy hn]
    exact eqP0_ok vx vy m0
theorem inP_ok {dx dy : PyData} {b : Bool} (vx : Vw h A dx x) (vy : Vw h A dy y) (m : inP dx dy = some b) : inD h x y = some b := by
  unfold inP at m
  split at m
  · rename_i c
    unfold inD
    rw [rdS_of vx.fz c.1, rdS_of vy.fz c.2]
    split at m
    · cases m; rfl
    · cases m
  · cases m
theorem intD_ok {o : Op2} {dx dy d : PyData} (vx : Vw h A dx x) (vy : Vw h A dy y) (m : intD o dx dy = some d) : ∃ v, intO o x y h = some (.ok v, h) ∧ Fz h A d v := by
  unfold intD at m
  split at m
  · obtain ⟨v, hv, m⟩ := Option.bind_eq_some_iff.mp m
    obtain rfl := vw_int vx
    obtain rfl := vw_int vy
    refine ⟨v, ?_, vD_ok m⟩
    show opt (intOp o _ _) h = _
    unfold opt
    rw [hv]; rfl
  · cases m
theorem addD_ok (R : RelE h A e E) {dx dy : PyData} {r : Re} (vx : Vw h A dx x) (vy : Vw h A dy y) (m : addD dx dy = some r) : Out h A e E r E (addO x y h) := by
  unfold addD at m
  split at m
  · cases m
    obtain rfl := vw_int vx
    obtain rfl := vw_int vy
    exact out_same R fz_int
  · split at m
    · rename_i c
      cases m
      obtain rfl := vw_str vx
      obtain rfl := vw_str vy
      refine ⟨_, h, A, ?_, Pst.refl R, show Fz h A (.str _) (.str _) from fz_str⟩
      show (if _ then rt _ else no : Mo V) h = _
      rw [if_pos c]; rfl
    · cases m
  · rename_i ds es
    split at m
    · rename_i c
      cases m
      obtain ⟨a, xs, rfl, hx, rx⟩ := vw_list vx
      obtain ⟨b, ys, rfl, hy, ry⟩ := vw_list vy
      replace hx := lstAt_of hx
      replace hy := lstAt_of hy
      have c' : xs.length + ys.length ≤ sizeLine := by rw [← rx.len, ← ry.len]; exact c
      have e : addO (.ref a) (.ref b) h = alloc (.lst (xs ++ ys)) h := by
        unfold addO
        simp only [hx, hy, c', if_true]
      rw [e]
      exact out_lst R (rx.app ry)
    · cases m
  · rename_i ds es
    split at m
    · rename_i c
      cases m
      obtain ⟨a, xs, rfl, hx, rx⟩ := vw_tup vx
      obtain ⟨b, ys, rfl, hy, ry⟩ := vw_tup vy
      have c' : xs.length + ys.length ≤ sizeLine := by rw [← rx.len, ← ry.len]; exact c
      have e : addO (.ref a) (.ref b) h = catT a b xs ys h := by
        unfold addO
        simp only [seqT_notl hx, seqT_notl hy, hx, hy]
      rw [e]
      unfold catT
      by_cases h1 : xs = []
      · subst h1
        rw [if_pos rfl]
        have e0 : ds = [] := List.eq_nil_of_length_eq_zero (by rw [rx.len]; rfl)
        subst e0
        refine out_same R ?_
        simp only [Fz]
        exact ⟨b, ys, rfl, hy, ry⟩
      · rw [if_neg h1]
        by_cases h2 : ys = []
        · subst h2
          rw [if_pos rfl]
          have e0 : es = [] := List.eq_nil_of_length_eq_zero (by rw [ry.len]; rfl)
          subst e0
          refine out_same R ?_
          simp only [Fz, List.append_nil]
          exact ⟨a, xs, rfl, hx, rx⟩
        · rw [if_neg h2, if_pos c']
          exact out_tup R (rx.app ry)
    · cases m
  · cases m
theorem mulD_ok (R : RelE h A e E) {dx dy : PyData} {r : Re} (vx : Vw h A dx x) (vy : Vw h A dy y) (m : mulD dx dy = some r) : Out h A e E r E (mulO x y h) := by
  unfold mulD at m
  split at m
  · obtain ⟨d, hd, m⟩ := Option.map_eq_some_iff.mp m
    subst m
    obtain ⟨v, h1, h2⟩ := intD_ok (o := .mul) vx vy hd
    obtain rfl := vw_int vx
    obtain rfl := vw_int vy
    exact ⟨v, h, A, h1, Pst.refl R, h2⟩
  · rename_i ds k
    split at m
    · rename_i c
      cases m
      obtain rfl := vw_int vy
      obtain ⟨a, xs, rfl, hx, rx⟩ := vw_list vx
      replace hx := lstAt_of hx
      have c' : xs.length * k.toNat ≤ sizeLine := by rw [← rx.len]; exact c.2
      have e : mulO (.ref a) (.int k) h = alloc (.lst (List.replicate k.toNat xs).flatten) h := by
        unfold mulO
        try dsimp only
        rw [if_pos c.1]
        try dsimp only
        rw [hx]
        try dsimp only
        rw [if_pos c']
      rw [e]
      exact out_lst R (rx.rep _)
    · cases m
  · rename_i ds k
    split at m
    · rename_i c
      cases m
      obtain rfl := vw_int vy
      obtain ⟨a, xs, rfl, hx, rx⟩ := vw_tup vx
      have c' : xs.length * k.toNat ≤ sizeLine := by rw [← rx.len]; exact c.2
      have e : mulO (.ref a) (.int k) h = if xs = [] ∨ k = 1 then rt (.ref a) h else alloc (.tup (List.replicate k.toNat xs).flatten) h := by
        unfold mulO
        try dsimp only
        rw [if_pos c.1]
        try dsimp only
        rw [seqT_notl hx]
        try dsimp only
        rw [hx]
        try dsimp only
        rw [if_pos c']
      rw [e]
      split
      · rename_i c2
        refine out_same R ?_
        simp only [Fz]
        refine ⟨a, xs, rfl, hx, ?_⟩
        rcases c2 with rfl | rfl
        · have e0 : ds = [] := List.eq_nil_of_length_eq_zero (by rw [rx.len]; rfl)
          subst e0
          have : (List.replicate k.toNat ([] : List PyData)).flatten = [] := by
            induction k.toNat with
            | zero => rfl
            | succ n ih => rw [List.replicate_succ, List.flatten_cons, ih]; rfl
          rw [this]; exact FzL.nil
        · show FzL h A (List.replicate 1 ds).flatten xs
          simpa using rx
      · exact out_tup R (rx.rep _)
    · cases m
  · cases m
theorem opD_ok (R : RelE h A e E) {o : Op2} {dx dy : PyData} {r : Re} (vx : Vw h A dx x) (vy : Vw h A dy y) (m : opD o dx dy = some r) : Out h A e E r E (op2 o x y h) := by
  have int : ∀ o, (intD o dx dy).map Re.fz = some r → Out h A e E r E (intO o x y h) := by
    intro o m
    obtain ⟨d, hd, m⟩ := Option.map_eq_some_iff.mp m
    subst m
    obtain ⟨v, h1, h2⟩ := intD_ok vx vy hd
    exact ⟨v, h, A, h1, Pst.refl R, h2⟩
  have bl : ∀ (f : Hh → Option Bool) (g : Bool → Bool) (ob : Option Bool), (∀ b, ob = some b → f h = some b) → ob.map (fun b => Re.fz (.bool (g b))) = some r → Out h A e E r E (look (fun h => (f h).map fun b => V.bl (g b)) h) := by
    intro f g ob hf m
    obtain ⟨b, hb, m⟩ := Option.map_eq_some_iff.mp m
    subst m
    have q : look (fun h => (f h).map fun b => V.bl (g b)) h = some (.ok (.bl (g b)), h) := by
      unfold look
      simp only [hf b hb, Option.map_some]
    rw [q]
    exact out_same R fz_bool
  have isn : ∀ b, isnD dx dy = some b → isO2 x y = some b := by
    intro b m
    unfold isnD at m
    split at m
    · cases m
      obtain rfl := vw_none vy
      show some (decide (x = .non)) = _
      congr 1
      cases dx with
      | none => obtain rfl := vw_none vx; rfl
      | int i => obtain rfl := vw_int vx; rfl
      | bool i => obtain rfl := vw_bool vx; rfl
      | str i => obtain rfl := vw_str vx; rfl
      | list i => obtain ⟨a, xs, rfl, _⟩ := vw_list vx; rfl
      | tuple i => obtain ⟨a, xs, rfl, _⟩ := vw_tup vx; rfl
      | dict i => obtain ⟨_, _, _, rfl, _⟩ := vw_dict vx; rfl
    · unfold isnB at m
      split at m
      · cases m
        obtain rfl := vw_bool vx
        obtain rfl := vw_bool vy
        rfl
      · cases m
    · cases m
  cases o
  case eq => exact bl (fun h => eqO h x y) id _ (fun b hb => eqP_ok vx vy hb) m
  case ne => exact bl (fun h => eqO h x y) not _ (fun b hb => eqP_ok vx vy hb) m
  case in_ => exact bl (fun h => inD h x y) id _ (fun b hb => inP_ok vx vy hb) m
  case notin => exact bl (fun h => inD h x y) not _ (fun b hb => inP_ok vx vy hb) m
  case is_ =>
    obtain ⟨b, hb, m⟩ := Option.map_eq_some_iff.mp (show (isnD dx dy).map (fun b => Re.fz (.bool b)) = some r from m)
    subst m
    refine ⟨.bl b, h, A, ?_, Pst.refl R, (show Fz h A (.bool b) (.bl b) from fz_bool)⟩
    show opt ((isO2 x y).map V.bl) h = _
    rw [isn b hb]; rfl
  case isnot =>
    obtain ⟨b, hb, m⟩ := Option.map_eq_some_iff.mp (show (isnD dx dy).map (fun b => Re.fz (.bool !b)) = some r from m)
    subst m
    refine ⟨.bl !b, h, A, ?_, Pst.refl R, (show Fz h A (.bool !b) (.bl !b) from fz_bool)⟩
    show opt ((isO2 x y).map fun b => V.bl !b) h = _
    rw [isn b hb]; rfl
  case add => exact addD_ok R vx vy m
  case mul => exact mulD_ok R vx vy m
  all_goals exact int _ m
theorem truD_ok {d : PyData} {b : Bool} (z : Vw h A d v) (m : truD d = some b) : truth h v = some b := by
  cases d with
  | none => obtain rfl := vw_none z; exact m
  | int i => obtain rfl := vw_int z; exact m
  | bool i => obtain rfl := vw_bool z; exact m
  | str i => obtain rfl := vw_str z; exact m
  | list ds =>
    obtain ⟨a, xs, rfl, s, r⟩ := vw_list z
    have m : some (!ds.isEmpty) = some b := m
    unfold truth
    simp only [seqL_of s]
    rw [← m]
    congr 2
    have := r.len
    cases ds <;> cases xs <;> first | rfl | cases this
  | tuple ds =>
    obtain ⟨a, xs, rfl, s, r⟩ := vw_tup z
    have m : some (!ds.isEmpty) = some b := m
    unfold truth
    simp only [seqT_notL s, s]
    rw [← m]
    congr 2
    have := r.len
    cases ds <;> cases xs <;> first | rfl | cases this
  | dict i => cases m
theorem tru_ok' {d : PyData} {b : Bool} (z : Vw h A d v) (m : truD d = some b) : tru v h = some (.ok b, h) := by
  show (truth h v).map (fun a => ((Rs.ok a : Rs Bool), h)) = _
  rw [truD_ok z m]; rfl
theorem indexD_ok {dx dy d : PyData} (vx : VwR h A dx x) (vy : Vw h A dy y) (m : indexD dx dy = some d) : ∃ v, index x y h = some (.ok v, h) ∧ Fz h A d v := by
  unfold indexD at m
  split at m
  · obtain rfl := vw_int vy
    obtain ⟨a, xs, rfl, s, r⟩ := vr_list vx
    obtain ⟨v, h1, h2⟩ := r.atI m
    refine ⟨v, ?_, h2⟩
    unfold index look
    simp only [s, h1]; rfl
  · obtain rfl := vw_int vy
    obtain ⟨a, xs, rfl, s, r⟩ := vr_tup vx
    obtain ⟨v, h1, h2⟩ := r.atI m
    refine ⟨v, ?_, h2⟩
    unfold index look
    simp only [seqT_notL s, s, h1]; rfl
  · obtain rfl := vw_int vy
    obtain rfl := vr_str vx
    split at m
    · rename_i c
      obtain ⟨u, hu, m⟩ := Option.map_eq_some_iff.mp m
      subst m
      refine ⟨.str ⟨#[u]⟩, ?_, fz_str⟩
      unfold index
      simp only [c, if_true]
      unfold opt
      rw [hu]; rfl
    · cases m
  · cases m
theorem sliceD_ok (R : RelE h A e E) {d : PyData} {lo hi : Option Int} {r : Re} (z : VwR h A d v) (m : sliceD d lo hi = some r) : Out h A e E r E (slice v lo hi h) := by
  unfold sliceD at m
  split at m
  · cases m
    obtain ⟨a, xs, rfl, s, rr⟩ := vr_list z
    have e1 : slice (.ref a) lo hi h = alloc (.lst (cutV xs lo hi)) h := by
      unfold slice
      simp only [s]
    rw [e1]
    refine out_lst R ?_
    unfold cutD cutV
    rw [rr.len]
    exact (rr.drop _).take _
  · split at m
    · cases m
    · rename_i c
      cases m
      obtain ⟨a, xs, rfl, s, rr⟩ := vr_tup z
      rw [rr.len] at c
      have e1 : slice (.ref a) lo hi h = alloc (.tup (cutV xs lo hi)) h := by
        unfold slice
        simp only [seqT_notL s, s]
        rw [if_neg c]
      rw [e1]
      refine out_tup R ?_
      unfold cutD cutV
      rw [rr.len]
      exact (rr.drop _).take _
  · cases m
/-! sorted -/
theorem kItems_eq {shape : Nat → Bool} : ∀ {ds : List PyData} {xs : List V} (i : Nat), FzL h A ds xs → ∀ l, kItemsD shape i ds = some l → kItems shape i xs = some l
  | [], xs, i, r, l, m => by
    simp only [FzL] at r
    subst r
    exact m
  | d :: ds, xs, i, r, l, m => by
    simp only [FzL] at r
    obtain ⟨x, rr, rfl, f, g⟩ := r
    cases d <;> simp only [kItemsD] at m <;> (try cases m)
    · obtain rfl : x = .int _ := by simpa only [Fz] using f
      simp only [kItems]
      split at m
      · cases m
      · rename_i c
        obtain ⟨l', h1, rfl⟩ := Option.map_eq_some_iff.mp m
        rw [if_neg c, kItems_eq (i + 1) g l' h1]; rfl
    · obtain rfl : x = .str _ := by simpa only [Fz] using f
      simp only [kItems]
      split at m
      · rename_i c
        obtain ⟨l', h1, rfl⟩ := Option.map_eq_some_iff.mp m
        rw [if_pos c, kItems_eq (i + 1) g l' h1]; rfl
      · cases m
theorem key_eq {shape : Nat → Bool} {d : PyData} {l : List Kit} (f : Fz h A d x) (m : keyD shape d = some l) : keyV h shape x = some l := by
  cases d <;> simp only [keyD] at m <;> (try cases m)
  simp only [Fz] at f
  obtain ⟨a, xs, rfl, s, r⟩ := f
  unfold keyV
  simp only [s]
  exact kItems_eq 0 r l m
theorem hasK_eq {shape : Nat → Bool} {d : PyData} (f : Fz h A d x) (m : hasKD shape d = true) : hasK h shape x = true ∧ keyV h shape x = keyD shape d := by
  unfold hasKD at m
  split at m
  · rename_i k l hk
    have q := key_eq f hk
    refine ⟨?_, q.trans hk.symm⟩
    unfold hasK
    rw [q]
  · cases m
theorem ins_congr {α : Type} {f g : α → α → Bool} {x : α} : ∀ {l : List α}, (∀ y ∈ l, f y x = g y x) → ins f x l = ins g x l
  | [], _ => rfl
  | y :: r, k => by
    show (if f y x then y :: ins f x r else x :: y :: r) = (if g y x then y :: ins g x r else x :: y :: r)
    rw [k y List.mem_cons_self, ins_congr fun z hz => k z (List.mem_cons_of_mem _ hz)]
theorem isort_congr {α : Type} {f g : α → α → Bool} : ∀ {l : List α}, (∀ x ∈ l, ∀ y ∈ l, f x y = g x y) → isort f l = isort g l
  | [], _ => rfl
  | x :: r, k => by
    show ins f x (isort f r) = ins g x (isort g r)
    rw [isort_congr fun y hy z hz => k y (List.mem_cons_of_mem _ hy) z (List.mem_cons_of_mem _ hz)]
    exact ins_congr fun y hy => k y (List.mem_cons_of_mem _ (isort_mem.mp hy)) x List.mem_cons_self
theorem isort_fz {ds : List PyData} {xs : List V} {f : PyData → PyData → Bool} {g : V → V → Bool} (r : FzL h A ds xs) (k : ∀ d d' u u', d ∈ ds → d' ∈ ds → Fz h A d u → Fz h A d' u' → g u u' = f d d') : FzL h A (isort f ds) (isort g xs) := by
  obtain ⟨ps, rfl, rfl, z⟩ := FzL.iff.mp r
  rw [isort_map, isort_map]
  have e : isort (fun x y : PyData × V => g x.2 y.2) ps = isort (fun x y => f x.1 y.1) ps := isort_congr fun x hx y hy => k _ _ _ _ (List.mem_map_of_mem hx) (List.mem_map_of_mem hy) (z x hx) (z y hy)
  rw [e]
  exact FzL.iff.mpr ⟨_, rfl, rfl, fun p hp => z p (isort_mem.mp hp)⟩
theorem sortV_ok (R : RelE h A e E) {ds zs : List PyData} {xs : List V} (r : FzL h A ds xs) (m : sortD ds = some zs) : Out h A e E (.own (.list zs)) E (sortV xs h) := by
  have alli : ds.all isID = true → xs.all isI = true := fun q => by
    obtain ⟨ps, rfl, rfl, k⟩ := FzL.iff.mp r
    rw [List.all_eq_true] at q ⊢
    intro u hu
    obtain ⟨p, hp, rfl⟩ := List.mem_map.mp hu
    have q1 := q p.1 (List.mem_map_of_mem hp)
    have q2 := k p hp
    cases hp1 : p.1 with
    | int i =>
      rw [hp1] at q2
      have : p.2 = .int i := by simpa only [Fz] using q2
      rw [this]; rfl
    | _ => rw [hp1] at q1; cases q1
  unfold sortD at m
  split at m
  · rename_i c
    cases m
    have e1 : sortV xs h = alloc (.lst (isort ltI xs)) h := by
      unfold sortV
      simp only [alli c, if_true]
    rw [e1]
    refine out_lst R (isort_fz r fun d d' u u' hd hd' f1 f2 => ?_)
    have q1 := List.all_eq_true.mp c d hd
    have q2 := List.all_eq_true.mp c d' hd'
    cases d <;> (try cases q1)
    cases d' <;> (try cases q2)
    obtain rfl : u = .int _ := by simpa only [Fz] using f1
    obtain rfl : u' = .int _ := by simpa only [Fz] using f2
    rfl
  · split at m
    · rename_i k rest _
      split at m
      · rename_i hall
        cases m
        have hk : ∀ d ∈ (PyData.tuple k :: rest), hasKD (shapeD k) d = true := List.all_eq_true.mp hall
        have r' := r
        simp only [FzL, Fz] at r'
        obtain ⟨x, xr, rfl, ⟨b, ks, rfl, hs, rk⟩, rr⟩ := r'
        have esh : shapeOf ks = shapeD k := by
          funext i
          unfold shapeOf shapeD
          cases hi : k[i]? with
          | none =>
            have : ks[i]? = none := List.getElem?_eq_none (by rw [← rk.len]; exact List.getElem?_eq_none_iff.mp hi)
            rw [this]
          | some d =>
            obtain ⟨u, hu, f⟩ := rk.get hi
            rw [hu]
            cases d with
            | none => obtain rfl : u = .non := by simpa only [Fz] using f
                      rfl
            | bool i => obtain rfl : u = .bl _ := by simpa only [Fz] using f
                        rfl
            | int i => obtain rfl : u = .int _ := by simpa only [Fz] using f
                       rfl
            | str i => obtain rfl : u = .str _ := by simpa only [Fz] using f
                       rfl
            | list i =>
              simp only [Fz] at f
              obtain ⟨a, xs, rfl, _⟩ := f
              rfl
            | tuple i =>
              simp only [Fz] at f
              obtain ⟨a, xs, rfl, _⟩ := f
              rfl
            | dict i =>
              simp only [Fz] at f
              obtain ⟨a, c, fs, rfl, _⟩ := f
              rfl
        have hall2 : (V.ref b :: xr).all (hasK h (shapeOf ks)) = true := by
          obtain ⟨ps, e1, e2, kk⟩ := FzL.iff.mp r
          rw [e2, esh, List.all_eq_true]
          intro u hu
          obtain ⟨p, hp, rfl⟩ := List.mem_map.mp hu
          exact (hasK_eq (kk p hp) (hk p.1 (by rw [e1]; exact List.mem_map_of_mem hp))).1
        have ni : ¬ (V.ref b :: xr).all isI = true := by
          intro z
          rw [List.all_cons, Bool.and_eq_true] at z
          cases z.1
        have e1 : sortV (V.ref b :: xr) h = alloc (.lst (isort (ltK h (shapeOf ks)) (V.ref b :: xr))) h := by
          unfold sortV
          rw [if_neg ni]
          simp only [hs]
          rw [if_pos hall2]
        rw [e1, esh]
        refine out_lst R (isort_fz r fun d d' u u' hd hd' f1 f2 => ?_)
        unfold ltK ltD
        rw [(hasK_eq f1 (hk d hd)).2, (hasK_eq f2 (hk d' hd')).2]
      · cases m
    · cases m
theorem sortD_ok (R : RelE h A e E) {ds zs : List PyData} (z : Vw h A (.list ds) v) (m : sortD ds = some zs) : Out h A e E (.own (.list zs)) E (sortO v h) := by
  obtain ⟨a, xs, rfl, s, r⟩ := vw_list z
  replace s := seqL_of s
  have e1 : sortO (.ref a) h = sortV xs h := by
    unfold sortO
    simp only [s]
  rw [e1]
  exact sortV_ok R r m
end
end HI

set_option maxRecDepth 100000
set_option maxHeartbeats 4000000
/-! giving away, changing a list, results in a row -/
namespace HI
open PySem L2

section
variable {α β : Type} {a : α} {b : β} {E E1 E2 : Dn}
theorem bd_eq {m : Mo α} {f : α → Mo β} {h h1 : Hh} (e : m h = some (.ok a, h1)) : bd m f h = f a h1 := by unfold bd; rw [e]
end


/-- .. as data -/
def VwL (h : Hh) (A : Av) : List PyData → List V → Prop
  | [], vs => vs = []
  | d :: ds, vs => ∃ v ws, vs = v :: ws ∧ Vw h A d v ∧ VwL h A ds ws
end HI

set_option maxRecDepth 100000
set_option maxHeartbeats 4000000
/-! all terms: over data as in the heap -/
namespace HI
open PySem L2

section
variable {h : Hh} {A : Av} {e : Ev} {E : Dn}
theorem look_of {α : Type} {f : Hh → Option α} {a : α} (q : f h = some a) : look f h = some (.ok a, h) := by unfold look; rw [q]; rfl
theorem Out.eq' {r : Re} {E' : Dn} {o o' : Option (Rs V × Hh)} (z : Out h A e E r E' o) (q : o' = o) : Out h A e E r E' o' := by rw [q]; exact z
theorem all_look {a : Nat} {xs : List V} {c : List Bool} (g : seqL h a = some xs) (e1 : boolsO xs = some c) : allO (.ref a) h = some (.ok (.bl (c.all id)), h) := by
  unfold allO look; simp [g, e1]
theorem any_look {a : Nat} {xs : List V} {c : List Bool} (g : seqL h a = some xs) (e1 : boolsO xs = some c) : anyO (.ref a) h = some (.ok (.bl (c.any id)), h) := by
  unfold anyO look; simp [g, e1]
theorem sum_look {a : Nat} {xs : List V} {c : List Int} (g : seqL h a = some xs) (e1 : intsO xs = some c) : sumO (.ref a) h = some (.ok (.int c.sum), h) := by
  unfold sumO look; simp [g, e1]
theorem max_look {a : Nat} {xs : List V} {ns : List Int} {c : Int} (g : seqL h a = some xs) (e1 : intsO xs = some ns) (e2 : maxI ns = some c) : maxO (.ref a) h = some (.ok (.int c), h) := by
  unfold maxO look; simp [g, e1, e2]
theorem min_look {a : Nat} {xs : List V} {ns : List Int} {c : Int} (g : seqL h a = some xs) (e1 : intsO xs = some ns) (e2 : minI ns = some c) : minO (.ref a) h = some (.ok (.int c), h) := by
  unfold minO look; simp [g, e1, e2]
theorem boolL_ok : ∀ {ds : List PyData} {xs : List V} {bs : List Bool}, FzL h A ds xs → boolL ds = some bs → boolsO xs = some bs
  | [], xs, bs, r, m => by
    simp only [FzL] at r
    subst r
    unfold boolL at m
    rw [List.mapM_nil] at m
    cases m; rfl
  | d :: ds, xs, bs, r, m => by
    simp only [FzL] at r
    obtain ⟨x, xr, rfl, f, g⟩ := r
    unfold boolL at m
    rw [List.mapM_cons] at m
    cases d with
    | bool b =>
      obtain rfl : x = .bl b := by simpa only [Fz] using f
      cases hr : boolL ds with
      | none => unfold boolL at hr; simp only [hr] at m; cases m
      | some cs =>
        have e2 := boolL_ok g hr
        unfold boolL at hr; simp only [hr] at m
        cases m
        unfold boolsO at *
        rw [List.mapM_cons]
        simp only [e2]; rfl
    | _ => cases m
theorem intL_ok : ∀ {ds : List PyData} {xs : List V} {bs : List Int}, FzL h A ds xs → intL ds = some bs → intsO xs = some bs
  | [], xs, bs, r, m => by
    simp only [FzL] at r
    subst r
    unfold intL at m
    rw [List.mapM_nil] at m
    cases m; rfl
  | d :: ds, xs, bs, r, m => by
    simp only [FzL] at r
    obtain ⟨x, xr, rfl, f, g⟩ := r
    unfold intL at m
    rw [List.mapM_cons] at m
    cases d with
    | int b =>
      obtain rfl : x = .int b := by simpa only [Fz] using f
      cases hr : intL ds with
      | none => unfold intL at hr; simp only [hr] at m; cases m
      | some cs =>
        have e2 := intL_ok g hr
        unfold intL at hr; simp only [hr] at m
        cases m
        unfold intsO at *
        rw [List.mapM_cons]
        simp only [e2]; rfl
    | _ => cases m
theorem boolsD_ok {d : PyData} {v : V} {bs : List Bool} (z : Vw h A d v) (m : boolsD d = some bs) : ∃ (a : Nat) (xs : List V), v = .ref a ∧ h[a]? = some (.lst xs) ∧ boolsO xs = some bs := by
  unfold boolsD at m
  split at m
  · obtain ⟨a, xs, e, g, r⟩ := vw_list z
    exact ⟨a, xs, e, g, boolL_ok r m⟩
  · cases m
theorem intsD_ok {d : PyData} {v : V} {bs : List Int} (z : Vw h A d v) (m : intsD d = some bs) : ∃ (a : Nat) (xs : List V), v = .ref a ∧ h[a]? = some (.lst xs) ∧ intsO xs = some bs := by
  unfold intsD at m
  split at m
  · obtain ⟨a, xs, e, g, r⟩ := vw_list z
    exact ⟨a, xs, e, g, intL_ok r m⟩
  · cases m
theorem isD_ok (R : RelE h A e E) {d : PyData} {v : V} {t : String} {r : Re} (z : Vw h A d v) (m : isD t d = some r) : Out h A e E r E (isO t v h) := by
  unfold isD at m
  obtain ⟨s, hs, m⟩ := Option.map_eq_some_iff.mp m
  subst m
  refine (out_same R fz_bool).eq' (look_of ?_)
  have : tyO h v = some s := by
    cases d with
    | none => obtain rfl := vw_none z; exact hs
    | bool b => obtain rfl := vw_bool z; exact hs
    | int b => obtain rfl := vw_int z; exact hs
    | str b => obtain rfl := vw_str z; exact hs
    | list ds =>
      obtain ⟨a, xs, rfl, g, _⟩ := vw_list z
      unfold tyO
      simp only [seqL_of g]
      exact hs
    | tuple ds =>
      obtain ⟨a, xs, rfl, g, _⟩ := vw_tup z
      unfold tyO
      simp only [seqT_notL g, g]
      exact hs
    | dict ds => cases hs
  rw [this]; rfl
theorem Out.afterX {h1 : Hh} {A1 : Av} {E1 E2 : Dn} {r : Re} {o : Option (Rs V × Hh)} (p : Pst h.length e h A E h1 A1 E1) (q : Out h1 A1 e E1 r E2 o) : Out h A e E r E2 o := by
  obtain ⟨v, h2, A2, k, p2, z⟩ := q
  exact ⟨v, h2, A2, k, p.trans (p2.mono p.le), z.mono p.le⟩
theorem pairs_ok {n : Nat} : ∀ (ds es : List PyData) {xs ys : List V} {h : Hh}, RelE h A e E → FzL h A ds xs → FzL h A es ys →
    ∃ vs h', pairsO xs ys h = some (.ok vs, h') ∧ Pst n e h A E h' A E ∧ FzL h' A (List.zipWith (fun x y => PyData.tuple [x, y]) ds es) vs ∧ ∀ d v, Fz h A d v → Fz h' A d v
  | [], es, xs, ys, h, R, r1, r2 => by
    simp only [FzL] at r1
    subst r1
    exact ⟨[], h, (by cases ys <;> rfl), Pst.refl R, by simp only [List.zipWith_nil_left, FzL], fun _ _ z => z⟩
  | d :: ds, [], xs, ys, h, R, r1, r2 => by
    simp only [FzL] at r2
    subst r2
    exact ⟨[], h, (by cases xs <;> rfl), Pst.refl R, by simp only [List.zipWith_nil_right, FzL], fun _ _ z => z⟩
  | d :: ds, f :: es, xs, ys, h, R, r1, r2 => by
    simp only [FzL] at r1 r2
    obtain ⟨x, xr, rfl, z1, r1⟩ := r1
    obtain ⟨y, yr, rfl, z2, r2⟩ := r2
    have o : Ok h A (h ++ [.tup [x, y]]) A := ok_app fun b l z => z
    have p1 : Pst n e h A E (h ++ [.tup [x, y]]) A E := pst_tup R
    obtain ⟨vs, h', k, p2, r3, mo⟩ := pairs_ok (n := n) ds es p1.rel (FzL.ok o _ _ r1) (FzL.ok o _ _ r2)
    have zt : Fz (h ++ [.tup [x, y]]) A (.tuple [d, f]) (.ref h.length) := by
      simp only [Fz]
      refine ⟨h.length, [x, y], rfl, ?_, ?_⟩
      · unfold seqT
        rw [getNew]
      · simp only [FzL]
        exact ⟨x, [y], rfl, Fz.ok o _ _ z1, y, [], rfl, Fz.ok o _ _ z2, rfl⟩
    refine ⟨.ref h.length :: vs, h', ?_, p1.trans p2, ?_, fun d v z => mo _ _ (Fz.ok o _ _ z)⟩
    · rw [pairsO]
      have k0 : alloc (.tup [x, y]) h = some (.ok (.ref h.length), h ++ [.tup [x, y]]) := rfl
      rw [bd_eq k0, bd_eq k]; rfl
    · simp only [List.zipWith_cons_cons, FzL]
      exact ⟨_, vs, rfl, mo _ _ zt, r3⟩
theorem bfnD_ok (R : RelE h A e E) {f : String} {ds : List PyData} {vs : List V} {r : Re} (z : VwL h A ds vs) (m : bfnD f ds = some r) : Out h A e E r E (bfn f vs h) := by
  unfold bfnD at m
  split at m
  · rename_i d
    obtain ⟨v, ws, rfl, zv, zw⟩ := z
    have zw : ws = [] := zw
    subst zw
    split at m
    · obtain ⟨c, hc, m⟩ := Option.map_eq_some_iff.mp m
      subst m
      show Out h A e E _ E (lenO v h)
      cases d <;> simp only [lenD] at hc <;> (try cases hc)
      · split at hc
        · rename_i c
          cases hc
          obtain rfl := vw_str zv
          refine ⟨.int _, h, A, ?_, Pst.refl R, (show Fz h A (.int _) (.int _) from fz_int)⟩
          show (if _ then rt _ else no : Mo V) h = _
          rw [if_pos c]; rfl
        · cases hc
      · obtain ⟨a, xs, rfl, g, r⟩ := vw_list zv
        refine ⟨.int _, h, A, ?_, Pst.refl R, (show Fz h A (.int _) (.int _) from fz_int)⟩
        unfold lenO look
        simp only [seqL_of g, r.len]; rfl
      · obtain ⟨a, xs, rfl, g, r⟩ := vw_tup zv
        refine ⟨.int _, h, A, ?_, Pst.refl R, (show Fz h A (.int _) (.int _) from fz_int)⟩
        unfold lenO look
        simp only [seqT_notL g, g, r.len]; rfl
    · split at m
      · cases m
        obtain rfl := vw_int zv
        exact out_same R fz_int
      · cases m
    · split at m
      · cases m
        obtain rfl := vw_int zv
        exact out_same R fz_int
      · cases m
        obtain rfl := vw_bool zv
        exact out_same R fz_int
      · cases m
    · show Out h A e E _ E (tupleO v h)
      split at m
      · cases m
        obtain ⟨a, xs, rfl, g, r⟩ := vw_list zv
        have : tupleO (.ref a) h = alloc (.tup xs) h := by
          unfold tupleO
          simp only [seqL_of g]
        rw [this]
        exact out_tup R r
      · cases m
        obtain ⟨a, xs, rfl, g, r⟩ := vw_tup zv
        have : tupleO (.ref a) h = some (.ok (.ref a), h) := by
          unfold tupleO
          simp only [seqT_notL g, g]; rfl
        rw [this]
        refine out_same R ?_
        simp only [Fz]
        exact ⟨a, xs, rfl, g, r⟩
      · cases m
    · show Out h A e E _ E (listO v h)
      split at m
      · cases m
        obtain ⟨a, xs, rfl, g, r⟩ := vw_list zv
        have : listO (.ref a) h = alloc (.lst xs) h := by
          unfold listO
          simp only [seqL_of g]
        rw [this]
        exact out_lst R r
      · cases m
        obtain ⟨a, xs, rfl, g, r⟩ := vw_tup zv
        have : listO (.ref a) h = alloc (.lst xs) h := by
          unfold listO
          simp only [seqT_notL g, g]
        rw [this]
        exact out_lst R r
      · cases m
    · show Out h A e E _ E (reprO v h)
      obtain ⟨c, hc, m⟩ := Option.map_eq_some_iff.mp m
      subst m
      unfold reprD at hc
      split at hc
      · rename_i k
        cases hc
        refine ⟨.str _, h, A, ?_, Pst.refl R, (show Fz h A (.str _) (.str _) from fz_str)⟩
        unfold reprO look
        simp only [rdS_of zv.fz k.1]
        rw [if_pos ⟨k.2.1, k.2.2.1, k.2.2.2⟩]; rfl
      · cases hc
    · show Out h A e E _ E (sortO v h)
      split at m
      · obtain ⟨c, hc, m⟩ := Option.map_eq_some_iff.mp m
        subst m
        exact sortD_ok R zv hc
      · cases m
    · obtain ⟨c, hc, m⟩ := Option.map_eq_some_iff.mp m
      subst m
      obtain ⟨a, xs, rfl, g, e1⟩ := boolsD_ok zv hc
      show Out h A e E _ E (allO (.ref a) h)
      exact (out_same R (fz_bool (b := c.all id))).eq' (all_look (seqL_of g) e1)
    · obtain ⟨c, hc, m⟩ := Option.map_eq_some_iff.mp m
      subst m
      obtain ⟨a, xs, rfl, g, e1⟩ := boolsD_ok zv hc
      show Out h A e E _ E (anyO (.ref a) h)
      exact (out_same R (fz_bool (b := c.any id))).eq' (any_look (seqL_of g) e1)
    · obtain ⟨c, hc, m⟩ := Option.map_eq_some_iff.mp m
      subst m
      obtain ⟨a, xs, rfl, g, e1⟩ := intsD_ok zv hc
      show Out h A e E _ E (sumO (.ref a) h)
      exact (out_same R (fz_int (b := c.sum))).eq' (sum_look (seqL_of g) e1)
    · obtain ⟨c, hc, m⟩ := Option.map_eq_some_iff.mp m
      subst m
      obtain ⟨ns, hn, hc⟩ := Option.bind_eq_some_iff.mp hc
      obtain ⟨a, xs, rfl, g, e1⟩ := intsD_ok zv hn
      show Out h A e E _ E (maxO (.ref a) h)
      exact (out_same R (fz_int (b := c))).eq' (max_look (seqL_of g) e1 hc)
    · obtain ⟨c, hc, m⟩ := Option.map_eq_some_iff.mp m
      subst m
      obtain ⟨ns, hn, hc⟩ := Option.bind_eq_some_iff.mp hc
      obtain ⟨a, xs, rfl, g, e1⟩ := intsD_ok zv hn
      show Out h A e E _ E (minO (.ref a) h)
      exact (out_same R (fz_int (b := c))).eq' (min_look (seqL_of g) e1 hc)
    · show Out h A e E _ E (revO v h)
      split at m
      · cases m
        obtain ⟨a, xs, rfl, g, r⟩ := vw_list zv
        have : revO (.ref a) h = alloc (.lst xs.reverse) h := by
          unfold revO
          simp only [seqL_of g]
        rw [this]
        exact out_lst R r.rev
      · cases m
    · exact isD_ok R zv m
    · exact isD_ok R zv m
    · exact isD_ok R zv m
    · exact isD_ok R zv m
    · exact isD_ok R zv m
    · cases m
  · obtain ⟨v, ws, rfl, zv, w2, ws2, rfl, zw, zz⟩ := z
    have zz : ws2 = [] := zz
    subst zz
    obtain rfl := vw_int zv
    obtain rfl := vw_int zw
    split at m
    · cases m
      exact out_same R fz_int
    · cases m
      exact out_same R fz_int
    · cases m
  · obtain ⟨v, ws, rfl, zv, w2, ws2, rfl, zw, zz⟩ := z
    have zz : ws2 = [] := zz
    subst zz
    obtain ⟨a, xs, rfl, g1, r1⟩ := vw_list zv
    obtain ⟨b, ys, rfl, g2, r2⟩ := vw_list zw
    split at m
    · obtain ⟨c, hc, m⟩ := Option.map_eq_some_iff.mp m
      subst m
      obtain ⟨vs, h', k, p, r3, _⟩ := pairs_ok (n := h.length) _ _ R r1 r2
      refine (Out.afterX p (sortV_ok p.rel r3 hc)).eq' ?_
      show szO (.ref a) (.ref b) h = _
      unfold szO
      simp only [seqL_of g1, seqL_of g2]
      rw [bd_eq k]
    · cases m
  · cases m
/-- a name's list changed by a method -/
theorem lmeth_ok {xs ys ds : List PyData} {ms : String} {a : Nat} {vs ws : List V} (g : h[a]? = some (.lst vs)) (r : FzL h A xs vs) (s : FzL h A ds ws) (m : lmethD ms xs ds = some ys) : ∃ vs', lmeth ms a ws h = some (.ok .non, h.set a (.lst vs')) ∧ FzL h A ys vs' := by
  unfold lmethD at m
  have gl := lstAt_of g
  split at m
  · simp only [FzL] at s
    obtain ⟨x, _, rfl, f, rfl⟩ := s
    split at m
    · rename_i c
      cases m
      refine ⟨vs ++ [x], ?_, r.app (FzL.one f)⟩
      unfold lmeth
      rw [gl]
      exact if_pos (by rw [← r.len]; exact c)
    · cases m
  · simp only [FzL] at s
    obtain ⟨x0, _, rfl, f0, x, _, rfl, f, rfl⟩ := s
    obtain rfl : x0 = .int _ := by simpa only [Fz] using f0
    split at m
    · rename_i c
      cases m
      refine ⟨vs.take _ ++ [x] ++ vs.drop _, ?_, ((r.take _).app (FzL.one f)).app (r.drop _)⟩
      unfold lmeth
      rw [gl]
      exact if_pos (by rw [← r.len]; exact c)
    · cases m
  · simp only [FzL] at s
    subst s
    cases m
    refine ⟨[], ?_, FzL.nil⟩
    unfold lmeth
    rw [gl]; rfl
  · simp only [FzL] at s
    subst s
    cases m
    refine ⟨vs.reverse, ?_, r.rev⟩
    unfold lmeth
    rw [gl]; rfl
  · cases m
end
end HI

set_option maxRecDepth 100000
set_option maxHeartbeats 4000000
/-! instances as data, fields, wiped names -/
namespace HI
open PySem L2

section
variable {h : Hh} {A : Av} {e : Ev} {E : Dn}
theorem wipeE_get : ∀ (vs : List Nat) (e : Ev) (j : Nat), j ∉ vs → (wipeE e vs)[j]? = e[j]?
  | [], E, j, _ => rfl
  | i :: vs, E, j, n => by
    show ((wipeE E vs).set i none)[j]? = _
    rw [List.getElem?_set_ne fun q => n (by rw [q]; exact List.mem_cons_self), wipeE_get vs E j fun q => n (List.mem_cons_of_mem _ q)]
theorem wipeE_len : ∀ (vs : List Nat) (e : Ev), (wipeE e vs).length = e.length
  | [], E => rfl
  | i :: vs, E => by
    show ((wipeE E vs).set i none).length = _
    rw [List.length_set, wipeE_len vs E]
end

section
variable {h : Hh} {A : Av} {e : Ev} {E : Dn}
end
section
variable {C : Cfg} {D : DC}
theorem decF_ok : ∀ {r : List (PyData × PyData)} {fs : List (Str × PyData)} {vs : List (Str × V)}, FzF h A r vs → decF r = some fs →
    r = encF fs ∧ fs.length = vs.length ∧ (∀ f, fs.lookup f = none → vs.lookup f = none) ∧ ∀ f d, fs.lookup f = some d → ∃ v, vs.lookup f = some v ∧ Fz h A d v
  | [], fs, vs, z, m => by
    simp only [FzF] at z
    subst z
    cases m
    exact ⟨rfl, rfl, fun _ _ => rfl, fun f d e => by cases e⟩
  | (k, d) :: r, fs, vs, z, m => by
    simp only [FzF] at z
    obtain ⟨f, x, fr, rfl, rfl, z1, z2⟩ := z
    obtain ⟨gs, hg, m⟩ := Option.map_eq_some_iff.mp (show (decF r).map (fun z => (f, d) :: z) = some fs from m)
    subst m
    obtain ⟨e1, e2, e3, e4⟩ := decF_ok z2 hg
    subst e1
    refine ⟨rfl, congrArg (· + 1) e2, fun g e => ?_, fun g d' e => ?_⟩
    · rw [List.lookup_cons] at e ⊢
      cases hq : g == f with
      | true => rw [hq] at e; cases e
      | false => rw [hq] at e; exact e3 g e
    · rw [List.lookup_cons] at e ⊢
      cases hq : g == f with
      | true => rw [hq] at e; cases e; exact ⟨x, rfl, z1⟩
      | false => rw [hq] at e; exact e4 g d' e
/-- an instance's data and its object -/
theorem insOf_ok {d : PyData} {c : Nat} {fs : List (Str × PyData)} {x : V} (z : Vw h A d x) (m : insOf d = some (c, fs)) :
    d = insD c fs ∧ ∃ (a : Nat) (vs : List (Str × V)), x = .ref a ∧ h[a]? = some (.ins c vs) ∧ FzF h A (encF fs) vs ∧ fs.length = vs.length ∧ (∀ f, fs.lookup f = none → vs.lookup f = none) ∧ ∀ f d, fs.lookup f = some d → ∃ v, vs.lookup f = some v ∧ Fz h A d v := by
  unfold insOf at m
  split at m
  · rename_i c' r
    obtain ⟨gs, hg, m⟩ := Option.map_eq_some_iff.mp m
    cases m
    obtain ⟨a, c2, vs, rfl, g, q⟩ := vw_dict z
    simp only [FzI] at q
    obtain ⟨_, q1, q2⟩ := q
    have : c = c2 := by
      have : (Int.ofNat c) = (c2 : Int) := by
        have := q1
        injection this
      exact Int.ofNat.inj this
    subst this
    obtain ⟨e1, e2, e3, e4⟩ := decF_ok q2 hg
    subst e1
    exact ⟨rfl, a, vs, rfl, g, q2, e2, e3, e4⟩
  · cases m
theorem recv_ins {mm : Str} {a c : Nat} {vs : List (Str × V)} (g : h[a]? = some (.ins c vs)) (hl : vs.lookup mm = none) : recv mm (.ref a) h = some (.ok (.ins c a), h) := by
  show ((match h[a]? with
    | some (.lst _) => some (Rc.lst a)
    | some (.ins c fs) => if fs.lookup mm = none then some (.ins c a) else none
    | _ => none).map fun a => ((Rs.ok a : Rs Rc), h)) = _
  rw [g]
  dsimp only
  rw [if_pos hl]; rfl
theorem recv_lst {mm : Str} {a : Nat} {vs : List V} (g : h[a]? = some (.lst vs)) : recv mm (.ref a) h = some (.ok (.lst a), h) := by
  show ((match h[a]? with
    | some (.lst _) => some (Rc.lst a)
    | some (.ins c fs) => if fs.lookup mm = none then some (.ins c a) else none
    | _ => none).map fun a => ((Rs.ok a : Rs Rc), h)) = _
  rw [g]; rfl
end

section
variable {C : Cfg} {D : DC} {P : List Nat}
theorem putF_fz {h : Hh} {A : Av} {f : Str} {d : PyData} {v : V} (z : Fz h A d v) : ∀ {fs : List (Str × PyData)} {vs : List (Str × V)}, FzF h A (encF fs) vs → FzF h A (encF (putD f d fs)) (putF f v vs)
  | [], vs, q => by
    simp only [encF, FzF] at q
    subst q
    show FzF h A [(.str f, d)] [(f, v)]
    simp only [FzF]
    exact ⟨f, v, [], rfl, rfl, z, rfl⟩
  | (g, d0) :: r, vs, q => by
    simp only [encF, FzF] at q
    obtain ⟨g', x, fr, rfl, e1, q1, q2⟩ := q
    cases e1
    show FzF h A (encF (if g = f then (g, d) :: r else (g, d0) :: putD f d r)) (if g = f then (g, v) :: fr else (g, x) :: putF f v fr)
    by_cases hg : g = f
    · rw [if_pos hg, if_pos hg]
      simp only [encF, FzF]
      exact ⟨g, v, fr, rfl, rfl, z, q2⟩
    · rw [if_neg hg, if_neg hg]
      simp only [encF, FzF]
      exact ⟨g, x, _, rfl, rfl, q1, putF_fz z q2⟩
end
end HI

set_option maxRecDepth 100000
set_option maxHeartbeats 4000000
/-! symbolic states: what names hold; owned trees; steps of a term that keep the rest -/
namespace HJ
open PySem L2 HI

/-- an owned thing and what it owns; a node's number stands for its object's contents -/
inductive Tr
  | fz (d : PyData) | own (d : PyData) | lst (n : Nat) (ts : List Tr) | tup (n : Nat) (ts : List Tr) | ins (n c : Nat) (fs : List (Str × Tr))
inductive Sl | ix (n : Nat) | fl (f : Str)
  deriving DecidableEq
inductive Va | fz (d : PyData) | own (d : PyData) | rol (xs : List PyData) | tr (t : Tr) | bor (i : Nat) (q : List Sl) (m : Nat) (k : Sl)
inductive Re | fz (d : PyData) | own (d : PyData) | var (i : Nat) | rol (xs : List PyData) | tr (t : Tr) | pt (i : Nat) (q : List Sl) (m : Nat) (k : Sl)
abbrev Dn := List (Option Va)
/-- what the numbers stand for -/
abbrev Gm := Nat → Option Ob
abbrev Fp := Nat → List Nat

mutual
def TrR (h : Hh) (A : Av) (σ : Gm) : Tr → V → List Nat → Prop
  | .fz d, v, F => Fz h A d v ∧ F = []
  | .own d, v, F => ∃ (a : Nat) (o : Ob), v = .ref a ∧ h[a]? = some o ∧ Cn h A d o ∧ F = [a]
  | .lst n ts, v, F => ∃ (a : Nat) (xs : List V) (G : List Nat), v = .ref a ∧ h[a]? = some (.lst xs) ∧ σ n = some (.lst xs) ∧ TrL h A σ ts xs G ∧ F = a :: G
  | .tup n ts, v, F => ∃ (a : Nat) (xs : List V), v = .ref a ∧ seqT h a = some xs ∧ σ n = some (.tup xs) ∧ TrL h A σ ts xs F
  | .ins n c fs, v, F => ∃ (a : Nat) (vs : List (Str × V)) (G : List Nat), v = .ref a ∧ h[a]? = some (.ins c vs) ∧ σ n = some (.ins c vs) ∧ TrF h A σ fs vs G ∧ F = a :: G
def TrL (h : Hh) (A : Av) (σ : Gm) : List Tr → List V → List Nat → Prop
  | [], xs, F => xs = [] ∧ F = []
  | t :: ts, xs, F => ∃ (x : V) (r : List V) (F1 F2 : List Nat), xs = x :: r ∧ TrR h A σ t x F1 ∧ TrL h A σ ts r F2 ∧ F = F1 ++ F2
def TrF (h : Hh) (A : Av) (σ : Gm) : List (Str × Tr) → List (Str × V) → List Nat → Prop
  | [], vs, F => vs = [] ∧ F = []
  | (f, t) :: ts, vs, F => ∃ (x : V) (r : List (Str × V)) (F1 F2 : List Nat), vs = (f, x) :: r ∧ TrR h A σ t x F1 ∧ TrF h A σ ts r F2 ∧ F = F1 ++ F2
end
def Sub (σ σ' : Gm) : Prop := ∀ n o, σ n = some o → σ' n = some o
theorem Sub.refl {σ : Gm} : Sub σ σ := fun _ _ z => z
theorem Sub.trans {σ τ υ : Gm} (a : Sub σ τ) (b : Sub τ υ) : Sub σ υ := fun n o z => b n o (a n o z)
mutual
theorem TrR.ok {h h' : Hh} {A A' : Av} {σ σ' : Gm} (k : Ok h A h' A') (g : Sub σ σ') : ∀ (t : Tr) (v : V) (F : List Nat), TrR h A σ t v F → (∀ b ∈ F, h'[b]? = h[b]?) → TrR h' A' σ' t v F
  | .fz d, v, F, z, s => by
    simp only [TrR] at z ⊢
    exact ⟨Fz.ok k d v z.1, z.2⟩
  | .own d, v, F, z, s => by
    simp only [TrR] at z ⊢
    obtain ⟨a, o, e, q, c, rfl⟩ := z
    exact ⟨a, o, e, (s a (by simp)).trans q, c.ok k, rfl⟩
  | .lst n ts, v, F, z, s => by
    simp only [TrR] at z ⊢
    obtain ⟨a, xs, G, e, q, u, r, rfl⟩ := z
    exact ⟨a, xs, G, e, (s a (by simp)).trans q, g _ _ u, TrL.ok k g ts xs G r fun b hb => s b (by simp [hb]), rfl⟩
  | .tup n ts, v, F, z, s => by
    simp only [TrR] at z ⊢
    obtain ⟨a, xs, e, q, u, r⟩ := z
    exact ⟨a, xs, e, k.t a xs q, g _ _ u, TrL.ok k g ts xs F r s⟩
  | .ins n c fs, v, F, z, s => by
    simp only [TrR] at z ⊢
    obtain ⟨a, xs, G, e, q, u, r, rfl⟩ := z
    exact ⟨a, xs, G, e, (s a (by simp)).trans q, g _ _ u, TrF.ok k g fs xs G r fun b hb => s b (by simp [hb]), rfl⟩
theorem TrL.ok {h h' : Hh} {A A' : Av} {σ σ' : Gm} (k : Ok h A h' A') (g : Sub σ σ') : ∀ (ts : List Tr) (xs : List V) (F : List Nat), TrL h A σ ts xs F → (∀ b ∈ F, h'[b]? = h[b]?) → TrL h' A' σ' ts xs F
  | [], xs, F, z, s => by simpa only [TrL] using z
  | t :: ts, xs, F, z, s => by
    simp only [TrL] at z ⊢
    obtain ⟨x, r, F1, F2, rfl, a, b, rfl⟩ := z
    exact ⟨x, r, F1, F2, rfl, TrR.ok k g t x F1 a fun c hc => s c (by simp [hc]), TrL.ok k g ts r F2 b fun c hc => s c (by simp [hc]), rfl⟩
theorem TrF.ok {h h' : Hh} {A A' : Av} {σ σ' : Gm} (k : Ok h A h' A') (g : Sub σ σ') : ∀ (ts : List (Str × Tr)) (xs : List (Str × V)) (F : List Nat), TrF h A σ ts xs F → (∀ b ∈ F, h'[b]? = h[b]?) → TrF h' A' σ' ts xs F
  | [], xs, F, z, s => by simpa only [TrF] using z
  | (f, t) :: ts, xs, F, z, s => by
    simp only [TrF] at z ⊢
    obtain ⟨x, r, F1, F2, rfl, a, b, rfl⟩ := z
    exact ⟨x, r, F1, F2, rfl, TrR.ok k g t x F1 a fun c hc => s c (by simp [hc]), TrF.ok k g ts r F2 b fun c hc => s c (by simp [hc]), rfl⟩
end
/-! the data of a tree -/
mutual
def Tr.d : Tr → PyData
  | .fz d => d
  | .own d => d
  | .lst _ ts => .list (dL ts)
  | .tup _ ts => .tuple (dL ts)
  | .ins _ c fs => .dict ((.none, .int c) :: dF fs)
def dL : List Tr → List PyData
  | [] => []
  | t :: ts => t.d :: dL ts
def dF : List (Str × Tr) → List (PyData × PyData)
  | [] => []
  | (f, t) :: ts => (.str f, t.d) :: dF ts
end
theorem Cn.bot {h : Hh} {A : Av} {d : PyData} {o : Ob} (z : Cn h A d o) : Cn h (fun _ => False) d o := z.ok (Ok.mono fun _ z => z.elim)
theorem Fz.bot {h : Hh} {A : Av} {d : PyData} {v : V} (z : Fz h A d v) : Fz h (fun _ => False) d v := Fz.ok (Ok.mono fun _ z => z.elim) d v z
mutual
/-- .. to be read -/
theorem TrR.bot {h : Hh} {A : Av} {σ : Gm} : ∀ (t : Tr) (v : V) (F : List Nat), TrR h A σ t v F → Fz h (fun _ => False) t.d v
  | .fz d, v, F, z => by
    simp only [TrR] at z
    unfold Tr.d
    exact Fz.bot z.1
  | .own d, v, F, z => by
    simp only [TrR] at z
    obtain ⟨a, o, rfl, q, c, _⟩ := z
    unfold Tr.d
    exact (Cn.bot c).fz q fun z => z
  | .lst n ts, v, F, z => by
    simp only [TrR] at z
    obtain ⟨a, xs, G, e, q, _, r, _⟩ := z
    unfold Tr.d
    simp only [Fz]
    exact ⟨a, xs, e, q, fun z => z, TrL.bot ts xs G r⟩
  | .tup n ts, v, F, z => by
    simp only [TrR] at z
    obtain ⟨a, xs, e, q, _, r⟩ := z
    unfold Tr.d
    simp only [Fz]
    exact ⟨a, xs, e, q, TrL.bot ts xs F r⟩
  | .ins n c fs, v, F, z => by
    simp only [TrR] at z
    obtain ⟨a, xs, G, e, q, _, r, _⟩ := z
    unfold Tr.d
    simp only [Fz]
    refine ⟨a, c, xs, e, q, fun z => z, ?_⟩
    simp only [FzI]
    exact ⟨trivial, trivial, TrF.bot fs xs G r⟩
theorem TrL.bot {h : Hh} {A : Av} {σ : Gm} : ∀ (ts : List Tr) (xs : List V) (F : List Nat), TrL h A σ ts xs F → FzL h (fun _ => False) (dL ts) xs
  | [], xs, F, z => by
    simp only [TrL] at z
    unfold dL
    rw [z.1]
    exact FzL.nil
  | t :: ts, xs, F, z => by
    simp only [TrL] at z
    obtain ⟨x, r, F1, F2, rfl, a, b, _⟩ := z
    unfold dL
    exact FzL.cons (TrR.bot t x F1 a) (TrL.bot ts r F2 b)
theorem TrF.bot {h : Hh} {A : Av} {σ : Gm} : ∀ (ts : List (Str × Tr)) (xs : List (Str × V)) (F : List Nat), TrF h A σ ts xs F → FzF h (fun _ => False) (dF ts) xs
  | [], xs, F, z => by
    simp only [TrF] at z
    unfold dF
    rw [z.1]
    simp only [FzF]
  | (f, t) :: ts, xs, F, z => by
    simp only [TrF] at z
    obtain ⟨x, r, F1, F2, rfl, a, b, _⟩ := z
    unfold dF
    simp only [FzF]
    exact ⟨f, x, r, rfl, rfl, TrR.bot t x F1 a, TrF.bot ts r F2 b⟩
end
/-! given away: nobody changes it any more -/
def drop (A : Av) (F : List Nat) : Av := fun b => A b ∧ b ∉ F
theorem ok_drop {h : Hh} {A : Av} {F : List Nat} : Ok h A h (drop A F) := Ok.mono fun _ z => z.1
mutual
theorem TrR.gone {h : Hh} {A B : Av} {σ : Gm} (s : Ok h A h B) : ∀ (t : Tr) (v : V) (F : List Nat), TrR h A σ t v F → (∀ b ∈ F, ¬ B b) → Fz h B t.d v
  | .fz d, v, F, z, n => by
    simp only [TrR] at z
    unfold Tr.d
    exact Fz.ok s d v z.1
  | .own d, v, F, z, n => by
    simp only [TrR] at z
    obtain ⟨a, o, rfl, q, c, rfl⟩ := z
    unfold Tr.d
    exact (c.ok s).fz q (n a (by simp))
  | .lst m ts, v, F, z, n => by
    simp only [TrR] at z
    obtain ⟨a, xs, G, e, q, _, r, rfl⟩ := z
    unfold Tr.d
    simp only [Fz]
    exact ⟨a, xs, e, q, n a (by simp), TrL.gone s ts xs G r fun b hb => n b (by simp [hb])⟩
  | .tup m ts, v, F, z, n => by
    simp only [TrR] at z
    obtain ⟨a, xs, e, q, _, r⟩ := z
    unfold Tr.d
    simp only [Fz]
    exact ⟨a, xs, e, q, TrL.gone s ts xs F r n⟩
  | .ins m c fs, v, F, z, n => by
    simp only [TrR] at z
    obtain ⟨a, xs, G, e, q, _, r, rfl⟩ := z
    unfold Tr.d
    simp only [Fz]
    refine ⟨a, c, xs, e, q, n a (by simp), ?_⟩
    simp only [FzI]
    exact ⟨trivial, trivial, TrF.gone s fs xs G r fun b hb => n b (by simp [hb])⟩
theorem TrL.gone {h : Hh} {A B : Av} {σ : Gm} (s : Ok h A h B) : ∀ (ts : List Tr) (xs : List V) (F : List Nat), TrL h A σ ts xs F → (∀ b ∈ F, ¬ B b) → FzL h B (dL ts) xs
  | [], xs, F, z, n => by
    simp only [TrL] at z
    unfold dL
    rw [z.1]
    exact FzL.nil
  | t :: ts, xs, F, z, n => by
    simp only [TrL] at z
    obtain ⟨x, r, F1, F2, rfl, a, b, rfl⟩ := z
    unfold dL
    exact FzL.cons (TrR.gone s t x F1 a fun c hc => n c (by simp [hc])) (TrL.gone s ts r F2 b fun c hc => n c (by simp [hc]))
theorem TrF.gone {h : Hh} {A B : Av} {σ : Gm} (s : Ok h A h B) : ∀ (ts : List (Str × Tr)) (xs : List (Str × V)) (F : List Nat), TrF h A σ ts xs F → (∀ b ∈ F, ¬ B b) → FzF h B (dF ts) xs
  | [], xs, F, z, n => by
    simp only [TrF] at z
    unfold dF
    rw [z.1]
    simp only [FzF]
  | (f, t) :: ts, xs, F, z, n => by
    simp only [TrF] at z
    obtain ⟨x, r, F1, F2, rfl, a, b, rfl⟩ := z
    unfold dF
    simp only [FzF]
    exact ⟨f, x, r, rfl, rfl, TrR.gone s t x F1 a fun c hc => n c (by simp [hc]), TrF.gone s ts r F2 b fun c hc => n c (by simp [hc])⟩
end
/-! ### states -/
def chO : Ob → Sl → Option V
  | .lst xs, .ix j => xs[j]?
  | .tup xs, .ix j => xs[j]?
  | .ins _ fs, .fl f => fs.lookup f
  | _, _ => none
def VaR (h : Hh) (A : Av) (σ : Gm) : Va → V → List Nat → Prop
  | .fz d, v, F => Fz h A d v ∧ F = []
  | .own d, v, F => TrR h A σ (.own d) v F
  | .rol xs, v, F => (∃ (a : Nat) (vs : List V), v = .ref a ∧ h[a]? = some (.rol vs) ∧ FzL h A xs vs) ∧ F = []
  | .tr t, v, F => TrR h A σ t v F
  | .bor _ _ m k, v, F => (∃ ob, σ m = some ob ∧ chO ob k = some v) ∧ F = []
theorem VaR.ok {h h' : Hh} {A A' : Av} {σ σ' : Gm} (k : Ok h A h' A') (g : Sub σ σ') {va : Va} {v : V} {F : List Nat} (z : VaR h A σ va v F) (s : ∀ b ∈ F, h'[b]? = h[b]?) : VaR h' A' σ' va v F := by
  cases va with
  | fz d => exact ⟨Fz.ok k d v z.1, z.2⟩
  | own d => exact TrR.ok k g _ v F z s
  | rol xs =>
    obtain ⟨⟨a, vs, e, q, r⟩, rfl⟩ := z
    exact ⟨⟨a, vs, e, k.r a vs q, FzL.ok k xs vs r⟩, rfl⟩
  | tr t => exact TrR.ok k g t v F z s
  | bor i q m sl =>
    obtain ⟨⟨ob, e, c⟩, rfl⟩ := z
    exact ⟨⟨ob, g _ _ e, c⟩, rfl⟩
def updF (Fs : Fp) (i : Nat) (F : List Nat) : Fp := fun j => if j = i then F else Fs j
theorem updF_same {Fs : Fp} {i : Nat} {F : List Nat} : updF Fs i F i = F := if_pos rfl
theorem updF_ne {Fs : Fp} {i j : Nat} {F : List Nat} (h : j ≠ i) : updF Fs i F j = Fs j := if_neg h

/-- the state E of the names e: W is what others own -/
structure St (W : Av) (h : Hh) (A : Av) (σ : Gm) (e : Ev) (E : Dn) (Fs : Fp) : Prop where
  len : e.length = E.length
  sl : ∀ (i : Nat) (va : Va), E[i]? = some (some va) → ∃ v, e[i]? = some (some v) ∧ VaR h A σ va v (Fs i)
  em : ∀ i : Nat, (∀ va, E[i]? ≠ some (some va)) → Fs i = []
  nd : ∀ i, (Fs i).Nodup
  dj : ∀ i j b, b ∈ Fs i → b ∈ Fs j → i = j
  ac : ∀ i b, b ∈ Fs i → A b ∧ ¬ W b
  wa : ∀ b, W b → A b
  lt : ∀ b, A b → ∃ o : Ob, h[b]? = some o ∧ Mu o = true
  fin : ∃ N, ∀ n, N ≤ n → σ n = none
/-- a step -/
structure Tn (W : Av) (h : Hh) (A : Av) (σ : Gm) (h' : Hh) (A' : Av) (σ' : Gm) : Prop where
  le : h.length ≤ h'.length
  sub : ∀ b, A' b → A b ∨ h.length ≤ b
  same : ∀ b : Nat, b < h.length → ¬ A b ∨ W b → h'[b]? = h[b]?
  keep : ∀ b, W b → A' b
  gm : Sub σ σ'
theorem Tn.refl {W : Av} {h : Hh} {A : Av} {σ : Gm} (wa : ∀ b, W b → A b) : Tn W h A σ h A σ := ⟨Nat.le_refl _, fun _ z => .inl z, fun _ _ _ => rfl, wa, Sub.refl⟩
theorem Tn.trans {W : Av} {h h1 h2 : Hh} {A A1 A2 : Av} {σ σ1 σ2 : Gm} (p : Tn W h A σ h1 A1 σ1) (q : Tn W h1 A1 σ1 h2 A2 σ2) : Tn W h A σ h2 A2 σ2 := by
  refine ⟨Nat.le_trans p.le q.le, fun b z => ?_, fun b l z => ?_, q.keep, p.gm.trans q.gm⟩
  · rcases q.sub b z with z | z
    · exact p.sub b z
    · exact .inr (Nat.le_trans p.le z)
  · refine (q.same b (Nat.lt_of_lt_of_le l p.le) ?_).trans (p.same b l z)
    rcases z with z | z
    · exact .inl fun y => (p.sub b y).elim z fun y => absurd l (Nat.not_lt_of_le y)
    · exact .inr z
theorem Tn.weak {W W1 : Av} {h h' : Hh} {A A' : Av} {σ σ' : Gm} (p : Tn W1 h A σ h' A' σ') (m : ∀ b, W b → W1 b) : Tn W h A σ h' A' σ' :=
  ⟨p.le, p.sub, fun b l z => p.same b l (z.imp id (m b)), fun b z => p.keep b (m b z), p.gm⟩
theorem Tn.ok {W : Av} {h h' : Hh} {A A' : Av} {σ σ' : Gm} (lt : ∀ b, A b → ∃ o : Ob, h[b]? = some o ∧ Mu o = true) (p : Tn W h A σ h' A' σ') : Ok h A h' A' := by
  constructor
  · intro b xs s _ n
    have l := lt_of_get s
    refine ⟨(p.same b l (.inl n)).trans s, fun z => ?_⟩
    rcases p.sub b z with z | z
    · exact n z
    · omega
  · intro b xs s
    have l := seqT_lt s
    have na : ¬ A b := fun o => by
      obtain ⟨vs, z, mz⟩ := lt b o
      unfold seqT at s
      rw [z] at s
      cases vs <;> first | (cases s; done) | (cases mz; done)
    have e := p.same b l (.inl na)
    unfold seqT at *
    rw [e]; exact s
  · intro b xs s
    have l := lt_of_get s
    have na : ¬ A b := fun o => by
      obtain ⟨vs, z, mz⟩ := lt b o
      rw [z] at s
      cases s
      cases mz
    exact (p.same b l (.inl na)).trans s
/-- a step that leaves all names alone -/
theorem St.tn {W W1 : Av} {h h' : Hh} {A A' : Av} {σ σ' : Gm} {e : Ev} {E : Dn} {Fs : Fp} (S : St W h A σ e E Fs) (p : Tn W1 h A σ h' A' σ') (w : ∀ b, W b → W1 b) (f : ∀ i b, b ∈ Fs i → W1 b)
    (lt : ∀ b, A' b → ∃ o : Ob, h'[b]? = some o ∧ Mu o = true) (fin : ∃ N, ∀ n, N ≤ n → σ' n = none) : St W h' A' σ' e E Fs where
  len := S.len
  sl := fun i va z => by
    obtain ⟨v, h1, h2⟩ := S.sl i va z
    refine ⟨v, h1, h2.ok (p.ok S.lt) p.gm fun b hb => ?_⟩
    obtain ⟨o, q, _⟩ := S.lt b (S.ac i b hb).1
    exact p.same b (lt_of_get q) (.inr (f i b hb))
  em := S.em
  nd := S.nd
  dj := S.dj
  ac := fun i b hb => ⟨p.keep b (f i b hb), (S.ac i b hb).2⟩
  wa := fun b z => p.keep b (w b z)
  lt := lt
  fin := fin
/-! results -/
def RR (h : Hh) (A : Av) (σ : Gm) (e : Ev) : Re → V → List Nat → Prop
  | .fz d, v, G => Fz h A d v ∧ G = []
  | .own d, v, G => TrR h A σ (.own d) v G
  | .var i, v, G => e[i]? = some (some v) ∧ G = []
  | .rol xs, v, G => (∃ (a : Nat) (vs : List V), v = .ref a ∧ h[a]? = some (.rol vs) ∧ FzL h A xs vs) ∧ G = []
  | .tr t, v, G => TrR h A σ t v G
  | .pt _ _ m k, v, G => (∃ ob, σ m = some ob ∧ chO ob k = some v) ∧ G = []
theorem RR.ok {h h' : Hh} {A A' : Av} {σ σ' : Gm} {e : Ev} (k : Ok h A h' A') (g : Sub σ σ') {r : Re} {v : V} {G : List Nat} (z : RR h A σ e r v G) (s : ∀ b ∈ G, h'[b]? = h[b]?) : RR h' A' σ' e r v G := by
  cases r with
  | fz d => exact ⟨Fz.ok k d v z.1, z.2⟩
  | own d => exact TrR.ok k g _ v G z s
  | rol xs =>
    obtain ⟨⟨a, vs, e, q, r⟩, rfl⟩ := z
    exact ⟨⟨a, vs, e, k.r a vs q, FzL.ok k xs vs r⟩, rfl⟩
  | tr t => exact TrR.ok k g t v G z s
  | var i => exact z
  | pt i q m sl =>
    obtain ⟨⟨ob, e, c⟩, rfl⟩ := z
    exact ⟨⟨ob, g _ _ e, c⟩, rfl⟩
/-- pending results, the newest first -/
def RRL (h : Hh) (A : Av) (σ : Gm) (e : Ev) : List Re → List V → List Nat → Prop
  | [], vs, G => vs = [] ∧ G = []
  | r :: rs, vs, G => ∃ (v : V) (ws : List V) (G1 G2 : List Nat), vs = v :: ws ∧ RR h A σ e r v G1 ∧ RRL h A σ e rs ws G2 ∧ G = G1 ++ G2
theorem RRL.ok {h h' : Hh} {A A' : Av} {σ σ' : Gm} {e : Ev} (k : Ok h A h' A') (g : Sub σ σ') : ∀ {rs : List Re} {vs : List V} {G : List Nat}, RRL h A σ e rs vs G → (∀ b ∈ G, h'[b]? = h[b]?) → RRL h' A' σ' e rs vs G
  | [], vs, G, z, s => z
  | r :: rs, vs, G, ⟨v, ws, G1, G2, e1, a, b, e2⟩, s => by
    subst e1 e2
    exact ⟨v, ws, G1, G2, rfl, a.ok k g fun c hc => s c (by simp [hc]), RRL.ok k g b fun c hc => s c (by simp [hc]), rfl⟩
/-- what pending results own, nobody else does -/
structure Fr (W : Av) (A : Av) (Fs : Fp) (G : List Nat) : Prop where
  nd : G.Nodup
  ac : ∀ b ∈ G, A b ∧ ¬ W b
  no : ∀ i b, b ∈ G → b ∉ Fs i
theorem Fr.nil {W A : Av} {Fs : Fp} : Fr W A Fs [] := Fr.mk List.nodup_nil (fun _ z => nomatch z) (fun _ _ z => nomatch z)
theorem Fr.left {W A : Av} {Fs : Fp} {G H : List Nat} (f : Fr W A Fs (G ++ H)) : Fr W A Fs G := ⟨(List.nodup_append.mp f.nd).1, fun b hb => f.ac b (by simp [hb]), fun i b hb => f.no i b (by simp [hb])⟩
theorem Fr.right {W A : Av} {Fs : Fp} {G H : List Nat} (f : Fr W A Fs (G ++ H)) : Fr W A Fs H := ⟨(List.nodup_append.mp f.nd).2.1, fun b hb => f.ac b (by simp [hb]), fun i b hb => f.no i b (by simp [hb])⟩
theorem Fr.perm {W A : Av} {Fs : Fp} {G H : List Nat} (f : Fr W A Fs G) (p : G.Perm H) : Fr W A Fs H := ⟨p.nodup_iff.mp f.nd, fun b hb => f.ac b (p.mem_iff.mpr hb), fun i b hb => f.no i b (p.mem_iff.mpr hb)⟩
/-- with pending results set aside -/
def plus (W : Av) (G : List Nat) : Av := fun b => W b ∨ b ∈ G
theorem St.aside {W : Av} {h : Hh} {A : Av} {σ : Gm} {e : Ev} {E : Dn} {Fs : Fp} {G : List Nat} (S : St W h A σ e E Fs) (f : Fr W A Fs G) : St (plus W G) h A σ e E Fs :=
  ⟨S.len, S.sl, S.em, S.nd, S.dj, fun i b hb => ⟨(S.ac i b hb).1, fun z => z.elim (S.ac i b hb).2 fun z => f.no i b z hb⟩, fun b z => z.elim (S.wa b) fun z => (f.ac b z).1, S.lt, S.fin⟩
theorem St.back {W : Av} {h : Hh} {A : Av} {σ : Gm} {e : Ev} {E : Dn} {Fs : Fp} {G : List Nat} (S : St (plus W G) h A σ e E Fs) : St W h A σ e E Fs :=
  ⟨S.len, S.sl, S.em, S.nd, S.dj, fun i b hb => ⟨(S.ac i b hb).1, fun z => (S.ac i b hb).2 (.inl z)⟩, fun b z => S.wa b (.inl z), S.lt, S.fin⟩
theorem Tn.back {W : Av} {h h' : Hh} {A A' : Av} {σ σ' : Gm} {G : List Nat} (p : Tn (plus W G) h A σ h' A' σ') : Tn W h A σ h' A' σ' := p.weak fun b z => .inl z
theorem Fr.still {W : Av} {h h' : Hh} {A A' : Av} {σ σ' : Gm} {e : Ev} {E' : Dn} {Fs Fs' : Fp} {G : List Nat} (f : Fr W A Fs G) (p : Tn (plus W G) h A σ h' A' σ') (S : St (plus W G) h' A' σ' e E' Fs') : Fr W A' Fs' G :=
  Fr.mk f.nd (fun b hb => ⟨p.keep b (.inr hb), (f.ac b hb).2⟩) (fun i b hb z => (S.ac i b z).2 (.inr hb))
theorem Fr.two {W A : Av} {Fs : Fp} {G H : List Nat} (f : Fr W A Fs G) (g : Fr (plus W G) A Fs H) : Fr W A Fs (H ++ G) := by
  refine Fr.mk (List.nodup_append.mpr ⟨g.nd, f.nd, fun a ha b hb z => (g.ac a ha).2 (.inr (z ▸ hb))⟩) (fun b hb => ?_) (fun i b hb => ?_)
  · rcases List.mem_append.mp hb with z | z
    · exact ⟨(g.ac b z).1, fun y => (g.ac b z).2 (.inl y)⟩
    · exact f.ac b z
  · rcases List.mem_append.mp hb with z | z
    · exact g.no i b z
    · exact f.no i b z
/-! runs -/
abbrev Xp := Nat → List (Str × PyData) → Dn → Prop
def noX : Xp := fun _ _ _ => False
section
variable {α β : Type}
abbrev Kk (α : Type) := α → Hh → Av → Gm → Dn → Fp → Prop
def Run (X : Xp) (W : Av) (h : Hh) (A : Av) (σ : Gm) (e : Ev) (K : Kk α) : Option (Rs α × Hh) → Prop
  | some (.ok a, h') => ∃ A' σ' E' Fs', Tn W h A σ h' A' σ' ∧ St W h' A' σ' e E' Fs' ∧ K a h' A' σ' E' Fs'
  | some (.ex c fs, h') => ∃ A' σ' E' Fs' ds, Tn W h A σ h' A' σ' ∧ St W h' A' σ' e E' Fs' ∧ FzF h' A' (encF ds) fs ∧ X c ds E'
  | none => False
theorem Run.mono {X : Xp} {W : Av} {h : Hh} {A : Av} {σ : Gm} {e : Ev} {K K' : Kk α} {o : Option (Rs α × Hh)} (r : Run X W h A σ e K o)
    (m : ∀ a h' A' σ' E' Fs', Tn W h A σ h' A' σ' → St W h' A' σ' e E' Fs' → K a h' A' σ' E' Fs' → K' a h' A' σ' E' Fs') : Run X W h A σ e K' o := by
  match o, r with
  | some (.ok a, h'), ⟨A', σ', E', Fs', t, s, k⟩ => exact ⟨A', σ', E', Fs', t, s, m _ _ _ _ _ _ t s k⟩
  | some (.ex c fs, h'), r => exact r
theorem Run.after {X : Xp} {W : Av} {h h1 : Hh} {A A1 : Av} {σ σ1 : Gm} {e : Ev} {K : Kk α} {o : Option (Rs α × Hh)} (t : Tn W h A σ h1 A1 σ1) (r : Run X W h1 A1 σ1 e K o) : Run X W h A σ e K o := by
  match o, r with
  | some (.ok a, h'), ⟨A', σ', E', Fs', t', s, k⟩ => exact ⟨A', σ', E', Fs', t.trans t', s, k⟩
  | some (.ex c fs, h'), ⟨A', σ', E', Fs', ds, t', s, f, k⟩ => exact ⟨A', σ', E', Fs', ds, t.trans t', s, f, k⟩
theorem Run.bind {X : Xp} {W : Av} {h : Hh} {A : Av} {σ : Gm} {e : Ev} {K : Kk α} {K' : Kk β} {m : Mo α} {f : α → Mo β} (r : Run X W h A σ e K (m h))
    (k : ∀ a h1 A1 σ1 E1 Fs1, Tn W h A σ h1 A1 σ1 → St W h1 A1 σ1 e E1 Fs1 → K a h1 A1 σ1 E1 Fs1 → Run X W h1 A1 σ1 e K' (f a h1)) : Run X W h A σ e K' (bd m f h) := by
  unfold bd
  generalize hm : m h = o at r
  match o, r with
  | some (.ok a, h'), ⟨A', σ', E', Fs', t, s, z⟩ => exact Run.after t (k _ _ _ _ _ _ t s z)
  | some (.ex c fs, h'), r => exact r
theorem Run.back {X : Xp} {W : Av} {h : Hh} {A : Av} {σ : Gm} {e : Ev} {K : Kk α} {G : List Nat} {o : Option (Rs α × Hh)} (r : Run X (plus W G) h A σ e K o) :
    Run X W h A σ e (fun a h' A' σ' E' Fs' => Tn (plus W G) h A σ h' A' σ' ∧ St (plus W G) h' A' σ' e E' Fs' ∧ K a h' A' σ' E' Fs') o := by
  match o, r with
  | some (.ok a, h'), ⟨A', σ', E', Fs', t, s, z⟩ => exact ⟨A', σ', E', Fs', t.back, s.back, t, s, z⟩
  | some (.ex c fs, h'), ⟨A', σ', E', Fs', ds, t, s, f, x⟩ => exact ⟨A', σ', E', Fs', ds, t.back, s.back, f, x⟩
theorem Run.ret {X : Xp} {W : Av} {h : Hh} {A : Av} {σ : Gm} {e : Ev} {E : Dn} {Fs : Fp} {K : Kk α} {a : α} (S : St W h A σ e E Fs) (k : K a h A σ E Fs) : Run X W h A σ e K (some (.ok a, h)) := ⟨A, σ, E, Fs, Tn.refl S.wa, S, k⟩
end
/-- the post of a term -/
def KE (W : Av) (e : Ev) (Q : Re → Dn → Prop) : Kk V := fun v h A σ E Fs => ∃ r G, RR h A σ e r v G ∧ Fr W A Fs G ∧ Q r E
structure DC where
  call : String → List V → Mo V
  I : List Ci
  X : Xp
def cf (C : DC) : Cfg := { cfOf C.I with call := C.call }
structure WE (C : DC) (t : Ex) (E : Dn) (Q : Re → Dn → Prop) : Prop where
  run : ∀ (W : Av) (h : Hh) (A : Av) (σ : Gm) (e : Ev) (Fs : Fp), St W h A σ e E Fs → Run C.X W h A σ e (KE W e Q) (ev (cf C) t e h)
section
variable {C : DC} {W : Av} {h : Hh} {A : Av} {σ : Gm} {e : Ev} {E : Dn} {Fs : Fp}
theorem WE.mono {t : Ex} {Q Q' : Re → Dn → Prop} (w : WE C t E Q) (m : ∀ r E, Q r E → Q' r E) : WE C t E Q' := by
  refine ⟨fun W h A σ e Fs S => ?_⟩
  exact (w.run W h A σ e Fs S).mono fun v h' A' σ' E' Fs' _ _ ⟨r, G, a, b, q⟩ => ⟨r, G, a, b, m _ _ q⟩
/-- a term is run while results are pending -/
theorem WE.go {β : Type} {t : Ex} {Q : Re → Dn → Prop} {rs : List Re} {vs : List V} {G : List Nat} {f : V → Mo β} {K : Kk β} (w : WE C t E Q) (S : St W h A σ e E Fs) (T : RRL h A σ e rs vs G) (fr : Fr W A Fs G)
    (k : ∀ v h1 A1 σ1 E1 Fs1 r G1, Tn W h A σ h1 A1 σ1 → St W h1 A1 σ1 e E1 Fs1 → RR h1 A1 σ1 e r v G1 → RRL h1 A1 σ1 e rs vs G → Fr W A1 Fs1 (G1 ++ G) → Q r E1 → Run C.X W h1 A1 σ1 e K (f v h1)) :
    Run C.X W h A σ e K (bd (ev (cf C) t e) f h) := by
  refine Run.bind (Run.back (w.run (plus W G) h A σ e Fs (S.aside fr))) ?_
  rintro v h1 A1 σ1 E1 Fs1 t1 S1 ⟨t2, S2, r, G1, a, b, q⟩
  refine k v h1 A1 σ1 E1 Fs1 r G1 t1 S1 a (T.ok (t2.ok S.lt) t2.gm fun c hc => ?_) ((fr.still t2 S2).two b) q
  obtain ⟨o, g, _⟩ := S.lt c (fr.ac c hc).1
  exact t2.same c (lt_of_get g) (.inr (.inr hc))
theorem WE.go0 {β : Type} {t : Ex} {Q : Re → Dn → Prop} {f : V → Mo β} {K : Kk β} (w : WE C t E Q) (S : St W h A σ e E Fs)
    (k : ∀ v h1 A1 σ1 E1 Fs1 r G1, Tn W h A σ h1 A1 σ1 → St W h1 A1 σ1 e E1 Fs1 → RR h1 A1 σ1 e r v G1 → Fr W A1 Fs1 G1 → Q r E1 → Run C.X W h1 A1 σ1 e K (f v h1)) :
    Run C.X W h A σ e K (bd (ev (cf C) t e) f h) := by
  refine w.go S (rs := []) (vs := []) (G := []) ⟨rfl, rfl⟩ Fr.nil fun v h1 A1 σ1 E1 Fs1 r G1 a b c d f q => k v h1 A1 σ1 E1 Fs1 r G1 a b c ?_ q
  rwa [List.append_nil] at f
end
end HJ

set_option maxRecDepth 100000
set_option maxHeartbeats 4000000
/-! the parts of an owned tree -/
namespace HJ
open PySem L2 HI
def chT : Tr → Sl → Option Tr
  | .lst _ ts, .ix j => ts[j]?
  | .tup _ ts, .ix j => ts[j]?
  | .ins _ _ fs, .fl f => fs.lookup f
  | _, _ => none
def getT : Tr → List Sl → Option Tr
  | t, [] => some t
  | t, k :: q => match chT t k with
    | some c => getT c q
    | none => none
def stT : Tr → Option Nat
  | .lst n _ => some n
  | .tup n _ => some n
  | .ins n _ _ => some n
  | _ => none
def setFl (f : Str) (s : Tr) : List (Str × Tr) → List (Str × Tr)
  | [] => []
  | (g, t) :: r => if f == g then (g, s) :: r else (g, t) :: setFl f s r
def updC : Tr → Sl → Tr → Tr
  | .lst n ts, .ix j, s => .lst n (ts.set j s)
  | .tup n ts, .ix j, s => .tup n (ts.set j s)
  | .ins n c fs, .fl f, s => .ins n c (setFl f s fs)
  | t, _, _ => t
def updT : Tr → List Sl → Tr → Tr
  | _, [], s => s
  | t, k :: q, s => match chT t k with
    | some c => updC t k (updT c q s)
    | none => t
section
variable {h : Hh} {A : Av} {σ : Gm}
/-- a part, and how the whole is made again with another one in its place -/
structure Zip (h : Hh) (A : Av) (σ : Gm) (v : V) (s : Tr) (x : V) (F : List Nat) (mk : Tr → Tr) (F0 R : List Nat) : Prop where
  rel : TrR h A σ s x F0
  pm : F.Perm (F0 ++ R)
  re : ∀ (h' : Hh) (A' : Av) (σ' : Gm) (s' : Tr) (F' : List Nat), Ok h A h' A' → Sub σ σ' → (∀ b ∈ R, h'[b]? = h[b]?) → TrR h' A' σ' s' x F' → ∃ F2, TrR h' A' σ' (mk s') v F2 ∧ F2.Perm (F' ++ R)
theorem TrL.zip : ∀ {ts : List Tr} {xs : List V} {F : List Nat} {j : Nat} {s : Tr} {x : V}, TrL h A σ ts xs F → ts[j]? = some s → xs[j]? = some x →
    ∃ F0 R, TrR h A σ s x F0 ∧ F.Perm (F0 ++ R) ∧ ∀ (h' : Hh) (A' : Av) (σ' : Gm) (s' : Tr) (F' : List Nat), Ok h A h' A' → Sub σ σ' → (∀ b ∈ R, h'[b]? = h[b]?) → TrR h' A' σ' s' x F' → ∃ F2, TrL h' A' σ' (ts.set j s') xs F2 ∧ F2.Perm (F' ++ R)
  | [], xs, F, j, s, x, z, e, _ => by cases e
  | t :: ts, xs, F, 0, s, x, z, e, ex => by
    simp only [TrL] at z
    obtain ⟨y, r, F1, F2, rfl, a, b, rfl⟩ := z
    cases e
    cases ex
    refine ⟨F1, F2, a, .refl _, fun h' A' σ' s' F' k g m c => ⟨F' ++ F2, ?_, .refl _⟩⟩
    rw [List.set_cons_zero]
    simp only [TrL]
    exact ⟨x, r, F', F2, rfl, c, TrL.ok k g ts r F2 b m, rfl⟩
  | t :: ts, xs, F, j + 1, s, x, z, e, ex => by
    simp only [TrL] at z
    obtain ⟨y, r, F1, F2, rfl, a, b, rfl⟩ := z
    obtain ⟨F0, R, c, p, m⟩ := TrL.zip (j := j) b (by simpa using e) (by simpa using ex)
    refine ⟨F0, F1 ++ R, c, ?_, fun h' A' σ' s' F' k g l d => ?_⟩
    · refine (p.append_left F1).trans ?_
      rw [← List.append_assoc, ← List.append_assoc]
      exact List.perm_append_comm.append_right R
    · obtain ⟨F3, q1, q2⟩ := m h' A' σ' s' F' k g (fun b hb => l b (by simp [hb])) d
      refine ⟨F1 ++ F3, ?_, ?_⟩
      · rw [List.set_cons_succ]
        simp only [TrL]
        exact ⟨y, r, F1, F3, rfl, TrR.ok k g t y F1 a fun b hb => l b (by simp [hb]), q1, rfl⟩
      · refine (q2.append_left F1).trans ?_
        rw [← List.append_assoc, ← List.append_assoc]
        exact List.perm_append_comm.append_right R
theorem TrF.zip : ∀ {ts : List (Str × Tr)} {xs : List (Str × V)} {F : List Nat} {f : Str} {s : Tr} {x : V}, TrF h A σ ts xs F → ts.lookup f = some s → xs.lookup f = some x →
    ∃ F0 R, TrR h A σ s x F0 ∧ F.Perm (F0 ++ R) ∧ ∀ (h' : Hh) (A' : Av) (σ' : Gm) (s' : Tr) (F' : List Nat), Ok h A h' A' → Sub σ σ' → (∀ b ∈ R, h'[b]? = h[b]?) → TrR h' A' σ' s' x F' → ∃ F2, TrF h' A' σ' (setFl f s' ts) xs F2 ∧ F2.Perm (F' ++ R)
  | [], xs, F, f, s, x, z, e, _ => by cases e
  | (g, t) :: ts, xs, F, f, s, x, z, e, ex => by
    simp only [TrF] at z
    obtain ⟨y, r, F1, F2, rfl, a, b, rfl⟩ := z
    rw [List.lookup_cons] at e ex
    cases c : f == g with
    | true =>
      rw [c] at e ex
      cases e
      cases ex
      refine ⟨F1, F2, a, .refl _, fun h' A' σ' s' F' k gg m d => ⟨F' ++ F2, ?_, .refl _⟩⟩
      unfold setFl
      rw [if_pos c]
      simp only [TrF]
      exact ⟨x, r, F', F2, rfl, d, TrF.ok k gg ts r F2 b m, rfl⟩
    | false =>
      rw [c] at e ex
      obtain ⟨F0, R, c1, p, m⟩ := TrF.zip b e ex
      refine ⟨F0, F1 ++ R, c1, ?_, fun h' A' σ' s' F' k gg l d => ?_⟩
      · refine (p.append_left F1).trans ?_
        rw [← List.append_assoc, ← List.append_assoc]
        exact List.perm_append_comm.append_right R
      · obtain ⟨F3, q1, q2⟩ := m h' A' σ' s' F' k gg (fun b hb => l b (by simp [hb])) d
        refine ⟨F1 ++ F3, ?_, ?_⟩
        · unfold setFl
          rw [if_neg (by rw [c]; exact Bool.false_ne_true)]
          simp only [TrF]
          exact ⟨y, r, F1, F3, rfl, TrR.ok k gg t y F1 a fun b hb => l b (by simp [hb]), q1, rfl⟩
        · refine (q2.append_left F1).trans ?_
          rw [← List.append_assoc, ← List.append_assoc]
          exact List.perm_append_comm.append_right R
theorem TrL.get : ∀ {ts : List Tr} {xs : List V} {F : List Nat} {j : Nat} {s : Tr}, TrL h A σ ts xs F → ts[j]? = some s → ∃ x, xs[j]? = some x
  | [], xs, F, j, s, z, e => by cases e
  | t :: ts, xs, F, 0, s, z, e => by
    simp only [TrL] at z
    obtain ⟨y, r, F1, F2, rfl, a, b, rfl⟩ := z
    exact ⟨y, rfl⟩
  | t :: ts, xs, F, j + 1, s, z, e => by
    simp only [TrL] at z
    obtain ⟨y, r, F1, F2, rfl, a, b, rfl⟩ := z
    obtain ⟨x, q⟩ := TrL.get (j := j) b (by simpa using e)
    exact ⟨x, by simpa using q⟩
theorem TrL.len : ∀ {ts : List Tr} {xs : List V} {F : List Nat}, TrL h A σ ts xs F → ts.length = xs.length
  | [], xs, F, z => by
    simp only [TrL] at z
    rw [z.1]; rfl
  | t :: ts, xs, F, z => by
    simp only [TrL] at z
    obtain ⟨y, r, F1, F2, rfl, a, b, rfl⟩ := z
    rw [List.length_cons, List.length_cons, TrL.len b]
theorem TrF.get : ∀ {ts : List (Str × Tr)} {xs : List (Str × V)} {F : List Nat} {f : Str} {s : Tr}, TrF h A σ ts xs F → ts.lookup f = some s → ∃ x, xs.lookup f = some x
  | [], xs, F, f, s, z, e => by cases e
  | (g, t) :: ts, xs, F, f, s, z, e => by
    simp only [TrF] at z
    obtain ⟨y, r, F1, F2, rfl, a, b, rfl⟩ := z
    rw [List.lookup_cons] at e ⊢
    cases c : f == g with
    | true => exact ⟨y, rfl⟩
    | false =>
      rw [c] at e
      exact TrF.get b e
/-- a child, by the node's number -/
theorem TrR.ch {t s : Tr} {v : V} {F : List Nat} {k : Sl} (z : TrR h A σ t v F) (e : chT t k = some s) : ∃ x F0 R, Zip h A σ v s x F (updC t k) F0 R ∧ ∀ m, stT t = some m → ∃ ob, σ m = some ob ∧ chO ob k = some x := by
  cases t with
  | fz d => cases e
  | own d => cases e
  | lst n ts =>
    cases k with
    | fl f => cases e
    | ix j =>
      simp only [TrR] at z
      obtain ⟨a, xs, G, rfl, g, u, r, rfl⟩ := z
      obtain ⟨x, hx⟩ := TrL.get r (show ts[j]? = some s from e)
      obtain ⟨F0, R, c, p, m⟩ := TrL.zip r (show ts[j]? = some s from e) hx
      refine ⟨x, F0, a :: R, ⟨c, (p.cons a).trans List.perm_middle.symm, fun h' A' σ' s' F' k gg l d => ?_⟩, fun m' hm => ⟨.lst xs, by cases hm; exact u, hx⟩⟩
      obtain ⟨F2, q1, q2⟩ := m h' A' σ' s' F' k gg (fun b hb => l b (by simp [hb])) d
      refine ⟨a :: F2, ?_, (q2.cons a).trans List.perm_middle.symm⟩
      show TrR h' A' σ' (.lst n (ts.set j s')) _ _
      simp only [TrR]
      exact ⟨a, xs, F2, rfl, (l a (by simp)).trans g, gg _ _ u, q1, rfl⟩
  | tup n ts =>
    cases k with
    | fl f => cases e
    | ix j =>
      simp only [TrR] at z
      obtain ⟨a, xs, rfl, g, u, r⟩ := z
      obtain ⟨x, hx⟩ := TrL.get r (show ts[j]? = some s from e)
      obtain ⟨F0, R, c, p, m⟩ := TrL.zip r (show ts[j]? = some s from e) hx
      refine ⟨x, F0, R, ⟨c, p, fun h' A' σ' s' F' k gg l d => ?_⟩, fun m' hm => ⟨.tup xs, by cases hm; exact u, hx⟩⟩
      obtain ⟨F2, q1, q2⟩ := m h' A' σ' s' F' k gg l d
      refine ⟨F2, ?_, q2⟩
      show TrR h' A' σ' (.tup n (ts.set j s')) _ _
      simp only [TrR]
      exact ⟨a, xs, rfl, k.t a xs g, gg _ _ u, q1⟩
  | ins n cl fs =>
    cases k with
    | ix f => cases e
    | fl j =>
      simp only [TrR] at z
      obtain ⟨a, xs, G, rfl, g, u, r, rfl⟩ := z
      obtain ⟨x, hx⟩ := TrF.get r (show fs.lookup j = some s from e)
      obtain ⟨F0, R, c, p, m⟩ := TrF.zip r (show fs.lookup j = some s from e) hx
      refine ⟨x, F0, a :: R, ⟨c, (p.cons a).trans List.perm_middle.symm, fun h' A' σ' s' F' k gg l d => ?_⟩, fun m' hm => ⟨.ins cl xs, by cases hm; exact u, hx⟩⟩
      obtain ⟨F2, q1, q2⟩ := m h' A' σ' s' F' k gg (fun b hb => l b (by simp [hb])) d
      refine ⟨a :: F2, ?_, (q2.cons a).trans List.perm_middle.symm⟩
      show TrR h' A' σ' (.ins n cl (setFl j s' fs)) _ _
      simp only [TrR]
      exact ⟨a, xs, F2, rfl, (l a (by simp)).trans g, gg _ _ u, q1, rfl⟩
theorem TrR.zip : ∀ {q : List Sl} {t s : Tr} {v : V} {F : List Nat}, TrR h A σ t v F → getT t q = some s → ∃ x F0 R, Zip h A σ v s x F (updT t q) F0 R
  | [], t, s, v, F, z, e => by
    cases e
    refine ⟨v, F, [], z, by simp, fun h' A' σ' s' F' k g l d => ⟨F', ?_, by simp⟩⟩
    unfold updT
    exact d
  | k :: q, t, s, v, F, z, e => by
    unfold getT at e
    split at e
    · rename_i c hc
      obtain ⟨y, F1, R1, z1, _⟩ := z.ch hc
      obtain ⟨x, F0, R, z2⟩ := TrR.zip z1.rel e
      refine ⟨x, F0, R ++ R1, z2.rel, ?_, fun h' A' σ' s' F' k gg l d => ?_⟩
      · refine z1.pm.trans ?_
        rw [← List.append_assoc]
        exact z2.pm.append_right R1
      · obtain ⟨F2, q1, q2⟩ := z2.re h' A' σ' s' F' k gg (fun b hb => l b (by simp [hb])) d
        obtain ⟨F3, q3, q4⟩ := z1.re h' A' σ' _ F2 k gg (fun b hb => l b (by simp [hb])) q1
        refine ⟨F3, ?_, q4.trans ?_⟩
        · unfold updT
          rw [hc]
          exact q3
        · rw [← List.append_assoc]
          exact q2.append_right R1
    · cases e
/-- .. and a child of it, that is known by the node's number -/
theorem TrR.zip2 {q : List Sl} {t s c : Tr} {v x : V} {F : List Nat} {k : Sl} {m : Nat} {ob : Ob} (z : TrR h A σ t v F) (e : getT t q = some s) (es : stT s = some m) (ec : chT s k = some c) (g : σ m = some ob) (gx : chO ob k = some x) :
    ∃ F0 R, Zip h A σ v c x F (fun c' => updT t q (updC s k c')) F0 R := by
  obtain ⟨y, F1, R1, z1⟩ := z.zip e
  obtain ⟨x', F0, R, z2, id⟩ := z1.rel.ch ec
  obtain ⟨ob', g', gx'⟩ := id m es
  rw [g] at g'
  cases g'
  rw [gx] at gx'
  cases gx'
  refine ⟨F0, R ++ R1, z2.rel, ?_, fun h' A' σ' s' F' k gg l d => ?_⟩
  · refine z1.pm.trans ?_
    rw [← List.append_assoc]
    exact z2.pm.append_right R1
  · obtain ⟨F2, q1, q2⟩ := z2.re h' A' σ' s' F' k gg (fun b hb => l b (by simp [hb])) d
    obtain ⟨F3, q3, q4⟩ := z1.re h' A' σ' _ F2 k gg (fun b hb => l b (by simp [hb])) q1
    refine ⟨F3, q3, q4.trans ?_⟩
    rw [← List.append_assoc]
    exact q2.append_right R1
end
/-! ### the state's parts -/
def slotV (E : Dn) (i : Nat) : Option Va := match E[i]? with
  | some (some v) => some v
  | _ => none
theorem slotV_ok {E : Dn} {i : Nat} {v : Va} (e : slotV E i = some v) : E[i]? = some (some v) := by
  unfold slotV at e
  split at e
  · cases e; assumption
  · cases e
/-- the part that a path names -/
def getP (E : Dn) (i : Nat) (q : List Sl) (m : Nat) (k : Sl) : Option Tr := match slotV E i with
  | some (.tr t) => match getT t q with
    | some s => if stT s = some m then chT s k else none
    | none => none
  | _ => none
/-- the state with another part there -/
def putP (E : Dn) (i : Nat) (q : List Sl) (k : Sl) (c : Tr) : Option Va := match slotV E i with
  | some (.tr t) => match getT t q with
    | some s => some (.tr (updT t q (updC s k c)))
    | none => none
  | _ => none
theorem getP_some {E : Dn} {i m : Nat} {q : List Sl} {k : Sl} {c : Tr} (e : getP E i q m k = some c) : ∃ t s, E[i]? = some (some (.tr t)) ∧ getT t q = some s ∧ stT s = some m ∧ chT s k = some c ∧ ∀ c', putP E i q k c' = some (.tr (updT t q (updC s k c'))) := by
  unfold getP at e
  split at e
  · rename_i t ht
    split at e
    · rename_i s hs
      split at e
      · rename_i hm
        refine ⟨t, s, slotV_ok ht, hs, hm, e, fun c' => ?_⟩
        unfold putP
        rw [ht]
        dsimp only
        rw [hs]
      · cases e
    · cases e
  · cases e
section
variable {W : Av} {h : Hh} {A : Av} {σ : Gm} {e : Ev} {E : Dn} {Fs : Fp}
theorem St.get (S : St W h A σ e E Fs) {i : Nat} {va : Va} (q : slotV E i = some va) : ∃ v, e[i]? = some (some v) ∧ VaR h A σ va v (Fs i) := S.sl i va (slotV_ok q)
theorem St.pt (S : St W h A σ e E Fs) {i m : Nat} {q : List Sl} {k : Sl} {c : Tr} {x : V} {G : List Nat} (z : RR h A σ e (.pt i q m k) x G) (p : getP E i q m k = some c) :
    ∃ v t s F0 R, e[i]? = some (some v) ∧ E[i]? = some (some (.tr t)) ∧ (∀ c', putP E i q k c' = some (.tr (updT t q (updC s k c')))) ∧ Zip h A σ v c x (Fs i) (fun c' => updT t q (updC s k c')) F0 R := by
  obtain ⟨t, s, h1, h2, h3, h4, h5⟩ := getP_some p
  obtain ⟨v, ev, r⟩ := S.sl i _ h1
  obtain ⟨⟨ob, g, gx⟩, _⟩ := z
  obtain ⟨F0, R, zz⟩ := TrR.zip2 (show TrR h A σ t v (Fs i) from r) h2 h3 h4 g gx
  exact ⟨v, t, s, F0, R, ev, h1, h5, zz⟩
end
/-! ### the data of a result -/
def trD (ro : Bool) : Tr → Option PyData
  | .fz d => some d
  | .own d => some d
  | t => if ro then some t.d else none
def datB (ro : Bool) (E : Dn) : Re → Option PyData
  | .fz d => some d
  | .own d => some d
  | .tr t => trD ro t
  | .var i => match slotV E i with
    | some (.fz d) => some d
    | some (.own d) => some d
    | some (.tr t) => trD ro t
    | _ => none
  | .pt i q m k => match getP E i q m k with
    | some c => trD ro c
    | none => none
  | .rol _ => none
section
variable {W : Av} {h : Hh} {A : Av} {σ : Gm} {e : Ev} {E : Dn} {Fs : Fp}
/-- a view: of a thing whose parts are given away, or (to be read only) of any -/
def VwB (ro : Bool) (h : Hh) (A : Av) (d : PyData) (v : V) : Prop := Vw h (if ro then (fun _ => False) else A) d v
theorem Vw.bot {d : PyData} {v : V} (z : Vw h A d v) : Vw h (fun _ => False) d v := Vw.of z.fz
theorem VwB.of {ro : Bool} {d : PyData} {v : V} (z : Vw h A d v) : VwB ro h A d v := by
  cases ro with
  | true => exact Vw.bot z
  | false => exact z
theorem TrR.own_vw {d : PyData} {v : V} {F : List Nat} (z : TrR h A σ (.own d) v F) : Vw h A d v := by
  simp only [TrR] at z
  obtain ⟨a, o, rfl, q, c, _⟩ := z
  exact c.vw q
theorem trD_ok {ro : Bool} {t : Tr} {d : PyData} {v : V} {F : List Nat} (z : TrR h A σ t v F) (m : trD ro t = some d) : VwB ro h A d v := by
  unfold trD at m
  split at m
  · cases m
    simp only [TrR] at z
    exact VwB.of (Vw.of z.1)
  · cases m
    exact VwB.of (TrR.own_vw (σ := σ) z)
  · split at m
    · rename_i hr
      cases m
      subst hr
      exact Vw.of (TrR.bot t v F z)
    · cases m
theorem dat_ok {ro : Bool} {r : Re} {v : V} {G : List Nat} {d : PyData} (S : St W h A σ e E Fs) (z : RR h A σ e r v G) (m : datB ro E r = some d) : VwB ro h A d v := by
  cases r with
  | fz d' => cases m; exact VwB.of (Vw.of z.1)
  | own d' => cases m; exact VwB.of (TrR.own_vw (σ := σ) z)
  | tr t => exact trD_ok z m
  | rol xs => cases m
  | var i =>
    simp only [datB] at m
    split at m
    · rename_i q
      cases m
      obtain ⟨u, h1, h2⟩ := S.get q
      rw [z.1] at h1
      cases h1
      exact VwB.of (Vw.of h2.1)
    · rename_i q
      cases m
      obtain ⟨u, h1, h2⟩ := S.get q
      rw [z.1] at h1
      cases h1
      exact VwB.of (TrR.own_vw (σ := σ) h2)
    · rename_i q
      obtain ⟨u, h1, h2⟩ := S.get q
      rw [z.1] at h1
      cases h1
      exact trD_ok h2 m
    · cases m
  | pt i q mm k =>
    simp only [datB] at m
    split at m
    · rename_i c p
      obtain ⟨u, t, s, F0, R, _, _, _, zz⟩ := S.pt z p
      exact trD_ok zz.rel m
    · cases m
end
structure DatB (ro : Bool) (r : Re) (E : Dn) (K : PyData → Prop) : Prop where
  go : ∃ d, datB ro E r = some d ∧ K d
abbrev DatQ := DatB false
theorem q_dat {ro : Bool} {r : Re} {E : Dn} {d : PyData} {K : PyData → Prop} (e : datB ro E r = some d) (h : K d) : DatB ro r E K := ⟨d, e, h⟩
def datRB (E : Dn) : Re → Option PyData
  | .rol xs => some (.list xs)
  | r => datB false E r
structure DatRQ (r : Re) (E : Dn) (K : PyData → Prop) : Prop where
  go : ∃ d, datRB E r = some d ∧ K d
theorem q_datR {r : Re} {E : Dn} {d : PyData} {K : PyData → Prop} (e : datB false E r = some d) (h : K d) : DatRQ r E K := by
  refine ⟨d, ?_, h⟩
  cases r with
  | rol xs => cases e
  | _ => exact e
theorem q_datRr {E : Dn} {xs : List PyData} {K : PyData → Prop} (h : K (.list xs)) : DatRQ (.rol xs) E K := ⟨_, rfl, h⟩
theorem datR_ok {W : Av} {h : Hh} {A : Av} {σ : Gm} {e : Ev} {E : Dn} {Fs : Fp} {r : Re} {v : V} {G : List Nat} {d : PyData} (S : St W h A σ e E Fs) (z : RR h A σ e r v G) (m : datRB E r = some d) : VwR h A d v := by
  cases r with
  | rol xs =>
    cases m
    obtain ⟨⟨a, vs, rfl, g, r⟩, _⟩ := z
    exact ⟨a, vs, rfl, by unfold seqL; rw [g], r⟩
  | fz d => exact Vw.r (dat_ok (ro := false) S z m)
  | own d => exact Vw.r (dat_ok (ro := false) S z m)
  | var d => exact Vw.r (dat_ok (ro := false) S z m)
  | tr d => exact Vw.r (dat_ok (ro := false) S z m)
  | pt i q m' k => exact Vw.r (dat_ok (ro := false) S z m)
end HJ

set_option maxRecDepth 100000
set_option maxHeartbeats 4000000
/-! one name changed; results given away, taken by names -/
namespace HJ
open PySem L2 HI
theorem set_get {α : Type} {xs : List α} {i j : Nat} {o u : α} (z : (xs.set i o)[j]? = some u) : (j = i ∧ u = o ∧ i < xs.length) ∨ (j ≠ i ∧ xs[j]? = some u) := by
  by_cases h : j = i
  · subst h
    rw [List.getElem?_set] at z
    split at z
    · split at z
      · rename_i l
        cases z
        exact .inl ⟨rfl, rfl, l⟩
      · cases z
    · rename_i n
      exact absurd rfl n
  · rw [List.getElem?_set_ne (Ne.symm h)] at z
    exact .inr ⟨h, z⟩
theorem lt_get {α : Type} {xs : List α} {i : Nat} {u : α} (z : xs[i]? = some u) : i < xs.length := by
  rcases Nat.lt_or_ge i xs.length with l | l
  · exact l
  · rw [List.getElem?_eq_none l] at z; cases z
theorem lset_same {α : Type} : ∀ {xs : List α} {i : Nat} {u : α}, xs[i]? = some u → xs.set i u = xs
  | [], _, _, z => by cases z
  | x :: xs, 0, u, z => by cases z; rfl
  | x :: xs, i + 1, u, z => by
    rw [List.set_cons_succ, lset_same (i := i) (by simpa using z)]
section
variable {W W1 : Av} {h h' : Hh} {A A' : Av} {σ σ' : Gm} {e : Ev} {E : Dn} {Fs : Fp}
/-- what the names but one own, and the others -/
def but (W : Av) (Fs : Fp) (i : Nat) : Av := fun b => W b ∨ ∃ j, j ≠ i ∧ b ∈ Fs j
theorem St.put (S : St W h A σ e E Fs) {i : Nat} (p : Tn (but W Fs i) h A σ h' A' σ') (li : i < E.length) {va : Va} {v : V} {F : List Nat} (z : VaR h' A' σ' va v F) (nd : F.Nodup) (ac : ∀ b ∈ F, A' b ∧ ¬ W b) (no : ∀ j, j ≠ i → ∀ b ∈ F, b ∉ Fs j)
    (lt : ∀ b, A' b → ∃ o : Ob, h'[b]? = some o ∧ Mu o = true) (fin : ∃ N, ∀ n, N ≤ n → σ' n = none) : St W h' A' σ' (e.set i (some v)) (E.set i (some va)) (updF Fs i F) where
  len := by rw [List.length_set, List.length_set]; exact S.len
  sl := fun j va' q => by
    rcases set_get q with ⟨rfl, q, l⟩ | ⟨hne, q⟩
    · cases q
      rw [updF_same]
      exact ⟨v, List.getElem?_set_self (by rw [S.len]; exact l), z⟩
    · obtain ⟨u, h1, h2⟩ := S.sl j va' q
      rw [updF_ne hne]
      refine ⟨u, by rw [List.getElem?_set_ne (Ne.symm hne)]; exact h1, h2.ok (p.ok S.lt) p.gm fun b hb => ?_⟩
      obtain ⟨o, q, _⟩ := S.lt b (S.ac j b hb).1
      exact p.same b (lt_of_get q) (.inr (.inr ⟨j, hne, hb⟩))
  em := fun j hj => by
    by_cases hne : j = i
    · subst hne
      exact absurd (List.getElem?_set_self li) (hj va)
    · rw [updF_ne hne]
      exact S.em j fun va' q => hj va' (by rw [List.getElem?_set_ne (Ne.symm hne)]; exact q)
  nd := fun j => by
    by_cases hne : j = i
    · subst hne; rw [updF_same]; exact nd
    · rw [updF_ne hne]; exact S.nd j
  dj := fun j k b hj hk => by
    by_cases h1 : j = i
    · by_cases h2 : k = i
      · rw [h1, h2]
      · rw [h1, updF_same] at hj
        rw [updF_ne h2] at hk
        exact absurd hk (no k h2 b hj)
    · rw [updF_ne h1] at hj
      by_cases h2 : k = i
      · rw [h2, updF_same] at hk
        exact absurd hj (no j h1 b hk)
      · rw [updF_ne h2] at hk
        exact S.dj j k b hj hk
  ac := fun j b hb => by
    by_cases hne : j = i
    · subst hne; rw [updF_same] at hb; exact ac b hb
    · rw [updF_ne hne] at hb
      exact ⟨p.keep b (.inr ⟨j, hne, hb⟩), (S.ac j b hb).2⟩
  wa := fun b z => p.keep b (.inl z)
  lt := lt
  fin := fin
/-- a name without a value -/
theorem St.kill (S : St W h A σ e E Fs) (i : Nat) : St W h A σ e (E.set i none) (updF Fs i []) where
  len := by rw [List.length_set]; exact S.len
  sl := fun j va' q => by
    rcases set_get q with ⟨rfl, q, l⟩ | ⟨hne, q⟩
    · cases q
    · rw [updF_ne hne]
      exact S.sl j va' q
  em := fun j hj => by
    by_cases hne : j = i
    · subst hne; exact updF_same
    · rw [updF_ne hne]
      exact S.em j fun va' q => hj va' (by rw [List.getElem?_set_ne (Ne.symm hne)]; exact q)
  nd := fun j => by
    by_cases hne : j = i
    · subst hne; rw [updF_same]; exact List.nodup_nil
    · rw [updF_ne hne]; exact S.nd j
  dj := fun j k b hj hk => by
    by_cases h1 : j = i
    · rw [h1, updF_same] at hj; cases hj
    · rw [updF_ne h1] at hj
      by_cases h2 : k = i
      · rw [h2, updF_same] at hk; cases hk
      · rw [updF_ne h2] at hk
        exact S.dj j k b hj hk
  ac := fun j b hb => by
    by_cases hne : j = i
    · subst hne; rw [updF_same] at hb; cases hb
    · rw [updF_ne hne] at hb
      exact S.ac j b hb
  wa := S.wa
  lt := S.lt
  fin := S.fin
/-- an unnamed thing is given away -/
theorem St.drop (S : St W h A σ e E Fs) {G : List Nat} (f : Fr W A Fs G) : Tn W h A σ h (drop A G) σ ∧ St W h (drop A G) σ e E Fs := by
  have t : Tn (fun b => W b ∨ ∃ j, b ∈ Fs j) h A σ h (HJ.drop A G) σ := ⟨Nat.le_refl _, fun b z => .inl z.1, fun _ _ _ => rfl, fun b z => by
    rcases z with z | ⟨j, z⟩
    · exact ⟨S.wa b z, fun y => (f.ac b y).2 z⟩
    · exact ⟨(S.ac j b z).1, fun y => f.no j b y z⟩, Sub.refl⟩
  exact ⟨t.weak fun b z => .inl z, S.tn t (fun b z => .inl z) (fun i b z => .inr ⟨i, z⟩) (fun b z => S.lt b z.1) S.fin⟩
theorem St.bound (S : St W h A σ e E Fs) {i : Nat} {va : Va} (q : slotV E i = some va) : i < E.length := lt_get (slotV_ok q)
/-- a name's thing changed where it stands, its value the same -/
theorem St.put' (S : St W h A σ e E Fs) {i : Nat} (p : Tn (but W Fs i) h A σ h' A' σ') {va : Va} {v : V} {F : List Nat} (ev : e[i]? = some (some v)) (z : VaR h' A' σ' va v F) (nd : F.Nodup) (ac : ∀ b ∈ F, A' b ∧ ¬ W b) (no : ∀ j, j ≠ i → ∀ b ∈ F, b ∉ Fs j)
    (lt : ∀ b, A' b → ∃ o : Ob, h'[b]? = some o ∧ Mu o = true) (fin : ∃ N, ∀ n, N ≤ n → σ' n = none) : St W h' A' σ' e (E.set i (some va)) (updF Fs i F) := by
  have := S.put p (by rw [← S.len]; exact lt_get ev) z nd ac no lt fin
  rwa [lset_same ev] at this
/-- a name's thing, or some of it, given away -/
theorem St.give (S : St W h A σ e E Fs) {i : Nat} {va va' : Va} {v : V} {F R : List Nat} (ev : e[i]? = some (some v)) (pm : (Fs i).Perm (F ++ R)) (z : VaR h (HJ.drop A F) σ va' v R) :
    Tn W h A σ h (HJ.drop A F) σ ∧ St W h (HJ.drop A F) σ e (E.set i (some va')) (updF Fs i R) := by
  have nd := pm.nodup_iff.mp (S.nd i)
  have inF : ∀ b, b ∈ F → b ∈ Fs i := fun b hb => pm.mem_iff.mpr (by simp [hb])
  have inR : ∀ b, b ∈ R → b ∈ Fs i := fun b hb => pm.mem_iff.mpr (by simp [hb])
  have t : Tn (but W Fs i) h A σ h (HJ.drop A F) σ := ⟨Nat.le_refl _, fun b z => .inl z.1, fun _ _ _ => rfl, fun b z => by
    rcases z with z | ⟨j, hj, z⟩
    · exact ⟨S.wa b z, fun y => (S.ac i b (inF b y)).2 z⟩
    · exact ⟨(S.ac j b z).1, fun y => hj (S.dj j i b z (inF b y))⟩, Sub.refl⟩
  refine ⟨t.weak fun b z => .inl z, S.put' t ev z (List.nodup_append.mp nd).2.1 (fun b hb => ⟨⟨(S.ac i b (inR b hb)).1, fun y => ?_⟩, (S.ac i b (inR b hb)).2⟩) (fun j hj b hb y => hj (S.dj j i b y (inR b hb))) (fun b z => S.lt b z.1) S.fin⟩
  exact (List.nodup_append.mp nd).2.2 b y b hb rfl
end
/-! ### given away -/
structure zK (E : Dn) (i : Nat) (v : Option Va) (K : Dn → Prop) : Prop where
  lt : i < E.length
  go : K (E.set i v)
theorem ek_0 {x v : Option Va} {r : Dn} {K : Dn → Prop} (h : K (v :: r)) : zK (x :: r) 0 v K := ⟨by simp, h⟩
theorem ek_s {x v : Option Va} {r : Dn} {i : Nat} {K : Dn → Prop} (h : zK r i v fun r' => K (x :: r')) : zK (x :: r) (i + 1) v K := ⟨by simpa using h.lt, h.go⟩
theorem zK_mono {E : Dn} {i : Nat} {v : Option Va} {K K' : Dn → Prop} (h : zK E i v K) (m : ∀ E, K E → K' E) : zK E i v K' := ⟨h.lt, m _ h.go⟩
structure FrzQ (r : Re) (E : Dn) (K : PyData → Dn → Prop) : Prop where
  go : ∀ (W : Av) (h : Hh) (A : Av) (σ : Gm) (e : Ev) (Fs : Fp) (v : V) (G : List Nat), St W h A σ e E Fs → RR h A σ e r v G → Fr W A Fs G → ∃ A' E' Fs' d, Tn W h A σ h A' σ ∧ St W h A' σ e E' Fs' ∧ Fz h A' d v ∧ K d E'
structure FrzsQ (rs : List Re) (E : Dn) (K : List PyData → Dn → Prop) : Prop where
  go : ∀ (W : Av) (h : Hh) (A : Av) (σ : Gm) (e : Ev) (Fs : Fp) (vs : List V) (G : List Nat), St W h A σ e E Fs → RRL h A σ e rs vs G → Fr W A Fs G → ∃ A' E' Fs' ds, Tn W h A σ h A' σ ∧ St W h A' σ e E' Fs' ∧ FzL h A' ds vs ∧ K ds E'
section
variable {E : Dn}
theorem f_fz {d : PyData} {K : PyData → Dn → Prop} (k : K d E) : FrzQ (.fz d) E K := ⟨fun W h A σ e Fs v G S z f => ⟨A, E, Fs, d, Tn.refl S.wa, S, z.1, k⟩⟩
theorem f_own {d : PyData} {K : PyData → Dn → Prop} (k : K d E) : FrzQ (.own d) E K := ⟨fun W h A σ e Fs v G S z f => by
  obtain ⟨t, S'⟩ := S.drop f
  exact ⟨_, E, Fs, d, t, S', by have := TrR.gone ok_drop _ v G z fun b hb q => q.2 hb; rwa [Tr.d] at this, k⟩⟩
theorem f_tr {t : Tr} {K : PyData → Dn → Prop} (k : K t.d E) : FrzQ (.tr t) E K := ⟨fun W h A σ e Fs v G S z f => by
  obtain ⟨tt, S'⟩ := S.drop f
  exact ⟨_, E, Fs, _, tt, S', TrR.gone ok_drop _ v G z fun b hb q => q.2 hb, k⟩⟩
theorem ef_var {i : Nat} {d : PyData} {K : PyData → Dn → Prop} (q : slotV E i = some (.own d)) (k : zK E i (some (.fz d)) (K d)) : FrzQ (.var i) E K := ⟨fun W h A σ e Fs v G S z f => by
  obtain ⟨u, h1, h2⟩ := S.get q
  rw [z.1] at h1
  cases h1
  have g : Fz h (drop A (Fs i)) d v := by have := TrR.gone ok_drop _ v _ h2 fun b hb q => q.2 hb; rwa [Tr.d] at this
  obtain ⟨t, S'⟩ := S.give (F := Fs i) (R := []) (va := .fz d) (va' := .fz d) z.1 (by simp) ⟨g, rfl⟩
  exact ⟨_, _, _, d, t, S', g, k.go⟩⟩
theorem ef_varT {i : Nat} {t : Tr} {K : PyData → Dn → Prop} (q : slotV E i = some (.tr t)) (k : zK E i (some (.fz t.d)) (K t.d)) : FrzQ (.var i) E K := ⟨fun W h A σ e Fs v G S z f => by
  obtain ⟨u, h1, h2⟩ := S.get q
  rw [z.1] at h1
  cases h1
  have g : Fz h (drop A (Fs i)) t.d v := TrR.gone ok_drop _ v _ h2 fun b hb q => q.2 hb
  obtain ⟨tt, S'⟩ := S.give (F := Fs i) (R := []) (va := .fz t.d) (va' := .fz t.d) z.1 (by simp) ⟨g, rfl⟩
  exact ⟨_, _, _, _, tt, S', g, k.go⟩⟩
theorem f_varF {i : Nat} {d : PyData} {K : PyData → Dn → Prop} (q : slotV E i = some (.fz d)) (k : K d E) : FrzQ (.var i) E K := ⟨fun W h A σ e Fs v G S z f => by
  obtain ⟨u, h1, h2⟩ := S.get q
  rw [z.1] at h1
  cases h1
  exact ⟨A, E, Fs, d, Tn.refl S.wa, S, h2.1, k⟩⟩
/-- a part of a name's thing: the whole keeps it -/
theorem f_pt {i m : Nat} {p : List Sl} {sl : Sl} {c : Tr} {K : PyData → Dn → Prop} (q : getP E i p m sl = some c) (k : zK E i (putP E i p sl (.fz c.d)) (K c.d)) : FrzQ (.pt i p m sl) E K := ⟨fun W h A σ e Fs v G S z f => by
  obtain ⟨u, t, s, F0, R, ev, hE, pp, zz⟩ := S.pt z q
  have g : Fz h (drop A F0) c.d v := TrR.gone ok_drop _ v _ zz.rel fun b hb q => q.2 hb
  obtain ⟨F2, r2, p2⟩ := zz.re h (drop A F0) σ (.fz c.d) [] ok_drop Sub.refl (fun _ _ => rfl) (by simp only [TrR]; exact ⟨g, trivial⟩)
  obtain ⟨tt, S'⟩ := S.give (F := F0) (R := F2) (va := .fz .none) (va' := .tr _) ev (zz.pm.trans (p2.symm.append_left F0)) r2
  have kg := k.go
  rw [pp] at kg
  exact ⟨_, _, _, _, tt, S', g, kg⟩⟩
theorem f_nil {K : List PyData → Dn → Prop} (k : K [] E) : FrzsQ [] E K := ⟨fun W h A σ e Fs v G S z f => ⟨A, E, Fs, [], Tn.refl S.wa, S, by rw [z.1]; exact FzL.nil, k⟩⟩
theorem f_cons {r : Re} {rs : List Re} {K : List PyData → Dn → Prop} (k : FrzQ r E fun d E1 => FrzsQ rs E1 fun ds E2 => K (d :: ds) E2) : FrzsQ (r :: rs) E K := ⟨fun W h A σ e Fs v G S z f => by
  obtain ⟨x, ws, G1, G2, rfl, a, b, rfl⟩ := z
  have f1 : Fr (plus W G2) A Fs G1 := Fr.mk (List.nodup_append.mp f.nd).1 (fun b hb => ⟨(f.ac b (by simp [hb])).1, fun y => y.elim (f.ac b (by simp [hb])).2 fun y => (List.nodup_append.mp f.nd).2.2 b hb b y rfl⟩) fun i b hb => f.no i b (by simp [hb])
  obtain ⟨A1, E1, Fs1, d, t1, S1, g1, k1⟩ := k.go (plus W G2) h A σ e Fs x G1 (S.aside f.right) a f1
  have b1 := b.ok (t1.ok S.lt) Sub.refl fun _ _ => rfl
  have f2 : Fr W A1 Fs1 G2 := Fr.mk f.right.nd (fun b hb => ⟨t1.keep b (.inr hb), (f.right.ac b hb).2⟩) fun i b hb y => (S1.ac i b y).2 (.inr hb)
  obtain ⟨A2, E2, Fs2, ds, t2, S2, g2, k2⟩ := k1.go W h A1 σ e Fs1 ws G2 S1.back b1 f2
  exact ⟨A2, E2, Fs2, d :: ds, t1.back.trans t2, S2, FzL.cons (Fz.ok (t2.ok S1.lt) d x g1) g2, k2⟩⟩
end
theorem frz_mono {r : Re} {E : Dn} {K K' : PyData → Dn → Prop} (f : FrzQ r E K) (m : ∀ d E, K d E → K' d E) : FrzQ r E K' := ⟨fun W h A σ e Fs v G S z fr => by
  obtain ⟨A', E', Fs', d, a, b, c, k⟩ := f.go W h A σ e Fs v G S z fr
  exact ⟨A', E', Fs', d, a, b, c, m _ _ k⟩⟩
/-! ### handed on with what it owns -/
structure GivQ (r : Re) (E : Dn) (K : Tr → Dn → Prop) : Prop where
  go : ∀ (W : Av) (h : Hh) (A : Av) (σ : Gm) (e : Ev) (Fs : Fp) (v : V) (G : List Nat), St W h A σ e E Fs → RR h A σ e r v G → Fr W A Fs G → ∃ A' E' Fs' t G', Tn W h A σ h A' σ ∧ St W h A' σ e E' Fs' ∧ TrR h A' σ t v G' ∧ Fr W A' Fs' G' ∧ K t E' ∧ ∀ b ∈ G', b ∈ G ∨ ∃ i, b ∈ Fs i
structure GivsQ (rs : List Re) (E : Dn) (K : List Tr → Dn → Prop) : Prop where
  go : ∀ (W : Av) (h : Hh) (A : Av) (σ : Gm) (e : Ev) (Fs : Fp) (vs : List V) (G : List Nat), St W h A σ e E Fs → RRL h A σ e rs vs G → Fr W A Fs G → ∃ A' E' Fs' ts G', Tn W h A σ h A' σ ∧ St W h A' σ e E' Fs' ∧ TrL h A' σ ts vs G' ∧ Fr W A' Fs' G' ∧ K ts E'
section
variable {E : Dn}
theorem g_fz {d : PyData} {K : Tr → Dn → Prop} (k : K (.fz d) E) : GivQ (.fz d) E K := ⟨fun W h A σ e Fs v G S z f => ⟨A, E, Fs, .fz d, [], Tn.refl S.wa, S, by simp only [TrR]; exact ⟨z.1, trivial⟩, Fr.nil, k, fun _ z => nomatch z⟩⟩
theorem g_own {d : PyData} {K : Tr → Dn → Prop} (k : K (.own d) E) : GivQ (.own d) E K := ⟨fun W h A σ e Fs v G S z f => ⟨A, E, Fs, .own d, G, Tn.refl S.wa, S, z, f, k, fun _ z => .inl z⟩⟩
theorem g_tr {t : Tr} {K : Tr → Dn → Prop} (k : K t E) : GivQ (.tr t) E K := ⟨fun W h A σ e Fs v G S z f => ⟨A, E, Fs, t, G, Tn.refl S.wa, S, z, f, k, fun _ z => .inl z⟩⟩
/-- kept by nobody else: it is given away first -/
theorem g_frz {r : Re} {K : Tr → Dn → Prop} (k : FrzQ r E fun d E1 => K (.fz d) E1) : GivQ r E K := ⟨fun W h A σ e Fs v G S z f => by
  obtain ⟨A', E', Fs', d, t, S', g, k'⟩ := k.go W h A σ e Fs v G S z f
  exact ⟨A', E', Fs', .fz d, [], t, S', by simp only [TrR]; exact ⟨g, trivial⟩, Fr.nil, k', fun _ z => nomatch z⟩⟩
theorem St.fr_slot {W : Av} {h : Hh} {A : Av} {σ : Gm} {e : Ev} {Fs : Fp} (S : St W h A σ e E Fs) (i : Nat) : Fr W A (updF Fs i []) (Fs i) :=
  Fr.mk (S.nd i) (fun b hb => S.ac i b hb) fun j b hb y => by
    by_cases hj : j = i
    · subst hj; rw [updF_same] at y; cases y
    · rw [updF_ne hj] at y
      exact hj (S.dj j i b y hb)
/-- moved out of a name -/
theorem g_var {i : Nat} {d : PyData} {K : Tr → Dn → Prop} (q : slotV E i = some (.own d)) (k : zK E i none (K (.own d))) : GivQ (.var i) E K := ⟨fun W h A σ e Fs v G S z f => by
  obtain ⟨u, h1, h2⟩ := S.get q
  rw [z.1] at h1
  cases h1
  exact ⟨A, _, _, .own d, Fs i, Tn.refl S.wa, S.kill i, h2, S.fr_slot i, k.go, fun b hb => .inr ⟨i, hb⟩⟩⟩
theorem g_varT {i : Nat} {t : Tr} {K : Tr → Dn → Prop} (q : slotV E i = some (.tr t)) (k : zK E i none (K t)) : GivQ (.var i) E K := ⟨fun W h A σ e Fs v G S z f => by
  obtain ⟨u, h1, h2⟩ := S.get q
  rw [z.1] at h1
  cases h1
  exact ⟨A, _, _, t, Fs i, Tn.refl S.wa, S.kill i, h2, S.fr_slot i, k.go, fun b hb => .inr ⟨i, hb⟩⟩⟩
theorem g_nil {K : List Tr → Dn → Prop} (k : K [] E) : GivsQ [] E K := ⟨fun W h A σ e Fs v G S z f => ⟨A, E, Fs, [], [], Tn.refl S.wa, S, by simp only [TrL]; exact ⟨z.1, trivial⟩, Fr.nil, k⟩⟩
theorem g_cons {r : Re} {rs : List Re} {K : List Tr → Dn → Prop} (k : GivQ r E fun d E1 => GivsQ rs E1 fun ds E2 => K (d :: ds) E2) : GivsQ (r :: rs) E K := ⟨fun W h A σ e Fs v G S z f => by
  obtain ⟨x, ws, G1, G2, rfl, a, b, rfl⟩ := z
  have f1 : Fr (plus W G2) A Fs G1 := Fr.mk (List.nodup_append.mp f.nd).1 (fun b hb => ⟨(f.ac b (by simp [hb])).1, fun y => y.elim (f.ac b (by simp [hb])).2 fun y => (List.nodup_append.mp f.nd).2.2 b hb b y rfl⟩) fun i b hb => f.no i b (by simp [hb])
  obtain ⟨A1, E1, Fs1, d, H1, t1, S1, g1, fr1, k1, _⟩ := k.go (plus W G2) h A σ e Fs x G1 (S.aside f.right) a f1
  have b1 := b.ok (t1.ok S.lt) Sub.refl fun _ _ => rfl
  have f2 : Fr (plus W H1) A1 Fs1 G2 := Fr.mk f.right.nd (fun b hb => ⟨t1.keep b (.inr hb), fun y => y.elim (f.right.ac b hb).2 fun y => (fr1.ac b y).2 (.inr hb)⟩) fun i b hb y => (S1.ac i b y).2 (.inr hb)
  have fr1' : Fr W A1 Fs1 H1 := Fr.mk fr1.nd (fun b hb => ⟨(fr1.ac b hb).1, fun y => (fr1.ac b hb).2 (.inl y)⟩) fr1.no
  obtain ⟨A2, E2, Fs2, ds, H2, t2, S2, g2, fr2, k2⟩ := k1.go (plus W H1) h A1 σ e Fs1 ws G2 (S1.back.aside fr1') b1 f2
  have fr12 := fr1'.still t2 S2
  refine ⟨A2, E2, Fs2, d :: ds, H1 ++ H2, t1.back.trans t2.back, S2.back, ?_, (fr12.two fr2).perm List.perm_append_comm, k2⟩
  simp only [TrL]
  exact ⟨x, ws, H1, H2, rfl, TrR.ok (t2.ok S1.lt) Sub.refl d x H1 g1 fun _ _ => rfl, g2, rfl⟩⟩
end
/-! ### taken by a name -/
structure ResQ (r : Re) (E : Dn) (K : Va → Dn → Prop) : Prop where
  go : ∀ (W : Av) (h : Hh) (A : Av) (σ : Gm) (e : Ev) (Fs : Fp) (v : V) (G : List Nat), St W h A σ e E Fs → RR h A σ e r v G → Fr W A Fs G → ∃ A' E' Fs' va F, Tn W h A σ h A' σ ∧ St W h A' σ e E' Fs' ∧ VaR h A' σ va v F ∧ Fr W A' Fs' F ∧ K va E'
section
variable {E : Dn} {K : Va → Dn → Prop}
theorem r_fz {d : PyData} (k : K (.fz d) E) : ResQ (.fz d) E K := ⟨fun W h A σ e Fs v G S z f => ⟨A, E, Fs, .fz d, [], Tn.refl S.wa, S, ⟨z.1, rfl⟩, Fr.nil, k⟩⟩
theorem r_own {d : PyData} (k : K (.own d) E) : ResQ (.own d) E K := ⟨fun W h A σ e Fs v G S z f => ⟨A, E, Fs, .own d, G, Tn.refl S.wa, S, z, f, k⟩⟩
theorem r_tr {t : Tr} (k : K (.tr t) E) : ResQ (.tr t) E K := ⟨fun W h A σ e Fs v G S z f => ⟨A, E, Fs, .tr t, G, Tn.refl S.wa, S, z, f, k⟩⟩
theorem r_rol {xs : List PyData} (k : K (.rol xs) E) : ResQ (.rol xs) E K := ⟨fun W h A σ e Fs v G S z f => ⟨A, E, Fs, .rol xs, [], Tn.refl S.wa, S, ⟨z.1, rfl⟩, Fr.nil, k⟩⟩
theorem r_bor {i m : Nat} {p : List Sl} {sl : Sl} (k : K (.bor i p m sl) E) : ResQ (.pt i p m sl) E K := ⟨fun W h A σ e Fs v G S z f => ⟨A, E, Fs, .bor i p m sl, [], Tn.refl S.wa, S, ⟨z.1, rfl⟩, Fr.nil, k⟩⟩
theorem r_frz {r : Re} (k : FrzQ r E fun d E1 => K (.fz d) E1) : ResQ r E K := ⟨fun W h A σ e Fs v G S z f => by
  obtain ⟨A', E', Fs', d, t, S', g, k'⟩ := k.go W h A σ e Fs v G S z f
  exact ⟨A', E', Fs', .fz d, [], t, S', ⟨g, rfl⟩, Fr.nil, k'⟩⟩
theorem r_giv {r : Re} (k : GivQ r E fun d E1 => K (.tr d) E1) : ResQ r E K := ⟨fun W h A σ e Fs v G S z f => by
  obtain ⟨A', E', Fs', d, F, t, S', g, fr, k', _⟩ := k.go W h A σ e Fs v G S z f
  exact ⟨A', E', Fs', .tr d, F, t, S', g, fr, k'⟩⟩
theorem er_var {i : Nat} {d : PyData} (q : slotV E i = some (.own d)) (k : zK E i (some (.fz d)) (K (.fz d))) : ResQ (.var i) E K := r_frz (ef_var q (zK_mono k fun _ h => h))
end
end HJ

set_option maxRecDepth 100000
set_option maxHeartbeats 4000000
/-! terms -/
namespace HJ
open PySem L2 HI
def reOf : HI.Re → Re
  | .fz d => .fz d
  | .own d => .own d
  | .var i => .var i
  | .rol xs => .rol xs
section
variable {X : Xp} {W : Av} {h : Hh} {A : Av} {σ : Gm} {e : Ev} {E : Dn} {Fs : Fp}
theorem relNil {h : Hh} {A : Av} (lt : ∀ b, A b → ∃ o : Ob, h[b]? = some o ∧ Mu o = true) : HI.RelE h A [] [] :=
  ⟨rfl, fun i d z => by simp at z, fun i d z => by simp at z, fun i d z => by simp at z, fun i j a xs ys z => by simp at z, lt⟩
theorem relBot {h : Hh} : HI.RelE h (fun _ => False) [] [] := relNil fun _ z => z.elim
theorem noOa {b : Nat} : ¬ HI.Oa [] [] b := fun ⟨i, d, z, _⟩ => by simp at z
/-- what a step on data alone comes to -/
theorem run_out (S : St W h A σ e E Fs) {r0 : HI.Re} {o : Option (Rs V × Hh)} (z : HI.Out h A [] [] r0 [] o) {Q : Re → Dn → Prop} (q : Q (reOf r0) E) : Run X W h A σ e (KE W e Q) o := by
  obtain ⟨v, h', A', rfl, p, r⟩ := z
  have t : Tn (fun b => W b ∨ ∃ j, b ∈ Fs j) h A σ h' A' σ := ⟨p.le, p.sub, fun b l _ => p.same b l noOa fun _ => l, fun b z => by
    have ab : A b := z.elim (S.wa b) fun ⟨j, z⟩ => (S.ac j b z).1
    obtain ⟨o, g, _⟩ := S.lt b ab
    exact p.keep b (lt_of_get g) ab noOa, Sub.refl⟩
  have S' : St W h' A' σ e E Fs := S.tn t (fun b z => .inl z) (fun i b z => .inr ⟨i, z⟩) p.rel.lt S.fin
  refine ⟨A', σ, E, Fs, t.weak fun b z => .inl z, S', reOf r0, ?_⟩
  cases r0 with
  | fz d => exact ⟨[], ⟨r, rfl⟩, Fr.nil, q⟩
  | own d =>
    obtain ⟨a, ob, e1, l, g, aa, _, c⟩ := r
    refine ⟨[a], ?_, Fr.mk (by simp) (fun b hb => ?_) (fun i b hb y => ?_), q⟩
    · show TrR h' A' σ (.own d) v [a]
      simp only [TrR]
      exact ⟨a, ob, e1, g, c, rfl⟩
    · rw [List.mem_singleton.mp hb]
      refine ⟨aa, fun y => ?_⟩
      obtain ⟨u, k, _⟩ := S.lt a (S.wa a y)
      exact absurd (lt_of_get k) (by omega)
    · rw [List.mem_singleton.mp hb] at y
      obtain ⟨u, k, _⟩ := S.lt a (S.ac i a y).1
      exact absurd (lt_of_get k) (by omega)
  | var i => exact absurd r.1 (by simp)
  | rol xs => exact ⟨[], ⟨r, rfl⟩, Fr.nil, q⟩
/-- plain things -/
def scal : PyData → Bool
  | .none => true
  | .bool _ => true
  | .int _ => true
  | .str _ => true
  | _ => false
theorem Fz.scal {h h' : Hh} {A A' : Av} {d : PyData} {v : V} (z : Fz h A d v) (s : scal d = true) : Fz h' A' d v := by
  cases d with
  | none => simpa only [Fz] using z
  | bool b => simpa only [Fz] using z
  | int b => simpa only [Fz] using z
  | str b => simpa only [Fz] using z
  | _ => cases s
/-- .. where things are only read -/
theorem run_ro (S : St W h A σ e E Fs) {d : PyData} {o : Option (Rs V × Hh)} (s : scal d = true) (z : HI.Out h (fun _ => False) [] [] (.fz d) [] o) {Q : Re → Dn → Prop} (q : Q (.fz d) E) : Run X W h A σ e (KE W e Q) o := by
  obtain ⟨v, h', A', rfl, p, r⟩ := z
  have sm : ∀ b : Nat, b < h.length → h'[b]? = h[b]? := fun b l => p.same b l noOa fun _ => l
  have lt : ∀ b, A b → ∃ o : Ob, h'[b]? = some o ∧ Mu o = true := fun b z => by
    obtain ⟨o, g, m⟩ := S.lt b z
    exact ⟨o, (sm b (lt_of_get g)).trans g, m⟩
  have t : Tn A h A σ h' A σ := ⟨p.le, fun b z => .inl z, fun b l _ => sm b l, fun b z => z, Sub.refl⟩
  have S' : St W h' A σ e E Fs := S.tn t S.wa (fun i b z => (S.ac i b z).1) lt S.fin
  exact ⟨A, σ, E, Fs, t.weak S.wa, S', .fz d, [], ⟨Fz.scal r s, rfl⟩, Fr.nil, q⟩
/-- a result that is data -/
theorem run_fz (S : St W h A σ e E Fs) {d : PyData} {v : V} (z : Fz h A d v) {Q : Re → Dn → Prop} (q : Q (.fz d) E) : Run X W h A σ e (KE W e Q) (some (.ok v, h)) :=
  Run.ret S ⟨.fz d, [], ⟨z, rfl⟩, Fr.nil, q⟩
end
def roO : Op2 → Bool
  | .eq => true
  | .ne => true
  | .in_ => true
  | .notin => true
  | .is_ => true
  | .isnot => true
  | _ => false
theorem roO_scal {o : Op2} {dx dy : PyData} {r : HI.Re} (ho : roO o = true) (m : opD o dx dy = some r) : ∃ b, r = .fz (.bool b) := by
  cases o with
  | eq => obtain ⟨b, _, rfl⟩ := Option.map_eq_some_iff.mp (show (eqP dx dy).map _ = some r from m); exact ⟨_, rfl⟩
  | ne => obtain ⟨b, _, rfl⟩ := Option.map_eq_some_iff.mp (show (eqP dx dy).map _ = some r from m); exact ⟨_, rfl⟩
  | in_ => obtain ⟨b, _, rfl⟩ := Option.map_eq_some_iff.mp (show (inP dx dy).map _ = some r from m); exact ⟨_, rfl⟩
  | notin => obtain ⟨b, _, rfl⟩ := Option.map_eq_some_iff.mp (show (inP dx dy).map _ = some r from m); exact ⟨_, rfl⟩
  | is_ => obtain ⟨b, _, rfl⟩ := Option.map_eq_some_iff.mp (show (isnD dx dy).map _ = some r from m); exact ⟨_, rfl⟩
  | isnot => obtain ⟨b, _, rfl⟩ := Option.map_eq_some_iff.mp (show (isnD dx dy).map _ = some r from m); exact ⟨_, rfl⟩
  | _ => cases ho
structure OpQ (o : Op2) (x y : PyData) (K : Re → Prop) : Prop where
  go : ∃ r, opD o x y = some r ∧ K (reOf r)
theorem q_op {o : Op2} {x y : PyData} {r : HI.Re} {K : Re → Prop} (e : opD o x y = some r) (k : K (reOf r)) : OpQ o x y K := ⟨r, e, k⟩
section
variable {X : Xp} {W : Av} {h : Hh} {A : Av} {σ : Gm} {e : Ev} {E : Dn} {Fs : Fp}
theorem run_op (S : St W h A σ e E Fs) {o : Op2} {x y : V} {dx dy : PyData} {r : HI.Re} (vx : VwB (roO o) h A dx x) (vy : VwB (roO o) h A dy y) (m : opD o dx dy = some r) {Q : Re → Dn → Prop} (q : Q (reOf r) E) : Run X W h A σ e (KE W e Q) (op2 o x y h) := by
  cases ho : roO o with
  | true =>
    rw [ho] at vx vy
    obtain ⟨b, rfl⟩ := roO_scal ho m
    exact run_ro S rfl (opD_ok (A := fun _ => False) relBot vx vy m) q
  | false =>
    rw [ho] at vx vy
    exact run_out S (opD_ok (relNil S.lt) vx vy m) q
end
section
variable {C : DC} {E : Dn} {Q : Re → Dn → Prop} {a b c : Ex} {es : Exs}
theorem ew_fz {i : Nat} {d : PyData} (q : slotV E i = some (.fz d)) (k : Q (.fz d) E) : WE C (.slot i) E Q := ⟨fun W h A σ e Fs S => by
  obtain ⟨v, ev, r⟩ := S.get q
  simp only [HI.ev, getS, ev]
  exact Run.ret S ⟨.fz d, [], ⟨r.1, rfl⟩, Fr.nil, k⟩⟩
theorem ew_own {i : Nat} {d : PyData} (q : slotV E i = some (.own d)) (k : Q (.var i) E) : WE C (.slot i) E Q := ⟨fun W h A σ e Fs S => by
  obtain ⟨v, ev, r⟩ := S.get q
  simp only [HI.ev, getS, ev]
  exact Run.ret S ⟨.var i, [], ⟨ev, rfl⟩, Fr.nil, k⟩⟩
theorem ew_tr {i : Nat} {t : Tr} (q : slotV E i = some (.tr t)) (k : Q (.var i) E) : WE C (.slot i) E Q := ⟨fun W h A σ e Fs S => by
  obtain ⟨v, ev, r⟩ := S.get q
  simp only [HI.ev, getS, ev]
  exact Run.ret S ⟨.var i, [], ⟨ev, rfl⟩, Fr.nil, k⟩⟩
theorem ew_bor {i j m : Nat} {p : List Sl} {sl : Sl} (q : slotV E i = some (.bor j p m sl)) (k : Q (.pt j p m sl) E) : WE C (.slot i) E Q := ⟨fun W h A σ e Fs S => by
  obtain ⟨v, ev, r⟩ := S.get q
  simp only [HI.ev, getS, ev]
  exact Run.ret S ⟨.pt j p m sl, [], ⟨r.1, rfl⟩, Fr.nil, k⟩⟩
theorem ew_rol {i : Nat} {d : List PyData} (q : slotV E i = some (.rol d)) (k : Q (.rol d) E) : WE C (.slot i) E Q := ⟨fun W h A σ e Fs S => by
  obtain ⟨v, ev, r⟩ := S.get q
  simp only [HI.ev, getS, ev]
  exact Run.ret S ⟨.rol d, [], ⟨r.1, rfl⟩, Fr.nil, k⟩⟩
theorem ew_cst {v : V} {d : PyData} (m : vD v = some d) (k : Q (.fz d) E) : WE C (.cst v) E Q := ⟨fun W h A σ e Fs S => by
  simp only [HI.ev]
  exact run_fz S (vD_ok m) k⟩
theorem ew_bin {o : Op2} (w : WE C a E fun x E1 => WE C b E1 fun y E2 => DatB (roO o) x E2 fun dx => DatB (roO o) y E2 fun dy => OpQ o dx dy fun r => Q r E2) : WE C (.bin o a b) E Q := ⟨fun W h A σ e Fs S => by
  simp only [HI.ev]
  refine w.go0 S fun x h1 A1 σ1 E1 Fs1 rx G1 t1 S1 zx f1 w1 => ?_
  refine w1.go S1 (rs := [rx]) (vs := [x]) (G := G1) ⟨x, [], G1, [], rfl, zx, ⟨rfl, rfl⟩, by simp⟩ f1 fun y h2 A2 σ2 E2 Fs2 ry G2 t2 S2 zy T f2 w2 => ?_
  obtain ⟨x', ws, G3, G4, e1, zx, ⟨rfl, rfl⟩, e2⟩ := T
  cases e1
  obtain ⟨dx, ex, dy, ey, r, er, q⟩ := (show ∃ dx, datB (roO o) E2 rx = some dx ∧ ∃ dy, datB (roO o) E2 ry = some dy ∧ ∃ r, opD o dx dy = some r ∧ Q (reOf r) E2 by
    obtain ⟨dx, ex, ⟨dy, ey, ⟨r, er, q⟩⟩⟩ := w2
    exact ⟨dx, ex, dy, ey, r, er, q⟩)
  exact run_op S2 (dat_ok S2 zx ex) (dat_ok S2 zy ey) er q⟩
/-! tests -/
structure TruQ (r : Re) (E : Dn) (K : Bool → Prop) : Prop where
  go : ∃ d k, datB true E r = some d ∧ truD d = some k ∧ K k
theorem q_tru {r : Re} {d : PyData} {k : Bool} {K : Bool → Prop} (m : datB true E r = some d) (t : truD d = some k) (h : K k) : TruQ r E K := ⟨d, k, m, t, h⟩
theorem q_truB {r : Re} {k : Bool} {K : Bool → Prop} (m : datB true E r = some (.bool k)) (h : K k) : TruQ r E K := ⟨_, k, m, rfl, h⟩
theorem tru_ok {W : Av} {h : Hh} {A : Av} {σ : Gm} {e : Ev} {Fs : Fp} {r : Re} {v : V} {G : List Nat} {d : PyData} {k : Bool} (S : St W h A σ e E Fs) (z : RR h A σ e r v G) (m : datB true E r = some d) (t : truD d = some k) : tru v h = some (.ok k, h) :=
  HI.tru_ok' (show Vw h (fun _ => False) d v from dat_ok (ro := true) S z m) t
/-- a test within a run -/
theorem WE.test {β : Type} {X : Xp} {W : Av} {h : Hh} {A : Av} {σ : Gm} {e : Ev} {Fs : Fp} {f : Bool → Mo β} {K : Kk β} {P : Bool → Dn → Prop} (hX : C.X = X) (w : WE C a E fun r E1 => TruQ r E1 fun k => P k E1) (S : St W h A σ e E Fs)
    (k : ∀ b h1 A1 σ1 E1 Fs1, Tn W h A σ h1 A1 σ1 → St W h1 A1 σ1 e E1 Fs1 → P b E1 → Run X W h1 A1 σ1 e K (f b h1)) : Run X W h A σ e K (bd (bd (ev (cf C) a e) tru) f h) := by
  subst hX
  have as : bd (bd (ev (cf C) a e) tru) f h = bd (ev (cf C) a e) (fun x => bd (tru x) f) h := by
    unfold bd
    cases ev (cf C) a e h with
    | none => rfl
    | some p => rcases p with ⟨r, h1⟩; cases r <;> rfl
  rw [as]
  refine w.go0 S fun x h1 A1 σ1 E1 Fs1 rx G1 t1 S1 zx f1 ⟨d, b, m, tr, q⟩ => ?_
  rw [HI.bd_eq (tru_ok S1 zx m tr)]
  exact k b h1 A1 σ1 E1 Fs1 t1 S1 q
/-- .. whose thing is kept -/
theorem WE.testV {β : Type} {W : Av} {h : Hh} {A : Av} {σ : Gm} {e : Ev} {Fs : Fp} {f : V → Bool → Mo β} {K : Kk β} {P : Re → Bool → Dn → Prop} (w : WE C a E fun r E1 => TruQ r E1 fun k => P r k E1) (S : St W h A σ e E Fs)
    (k : ∀ x b h1 A1 σ1 E1 Fs1 r G, Tn W h A σ h1 A1 σ1 → St W h1 A1 σ1 e E1 Fs1 → RR h1 A1 σ1 e r x G → Fr W A1 Fs1 G → P r b E1 → Run C.X W h1 A1 σ1 e K (f x b h1)) : Run C.X W h A σ e K (bd (ev (cf C) a e) (fun x => bd (tru x) (f x)) h) := by
  refine w.go0 S fun x h1 A1 σ1 E1 Fs1 rx G1 t1 S1 zx f1 ⟨d, b, m, tr, q⟩ => ?_
  rw [HI.bd_eq (tru_ok S1 zx m tr)]
  exact k x b h1 A1 σ1 E1 Fs1 rx G1 t1 S1 zx f1 q
theorem ew_not (w : WE C a E fun r E1 => TruQ r E1 fun k => Q (.fz (.bool !k)) E1) : WE C (.not a) E Q := ⟨fun W h A σ e Fs S => by
  simp only [HI.ev]
  refine w.testV S fun x b h1 A1 σ1 E1 Fs1 r G t1 S1 z f q => ?_
  exact run_fz S1 fz_bool q⟩
structure zI (k : Bool) (A B : Prop) : Prop where
  go : if k = true then A else B
theorem eq_t {A B : Prop} (h : A) : zI true A B := ⟨h⟩
theorem eq_f {A B : Prop} (h : B) : zI false A B := ⟨h⟩
theorem eq_if {k : Bool} {A B : Prop} (h1 : k = true → A) (h2 : k = false → B) : zI k A B := by
  cases k with
  | true => exact ⟨h1 rfl⟩
  | false => exact ⟨h2 rfl⟩
theorem eq_dec {p : Prop} [Decidable p] {A B : Prop} (h1 : p → A) (h2 : ¬ p → B) : zI (decide p) A B := by
  by_cases h : p
  · rw [decide_eq_true h]; exact ⟨h1 h⟩
  · rw [decide_eq_false h]; exact ⟨h2 h⟩
theorem q_ndec {p : Prop} [Decidable p] {A B : Prop} (h1 : ¬ p → A) (h2 : p → B) : zI (!decide p) A B := by
  by_cases h : p
  · rw [decide_eq_true h]; exact ⟨h2 h⟩
  · rw [decide_eq_false h]; exact ⟨h1 h⟩
theorem zI_t {A B : Prop} (h : zI true A B) : A := h.go
theorem zI_f {A B : Prop} (h : zI false A B) : B := by have := h.go; simpa using this
theorem ew_neg (w : WE C a E fun r E1 => DatQ r E1 fun d => ∃ i, d = .int i ∧ Q (.fz (.int (-i))) E1) : WE C (.neg a) E Q := ⟨fun W h A σ e Fs S => by
  simp only [HI.ev]
  refine w.go0 S fun x h1 A1 σ1 E1 Fs1 rx G1 t1 S1 zx f1 ⟨d, m, i, ed, q⟩ => ?_
  subst ed
  have := vw_int (dat_ok (ro := false) S1 zx m)
  subst this
  exact run_fz S1 fz_int q⟩
theorem ew_and (w : WE C a E fun x E1 => TruQ x E1 fun k => zI k (WE C b E1 Q) (Q x E1)) : WE C (.and a b) E Q := ⟨fun W h A σ e Fs S => by
  simp only [HI.ev]
  refine w.testV S fun x b h1 A1 σ1 E1 Fs1 r G t1 S1 z f q => ?_
  cases b with
  | true => exact (zI_t q).run W h1 A1 σ1 e Fs1 S1
  | false => exact Run.ret S1 ⟨r, G, z, f, zI_f q⟩⟩
theorem ew_or (w : WE C a E fun x E1 => TruQ x E1 fun k => zI k (Q x E1) (WE C b E1 Q)) : WE C (.or a b) E Q := ⟨fun W h A σ e Fs S => by
  simp only [HI.ev]
  refine w.testV S fun x b h1 A1 σ1 E1 Fs1 r G t1 S1 z f q => ?_
  cases b with
  | true => exact Run.ret S1 ⟨r, G, z, f, zI_t q⟩
  | false => exact (zI_f q).run W h1 A1 σ1 e Fs1 S1⟩
theorem ew_ife (w : WE C c E fun r E1 => TruQ r E1 fun k => zI k (WE C a E1 Q) (WE C b E1 Q)) : WE C (.ite c a b) E Q := ⟨fun W h A σ e Fs S => by
  simp only [HI.ev]
  refine w.testV S fun x k h1 A1 σ1 E1 Fs1 r G t1 S1 z f q => ?_
  cases k with
  | true => exact (zI_t q).run W h1 A1 σ1 e Fs1 S1
  | false => exact (zI_f q).run W h1 A1 σ1 e Fs1 S1⟩
/-- an operation within a run: its answer a truth value -/
theorem op_bool {W : Av} {h : Hh} {A : Av} {σ : Gm} {e : Ev} {Fs : Fp} {o : Op2} {x y : V} {dx dy : PyData} {k : Bool} (S : St W h A σ e E Fs) (vx : VwB (roO o) h A dx x) (vy : VwB (roO o) h A dy y) (m : opD o dx dy = some (.fz (.bool k))) :
    Run C.X W h A σ e (fun v h' A' σ' E' Fs' => v = .bl k ∧ E' = E) (op2 o x y h) :=
  (run_op (Q := fun r E' => r = .fz (.bool k) ∧ E' = E) S vx vy m ⟨rfl, rfl⟩).mono fun v h' A' σ' E' Fs' _ _ ⟨r, G, z, _, er, eE⟩ => by
    subst er
    exact ⟨by simpa only [Fz] using z.1, eE⟩
theorem ew_chain {o p : Op2} (w : WE C a E fun x E1 => WE C b E1 fun y E2 => DatB (roO o) x E2 fun dx => DatB (roO o) y E2 fun dy => OpQ o dx dy fun r => ∃ k, r = .fz (.bool k) ∧
    zI k (WE C c E2 fun z E3 => DatB (roO p) y E3 fun dy => DatB (roO p) z E3 fun dz => OpQ p dy dz fun r => Q r E3) (Q (.fz (.bool false)) E2)) : WE C (.chain o p a b c) E Q := ⟨fun W h A σ e Fs S => by
  simp only [HI.ev]
  refine w.go0 S fun x h1 A1 σ1 E1 Fs1 rx G1 t1 S1 zx f1 w1 => ?_
  refine w1.go S1 (rs := [rx]) (vs := [x]) (G := G1) ⟨x, [], G1, [], rfl, zx, ⟨rfl, rfl⟩, by simp⟩ f1 fun y h2 A2 σ2 E2 Fs2 ry G2 t2 S2 zy T f2 w2 => ?_
  obtain ⟨x', ws, G3, G4, e1, zx, ⟨rfl, rfl⟩, e2⟩ := T
  cases e1
  obtain ⟨dx, ex, ⟨dy, ey, ⟨r, er, k, ek, q⟩⟩⟩ := w2
  cases r with
  | fz d =>
    cases ek
    have st := (op_bool (C := C) (S2.aside f2.left) (dat_ok S2 zx ex) (dat_ok S2 zy ey) er).back
    refine Run.bind st ?_
    rintro v h3 A3 σ3 E3 Fs3 t3 S3 ⟨t3', S3', rfl, rfl⟩
    have zy3 := zy.ok (t3.ok S2.lt) t3.gm fun c hc => by
      obtain ⟨o, g, _⟩ := S2.lt c (f2.left.ac c hc).1
      exact t3'.same c (lt_of_get g) (.inr (.inr hc))
    have f3 := f2.left.still t3' S3'
    cases k with
    | false => exact run_fz S3 fz_bool (zI_f q)
    | true =>
      refine (zI_t q).go S3 (rs := [ry]) (vs := [y]) (G := G2) ⟨y, [], G2, [], rfl, zy3, ⟨rfl, rfl⟩, by simp⟩ f3 fun z h4 A4 σ4 E4 Fs4 rz G4 t4 S4 zz T f4 w4 => ?_
      obtain ⟨y', ws, G5, G6, e1, zy, ⟨rfl, rfl⟩, e2⟩ := T
      cases e1
      obtain ⟨dy', ey', ⟨dz, ez, ⟨r, er, q⟩⟩⟩ := w4
      exact run_op S4 (dat_ok S4 zy ey') (dat_ok S4 zz ez) er q
  | own d => cases ek
  | var d => cases ek
  | rol d => cases ek⟩
end
end HJ

set_option maxRecDepth 100000
set_option maxHeartbeats 4000000
/-! terms in a row, displays, subscripts, fields, built-in functions -/
namespace HJ
open PySem L2 HI
section
variable {α : Type} {X : Xp} {W : Av} {h : Hh} {A : Av} {σ : Gm} {e : Ev} {E : Dn} {Fs : Fp}
/-- a run while results are pending -/
theorem Run.pend {K : Kk α} {o : Option (Rs α × Hh)} {rs : List Re} {vs : List V} {G : List Nat} (w : Run X (plus W G) h A σ e K o) (S : St W h A σ e E Fs) (T : RRL h A σ e rs vs G) (fr : Fr W A Fs G) :
    Run X W h A σ e (fun a h' A' σ' E' Fs' => K a h' A' σ' E' Fs' ∧ RRL h' A' σ' e rs vs G ∧ Fr W A' Fs' G ∧ Tn (plus W G) h A σ h' A' σ' ∧ St (plus W G) h' A' σ' e E' Fs') o := by
  refine w.back.mono fun a h' A' σ' E' Fs' t S' ⟨t2, S2, k⟩ => ⟨k, T.ok (t2.ok S.lt) t2.gm fun c hc => ?_, fr.still t2 S2, t2, S2⟩
  obtain ⟨o, g, _⟩ := S.lt c (fr.ac c hc).1
  exact t2.same c (lt_of_get g) (.inr (.inr hc))
/-- a new object that may change -/
def newA (A : Av) (a : Nat) : Av := fun b => A b ∨ b = a
theorem St.new (S : St W h A σ e E Fs) {ob : Ob} (mu : Mu ob = true) {σ' : Gm} (g : Sub σ σ') (fin : ∃ N, ∀ n, N ≤ n → σ' n = none) :
    Tn A h A σ (h ++ [ob]) (newA A h.length) σ' ∧ St W (h ++ [ob]) (newA A h.length) σ' e E Fs := by
  have t : Tn A h A σ (h ++ [ob]) (newA A h.length) σ' := ⟨by rw [List.length_append]; exact Nat.le_add_right _ _, fun b z => z.imp id fun z => by rw [z]; exact Nat.le_refl _, fun b l _ => get_app l, fun b z => .inl z, g⟩
  refine ⟨t, S.tn t S.wa (fun i b z => (S.ac i b z).1) (fun b z => ?_) fin⟩
  rcases z with z | rfl
  · obtain ⟨o, g, m⟩ := S.lt b z
    exact ⟨o, (get_app (lt_of_get g)).trans g, m⟩
  · exact ⟨ob, getNew, mu⟩
theorem St.lt' (S : St W h A σ e E Fs) {b : Nat} (z : A b) : b < h.length := by
  obtain ⟨o, g, _⟩ := S.lt b z
  exact lt_of_get g
/-- .. owned by nobody yet -/
theorem Fr.new (S : St W h A σ e E Fs) {G : List Nat} (f : Fr W A Fs G) : Fr W (newA A h.length) Fs (h.length :: G) := by
  refine Fr.mk (List.nodup_cons.mpr ⟨fun z => absurd (S.lt' (f.ac _ z).1) (Nat.lt_irrefl _), f.nd⟩) (fun b hb => ?_) (fun i b hb y => ?_)
  · rcases List.mem_cons.mp hb with rfl | hb
    · exact ⟨.inr rfl, fun y => absurd (S.lt' (S.wa _ y)) (Nat.lt_irrefl _)⟩
    · exact ⟨.inl (f.ac b hb).1, (f.ac b hb).2⟩
  · rcases List.mem_cons.mp hb with rfl | hb
    · exact absurd (S.lt' (S.ac i _ y).1) (Nat.lt_irrefl _)
    · exact f.no i b hb y
/-- a number for new contents -/
theorem St.num (S : St W h A σ e E Fs) (ob : Ob) : ∃ n σ', σ' n = some ob ∧ Sub σ σ' ∧ ∃ N, ∀ n, N ≤ n → σ' n = none := by
  obtain ⟨N, hN⟩ := S.fin
  refine ⟨N, fun m => if m = N then some ob else σ m, if_pos rfl, fun m o z => ?_, N + 1, fun m hm => ?_⟩
  · have : m ≠ N := fun q => by subst q; rw [hN m (Nat.le_refl _)] at z; cases z
    show (if m = N then _ else _) = _
    rw [if_neg this]; exact z
  · show (if m = N then _ else _) = _
    rw [if_neg (by omega)]; exact hN m (by omega)
theorem St.gm (S : St W h A σ e E Fs) {σ' : Gm} (g : Sub σ σ') (fin : ∃ N, ∀ n, N ≤ n → σ' n = none) : Tn A h A σ h A σ' ∧ St W h A σ' e E Fs := by
  have t : Tn A h A σ h A σ' := ⟨Nat.le_refl _, fun b z => .inl z, fun _ _ _ => rfl, fun b z => z, g⟩
  exact ⟨t, S.tn t S.wa (fun i b z => (S.ac i b z).1) S.lt fin⟩
end
/-! ### terms in a row -/
def KA (W : Av) (e : Ev) (Q : List Re → Dn → Prop) : Kk (List V) := fun vs h A σ E Fs => ∃ rs G, RRL h A σ e rs vs G ∧ Fr W A Fs G ∧ Q rs E
structure WA (C : DC) (t : Exs) (E : Dn) (Q : List Re → Dn → Prop) : Prop where
  run : ∀ (W : Av) (h : Hh) (A : Av) (σ : Gm) (e : Ev) (Fs : Fp), St W h A σ e E Fs → Run C.X W h A σ e (KA W e Q) (evs (cf C) t e h)
section
variable {C : DC} {E : Dn} {Q : Re → Dn → Prop} {R : List Re → Dn → Prop} {a b c : Ex} {es : Exs}
theorem WA.mono {t : Exs} {R' : List Re → Dn → Prop} (w : WA C t E R) (m : ∀ r E, R r E → R' r E) : WA C t E R' :=
  ⟨fun W h A σ e Fs S => (w.run W h A σ e Fs S).mono fun v h' A' σ' E' Fs' _ _ ⟨r, G, a, b, q⟩ => ⟨r, G, a, b, m _ _ q⟩⟩
theorem ew_nil (k : R [] E) : WA C .nil E R := ⟨fun W h A σ e Fs S => by
  simp only [HI.evs]
  exact Run.ret S ⟨[], [], ⟨rfl, rfl⟩, Fr.nil, k⟩⟩
theorem ew_cons (w : WE C a E fun x E1 => WA C es E1 fun xs E2 => R (x :: xs) E2) : WA C (.cons a es) E R := ⟨fun W h A σ e Fs S => by
  simp only [HI.evs]
  refine w.go0 S fun x h1 A1 σ1 E1 Fs1 rx G1 t1 S1 zx f1 w1 => ?_
  refine Run.bind (Run.pend (w1.run (plus W G1) h1 A1 σ1 e Fs1 (S1.aside f1)) S1 (rs := [rx]) (vs := [x]) (G := G1) ⟨x, [], G1, [], rfl, zx, ⟨rfl, rfl⟩, by simp⟩ f1) ?_
  rintro vs h2 A2 σ2 E2 Fs2 t2 S2 ⟨⟨rs, G2, T2, f2, q⟩, T1, f1', _, _⟩
  obtain ⟨x', ws, G3, G4, e1, zx, ⟨rfl, rfl⟩, e2⟩ := T1
  cases e1
  rw [List.append_nil] at e2
  subst e2
  exact Run.ret S2 ⟨rx :: rs, G1 ++ G2, ⟨x, vs, G1, G2, rfl, zx, T2, rfl⟩, (f1'.two f2).perm List.perm_append_comm, q⟩⟩
theorem WA.go0 {β : Type} {W : Av} {h : Hh} {A : Av} {σ : Gm} {e : Ev} {Fs : Fp} {f : List V → Mo β} {K : Kk β} (w : WA C es E R) (S : St W h A σ e E Fs)
    (k : ∀ vs h1 A1 σ1 E1 Fs1 rs G1, Tn W h A σ h1 A1 σ1 → St W h1 A1 σ1 e E1 Fs1 → RRL h1 A1 σ1 e rs vs G1 → Fr W A1 Fs1 G1 → R rs E1 → Run C.X W h1 A1 σ1 e K (f vs h1)) : Run C.X W h A σ e K (bd (evs (cf C) es e) f h) := by
  refine Run.bind (w.run W h A σ e Fs S) ?_
  rintro vs h1 A1 σ1 E1 Fs1 t1 S1 ⟨rs, G1, a, b, q⟩
  exact k vs h1 A1 σ1 E1 Fs1 rs G1 t1 S1 a b q
/-! displays -/
theorem ew_lst (w : WA C es E fun rs E1 => FrzsQ rs E1 fun ds E2 => ds.length ≤ sizeLine ∧ Q (.own (.list ds)) E2) : WE C (.lst es) E Q := ⟨fun W h A σ e Fs S => by
  simp only [HI.ev]
  refine w.go0 S fun vs h1 A1 σ1 E1 Fs1 rs G1 t1 S1 T f1 w1 => ?_
  obtain ⟨A2, E2, Fs2, ds, t2, S2, r, l, q⟩ := w1.go W h1 A1 σ1 e Fs1 vs G1 S1 T f1
  rw [if_pos (by rw [← r.len]; exact l)]
  exact Run.after t2 (run_out S2 (out_lst (relNil S2.lt) r) q)⟩
theorem ew_tup (w : WA C es E fun rs E1 => FrzsQ rs E1 fun ds E2 => ds.length ≤ sizeLine ∧ Q (.fz (.tuple ds)) E2) : WE C (.tup es) E Q := ⟨fun W h A σ e Fs S => by
  simp only [HI.ev]
  refine w.go0 S fun vs h1 A1 σ1 E1 Fs1 rs G1 t1 S1 T f1 w1 => ?_
  obtain ⟨A2, E2, Fs2, ds, t2, S2, r, l, q⟩ := w1.go W h1 A1 σ1 e Fs1 vs G1 S1 T f1
  rw [if_pos (by rw [← r.len]; exact l)]
  exact Run.after t2 (run_out S2 (out_tup (relNil S2.lt) r) q)⟩
theorem run_node {W : Av} {h : Hh} {A : Av} {σ : Gm} {e : Ev} {Fs : Fp} {ts : List Tr} {vs : List V} {G : List Nat} (S : St W h A σ e E Fs) (z : TrL h A σ ts vs G) (f : Fr W A Fs G) (q : ∀ n, Q (.tr (.lst n ts)) E) :
    Run C.X W h A σ e (KE W e Q) (alloc (.lst vs) h) := by
  obtain ⟨n, σ', hn, g, fin⟩ := S.num (.lst vs)
  obtain ⟨t, S'⟩ := S.new (ob := .lst vs) rfl g fin
  refine ⟨_, σ', E, Fs, t.weak S.wa, S', .tr (.lst n ts), h.length :: G, ?_, Fr.new S f, q n⟩
  show TrR _ _ _ (.lst n ts) _ _
  simp only [TrR]
  exact ⟨h.length, vs, G, rfl, getNew, hn, TrL.ok (t.ok S.lt) g ts vs G z fun b hb => t.same b (S.lt' (f.ac b hb).1) (.inr (f.ac b hb).1), rfl⟩
/-- with its parts owned -/
theorem ew_lstK (w : WA C es E fun rs E1 => GivsQ rs E1 fun ts E2 => ts.length ≤ sizeLine ∧ ∀ n, Q (.tr (.lst n ts)) E2) : WE C (.lst es) E Q := ⟨fun W h A σ e Fs S => by
  simp only [HI.ev]
  refine w.go0 S fun vs h1 A1 σ1 E1 Fs1 rs G1 t1 S1 T f1 w1 => ?_
  obtain ⟨A2, E2, Fs2, ts, G2, t2, S2, r, f2, l, q⟩ := w1.go W h1 A1 σ1 e Fs1 vs G1 S1 T f1
  rw [if_pos (by rw [← TrL.len r]; exact l)]
  exact Run.after t2 (run_node S2 r f2 q)⟩
theorem ew_tupK (w : WA C es E fun rs E1 => GivsQ rs E1 fun ts E2 => ts.length ≤ sizeLine ∧ ∀ n, Q (.tr (.tup n ts)) E2) : WE C (.tup es) E Q := ⟨fun W h A σ e Fs S => by
  simp only [HI.ev]
  refine w.go0 S fun vs h1 A1 σ1 E1 Fs1 rs G1 t1 S1 T f1 w1 => ?_
  obtain ⟨A2, E2, Fs2, ts, G2, t2, S2, r, f2, l, q⟩ := w1.go W h1 A1 σ1 e Fs1 vs G1 S1 T f1
  rw [if_pos (by rw [← TrL.len r]; exact l)]
  refine Run.after t2 ?_
  obtain ⟨n, σ', hn, g, fin⟩ := S2.num (.tup vs)
  have t : Tn A2 h1 A2 σ1 (h1 ++ [.tup vs]) A2 σ' := ⟨by rw [List.length_append]; exact Nat.le_add_right _ _, fun b z => .inl z, fun b l _ => get_app l, fun b z => z, g⟩
  have S' := S2.tn t S2.wa (fun i b z => (S2.ac i b z).1) (fun b z => by
    obtain ⟨o, g, m⟩ := S2.lt b z
    exact ⟨o, (get_app (lt_of_get g)).trans g, m⟩) fin
  refine ⟨_, σ', E2, Fs2, t.weak S2.wa, S', .tr (.tup n ts), G2, ?_, f2, q n⟩
  show TrR _ _ _ (.tup n ts) _ _
  simp only [TrR]
  exact ⟨h1.length, vs, rfl, by unfold seqT; rw [getNew], hn, TrL.ok (t.ok S2.lt) g ts vs G2 r fun b hb => t.same b (S2.lt' (f2.ac b hb).1) (.inr (f2.ac b hb).1)⟩⟩
/-! ### parts -/
structure IdxQ (x y : PyData) (K : PyData → Prop) : Prop where
  go : ∃ d, indexD x y = some d ∧ K d
theorem q_idx {x y d : PyData} {K : PyData → Prop} (e : indexD x y = some d) (k : K d) : IdxQ x y K := ⟨d, e, k⟩
/-- the node that a result names -/
def nodeO (E : Dn) : Re → Option Tr
  | .tr t => some t
  | .var i => match slotV E i with
    | some (.tr t) => some t
    | _ => none
  | .pt i q m k => getP E i q m k
  | _ => none
def isTn : Tr → Bool
  | .lst _ _ => true
  | .tup _ _ => true
  | .ins _ _ _ => true
  | _ => false
/-- is it a thing with owned parts -/
def isT (E : Dn) (r : Re) : Bool := match nodeO E r with
  | some t => isTn t
  | none => false
def reT : Tr → Re
  | .fz d => .fz d
  | .own d => .own d
  | t => .tr t
def ptR (c : Tr) (r : Re) : Re := match c with
  | .fz d => .fz d
  | _ => r
/-- a part of what a result names -/
def chQ (E : Dn) (r : Re) (k : Sl) : Option Re := match nodeO E r with
  | some t => match chT t k, stT t with
    | some c, some m => match r with
      | .tr _ => some (reT c)
      | .var i => some (ptR c (.pt i [] m k))
      | .pt i q _ k0 => some (ptR c (.pt i (q ++ [k0]) m k))
      | _ => none
    | _, _ => none
  | none => none
theorem node_ok {W : Av} {h : Hh} {A : Av} {σ : Gm} {e : Ev} {Fs : Fp} {r : Re} {x : V} {G : List Nat} {t : Tr} (S : St W h A σ e E Fs) (z : RR h A σ e r x G) (m : nodeO E r = some t) : ∃ F, TrR h A σ t x F := by
  cases r with
  | tr t' => cases m; exact ⟨_, z⟩
  | var i =>
    simp only [nodeO] at m
    split at m
    · rename_i q
      cases m
      obtain ⟨u, h1, h2⟩ := S.get q
      rw [z.1] at h1
      cases h1
      exact ⟨_, h2⟩
    · cases m
  | pt i q m' k =>
    obtain ⟨v, t', s, F0, R, _, _, _, zz⟩ := S.pt z m
    exact ⟨F0, zz.rel⟩
  | fz d => cases m
  | own d => cases m
  | rol d => cases m
theorem ch_ok {W : Av} {h : Hh} {A : Av} {σ : Gm} {e : Ev} {Fs : Fp} {r r' : Re} {x : V} {G : List Nat} {k : Sl} (S : St W h A σ e E Fs) (z : RR h A σ e r x G) (f : Fr W A Fs G) (m : chQ E r k = some r') :
    ∃ t c y G', nodeO E r = some t ∧ chT t k = some c ∧ (∃ F, TrR h A σ t x F) ∧ RR h A σ e r' y G' ∧ Fr W A Fs G' ∧ (∃ F0 R F, Zip h A σ x c y F (updC t k) F0 R) ∧ ∀ n, stT t = some n → ∃ ob, σ n = some ob ∧ chO ob k = some y := by
  unfold chQ at m
  split at m
  · rename_i t ht
    split at m
    · rename_i c mm hc hm
      obtain ⟨F, zt⟩ := node_ok S z ht
      obtain ⟨y, F0, R, zz, id⟩ := zt.ch hc
      obtain ⟨ob, go, gk⟩ := id mm hm
      refine ⟨t, c, y, ?_⟩
      have pfz : ∀ d, c = .fz d → Fz h A d y := fun d q => by
        have := zz.rel
        rw [q] at this
        simp only [TrR] at this
        exact this.1
      split at m
      · rename_i t2
        cases m
        cases ht
        obtain ⟨y2, F02, R2, zz2, id2⟩ := TrR.ch (show TrR h A σ t x G from z) hc
        obtain ⟨ob2, go2, gk2⟩ := id2 mm hm
        rw [go] at go2
        cases go2
        rw [gk] at gk2
        cases gk2
        have f2 := f.perm zz2.pm
        refine ⟨F02, rfl, hc, ⟨F, zt⟩, ?_, f2.left, ⟨F0, R, F, zz⟩, id⟩
        cases c with
        | fz d => exact ⟨pfz d rfl, by have := zz2.rel; simp only [TrR] at this; exact this.2⟩
        | own d => exact zz2.rel
        | lst n ts => exact zz2.rel
        | tup n ts => exact zz2.rel
        | ins n cl ts => exact zz2.rel
      · rename_i i
        cases m
        refine ⟨[], ht, hc, ⟨F, zt⟩, ?_, Fr.nil, ⟨F0, R, F, zz⟩, id⟩
        cases c with
        | fz d => exact ⟨pfz d rfl, rfl⟩
        | _ => exact ⟨⟨ob, go, gk⟩, rfl⟩
      · rename_i i q m0 k0
        cases m
        refine ⟨[], ht, hc, ⟨F, zt⟩, ?_, Fr.nil, ⟨F0, R, F, zz⟩, id⟩
        cases c with
        | fz d => exact ⟨pfz d rfl, rfl⟩
        | _ => exact ⟨⟨ob, go, gk⟩, rfl⟩
      · cases m
    · cases m
  · cases m
/-- x[y] -/
structure IdxP (x y : Re) (E : Dn) (Q : Re → Prop) : Prop where
  go : (∃ dx dy d, datRB E x = some dx ∧ datB false E y = some dy ∧ indexD dx dy = some d ∧ Q (.fz d)) ∨ ∃ t k n j r, nodeO E x = some t ∧ datB false E y = some (.int k) ∧ (∃ m ts, (t = .lst m ts ∨ t = .tup m ts) ∧ ts.length = n) ∧ ixN n k = some j ∧ chQ E x (.ix j) = some r ∧ Q r
theorem ip_d {x y : Re} {Q : Re → Prop} (n : isT E x = false) (k : DatRQ x E fun dx => DatQ y E fun dy => IdxQ dx dy fun d => Q (.fz d)) : IdxP x y E Q := by
  obtain ⟨dx, e1, ⟨dy, e2, ⟨d, e3, q⟩⟩⟩ := k
  exact ⟨.inl ⟨dx, dy, d, e1, e2, e3, q⟩⟩
theorem ip_t {x y r : Re} {k : Int} {j m : Nat} {ts : List Tr} {Q : Re → Prop} (n : nodeO E x = some (.lst m ts)) (e2 : datB false E y = some (.int k)) (e3 : ixN ts.length k = some j) (e4 : chQ E x (.ix j) = some r) (q : Q r) : IdxP x y E Q :=
  ⟨.inr ⟨_, k, _, j, r, n, e2, ⟨m, ts, .inl rfl, rfl⟩, e3, e4, q⟩⟩
theorem ip_tt {x y r : Re} {k : Int} {j m : Nat} {ts : List Tr} {Q : Re → Prop} (n : nodeO E x = some (.tup m ts)) (e2 : datB false E y = some (.int k)) (e3 : ixN ts.length k = some j) (e4 : chQ E x (.ix j) = some r) (q : Q r) : IdxP x y E Q :=
  ⟨.inr ⟨_, k, _, j, r, n, e2, ⟨m, ts, .inr rfl, rfl⟩, e3, e4, q⟩⟩
theorem atI_of {xs : List V} {k : Int} {j : Nat} {y : V} (e : ixN xs.length k = some j) (g : xs[j]? = some y) : atI xs k = some y := by
  unfold atI
  rw [e]
  exact g
theorem ew_idx (w : WE C a E fun x E1 => WE C b E1 fun y E2 => IdxP x y E2 fun r => Q r E2) : WE C (.idx a b) E Q := ⟨fun W h A σ e Fs S => by
  simp only [HI.ev]
  refine w.go0 S fun x h1 A1 σ1 E1 Fs1 rx G1 t1 S1 zx f1 w1 => ?_
  refine w1.go S1 (rs := [rx]) (vs := [x]) (G := G1) ⟨x, [], G1, [], rfl, zx, ⟨rfl, rfl⟩, by simp⟩ f1 fun y h2 A2 σ2 E2 Fs2 ry G2 t2 S2 zy T f2 w2 => ?_
  obtain ⟨x', ws, G3, G4, e1, zx, ⟨rfl, rfl⟩, e2⟩ := T
  cases e1
  rw [List.append_nil] at e2
  subst e2
  rcases w2.go with ⟨dx, dy, d, ex, ey, ed, q⟩ | ⟨t, k, n, j, r, ht, ey, ⟨m, ts, hts, hn⟩, hj, hc, q⟩
  · obtain ⟨v, ev, fv⟩ := indexD_ok (datR_ok S2 zx ex) (dat_ok (ro := false) S2 zy ey) ed
    rw [ev]
    exact run_fz S2 fv q
  · have := vw_int (dat_ok (ro := false) S2 zy ey)
    subst this
    obtain ⟨t', c, v, G', q1, q2, ⟨F, zt⟩, zr, fr, _, id⟩ := ch_ok S2 zx f2.right hc
    rw [ht] at q1
    cases q1
    have : index x (.int k) h2 = some (.ok v, h2) := by
      subst hn
      rcases hts with rfl | rfl
      · simp only [TrR] at zt
        obtain ⟨a, xs, G, rfl, g, u, rl, _⟩ := zt
        obtain ⟨ob, go, gk⟩ := id m rfl
        rw [u] at go
        cases go
        show (match seqL h2 a with | some xs => atI xs k | none => match seqT h2 a with | some xs => atI xs k | none => none).map (fun a => (Rs.ok a, h2)) = _
        rw [show seqL h2 a = some xs from HI.seqL_of g]
        dsimp only
        rw [atI_of (by rw [← TrL.len rl]; exact hj) gk]; rfl
      · simp only [TrR] at zt
        obtain ⟨a, xs, rfl, g, u, rl⟩ := zt
        obtain ⟨ob, go, gk⟩ := id m rfl
        rw [u] at go
        cases go
        show (match seqL h2 a with | some xs => atI xs k | none => match seqT h2 a with | some xs => atI xs k | none => none).map (fun a => (Rs.ok a, h2)) = _
        rw [show seqL h2 a = none from HI.seqT_notL g, g]
        dsimp only
        rw [atI_of (by rw [← TrL.len rl]; exact hj) gk]; rfl
    rw [this]
    exact Run.ret S2 ⟨r, G', zr, fr, q⟩⟩
/-! x[lo:hi] -/
structure PartQ (C : DC) (b : Bool) (a : Ex) (E : Dn) (K : Option Int → Dn → Prop) : Prop where
  go : (b = false ∧ K none E) ∨ (b = true ∧ WE C a E fun r E1 => DatQ r E1 fun d => ∃ i, d = .int i ∧ K (some i) E1)
theorem p_no {K : Option Int → Dn → Prop} (k : K none E) : PartQ C false a E K := ⟨.inl ⟨rfl, k⟩⟩
theorem ep_yes {K : Option Int → Dn → Prop} (w : WE C a E fun r E1 => DatQ r E1 fun d => ∃ i, d = .int i ∧ K (some i) E1) : PartQ C true a E K := ⟨.inr ⟨rfl, w⟩⟩
theorem PartQ.go1 {β : Type} {W : Av} {h : Hh} {A : Av} {σ : Gm} {e : Ev} {Fs : Fp} {bb : Bool} {P : Option Int → Dn → Prop} {rs : List Re} {vs : List V} {G : List Nat} {f : Option Int → Mo β} {K : Kk β} (w : PartQ C bb a E P) (S : St W h A σ e E Fs) (T : RRL h A σ e rs vs G) (fr : Fr W A Fs G)
    (k : ∀ o h1 A1 σ1 E1 Fs1, Tn W h A σ h1 A1 σ1 → St W h1 A1 σ1 e E1 Fs1 → RRL h1 A1 σ1 e rs vs G → Fr W A1 Fs1 G → P o E1 → Run C.X W h1 A1 σ1 e K (f o h1)) :
    Run C.X W h A σ e K (bd (partO bb (ev (cf C) a e)) f h) := by
  rcases w.go with ⟨rfl, q⟩ | ⟨rfl, w2⟩
  · exact k none h A σ E Fs (Tn.refl S.wa) S T fr q
  · have as : bd (partO true (ev (cf C) a e)) f h = bd (ev (cf C) a e) (fun x => bd (toI x) fun i => f (some i)) h := by
      unfold partO
      rw [if_pos rfl]
      unfold bd
      cases ev (cf C) a e h with
      | none => rfl
      | some p =>
        rcases p with ⟨r, h1⟩
        cases r with
        | ex c fs => rfl
        | ok v => cases v <;> rfl
    rw [as]
    refine w2.go S T fr fun x h1 A1 σ1 E1 Fs1 r G1 t1 S1 zx T1 f1 ⟨d, m, i, ed, q⟩ => ?_
    subst ed
    have := vw_int (dat_ok (ro := false) S1 zx m)
    subst this
    exact k (some i) h1 A1 σ1 E1 Fs1 t1 S1 T1 f1.right q
structure SlcQ (d : PyData) (lo hi : Option Int) (K : Re → Prop) : Prop where
  go : ∃ r, sliceD d lo hi = some r ∧ K (reOf r)
theorem q_slcL {xs : List PyData} {lo hi : Option Int} {K : Re → Prop} (k : K (.own (.list (cutD xs lo hi)))) : SlcQ (.list xs) lo hi K := ⟨_, rfl, k⟩
theorem ew_slc {lo hi : Ex} {bl bh : Bool} (w : WE C a E fun x E1 => PartQ C bl lo E1 fun l E2 => PartQ C bh hi E2 fun u E3 => DatRQ x E3 fun d => SlcQ d l u fun r => Q r E3) : WE C (.slc a bl lo bh hi) E Q := ⟨fun W h A σ e Fs S => by
  simp only [HI.ev]
  refine w.go0 S fun x h1 A1 σ1 E1 Fs1 rx G1 t1 S1 zx f1 w1 => ?_
  refine w1.go1 S1 (rs := [rx]) (vs := [x]) (G := G1) ⟨x, [], G1, [], rfl, zx, ⟨rfl, rfl⟩, by simp⟩ f1 fun l h2 A2 σ2 E2 Fs2 t2 S2 T2 f2 w2 => ?_
  refine w2.go1 S2 T2 f2 fun u h3 A3 σ3 E3 Fs3 t3 S3 T3 f3 w3 => ?_
  obtain ⟨x', ws, G3, G4, e1, zx, ⟨rfl, rfl⟩, e2⟩ := T3
  cases e1
  obtain ⟨d, ed, ⟨r, er, q⟩⟩ := w3
  exact run_out S3 (sliceD_ok (relNil S3.lt) (datR_ok S3 zx ed) er) q⟩
/-! built-in functions -/
def roF (f : String) : Bool := f == "len" || f == "repr" || f == "all" || f == "any" || f == "sum" || f == "max" || f == "min" || f == "is int" || f == "is bool" || f == "is list" || f == "is tuple" || f == "is str"
structure DatsB (ro : Bool) (rs : List Re) (E : Dn) (K : List PyData → Prop) : Prop where
  go : ∃ ds, rs.mapM (datB ro E) = some ds ∧ K ds
theorem d_nil {ro : Bool} {K : List PyData → Prop} (k : K []) : DatsB ro [] E K := ⟨[], rfl, k⟩
theorem d_cons {ro : Bool} {r : Re} {rs : List Re} {K : List PyData → Prop} (k : DatB ro r E fun d => DatsB ro rs E fun ds => K (d :: ds)) : DatsB ro (r :: rs) E K := by
  obtain ⟨d, e1, ⟨ds, e2, q⟩⟩ := k
  exact ⟨d :: ds, by simp [List.mapM_cons, e1, e2], q⟩
structure BfnQ (f : String) (ds : List PyData) (K : Re → Prop) : Prop where
  go : ∃ r, bfnD f ds = some r ∧ K (reOf r)
theorem q_bfn {f : String} {ds : List PyData} {r : HI.Re} {K : Re → Prop} (e : bfnD f ds = some r) (k : K (reOf r)) : BfnQ f ds K := ⟨r, e, k⟩
theorem dats_ok {W : Av} {h : Hh} {A : Av} {σ : Gm} {e : Ev} {Fs : Fp} {ro : Bool} (S : St W h A σ e E Fs) : ∀ {rs : List Re} {vs : List V} {G : List Nat} {ds : List PyData}, RRL h A σ e rs vs G → rs.mapM (datB ro E) = some ds → VwL h (if ro then (fun _ => False) else A) ds vs
  | [], vs, G, ds, z, m => by
    cases m
    exact z.1
  | r :: rs, vs, G, ds, ⟨v, ws, G1, G2, e1, a, b, e2⟩, m => by
    subst e1
    rw [List.mapM_cons] at m
    obtain ⟨d, h1, m⟩ := Option.bind_eq_some_iff.mp m
    obtain ⟨ds', h2, m⟩ := Option.bind_eq_some_iff.mp m
    cases m
    exact ⟨v, ws, rfl, dat_ok S a h1, dats_ok S b h2⟩
theorem roF_scal {f : String} {ds : List PyData} {r : HI.Re} (hf : roF f = true) (m : bfnD f ds = some r) : ∃ d, r = .fz d ∧ scal d = true := by
  have hm : f = "len" ∨ f = "repr" ∨ f = "all" ∨ f = "any" ∨ f = "sum" ∨ f = "max" ∨ f = "min" ∨ f = "is int" ∨ f = "is bool" ∨ f = "is list" ∨ f = "is tuple" ∨ f = "is str" := by
    unfold roF at hf
    simp only [Bool.or_eq_true, beq_iff_eq] at hf
    rcases hf with ((((((((((h | h) | h) | h) | h) | h) | h) | h) | h) | h) | h) | h <;> simp [h]
  have isd : ∀ t x, isD t x = some r → ∃ d, r = .fz d ∧ scal d = true := fun t x q => by
    obtain ⟨s, _, rfl⟩ := Option.map_eq_some_iff.mp q
    exact ⟨_, rfl, rfl⟩
  unfold bfnD at m
  rcases hm with rfl | rfl | rfl | rfl | rfl | rfl | rfl | rfl | rfl | rfl | rfl | rfl
  all_goals
    split at m
    · rename_i x
      try simp only at m
      first
        | (obtain ⟨d, h1, rfl⟩ := Option.map_eq_some_iff.mp m
           refine ⟨d, rfl, ?_⟩
           cases x <;> first | (cases h1; done) | (cases h1; rfl) | (simp only [lenD] at h1; split at h1 <;> first | (cases h1; rfl) | cases h1))
        | (obtain ⟨d, h1, rfl⟩ := Option.map_eq_some_iff.mp m
           refine ⟨d, rfl, ?_⟩
           unfold reprD at h1
           split at h1 <;> first | (cases h1; rfl) | cases h1)
        | (obtain ⟨d, h1, rfl⟩ := Option.map_eq_some_iff.mp m
           exact ⟨_, rfl, rfl⟩)
        | exact isd _ _ m
    · try simp only at m
      first
        | (cases m; exact ⟨_, rfl, rfl⟩)
        | cases m
    · try simp only at m
      first
        | cases m
        | (cases m; done)
    · cases m
theorem ew_bcall {f : String} (w : WA C es E fun rs E1 => DatsB (roF f) rs E1 fun ds => BfnQ f ds fun r => Q r E1) : WE C (.bcall f es) E Q := ⟨fun W h A σ e Fs S => by
  simp only [HI.ev]
  refine w.go0 S fun vs h1 A1 σ1 E1 Fs1 rs G1 t1 S1 T f1 w1 => ?_
  obtain ⟨ds, ed, ⟨r, er, q⟩⟩ := w1
  have vw := dats_ok S1 T ed
  cases hf : roF f with
  | true =>
    rw [hf] at vw
    obtain ⟨d, rfl, sd⟩ := roF_scal hf er
    exact run_ro S1 sd (bfnD_ok (A := fun _ => False) relBot vw er) q
  | false =>
    rw [hf] at vw
    exact run_out S1 (bfnD_ok (relNil S1.lt) vw er) q⟩
end
end HJ

set_option maxRecDepth 100000
set_option maxHeartbeats 4000000
/-! fields; calls -/
namespace HJ
open PySem L2 HI
section
variable {C : DC} {E : Dn} {Q : Re → Dn → Prop} {a b c : Ex} {es : Exs}
structure FldQ (I : List Ci) (f : Str) (d : PyData) (K : PyData → Prop) : Prop where
  go : ∃ x, fldD I f d = some x ∧ K x
theorem q_fld {I : List Ci} {f : Str} {d x : PyData} {K : PyData → Prop} (e : fldD I f d = some x) (k : K x) : FldQ I f d K := ⟨x, e, k⟩
/-- o.f -/
structure FldP (I : List Ci) (f : Str) (r : Re) (E : Dn) (Q : Re → Prop) : Prop where
  go : (∃ d x, datB false E r = some d ∧ fldD I f d = some x ∧ Q (.fz x)) ∨ ∃ n c fs r', nodeO E r = some (.ins n c fs) ∧ fldOf I c f = true ∧ chQ E r (.fl f) = some r' ∧ Q r'
theorem fp_d {I : List Ci} {f : Str} {r : Re} {Q : Re → Prop} (n : isT E r = false) (k : DatQ r E fun d => FldQ I f d fun x => Q (.fz x)) : FldP I f r E Q := by
  obtain ⟨d, e1, ⟨x, e2, q⟩⟩ := k
  exact ⟨.inl ⟨d, x, e1, e2, q⟩⟩
theorem fp_t {I : List Ci} {f : Str} {r r' : Re} {n c : Nat} {fs : List (Str × Tr)} {Q : Re → Prop} (e1 : nodeO E r = some (.ins n c fs)) (e2 : fldOf I c f = true) (e3 : chQ E r (.fl f) = some r') (q : Q r') : FldP I f r E Q :=
  ⟨.inr ⟨n, c, fs, r', e1, e2, e3, q⟩⟩
theorem ew_fld_g {f : Str} (w : WE C a E fun r E1 => FldP C.I f r E1 fun r' => Q r' E1) : WE C (.fld a f) E Q := ⟨fun W h A σ e Fs S => by
  simp only [HI.ev]
  refine w.go0 S fun x h1 A1 σ1 E1 Fs1 rx G1 t1 S1 zx f1 w1 => ?_
  rcases w1.go with ⟨d, y, ed, ef, q⟩ | ⟨n, c, fs, r', en, hf, hc, q⟩
  · unfold fldD at ef
    split at ef
    · rename_i c fs hi
      split at ef
      · rename_i hf
        obtain ⟨_, aa, vs, rfl, g, _, _, _, e4⟩ := insOf_ok (dat_ok (ro := false) S1 zx ed) hi
        obtain ⟨v, hv, fv⟩ := e4 f y ef
        have hf' : (cf C).fld c f = true := hf
        have : fldO (cf C) (.ref aa) f h1 = some (.ok v, h1) := by
          unfold fldO look
          simp only [g, hf', if_true, hv]; rfl
        rw [this]
        exact run_fz S1 fv q
      · cases ef
    · cases ef
  · obtain ⟨t', cc, v, G', q1, q2, ⟨F, zt⟩, zr, fr, _, id⟩ := ch_ok S1 zx f1 hc
    rw [en] at q1
    cases q1
    simp only [TrR] at zt
    obtain ⟨aa, vs, G, rfl, g, u, rl, _⟩ := zt
    obtain ⟨ob, go, gk⟩ := id n rfl
    rw [u] at go
    cases go
    have hf' : (cf C).fld c f = true := hf
    have : fldO (cf C) (.ref aa) f h1 = some (.ok v, h1) := by
      unfold fldO look
      have gk : vs.lookup f = some v := gk
      simp only [g, hf', if_true, gk]; rfl
    rw [this]
    exact Run.ret S1 ⟨r', G', zr, fr, q⟩⟩
end
/-! ### calls -/
def vaOf : Tr → Va
  | .fz d => .fz d
  | .own d => .own d
  | t => .tr t
def trOf : Va → Option Tr
  | .fz d => some (.fz d)
  | .own d => some (.own d)
  | .tr t => some t
  | _ => none
theorem vaOf_ok {h : Hh} {A : Av} {σ : Gm} {t : Tr} {v : V} {F : List Nat} (z : TrR h A σ t v F) : VaR h A σ (vaOf t) v F := by
  cases t with
  | fz d =>
    simp only [TrR] at z
    exact z
  | _ => exact z
theorem trOf_ok {h : Hh} {A : Av} {σ : Gm} {va : Va} {t : Tr} {v : V} {F : List Nat} (e : trOf va = some t) (z : VaR h A σ va v F) : TrR h A σ t v F := by
  cases va with
  | fz d => cases e; simp only [TrR]; exact z
  | own d => cases e; exact z
  | tr t => cases e; exact z
  | rol d => cases e
  | bor i q m k => cases e
def resO (E : Dn) : Re → Option Va
  | .fz d => some (.fz d)
  | .own d => some (.own d)
  | .tr t => some (.tr t)
  | .rol xs => some (.rol xs)
  | .var i => match slotV E i with
    | some (.bor _ _ _ _) => none
    | o => o
  | .pt i q m k => match getP E i q m k with
    | some t => some (vaOf t)
    | none => none
def resL (E : Dn) : List Re → Option (List Va)
  | [] => some []
  | r :: rs => match resO E r with
    | some v => match resL E rs with
      | some vs => some (v :: vs)
      | none => none
    | none => none
def rootR : Re → Option Nat
  | .var i => some i
  | .pt i _ _ _ => some i
  | _ => none
def varsOf : List Re → List Nat
  | [] => []
  | .var i :: r => i :: varsOf r
  | .pt i _ _ _ :: r => i :: varsOf r
  | _ :: r => varsOf r
def plainRe : Re → Bool
  | .fz _ => true
  | .own _ => true
  | .tr _ => true
  | _ => false
/-- a part of a name's thing changed -/
structure zP (E : Dn) (i : Nat) (q : List Sl) (k : Sl) (c : Tr) (K : Dn → Prop) : Prop where
  go : ∃ va, putP E i q k c = some va ∧ zK E i (some va) K
/-- the names' values behind a call -/
def outsK : List Re → List (Option Va) → Dn → (Dn → Prop) → Prop
  | [], _, E, K => K E
  | .var i :: rs, o :: os, E, K => zK E i o fun E' => outsK rs os E' K
  | .var _ :: _, [], _, _ => False
  | .pt i q _ k :: rs, o :: os, E, K => ∃ va c, o = some va ∧ trOf va = some c ∧ zP E i q k c fun E' => outsK rs os E' K
  | .pt _ _ _ _ :: _, [], _, _ => False
  | .fz _ :: rs, os, E, K => outsK rs os.tail E K
  | .own _ :: rs, os, E, K => outsK rs os.tail E K
  | .tr _ :: rs, os, E, K => outsK rs os.tail E K
  | .rol _ :: rs, os, E, K => outsK rs os.tail E K
structure zO (rs : List Re) (os : List (Option Va)) (E : Dn) (K : Dn → Prop) : Prop where
  go : outsK rs os E K
section
variable {E : Dn} {K : Dn → Prop} {rs : List Re} {o : Option Va} {os : List (Option Va)}
theorem eo_nil (k : K E) : zO [] os E K := ⟨by unfold outsK; exact k⟩
theorem eo_fz {d : PyData} (k : zO rs os E K) : zO (.fz d :: rs) (o :: os) E K := ⟨by unfold outsK; exact k.go⟩
theorem eo_own {d : PyData} (k : zO rs os E K) : zO (.own d :: rs) (o :: os) E K := ⟨by unfold outsK; exact k.go⟩
theorem eo_tr {t : Tr} (k : zO rs os E K) : zO (.tr t :: rs) (o :: os) E K := ⟨by unfold outsK; exact k.go⟩
theorem eo_rol {d : List PyData} (k : zO rs os E K) : zO (.rol d :: rs) (o :: os) E K := ⟨by unfold outsK; exact k.go⟩
theorem eo_var {i : Nat} {d : PyData} (e : slotV E i = some (.own d)) (k : zK E i o fun E' => zO rs os E' K) : zO (.var i :: rs) (o :: os) E K := ⟨by unfold outsK; exact zK_mono k fun _ z => z.go⟩
theorem eo_varT {i : Nat} {t : Tr} (e : slotV E i = some (.tr t)) (k : zK E i o fun E' => zO rs os E' K) : zO (.var i :: rs) (o :: os) E K := ⟨by unfold outsK; exact zK_mono k fun _ z => z.go⟩
theorem eo_pt {i m : Nat} {q : List Sl} {sl : Sl} {va : Va} {c : Tr} (e : trOf va = some c) (k : zP E i q sl c fun E' => zO rs os E' K) : zO (.pt i q m sl :: rs) (some va :: os) E K := ⟨by
  unfold outsK
  obtain ⟨w, e2, z⟩ := k.go
  exact ⟨va, c, rfl, e, ⟨w, e2, zK_mono z fun _ z => z.go⟩⟩⟩
end
/-- what an argument owns -/
def ArgR (h : Hh) (A : Av) (σ : Gm) (e : Ev) (E : Dn) (Fs : Fp) : Re → V → List Nat → Prop
  | .var i, v, L => e[i]? = some (some v) ∧ L = Fs i
  | .pt i q m k, v, L => ∃ u t s c R, e[i]? = some (some u) ∧ E[i]? = some (some (.tr t)) ∧ getP E i q m k = some c ∧ (∀ c', putP E i q k c' = some (.tr (updT t q (updC s k c')))) ∧ Zip h A σ u c v (Fs i) (fun c' => updT t q (updC s k c')) L R
  | r, v, L => RR h A σ e r v L
def ArgsR (h : Hh) (A : Av) (σ : Gm) (e : Ev) (E : Dn) (Fs : Fp) : List Re → List V → List (List Nat) → Prop
  | [], vs, Ls => vs = [] ∧ Ls = []
  | r :: rs, vs, Ls => ∃ v ws L Ms, vs = v :: ws ∧ Ls = L :: Ms ∧ ArgR h A σ e E Fs r v L ∧ ArgsR h A σ e E Fs rs ws Ms
section
variable {W : Av} {h : Hh} {A : Av} {σ : Gm} {e : Ev} {E : Dn} {Fs : Fp}
theorem resL_len : ∀ {rs : List Re} {vas : List Va}, resL E rs = some vas → vas.length = rs.length
  | [], vas, m => by cases m; rfl
  | r :: rs, vas, m => by
    unfold resL at m
    split at m
    · split at m
      · rename_i h
        cases m
        rw [List.length_cons, List.length_cons, resL_len h]
      · cases m
    · cases m
theorem root_mem : ∀ {rs : List Re} {j : Nat} {r : Re} {i : Nat}, rs[j]? = some r → rootR r = some i → i ∈ varsOf rs
  | [], j, r, i, q, _ => by simp at q
  | r0 :: rs, 0, r, i, q, hi => by
    cases q
    cases r0 with
    | var j => cases hi; exact List.mem_cons_self
    | pt j q m k => cases hi; exact List.mem_cons_self
    | _ => cases hi
  | r0 :: rs, j + 1, r, i, q, hi => by
    have := root_mem (rs := rs) (j := j) (by simpa using q) hi
    cases r0 <;> first | exact this | exact List.mem_cons_of_mem _ this
theorem roots_inj : ∀ {rs : List Re} {j k : Nat} {r r' : Re} {i : Nat}, nodupB (varsOf rs) = true → rs[j]? = some r → rs[k]? = some r' → rootR r = some i → rootR r' = some i → j = k
  | [], j, k, r, r', i, nd, q, _, _, _ => by simp at q
  | r0 :: rs, j, k, r, r', i, nd, q, q', hi, hi' => by
    have nd2 : nodupB (varsOf rs) = true ∧ ∀ i, rootR r0 = some i → i ∉ varsOf rs := by
      cases r0 with
      | var i => have := Bool.and_eq_true_iff.mp (show (!(varsOf rs).contains i && nodupB (varsOf rs)) = true from nd); exact ⟨this.2, fun j q => by cases q; simpa using this.1⟩
      | pt i q m k => have := Bool.and_eq_true_iff.mp (show (!(varsOf rs).contains i && nodupB (varsOf rs)) = true from nd); exact ⟨this.2, fun j q => by cases q; simpa using this.1⟩
      | fz d => exact ⟨nd, fun j q => by cases q⟩
      | own d => exact ⟨nd, fun j q => by cases q⟩
      | tr d => exact ⟨nd, fun j q => by cases q⟩
      | rol d => exact ⟨nd, fun j q => by cases q⟩
    cases j with
    | zero =>
      cases q
      cases k with
      | zero => rfl
      | succ k => exact absurd (root_mem (rs := rs) (j := k) (by simpa using q') hi') (nd2.2 i hi)
    | succ j =>
      cases k with
      | zero => cases q'; exact absurd (root_mem (rs := rs) (j := j) (by simpa using q) hi) (nd2.2 i hi')
      | succ k => exact congrArg (· + 1) (roots_inj nd2.1 (by simpa using q) (by simpa using q') hi hi')
/-- the arguments with what they own; all of it apart -/
theorem args_of (S : St W h A σ e E Fs) : ∀ {rs : List Re} {vs : List V} {G : List Nat} {vas : List Va}, RRL h A σ e rs vs G → Fr W A Fs G → resL E rs = some vas → nodupB (varsOf rs) = true →
    ∃ Ls, ArgsR h A σ e E Fs rs vs Ls ∧ vas.length = vs.length ∧ Ls.length = vs.length ∧ (∀ (j : Nat) (va : Va), vas[j]? = some va → ∃ v L, vs[j]? = some v ∧ Ls[j]? = some L ∧ VaR h A σ va v L) ∧
      (∀ L ∈ Ls, L.Nodup) ∧ Ls.Pairwise (fun L M => ∀ b ∈ L, b ∉ M) ∧ (∀ L ∈ Ls, ∀ b ∈ L, A b ∧ ¬ W b) ∧ ∀ (j : Nat) (r : Re) (L : List Nat), rs[j]? = some r → Ls[j]? = some L → ∀ b ∈ L, b ∈ G ∨ ∃ i, rootR r = some i ∧ b ∈ Fs i
  | [], vs, G, vas, z, f, m, nd => by
    cases m
    obtain ⟨rfl, rfl⟩ := z
    exact ⟨[], ⟨rfl, rfl⟩, rfl, rfl, fun j va q => by simp at q, (fun _ z => nomatch z), List.Pairwise.nil, (fun _ z => nomatch z), fun j r L q => by simp at q⟩
  | r :: rs, vs, G, vas, ⟨v, ws, G1, G2, e1, a, b, e2⟩, f, m, nd => by
    subst e1 e2
    unfold resL at m
    split at m
    · rename_i va hva
      split at m
      · rename_i vas' hvas
        cases m
        have nd2 : nodupB (varsOf rs) = true ∧ ∀ i, rootR r = some i → i ∉ varsOf rs := by
          cases r with
          | var i => have := Bool.and_eq_true_iff.mp (show (!(varsOf rs).contains i && nodupB (varsOf rs)) = true from nd); exact ⟨this.2, fun j q => by cases q; simpa using this.1⟩
          | pt i q m k => have := Bool.and_eq_true_iff.mp (show (!(varsOf rs).contains i && nodupB (varsOf rs)) = true from nd); exact ⟨this.2, fun j q => by cases q; simpa using this.1⟩
          | fz d => exact ⟨nd, fun j q => by cases q⟩
          | own d => exact ⟨nd, fun j q => by cases q⟩
          | tr d => exact ⟨nd, fun j q => by cases q⟩
          | rol d => exact ⟨nd, fun j q => by cases q⟩
        obtain ⟨Ms, h1, h2, h3, h4, h5, h6, h7, h8⟩ := args_of S b f.right hvas nd2.1
        -- the first one
        have one : ∃ L, ArgR h A σ e E Fs r v L ∧ VaR h A σ va v L ∧ L.Nodup ∧ (∀ b ∈ L, A b ∧ ¬ W b) ∧ ∀ b ∈ L, b ∈ G1 ∨ ∃ i, rootR r = some i ∧ b ∈ Fs i := by
          cases r with
          | fz d => cases hva; exact ⟨[], ⟨a.1, rfl⟩, ⟨a.1, rfl⟩, List.nodup_nil, fun _ z => (nomatch z), fun _ z => (nomatch z)⟩
          | own d => cases hva; exact ⟨G1, a, a, f.left.nd, f.left.ac, fun _ z => .inl z⟩
          | tr d => cases hva; exact ⟨G1, a, a, f.left.nd, f.left.ac, fun _ z => .inl z⟩
          | rol d => cases hva; exact ⟨[], ⟨a.1, rfl⟩, ⟨a.1, rfl⟩, List.nodup_nil, fun _ z => (nomatch z), fun _ z => (nomatch z)⟩
          | var i =>
            have hva : (match slotV E i with | some (.bor _ _ _ _) => none | o => o) = some va := hva
            have hs : slotV E i = some va := by
              split at hva
              · cases hva
              · exact hva
            obtain ⟨u, q1, q2⟩ := S.get hs
            rw [a.1] at q1
            cases q1
            exact ⟨Fs i, ⟨a.1, rfl⟩, q2, S.nd i, S.ac i, fun b hb => .inr ⟨i, rfl, hb⟩⟩
          | pt i q m k =>
            have hva : (match getP E i q m k with | some t => some (vaOf t) | none => none) = some va := hva
            split at hva
            · rename_i c hc
              cases hva
              obtain ⟨u, t, s, F0, R, q1, q2, q3, zz⟩ := S.pt a hc
              have ndp := zz.pm.nodup_iff.mp (S.nd i)
              have inF : ∀ b, b ∈ F0 → b ∈ Fs i := fun b hb => zz.pm.mem_iff.mpr (by simp [hb])
              exact ⟨F0, ⟨u, t, s, c, R, q1, q2, hc, q3, zz⟩, vaOf_ok zz.rel, (List.nodup_append.mp ndp).1, fun b hb => S.ac i b (inF b hb), fun b hb => .inr ⟨i, rfl, inF b hb⟩⟩
            · cases hva
        obtain ⟨L, k1, k2, k3, k4, k5⟩ := one
        refine ⟨L :: Ms, ⟨v, ws, L, Ms, rfl, rfl, k1, h1⟩, by simp [h2], by simp [h3], fun j va' q => ?_, fun M hM => ?_, List.pairwise_cons.mpr ⟨fun M hM b hb hb2 => ?_, h6⟩, fun M hM => ?_, fun M r' L' b hb => ?_⟩
        · cases j with
          | zero => cases q; exact ⟨v, L, rfl, rfl, k2⟩
          | succ j => exact h4 j va' (by simpa using q)
        · rcases List.mem_cons.mp hM with rfl | hM
          · exact k3
          · exact h5 M hM
        · -- apart
          obtain ⟨j, hj⟩ := List.getElem?_of_mem hM
          have hjl : j < rs.length := by
            have := lt_get hj
            have l4 := resL_len hvas
            omega
          have hr : rs[j]? = some rs[j] := List.getElem?_eq_getElem hjl
          rcases k5 b hb with z | ⟨i, hi, z⟩
          · rcases h8 j _ M hr hj b hb2 with y | ⟨j, hj, y⟩
            · exact (List.nodup_append.mp f.nd).2.2 b z b y rfl
            · exact f.left.no j b z y
          · rcases h8 j _ M hr hj b hb2 with y | ⟨i2, hi2, y⟩
            · exact f.right.no i b y z
            · have := S.dj i i2 b z y
              subst this
              exact nd2.2 i hi (root_mem hr hi2)
        · rcases List.mem_cons.mp hM with rfl | hM
          · exact k4
          · exact h7 M hM
        · cases M with
          | zero => cases b; cases hb; exact fun b hb => (k5 b hb).imp (fun z => by simp [z]) id
          | succ j => exact fun c hc => (h8 j _ _ (by simpa using b) (by simpa using hb) c hc).imp (fun z => by simp [z]) id
      · cases m
    · cases m
/-- all but the arguments' own -/
def cW (A : Av) (Ls : List (List Nat)) : Av := fun b => A b ∧ ∀ L ∈ Ls, b ∉ L
def fpL (Ls : List (List Nat)) : Fp := fun j => (Ls[j]?).getD []
theorem fpL_mem {Ls : List (List Nat)} {j b : Nat} (hb : b ∈ fpL Ls j) : ∃ L, Ls[j]? = some L ∧ b ∈ L := by
  unfold fpL at hb
  cases q : Ls[j]? with
  | none => rw [q] at hb; cases hb
  | some L => rw [q] at hb; exact ⟨L, rfl, hb⟩
theorem fpL_at {Ls : List (List Nat)} {j : Nat} {L : List Nat} (q : Ls[j]? = some L) : fpL Ls j = L := by unfold fpL; rw [q]; rfl
/-- the callee's state -/
theorem callee_st (S : St W h A σ e E Fs) {vs : List V} {vas : List Va} {Ls : List (List Nat)} (l1 : vas.length = vs.length) (l2 : Ls.length = vs.length)
    (sl : ∀ (j : Nat) (va : Va), vas[j]? = some va → ∃ v L, vs[j]? = some v ∧ Ls[j]? = some L ∧ VaR h A σ va v L) (nd : ∀ L ∈ Ls, L.Nodup) (pw : Ls.Pairwise (fun L M => ∀ b ∈ L, b ∉ M)) (ac : ∀ L ∈ Ls, ∀ b ∈ L, A b ∧ ¬ W b) :
    St (cW A Ls) h A σ (vs.map some) (vas.map some) (fpL Ls) where
  len := by rw [List.length_map, List.length_map, l1]
  sl := fun j va q => by
    rw [List.getElem?_map] at q
    obtain ⟨va', q1, q2⟩ := Option.map_eq_some_iff.mp q
    cases q2
    obtain ⟨v, L, h1, h2, h3⟩ := sl j va q1
    rw [fpL_at h2]
    exact ⟨v, by rw [List.getElem?_map, h1]; rfl, h3⟩
  em := fun j hj => by
    by_cases hl : j < vas.length
    · exact absurd (show (vas.map some)[j]? = some (some vas[j]) by rw [List.getElem?_map, List.getElem?_eq_getElem hl]; rfl) (hj _)
    · unfold fpL
      rw [List.getElem?_eq_none (by omega)]; rfl
  nd := fun j => by
    unfold fpL
    cases q : Ls[j]? with
    | none => exact List.nodup_nil
    | some L => exact nd L (List.mem_of_getElem? q)
  dj := fun i j b hi hj => by
    obtain ⟨L, q1, k1⟩ := fpL_mem hi
    obtain ⟨M, q2, k2⟩ := fpL_mem hj
    have l1 := lt_get q1
    have l2 := lt_get q2
    rw [List.getElem?_eq_getElem l1] at q1
    rw [List.getElem?_eq_getElem l2] at q2
    cases q1
    cases q2
    rcases Nat.lt_trichotomy i j with z | z | z
    · exact absurd k2 (List.pairwise_iff_getElem.mp pw i j l1 l2 z b k1)
    · exact z
    · exact absurd k1 (List.pairwise_iff_getElem.mp pw j i l2 l1 z b k2)
  ac := fun j b hb => by
    obtain ⟨L, q1, k1⟩ := fpL_mem hb
    exact ⟨(ac L (List.mem_of_getElem? q1) b k1).1, fun z => z.2 L (List.mem_of_getElem? q1) k1⟩
  wa := fun b z => z.1
  lt := S.lt
  fin := S.fin
/-- the names that are arguments, without value -/
def killL : List Nat → Dn → Dn
  | [], E => E
  | i :: is, E => killL is (E.set i none)
def killF : List Nat → Fp → Fp
  | [], Fs => Fs
  | i :: is, Fs => killF is (updF Fs i [])
theorem St.killL : ∀ (is : List Nat) {E : Dn} {Fs : Fp}, St W h A σ e E Fs → St W h A σ e (HJ.killL is E) (killF is Fs)
  | [], E, Fs, S => S
  | i :: is, E, Fs, S => St.killL is (S.kill i)
theorem killF_in : ∀ {is : List Nat} {Fs : Fp} {j b : Nat}, b ∈ killF is Fs j → j ∉ is ∧ b ∈ Fs j
  | [], Fs, j, b, h => ⟨List.not_mem_nil, h⟩
  | i :: is, Fs, j, b, h => by
    obtain ⟨h1, h2⟩ := killF_in (is := is) h
    by_cases hj : j = i
    · subst hj; rw [updF_same] at h2; cases h2
    · rw [updF_ne hj] at h2
      exact ⟨fun z => (List.mem_cons.mp z).elim hj h1, h2⟩
theorem killL_get : ∀ {is : List Nat} {E : Dn} {j : Nat}, j ∉ is → (HJ.killL is E)[j]? = E[j]?
  | [], E, j, h => rfl
  | i :: is, E, j, h => by
    show (HJ.killL is (E.set i none))[j]? = _
    rw [killL_get (fun z => h (List.mem_cons_of_mem _ z)), List.getElem?_set_ne fun q => h (by rw [q]; exact List.mem_cons_self)]
theorem killL_len : ∀ {is : List Nat} {E : Dn}, (HJ.killL is E).length = E.length
  | [], E => rfl
  | i :: is, E => by
    show (HJ.killL is (E.set i none)).length = _
    rw [killL_len, List.length_set]
theorem killL_in : ∀ {is : List Nat} {E : Dn} {j : Nat}, j ∈ is → j < E.length → (HJ.killL is E)[j]? = some none
  | i :: is, E, j, h, l => by
    show (HJ.killL is (E.set i none))[j]? = _
    by_cases hj : j ∈ is
    · exact killL_in hj (by rw [List.length_set]; exact l)
    · rcases List.mem_cons.mp h with rfl | h
      · rw [killL_get hj, List.getElem?_set_self l]
      · exact absurd h hj
end
section
variable {W : Av} {h : Hh} {A : Av} {σ : Gm} {e : Ev} {Fs : Fp} {h' : Hh} {A' : Av} {σ' : Gm}
theorem tn_refl' {W : Av} {h : Hh} {A : Av} {σ : Gm} {e : Ev} {E : Dn} {Fs : Fp} (S : St W h A σ e E Fs) (i : Nat) : Tn (but W Fs i) h A σ h A σ :=
  Tn.refl fun b z => z.elim (S.wa b) fun ⟨j, _, z⟩ => (S.ac j b z).1
/-- behind a call: the names get their things back, one by one -/
theorem out_go {E0 : Dn} {Wc : Av} (S0 : St W h A σ e E0 Fs) (t : Tn Wc h A σ h' A' σ') (hw : ∀ b, W b → Wc b) : ∀ {rs : List Re} {vs : List V} {Ls : List (List Nat)} {os : List (Option Va)} {Fc : Fp} {E E1 : Dn} {Fs1 : Fp} {K : Dn → Prop},
    ArgsR h A σ e E0 Fs rs vs Ls → nodupB (varsOf rs) = true → (∀ i ∈ varsOf rs, E[i]? = E0[i]?) →
    (∀ (j : Nat) (r : Re) (L : List Nat) (i : Nat), rs[j]? = some r → Ls[j]? = some L → rootR r = some i → ∀ b ∈ Fs i, b ∉ L → Wc b) →
    (∀ (j : Nat) (va : Va), os[j]? = some (some va) → ∃ v, vs[j]? = some v ∧ VaR h' A' σ' va v (Fc j)) →
    (∀ j, (Fc j).Nodup) → (∀ i j b, b ∈ Fc i → b ∈ Fc j → i = j) → (∀ j b, b ∈ Fc j → A' b ∧ ¬ Wc b) →
    (∀ i ∈ varsOf rs, ∀ b ∈ Fs i, Wc b → ∀ j, b ∉ Fs1 j) →
    St W h' A' σ' e E1 Fs1 → (∀ i b, b ∈ Fs1 i → ∀ j, b ∉ Fc j) → E1.length = E.length → (∀ i, i ∉ varsOf rs → E1[i]? = E[i]?) →
    outsK rs os E K → ∃ E' Fs', St W h' A' σ' e E' Fs' ∧ K E' ∧ ∀ i b, b ∈ Fs' i → b ∈ Fs1 i ∨ Wc b ∨ ∃ j, b ∈ Fc j
  | [], vs, Ls, os, Fc, E, E1, Fs1, K, z, nd, hE, hR, hsl, hnd, hdj, hac, hap, S, hf, hl, hag, k => by
    have : E1 = E := List.ext_getElem? fun i => hag i (by simp [varsOf])
    subst this
    unfold outsK at k
    exact ⟨E1, Fs1, S, k, fun i b hb => .inl hb⟩
  | r :: rs, vs, Ls, os, Fc, E, E1, Fs1, K, ⟨v, ws, L, Ms, e1, e2, a, b⟩, nd, hE, hR, hsl, hnd, hdj, hac, hap, S, hf, hl, hag, k => by
    subst e1 e2
    have tl : ∀ (j : Nat) (va : Va), os.tail[j]? = some (some va) → ∃ v, ws[j]? = some v ∧ VaR h' A' σ' va v (Fc (j + 1)) := fun j va q => by
      rw [List.getElem?_tail] at q
      obtain ⟨v', q1, q2⟩ := hsl (j + 1) va q
      exact ⟨v', by simpa using q1, q2⟩
    have hR' : ∀ (j : Nat) (r' : Re) (L' : List Nat) (i : Nat), rs[j]? = some r' → Ms[j]? = some L' → rootR r' = some i → ∀ b ∈ Fs i, b ∉ L' → Wc b := fun j r' L' i q1 q2 => hR (j + 1) r' L' i (by simpa using q1) (by simpa using q2)
    have skip : varsOf (r :: rs) = varsOf rs → outsK rs os.tail E K → ∃ E' Fs', St W h' A' σ' e E' Fs' ∧ K E' ∧ ∀ i b, b ∈ Fs' i → b ∈ Fs1 i ∨ Wc b ∨ ∃ j, b ∈ Fc j := fun hv k => by
      rw [hv] at nd hE hap hag
      obtain ⟨E', Fs', q1, q2, q3⟩ := out_go S0 t hw (Fc := fun j => Fc (j + 1)) b nd hE hR' tl (fun j => hnd _) (fun i j c h1 h2 => by have := hdj _ _ c h1 h2; omega) (fun j c hc => hac _ c hc) hap S (fun i c hc j => hf i c hc _) hl hag k
      exact ⟨E', Fs', q1, q2, fun i c hc => (q3 i c hc).imp id fun z => z.imp id fun ⟨j, z⟩ => ⟨j + 1, z⟩⟩
    have ndL : ∀ i, rootR r = some i → i ∉ varsOf rs ∧ nodupB (varsOf rs) = true ∧ varsOf (r :: rs) = i :: varsOf rs := fun i hi => by
      cases r with
      | var j => cases hi; have := Bool.and_eq_true_iff.mp (show (!(varsOf rs).contains i && nodupB (varsOf rs)) = true from nd); exact ⟨by simpa using this.1, this.2, rfl⟩
      | pt j q m k => cases hi; have := Bool.and_eq_true_iff.mp (show (!(varsOf rs).contains i && nodupB (varsOf rs)) = true from nd); exact ⟨by simpa using this.1, this.2, rfl⟩
      | fz d => cases hi
      | own d => cases hi
      | tr d => cases hi
      | rol d => cases hi
    -- the next ones, once slot i is restored
    have next : ∀ (i : Nat) (o : Option Va) (F : List Nat), rootR r = some i → i < E.length →
        St W h' A' σ' e (E1.set i o) (updF Fs1 i F) → (∀ b ∈ F, b ∈ Fc 0 ∨ (Wc b ∧ b ∈ Fs i)) → outsK rs os.tail (E.set i o) K →
        ∃ E' Fs', St W h' A' σ' e E' Fs' ∧ K E' ∧ ∀ i b, b ∈ Fs' i → b ∈ Fs1 i ∨ Wc b ∨ ∃ j, b ∈ Fc j := fun i o F hi li S' hF k => by
      obtain ⟨n1, n2, n3⟩ := ndL i hi
      rw [n3] at hE hap hag
      obtain ⟨E', Fs', q1, q2, q3⟩ := out_go S0 t hw (Fc := fun j => Fc (j + 1)) (E := E.set i o) (E1 := E1.set i o) (Fs1 := updF Fs1 i F) b n2
        (fun j hj => by rw [List.getElem?_set_ne fun q => n1 (by rw [q]; exact hj)]; exact hE j (List.mem_cons_of_mem _ hj))
        hR' tl (fun j => hnd _) (fun i j c h1 h2 => by have := hdj _ _ c h1 h2; omega) (fun j c hc => hac _ c hc)
        (fun i2 hi2 c hc wc j => by
          by_cases q : j = i
          · subst q
            rw [updF_same]
            intro y
            rcases hF c y with y | ⟨_, y⟩
            · exact (hac 0 c y).2 wc
            · exact n1 (by have := S0.dj _ i2 c y hc; rw [this]; exact hi2)
          · rw [updF_ne q]
            exact hap i2 (List.mem_cons_of_mem _ hi2) c hc wc j)
        S'
        (fun j c hc k => by
          by_cases q : j = i
          · subst q
            rw [updF_same] at hc
            rcases hF c hc with y | ⟨y, _⟩
            · exact fun z => by have := hdj _ _ c y z; omega
            · exact fun z => (hac _ c z).2 y
          · rw [updF_ne q] at hc
            exact hf j c hc _)
        (by rw [List.length_set, List.length_set]; exact hl)
        (fun j hj => by
          by_cases q : j = i
          · subst q
            rw [List.getElem?_set_self (by rw [hl]; exact li), List.getElem?_set_self li]
          · rw [List.getElem?_set_ne (Ne.symm q), List.getElem?_set_ne (Ne.symm q)]
            exact hag j fun z => (List.mem_cons.mp z).elim q hj) k
      refine ⟨E', Fs', q1, q2, fun j c hc => ?_⟩
      rcases q3 j c hc with y | y | ⟨j2, y⟩
      · by_cases q : j = i
        · subst q
          rw [updF_same] at y
          rcases hF c y with y | y
          · exact .inr (.inr ⟨0, y⟩)
          · exact .inr (.inl y.1)
        · rw [updF_ne q] at y
          exact .inl y
      · exact .inr (.inl y)
      · exact .inr (.inr ⟨_, y⟩)
    cases r with
    | fz d => unfold outsK at k; exact skip rfl k
    | own d => unfold outsK at k; exact skip rfl k
    | tr d => unfold outsK at k; exact skip rfl k
    | rol d => unfold outsK at k; exact skip rfl k
    | var i =>
      cases os with
      | nil => unfold outsK at k; exact k.elim
      | cons o os =>
        unfold outsK at k
        obtain ⟨ev, eL⟩ := a
        cases o with
        | none => exact next i none [] rfl k.lt (S.kill i) (fun _ z => nomatch z) k.go
        | some va =>
          obtain ⟨v', q1, q2⟩ := hsl 0 va rfl
          cases q1
          have S' := S.put' (i := i) (tn_refl' S i) ev q2 (hnd 0) (fun c hc => ⟨(hac 0 c hc).1, fun z => (hac 0 c hc).2 (hw c z)⟩) (fun j hj c hc z => hf j c z 0 hc) S.lt S.fin
          exact next i (some va) (Fc 0) rfl k.lt S' (fun c hc => .inl hc) k.go
    | pt i q m sl =>
      cases os with
      | nil => unfold outsK at k; exact k.elim
      | cons o os =>
        unfold outsK at k
        obtain ⟨va, c, rfl, hc, ⟨va', hp, kz⟩⟩ := k
        obtain ⟨u, tt, s, c0, R, ev, hE0, hg, pp, zz⟩ := a
        obtain ⟨v', q1, q2⟩ := hsl 0 va rfl
        cases q1
        have hpE : putP E i q sl c = putP E0 i q sl c := by
          unfold putP slotV
          rw [hE i List.mem_cons_self]
        rw [hpE, pp] at hp
        cases hp
        have inR : ∀ c ∈ R, c ∈ Fs i ∧ Wc c := fun c hcR => by
          have hi := zz.pm.mem_iff.mpr (show c ∈ L ++ R by simp [hcR])
          exact ⟨hi, hR 0 _ L i rfl rfl rfl c hi fun z => (List.nodup_append.mp (zz.pm.nodup_iff.mp (S0.nd i))).2.2 c z c hcR rfl⟩
        obtain ⟨F2, r2, p2⟩ := zz.re h' A' σ' c (Fc 0) (t.ok S0.lt) t.gm (fun c hcR => t.same c (S0.lt' (S0.ac i c (inR c hcR).1).1) (.inr (inR c hcR).2)) (trOf_ok hc q2)
        have inF2 : ∀ c ∈ F2, c ∈ Fc 0 ∨ (Wc c ∧ c ∈ Fs i) := fun c hcF => (List.mem_append.mp (p2.mem_iff.mp hcF)).imp id fun z => ⟨(inR c z).2, (inR c z).1⟩
        have nd2 : F2.Nodup := p2.nodup_iff.mpr (List.nodup_append.mpr ⟨hnd 0, (List.nodup_append.mp (zz.pm.nodup_iff.mp (S0.nd i))).2.1, fun x hx y hy q => (hac 0 x hx).2 (by rw [q]; exact (inR y hy).2)⟩)
        have S' := S.put' (i := i) (va := .tr _) (tn_refl' S i) ev r2 nd2 (fun c hcF => by
          rcases inF2 c hcF with z | ⟨z1, z2⟩
          · exact ⟨(hac 0 c z).1, fun y => (hac 0 c z).2 (hw c y)⟩
          · exact ⟨t.keep c z1, (S0.ac i c z2).2⟩) (fun j hj c hcF z => by
          rcases inF2 c hcF with y | ⟨y1, y2⟩
          · exact hf j c z 0 y
          · exact hap i List.mem_cons_self c y2 y1 j z) S.lt S.fin
        exact next i _ F2 rfl kz.lt S' inF2 kz.go
end
/-! calls of defs -/
def dC (T : Pr) (k : Nat) (X : Xp) : DC := ⟨callD T.D (cfOf T.I) k, T.I, X⟩
structure cpx (T : Pr) (k : Nat) (f : String) (vas : List Va) (Q : Re → Dn → Prop) (Y : Xp) : Prop where
  go : ∀ (W : Av) (h : Hh) (A : Av) (σ : Gm) (vs : List V) (Fs : Fp), St W h A σ (vs.map some) (vas.map some) Fs → Run Y W h A σ (vs.map some) (KE W (vs.map some) Q) (callD T.D (cfOf T.I) k f vs h)
abbrev cp (T : Pr) (k : Nat) (f : String) (vas : List Va) (Q : Re → Dn → Prop) : Prop := cpx T k f vas Q noX
theorem cpx_mono {T : Pr} {k : Nat} {f : String} {vas : List Va} {Q Q' : Re → Dn → Prop} {Y Y' : Xp} (c : cpx T k f vas Q Y) (m : ∀ r os, Q r os → Q' r os) (y : ∀ c ds os, Y c ds os → Y' c ds os) : cpx T k f vas Q' Y' :=
  ⟨fun W h A σ vs Fs S => by
    have r := c.go W h A σ vs Fs S
    generalize callD T.D (cfOf T.I) k f vs h = o at r
    match o, r with
    | some (.ok v, h'), ⟨A', σ', E', Fs', t, s, r, G, a, b, q⟩ => exact ⟨A', σ', E', Fs', t, s, r, G, a, b, m _ _ q⟩
    | some (.ex c fs, h'), ⟨A', σ', E', Fs', ds, t, s, f, q⟩ => exact ⟨A', σ', E', Fs', ds, t, s, f, y _ _ _ q⟩⟩
/-- a call that raises nothing, where errors may be thought of -/
theorem cp_mono {T : Pr} {k : Nat} {f : String} {vas : List Va} {Q Q' : Re → Dn → Prop} {Y : Xp} (c : cp T k f vas Q) (m : ∀ r os, Q r os → Q' r os) : cpx T k f vas Q' Y := cpx_mono c m fun _ _ _ z => z.elim
structure CallQ (C : DC) (f : String) (rs : List Re) (E : Dn) (Q : Re → Dn → Prop) : Prop where
  go : ∀ (W : Av) (h : Hh) (A : Av) (σ : Gm) (e : Ev) (Fs : Fp) (vs : List V) (G : List Nat), St W h A σ e E Fs → RRL h A σ e rs vs G → Fr W A Fs G → Run C.X W h A σ e (KE W e Q) (C.call f vs h)
theorem RR.plain {h : Hh} {A : Av} {σ : Gm} {e e' : Ev} {r : Re} {v : V} {G : List Nat} (p : plainRe r = true) (z : RR h A σ e r v G) : RR h A σ e' r v G := by
  cases r with
  | fz d => exact z
  | own d => exact z
  | tr d => exact z
  | _ => cases p
section
variable {W : Av} {h : Hh} {A : Av} {σ : Gm} {e : Ev} {E : Dn} {Fs : Fp}
/-- ahead of a call -/
theorem call_pre (S : St W h A σ e E Fs) {rs : List Re} {vs : List V} {G : List Nat} {vas : List Va} (T : RRL h A σ e rs vs G) (f : Fr W A Fs G) (hv : resL E rs = some vas) (nd : nodupB (varsOf rs) = true) :
    ∃ Ls, ArgsR h A σ e E Fs rs vs Ls ∧ St (cW A Ls) h A σ (vs.map some) (vas.map some) (fpL Ls) ∧ (∀ b, W b → cW A Ls b) ∧
      (∀ (j : Nat) (r : Re) (L : List Nat) (i : Nat), rs[j]? = some r → Ls[j]? = some L → rootR r = some i → ∀ b ∈ Fs i, b ∉ L → cW A Ls b) ∧ (∀ i b, b ∈ killF (varsOf rs) Fs i → cW A Ls b) ∧ ∀ i ∈ varsOf rs, ∀ b ∈ Fs i, ∀ j, b ∉ killF (varsOf rs) Fs j := by
  obtain ⟨Ls, h1, h2, h3, h4, h5, h6, h7, h8⟩ := args_of S T f hv nd
  have len : rs.length = vs.length := by rw [← h2, resL_len hv]
  have org : ∀ M ∈ Ls, ∀ b ∈ M, ∃ (j : Nat) (r : Re), rs[j]? = some r ∧ Ls[j]? = some M ∧ (b ∈ G ∨ ∃ i, rootR r = some i ∧ b ∈ Fs i) := fun M hM b hb => by
    obtain ⟨j, hj⟩ := List.getElem?_of_mem hM
    have hl : j < rs.length := by have := lt_get hj; omega
    exact ⟨j, rs[j], List.getElem?_eq_getElem hl, hj, h8 j _ M (List.getElem?_eq_getElem hl) hj b hb⟩
  refine ⟨Ls, h1, callee_st S h2 h3 h4 h5 h6 h7, fun b z => ⟨S.wa b z, fun L hL hb => (h7 L hL b hb).2 z⟩, fun j r L i q1 q2 q3 b hb hn => ⟨(S.ac i b hb).1, fun M hM hbM => ?_⟩, fun i b hb => ?_, fun i hi b hb j z => ?_⟩
  · obtain ⟨j2, r2, p1, p2, p3⟩ := org M hM b hbM
    rcases p3 with p3 | ⟨i2, p3, p4⟩
    · exact f.no i b p3 hb
    · have := S.dj i i2 b hb p4
      subst this
      have := roots_inj nd q1 p1 q3 p3
      subst this
      rw [q2] at p2
      cases p2
      exact hn hbM
  · obtain ⟨k1, k2⟩ := killF_in hb
    refine ⟨(S.ac i b k2).1, fun M hM hbM => ?_⟩
    obtain ⟨j2, r2, p1, p2, p3⟩ := org M hM b hbM
    rcases p3 with p3 | ⟨i2, p3, p4⟩
    · exact f.no i b p3 k2
    · have := S.dj i i2 b k2 p4
      subst this
      exact k1 (root_mem p1 p3)
  · obtain ⟨k1, k2⟩ := killF_in z
    have := S.dj i j b hb k2
    subst this
    exact k1 hi
/-- behind it -/
theorem call_post (S : St W h A σ e E Fs) {rs : List Re} {vs : List V} {Ls : List (List Nat)} {Wc : Av} {h' : Hh} {A' : Av} {σ' : Gm} {os : List (Option Va)} {Fc : Fp} {K : Dn → Prop} (a : ArgsR h A σ e E Fs rs vs Ls) (nd : nodupB (varsOf rs) = true) (w : ∀ b, W b → Wc b)
    (p1 : ∀ (j : Nat) (r : Re) (L : List Nat) (i : Nat), rs[j]? = some r → Ls[j]? = some L → rootR r = some i → ∀ b ∈ Fs i, b ∉ L → Wc b) (p2 : ∀ i b, b ∈ killF (varsOf rs) Fs i → Wc b) (p3 : ∀ i ∈ varsOf rs, ∀ b ∈ Fs i, ∀ j, b ∉ killF (varsOf rs) Fs j)
    (t : Tn Wc h A σ h' A' σ') (lt : ∀ b, A' b → ∃ o : Ob, h'[b]? = some o ∧ Mu o = true) (fin : ∃ N, ∀ n, N ≤ n → σ' n = none)
    (hsl : ∀ (j : Nat) (va : Va), os[j]? = some (some va) → ∃ v, vs[j]? = some v ∧ VaR h' A' σ' va v (Fc j)) (hnd : ∀ j, (Fc j).Nodup) (hdj : ∀ i j b, b ∈ Fc i → b ∈ Fc j → i = j) (hac : ∀ j b, b ∈ Fc j → A' b ∧ ¬ Wc b) (k : outsK rs os E K) :
    ∃ E' Fs', St W h' A' σ' e E' Fs' ∧ K E' ∧ ∀ i b, b ∈ Fs' i → Wc b ∨ ∃ j, b ∈ Fc j := by
  have S1 := (S.killL (varsOf rs)).tn t w p2 lt fin
  obtain ⟨E', Fs', q1, q2, q3⟩ := out_go S t w a nd (fun _ _ => rfl) p1 hsl hnd hdj hac (fun i hi b hb _ j => p3 i hi b hb j) S1 (fun i b hb j z => (hac j b z).2 (p2 i b hb)) killL_len (fun i hi => killL_get hi) k
  exact ⟨E', Fs', q1, q2, fun i b hb => (q3 i b hb).elim (fun z => .inl (p2 i b z)) id⟩
theorem St.outs {Wc : Av} {h' : Hh} {A' : Av} {σ' : Gm} {vs : List V} {os : Dn} {Fc : Fp} (S : St Wc h' A' σ' (vs.map some) os Fc) : ∀ (j : Nat) (va : Va), os[j]? = some (some va) → ∃ v, vs[j]? = some v ∧ VaR h' A' σ' va v (Fc j) := fun j va q => by
  obtain ⟨v, h1, h2⟩ := S.sl j va q
  rw [List.getElem?_map] at h1
  obtain ⟨v', h3, h4⟩ := Option.map_eq_some_iff.mp h1
  cases h4
  exact ⟨v, h3, h2⟩
end
theorem eq_call {Q : Re → Dn → Prop} {T : Pr} {k : Nat} {X : Xp} {E : Dn} {f : String} {rs : List Re} {vas : List Va} (nd : nodupB (varsOf rs) = true) (hv : resL E rs = some vas)
    (c : cpx T k f vas (fun r os => plainRe r = true ∧ zO rs os E (Q r)) fun c ds os => zO rs os E (X c ds)) : CallQ (dC T k X) f rs E Q := ⟨fun W h A σ e Fs vs G S T fr => by
  obtain ⟨Ls, a, Sc, w, p1, p2, p3⟩ := call_pre S T fr hv nd
  have r := c.go (cW A Ls) h A σ vs (fpL Ls) Sc
  show Run X W h A σ e (KE W e Q) (callD _ _ k f vs h)
  generalize callD _ _ k f vs h = o at r
  match o, r with
  | some (.ok v, h'), ⟨A', σ', os, Fc, t, S', r, Gr, zr, fr', pl, ⟨ko⟩⟩ =>
    obtain ⟨E', Fs', q1, q2, q3⟩ := call_post S a nd w p1 p2 p3 t S'.lt S'.fin S'.outs S'.nd S'.dj S'.ac ko
    refine ⟨A', σ', E', Fs', t.weak w, q1, r, Gr, zr.plain pl, Fr.mk fr'.nd (fun b hb => ⟨(fr'.ac b hb).1, fun z => (fr'.ac b hb).2 (w b z)⟩) (fun i b hb z => ?_), q2⟩
    rcases q3 i b z with y | ⟨j, y⟩
    · exact (fr'.ac b hb).2 y
    · exact fr'.no j b hb y
  | some (.ex c fs, h'), ⟨A', σ', os, Fc, ds, t, S', ff, ⟨ko⟩⟩ =>
    obtain ⟨E', Fs', q1, q2, q3⟩ := call_post S a nd w p1 p2 p3 t S'.lt S'.fin S'.outs S'.nd S'.dj S'.ac ko
    exact ⟨A', σ', E', Fs', ds, t.weak w, q1, ff, q2⟩⟩
/-! new instances -/
structure MkQ (C : DC) (c : Nat) (rs : List Re) (E : Dn) (Q : Re → Dn → Prop) : Prop where
  go : ∀ (W : Av) (h : Hh) (A : Av) (σ : Gm) (e : Ev) (Fs : Fp) (vs : List V) (G : List Nat), St W h A σ e E Fs → RRL h A σ e rs vs G → Fr W A Fs G → Run C.X W h A σ e (KE W e Q) (makeO (cf C) c vs h)
theorem eq_mkx {Q : Re → Dn → Prop} {T : Pr} {k c : Nat} {X : Xp} {E : Dn} {rs : List Re} {vas : List Va} (nd : nodupB (varsOf rs) = true) (hv : resL E rs = some vas)
    (cp : cpx T k (cnameOf T.I c ++ ".__init__") (.own (insD c []) :: vas) (fun r os => r = .fz .none ∧ ∃ va t os', os = some va :: os' ∧ trOf va = some t ∧ zO rs os' E (Q (reT t))) fun c ds os => zO rs os.tail E (X c ds)) : MkQ (dC T k X) c rs E Q := ⟨fun W h A σ e Fs vs G S0 R0 fr0 => by
  obtain ⟨t0, S⟩ := S0.new (ob := .ins c []) rfl Sub.refl S0.fin
  have RT := R0.ok (t0.ok S0.lt) t0.gm fun b hb => t0.same b (S0.lt' (fr0.ac b hb).1) (.inr (fr0.ac b hb).1)
  have fr := Fr.new S0 fr0
  have zi : RR (h ++ [.ins c []]) (newA A h.length) σ e (.own (insD c [])) (.ref h.length) [h.length] := by
    show TrR _ _ σ (.own _) _ _
    simp only [TrR]
    refine ⟨h.length, .ins c [], rfl, getNew, ⟨c, [], rfl, ?_⟩, rfl⟩
    simp only [FzI, FzF]
    exact ⟨trivial, trivial, by simp [encF, FzF]⟩
  have hv' : resL E (.own (insD c []) :: rs) = some (.own (insD c []) :: vas) := by
    show (match resL E rs with | some vs => some (Va.own (insD c []) :: vs) | none => none) = _
    rw [hv]
  obtain ⟨Ls, a, Sc, w, p1, p2, p3⟩ := call_pre (rs := .own (insD c []) :: rs) (vs := .ref h.length :: vs) (G := h.length :: G) S ⟨_, _, [h.length], G, rfl, zi, RT, rfl⟩ fr hv' nd
  have r := cp.go (cW _ Ls) _ _ σ _ (fpL Ls) Sc
  obtain ⟨_, _, L, Ms, e1, e2, a0, a⟩ := a
  cases e1
  subst e2
  have p1' : ∀ (j : Nat) (r : Re) (L' : List Nat) (i : Nat), rs[j]? = some r → Ms[j]? = some L' → rootR r = some i → ∀ b ∈ Fs i, b ∉ L' → cW _ (L :: Ms) b := fun j r L' i q1 q2 => p1 (j + 1) r L' i (by simpa using q1) (by simpa using q2)
  show Run X W h A σ e (KE W e Q) (bd (callD T.D (cfOf T.I) k (cnameOf T.I c ++ ".__init__") (.ref h.length :: vs)) (fun r => if r = .non then rt (.ref h.length) else no) (h ++ [.ins c []]))
  have r : Run _ _ _ _ _ _ _ (callD T.D (cfOf T.I) k (cnameOf T.I c ++ ".__init__") (.ref h.length :: vs) (h ++ [.ins c []])) := r
  refine Run.after (t0.weak S0.wa) ?_
  unfold bd
  generalize callD T.D (cfOf T.I) k (cnameOf T.I c ++ ".__init__") (.ref h.length :: vs) (h ++ [.ins c []]) = o at r
  match o, r with
  | some (.ok v, h'), ⟨A', σ', os, Fc, t, S', r, Gr, zr, fr', er, va, tt, os', eo, et, ⟨ko⟩⟩ =>
    subst er eo
    obtain rfl : v = .non := by have := zr.1; simpa only [Fz] using this
    have ou := S'.outs
    obtain ⟨E', Fs', q1, q2, q3⟩ := call_post (Fc := fun j => Fc (j + 1)) S a nd w p1' p2 p3 t S'.lt S'.fin (fun j va q => by
      obtain ⟨v', h1, h2⟩ := ou (j + 1) va (by simpa using q)
      exact ⟨v', by simpa using h1, h2⟩) (fun j => S'.nd _) (fun i j b h1 h2 => by have := S'.dj _ _ b h1 h2; omega) (fun j => S'.ac _) ko
    obtain ⟨v', h1, h2⟩ := ou 0 va rfl
    cases h1
    have zt := trOf_ok et h2
    have ft : Fr W A' Fs' (Fc 0) := Fr.mk (S'.nd 0) (fun b hb => ⟨(S'.ac 0 b hb).1, fun z => (S'.ac 0 b hb).2 (w b z)⟩) fun i b hb z => by
      rcases q3 i b z with y | ⟨j, y⟩
      · exact (S'.ac 0 b hb).2 y
      · have := S'.dj _ _ b hb y; omega
    show Run X W _ _ σ e (KE W e Q) (some (.ok (.ref h.length), h'))
    cases tt with
    | fz d =>
      simp only [TrR] at zt
      exact ⟨A', σ', E', Fs', t.weak w, q1, .fz d, [], ⟨zt.1, rfl⟩, Fr.nil, q2⟩
    | own d => exact ⟨A', σ', E', Fs', t.weak w, q1, .own d, Fc 0, zt, ft, q2⟩
    | lst n ts => exact ⟨A', σ', E', Fs', t.weak w, q1, .tr (.lst n ts), Fc 0, zt, ft, q2⟩
    | tup n ts => exact ⟨A', σ', E', Fs', t.weak w, q1, .tr (.tup n ts), Fc 0, zt, ft, q2⟩
    | ins n cl ts => exact ⟨A', σ', E', Fs', t.weak w, q1, .tr (.ins n cl ts), Fc 0, zt, ft, q2⟩
  | some (.ex c fs, h'), ⟨A', σ', os, Fc, ds, t, S', ff, ⟨ko⟩⟩ =>
    obtain ⟨E', Fs', q1, q2, q3⟩ := call_post (Fc := fun j => Fc (j + 1)) (os := os.tail) S a nd w p1' p2 p3 t S'.lt S'.fin (fun j va q => by
      obtain ⟨v', h1, h2⟩ := S'.outs (j + 1) va (by rw [List.getElem?_tail] at q; exact q)
      exact ⟨v', by simpa using h1, h2⟩) (fun j => S'.nd _) (fun i j b h1 h2 => by have := S'.dj _ _ b h1 h2; omega) (fun j => S'.ac _) ko
    exact ⟨A', σ', E', Fs', ds, t.weak w, q1, ff, q2⟩⟩
theorem eq_mk {Q : Re → Dn → Prop} {T : Pr} {k c : Nat} {X : Xp} {E : Dn} {rs : List Re} {vas : List Va} (nd : nodupB (varsOf rs) = true) (hv : resL E rs = some vas)
    (cc : cp T k (cnameOf T.I c ++ ".__init__") (.own (insD c []) :: vas) fun r os => r = .fz .none ∧ ∃ d os', os = some (.own d) :: os' ∧ zO rs os' E (Q (.own d))) : MkQ (dC T k X) c rs E Q :=
  eq_mkx nd hv (cp_mono cc fun r os ⟨e, d, os', eo, q⟩ => ⟨e, .own d, .own d, os', eo, rfl, q⟩)
section
variable {C : DC} {E : Dn} {Q : Re → Dn → Prop} {a : Ex} {es : Exs}
theorem ew_call {f : String} (w : WA C es E fun rs E1 => CallQ C f rs E1 Q) : WE C (.call f es) E Q := ⟨fun W h A σ e Fs S => by
  simp only [HI.ev]
  exact w.go0 S fun vs h1 A1 σ1 E1 Fs1 rs G1 t1 S1 T f1 w1 => w1.go W h1 A1 σ1 e Fs1 vs G1 S1 T f1⟩
theorem ew_mk {c : Nat} (w : WA C es E fun rs E1 => MkQ C c rs E1 Q) : WE C (.mk c es) E Q := ⟨fun W h A σ e Fs S => by
  simp only [HI.ev]
  exact w.go0 S fun vs h1 A1 σ1 E1 Fs1 rs G1 t1 S1 T f1 w1 => w1.go W h1 A1 σ1 e Fs1 vs G1 S1 T f1⟩
end
end HJ

set_option maxRecDepth 100000
set_option maxHeartbeats 4000000
/-! things changed where they stand -/
namespace HJ
open PySem L2 HI
def tgT (E : Dn) : Re → Option Tr
  | .var i => match slotV E i with
    | some va => trOf va
    | none => none
  | .pt i q m k => getP E i q m k
  | .own d => some (.own d)
  | .tr t => some t
  | _ => none
structure tgK (E : Dn) (r : Re) (t : Tr) (K : Dn → Prop) : Prop where
  go : match r with
    | .var i => zK E i (some (vaOf t)) K
    | .pt i q _ k => zP E i q k t K
    | .own _ => K E
    | .tr _ => K E
    | _ => False
section
variable {W : Av} {h : Hh} {A : Av} {σ : Gm} {e : Ev} {E : Dn} {Fs : Fp}
theorem St.mod (S : St W h A σ e E Fs) {r : Re} {x : V} {G : List Nat} {t : Tr} (z : RR h A σ e r x G) (f : Fr W A Fs G) (m : tgT E r = some t) :
    ∃ F0, TrR h A σ t x F0 ∧ F0.Nodup ∧ (∀ b ∈ F0, A b ∧ ¬ W b) ∧ (∀ b ∈ F0, b ∈ G ∨ ∃ i, b ∈ Fs i) ∧ ∀ (h' : Hh) (A' : Av) (σ' : Gm) (t' : Tr) (F' : List Nat) (K : Dn → Prop), Tn (fun b => A b ∧ b ∉ F0) h A σ h' A' σ' → (∀ b, A' b → ∃ o : Ob, h'[b]? = some o ∧ Mu o = true) → (∃ N, ∀ n, N ≤ n → σ' n = none) →
      TrR h' A' σ' t' x F' → F'.Nodup → (∀ b ∈ F', A' b ∧ (b ∈ F0 ∨ ((¬ W b) ∧ ∀ i, b ∉ Fs i))) → tgK E r t' K → Tn W h A σ h' A' σ' ∧ ∃ E' Fs', St W h' A' σ' e E' Fs' ∧ K E' := by
  have tmp : ∀ {t0 : Tr} (zt : TrR h A σ t0 x G), ∃ F0, TrR h A σ t0 x F0 ∧ F0.Nodup ∧ (∀ b ∈ F0, A b ∧ ¬ W b) ∧ (∀ b ∈ F0, b ∈ G ∨ ∃ i, b ∈ Fs i) ∧ ∀ (h' : Hh) (A' : Av) (σ' : Gm) (t' : Tr) (F' : List Nat) (K : Dn → Prop), Tn (fun b => A b ∧ b ∉ F0) h A σ h' A' σ' → (∀ b, A' b → ∃ o : Ob, h'[b]? = some o ∧ Mu o = true) → (∃ N, ∀ n, N ≤ n → σ' n = none) →
      TrR h' A' σ' t' x F' → F'.Nodup → (∀ b ∈ F', A' b ∧ (b ∈ F0 ∨ ((¬ W b) ∧ ∀ i, b ∉ Fs i))) → K E → Tn W h A σ h' A' σ' ∧ ∃ E' Fs', St W h' A' σ' e E' Fs' ∧ K E' := fun {t0} zt =>
    ⟨G, zt, f.nd, f.ac, fun b hb => .inl hb, fun h' A' σ' t' F' K tn lt fin z' nd ac k =>
      ⟨tn.weak fun b hb => ⟨S.wa b hb, fun y => (f.ac b y).2 hb⟩, E, Fs, S.tn tn (fun b hb => ⟨S.wa b hb, fun y => (f.ac b y).2 hb⟩) (fun i b hb => ⟨(S.ac i b hb).1, fun y => f.no i b y hb⟩) lt fin, k⟩⟩
  cases r with
  | own d =>
    cases m
    obtain ⟨F0, q1, q2, q3, q4, q5⟩ := tmp z
    exact ⟨F0, q1, q2, q3, q4, fun h' A' σ' t' F' K a b c d e1 g k => q5 h' A' σ' t' F' K a b c d e1 g k.go⟩
  | tr d =>
    cases m
    obtain ⟨F0, q1, q2, q3, q4, q5⟩ := tmp z
    exact ⟨F0, q1, q2, q3, q4, fun h' A' σ' t' F' K a b c d e1 g k => q5 h' A' σ' t' F' K a b c d e1 g k.go⟩
  | fz d => cases m
  | rol d => cases m
  | var i =>
    simp only [tgT] at m
    split at m
    · rename_i va hs
      obtain ⟨u, h1, h2⟩ := S.get hs
      rw [z.1] at h1
      cases h1
      refine ⟨Fs i, trOf_ok m h2, S.nd i, S.ac i, fun b hb => .inr ⟨i, hb⟩, fun h' A' σ' t' F' K tn lt fin z' nd ac k => ?_⟩
      have w : ∀ b, but W Fs i b → A b ∧ b ∉ Fs i := fun b hb => hb.elim (fun y => ⟨S.wa b y, fun y2 => (S.ac i b y2).2 y⟩) fun ⟨j, hj, y⟩ => ⟨(S.ac j b y).1, fun y2 => hj (S.dj j i b y y2)⟩
      have S' := S.put' (tn.weak w) z.1 (vaOf_ok z') nd (fun b hb => ⟨(ac b hb).1, (ac b hb).2.elim (fun y => (S.ac i b y).2) fun y => y.1⟩) (fun j hj b hb y => (ac b hb).2.elim (fun y2 => hj (S.dj j i b y y2)) fun y2 => y2.2 j y) lt fin
      exact ⟨tn.weak fun b hb => w b (.inl hb), _, _, S', k.go.go⟩
    · cases m
  | pt i q mm sl =>
    obtain ⟨u, t0, s, F0, R, ev, hE, pp, zz⟩ := S.pt z m
    have ndp := zz.pm.nodup_iff.mp (S.nd i)
    have inF : ∀ b, b ∈ F0 → b ∈ Fs i := fun b hb => zz.pm.mem_iff.mpr (by simp [hb])
    have inR : ∀ b, b ∈ R → b ∈ Fs i := fun b hb => zz.pm.mem_iff.mpr (by simp [hb])
    refine ⟨F0, zz.rel, (List.nodup_append.mp ndp).1, fun b hb => S.ac i b (inF b hb), fun b hb => .inr ⟨i, inF b hb⟩, fun h' A' σ' t' F' K tn lt fin z' nd ac k => ?_⟩
    have rW : ∀ b ∈ R, A b ∧ b ∉ F0 := fun b hb => ⟨(S.ac i b (inR b hb)).1, fun y => (List.nodup_append.mp ndp).2.2 b y b hb rfl⟩
    obtain ⟨F2, r2, p2⟩ := zz.re h' A' σ' t' F' (tn.ok S.lt) tn.gm (fun b hb => tn.same b (S.lt' (S.ac i b (inR b hb)).1) (.inr (rW b hb))) z'
    have w : ∀ b, but W Fs i b → A b ∧ b ∉ F0 := fun b hb => hb.elim (fun y => ⟨S.wa b y, fun y2 => (S.ac i b (inF b y2)).2 y⟩) fun ⟨j, hj, y⟩ => ⟨(S.ac j b y).1, fun y2 => hj (S.dj j i b y (inF b y2))⟩
    have inF2 : ∀ b ∈ F2, b ∈ F' ∨ b ∈ R := fun b hb => List.mem_append.mp (p2.mem_iff.mp hb)
    have S' := S.put' (va := .tr _) (tn.weak w) ev r2 (p2.nodup_iff.mpr (List.nodup_append.mpr ⟨nd, (List.nodup_append.mp ndp).2.1, fun a ha b hb q => by
        subst q
        exact (ac a ha).2.elim (rW a hb).2 fun y => y.2 i (inR a hb)⟩))
      (fun b hb => (inF2 b hb).elim (fun y => ⟨(ac b y).1, (ac b y).2.elim (fun y2 => (S.ac i b (inF b y2)).2) fun y2 => y2.1⟩) fun y => ⟨tn.keep b (rW b y), (S.ac i b (inR b y)).2⟩)
      (fun j hj b hb y => (inF2 b hb).elim (fun y2 => (ac b y2).2.elim (fun y3 => hj (S.dj j i b y (inF b y3))) fun y3 => y3.2 j y) fun y2 => hj (S.dj j i b y (inR b y2))) lt fin
    obtain ⟨va, hp, kz⟩ := k.go
    rw [pp] at hp
    cases hp
    exact ⟨tn.weak fun b hb => w b (.inl hb), _, _, S', kz.go⟩
/-- one object changed -/
theorem tn_set (S : St W h A σ e E Fs) {a : Nat} {o ob : Ob} {F0 : List Nat} {σ' : Gm} (g : h[a]? = some o) (ha : A a) (hm : a ∈ F0) (mu : Mu ob = true) (gm : Sub σ σ') : Tn (fun b => A b ∧ b ∉ F0) h A σ (h.set a ob) A σ' ∧ ∀ b, A b → ∃ o : Ob, (h.set a ob)[b]? = some o ∧ Mu o = true := by
  refine ⟨⟨by rw [List.length_set]; exact Nat.le_refl _, fun b z => .inl z, fun b l z => ?_, fun b z => z.1, gm⟩, fun b z => ?_⟩
  · refine List.getElem?_set_ne fun q => ?_
    subst q
    rcases z with z | z
    · exact z ha
    · exact z.2 hm
  · by_cases q : b = a
    · subst q
      exact ⟨ob, List.getElem?_set_self (lt_get g), mu⟩
    · obtain ⟨o, g, m⟩ := S.lt b z
      exact ⟨o, by rw [List.getElem?_set_ne (Ne.symm q)]; exact g, m⟩
end
/-- a flat thing changed -/
structure ModR (r : Re) (E : Dn) (f : PyData → Option PyData) (K : Dn → Prop) : Prop where
  go : ∃ x y, tgT E r = some (.own x) ∧ f x = some y ∧ tgK E r (.own y) K
abbrev ModQ (E : Dn) (i : Nat) (f : PyData → Option PyData) (K : Dn → Prop) : Prop := ModR (.var i) E f K
section
variable {W : Av} {h : Hh} {A : Av} {σ : Gm} {e : Ev} {E : Dn} {Fs : Fp}
theorem ModR.put {r : Re} {f : PyData → Option PyData} {K : Dn → Prop} (md : ModR r E f K) (S : St W h A σ e E Fs) {x : V} {G : List Nat} (z : RR h A σ e r x G) (fr : Fr W A Fs G) :
    ∃ a o d d', x = .ref a ∧ h[a]? = some o ∧ Cn h A d o ∧ f d = some d' ∧ ∀ ob, Mu ob = true → Cn h A d' ob → ∃ E' Fs', Tn W h A σ (h.set a ob) A σ ∧ St W (h.set a ob) A σ e E' Fs' ∧ K E' := by
  obtain ⟨d, d', m, hf, k⟩ := md
  obtain ⟨F0, zt, nd, ac, _, go⟩ := S.mod z fr m
  simp only [TrR] at zt
  obtain ⟨a, o, rfl, g, c, rfl⟩ := zt
  refine ⟨a, o, d, d', rfl, g, c, hf, fun ob mu c' => ?_⟩
  obtain ⟨tn, lt⟩ := tn_set S (ob := ob) (F0 := [a]) (σ' := σ) g (ac a (by simp)).1 (by simp) mu Sub.refl
  obtain ⟨t, E', Fs', S', k'⟩ := go (h.set a ob) A σ (.own d') [a] K tn lt S.fin (by
    simp only [TrR]
    exact ⟨a, ob, rfl, List.getElem?_set_self (lt_get g), c'.ok (tn.ok S.lt), rfl⟩) (by simp) (fun b hb => by
    rw [List.mem_singleton.mp hb]
    exact ⟨(ac a (by simp)).1, .inl (by simp)⟩) k
  exact ⟨E', Fs', t, S', k'⟩
end
section
variable {E : Dn} {K : Dn → Prop}
theorem mod_var {i : Nat} {f : PyData → Option PyData} {x y : PyData} (e : slotV E i = some (.own x)) (e2 : f x = some y) (k : zK E i (some (.own y)) K) : ModR (.var i) E f K :=
  ⟨x, y, by simp only [tgT, e, trOf], e2, ⟨k⟩⟩
theorem mod_pt {i m : Nat} {q : List Sl} {sl : Sl} {f : PyData → Option PyData} {x y : PyData} (e : getP E i q m sl = some (.own x)) (e2 : f x = some y) (k : zP E i q sl (.own y) K) : ModR (.pt i q m sl) E f K :=
  ⟨x, y, e, e2, ⟨k⟩⟩
theorem mod_own {d y : PyData} {f : PyData → Option PyData} (e2 : f d = some y) (k : K E) : ModR (.own d) E f K := ⟨d, y, rfl, e2, ⟨k⟩⟩
structure zL (E : List PyData) (i : Nat) (v : PyData) (K : List PyData → Prop) : Prop where
  lt : i < E.length
  go : K (E.set i v)
theorem ekl_0 {x v : PyData} {r : List PyData} {K : List PyData → Prop} (h : K (v :: r)) : zL (x :: r) 0 v K := ⟨by simp, h⟩
theorem ekl_s {x v : PyData} {r : List PyData} {i : Nat} {K : List PyData → Prop} (h : zL r i v fun r' => K (x :: r')) : zL (x :: r) (i + 1) v K := ⟨by simpa using h.lt, h.go⟩
theorem setD_at {xs : List PyData} {n : Nat} {d : PyData} (l : n < xs.length) : setD (.int (n : Int)) d (.list xs) = some (.list (xs.set n d)) := by
  show (ixN xs.length (n : Int)).map _ = _
  unfold ixN
  rw [if_pos (by omega), if_pos (by omega)]; rfl
theorem em_setn {i n : Nat} {xs : List PyData} {d : PyData} (e : slotV E i = some (.own (.list xs))) (k : zL xs n d fun ys => zK E i (some (.own (.list ys))) K) : ModQ E i (setD (.int (n : Int)) d) K := mod_var e (setD_at k.lt) k.go
theorem em_set0 {i : Nat} {xs : List PyData} {d : PyData} (e : slotV E i = some (.own (.list xs))) (k : zL xs 0 d fun ys => zK E i (some (.own (.list ys))) K) : ModQ E i (setD (.int 0) d) K := em_setn (n := 0) e k
theorem em_set1 {i : Nat} {xs : List PyData} {d : PyData} (e : slotV E i = some (.own (.list xs))) (k : zL xs 1 d fun ys => zK E i (some (.own (.list ys))) K) : ModQ E i (setD (.int 1) d) K := em_setn (n := 1) e k
theorem em_set2 {i : Nat} {xs : List PyData} {d : PyData} (e : slotV E i = some (.own (.list xs))) (k : zL xs 2 d fun ys => zK E i (some (.own (.list ys))) K) : ModQ E i (setD (.int 2) d) K := em_setn (n := 2) e k
theorem em_seti {i : Nat} {k : Int} {xs : List PyData} {d : PyData} (e : slotV E i = some (.own (.list xs))) (h0 : 0 ≤ k) (h1 : k < xs.length) (kk : zK E i (some (.own (.list (xs.set k.toNat d)))) K) : ModQ E i (setD (.int k) d) K :=
  mod_var e (by
    have := setD_at (xs := xs) (n := k.toNat) (d := d) (by omega)
    rwa [show ((k.toNat : Nat) : Int) = k by omega] at this) kk
theorem lm_append {xs : List PyData} {d : PyData} (l : xs.length < sizeLine) : lmethL "append" [d] (.list xs) = some (.list (xs ++ [d])) := by
  show (lmethD "append" xs [d]).map PyData.list = _
  rw [show lmethD "append" xs [d] = some (xs ++ [d]) from if_pos l]; rfl
theorem em_append {i : Nat} {xs : List PyData} {d : PyData} (e : slotV E i = some (.own (.list xs))) (l : xs.length < sizeLine) (k : zK E i (some (.own (.list (xs ++ [d])))) K) : ModQ E i (lmethL "append" [d]) K := mod_var e (lm_append l) k
theorem em_appendP {i m : Nat} {q : List Sl} {sl : Sl} {xs : List PyData} {d : PyData} (e : getP E i q m sl = some (.own (.list xs))) (l : xs.length < sizeLine) (k : zP E i q sl (.own (.list (xs ++ [d]))) K) : ModR (.pt i q m sl) E (lmethL "append" [d]) K := mod_pt e (lm_append l) k
theorem em_insert {i : Nat} {k : Int} {xs : List PyData} {d : PyData} (e : slotV E i = some (.own (.list xs))) (l : xs.length < sizeLine ∧ 0 ≤ k ∧ k < 2 ^ 63) (kk : zK E i (some (.own (.list (xs.take k.toNat ++ [d] ++ xs.drop k.toNat)))) K) : ModQ E i (lmethL "insert" [.int k, d]) K := by
  refine mod_var e ?_ kk
  show (lmethD "insert" xs [.int k, d]).map PyData.list = _
  rw [show lmethD "insert" xs [.int k, d] = some (xs.take k.toNat ++ [d] ++ xs.drop k.toNat) from if_pos l]; rfl
theorem em_clear {i : Nat} {xs : List PyData} (e : slotV E i = some (.own (.list xs))) (k : zK E i (some (.own (.list []))) K) : ModQ E i (lmethL "clear" []) K := mod_var e rfl k
theorem m_fld {i : Nat} {x y : PyData} {I : List Ci} {f : Str} {d : PyData} (e : slotV E i = some (.own x)) (e2 : setFD I f d x = some y) (k : zK E i (some (.own y)) K) : ModQ E i (setFD I f d) K := mod_var e e2 k
/-! parts put back, step by step -/
structure zT (ts : List Tr) (j : Nat) (c : Tr) (K : List Tr → Prop) : Prop where
  lt : j < ts.length
  go : K (ts.set j c)
theorem zt_0 {x c : Tr} {r : List Tr} {K : List Tr → Prop} (k : K (c :: r)) : zT (x :: r) 0 c K := ⟨by simp, k⟩
theorem zt_s {x c : Tr} {r : List Tr} {j : Nat} {K : List Tr → Prop} (k : zT r j c fun r' => K (x :: r')) : zT (x :: r) (j + 1) c K := ⟨by simpa using k.lt, k.go⟩
structure zF1 (fs : List (Str × Tr)) (f : Str) (c : Tr) (K : List (Str × Tr) → Prop) : Prop where
  go : K (setFl f c fs)
theorem zf_0 {g f : Str} {x c : Tr} {r : List (Str × Tr)} {K : List (Str × Tr) → Prop} (e : (f == g) = true) (k : K ((g, c) :: r)) : zF1 ((g, x) :: r) f c K := ⟨by unfold setFl; rw [if_pos e]; exact k⟩
theorem zf_s {g f : Str} {x c : Tr} {r : List (Str × Tr)} {K : List (Str × Tr) → Prop} (e : (f == g) = false) (k : zF1 r f c fun r' => K ((g, x) :: r')) : zF1 ((g, x) :: r) f c K := ⟨by unfold setFl; rw [if_neg (by rw [e]; exact Bool.false_ne_true)]; exact k.go⟩
theorem zp_lst {i n j : Nat} {ts : List Tr} {c : Tr} (e : slotV E i = some (.tr (.lst n ts))) (k : zT ts j c fun ts' => zK E i (some (.tr (.lst n ts'))) K) : zP E i [] (.ix j) c K := ⟨_, by unfold putP; rw [e]; rfl, k.go⟩
theorem zp_tup {i n j : Nat} {ts : List Tr} {c : Tr} (e : slotV E i = some (.tr (.tup n ts))) (k : zT ts j c fun ts' => zK E i (some (.tr (.tup n ts'))) K) : zP E i [] (.ix j) c K := ⟨_, by unfold putP; rw [e]; rfl, k.go⟩
theorem zp_ins {i n cl : Nat} {fs : List (Str × Tr)} {f : Str} {c : Tr} (e : slotV E i = some (.tr (.ins n cl fs))) (k : zF1 fs f c fun fs' => zK E i (some (.tr (.ins n cl fs'))) K) : zP E i [] (.fl f) c K := ⟨_, by unfold putP; rw [e]; rfl, k.go⟩
theorem zp_any {i : Nat} {q : List Sl} {sl : Sl} {c : Tr} {va : Va} (e : putP E i q sl c = some va) (k : zK E i (some va) K) : zP E i q sl c K := ⟨va, e, k⟩
end
/-! ### methods -/
inductive Rk | lst | ins (c : Nat)
def recvT (m : Str) : Tr → Option Rk
  | .own (.list _) => some .lst
  | .lst _ _ => some .lst
  | .own d => match insOf d with
    | some (c, fs) => if fs.lookup m = none then some (.ins c) else none
    | none => none
  | .fz d => match insOf d with
    | some (c, fs) => if fs.lookup m = none then some (.ins c) else none
    | none => none
  | .ins _ c fs => if fs.lookup m = none then some (.ins c) else none
  | _ => none
def recvD (m : Str) (E : Dn) : Re → Option Rk
  | .fz d => recvT m (.fz d)
  | r => match tgT E r with
    | some t => recvT m t
    | none => none
structure RecQ (m : Str) (E : Dn) (r : Re) (K : Rk → Prop) : Prop where
  go : ∃ k, recvD m E r = some k ∧ K k
theorem q_rec {m : Str} {E : Dn} {r : Re} {k : Rk} {K : Rk → Prop} (e : recvD m E r = some k) (h : K k) : RecQ m E r K := ⟨k, e, h⟩
theorem trF_lookup {h : Hh} {A : Av} {σ : Gm} : ∀ {fs : List (Str × Tr)} {vs : List (Str × V)} {F : List Nat} {f : Str}, TrF h A σ fs vs F → fs.lookup f = none → vs.lookup f = none
  | [], vs, F, f, z, e => by
    simp only [TrF] at z
    rw [z.1]; rfl
  | (g, t) :: fs, vs, F, f, z, e => by
    simp only [TrF] at z
    obtain ⟨x, r, F1, F2, rfl, a, b, rfl⟩ := z
    rw [List.lookup_cons] at e ⊢
    cases q : f == g with
    | true => rw [q] at e; cases e
    | false =>
      rw [q] at e
      exact trF_lookup b e
def rkc (a : Nat) : Rk → Rc
  | .lst => .lst a
  | .ins c => .ins c a
theorem recvT_ok {h : Hh} {A : Av} {σ : Gm} {m : Str} {t : Tr} {k : Rk} {x : V} {F : List Nat} (e : recvT m t = some k) (z : TrR h A σ t x F) : ∃ a, x = .ref a ∧ recv m x h = some (.ok (rkc a k), h) := by
  have inst : ∀ d c, Vw h A d x → (match insOf d with | some (c, fs) => if fs.lookup m = none then some (Rk.ins c) else none | none => none) = some c → ∃ a, x = .ref a ∧ recv m x h = some (.ok (rkc a c), h) := fun d c vw q => by
    split at q
    · rename_i c' fs hi
      split at q
      · rename_i hl
        cases q
        obtain ⟨_, a, vs, rfl, g, _, _, hn, _⟩ := insOf_ok vw hi
        exact ⟨a, rfl, recv_ins g (hn m hl)⟩
      · cases q
    · cases q
  cases t with
  | fz d =>
    simp only [TrR] at z
    exact inst d k (Vw.of z.1) e
  | own d =>
    cases d with
    | list xs =>
      cases e
      simp only [TrR] at z
      obtain ⟨a, o, rfl, g, ⟨vs, rfl, _⟩, _⟩ := z
      exact ⟨a, rfl, recv_lst g⟩
    | dict xs => exact inst _ k (TrR.own_vw z) e
    | none => cases e
    | bool b => cases e
    | int b => cases e
    | str b => cases e
    | tuple b => cases e
  | lst n ts =>
    cases e
    simp only [TrR] at z
    obtain ⟨a, xs, G, rfl, g, _⟩ := z
    exact ⟨a, rfl, recv_lst g⟩
  | tup n ts => cases e
  | ins n c fs =>
    have e : (if fs.lookup m = none then some (Rk.ins c) else none) = some k := e
    split at e
    · rename_i hl
      cases e
      simp only [TrR] at z
      obtain ⟨a, xs, G, rfl, g, _, zf, _⟩ := z
      exact ⟨a, rfl, recv_ins g (trF_lookup zf hl)⟩
    · cases e
theorem recvD_ok {W : Av} {h : Hh} {A : Av} {σ : Gm} {e : Ev} {E : Dn} {Fs : Fp} (S : St W h A σ e E Fs) {m : Str} {r : Re} {k : Rk} {x : V} {G : List Nat} (z : RR h A σ e r x G) (f : Fr W A Fs G) (q : recvD m E r = some k) :
    ∃ a, x = .ref a ∧ recv m x h = some (.ok (rkc a k), h) := by
  have viaT : ∀ t, tgT E r = some t → recvT m t = some k → ∃ a, x = .ref a ∧ recv m x h = some (.ok (rkc a k), h) := fun t ht hk => by
    obtain ⟨F0, zt, _⟩ := S.mod z f ht
    exact recvT_ok hk zt
  cases r with
  | fz d =>
    refine recvT_ok (A := A) (σ := σ) (t := .fz d) (F := []) q ?_
    simp only [TrR]
    exact ⟨z.1, trivial⟩
  | own d => exact viaT _ rfl q
  | tr d => exact viaT _ rfl q
  | rol d => cases q
  | var i =>
    simp only [recvD] at q
    split at q
    · rename_i t ht
      exact viaT t ht q
    · cases q
  | pt i qq mm sl =>
    simp only [recvD] at q
    split at q
    · rename_i t ht
      exact viaT t ht q
    · cases q
/-- a list with owned parts changed -/
def lmethN (ms : String) (ts : List Tr) (us : List Tr) : Option (List Tr) := match ms, ts with
  | "append", [t] => if us.length < sizeLine then some (us ++ [t]) else none
  | "clear", [] => some []
  | "reverse", [] => some us.reverse
  | _, _ => none
theorem lmethN_some {ms : String} {ts us vs : List Tr} (m : lmethN ms ts us = some vs) : (ms = "append" ∧ ∃ t, ts = [t] ∧ us.length < sizeLine ∧ vs = us ++ [t]) ∨ (ms = "clear" ∧ ts = [] ∧ vs = []) ∨ (ms = "reverse" ∧ ts = [] ∧ vs = us.reverse) := by
  unfold lmethN at m
  split at m
  · split at m
    · cases m
      exact .inl ⟨rfl, _, rfl, by assumption, rfl⟩
    · cases m
  · cases m; exact .inr (.inl ⟨rfl, rfl, rfl⟩)
  · cases m; exact .inr (.inr ⟨rfl, rfl, rfl⟩)
  · cases m
def lstT : Tr → Option (List Tr)
  | .lst _ ts => some ts
  | .own (.list ds) => some (ds.map .fz)
  | _ => none
structure ModN (r : Re) (E : Dn) (ms : String) (ts : List Tr) (K : Dn → Prop) : Prop where
  go : ∃ t us vs, tgT E r = some t ∧ lstT t = some us ∧ lmethN ms ts us = some vs ∧ ∀ n, tgK E r (.lst n vs) K
theorem TrL.app {h : Hh} {A : Av} {σ : Gm} : ∀ {ts us : List Tr} {xs ys : List V} {F G : List Nat}, TrL h A σ ts xs F → TrL h A σ us ys G → TrL h A σ (ts ++ us) (xs ++ ys) (F ++ G)
  | [], us, xs, ys, F, G, z, z2 => by
    simp only [TrL] at z
    obtain ⟨rfl, rfl⟩ := z
    exact z2
  | t :: ts, us, xs, ys, F, G, z, z2 => by
    simp only [TrL, List.cons_append] at z ⊢
    obtain ⟨x, r, F1, F2, rfl, a, b, rfl⟩ := z
    exact ⟨x, r ++ ys, F1, F2 ++ G, rfl, a, TrL.app b z2, by rw [List.append_assoc]⟩
theorem TrL.rev {h : Hh} {A : Av} {σ : Gm} : ∀ {ts : List Tr} {xs : List V} {F : List Nat}, TrL h A σ ts xs F → ∃ G, TrL h A σ ts.reverse xs.reverse G ∧ G.Perm F
  | [], xs, F, z => by
    simp only [TrL] at z
    obtain ⟨rfl, rfl⟩ := z
    exact ⟨[], by simp [TrL], .refl _⟩
  | t :: ts, xs, F, z => by
    simp only [TrL] at z
    obtain ⟨x, r, F1, F2, rfl, a, b, rfl⟩ := z
    obtain ⟨G, g, p⟩ := TrL.rev b
    refine ⟨G ++ F1, ?_, (p.append_right F1).trans List.perm_append_comm⟩
    rw [List.reverse_cons, List.reverse_cons]
    refine TrL.app g ?_
    simp only [TrL]
    exact ⟨x, [], F1, [], rfl, a, by simp, by simp⟩
theorem TrL.fz {h : Hh} {A : Av} {σ : Gm} : ∀ {ds : List PyData} {xs : List V}, FzL h A ds xs → TrL h A σ (ds.map .fz) xs []
  | [], xs, z => by
    simp only [FzL] at z
    subst z
    simp [TrL]
  | d :: ds, xs, z => by
    simp only [FzL] at z
    obtain ⟨x, r, rfl, a, b⟩ := z
    simp only [List.map_cons, TrL]
    exact ⟨x, r, [], [], rfl, by simp only [TrR]; exact ⟨a, trivial⟩, TrL.fz b, rfl⟩
theorem lstT_ok {h : Hh} {A : Av} {σ : Gm} {t : Tr} {us : List Tr} {x : V} {F : List Nat} (e : lstT t = some us) (z : TrR h A σ t x F) : ∃ a xs G, x = .ref a ∧ h[a]? = some (.lst xs) ∧ TrL h A σ us xs G ∧ F = a :: G := by
  cases t with
  | lst n ts =>
    cases e
    simp only [TrR] at z
    obtain ⟨a, xs, G, rfl, g, _, r, rfl⟩ := z
    exact ⟨a, xs, G, rfl, g, r, rfl⟩
  | own d =>
    cases d with
    | list ds =>
      cases e
      simp only [TrR] at z
      obtain ⟨a, o, rfl, g, ⟨xs, rfl, r⟩, rfl⟩ := z
      exact ⟨a, xs, [], rfl, g, TrL.fz r, rfl⟩
    | _ => cases e
  | _ => cases e
section
variable {W : Av} {h : Hh} {A : Av} {σ : Gm} {e : Ev} {E : Dn} {Fs : Fp}
/-- a list's contents are others now -/
theorem node_put (S : St W h A σ e E Fs) {r : Re} {x : V} {G Gx : List Nat} {t : Tr} {us : List Tr} (z : RR h A σ e r x G) (f : Fr W A Fs (G ++ Gx)) (m : tgT E r = some t) (hl : lstT t = some us) :
    ∃ a xs H, x = .ref a ∧ h[a]? = some (.lst xs) ∧ TrL h A σ us xs H ∧ ∀ (vs : List Tr) (ys : List V) (H' : List Nat) (K : Dn → Prop), TrL h A σ vs ys H' → (∃ D, (H' ++ D).Perm (H ++ Gx)) → (∀ n, tgK E r (.lst n vs) K) →
      ∃ σ' E' Fs', Tn W h A σ (h.set a (.lst ys)) A σ' ∧ St W (h.set a (.lst ys)) A σ' e E' Fs' ∧ K E' := by
  obtain ⟨F0, zt, nd, ac, org, go⟩ := S.mod z f.left m
  obtain ⟨a, xs, H, rfl, g, r1, rfl⟩ := lstT_ok hl zt
  refine ⟨a, xs, H, rfl, g, r1, fun vs ys H' K r2 ⟨D, pm⟩ k => ?_⟩
  obtain ⟨n, σ', hn, gs, fin⟩ := S.num (.lst ys)
  obtain ⟨tn, lt⟩ := tn_set S (ob := .lst ys) (F0 := a :: H) (σ' := σ') g (ac a (by simp)).1 (by simp) rfl gs
  have inH' : ∀ b ∈ H', b ∈ H ∨ b ∈ Gx := fun b hb => List.mem_append.mp (pm.mem_iff.mp (by simp [hb]))
  have ndHG : (H ++ Gx).Nodup := List.nodup_append.mpr ⟨(List.nodup_cons.mp nd).2, f.right.nd, fun b hb c hc q => by
    subst q
    rcases org b (by simp [hb]) with y | ⟨i, y⟩
    · exact (List.nodup_append.mp f.nd).2.2 b y b hc rfl
    · exact f.right.no i b hc y⟩
  have ane : a ∉ H' := fun y => by
    rcases inH' a y with y | y
    · exact (List.nodup_cons.mp nd).1 y
    · rcases org a (by simp) with q | ⟨i, q⟩
      · exact (List.nodup_append.mp f.nd).2.2 a q a y rfl
      · exact f.right.no i a y q
  have sm : ∀ b ∈ H', (h.set a (.lst ys))[b]? = h[b]? := fun b hb => List.getElem?_set_ne fun q => ane (by rw [q]; exact hb)
  obtain ⟨t', E', Fs', S', k'⟩ := go (h.set a (.lst ys)) A σ' (.lst n vs) (a :: H') K tn lt fin (by
    simp only [TrR]
    exact ⟨a, ys, H', rfl, List.getElem?_set_self (lt_get g), hn, TrL.ok (tn.ok S.lt) gs vs ys H' r2 sm, rfl⟩)
    (List.nodup_cons.mpr ⟨ane, (List.nodup_append.mp (pm.nodup_iff.mpr ndHG)).1⟩) (fun b hb => by
      rcases List.mem_cons.mp hb with rfl | hb
      · exact ⟨(ac _ (by simp)).1, .inl (by simp)⟩
      · rcases inH' b hb with y | y
        · exact ⟨(ac b (by simp [y])).1, .inl (by simp [y])⟩
        · exact ⟨(f.right.ac b y).1, .inr ⟨(f.right.ac b y).2, fun i => f.right.no i b y⟩⟩) (k n)
  exact ⟨σ', E', Fs', t', S', k'⟩
end
structure MethQ (C : DC) (ms : String) (es : Exs) (r : Re) (E : Dn) (Q : Re → Dn → Prop) (k : Rk) : Prop where
  go : match k with
    | .lst => (WA C es E fun rs E1 => FrzsQ rs E1 fun ds E2 => ModR r E2 (lmethL ms ds) fun E3 => Q (.fz .none) E3) ∨ WA C es E fun rs E1 => GivsQ rs E1 fun ts E2 => ModN r E2 ms ts fun E3 => Q (.fz .none) E3
    | .ins c => hasMOf C.I c ms = true ∧ WA C es E fun rs E1 => CallQ C (cnameOf C.I c ++ "." ++ ms) (r :: rs) E1 Q
section
variable {C : DC} {E : Dn} {Q : Re → Dn → Prop} {a : Ex} {es : Exs}
theorem em_l {ms : String} {r : Re} (w : WA C es E fun rs E1 => FrzsQ rs E1 fun ds E2 => ModR r E2 (lmethL ms ds) fun E3 => Q (.fz .none) E3) : MethQ C ms es r E Q .lst := ⟨.inl w⟩
theorem em_lT {ms : String} {r : Re} (w : WA C es E fun rs E1 => GivsQ rs E1 fun ts E2 => ModN r E2 ms ts fun E3 => Q (.fz .none) E3) : MethQ C ms es r E Q .lst := ⟨.inr w⟩
theorem em_r_g {ms : String} {r : Re} {c : Nat} (hm : hasMOf C.I c ms = true) (w : WA C es E fun rs E1 => CallQ C (cnameOf C.I c ++ "." ++ ms) (r :: rs) E1 Q) : MethQ C ms es r E Q (.ins c) := ⟨hm, w⟩
theorem ew_meth {m : Str} {ms : String} (w : WE C a E fun r E1 => RecQ m E1 r fun k => MethQ C ms es r E1 Q k) : WE C (.meth m ms a es) E Q := ⟨fun W h A σ e Fs S => by
  simp only [HI.ev]
  refine w.go0 S fun x h1 A1 σ1 E1 Fs1 rx G1 t1 S1 zx f1 ⟨k, hk, q⟩ => ?_
  obtain ⟨aa, rfl, er⟩ := recvD_ok S1 zx f1 hk
  rw [HI.bd_eq er]
  cases k with
  | ins c =>
    obtain ⟨hm, w1⟩ := q.go
    refine Run.bind (Run.pend (w1.run (plus W G1) h1 A1 σ1 e Fs1 (S1.aside f1)) S1 (rs := [rx]) (vs := [.ref aa]) (G := G1) ⟨_, [], G1, [], rfl, zx, ⟨rfl, rfl⟩, by simp⟩ f1) ?_
    rintro vs h2 A2 σ2 E2 Fs2 t2 S2 ⟨⟨rs, G2, T2, f2, q⟩, ⟨x', ws, G3, G4, e1, zx, ⟨rfl, rfl⟩, e2⟩, f1', _, _⟩
    cases e1
    rw [List.append_nil] at e2
    subst e2
    have hm' : (cf C).hasM c ms = true := hm
    show Run C.X W h2 A2 σ2 e (KE W e Q) ((if (cf C).hasM c ms = true then (cf C).call ((cf C).cname c ++ "." ++ ms) (V.ref aa :: vs) else no) h2)
    rw [if_pos hm']
    exact q.go W h2 A2 σ2 e Fs2 (.ref aa :: vs) (G1 ++ G2) S2 ⟨_, vs, G1, G2, rfl, zx, T2, rfl⟩ ((f1'.two f2).perm List.perm_append_comm)
  | lst =>
    rcases q.go with w1 | w1
    · refine Run.bind (Run.pend (w1.run (plus W G1) h1 A1 σ1 e Fs1 (S1.aside f1)) S1 (rs := [rx]) (vs := [.ref aa]) (G := G1) ⟨_, [], G1, [], rfl, zx, ⟨rfl, rfl⟩, by simp⟩ f1) ?_
      rintro vs h2 A2 σ2 E2 Fs2 t2 S2 ⟨⟨rs, G2, T2, f2, q⟩, ⟨x', ws, G3, G4, e1, zx, ⟨rfl, rfl⟩, e2⟩, f1', _, _⟩
      cases e1
      rw [List.append_nil] at e2
      subst e2
      obtain ⟨A3, E3, Fs3, ds, t3, S3, fz, md⟩ := q.go (plus W G1) h2 A2 σ2 e Fs2 vs G2 (S2.aside f1') T2 f2
      have zx3 := zx.ok (t3.ok S2.lt) t3.gm fun _ _ => rfl
      have f3 := f1'.still t3 S3
      refine Run.after t3.back ?_
      obtain ⟨a2, o, d, d', e3, g, c, hf, go⟩ := md.put S3.back zx3 f3
      cases e3
      -- the method
      cases d with
      | list xs =>
        obtain ⟨us, rfl, ru⟩ := c
        obtain ⟨ys, hy, rfl⟩ := Option.map_eq_some_iff.mp (show (lmethD ms xs ds).map PyData.list = some d' from hf)
        obtain ⟨vs', ev, rv⟩ := lmeth_ok g ru fz hy
        obtain ⟨E4, Fs4, t4, S4, k4⟩ := go (.lst vs') rfl ⟨vs', rfl, rv⟩
        show Run C.X W h2 A3 σ2 e (KE W e Q) (lmeth ms aa vs h2)
        rw [ev]
        exact ⟨_, _, _, _, t4, S4, .fz .none, [], ⟨fz_none, rfl⟩, Fr.nil, k4⟩
      | _ => cases hf
    · refine Run.bind (Run.pend (w1.run (plus W G1) h1 A1 σ1 e Fs1 (S1.aside f1)) S1 (rs := [rx]) (vs := [.ref aa]) (G := G1) ⟨_, [], G1, [], rfl, zx, ⟨rfl, rfl⟩, by simp⟩ f1) ?_
      rintro vs h2 A2 σ2 E2 Fs2 t2 S2 ⟨⟨rs, G2, T2, f2, q⟩, ⟨x', ws, G3, G4, e1, zx, ⟨rfl, rfl⟩, e2⟩, f1', _, _⟩
      cases e1
      rw [List.append_nil] at e2
      subst e2
      obtain ⟨A3, E3, Fs3, ts, G3, t3, S3, zt, f3, t, us, vs', ht, hl, hm, k⟩ := q.go (plus W G1) h2 A2 σ2 e Fs2 vs G2 (S2.aside f1') T2 f2
      have zx3 := zx.ok (t3.ok S2.lt) t3.gm fun _ _ => rfl
      have f4 := f1'.still t3 S3
      have f5 : Fr W A3 Fs3 (G1 ++ G3) := (f4.two f3).perm List.perm_append_comm
      refine Run.after t3.back ?_
      obtain ⟨a2, xs, H, e3, g, r1, go⟩ := node_put S3.back zx3 f5 ht hl
      cases e3
      have gl := lstAt_of g
      show Run C.X W h2 A3 σ2 e (KE W e Q) (lmeth ms aa vs h2)
      rcases lmethN_some hm with ⟨rfl, tt, rfl, hlen, rfl⟩ | ⟨rfl, rfl, rfl⟩ | ⟨rfl, rfl, rfl⟩
      · simp only [TrL] at zt
        obtain ⟨y, _, F1, _, rfl, zy, ⟨rfl, rfl⟩, rfl⟩ := zt
        obtain ⟨σ', E', Fs', t4, S4, k4⟩ := go (us ++ [tt]) (xs ++ [y]) (H ++ (F1 ++ [])) (fun E3 => Q (.fz .none) E3) (TrL.app r1 (by simp only [TrL]; exact ⟨y, [], F1, [], rfl, zy, by simp, rfl⟩)) ⟨[], by simp⟩ k
        have : lmeth "append" aa [y] h2 = some (.ok .non, h2.set aa (.lst (xs ++ [y]))) := by
          unfold lmeth
          rw [gl]
          exact if_pos (by rw [← TrL.len r1]; exact hlen)
        rw [this]
        exact ⟨_, _, _, _, t4, S4, .fz .none, [], ⟨fz_none, rfl⟩, Fr.nil, k4⟩
      · simp only [TrL] at zt
        obtain ⟨rfl, rfl⟩ := zt
        obtain ⟨σ', E', Fs', t4, S4, k4⟩ := go [] [] [] (fun E3 => Q (.fz .none) E3) (by simp [TrL]) ⟨H, by simp⟩ k
        have : lmeth "clear" aa [] h2 = some (.ok .non, h2.set aa (.lst [])) := by
          unfold lmeth
          rw [gl]; rfl
        rw [this]
        exact ⟨_, _, _, _, t4, S4, .fz .none, [], ⟨fz_none, rfl⟩, Fr.nil, k4⟩
      · simp only [TrL] at zt
        obtain ⟨rfl, rfl⟩ := zt
        obtain ⟨G', g', p'⟩ := TrL.rev r1
        obtain ⟨σ', E', Fs', t4, S4, k4⟩ := go us.reverse xs.reverse G' (fun E3 => Q (.fz .none) E3) g' ⟨[], by simpa using p'⟩ k
        have : lmeth "reverse" aa [] h2 = some (.ok .non, h2.set aa (.lst xs.reverse)) := by
          unfold lmeth
          rw [gl]; rfl
        rw [this]
        exact ⟨_, _, _, _, t4, S4, .fz .none, [], ⟨fz_none, rfl⟩, Fr.nil, k4⟩⟩
end
end HJ

set_option maxRecDepth 100000
set_option maxHeartbeats 4000000
/-! statements -/
namespace HJ
open PySem L2 HI
inductive Fd | nx | rt (r : Re) | bk | ct
def FlR (W : Av) (h : Hh) (A : Av) (σ : Gm) (e : Ev) (Fs : Fp) : Fd → Fl → Prop
  | .nx, fl => fl = .nx e
  | .bk, fl => fl = .bk e
  | .ct, fl => fl = .ct e
  | .rt r, fl => ∃ v G, fl = .rt v ∧ RR h A σ e r v G ∧ Fr W A Fs G
def RunS (X : Xp) (P : List Nat) (W : Av) (h : Hh) (A : Av) (σ : Gm) (e : Ev) (Q : Fd → Dn → Prop) : Option (Rs Fl × Hh) → Prop
  | some (.ok fl, h') => ∃ A' σ' e' E' Fs' f, Tn W h A σ h' A' σ' ∧ St W h' A' σ' e' E' Fs' ∧ (∀ i ∈ P, e'[i]? = e[i]?) ∧ FlR W h' A' σ' e' Fs' f fl ∧ Q f E'
  | some (.ex c fs, h') => ∃ A' σ' e' E' Fs' ds, Tn W h A σ h' A' σ' ∧ St W h' A' σ' e' E' Fs' ∧ (∀ i ∈ P, e'[i]? = e[i]?) ∧ FzF h' A' (encF ds) fs ∧ X c ds E'
  | none => False
section
variable {X : Xp} {P : List Nat} {W : Av} {h h1 : Hh} {A A1 : Av} {σ σ1 : Gm} {e e1 : Ev} {E : Dn} {Fs : Fp} {Q Q' : Fd → Dn → Prop}
theorem RunS.after {o : Option (Rs Fl × Hh)} (t : Tn W h A σ h1 A1 σ1) (p : ∀ i ∈ P, e1[i]? = e[i]?) (r : RunS X P W h1 A1 σ1 e1 Q o) : RunS X P W h A σ e Q o := by
  match o, r with
  | some (.ok a, h'), ⟨A', σ', e', E', Fs', f, t', s, pr, fl, k⟩ => exact ⟨A', σ', e', E', Fs', f, t.trans t', s, fun i hi => (pr i hi).trans (p i hi), fl, k⟩
  | some (.ex c fs, h'), ⟨A', σ', e', E', Fs', ds, t', s, pr, f, k⟩ => exact ⟨A', σ', e', E', Fs', ds, t.trans t', s, fun i hi => (pr i hi).trans (p i hi), f, k⟩
theorem RunS.mono {o : Option (Rs Fl × Hh)} (r : RunS X P W h A σ e Q o) (m : ∀ f E, Q f E → Q' f E) : RunS X P W h A σ e Q' o := by
  match o, r with
  | some (.ok a, h'), ⟨A', σ', e', E', Fs', f, t', s, pr, fl, k⟩ => exact ⟨A', σ', e', E', Fs', f, t', s, pr, fl, m _ _ k⟩
  | some (.ex c fs, h'), r => exact r
theorem RunS.sub {P' : List Nat} {o : Option (Rs Fl × Hh)} (r : RunS X P W h A σ e Q o) (m : ∀ i ∈ P', i ∈ P) : RunS X P' W h A σ e Q o := by
  match o, r with
  | some (.ok a, h'), ⟨A', σ', e', E', Fs', f, t', s, pr, fl, k⟩ => exact ⟨A', σ', e', E', Fs', f, t', s, fun i hi => pr i (m i hi), fl, k⟩
  | some (.ex c fs, h'), ⟨A', σ', e', E', Fs', ds, t', s, pr, f, k⟩ => exact ⟨A', σ', e', E', Fs', ds, t', s, fun i hi => pr i (m i hi), f, k⟩
theorem Run.bindS {α : Type} {K : Kk α} {m : Mo α} {f : α → Mo Fl} (r : Run X W h A σ e K (m h))
    (k : ∀ a h1 A1 σ1 E1 Fs1, Tn W h A σ h1 A1 σ1 → St W h1 A1 σ1 e E1 Fs1 → K a h1 A1 σ1 E1 Fs1 → RunS X P W h1 A1 σ1 e Q (f a h1)) : RunS X P W h A σ e Q (bd m f h) := by
  unfold bd
  generalize hm : m h = o at r
  match o, r with
  | some (.ok a, h'), ⟨A', σ', E', Fs', t, s, z⟩ => exact RunS.after t (fun _ _ => rfl) (k _ _ _ _ _ _ t s z)
  | some (.ex c fs, h'), ⟨A', σ', E', Fs', ds, t, s, z, x⟩ => exact ⟨A', σ', e, E', Fs', ds, t, s, fun _ _ => rfl, z, x⟩
theorem RunS.nx (S : St W h A σ e E Fs) (q : Q .nx E) : RunS X P W h A σ e Q (some (.ok (.nx e), h)) := ⟨A, σ, e, E, Fs, .nx, Tn.refl S.wa, S, fun _ _ => rfl, rfl, q⟩
end
/-- a term's run with what is pending, to go on with -/
theorem WE.pend {C : DC} {W : Av} {h : Hh} {A : Av} {σ : Gm} {e : Ev} {E : Dn} {Fs : Fp} {t : Ex} {Q : Re → Dn → Prop} {rs : List Re} {vs : List V} {G : List Nat} (w : WE C t E Q) (S : St W h A σ e E Fs) (T : RRL h A σ e rs vs G) (fr : Fr W A Fs G) :
    Run C.X W h A σ e (fun v h' A' σ' E' Fs' => ∃ r G1, RRL h' A' σ' e (r :: rs) (v :: vs) (G1 ++ G) ∧ Fr W A' Fs' (G1 ++ G) ∧ Q r E') (ev (cf C) t e h) := by
  refine (Run.pend (w.run (plus W G) h A σ e Fs (S.aside fr)) S T fr).mono ?_
  rintro v h' A' σ' E' Fs' t' S' ⟨⟨r, G1, a, b, q⟩, T', f', _, _⟩
  exact ⟨r, G1, ⟨v, vs, G1, G, rfl, a, T', rfl⟩, f'.two b, q⟩
theorem WE.pend0 {C : DC} {W : Av} {h : Hh} {A : Av} {σ : Gm} {e : Ev} {E : Dn} {Fs : Fp} {t : Ex} {Q : Re → Dn → Prop} (w : WE C t E Q) (S : St W h A σ e E Fs) :
    Run C.X W h A σ e (fun v h' A' σ' E' Fs' => ∃ r G1, RRL h' A' σ' e [r] [v] G1 ∧ Fr W A' Fs' G1 ∧ Q r E') (ev (cf C) t e h) := by
  refine (w.run W h A σ e Fs S).mono ?_
  rintro v h' A' σ' E' Fs' t' S' ⟨r, G1, a, b, q⟩
  exact ⟨r, G1, ⟨v, [], G1, [], rfl, a, ⟨rfl, rfl⟩, by simp⟩, b, q⟩
theorem RRL.one {h : Hh} {A : Av} {σ : Gm} {e : Ev} {r : Re} {v : V} {G : List Nat} (T : RRL h A σ e [r] [v] G) : RR h A σ e r v G := by
  obtain ⟨x', ws, G3, G4, e1, zx, ⟨rfl, rfl⟩, e2⟩ := T
  cases e1
  rw [List.append_nil] at e2
  subst e2
  exact zx
theorem RRL.two {h : Hh} {A : Av} {σ : Gm} {e : Ev} {r q : Re} {v u : V} {G : List Nat} (T : RRL h A σ e [r, q] [v, u] G) : ∃ G1 G2, G = G1 ++ G2 ∧ RR h A σ e r v G1 ∧ RR h A σ e q u G2 := by
  obtain ⟨x', ws, G3, G4, e1, zx, T, e2⟩ := T
  cases e1
  exact ⟨G3, G4, e2, zx, T.one⟩
theorem RRL.three {h : Hh} {A : Av} {σ : Gm} {e : Ev} {r q s : Re} {v u w : V} {G : List Nat} (T : RRL h A σ e [r, q, s] [v, u, w] G) : ∃ G1 G2 G3, G = G1 ++ (G2 ++ G3) ∧ RR h A σ e r v G1 ∧ RR h A σ e q u G2 ∧ RR h A σ e s w G3 := by
  obtain ⟨x', ws, G3, G4, e1, zx, T, e2⟩ := T
  cases e1
  obtain ⟨G1, G2, e3, a, b⟩ := T.two
  exact ⟨G3, G1, G2, by rw [e2, e3], zx, a, b⟩
structure WS (C : DC) (P : List Nat) (s : Sm) (E : Dn) (Q : Fd → Dn → Prop) : Prop where
  run : ∀ (W : Av) (h : Hh) (A : Av) (σ : Gm) (e : Ev) (Fs : Fp), St W h A σ e E Fs → RunS C.X P W h A σ e Q (ex (cf C) s e h)
structure WB (C : DC) (P : List Nat) (s : Sms) (E : Dn) (Q : Fd → Dn → Prop) : Prop where
  run : ∀ (W : Av) (h : Hh) (A : Av) (σ : Gm) (e : Ev) (Fs : Fp), St W h A σ e E Fs → RunS C.X P W h A σ e Q (exs (cf C) s e h)
theorem WB_mono {C : DC} {P : List Nat} {s : Sms} {E : Dn} {Q Q1 : Fd → Dn → Prop} (w : WB C P s E Q) (m : ∀ r E, Q r E → Q1 r E) : WB C P s E Q1 := ⟨fun W h A σ e Fs S => (w.run W h A σ e Fs S).mono m⟩
theorem WS_mono {C : DC} {P : List Nat} {s : Sm} {E : Dn} {Q Q1 : Fd → Dn → Prop} (w : WS C P s E Q) (m : ∀ r E, Q r E → Q1 r E) : WS C P s E Q1 := ⟨fun W h A σ e Fs S => (w.run W h A σ e Fs S).mono m⟩
theorem WE_mono {C : DC} {e : Ex} {E : Dn} {Q Q1 : Re → Dn → Prop} (w : WE C e E Q) (m : ∀ r E, Q r E → Q1 r E) : WE C e E Q1 := w.mono m
structure kon (C : DC) (P : List Nat) (r : Sms) (Q : Fd → Dn → Prop) (f : Fd) (E : Dn) : Prop where
  go : match f with
    | .nx => WB C P r E Q
    | .rt x => Q (.rt x) E
    | .bk => Q .bk E
    | .ct => Q .ct E
/-! values to names -/
def setvK : List Nat → List Va → List Nat → Dn → (Dn → Prop) → Prop
  | [], [], _, E, K => K E
  | i :: is, d :: ds, P, E, K => decide (i ∈ P) = false ∧ zK E i (some d) fun E' => setvK is ds P E' K
  | _, _, _, _, _ => False
structure zV (is : List Nat) (vs : List Va) (P : List Nat) (E : Dn) (K : Dn → Prop) : Prop where
  go : setvK is vs P E K
structure zS (is : List Nat) (ds : List PyData) (P : List Nat) (E : Dn) (K : Dn → Prop) : Prop where
  go : setvK is (ds.map .fz) P E K
section
variable {P : List Nat} {E : Dn} {K : Dn → Prop}
theorem ess_nil (k : K E) : zS [] [] P E K := ⟨k⟩
theorem ess_cons {i : Nat} {is : List Nat} {d : PyData} {ds : List PyData} (hp : decide (i ∈ P) = false) (k : zK E i (some (.fz d)) fun E' => zS is ds P E' K) : zS (i :: is) (d :: ds) P E K := ⟨⟨hp, zK_mono k fun _ z => z.go⟩⟩
theorem esv_nil (k : K E) : zV [] [] P E K := ⟨k⟩
theorem esv_cons {i : Nat} {is : List Nat} {d : Va} {ds : List Va} (hp : decide (i ∈ P) = false) (k : zK E i (some d) fun E' => zV is ds P E' K) : zV (i :: is) (d :: ds) P E K := ⟨⟨hp, zK_mono k fun _ z => z.go⟩⟩
end
/-- values in a row and what they own -/
def VaL (h : Hh) (A : Av) (σ : Gm) : List Va → List V → List Nat → Prop
  | [], vs, F => vs = [] ∧ F = []
  | va :: vas, vs, F => ∃ (v : V) (ws : List V) (F1 F2 : List Nat), vs = v :: ws ∧ VaR h A σ va v F1 ∧ VaL h A σ vas ws F2 ∧ F = F1 ++ F2
theorem VaL.fz {h : Hh} {A : Av} {σ : Gm} : ∀ {ds : List PyData} {xs : List V}, FzL h A ds xs → VaL h A σ (ds.map .fz) xs []
  | [], xs, z => by
    simp only [FzL] at z
    exact ⟨z, rfl⟩
  | d :: ds, xs, z => by
    simp only [FzL] at z
    obtain ⟨x, r, rfl, a, b⟩ := z
    exact ⟨x, r, [], [], rfl, ⟨a, rfl⟩, VaL.fz b, rfl⟩
theorem VaL.tr {h : Hh} {A : Av} {σ : Gm} : ∀ {ts : List Tr} {xs : List V} {F : List Nat}, TrL h A σ ts xs F → VaL h A σ (ts.map vaOf) xs F
  | [], xs, F, z => by
    simp only [TrL] at z
    exact z
  | t :: ts, xs, F, z => by
    simp only [TrL] at z
    obtain ⟨x, r, F1, F2, rfl, a, b, rfl⟩ := z
    exact ⟨x, r, F1, F2, rfl, vaOf_ok a, VaL.tr b, rfl⟩
theorem VaL.ok {h h' : Hh} {A A' : Av} {σ σ' : Gm} (k : Ok h A h' A') (g : Sub σ σ') : ∀ {vas : List Va} {vs : List V} {F : List Nat}, VaL h A σ vas vs F → (∀ b ∈ F, h'[b]? = h[b]?) → VaL h' A' σ' vas vs F
  | [], vs, F, z, s => z
  | va :: vas, vs, F, ⟨v, ws, F1, F2, e1, a, b, e2⟩, s => by
    subst e1 e2
    exact ⟨v, ws, F1, F2, rfl, a.ok k g fun c hc => s c (by simp [hc]), VaL.ok k g b fun c hc => s c (by simp [hc]), rfl⟩
section
variable {W : Av} {h : Hh} {A : Av} {σ : Gm}
theorem tn_refl'' {e : Ev} {E : Dn} {Fs : Fp} (S : St W h A σ e E Fs) (i : Nat) : Tn (but W Fs i) h A σ h A σ := Tn.refl fun b z => z.elim (S.wa b) fun ⟨j, _, z⟩ => (S.ac j b z).1
/-- one name takes a value -/
theorem St.take {e : Ev} {E : Dn} {Fs : Fp} (S : St W h A σ e E Fs) {i : Nat} {va : Va} {v : V} {F G : List Nat} (l : i < E.length) (z : VaR h A σ va v F) (f : Fr W A Fs (F ++ G)) :
    St W h A σ (e.set i (some v)) (E.set i (some va)) (updF Fs i F) ∧ Fr W A (updF Fs i F) G := by
  refine ⟨S.put (tn_refl'' S i) l z f.left.nd f.left.ac (fun j _ b hb => f.left.no j b hb) S.lt S.fin, Fr.mk f.right.nd f.right.ac fun j b hb y => ?_⟩
  by_cases q : j = i
  · subst q
    rw [updF_same] at y
    exact (List.nodup_append.mp f.nd).2.2 b y b hb rfl
  · rw [updF_ne q] at y
    exact f.right.no j b hb y
theorem setv_ok {P : List Nat} : ∀ {is : List Nat} {vas : List Va} {vs : List V} {F : List Nat} {e : Ev} {E : Dn} {Fs : Fp} {K : Dn → Prop}, St W h A σ e E Fs → VaL h A σ vas vs F → Fr W A Fs F → setvK is vas P E K →
    ∃ e' E' Fs', setAll is vs e = some e' ∧ St W h A σ e' E' Fs' ∧ (∀ i ∈ P, e'[i]? = e[i]?) ∧ K E'
  | [], [], vs, F, e, E, Fs, K, S, z, f, k => by
    obtain ⟨rfl, rfl⟩ := z
    exact ⟨e, E, Fs, rfl, S, fun _ _ => rfl, k⟩
  | i :: is, va :: vas, vs, F, e, E, Fs, K, S, ⟨v, ws, F1, F2, e1, a, b, e2⟩, f, ⟨hp, k⟩ => by
    subst e1 e2
    obtain ⟨S1, f1⟩ := S.take k.lt a f
    obtain ⟨e', E', Fs', h1, h2, h3, h4⟩ := setv_ok S1 b f1 k.go
    refine ⟨e', E', Fs', h1, h2, fun j hj => (h3 j hj).trans ?_, h4⟩
    refine List.getElem?_set_ne fun q => ?_
    subst q
    exact of_decide_eq_false hp hj
  | [], _ :: _, vs, F, e, E, Fs, K, S, z, f, k => k.elim
  | _ :: _, [], vs, F, e, E, Fs, K, S, z, f, k => k.elim
end
section
variable {C : DC} {P : List Nat} {E : Dn} {Q : Fd → Dn → Prop} {a b c : Ex} {es : Exs}
theorem ex_nil (k : Q .nx E) : WB C P .nil E Q := ⟨fun W h A σ e Fs S => by
  simp only [HI.exs]
  exact RunS.nx S k⟩
theorem ex_cons {s : Sm} {r : Sms} (w : WS C P s E (kon C P r Q)) : WB C P (.cons s r) E Q := ⟨fun W h A σ e Fs S => by
  simp only [HI.exs]
  have r1 := w.run W h A σ e Fs S
  unfold bd
  generalize ex (cf C) s e h = o at r1
  match o, r1 with
  | some (.ok fl, h'), ⟨A', σ', e', E', Fs', f, t', s, pr, flr, k⟩ =>
    cases f with
    | nx =>
      have flr : fl = .nx e' := flr
      subst flr
      exact RunS.after t' pr ((show WB C P r E' Q from k.go).run W h' A' σ' e' Fs' s)
    | bk =>
      have flr : fl = .bk e' := flr
      subst flr
      exact ⟨A', σ', e', E', Fs', .bk, t', s, pr, rfl, k.go⟩
    | ct =>
      have flr : fl = .ct e' := flr
      subst flr
      exact ⟨A', σ', e', E', Fs', .ct, t', s, pr, rfl, k.go⟩
    | rt x =>
      obtain ⟨v, G, rfl, z⟩ := flr
      exact ⟨A', σ', e', E', Fs', .rt x, t', s, pr, ⟨v, G, rfl, z⟩, k.go⟩
  | some (.ex c fs, h'), r => exact r⟩
theorem ex_nx {r : Sms} (w : WB C P r E Q) : kon C P r Q .nx E := ⟨w⟩
theorem ex_rt {r : Sms} {x : Re} (k : Q (.rt x) E) : kon C P r Q (.rt x) E := ⟨k⟩
theorem ex_bk {r : Sms} (k : Q .bk E) : kon C P r Q .bk E := ⟨k⟩
theorem ex_ct {r : Sms} (k : Q .ct E) : kon C P r Q .ct E := ⟨k⟩
theorem ex_asg {i : Nat} (w : WE C a E fun r E1 => ResQ r E1 fun v E2 => (decide (i ∈ P) = false ∧ zK E2 i (some v) (Q .nx))) : WS C P (.asg (.nm i) a) E Q := ⟨fun W h A σ e Fs S => by
  simp only [HI.ex]
  refine Run.bindS (w.pend0 S) ?_
  rintro x h1 A1 σ1 E1 Fs1 t1 S1 ⟨r, G1, T, f1, w1⟩
  obtain ⟨A2, E2, Fs2, va, F, t2, S2, z, f2, hp, k⟩ := w1.go W h1 A1 σ1 e Fs1 x G1 S1 T.one f1
  have S3 := (S2.take (G := []) k.lt z (by rw [List.append_nil]; exact f2)).1
  refine RunS.after t2 (fun _ _ => rfl) ⟨A2, σ1, _, _, _, .nx, Tn.refl S2.wa, S3, fun j hj => List.getElem?_set_ne fun q => ?_, rfl, k.go⟩
  subst q
  exact of_decide_eq_false hp hj⟩
structure TupQ (r : Re) (K : List PyData → Prop) : Prop where
  go : ∃ ds, r = .fz (.tuple ds) ∧ K ds
theorem q_tup {ds : List PyData} {K : List PyData → Prop} (k : K ds) : TupQ (.fz (.tuple ds)) K := ⟨ds, rfl, k⟩
structure TupP (is : List Nat) (P : List Nat) (r : Re) (E : Dn) (K : Dn → Prop) : Prop where
  go : (∃ ds, r = .fz (.tuple ds) ∧ zS is ds P E K) ∨ ∃ n ts, r = .tr (.tup n ts) ∧ zV is (ts.map vaOf) P E K
theorem tp_d {is : List Nat} {ds : List PyData} {K : Dn → Prop} (k : zS is ds P E K) : TupP is P (.fz (.tuple ds)) E K := ⟨.inl ⟨ds, rfl, k⟩⟩
theorem tp_t {is : List Nat} {n : Nat} {ts : List Tr} {K : Dn → Prop} (k : zV is (ts.map vaOf) P E K) : TupP is P (.tr (.tup n ts)) E K := ⟨.inr ⟨n, ts, rfl, k⟩⟩
theorem ex_asgT {is : List Nat} (w : WE C a E fun r E1 => TupP is P r E1 (Q .nx)) : WS C P (.asg (.tp is) a) E Q := ⟨fun W h A σ e Fs S => by
  simp only [HI.ex]
  refine Run.bindS (w.pend0 S) ?_
  rintro x h1 A1 σ1 E1 Fs1 t1 S1 ⟨r, G1, T, f1, w1⟩
  have z := T.one
  have fin : ∀ (aa : Nat) (xs : List V) (vas : List Va) (F : List Nat), x = .ref aa → seqT h1 aa = some xs → VaL h1 A1 σ1 vas xs F → Fr W A1 Fs1 F → setvK is vas P E1 (Q .nx) → RunS C.X P W h1 A1 σ1 e Q (bd (look (HI.asg (.tp is) x e)) (fun e1 => rt (.nx e1)) h1) := fun aa xs vas F hx hs zl fr k => by
    obtain ⟨e', E', Fs', q1, S', pr, kk⟩ := setv_ok S1 zl fr k
    have : look (HI.asg (.tp is) x e) h1 = some (.ok e', h1) := by
      subst hx
      show (match seqT h1 aa with | some xs => setAll is xs e | none => none).map _ = _
      rw [hs]
      dsimp only
      rw [q1]; rfl
    rw [HI.bd_eq this]
    exact ⟨A1, σ1, e', E', Fs', .nx, Tn.refl S1.wa, S', pr, rfl, kk⟩
  rcases w1.go with ⟨ds, rfl, k⟩ | ⟨n, ts, rfl, k⟩
  · have fz := z.1
    simp only [Fz] at fz
    obtain ⟨aa, xs, hx, hs, fl⟩ := fz
    exact fin aa xs _ [] hx hs (VaL.fz fl) Fr.nil k.go
  · have zt : TrR h1 A1 σ1 (.tup n ts) x G1 := z
    simp only [TrR] at zt
    obtain ⟨aa, xs, hx, hs, _, tl⟩ := zt
    exact fin aa xs _ G1 hx hs (VaL.tr tl) f1 k.go⟩
theorem ex_ex (w : WE C a E fun _ E1 => Q .nx E1) : WS C P (.ex a) E Q := ⟨fun W h A σ e Fs S => by
  simp only [HI.ex]
  refine Run.bindS (w.pend0 S) ?_
  rintro x h1 A1 σ1 E1 Fs1 t1 S1 ⟨r, G1, T, f1, w1⟩
  exact RunS.nx S1 w1⟩
theorem ex_ite {s t : Sms} (w : WE C c E fun r E1 => TruQ r E1 fun k => zI k (WB C P s E1 Q) (WB C P t E1 Q)) : WS C P (.ite c s t) E Q := ⟨fun W h A σ e Fs S => by
  simp only [HI.ex, evT]
  have as : ∀ f : Bool → Mo Fl, bd (bd (ev (cf C) c e) tru) f h = bd (ev (cf C) c e) (fun x => bd (tru x) f) h := fun f => by
    unfold bd
    cases ev (cf C) c e h with
    | none => rfl
    | some p => rcases p with ⟨r, h1⟩; cases r <;> rfl
  rw [as]
  refine Run.bindS (w.pend0 S) ?_
  rintro x h1 A1 σ1 E1 Fs1 t1 S1 ⟨r, G1, T, f1, ⟨d, k, m, tr, q⟩⟩
  rw [HI.bd_eq (tru_ok S1 T.one m tr)]
  cases k with
  | true => exact (zI_t q).run W h1 A1 σ1 e Fs1 S1
  | false => exact (zI_f q).run W h1 A1 σ1 e Fs1 S1⟩
theorem ex_ret (w : WE C a E fun r E1 => Q (.rt r) E1) : WS C P (.ret a) E Q := ⟨fun W h A σ e Fs S => by
  simp only [HI.ex]
  refine Run.bindS (w.pend0 S) ?_
  rintro x h1 A1 σ1 E1 Fs1 t1 S1 ⟨r, G1, T, f1, w1⟩
  exact ⟨A1, σ1, e, E1, Fs1, .rt r, Tn.refl S1.wa, S1, fun _ _ => rfl, ⟨x, G1, rfl, T.one, f1⟩, w1⟩⟩
theorem ex_brk (k : Q .bk E) : WS C P .brk E Q := ⟨fun W h A σ e Fs S => by
  simp only [HI.ex]
  exact ⟨A, σ, e, E, Fs, .bk, Tn.refl S.wa, S, fun _ _ => rfl, rfl, k⟩⟩
theorem ex_cont (k : Q .ct E) : WS C P .cont E Q := ⟨fun W h A σ e Fs S => by
  simp only [HI.ex]
  exact ⟨A, σ, e, E, Fs, .ct, Tn.refl S.wa, S, fun _ _ => rfl, rfl, k⟩⟩
theorem ex_pass (k : Q .nx E) : WS C P .pass E Q := ⟨fun W h A σ e Fs S => by
  simp only [HI.ex]
  exact RunS.nx S k⟩
/-! results taken in a row -/
structure RessQ (rs : List Re) (E : Dn) (K : List Va → Dn → Prop) : Prop where
  go : ∀ (W : Av) (h : Hh) (A : Av) (σ : Gm) (e : Ev) (Fs : Fp) (vs : List V) (G : List Nat), St W h A σ e E Fs → RRL h A σ e rs vs G → Fr W A Fs G → ∃ A' E' Fs' vas F, Tn W h A σ h A' σ ∧ St W h A' σ e E' Fs' ∧ VaL h A' σ vas vs F ∧ Fr W A' Fs' F ∧ K vas E'
theorem rs_nil {K : List Va → Dn → Prop} (k : K [] E) : RessQ [] E K := ⟨fun W h A σ e Fs v G S z f => ⟨A, E, Fs, [], [], Tn.refl S.wa, S, ⟨z.1, rfl⟩, Fr.nil, k⟩⟩
theorem rs_cons {r : Re} {rs : List Re} {K : List Va → Dn → Prop} (k : ResQ r E fun d E1 => RessQ rs E1 fun ds E2 => K (d :: ds) E2) : RessQ (r :: rs) E K := ⟨fun W h A σ e Fs v G S z f => by
  obtain ⟨x, ws, G1, G2, rfl, a, b, rfl⟩ := z
  have f1 : Fr (plus W G2) A Fs G1 := Fr.mk (List.nodup_append.mp f.nd).1 (fun b hb => ⟨(f.ac b (by simp [hb])).1, fun y => y.elim (f.ac b (by simp [hb])).2 fun y => (List.nodup_append.mp f.nd).2.2 b hb b y rfl⟩) fun i b hb => f.no i b (by simp [hb])
  obtain ⟨A1, E1, Fs1, d, H1, t1, S1, g1, fr1, k1⟩ := k.go (plus W G2) h A σ e Fs x G1 (S.aside f.right) a f1
  have b1 := b.ok (t1.ok S.lt) Sub.refl fun _ _ => rfl
  have f2 : Fr (plus W H1) A1 Fs1 G2 := Fr.mk f.right.nd (fun b hb => ⟨t1.keep b (.inr hb), fun y => y.elim (f.right.ac b hb).2 fun y => (fr1.ac b y).2 (.inr hb)⟩) fun i b hb y => (S1.ac i b y).2 (.inr hb)
  have fr1' : Fr W A1 Fs1 H1 := Fr.mk fr1.nd (fun b hb => ⟨(fr1.ac b hb).1, fun y => (fr1.ac b hb).2 (.inl y)⟩) fr1.no
  obtain ⟨A2, E2, Fs2, ds, H2, t2, S2, g2, fr2, k2⟩ := k1.go (plus W H1) h A1 σ e Fs1 ws G2 (S1.back.aside fr1') b1 f2
  exact ⟨A2, E2, Fs2, d :: ds, H1 ++ H2, t1.back.trans t2.back, S2.back, ⟨x, ws, H1, H2, rfl, g1.ok (t2.ok S1.lt) Sub.refl fun _ _ => rfl, g2, rfl⟩, ((fr1'.still t2 S2).two fr2).perm List.perm_append_comm, k2⟩⟩
theorem ex_par {is : List Nat} (w : WA C es E fun rs E1 => RessQ rs E1 fun vs E2 => zV is vs P E2 (Q .nx)) : WS C P (.par is es) E Q := ⟨fun W h A σ e Fs S => by
  simp only [HI.ex]
  refine Run.bindS (w.run W h A σ e Fs S) ?_
  rintro vs h1 A1 σ1 E1 Fs1 t1 S1 ⟨rs, G1, T, f1, w1⟩
  obtain ⟨A2, E2, Fs2, vas, F, t2, S2, z, f2, k⟩ := w1.go W h1 A1 σ1 e Fs1 vs G1 S1 T f1
  obtain ⟨e', E', Fs', q1, S', pr, kk⟩ := setv_ok S2 z f2 k.go
  have : opt (setAll is vs e) h1 = some (.ok e', h1) := by
    unfold opt
    rw [q1]; rfl
  rw [HI.bd_eq this]
  exact RunS.after t2 (fun _ _ => rfl) ⟨A2, σ1, e', E', Fs', .nx, Tn.refl S2.wa, S', pr, rfl, kk⟩⟩
/-! stores -/
theorem setD_put {h : Hh} {A : Av} {k d x x' : PyData} {o : Ob} {aa : Nat} {y v : V} (g : h[aa]? = some o) (c : Cn h A x o) (w : Vw h A k y) (f : Fz h A d v) (m : setD k d x = some x') : ∃ ob, setAt (.ref aa) y v h = some (.ok (), h.set aa ob) ∧ Mu ob = true ∧ Cn h A x' ob := by
  unfold setD at m
  split at m
  · rename_i kk xs
    obtain ⟨j, hj, rfl⟩ := Option.map_eq_some_iff.mp m
    obtain ⟨us, rfl, ru⟩ := c
    have := vw_int w
    subst this
    refine ⟨.lst (us.set j v), ?_, rfl, us.set j v, rfl, ru.set f j⟩
    show (match lstAt h aa with | some xs => (ixN xs.length kk).map fun j => ((Rs.ok () : Rs Unit), h.set aa (.lst (xs.set j v))) | none => none) = _
    rw [lstAt_of g]
    dsimp only
    rw [show ixN us.length kk = some j by rw [← ru.len]; exact hj]; rfl
  · cases m
theorem ex_asgS {o i : Ex} (w : WE C a E fun r E1 => WE C o E1 fun q E2 => WE C i E2 fun y E3 => DatQ y E3 fun k => FrzQ r E3 fun d E4 => ModR q E4 (setD k d) (Q .nx)) : WS C P (.asgSub o i a) E Q := ⟨fun W h A σ e Fs S => by
  simp only [HI.ex]
  refine Run.bindS (w.pend0 S) ?_
  rintro v h1 A1 σ1 E1 Fs1 t1 S1 ⟨r, G1, T1, f1, w1⟩
  refine Run.bindS (w1.pend S1 T1 f1) ?_
  rintro x h2 A2 σ2 E2 Fs2 t2 S2 ⟨q, G2, T2, f2, w2⟩
  refine Run.bindS (w2.pend S2 T2 f2) ?_
  rintro y h3 A3 σ3 E3 Fs3 t3 S3 ⟨ry, G3, T3, f3, w3⟩
  obtain ⟨H1, H2, H3, eG, zy, zq, zr⟩ := T3.three
  rw [eG] at f3
  obtain ⟨k, ek, w4⟩ := w3
  have wk := dat_ok (ro := false) S3 zy ek
  have fq : Fr W A3 Fs3 H2 := f3.right.left
  have fr : Fr (plus W H2) A3 Fs3 H3 := Fr.mk f3.right.right.nd (fun b hb => ⟨(f3.right.right.ac b hb).1, fun z => z.elim (f3.right.right.ac b hb).2 fun z => (List.nodup_append.mp f3.right.nd).2.2 b z b hb rfl⟩) f3.right.right.no
  obtain ⟨A4, E4, Fs4, d, t4, S4, fz, md⟩ := w4.go (plus W H2) h3 A3 σ3 e Fs3 v H3 (S3.aside fq) zr fr
  have zq4 := zq.ok (t4.ok S3.lt) t4.gm fun _ _ => rfl
  have fq4 := fq.still t4 S4
  obtain ⟨aa, ob, x0, x', rfl, g, c, hf, go⟩ := md.put S4.back zq4 fq4
  have wk4 : Vw h3 A4 k y := by
    have : scal k = true := by
      unfold setD at hf
      split at hf
      · rfl
      · cases hf
    cases k with
    | int i => exact Fz.scal (h := h3) (A := A3) wk rfl
    | none => exact Fz.scal (h := h3) (A := A3) wk rfl
    | bool b => exact Fz.scal (h := h3) (A := A3) wk rfl
    | str b => exact Fz.scal (h := h3) (A := A3) wk rfl
    | _ => cases this
  obtain ⟨ob', es, mu, c'⟩ := setD_put g c wk4 fz hf
  obtain ⟨E5, Fs5, t5, S5, kq⟩ := go ob' mu c'
  rw [HI.bd_eq es]
  exact RunS.after (t4.back.trans t5) (fun _ _ => rfl) (RunS.nx S5 kq)⟩
def atR (E : Dn) (q : Re) (k : PyData) : Option PyData := match tgT E q with
  | some (.own (.list xs)) => indexD (.list xs) k
  | _ => none
theorem ex_aug {i : Nat} {o : Op2} {x : PyData} (q : slotV E i = some (.fz x)) (w : WE C a E fun r E1 => DatQ r E1 fun y => ∃ v, intD o x y = some v ∧ decide (i ∈ P) = false ∧ zK E1 i (some (.fz v)) (Q .nx)) : WS C P (.aug i o a) E Q := ⟨fun W h A σ e Fs S => by
  simp only [HI.ex]
  obtain ⟨u, ev, r⟩ := S.get q
  have : getS e i h = some (.ok u, h) := by
    unfold getS
    rw [ev]; rfl
  rw [HI.bd_eq this]
  have fx : ∀ {h' A'}, scal x = true → Fz h' A' x u := fun s => Fz.scal r.1 s
  refine Run.bindS (w.pend0 S) ?_
  rintro y h1 A1 σ1 E1 Fs1 t1 S1 ⟨r, G1, T1, f1, ⟨d, ed, v, hv, hp, k⟩⟩
  have sx : scal x = true := by
    cases x <;> first | rfl | cases hv
  obtain ⟨v', es, fv⟩ := intD_ok (Vw.of (fx (h' := h1) (A' := A1) sx)) (dat_ok (ro := false) S1 T1.one ed) hv
  have : augO o u y h1 = some (.ok v', h1) := es
  rw [HI.bd_eq this]
  have S3 := (S1.take (va := .fz v) (F := []) (G := []) k.lt ⟨fv, rfl⟩ Fr.nil).1
  refine ⟨A1, σ1, _, _, _, .nx, Tn.refl S1.wa, S3, fun j hj => List.getElem?_set_ne fun q => ?_, rfl, k.go⟩
  subst q
  exact of_decide_eq_false hp hj⟩
end
end HJ

set_option maxRecDepth 100000
set_option maxHeartbeats 4000000
/-! fields stored; parts by an operator -/
namespace HJ
open PySem L2 HI
def putFl (f : Str) (t : Tr) : List (Str × Tr) → List (Str × Tr)
  | [] => [(f, t)]
  | (g, s) :: r => if g = f then (g, t) :: r else (g, s) :: putFl f t r
def fzF : List (Str × PyData) → List (Str × Tr)
  | [] => []
  | (f, d) :: r => (f, .fz d) :: fzF r
def insT : Tr → Option (Nat × List (Str × Tr))
  | .ins _ c fs => some (c, fs)
  | .own d => match insOf d with
    | some (c, fs) => some (c, fzF fs)
    | none => none
  | _ => none
structure ModF (I : List Ci) (q : Re) (E : Dn) (f : Str) (t : Tr) (K : Dn → Prop) : Prop where
  go : ∃ t0 c fs, tgT E q = some t0 ∧ insT t0 = some (c, fs) ∧ fldOf I c f = true ∧ fs.length < 1000 ∧ ∀ n, tgK E q (.ins n c (putFl f t fs)) K
theorem mf_i {I : List Ci} {q : Re} {E : Dn} {f : Str} {t t0 : Tr} {c : Nat} {fs : List (Str × Tr)} {K : Dn → Prop} (e1 : tgT E q = some t0) (e2 : insT t0 = some (c, fs)) (e3 : fldOf I c f = true) (e4 : fs.length < 1000) (k : ∀ n, tgK E q (.ins n c (putFl f t fs)) K) : ModF I q E f t K :=
  ⟨t0, c, fs, e1, e2, e3, e4, k⟩
theorem TrF.fz {h : Hh} {A : Av} {σ : Gm} : ∀ {fs : List (Str × PyData)} {vs : List (Str × V)}, FzF h A (encF fs) vs → TrF h A σ (fzF fs) vs []
  | [], vs, z => by
    simp only [encF, FzF] at z
    subst z
    simp [fzF, TrF]
  | (f, d) :: fs, vs, z => by
    simp only [encF, FzF] at z
    obtain ⟨g, x, fr, rfl, e, a, b⟩ := z
    cases e
    simp only [fzF, TrF]
    exact ⟨x, fr, [], [], rfl, by simp only [TrR]; exact ⟨a, trivial⟩, TrF.fz b, rfl⟩
theorem TrF.len {h : Hh} {A : Av} {σ : Gm} : ∀ {fs : List (Str × Tr)} {vs : List (Str × V)} {F : List Nat}, TrF h A σ fs vs F → fs.length = vs.length
  | [], vs, F, z => by
    simp only [TrF] at z
    rw [z.1]; rfl
  | (f, t) :: fs, vs, F, z => by
    simp only [TrF] at z
    obtain ⟨x, r, F1, F2, rfl, a, b, rfl⟩ := z
    rw [List.length_cons, List.length_cons, TrF.len b]
theorem TrF.put {h : Hh} {A : Av} {σ : Gm} {f : Str} {t : Tr} {y : V} {G : List Nat} (zt : TrR h A σ t y G) : ∀ {fs : List (Str × Tr)} {vs : List (Str × V)} {F : List Nat}, TrF h A σ fs vs F → ∃ F' D, TrF h A σ (putFl f t fs) (putF f y vs) F' ∧ (F' ++ D).Perm (F ++ G)
  | [], vs, F, z => by
    simp only [TrF] at z
    obtain ⟨rfl, rfl⟩ := z
    refine ⟨G, [], ?_, by simp⟩
    show TrF h A σ [(f, t)] [(f, y)] G
    simp only [TrF]
    exact ⟨y, [], G, [], rfl, zt, by simp, by simp⟩
  | (g, s) :: fs, vs, F, z => by
    simp only [TrF] at z
    obtain ⟨x, r, F1, F2, rfl, a, b, rfl⟩ := z
    show ∃ F' D, TrF h A σ (if g = f then (g, t) :: fs else (g, s) :: putFl f t fs) (if g = f then (g, y) :: r else (g, x) :: putF f y r) F' ∧ _
    by_cases hg : g = f
    · rw [if_pos hg, if_pos hg]
      refine ⟨G ++ F2, F1, ?_, ?_⟩
      · simp only [TrF]
        exact ⟨y, r, G, F2, rfl, zt, b, rfl⟩
      · refine (List.perm_append_comm.trans ?_)
        rw [← List.append_assoc, List.append_assoc F1 F2 G]
        rw [List.append_assoc]
        exact List.perm_append_comm.append_left F1
    · rw [if_neg hg, if_neg hg]
      obtain ⟨F', D, q, p⟩ := TrF.put zt b
      refine ⟨F1 ++ F', D, ?_, ?_⟩
      · simp only [TrF]
        exact ⟨x, _, F1, F', rfl, a, q, rfl⟩
      · rw [List.append_assoc, List.append_assoc]
        exact p.append_left F1
theorem insT_ok {h : Hh} {A : Av} {σ : Gm} {t : Tr} {c : Nat} {fs : List (Str × Tr)} {x : V} {F : List Nat} (e : insT t = some (c, fs)) (z : TrR h A σ t x F) : ∃ a vs G, x = .ref a ∧ h[a]? = some (.ins c vs) ∧ TrF h A σ fs vs G ∧ F = a :: G := by
  cases t with
  | ins n c' fs' =>
    cases e
    simp only [TrR] at z
    obtain ⟨a, vs, G, rfl, g, _, r, rfl⟩ := z
    exact ⟨a, vs, G, rfl, g, r, rfl⟩
  | own d =>
    have e : (match insOf d with | some (c, fs) => some (c, fzF fs) | none => none) = some (c, fs) := e
    split at e
    · rename_i c' fs' hi
      cases e
      obtain ⟨_, a, vs, rfl, g, ff, _⟩ := insOf_ok (TrR.own_vw z) hi
      simp only [TrR] at z
      obtain ⟨a', o, e1, _, _, rfl⟩ := z
      cases e1
      exact ⟨a, vs, [], rfl, g, TrF.fz ff, rfl⟩
    · cases e
  | _ => cases e
section
variable {W : Av} {h : Hh} {A : Av} {σ : Gm} {e : Ev} {E : Dn} {Fs : Fp}
theorem insn_put (S : St W h A σ e E Fs) {I : List Ci} {r : Re} {x y : V} {f : Str} {G Gx : List Nat} {t : Tr} {K : Dn → Prop} (z : RR h A σ e r x G) (fr : Fr W A Fs (G ++ Gx)) (zt : TrR h A σ t y Gx) (md : ModF I r E f t K) :
    ∃ a c vs, x = .ref a ∧ h[a]? = some (.ins c vs) ∧ fldOf I c f = true ∧ vs.length < 1000 ∧ ∃ σ' E' Fs', Tn W h A σ (h.set a (.ins c (putF f y vs))) A σ' ∧ St W (h.set a (.ins c (putF f y vs))) A σ' e E' Fs' ∧ K E' := by
  obtain ⟨t0, c, fs, m, hi, hf, hlen, k⟩ := md
  obtain ⟨F0, zt0, nd, ac, org, go⟩ := S.mod z fr.left m
  obtain ⟨a, vs, H, rfl, g, r1, rfl⟩ := insT_ok hi zt0
  obtain ⟨n, σ', hn, gs, fin⟩ := S.num (.ins c (putF f y vs))
  obtain ⟨tn, lt⟩ := tn_set S (ob := .ins c (putF f y vs)) (F0 := a :: H) (σ' := σ') g (ac a (by simp)).1 (by simp) rfl gs
  obtain ⟨H', D, r2, pm⟩ := TrF.put (f := f) zt r1
  have inH' : ∀ b ∈ H', b ∈ H ∨ b ∈ Gx := fun b hb => List.mem_append.mp (pm.mem_iff.mp (by simp [hb]))
  have ndHG : (H ++ Gx).Nodup := List.nodup_append.mpr ⟨(List.nodup_cons.mp nd).2, fr.right.nd, fun b hb c hc q => by
    subst q
    rcases org b (by simp [hb]) with y | ⟨i, y⟩
    · exact (List.nodup_append.mp fr.nd).2.2 b y b hc rfl
    · exact fr.right.no i b hc y⟩
  have ane : a ∉ H' := fun y => by
    rcases inH' a y with y | y
    · exact (List.nodup_cons.mp nd).1 y
    · rcases org a (by simp) with q | ⟨i, q⟩
      · exact (List.nodup_append.mp fr.nd).2.2 a q a y rfl
      · exact fr.right.no i a y q
  have sm : ∀ b ∈ H', (h.set a (.ins c (putF f y vs)))[b]? = h[b]? := fun b hb => List.getElem?_set_ne fun q => ane (by rw [q]; exact hb)
  obtain ⟨t', E', Fs', S', k'⟩ := go (h.set a (.ins c (putF f y vs))) A σ' (.ins n c (putFl f t fs)) (a :: H') K tn lt fin (by
    simp only [TrR]
    exact ⟨a, _, H', rfl, List.getElem?_set_self (lt_get g), hn, TrF.ok (tn.ok S.lt) gs _ _ H' r2 sm, rfl⟩)
    (List.nodup_cons.mpr ⟨ane, (List.nodup_append.mp (pm.nodup_iff.mpr ndHG)).1⟩) (fun b hb => by
      rcases List.mem_cons.mp hb with rfl | hb
      · exact ⟨(ac _ (by simp)).1, .inl (by simp)⟩
      · rcases inH' b hb with y | y
        · exact ⟨(ac b (by simp [y])).1, .inl (by simp [y])⟩
        · exact ⟨(fr.right.ac b y).1, .inr ⟨(fr.right.ac b y).2, fun i => fr.right.no i b y⟩⟩) (k n)
  exact ⟨a, c, vs, rfl, g, hf, by rw [← TrF.len r1]; exact hlen, σ', E', Fs', t', S', k'⟩
end
theorem encF_len : ∀ fs : List (Str × PyData), (encF fs).length = fs.length
  | [] => rfl
  | (f, d) :: fs => congrArg (· + 1) (encF_len fs)
theorem setFD_put {h : Hh} {A : Av} {C : DC} {f : Str} {d x x' : PyData} {o : Ob} {aa : Nat} {v : V} (g : h[aa]? = some o) (c : Cn h A x o) (fv : Fz h A d v) (m : setFD C.I f d x = some x') : ∃ ob, setF (cf C) (.ref aa) f v h = some (.ok (), h.set aa ob) ∧ Mu ob = true ∧ Cn h A x' ob := by
  unfold setFD at m
  split at m
  · rename_i cl fs hi
    split at m
    · rename_i hc
      cases m
      obtain ⟨hd, a2, vs, e1, g2, ff, hl, _, _⟩ := insOf_ok (c.vw g) hi
      cases e1
      rw [g] at g2
      cases g2
      refine ⟨.ins cl (putF f v vs), ?_, rfl, cl, putF f v vs, rfl, ?_⟩
      · unfold setF
        simp only [g]
        exact if_pos ⟨hc.1, by rw [← hl]; exact hc.2⟩
      · show FzI h A cl ((.none, .int cl) :: encF (putD f d fs)) _
        simp only [FzI]
        exact ⟨trivial, trivial, putF_fz fv ff⟩
    · cases m
  · cases m
section
variable {C : DC} {P : List Nat} {E : Dn} {Q : Fd → Dn → Prop} {a b c : Ex} {es : Exs}
/-- o.f = r -/
structure FstQ (I : List Ci) (r q : Re) (E : Dn) (f : Str) (K : Dn → Prop) : Prop where
  go : (FrzQ r E fun d E4 => ModR q E4 (setFD I f d) K) ∨ GivQ r E fun t E4 => ModF I q E4 f t K
theorem fs_d {I : List Ci} {r q : Re} {f : Str} {K : Dn → Prop} (n : isT E q = false) (k : FrzQ r E fun d E4 => ModR q E4 (setFD I f d) K) : FstQ I r q E f K := ⟨.inl k⟩
theorem fs_t {I : List Ci} {r q : Re} {f : Str} {K : Dn → Prop} (k : GivQ r E fun t E4 => ModF I q E4 f t K) : FstQ I r q E f K := ⟨.inr k⟩
theorem ex_asgF_g {o : Ex} {f : Str} (w : WE C a E fun r E1 => WE C o E1 fun q E2 => FstQ C.I r q E2 f (Q .nx)) : WS C P (.asgFld o f a) E Q := ⟨fun W h A σ e Fs S => by
  simp only [HI.ex]
  refine Run.bindS (w.pend0 S) ?_
  rintro v h1 A1 σ1 E1 Fs1 t1 S1 ⟨r, G1, T1, f1, w1⟩
  refine Run.bindS (w1.pend S1 T1 f1) ?_
  rintro x h2 A2 σ2 E2 Fs2 t2 S2 ⟨q, G2, T2, f2, w2⟩
  obtain ⟨H1, H2, eG, zq, zr⟩ := T2.two
  rw [eG] at f2
  have fq : Fr W A2 Fs2 H1 := f2.left
  have fr : Fr (plus W H1) A2 Fs2 H2 := Fr.mk f2.right.nd (fun b hb => ⟨(f2.right.ac b hb).1, fun z => z.elim (f2.right.ac b hb).2 fun z => (List.nodup_append.mp f2.nd).2.2 b z b hb rfl⟩) f2.right.no
  rcases w2.go with w3 | w3
  · obtain ⟨A4, E4, Fs4, d, t4, S4, fz, md⟩ := w3.go (plus W H1) h2 A2 σ2 e Fs2 v H2 (S2.aside fq) zr fr
    have zq4 := zq.ok (t4.ok S2.lt) t4.gm fun _ _ => rfl
    have fq4 := fq.still t4 S4
    obtain ⟨aa, ob, x0, x', rfl, g, c, hf, go⟩ := md.put S4.back zq4 fq4
    obtain ⟨ob', es, mu, c'⟩ := setFD_put (C := C) g c fz hf
    obtain ⟨E5, Fs5, t5, S5, kq⟩ := go ob' mu c'
    rw [HI.bd_eq es]
    exact RunS.after (t4.back.trans t5) (fun _ _ => rfl) (RunS.nx S5 kq)
  · obtain ⟨A4, E4, Fs4, t, G4, t4, S4, zt, f4, md, _⟩ := w3.go (plus W H1) h2 A2 σ2 e Fs2 v H2 (S2.aside fq) zr fr
    have zq4 := zq.ok (t4.ok S2.lt) t4.gm fun _ _ => rfl
    have fq4 := fq.still t4 S4
    obtain ⟨aa, cl, vs, rfl, g, hf, hl, σ', E5, Fs5, t5, S5, kq⟩ := insn_put S4.back zq4 ((fq4.two f4).perm List.perm_append_comm) zt md
    have es : setF (cf C) (.ref aa) f v h2 = some (.ok (), h2.set aa (.ins cl (putF f v vs))) := by
      unfold setF
      simp only [g]
      exact if_pos ⟨hf, hl⟩
    rw [HI.bd_eq es]
    exact RunS.after (t4.back.trans t5) (fun _ _ => rfl) (RunS.nx S5 kq)⟩
theorem ex_augS {o i : Ex} {op : Op2} (w : WE C o E fun q E1 => WE C i E1 fun y E2 => DatQ y E2 fun k => ∃ x, atR E2 q k = some x ∧
    WE C a E2 fun r E3 => DatQ r E3 fun z => ∃ v, intD op x z = some v ∧ ModR q E3 (setD k v) (Q .nx)) : WS C P (.augSub o i op a) E Q := ⟨fun W h A σ e Fs S => by
  simp only [HI.ex]
  refine Run.bindS (w.pend0 S) ?_
  rintro x h1 A1 σ1 E1 Fs1 t1 S1 ⟨q, G1, T1, f1, w1⟩
  refine Run.bindS (w1.pend S1 T1 f1) ?_
  rintro y h2 A2 σ2 E2 Fs2 t2 S2 ⟨ry, G2, T2, f2, ⟨k, ek, xx, ex2, w2⟩⟩
  obtain ⟨H1, H2, eG, zy, zq⟩ := T2.two
  -- the old part
  have old : ∃ aa xs n us, tgT E2 q = some (.own (.list xs)) ∧ k = .int n ∧ x = .ref aa ∧ h2[aa]? = some (.lst us) ∧ FzL h2 A2 xs us ∧ atI xs n = some xx := by
    unfold atR at ex2
    split at ex2
    · rename_i xs ht
      rw [eG] at f2
      obtain ⟨F0, zt, _⟩ := S2.mod zq f2.right ht
      simp only [TrR] at zt
      obtain ⟨aa, ob, rfl, g, ⟨us, rfl, ru⟩, _⟩ := zt
      cases k with
      | int n => exact ⟨aa, xs, n, us, ht, rfl, rfl, g, ru, ex2⟩
      | _ => cases ex2
    · cases ex2
  obtain ⟨aa, xs, n, us, ht, rfl, rfl, g, ru, hx⟩ := old
  have := vw_int (dat_ok (ro := false) S2 zy ek)
  subst this
  obtain ⟨u, hu, fu⟩ := ru.atI hx
  have ix : indexL (.ref aa) (.int n) h2 = some (.ok u, h2) := by
    show (match seqL h2 aa with | some xs => L2.atI xs n | none => none).map _ = _
    rw [seqL_of g]
    dsimp only
    rw [hu]; rfl
  rw [HI.bd_eq ix]
  refine Run.bindS (w2.pend S2 T2 f2) ?_
  rintro z h3 A3 σ3 E3 Fs3 t3 S3 ⟨rz, G3, T3, f3, ⟨dz, ez, vv, hv, md⟩⟩
  obtain ⟨K1, K2, K3, eG3, zz, zy3, zq3⟩ := T3.three
  rw [eG3] at f3
  have sx : scal xx = true := by
    cases xx <;> first | rfl | cases hv
  obtain ⟨v', es, fv⟩ := intD_ok (Vw.of (Fz.scal (h' := h3) (A' := A3) fu sx)) (dat_ok (ro := false) S3 zz ez) hv
  have ea : augO op u z h3 = some (.ok v', h3) := es
  rw [HI.bd_eq ea]
  obtain ⟨a2, ob, x0, x', e1, g3, c, hf, go⟩ := md.put S3 zq3 f3.right.right
  cases e1
  obtain ⟨ob', es2, mu, c'⟩ := setD_put g3 c (show Vw h3 A3 (.int n) (.int n) from Vw.of fz_int) fv hf
  obtain ⟨E5, Fs5, t5, S5, kq⟩ := go ob' mu c'
  rw [HI.bd_eq es2]
  exact RunS.after t5 (fun _ _ => rfl) (RunS.nx S5 kq)⟩
end
end HJ

set_option maxRecDepth 100000
set_option maxHeartbeats 4000000
/-! walks -/
namespace HJ
open PySem L2 HI
inductive Src | fz (xs : List PyData) | var (i n : Nat) | tvar (i n : Nat)
inductive Wd | seq (s : Src) | rng (lo : Int) (n : Nat) | down (lo : Int) (n : Nat) | enum (s : Src) | zip (s t : Src) | zip3 (s t u : Src)
def Src.n : Src → Nat | .fz xs => xs.length | .var _ n => n | .tvar _ n => n
def Wd.n : Wd → Nat | .seq s => s.n | .rng _ n => n | .down _ n => n | .enum s => s.n | .zip s t => min s.n t.n | .zip3 s t u => min (min s.n t.n) u.n
def Src.vars : Src → List Nat | .fz _ => [] | .var i _ => [i] | .tvar i _ => [i]
def Wd.vars : Wd → List Nat | .seq s => s.vars | .rng _ _ => [] | .down _ _ => [] | .enum s => s.vars | .zip s t => s.vars ++ t.vars | .zip3 s t u => s.vars ++ t.vars ++ u.vars
def Va.d : Va → Option PyData
  | .fz d => some d
  | .own d => some d
  | _ => none
def Src.now (E : Dn) : Src → Option (List PyData)
  | .fz xs => some xs
  | .var j n => match (slotV E j).bind Va.d with
    | some (.list xs) => if xs.length = n then some xs else none
    | _ => none
  | .tvar _ _ => none
def Src.at (E : Dn) (s : Src) (i : Nat) : Option PyData := match s.now E with
  | some xs => xs[i]?
  | none => none
def Wd.at (w : Wd) (i : Nat) (E : Dn) : Option PyData := match w with
  | .seq s => s.at E i
  | .rng lo n => if i < n then some (.int (lo + i)) else none
  | .enum s => (s.at E i).map fun x => .tuple [.int (i : Nat), x]
  | .down lo n => if i < n then some (.int (lo - i)) else none
  | .zip s t => (s.at E i).bind fun x => (t.at E i).map fun y => .tuple [x, y]
  | .zip3 s t u => (s.at E i).bind fun x => (t.at E i).bind fun y => (u.at E i).map fun z => .tuple [x, y, z]
/-- the parts of a thing that is walked with its parts owned -/
def tNow (E : Dn) : Src → Option (Nat × Nat × List Tr)
  | .tvar j n => match slotV E j with
    | some (.tr (.lst m ts)) => if ts.length = n then some (j, m, ts) else none
    | _ => none
  | _ => none
def itV (j m i : Nat) : Tr → Va
  | .fz d => .fz d
  | _ => .bor j [] m (.ix i)
def Wd.itm (w : Wd) (i : Nat) (E : Dn) : Option Va := match w.at i E with
  | some d => some (.fz d)
  | none => match w with
    | .seq s => match tNow E s with
      | some (j, m, ts) => (ts[i]?).map (itV j m i)
      | none => none
    | _ => none
def Src.ok (E : Dn) (s : Src) : Bool := (s.now E).isSome || (tNow E s).isSome
def Wd.ends (w : Wd) (E : Dn) : Bool := match w with
  | .seq s => s.ok E
  | .rng _ _ => true
  | .down _ _ => true
  | .enum s => (s.now E).isSome
  | .zip s t => (s.now E).isSome && (t.now E).isSome
  | .zip3 s t u => (s.now E).isSome && (t.now E).isSome && (u.now E).isSome
def SrcR (h : Hh) (A : Av) (e : Ev) : Src → Nat → Nat → Prop
  | .fz xs, a, len => (Fz h A (.list xs) (.ref a) ∨ ∃ vs, h[a]? = some (.rol vs) ∧ FzL h A xs vs) ∧ len = xs.length
  | .var i n, a, len => e[i]? = some (some (.ref a)) ∧ len = n
  | .tvar i n, a, len => e[i]? = some (some (.ref a)) ∧ len = n
def SrcT (h : Hh) (A : Av) : Src → Nat → Nat → Prop
  | .fz xs, a, len => Fz h A (.tuple xs) (.ref a) ∧ len = xs.length
  | _, _, _ => False
def SrcG (h : Hh) (A : Av) (e : Ev) (s : Src) (p : Sg) : Prop := match p.t with | true => SrcT h A s p.a p.xs.length | false => SrcR h A e s p.a p.xs.length
def WR (h : Hh) (A : Av) (e : Ev) : Wd → Iv → Prop
  | .seq s, .lst a xs => SrcR h A e s a xs.length
  | .seq s, .tup a xs => SrcT h A s a xs.length
  | .rng lo n, .rng lo' n' => lo' = lo ∧ n' = n
  | .down lo n, .down lo' n' => lo' = lo ∧ n' = n
  | .enum s, .enum p => SrcG h A e s p
  | .zip s t, .zip p q => SrcG h A e s p ∧ SrcG h A e t q
  | .zip3 s t u, .zip3 p q r => SrcG h A e s p ∧ SrcG h A e t q ∧ SrcG h A e u r
  | _, _ => False
section
variable {W : Av} {h h' : Hh} {A A' : Av} {σ σ' : Gm} {e e' : Ev} {E : Dn} {Fs : Fp}
theorem SrcR.go (k : Ok h A h' A') {s : Src} {a len : Nat} (ve : ∀ i ∈ s.vars, e'[i]? = e[i]?) (z : SrcR h A e s a len) : SrcR h' A' e' s a len := by
  cases s with
  | fz xs =>
    obtain ⟨z | ⟨vs, g, f⟩, rfl⟩ := z
    · exact ⟨.inl (Fz.ok k _ _ z), rfl⟩
    · exact ⟨.inr ⟨vs, k.r a vs g, FzL.ok k xs vs f⟩, rfl⟩
  | var i n => exact ⟨(ve i (by simp [Src.vars])).trans z.1, z.2⟩
  | tvar i n => exact ⟨(ve i (by simp [Src.vars])).trans z.1, z.2⟩
theorem SrcT.go (k : Ok h A h' A') {s : Src} {a len : Nat} (z : SrcT h A s a len) : SrcT h' A' s a len := by
  cases s with
  | fz xs => exact ⟨Fz.ok k _ _ z.1, z.2⟩
  | var i n => exact z.elim
  | tvar i n => exact z.elim
theorem SrcG.go (k : Ok h A h' A') {s : Src} {p : Sg} (ve : ∀ i ∈ s.vars, e'[i]? = e[i]?) (z : SrcG h A e s p) : SrcG h' A' e' s p := by
  obtain ⟨t, a, xs⟩ := p
  cases t with
  | true => exact SrcT.go k z
  | false => exact SrcR.go k ve z
theorem WR.go (k : Ok h A h' A') {w : Wd} {iv : Iv} (ve : ∀ i ∈ w.vars, e'[i]? = e[i]?) (z : WR h A e w iv) : WR h' A' e' w iv := by
  cases w with
  | seq s =>
    cases iv with
    | lst a xs => exact SrcR.go k ve z
    | tup a xs => exact SrcT.go k z
    | _ => exact z.elim
  | rng lo n =>
    cases iv with
    | rng a b => exact z
    | _ => exact z.elim
  | down lo n =>
    cases iv with
    | down a b => exact z
    | _ => exact z.elim
  | enum s =>
    cases iv with
    | enum p => exact SrcG.go k ve z
    | _ => exact z.elim
  | zip s t =>
    cases iv with
    | zip p q => exact ⟨SrcG.go k (fun i hi => ve i (List.mem_append_left _ hi)) z.1, SrcG.go k (fun i hi => ve i (List.mem_append_right _ hi)) z.2⟩
    | _ => exact z.elim
  | zip3 s t u =>
    cases iv with
    | zip3 p q r => exact ⟨SrcG.go k (fun i hi => ve i (List.mem_append_left _ (List.mem_append_left _ hi))) z.1, SrcG.go k (fun i hi => ve i (List.mem_append_left _ (List.mem_append_right _ hi))) z.2.1, SrcG.go k (fun i hi => ve i (List.mem_append_right _ hi)) z.2.2⟩
    | _ => exact z.elim
theorem SrcR.now (S : St W h A σ e E Fs) {s : Src} {a len : Nat} {ds : List PyData} (z : SrcR h A e s a len) (m : s.now E = some ds) : ∃ vs, nowL h a len = some vs ∧ FzL h A ds vs := by
  have fin : ∀ vs : List V, seqL h a = some vs → FzL h A ds vs → ds.length = len → ∃ vs, nowL h a len = some vs ∧ FzL h A ds vs := fun vs g r l => by
    refine ⟨vs, ?_, r⟩
    unfold nowL
    rw [g]
    exact if_pos (by rw [← r.len]; exact l)
  cases s with
  | fz xs =>
    cases m
    obtain ⟨z | ⟨vs, g, f⟩, rfl⟩ := z
    · simp only [Fz] at z
      obtain ⟨a', vs, e1, g, _, f⟩ := z
      cases e1
      exact fin vs (seqL_of g) f rfl
    · exact fin vs (by unfold seqL; rw [g]) f rfl
  | tvar i n => cases m
  | var i n =>
    obtain ⟨ev, rfl⟩ := z
    simp only [Src.now] at m
    split at m
    · rename_i xs hx
      split at m
      · rename_i hl
        cases m
        obtain ⟨va, h1, h2⟩ := Option.bind_eq_some_iff.mp hx
        obtain ⟨u, q1, q2⟩ := S.get h1
        rw [ev] at q1
        cases q1
        cases va with
        | fz d =>
          cases h2
          have q := q2.1
          simp only [Fz] at q
          obtain ⟨a', vs, e1, g, _, f⟩ := q
          cases e1
          exact fin vs (seqL_of g) f hl
        | own d =>
          cases h2
          have q : TrR h A σ (.own _) _ _ := q2
          simp only [TrR] at q
          obtain ⟨a', o, e1, g, ⟨vs, rfl, f⟩, _⟩ := q
          cases e1
          exact fin vs (seqL_of g) f hl
        | _ => cases h2
      · cases m
    · cases m
theorem SrcT.now {s : Src} {a len : Nat} {ds : List PyData} (z : SrcT h A s a len) (m : s.now E = some ds) : ∃ vs, nowT h a len = some vs ∧ FzL h A ds vs := by
  cases s with
  | fz xs =>
    cases m
    obtain ⟨z, rfl⟩ := z
    simp only [Fz] at z
    obtain ⟨a', vs, e1, g, f⟩ := z
    cases e1
    refine ⟨vs, ?_, f⟩
    unfold nowT
    rw [g]
    exact if_pos f.len.symm
  | var i n => exact z.elim
  | tvar i n => exact z.elim
theorem SrcR.at (S : St W h A σ e E Fs) {s : Src} {a len i : Nat} {d : PyData} (z : SrcR h A e s a len) (m : s.at E i = some d) : ∃ x, look (fun h => itemO (nowL h a len) i) h = some (.ok x, h) ∧ Fz h A d x := by
  unfold Src.at at m
  split at m
  · rename_i xs hn
    obtain ⟨vs, h1, h2⟩ := z.now S hn
    obtain ⟨x, h3, h4⟩ := h2.get m
    refine ⟨x, ?_, h4⟩
    show (match nowL h a len with | some ys => ys[i]? | none => none).map (fun x => ((Rs.ok x : Rs V), h)) = _
    rw [h1]
    dsimp only
    rw [h3]; rfl
  · cases m
theorem SrcT.at {s : Src} {a len i : Nat} {d : PyData} (z : SrcT h A s a len) (m : s.at E i = some d) : ∃ x, look (fun h => itemO (nowT h a len) i) h = some (.ok x, h) ∧ Fz h A d x := by
  unfold Src.at at m
  split at m
  · rename_i xs hn
    obtain ⟨vs, h1, h2⟩ := z.now hn
    obtain ⟨x, h3, h4⟩ := h2.get m
    refine ⟨x, ?_, h4⟩
    show (match nowT h a len with | some ys => ys[i]? | none => none).map (fun x => ((Rs.ok x : Rs V), h)) = _
    rw [h1]
    dsimp only
    rw [h3]; rfl
  · cases m
theorem SrcG.at (S : St W h A σ e E Fs) {s : Src} {p : Sg} {i : Nat} {d : PyData} (z : SrcG h A e s p) (m : s.at E i = some d) : ∃ x, look (fun h => itemO (nowS h p) i) h = some (.ok x, h) ∧ Fz h A d x := by
  obtain ⟨t, a, xs⟩ := p
  cases t with
  | true => exact SrcT.at z m
  | false => exact SrcR.at S z m
theorem SrcG.now (S : St W h A σ e E Fs) {s : Src} {p : Sg} (z : SrcG h A e s p) (m : (s.now E).isSome = true) : (nowS h p).isSome = true := by
  obtain ⟨ds, m⟩ := Option.isSome_iff_exists.mp m
  obtain ⟨t, a, xs⟩ := p
  cases t with
  | true =>
    obtain ⟨vs, q, _⟩ := SrcT.now z m
    show (nowT h a xs.length).isSome = true
    rw [q]; rfl
  | false =>
    obtain ⟨vs, q, _⟩ := SrcR.now S z m
    show (nowL h a xs.length).isSome = true
    rw [q]; rfl
/-- parts of a list with owned parts -/
theorem tNow_ok (S : St W h A σ e E Fs) {s : Src} {a len j m : Nat} {ts : List Tr} (z : SrcR h A e s a len) (q : tNow E s = some (j, m, ts)) : ∃ xs G, h[a]? = some (.lst xs) ∧ nowL h a len = some xs ∧ σ m = some (.lst xs) ∧ TrL h A σ ts xs G := by
  cases s with
  | fz xs => cases q
  | var i n => cases q
  | tvar i n =>
    obtain ⟨ev, rfl⟩ := z
    simp only [tNow] at q
    split at q
    · rename_i m' ts' hs
      split at q
      · rename_i hl
        cases q
        obtain ⟨u, q1, q2⟩ := S.get hs
        rw [ev] at q1
        cases q1
        have q : TrR h A σ (.lst _ _) _ _ := q2
        simp only [TrR] at q
        obtain ⟨a', xs, G, e1, g, sg, r, _⟩ := q
        cases e1
        refine ⟨xs, G, g, ?_, sg, r⟩
        unfold nowL
        rw [seqL_of g]
        exact if_pos (by rw [← TrL.len r]; exact hl)
      · cases q
    · cases q
theorem tn_tup (S : St W h A σ e E Fs) {vs : List V} : Tn A h A σ (h ++ [.tup vs]) A σ ∧ St W (h ++ [.tup vs]) A σ e E Fs := by
  have t : Tn A h A σ (h ++ [.tup vs]) A σ := ⟨by rw [List.length_append]; exact Nat.le_add_right _ _, fun b z => .inl z, fun b l _ => get_app l, fun b z => z, Sub.refl⟩
  exact ⟨t, S.tn t S.wa (fun i b z => (S.ac i b z).1) (fun b z => by
    obtain ⟨o, g, m⟩ := S.lt b z
    exact ⟨o, (get_app (lt_of_get g)).trans g, m⟩) S.fin⟩
theorem fz_tup {h : Hh} {A : Av} {ds : List PyData} {vs : List V} (r : FzL h A ds vs) : Fz (h ++ [.tup vs]) A (.tuple ds) (.ref h.length) := by
  simp only [Fz]
  refine ⟨h.length, vs, rfl, ?_, FzL.ok (ok_app fun b l z => z) ds vs r⟩
  unfold seqT
  rw [getNew]
theorem WR.at (S : St W h A σ e E Fs) {w : Wd} {iv : Iv} {i : Nat} {va : Va} (z : WR h A e w iv) (m : w.itm i E = some va) : ∃ x h1, iv.at i h = some (.ok x, h1) ∧ Tn A h A σ h1 A σ ∧ St W h1 A σ e E Fs ∧ VaR h1 A σ va x [] := by
  have t0 : Tn A h A σ h A σ := Tn.refl fun b z => z
  unfold Wd.itm at m
  split at m
  · rename_i d hd
    cases m
    cases w with
    | seq s =>
      cases iv with
      | lst a xs =>
        obtain ⟨x, h1, h2⟩ := SrcR.at S z hd
        exact ⟨x, h, h1, t0, S, h2, rfl⟩
      | tup a xs =>
        obtain ⟨x, h1, h2⟩ := SrcT.at z hd
        exact ⟨x, h, h1, t0, S, h2, rfl⟩
      | _ => exact z.elim
    | rng lo n =>
      cases iv with
      | rng a b =>
        obtain ⟨rfl, rfl⟩ := z
        have hd : (if i < _ then some (PyData.int (_ + (i : Int))) else none) = some d := hd
        split at hd
        · rename_i hi
          cases hd
          refine ⟨.int (a + (i : Int)), h, ?_, t0, S, fz_int, rfl⟩
          show (if i < _ then rt (V.int (_ + (i : Int))) else no) h = _
          rw [if_pos hi]; rfl
        · cases hd
      | _ => exact z.elim
    | down lo n =>
      cases iv with
      | down a b =>
        obtain ⟨rfl, rfl⟩ := z
        have hd : (if i < _ then some (PyData.int (_ - (i : Int))) else none) = some d := hd
        split at hd
        · rename_i hi
          cases hd
          refine ⟨.int (a - (i : Int)), h, ?_, t0, S, fz_int, rfl⟩
          show (if i < _ then rt (V.int (_ - (i : Int))) else no) h = _
          rw [if_pos hi]; rfl
        · cases hd
      | _ => exact z.elim
    | enum s =>
      cases iv with
      | enum p =>
        obtain ⟨y, hy, rfl⟩ := Option.map_eq_some_iff.mp (show (s.at E i).map _ = some d from hd)
        obtain ⟨x, h1, h2⟩ := SrcG.at S z hy
        obtain ⟨t, S'⟩ := tn_tup S (vs := [.int (i : Nat), x])
        refine ⟨.ref h.length, _, ?_, t, S', fz_tup (FzL.cons fz_int (FzL.one h2)), rfl⟩
        show bd (look fun h => itemO (nowS h p) i) (fun x => HI.alloc (Ob.tup [V.int (i : Nat), x])) h = _
        rw [HI.bd_eq h1]; rfl
      | _ => exact z.elim
    | zip s t =>
      cases iv with
      | zip p q =>
        obtain ⟨y, hy, hd⟩ := Option.bind_eq_some_iff.mp (show (s.at E i).bind _ = some d from hd)
        obtain ⟨y2, hy2, rfl⟩ := Option.map_eq_some_iff.mp hd
        obtain ⟨x, h1, h2⟩ := SrcG.at S z.1 hy
        obtain ⟨x2, h3, h4⟩ := SrcG.at S z.2 hy2
        obtain ⟨t, S'⟩ := tn_tup S (vs := [x, x2])
        refine ⟨.ref h.length, _, ?_, t, S', fz_tup (FzL.cons h2 (FzL.one h4)), rfl⟩
        show bd (look fun h => itemO (nowS h p) i) (fun x => bd (look fun h => itemO (nowS h q) i) fun y => HI.alloc (Ob.tup [x, y])) h = _
        rw [HI.bd_eq h1, HI.bd_eq h3]; rfl
      | _ => exact z.elim
    | zip3 s t u =>
      cases iv with
      | zip3 p q r =>
        obtain ⟨y, hy, hd⟩ := Option.bind_eq_some_iff.mp (show (s.at E i).bind _ = some d from hd)
        obtain ⟨y2, hy2, hd⟩ := Option.bind_eq_some_iff.mp hd
        obtain ⟨y3, hy3, rfl⟩ := Option.map_eq_some_iff.mp hd
        obtain ⟨x, h1, h2⟩ := SrcG.at S z.1 hy
        obtain ⟨x2, h3, h4⟩ := SrcG.at S z.2.1 hy2
        obtain ⟨x3, h5, h6⟩ := SrcG.at S z.2.2 hy3
        obtain ⟨t, S'⟩ := tn_tup S (vs := [x, x2, x3])
        refine ⟨.ref h.length, _, ?_, t, S', fz_tup (FzL.cons h2 (FzL.cons h4 (FzL.one h6))), rfl⟩
        show bd (look fun h => itemO (nowS h p) i) (fun x => bd (look fun h => itemO (nowS h q) i) fun y => bd (look fun h => itemO (nowS h r) i) fun z => HI.alloc (Ob.tup [x, y, z])) h = _
        rw [HI.bd_eq h1, HI.bd_eq h3, HI.bd_eq h5]; rfl
      | _ => exact z.elim
  · cases w with
    | seq s =>
      have m : (match tNow E s with | some (j, m, ts) => (ts[i]?).map (itV j m i) | none => none) = some va := m
      split at m
      · rename_i j mm ts hn
        obtain ⟨c, hc, rfl⟩ := Option.map_eq_some_iff.mp m
        cases iv with
        | lst a xs =>
          obtain ⟨us, G, g, nw, sg, r⟩ := tNow_ok S z hn
          obtain ⟨x, hx⟩ := TrL.get r hc
          obtain ⟨F0, R, zr, _, _⟩ := TrL.zip r hc hx
          refine ⟨x, h, ?_, t0, S, ?_⟩
          · show (match nowL h a xs.length with | some ys => ys[i]? | none => none).map (fun x => ((Rs.ok x : Rs V), h)) = _
            rw [nw]
            dsimp only
            rw [hx]; rfl
          · cases c with
            | fz d =>
              simp only [TrR] at zr
              exact ⟨zr.1, rfl⟩
            | _ => exact ⟨⟨_, sg, hx⟩, rfl⟩
        | tup a xs =>
          cases s with
          | fz xs => cases hn
          | var i n => cases hn
          | tvar i n => exact z.elim
        | _ => exact z.elim
      · cases m
    | _ => cases m
theorem WR.ends (S : St W h A σ e E Fs) {w : Wd} {iv : Iv} (z : WR h A e w iv) (m : w.ends E = true) : iv.ends h = true := by
  have one : ∀ {s : Src} {a len : Nat}, SrcR h A e s a len → (s.now E).isSome = true → (nowL h a len).isSome = true := fun {s a len} z m => by
    obtain ⟨xs, hx⟩ := Option.isSome_iff_exists.mp m
    obtain ⟨vs, h1, _⟩ := z.now S hx
    rw [h1]; rfl
  cases w with
  | seq s =>
    cases iv with
    | lst a xs =>
      rcases Bool.or_eq_true_iff.mp (show ((s.now E).isSome || (tNow E s).isSome) = true from m) with m | m
      · exact one z m
      · obtain ⟨⟨j, mm, ts⟩, hx⟩ := Option.isSome_iff_exists.mp m
        obtain ⟨us, G, g, nw, _⟩ := tNow_ok S z hx
        show (nowL h a xs.length).isSome = true
        rw [nw]; rfl
    | tup a xs =>
      cases s with
      | fz ys =>
        obtain ⟨vs, h1, _⟩ := SrcT.now (h := h) (A := A) (E := E) (s := .fz ys) (a := a) (len := xs.length) (ds := ys) z rfl
        show (nowT h a xs.length).isSome = true
        rw [h1]; rfl
      | var i n => exact z.elim
      | tvar i n => exact z.elim
    | _ => exact z.elim
  | rng lo n =>
    cases iv with
    | rng a b => rfl
    | _ => exact z.elim
  | down lo n =>
    cases iv with
    | down a b => rfl
    | _ => exact z.elim
  | enum s =>
    cases iv with
    | enum p => exact SrcG.now S z m
    | _ => exact z.elim
  | zip s t =>
    cases iv with
    | zip p q =>
      have m := Bool.and_eq_true_iff.mp (show ((s.now E).isSome && (t.now E).isSome) = true from m)
      show ((nowS h p).isSome && (nowS h q).isSome) = true
      rw [SrcG.now S z.1 m.1, SrcG.now S z.2 m.2]; rfl
    | _ => exact z.elim
  | zip3 s t u =>
    cases iv with
    | zip3 p q r =>
      have m := Bool.and_eq_true_iff.mp (show ((s.now E).isSome && (t.now E).isSome && (u.now E).isSome) = true from m)
      have m1 := Bool.and_eq_true_iff.mp m.1
      show ((nowS h p).isSome && (nowS h q).isSome && (nowS h r).isSome) = true
      rw [SrcG.now S z.1 m1.1, SrcG.now S z.2.1 m1.2, SrcG.now S z.2.2 m.2]; rfl
    | _ => exact z.elim
theorem SrcR.n {s : Src} {a len : Nat} (z : SrcR h A e s a len) : s.n = len := by
  cases s with
  | fz xs => exact z.2.symm
  | var i n => exact z.2.symm
  | tvar i n => exact z.2.symm
theorem SrcT.n {s : Src} {a len : Nat} (z : SrcT h A s a len) : s.n = len := by
  cases s with
  | fz xs => exact z.2.symm
  | var i n => exact z.elim
  | tvar i n => exact z.elim
theorem SrcG.n {s : Src} {p : Sg} (z : SrcG h A e s p) : s.n = p.xs.length := by
  obtain ⟨t, a, xs⟩ := p
  cases t with
  | true => exact SrcT.n z
  | false => exact SrcR.n z
theorem WR.size {w : Wd} {iv : Iv} (z : WR h A e w iv) : w.n = iv.size := by
  cases w with
  | seq s =>
    cases iv with
    | lst a xs => exact SrcR.n z
    | tup a xs => exact SrcT.n z
    | _ => exact z.elim
  | rng lo n =>
    cases iv with
    | rng a b => exact z.2.symm
    | _ => exact z.elim
  | down lo n =>
    cases iv with
    | down a b => exact z.2.symm
    | _ => exact z.elim
  | enum s =>
    cases iv with
    | enum p => exact SrcG.n z
    | _ => exact z.elim
  | zip s t =>
    cases iv with
    | zip p q => show min s.n t.n = min p.xs.length q.xs.length; rw [SrcG.n z.1, SrcG.n z.2]
    | _ => exact z.elim
  | zip3 s t u =>
    cases iv with
    | zip3 p q r => show min (min s.n t.n) u.n = min (min p.xs.length q.xs.length) r.xs.length; rw [SrcG.n z.1, SrcG.n z.2.1, SrcG.n z.2.2]
    | _ => exact z.elim
end
/-! what is walked -/
def srcR (tup : Bool) (E : Dn) : Re → Option Src
  | .fz (.list xs) => some (.fz xs)
  | .fz (.tuple xs) => if tup then some (.fz xs) else none
  | .own (.list xs) => some (.fz xs)
  | .tr (.lst _ ts) => some (.fz (dL ts))
  | .rol xs => some (.fz xs)
  | .var i => match slotV E i with
    | some (.own (.list xs)) => some (.var i xs.length)
    | some (.tr (.lst _ ts)) => some (.tvar i ts.length)
    | _ => none
  | _ => none
structure SrcQ (tup : Bool) (r : Re) (E : Dn) (K : Src → Prop) : Prop where
  go : ∃ s, srcR tup E r = some s ∧ K s
section
variable {E : Dn} {K : Src → Prop} {tup : Bool}
theorem q_src {r : Re} {s : Src} (e : srcR tup E r = some s) (k : K s) : SrcQ tup r E K := ⟨s, e, k⟩
theorem s_fzl {xs : List PyData} (k : K (.fz xs)) : SrcQ tup (.fz (.list xs)) E K := ⟨_, rfl, k⟩
theorem s_fzt {xs : List PyData} (k : K (.fz xs)) : SrcQ true (.fz (.tuple xs)) E K := ⟨_, rfl, k⟩
theorem s_own {xs : List PyData} (k : K (.fz xs)) : SrcQ tup (.own (.list xs)) E K := ⟨_, rfl, k⟩
theorem s_tr {n : Nat} {ts : List Tr} (k : K (.fz (dL ts))) : SrcQ tup (.tr (.lst n ts)) E K := ⟨_, rfl, k⟩
theorem s_rol {xs : List PyData} (k : K (.fz xs)) : SrcQ tup (.rol xs) E K := ⟨_, rfl, k⟩
theorem s_var {i : Nat} {xs : List PyData} (e : slotV E i = some (.own (.list xs))) (k : K (.var i xs.length)) : SrcQ tup (.var i) E K := ⟨.var i xs.length, by simp only [srcR, e], k⟩
theorem s_varT {i n : Nat} {ts : List Tr} (e : slotV E i = some (.tr (.lst n ts))) (k : K (.tvar i ts.length)) : SrcQ tup (.var i) E K := ⟨.tvar i ts.length, by simp only [srcR, e], k⟩
end
section
variable {W : Av} {h : Hh} {A : Av} {σ : Gm} {e : Ev} {E : Dn} {Fs : Fp}
theorem src_ok (S : St W h A σ e E Fs) {tup : Bool} {r : Re} {v : V} {G : List Nat} {s : Src} (z : RR h A σ e r v G) (f : Fr W A Fs G) (m : srcR tup E r = some s) :
    ∃ B a, Tn W h A σ h (drop A B) σ ∧ St W h (drop A B) σ e E Fs ∧ (∀ b ∈ B, b ∈ G) ∧ v = .ref a ∧ ((∃ xs, seqL h a = some xs ∧ SrcR h (drop A B) e s a xs.length) ∨ (tup = true ∧ ∃ xs, seqL h a = none ∧ seqT h a = some xs ∧ SrcT h (drop A B) s a xs.length)) := by
  have none0 : Tn W h A σ h (drop A []) σ ∧ St W h (drop A []) σ e E Fs := by
    have : drop A [] = A := by funext b; simp [drop]
    rw [this]
    exact ⟨Tn.refl S.wa, S⟩
  cases r with
  | fz d =>
    cases d with
    | list xs =>
      cases m
      have zz := z.1
      simp only [Fz] at zz
      obtain ⟨a, vs, e1, g, na, r⟩ := zz
      refine ⟨[], a, none0.1, none0.2, fun _ z => (nomatch z), e1, .inl ⟨vs, seqL_of g, .inl (Fz.ok ok_drop _ _ (by simp only [Fz]; exact ⟨a, vs, rfl, g, na, r⟩)), r.len.symm⟩⟩
    | tuple xs =>
      have m : (if tup = true then some (Src.fz xs) else none) = some s := m
      split at m
      · rename_i ht
        cases m
        have zz := z.1
        simp only [Fz] at zz
        obtain ⟨a, vs, e1, g, r⟩ := zz
        refine ⟨[], a, none0.1, none0.2, fun _ z => (nomatch z), e1, .inr ⟨ht, vs, seqT_notL g, g, Fz.ok ok_drop _ _ (by simp only [Fz]; exact ⟨a, vs, rfl, g, r⟩), r.len.symm⟩⟩
      · cases m
    | _ => cases m
  | own d =>
    cases d with
    | list xs =>
      cases m
      obtain ⟨t, S'⟩ := S.drop f
      have g := TrR.gone (h := h) (A := A) (B := drop A G) (σ := σ) ok_drop _ v G z fun b hb q => q.2 hb
      rw [Tr.d] at g
      have gg := g
      simp only [Fz] at gg
      obtain ⟨a, vs, e1, gl, _, r⟩ := gg
      subst e1
      exact ⟨G, a, t, S', fun _ z => z, rfl, .inl ⟨vs, seqL_of gl, .inl g, r.len.symm⟩⟩
    | _ => cases m
  | tr tt =>
    cases tt with
    | lst n ts =>
      cases m
      obtain ⟨t, S'⟩ := S.drop f
      have g := TrR.gone (h := h) (A := A) (B := drop A G) (σ := σ) ok_drop _ v G z fun b hb q => q.2 hb
      rw [Tr.d] at g
      have gg := g
      simp only [Fz] at gg
      obtain ⟨a, vs, e1, gl, _, r⟩ := gg
      subst e1
      exact ⟨G, a, t, S', fun _ z => z, rfl, .inl ⟨vs, seqL_of gl, .inl g, r.len.symm⟩⟩
    | _ => cases m
  | rol xs =>
    cases m
    obtain ⟨⟨a, vs, e1, g, r⟩, _⟩ := z
    exact ⟨[], a, none0.1, none0.2, fun _ z => (nomatch z), e1, .inl ⟨vs, by unfold seqL; rw [g], .inr ⟨vs, g, FzL.ok ok_drop _ _ r⟩, r.len.symm⟩⟩
  | var i =>
    simp only [srcR] at m
    split at m
    · rename_i xs hs
      cases m
      obtain ⟨u, q1, q2⟩ := S.get hs
      have q : TrR h A σ (.own _) _ _ := q2
      simp only [TrR] at q
      obtain ⟨a, o, e1, g, ⟨vs, rfl, r⟩, _⟩ := q
      subst e1
      have ez := z.1
      rw [q1] at ez
      cases ez
      exact ⟨[], a, none0.1, none0.2, fun _ z => (nomatch z), rfl, .inl ⟨vs, seqL_of g, q1, r.len.symm⟩⟩
    · rename_i n ts hs
      cases m
      obtain ⟨u, q1, q2⟩ := S.get hs
      have q : TrR h A σ (.lst _ _) _ _ := q2
      simp only [TrR] at q
      obtain ⟨a, vs, G', e1, g, _, r, _⟩ := q
      subst e1
      have ez := z.1
      rw [q1] at ez
      cases ez
      exact ⟨[], a, none0.1, none0.2, fun _ z => (nomatch z), rfl, .inl ⟨vs, seqL_of g, q1, (TrL.len r).symm⟩⟩
    · cases m
  | pt i q m' k => cases m
end
structure WI (C : DC) (t : HI.It) (E : Dn) (R : Wd → Dn → Prop) : Prop where
  run : ∀ (W : Av) (h : Hh) (A : Av) (σ : Gm) (e : Ev) (Fs : Fp), St W h A σ e E Fs → Run C.X W h A σ e (fun iv h' A' σ' E' Fs' => ∃ w, WR h' A' e w iv ∧ R w E') (evI (cf C) t e h)
structure RngQ (i j : Int) (K : Wd → Prop) : Prop where
  go : ((-(2 ^ 62) ≤ i ∧ i < 2 ^ 62) ∧ -(2 ^ 62) ≤ j ∧ j < 2 ^ 62) ∧ K (.rng i (j - i).toNat)
theorem q_rng {i j : Int} {K : Wd → Prop} (l : (-(2 ^ 62) ≤ i ∧ i < 2 ^ 62) ∧ -(2 ^ 62) ≤ j ∧ j < 2 ^ 62) (k : K (.rng i (j - i).toNat)) : RngQ i j K := ⟨⟨l, k⟩⟩
section
variable {C : DC} {E : Dn} {a b : Ex} {R : Wd → Dn → Prop}
theorem ei_seq (w : WE C a E fun r E1 => SrcQ true r E1 fun s => R (.seq s) E1) : WI C (.seq a) E R := ⟨fun W h A σ e Fs S => by
  simp only [HI.evI]
  refine Run.bind (w.pend0 S) ?_
  rintro x h1 A1 σ1 E1 Fs1 t1 S1 ⟨r, G1, T, f1, ⟨s, es, q⟩⟩
  obtain ⟨B, aa, t, S', _, rfl, z | ⟨_, z⟩⟩ := src_ok S1 T.one f1 es
  · obtain ⟨xs, g, z⟩ := z
    have : seqO (.ref aa) h1 = some (.ok (.lst aa xs), h1) := by
      show (match seqL h1 aa with | some xs => some (Iv.lst aa xs) | none => _).map _ = _
      rw [g]; rfl
    rw [this]
    exact ⟨_, σ1, E1, Fs1, t, S', .seq s, z, q⟩
  · obtain ⟨xs, g1, g2, z⟩ := z
    have : seqO (.ref aa) h1 = some (.ok (.tup aa xs), h1) := by
      show (match seqL h1 aa with | some xs => some (Iv.lst aa xs) | none => match seqT h1 aa with | some xs => some (Iv.tup aa xs) | none => none).map _ = _
      rw [g1, g2]; rfl
    rw [this]
    exact ⟨_, σ1, E1, Fs1, t, S', .seq s, z, q⟩⟩
theorem sg_ok {W : Av} {h : Hh} {A : Av} {σ : Gm} {e : Ev} {E : Dn} {Fs : Fp} (S : St W h A σ e E Fs) {r : Re} {v : V} {G : List Nat} {s : Src} (z : RR h A σ e r v G) (f : Fr W A Fs G) (m : srcR true E r = some s) :
    ∃ B p, Tn W h A σ h (drop A B) σ ∧ St W h (drop A B) σ e E Fs ∧ (∀ b ∈ B, b ∈ G) ∧ sgO v h = some (.ok p, h) ∧ SrcG h (drop A B) e s p := by
  obtain ⟨B, aa, t, S', hB, rfl, z | ⟨_, z⟩⟩ := src_ok S z f m
  · obtain ⟨xs, g, z⟩ := z
    refine ⟨B, ⟨false, aa, xs⟩, t, S', hB, ?_, z⟩
    show (match seqL h aa with | some xs => some (Sg.mk false aa xs) | none => _).map _ = _
    rw [g]; rfl
  · obtain ⟨xs, g1, g2, z⟩ := z
    refine ⟨B, ⟨true, aa, xs⟩, t, S', hB, ?_, z⟩
    show (match seqL h aa with | some xs => some (Sg.mk false aa xs) | none => match seqT h aa with | some xs => some (Sg.mk true aa xs) | none => none).map _ = _
    rw [g1, g2]; rfl
theorem ei_enum (w : WE C a E fun r E1 => SrcQ true r E1 fun s => R (.enum s) E1) : WI C (.enum a) E R := ⟨fun W h A σ e Fs S => by
  simp only [HI.evI]
  refine Run.bind (w.pend0 S) ?_
  rintro x h1 A1 σ1 E1 Fs1 t1 S1 ⟨r, G1, T, f1, ⟨s, es, q⟩⟩
  obtain ⟨B, p, t, S', _, g, z⟩ := sg_ok S1 T.one f1 es
  rw [HI.bd_eq g]
  exact ⟨_, σ1, E1, Fs1, t, S', .enum s, z, q⟩⟩
theorem ei_zip (w : WE C a E fun x E1 => WE C b E1 fun y E2 => SrcQ true x E2 fun s => SrcQ true y E2 fun t => R (.zip s t) E2) : WI C (.zip a b) E R := ⟨fun W h A σ e Fs S => by
  simp only [HI.evI]
  refine Run.bind (w.pend0 S) ?_
  rintro x h1 A1 σ1 E1 Fs1 t1 S1 ⟨rx, G1, T1, f1, w1⟩
  refine Run.bind (w1.pend S1 T1 f1) ?_
  rintro y h2 A2 σ2 E2 Fs2 t2 S2 ⟨ry, G2, T2, f2, ⟨s, es, ⟨t, et, q⟩⟩⟩
  obtain ⟨H1, H2, eG, zy, zx⟩ := T2.two
  rw [eG] at f2
  obtain ⟨B, p, ta, Sa, hB, g, z⟩ := sg_ok S2 zx f2.right es
  have zy' := zy.ok (ta.ok S2.lt) Sub.refl fun _ _ => rfl
  have f3 : Fr W (drop A2 B) Fs2 H1 := Fr.mk f2.left.nd (fun b hb => ⟨⟨(f2.left.ac b hb).1, fun y => (List.nodup_append.mp f2.nd).2.2 b hb b (hB b y) rfl⟩, (f2.left.ac b hb).2⟩) f2.left.no
  obtain ⟨B2, p2, tb, Sb, _, g2, z2⟩ := sg_ok Sa zy' f3 et
  rw [HI.bd_eq g, HI.bd_eq g2]
  exact ⟨_, σ2, E2, Fs2, ta.trans tb, Sb, .zip s t, ⟨SrcG.go (tb.ok Sa.lt) (fun _ _ => rfl) z, z2⟩, q⟩⟩
theorem rng_run {W : Av} {h : Hh} {A : Av} {σ : Gm} {e : Ev} {Fs : Fp} {i j : Int} (S : St W h A σ e E Fs) (q : RngQ i j fun w => R w E) : Run C.X W h A σ e (fun iv h' A' σ' E' Fs' => ∃ w, WR h' A' e w iv ∧ R w E') (rngO i j h) := by
  obtain ⟨l, k⟩ := q
  have : rngO i j h = some (.ok (.rng i (j - i).toNat), h) := by
    unfold rngO
    rw [if_pos l]; rfl
  rw [this]
  exact Run.ret S ⟨.rng i (j - i).toNat, ⟨rfl, rfl⟩, k⟩
structure DownQ (i j : Int) (K : Wd → Prop) : Prop where
  go : ((-(2 ^ 62) ≤ i ∧ i < 2 ^ 62) ∧ -(2 ^ 62) ≤ j ∧ j < 2 ^ 62) ∧ K (.down i (i - j).toNat)
theorem q_down {i j : Int} {K : Wd → Prop} (l : (-(2 ^ 62) ≤ i ∧ i < 2 ^ 62) ∧ -(2 ^ 62) ≤ j ∧ j < 2 ^ 62) (k : K (.down i (i - j).toNat)) : DownQ i j K := ⟨⟨l, k⟩⟩
theorem down_run {W : Av} {h : Hh} {A : Av} {σ : Gm} {e : Ev} {Fs : Fp} {i j : Int} (S : St W h A σ e E Fs) (q : DownQ i j fun w => R w E) : Run C.X W h A σ e (fun iv h' A' σ' E' Fs' => ∃ w, WR h' A' e w iv ∧ R w E') (downO i j h) := by
  obtain ⟨l, k⟩ := q
  have : downO i j h = some (.ok (.down i (i - j).toNat), h) := by
    unfold downO
    rw [if_pos l]; rfl
  rw [this]
  exact Run.ret S ⟨.down i (i - j).toNat, ⟨rfl, rfl⟩, k⟩
theorem ei_down (w : WE C a E fun x E1 => WE C b E1 fun y E2 => DatQ x E2 fun d => DatQ y E2 fun d' => ∃ i j, d = .int i ∧ d' = .int j ∧ DownQ i j fun w => R w E2) : WI C (.down a b) E R := ⟨fun W h A σ e Fs S => by
  simp only [HI.evI]
  refine Run.bind (w.pend0 S) ?_
  rintro x h1 A1 σ1 E1 Fs1 t1 S1 ⟨rx, G1, T1, f1, w1⟩
  refine Run.bind (w1.pend S1 T1 f1) ?_
  rintro y h2 A2 σ2 E2 Fs2 t2 S2 ⟨ry, G2, T2, f2, ⟨d, ed, ⟨d', ed', i, j, rfl, rfl, q⟩⟩⟩
  obtain ⟨H1, H2, eG, zy, zx⟩ := T2.two
  have := vw_int (dat_ok (ro := false) S2 zx ed)
  subst this
  have := vw_int (dat_ok (ro := false) S2 zy ed')
  subst this
  exact down_run S2 q⟩
theorem ei_rng1 (w : WE C a E fun r E1 => DatQ r E1 fun d => ∃ j, d = .int j ∧ RngQ 0 j fun w => R w E1) : WI C (.rng1 a) E R := ⟨fun W h A σ e Fs S => by
  simp only [HI.evI]
  refine Run.bind (w.pend0 S) ?_
  rintro x h1 A1 σ1 E1 Fs1 t1 S1 ⟨r, G1, T, f1, ⟨d, ed, j, rfl, q⟩⟩
  have := vw_int (dat_ok (ro := false) S1 T.one ed)
  subst this
  exact rng_run S1 q⟩
theorem ei_rng2 (w : WE C a E fun x E1 => WE C b E1 fun y E2 => DatQ x E2 fun d => DatQ y E2 fun d' => ∃ i j, d = .int i ∧ d' = .int j ∧ RngQ i j fun w => R w E2) : WI C (.rng2 a b) E R := ⟨fun W h A σ e Fs S => by
  simp only [HI.evI]
  refine Run.bind (w.pend0 S) ?_
  rintro x h1 A1 σ1 E1 Fs1 t1 S1 ⟨rx, G1, T1, f1, w1⟩
  refine Run.bind (w1.pend S1 T1 f1) ?_
  rintro y h2 A2 σ2 E2 Fs2 t2 S2 ⟨ry, G2, T2, f2, ⟨d, ed, ⟨d', ed', i, j, rfl, rfl, q⟩⟩⟩
  obtain ⟨H1, H2, eG, zy, zx⟩ := T2.two
  have := vw_int (dat_ok (ro := false) S2 zx ed)
  subst this
  have := vw_int (dat_ok (ro := false) S2 zy ed')
  subst this
  exact rng_run S2 q⟩
end
end HJ

set_option maxRecDepth 100000
set_option maxHeartbeats 4000000
/-! loops, comprehensions -/
namespace HJ
open PySem L2 HI
def asgK (P : List Nat) : Tg → Va → Dn → (Dn → Prop) → Prop
  | .nm i, va, E, K => decide (i ∈ P) = false ∧ zK E i (some va) K
  | .tp is, .fz (.tuple ds), E, K => setvK is (ds.map .fz) P E K
  | .tp _, _, _, _ => False
structure zA (P : List Nat) (t : Tg) (d : PyData) (E : Dn) (K : Dn → Prop) : Prop where
  go : asgK P t (.fz d) E K
structure zAv (P : List Nat) (t : Tg) (va : Va) (E : Dn) (K : Dn → Prop) : Prop where
  go : asgK P t va E K
section
variable {P : List Nat} {E : Dn} {K : Dn → Prop}
theorem ea_nm {i : Nat} {d : PyData} (hp : decide (i ∈ P) = false) (k : zK E i (some (.fz d)) K) : zA P (.nm i) d E K := ⟨⟨hp, k⟩⟩
theorem ea_tp {is : List Nat} {ds : List PyData} (k : zS is ds P E K) : zA P (.tp is) (.tuple ds) E K := ⟨k.go⟩
theorem eav_nm {i : Nat} {va : Va} (hp : decide (i ∈ P) = false) (k : zK E i (some va) K) : zAv P (.nm i) va E K := ⟨⟨hp, k⟩⟩
theorem eav_d {t : Tg} {d : PyData} (k : zA P t d E K) : zAv P t (.fz d) E K := ⟨k.go⟩
end
section
variable {W : Av} {h : Hh} {A : Av} {σ : Gm} {e : Ev} {E : Dn} {Fs : Fp}
theorem asgK_ok (S : St W h A σ e E Fs) {P : List Nat} {t : Tg} {va : Va} {v : V} {K : Dn → Prop} (z : VaR h A σ va v []) (k : asgK P t va E K) : ∃ e' E' Fs', HI.asg t v e h = some e' ∧ St W h A σ e' E' Fs' ∧ (∀ i ∈ P, e'[i]? = e[i]?) ∧ K E' := by
  cases t with
  | nm i =>
    obtain ⟨hp, k⟩ := k
    have S' := (S.take (G := []) k.lt z Fr.nil).1
    refine ⟨e.set i (some v), _, _, rfl, S', fun j hj => List.getElem?_set_ne fun q => ?_, k.go⟩
    subst q
    exact of_decide_eq_false hp hj
  | tp is =>
    cases va with
    | fz d =>
      cases d with
      | tuple ds =>
        have fz := z.1
        simp only [Fz] at fz
        obtain ⟨aa, xs, rfl, hs, fl⟩ := fz
        obtain ⟨e', E', Fs', q1, S', pr, kk⟩ := setv_ok S (VaL.fz fl) Fr.nil k
        refine ⟨e', E', Fs', ?_, S', pr, kk⟩
        show (match seqT h aa with | some xs => setAll is xs e | none => none) = _
        rw [hs]
        exact q1
      | _ => exact k.elim
    | _ => exact k.elim
end
theorem look_asg {t : Tg} {v : V} {e e' : Ev} {h : Hh} (q : HI.asg t v e h = some e') : look (HI.asg t v e) h = some (.ok e', h) := by
  show (HI.asg t v e h).map _ = _
  rw [q]; rfl
/-! for -/
structure WFor (C : DC) (P : List Nat) (w : Wd) (t : Tg) (s : Sms) (E : Dn) (Q : Fd → Dn → Prop) : Prop where
  run : ∀ (W : Av) (h : Hh) (A : Av) (σ : Gm) (e : Ev) (Fs : Fp) (iv : Iv), St W h A σ e E Fs → WR h A e w iv → RunS C.X P W h A σ e Q (forGo iv t (fun e => exs (cf C) s e) iv.size 0 e h)
section
variable {C : DC} {P : List Nat} {E : Dn} {Q : Fd → Dn → Prop} {c : Ex}
theorem ex_for {t : Tg} {it : HI.It} {s : Sms} (w : WI C it E fun w E1 => WFor C (w.vars ++ P) w t s E1 Q) : WS C P (.for_ t it s) E Q := ⟨fun W h A σ e Fs S => by
  simp only [HI.ex]
  refine Run.bindS (w.run W h A σ e Fs S) ?_
  rintro iv h1 A1 σ1 E1 Fs1 t1 S1 ⟨w, z, q⟩
  exact (q.run W h1 A1 σ1 e Fs1 iv S1 z).sub fun i hi => List.mem_append_right _ hi⟩
theorem efor_go {w : Wd} {P' : List Nat} {t : Tg} {s : Sms} {N : Nat} (Inv : Nat → Dn → Prop)
    (step : ∀ i E, i < N → Inv i E → ∃ va, w.itm i E = some va ∧ zAv (w.vars ++ P') t va E fun E1 => WB C (w.vars ++ P') s E1 fun f E2 => match f with
      | .nx => Inv (i + 1) E2
      | .ct => Inv (i + 1) E2
      | .bk => Q .nx E2
      | .rt r => Q (.rt r) E2)
    (ends : ∀ E, Inv N E → w.ends E = true ∧ Q .nx E) : ∀ (n i : Nat) (E : Dn), i + n = N → Inv i E → ∀ (W : Av) (h : Hh) (A : Av) (σ : Gm) (e : Ev) (Fs : Fp) (iv : Iv), St W h A σ e E Fs → WR h A e w iv → RunS C.X (w.vars ++ P') W h A σ e Q (forGo iv t (fun e => exs (cf C) s e) n i e h)
  | 0, i, E, hi, v, W, h, A, σ, e, Fs, iv, S, z => by
    obtain rfl : i = N := by omega
    obtain ⟨he, q⟩ := ends E v
    unfold forGo
    rw [if_pos (z.ends S he)]
    exact RunS.nx S q
  | n + 1, i, E, hi, v, W, h, A, σ, e, Fs, iv, S, z => by
    obtain ⟨va, hva, st⟩ := step i E (by omega) v
    obtain ⟨x, h1, ex1, t1, S1, zv⟩ := z.at S hva
    unfold forGo
    rw [HI.bd_eq ex1]
    obtain ⟨e1, E1, Fs1, ea, S2, pr, k⟩ := asgK_ok S1 zv st.go
    rw [HI.bd_eq (look_asg ea)]
    have r1 := k.run W h1 A σ e1 Fs1 S2
    refine RunS.after (t1.weak S.wa) pr ?_
    have z1 : WR h1 A e1 w iv := WR.go (t1.ok S.lt) (fun j hj => pr j (List.mem_append_left _ hj)) z
    unfold bd
    generalize exs (cf C) s e1 h1 = o at r1
    match o, r1 with
    | some (.ok fl, h'), ⟨A', σ', e', E', Fs', f, t', S', pr', flr, kq⟩ =>
      have z2 : WR h' A' e' w iv := WR.go (t'.ok S2.lt) (fun j hj => pr' j (List.mem_append_left _ hj)) z1
      cases f with
      | nx =>
        obtain rfl : fl = .nx e' := flr
        exact RunS.after t' pr' (efor_go Inv step ends n (i + 1) E' (by omega) kq W h' A' σ' e' Fs' iv S' z2)
      | ct =>
        obtain rfl : fl = .ct e' := flr
        exact RunS.after t' pr' (efor_go Inv step ends n (i + 1) E' (by omega) kq W h' A' σ' e' Fs' iv S' z2)
      | bk =>
        obtain rfl : fl = .bk e' := flr
        exact ⟨A', σ', e', E', Fs', .nx, t', S', pr', rfl, kq⟩
      | rt r =>
        obtain ⟨u, G, rfl, zr⟩ := flr
        exact ⟨A', σ', e', E', Fs', .rt r, t', S', pr', ⟨u, G, rfl, zr⟩, kq⟩
    | some (.ex cc fs, h'), r => exact r
theorem efor_v {w : Wd} {t : Tg} {s : Sms} {N : Nat} (Inv : Nat → Dn → Prop) (hn : w.n = N) (h0 : Inv 0 E)
    (step : ∀ i E, i < N → Inv i E → ∃ va, w.itm i E = some va ∧ zAv (w.vars ++ P) t va E fun E1 => WB C (w.vars ++ P) s E1 fun f E2 => match f with
      | .nx => Inv (i + 1) E2
      | .ct => Inv (i + 1) E2
      | .bk => Q .nx E2
      | .rt r => Q (.rt r) E2)
    (ends : ∀ E, Inv N E → w.ends E = true ∧ Q .nx E) : WFor C (w.vars ++ P) w t s E Q := ⟨fun W h A σ e Fs iv S z => by
  have hs : iv.size = N := by rw [← z.size, hn]
  rw [hs]
  exact efor_go Inv step ends N 0 E (by omega) h0 W h A σ e Fs iv S z⟩
theorem itm_at {w : Wd} {i : Nat} {d : PyData} (e : w.at i E = some d) : w.itm i E = some (.fz d) := by
  unfold Wd.itm
  rw [e]
theorem efor {w : Wd} {t : Tg} {s : Sms} {N : Nat} (Inv : Nat → Dn → Prop) (hn : w.n = N) (h0 : Inv 0 E)
    (step : ∀ i E, i < N → Inv i E → ∃ d, w.at i E = some d ∧ zA (w.vars ++ P) t d E fun E1 => WB C (w.vars ++ P) s E1 fun f E2 => match f with
      | .nx => Inv (i + 1) E2
      | .ct => Inv (i + 1) E2
      | .bk => Q .nx E2
      | .rt r => Q (.rt r) E2)
    (ends : ∀ E, Inv N E → w.ends E = true ∧ Q .nx E) : WFor C (w.vars ++ P) w t s E Q :=
  efor_v Inv hn h0 (fun i E hi v => by
    obtain ⟨d, e, k⟩ := step i E hi v
    exact ⟨.fz d, itm_at e, eav_d k⟩) ends
/-! while -/
theorem ex_while {n m0 : Nat} {s : Sms} (Inv : Nat → Dn → Prop) (hm : m0 < n) (h0 : Inv m0 E)
    (step : ∀ m E, Inv m E → WE C c E fun r E1 => TruQ r E1 fun k => zI k (WB C P s E1 fun f E2 => match f with
      | .nx => ∃ m', m' < m ∧ Inv m' E2
      | .ct => ∃ m', m' < m ∧ Inv m' E2
      | .bk => Q .nx E2
      | .rt r => Q (.rt r) E2) (Q .nx E1)) : WS C P (.while_ n c s) E Q := ⟨fun W h A σ e Fs S => by
  simp only [HI.ex]
  have go : ∀ (n m : Nat) (E : Dn), m < n → Inv m E → ∀ (W : Av) (h : Hh) (A : Av) (σ : Gm) (e : Ev) (Fs : Fp), St W h A σ e E Fs → RunS C.X P W h A σ e Q (whileGo (fun e => evT (cf C) c e) (fun e => exs (cf C) s e) n e h) := by
    intro n
    induction n with
    | zero => intro m E hm; omega
    | succ n ih =>
      intro m E hm v W h A σ e Fs S
      unfold whileGo
      have as : ∀ f : Bool → Mo Fl, bd (evT (cf C) c e) f h = bd (ev (cf C) c e) (fun x => bd (tru x) f) h := fun f => by
        unfold evT bd
        cases ev (cf C) c e h with
        | none => rfl
        | some p => rcases p with ⟨r, h1⟩; cases r <;> rfl
      rw [as]
      refine Run.bindS ((step m E v).pend0 S) ?_
      rintro x h1 A1 σ1 E1 Fs1 t1 S1 ⟨r, G1, T, f1, ⟨d, k, mm, tr, q⟩⟩
      rw [HI.bd_eq (tru_ok S1 T.one mm tr)]
      cases k with
      | false => exact RunS.nx S1 (zI_f q)
      | true =>
        have r1 := (zI_t q).run W h1 A1 σ1 e Fs1 S1
        rw [if_pos rfl]
        unfold bd
        generalize exs (cf C) s e h1 = o at r1
        match o, r1 with
        | some (.ok fl, h'), ⟨A', σ', e', E', Fs', f, t', S', pr', flr, kq⟩ =>
          cases f with
          | nx =>
            obtain rfl : fl = .nx e' := flr
            obtain ⟨m', hm', v'⟩ := kq
            exact RunS.after t' pr' (ih m' E' (by omega) v' W h' A' σ' e' Fs' S')
          | ct =>
            obtain rfl : fl = .ct e' := flr
            obtain ⟨m', hm', v'⟩ := kq
            exact RunS.after t' pr' (ih m' E' (by omega) v' W h' A' σ' e' Fs' S')
          | bk =>
            obtain rfl : fl = .bk e' := flr
            exact ⟨A', σ', e', E', Fs', .nx, t', S', pr', rfl, kq⟩
          | rt r =>
            obtain ⟨u, G, rfl, zr⟩ := flr
            exact ⟨A', σ', e', E', Fs', .rt r, t', S', pr', ⟨u, G, rfl, zr⟩, kq⟩
        | some (.ex cc fs, h'), r => exact r
  exact go n m0 E hm h0 W h A σ e Fs S⟩
end
/-! ### comprehensions -/
def wipeD (E : Dn) : List Nat → Dn
  | [] => E
  | v :: vs => (wipeD E vs).set v none
/-- the names of own as they were -/
def backD (E0 E : Dn) : List Nat → Dn
  | [] => E
  | v :: vs => match E0[v]? with
    | some o => (backD E0 E vs).set v o
    | none => backD E0 E vs
def setsD : List Nat → List PyData → Dn → Option Dn
  | [], [], E => some E
  | i :: is, d :: ds, E => setsD is ds (E.set i (some (.fz d)))
  | _, _, _ => none
def asgV (t : Tg) (va : Va) (E : Dn) : Option Dn := match t with
  | .nm i => some (E.set i (some va))
  | .tp is => match va with
    | .fz (.tuple ds) => setsD is ds E
    | _ => none
def asgD (t : Tg) (d : PyData) (E : Dn) : Option Dn := match t with
  | .nm i => some (E.set i (some (.fz d)))
  | .tp is => match d with
    | .tuple ds => setsD is ds E
    | _ => none
theorem asgD_v {t : Tg} {d : PyData} {E : Dn} : asgV t (.fz d) E = asgD t d E := by
  cases t with
  | nm i => rfl
  | tp is => cases d <;> rfl
def tsl : Tg → List Nat
  | .nm i => [i]
  | .tp is => is
theorem wipeD_len : ∀ (vs : List Nat) (E : Dn), (wipeD E vs).length = E.length
  | [], E => rfl
  | v :: vs, E => by show ((wipeD E vs).set v none).length = _; rw [List.length_set, wipeD_len]
theorem wipeD_get : ∀ {vs : List Nat} {E : Dn} {j : Nat}, j ∉ vs → (wipeD E vs)[j]? = E[j]?
  | [], E, j, h => rfl
  | v :: vs, E, j, h => by
    show ((wipeD E vs).set v none)[j]? = _
    rw [List.getElem?_set_ne fun q => h (by rw [q]; exact List.mem_cons_self), wipeD_get fun z => h (List.mem_cons_of_mem _ z)]
theorem wipeD_in : ∀ {vs : List Nat} {E : Dn} {j : Nat} {va : Va}, j ∈ vs → (wipeD E vs)[j]? ≠ some (some va)
  | v :: vs, E, j, va, h => by
    show ((wipeD E vs).set v none)[j]? ≠ _
    intro q
    rcases set_get q with ⟨_, q, _⟩ | ⟨hne, q⟩
    · cases q
    · rcases List.mem_cons.mp h with h | h
      · exact hne h
      · exact wipeD_in h q
theorem backD_len : ∀ (vs : List Nat) (E0 E : Dn), (backD E0 E vs).length = E.length
  | [], E0, E => rfl
  | v :: vs, E0, E => by
    unfold backD
    split
    · rw [List.length_set, backD_len]
    · exact backD_len vs E0 E
theorem backD_get : ∀ {vs : List Nat} {E0 E : Dn} {j : Nat}, E0.length = E.length → (backD E0 E vs)[j]? = if j ∈ vs then E0[j]? else E[j]?
  | [], E0, E, j, l => by simp [backD]
  | v :: vs, E0, E, j, l => by
    unfold backD
    have ih := backD_get (vs := vs) (E0 := E0) (E := E) (j := j) l
    split
    · rename_i o ho
      by_cases q : j = v
      · subst q
        have lv := lt_get ho
        rw [List.getElem?_set_self (by rw [backD_len, ← l]; exact lv), if_pos List.mem_cons_self, ho]
      · rw [List.getElem?_set_ne (Ne.symm q), ih]
        by_cases m : j ∈ vs
        · rw [if_pos m, if_pos (List.mem_cons_of_mem _ m)]
        · rw [if_neg m, if_neg fun z => (List.mem_cons.mp z).elim q m]
    · rename_i hn
      rw [ih]
      by_cases q : j = v
      · subst q
        rw [if_pos List.mem_cons_self]
        by_cases m : j ∈ vs
        · rw [if_pos m]
        · rw [if_neg m]
          have : ¬ j < E0.length := fun z => by rw [List.getElem?_eq_getElem z] at hn; cases hn
          rw [List.getElem?_eq_none (by omega), List.getElem?_eq_none (by omega)]
      · by_cases m : j ∈ vs
        · rw [if_pos m, if_pos (List.mem_cons_of_mem _ m)]
        · rw [if_neg m, if_neg fun z => (List.mem_cons.mp z).elim q m]
def offF (own : List Nat) (Fs : Fp) : Fp := fun j => if j ∈ own then [] else Fs j
theorem offF_in {own : List Nat} {Fs : Fp} {j b : Nat} (h : b ∈ offF own Fs j) : j ∉ own ∧ b ∈ Fs j := by
  unfold offF at h
  split at h
  · cases h
  · rename_i m; exact ⟨m, h⟩
section
variable {W : Av} {h : Hh} {A : Av} {σ : Gm} {e : Ev} {E : Dn} {Fs : Fp}
/-- without the comprehension's own names; their things are set aside -/
theorem St.wipe (S : St W h A σ e E Fs) (own : List Nat) {e' : Ev} (hl : e'.length = e.length) (he : ∀ j, j ∉ own → e'[j]? = e[j]?) : St W h A σ e' (wipeD E own) (offF own Fs) where
  len := by rw [hl, wipeD_len]; exact S.len
  sl := fun j va q => by
    by_cases m : j ∈ own
    · exact absurd q (wipeD_in m)
    · rw [wipeD_get m] at q
      obtain ⟨v, h1, h2⟩ := S.sl j va q
      refine ⟨v, (he j m).trans h1, ?_⟩
      unfold offF
      rw [if_neg m]
      exact h2
  em := fun j hj => by
    unfold offF
    by_cases m : j ∈ own
    · rw [if_pos m]
    · rw [if_neg m]
      exact S.em j fun va q => hj va (by rw [wipeD_get m]; exact q)
  nd := fun j => by
    unfold offF
    split
    · exact List.nodup_nil
    · exact S.nd j
  dj := fun i j b hi hj => S.dj i j b (offF_in hi).2 (offF_in hj).2
  ac := fun j b hb => S.ac j b (offF_in hb).2
  wa := S.wa
  lt := S.lt
  fin := S.fin
def ownW (W : Av) (own : List Nat) (Fs : Fp) : Av := fun b => W b ∨ ∃ j ∈ own, b ∈ Fs j
theorem St.wide (S : St W h A σ e E Fs) (own : List Nat) {e' : Ev} (hl : e'.length = e.length) (he : ∀ j, j ∉ own → e'[j]? = e[j]?) : St (ownW W own Fs) h A σ e' (wipeD E own) (offF own Fs) := by
  have S1 := S.wipe own hl he
  exact ⟨S1.len, S1.sl, S1.em, S1.nd, S1.dj, fun j b hb => ⟨(S1.ac j b hb).1, fun z => z.elim (S1.ac j b hb).2 fun ⟨i, hi, z⟩ => (offF_in hb).1 (by rw [S.dj j i b (offF_in hb).2 z]; exact hi)⟩, fun b z => z.elim (S.wa b) fun ⟨j, _, z⟩ => (S.ac j b z).1, S1.lt, S1.fin⟩
/-- .. and back -/
theorem St.home (S : St W h A σ e E Fs) (own : List Nat) {h' : Hh} {A' : Av} {σ' : Gm} {e' : Ev} {E' : Dn} {Fs' : Fp} (hl : e'.length = e.length) (he : ∀ j, j ∉ own → e'[j]? = e[j]?) (t : Tn (ownW W own Fs) h A σ h' A' σ') (S' : St (ownW W own Fs) h' A' σ' e' E' Fs') :
    ∃ Fs2, St W h' A' σ' e (backD E E' own) Fs2 ∧ ∀ i b, b ∈ Fs2 i → b ∈ Fs' i ∨ ownW W own Fs b := by
  have lE : E.length = E'.length := by rw [← S.len, ← hl, S'.len]
  refine ⟨fun j => if j ∈ own then Fs j else Fs' j, ?_, fun i b hb => ?_⟩
  · exact {
      len := by rw [backD_len, ← lE]; exact S.len
      sl := fun j va q => by
        rw [backD_get lE] at q
        by_cases m : j ∈ own
        · rw [if_pos m] at q
          obtain ⟨v, h1, h2⟩ := S.sl j va q
          refine ⟨v, h1, ?_⟩
          simp only [if_pos m]
          refine h2.ok (t.ok S.lt) t.gm fun b hb => t.same b (S.lt' (S.ac j b hb).1) (.inr (.inr ⟨j, m, hb⟩))
        · rw [if_neg m] at q
          obtain ⟨v, h1, h2⟩ := S'.sl j va q
          refine ⟨v, (he j m).symm.trans h1, ?_⟩
          simp only [if_neg m]
          exact h2
      em := fun j hj => by
        by_cases m : j ∈ own
        · simp only [if_pos m]
          exact S.em j fun va q => hj va (by rw [backD_get lE, if_pos m]; exact q)
        · simp only [if_neg m]
          exact S'.em j fun va q => hj va (by rw [backD_get lE, if_neg m]; exact q)
      nd := fun j => by
        split
        · exact S.nd j
        · exact S'.nd j
      dj := fun i j b hi hj => by
        by_cases m : i ∈ own
        · rw [if_pos m] at hi
          by_cases m2 : j ∈ own
          · rw [if_pos m2] at hj
            exact S.dj i j b hi hj
          · rw [if_neg m2] at hj
            exact absurd (.inr ⟨i, m, hi⟩) (S'.ac j b hj).2
        · rw [if_neg m] at hi
          by_cases m2 : j ∈ own
          · rw [if_pos m2] at hj
            exact absurd (.inr ⟨j, m2, hj⟩) (S'.ac i b hi).2
          · rw [if_neg m2] at hj
            exact S'.dj i j b hi hj
      ac := fun j b hb => by
        by_cases m : j ∈ own
        · rw [if_pos m] at hb
          exact ⟨t.keep b (.inr ⟨j, m, hb⟩), (S.ac j b hb).2⟩
        · rw [if_neg m] at hb
          exact ⟨(S'.ac j b hb).1, fun z => (S'.ac j b hb).2 (.inl z)⟩
      wa := fun b z => S'.wa b (.inl z)
      lt := S'.lt
      fin := S'.fin }
  · have hb : b ∈ (if i ∈ own then Fs i else Fs' i) := hb
    by_cases m : i ∈ own
    · rw [if_pos m] at hb
      exact .inr (.inr ⟨i, m, hb⟩)
    · rw [if_neg m] at hb
      exact .inl hb
theorem St.take2 (S : St W h A σ e E Fs) (i : Nat) {va : Va} {v : V} (z : VaR h A σ va v []) : ∃ Fs1, St W h A σ (e.set i (some v)) (E.set i (some va)) Fs1 ∧ ∀ j b, b ∈ Fs1 j → b ∈ Fs j := by
  by_cases l : i < E.length
  · refine ⟨_, (S.take (F := []) (G := []) l z Fr.nil).1, fun j b hb => ?_⟩
    by_cases q : j = i
    · subst q; rw [updF_same] at hb; cases hb
    · rw [updF_ne q] at hb; exact hb
  · have hl := S.len
    rw [List.set_eq_of_length_le (by omega), List.set_eq_of_length_le (by omega)]
    exact ⟨Fs, S, fun _ _ hb => hb⟩
theorem setsD_ok : ∀ {is : List Nat} {ds : List PyData} {vs : List V} {e : Ev} {E E1 : Dn} {Fs : Fp}, St W h A σ e E Fs → FzL h A ds vs → setsD is ds E = some E1 → ∃ e' Fs', setAll is vs e = some e' ∧ St W h A σ e' E1 Fs' ∧ (∀ j, j ∉ is → e'[j]? = e[j]?) ∧ e'.length = e.length ∧ ∀ j b, b ∈ Fs' j → b ∈ Fs j
  | [], [], vs, e, E, E1, Fs, S, z, q => by
    cases q
    simp only [FzL] at z
    subst z
    exact ⟨e, Fs, rfl, S, fun _ _ => rfl, rfl, fun _ _ hb => hb⟩
  | i :: is, d :: ds, vs, e, E, E1, Fs, S, z, q => by
    simp only [FzL] at z
    obtain ⟨x, r, rfl, a, b⟩ := z
    obtain ⟨Fs2, S1, hF⟩ := S.take2 i (va := .fz d) ⟨a, rfl⟩
    obtain ⟨e', Fs', h1, h2, h3, h4, h5⟩ := setsD_ok S1 b q
    exact ⟨e', Fs', h1, h2, fun j hj => (h3 j fun z => hj (List.mem_cons_of_mem _ z)).trans (List.getElem?_set_ne fun q => hj (by rw [q]; exact List.mem_cons_self)), by rw [h4, List.length_set], fun j b hb => hF j b (h5 j b hb)⟩
  | [], _ :: _, vs, e, E, E1, Fs, S, z, q => by cases q
  | _ :: _, [], vs, e, E, E1, Fs, S, z, q => by cases q
end
/-- a run that ends with the list made -/
structure WComp (C : DC) (own : List Nat) (t : Tg) (c el : Ex) (w : Wd) (E : Dn) (R : List Tr → Dn → Prop) : Prop where
  run : ∀ (W : Av) (h : Hh) (A : Av) (σ : Gm) (e : Ev) (Fs : Fp) (iv : Iv) (d : Nat), St W h A σ e E Fs → WR h A e w iv → h[d]? = some (.lst []) → Fr W A Fs [d] → (∀ j ∈ own, Fs j = []) → (∀ j ∈ own, ∀ va, E[j]? ≠ some (some va)) →
    Run noX W h A σ e (fun _ h' A' σ' E' Fs' => ∃ acc va G, h'[d]? = some (.lst va) ∧ TrL h' A' σ' acc va G ∧ Fr W A' Fs' (d :: G) ∧ R acc E') (compGo iv t (fun e => bd (ev (cf C) c e) tru) (fun e => ev (cf C) el e) d e iv.size 0 h)
def noX' (C : DC) : DC := { C with X := noX }
theorem Run.noX {α : Type} {X : Xp} {W : Av} {h : Hh} {A : Av} {σ : Gm} {e : Ev} {K : Kk α} {o : Option (Rs α × Hh)} (r : Run HJ.noX W h A σ e K o) : Run X W h A σ e K o := by
  match o, r with
  | some (.ok a, h'), r => exact r
  | some (.ex c fs, h'), ⟨A', σ', E', Fs', ds, t', s, f, k⟩ => exact k.elim
theorem Run.bindE {α β : Type} {W W' : Av} {h : Hh} {A : Av} {σ : Gm} {e e' : Ev} {K : Kk α} {K' : Kk β} {X : Xp} {m : Mo α} {f : α → Mo β} (r : Run HJ.noX W' h A σ e' K (m h))
    (k : ∀ a h1 A1 σ1 E1 Fs1, Tn W' h A σ h1 A1 σ1 → St W' h1 A1 σ1 e' E1 Fs1 → K a h1 A1 σ1 E1 Fs1 → Run X W h A σ e K' (f a h1)) : Run X W h A σ e K' (bd m f h) := by
  unfold bd
  generalize hm : m h = o at r
  match o, r with
  | some (.ok a, h'), ⟨A', σ', E', Fs', t, s, z⟩ => exact k _ _ _ _ _ _ t s z
  | some (.ex c fs, h'), ⟨A', σ', E', Fs', ds, t, s, f, z⟩ => exact z.elim
/-- another environment meanwhile -/
theorem Run.env {α : Type} {W : Av} {h : Hh} {A : Av} {σ : Gm} {e e1 : Ev} {K K' : Kk α} {o : Option (Rs α × Hh)} (X : Xp) (r : Run HJ.noX W h A σ e1 K o)
    (m : ∀ a h' A' σ' E' Fs', Tn W h A σ h' A' σ' → St W h' A' σ' e1 E' Fs' → K a h' A' σ' E' Fs' → ∃ E2 Fs2, St W h' A' σ' e E2 Fs2 ∧ K' a h' A' σ' E2 Fs2) : Run X W h A σ e K' o := by
  match o, r with
  | some (.ok a, h'), ⟨A', σ', E', Fs', t, s, k⟩ =>
    obtain ⟨E2, Fs2, s2, k2⟩ := m _ _ _ _ _ _ t s k
    exact ⟨A', σ', E2, Fs2, t, s2, k2⟩
  | some (.ex c fs, h'), ⟨A', σ', E', Fs', ds, t', s, f, k⟩ => exact k.elim
section
variable {C : DC} {own : List Nat} {t : Tg} {c el : Ex} {w : Wd} {N : Nat}
theorem wipe_set {E : Dn} : ∀ {is : List Nat} {ds : List PyData} {E E1 : Dn}, setsD is ds E = some E1 → E1.length = E.length
  | [], [], E, E1, q => by cases q; rfl
  | i :: is, d :: ds, E, E1, q => by rw [wipe_set (E := E) (is := is) (ds := ds) q, List.length_set]
  | [], _ :: _, E, E1, q => by cases q
  | _ :: _, [], E, E1, q => by cases q
/-- the turns -/
theorem comp_go (Inv : Nat → List Tr → Dn → Prop) (hs : ∀ i ∈ tsl t, i ∈ own) (hv : ∀ i ∈ w.vars, i ∉ own)
    (step : ∀ i acc E, i < N → Inv i acc E → ∃ va E1, w.itm i E = some va ∧ asgV t va E = some E1 ∧ WE (noX' C) c E1 fun r E2 => TruQ r E2 fun k => zI k (acc.length < sizeLine ∧ WE (noX' C) el E2 fun r E3 => GivQ r E3 fun y E4 => Inv (i + 1) (acc ++ [y]) (wipeD E4 own)) (Inv (i + 1) acc (wipeD E2 own)))
    {R : List Tr → Dn → Prop} (ends : ∀ acc E, Inv N acc E → w.ends E = true ∧ R acc E) : ∀ (n i : Nat) (acc : List Tr) (E : Dn), i + n = N → Inv i acc E → ∀ (W : Av) (h : Hh) (A : Av) (σ : Gm) (e : Ev) (Fs : Fp) (iv : Iv) (d : Nat) (va : List V) (G : List Nat),
    St W h A σ e E Fs → (∀ j ∈ own, Fs j = []) → (∀ j ∈ own, ∀ va, E[j]? ≠ some (some va)) → WR h A e w iv → h[d]? = some (.lst va) → TrL h A σ acc va G → Fr W A Fs (d :: G) →
    Run HJ.noX W h A σ e (fun _ h' A' σ' E' Fs' => ∃ acc va G, h'[d]? = some (.lst va) ∧ TrL h' A' σ' acc va G ∧ Fr W A' Fs' (d :: G) ∧ R acc E') (compGo iv t (fun e => bd (ev (cf C) c e) tru) (fun e => ev (cf C) el e) d e n i h)
  | 0, i, acc, E, hi, v, W, h, A, σ, e, Fs, iv, d, va, G, S, ho, ho2, z, hd, tl, fr => by
    obtain rfl : i = N := by omega
    obtain ⟨he, q⟩ := ends acc E v
    unfold compGo
    rw [if_pos (z.ends S he)]
    exact Run.ret S ⟨acc, va, G, hd, tl, fr, q⟩
  | n + 1, i, acc, E, hi, v, W, h, A, σ, e, Fs, iv, d, va, G, S, ho, ho2, z, hd, tl, fr => by
    obtain ⟨xa, E1, hva, hE1, st⟩ := step i acc E (by omega) v
    obtain ⟨x, h1, ex1, t1, S1, zv⟩ := z.at S hva
    unfold compGo
    rw [HI.bd_eq ex1]
    -- the names of the turn
    have asg : ∃ e1 Fs1, HI.asg t x e h1 = some e1 ∧ St W h1 A σ e1 E1 Fs1 ∧ (∀ j, j ∉ own → e1[j]? = e[j]?) ∧ e1.length = e.length ∧ ∀ j b, b ∈ Fs1 j → b ∈ Fs j := by
      cases t with
      | nm j =>
        cases hE1
        have hj : j ∈ own := hs j (by simp [tsl])
        obtain ⟨Fs2, S2, hF⟩ := S1.take2 j zv
        exact ⟨_, _, rfl, S2, fun k hk => List.getElem?_set_ne fun q => hk (by rw [← q]; exact hj), List.length_set, hF⟩
      | tp is =>
        cases xa with
        | fz dd =>
          cases dd with
          | tuple ds =>
            have fz := zv.1
            simp only [Fz] at fz
            obtain ⟨aa, xs, rfl, hsq, fl⟩ := fz
            obtain ⟨e', Fs', q1, q2, q3, q4, q5⟩ := setsD_ok S1 fl hE1
            refine ⟨e', Fs', ?_, q2, fun j hj => q3 j fun z => hj (hs j z), q4, q5⟩
            show (match seqT h1 aa with | some xs => setAll is xs e | none => none) = _
            rw [hsq]
            exact q1
          | _ => cases hE1
        | _ => cases hE1
    obtain ⟨e1, Fs1, ea, S2, he1, hl1, hF1⟩ := asg
    rw [HI.bd_eq (look_asg ea)]
    refine Run.after (t1.weak S.wa) ?_
    have fr1 : Fr W A Fs1 (d :: G) := Fr.mk fr.nd fr.ac fun j b hb y => fr.no j b hb (hF1 j b y)
    have hd1 : h1[d]? = some (.lst va) := (t1.same d (lt_get hd) (.inr (fr.ac d (by simp)).1)).trans hd
    have tl1 : TrL h1 A σ acc va G := TrL.ok (t1.ok S.lt) Sub.refl _ _ _ tl fun b hb => t1.same b (S.lt' (fr.ac b (by simp [hb])).1) (.inr (fr.ac b (by simp [hb])).1)
    have z1 : WR h1 A e w iv := WR.go (t1.ok S.lt) (fun _ _ => rfl) z
    -- back to the comprehension's own state
    have home : ∀ {h' : Hh} {A' : Av} {σ' : Gm} {E' : Dn} {Fs' : Fp} {W' : Av}, St W' h' A' σ' e1 E' Fs' → St W' h' A' σ' e (wipeD E' own) (offF own Fs') ∧ (∀ j ∈ own, offF own Fs' j = []) ∧ ∀ j ∈ own, ∀ va, (wipeD E' own)[j]? ≠ some (some va) := fun S' =>
      ⟨S'.wipe own hl1.symm fun j hj => (he1 j hj).symm, fun j hj => by unfold offF; rw [if_pos hj], fun j hj va => wipeD_in hj⟩
    -- the test
    have as : ∀ f : Bool → Mo Unit, bd (bd (ev (cf C) c e1) tru) f h1 = bd (ev (cf C) c e1) (fun x => bd (tru x) f) h1 := fun f => by
      unfold bd
      cases ev (cf C) c e1 h1 with
      | none => rfl
      | some p => rcases p with ⟨r, h1⟩; cases r <;> rfl
    rw [as]
    have rc := (st.run (plus W (d :: G)) h1 A σ e1 Fs1 (S2.aside fr1))
    have ecf : cf (noX' C) = cf C := rfl
    rw [ecf] at rc
    unfold bd
    generalize ev (cf C) c e1 h1 = o at rc
    match o, rc with
    | some (.ex cc fs, h'), ⟨A', σ', E', Fs', ds, t', s, f, k⟩ => exact k.elim
    | some (.ok cv, h2), ⟨A2, σ2, E2, Fs2, t2, S3, rr, Gc, zc, fc, dd, k, mm, tr, q⟩ =>
      have etr := tru_ok S3 zc mm tr
      show Run HJ.noX W h1 A σ e _ (bd (tru cv) _ h2)
      rw [HI.bd_eq etr]
      refine Run.after t2.back ?_
      have hd2 : h2[d]? = some (.lst va) := (t2.same d (lt_get hd1) (.inr (.inr (by simp)))).trans hd1
      have tl2 : TrL h2 A2 σ2 acc va G := TrL.ok (t2.ok S2.lt) t2.gm _ _ _ tl1 fun b hb => t2.same b (S2.lt' (fr1.ac b (by simp [hb])).1) (.inr (.inr (by simp [hb])))
      have fr2 := fr1.still t2 S3
      have z2 : WR h2 A2 e w iv := WR.go (t2.ok S2.lt) (fun _ _ => rfl) z1
      cases k with
      | false =>
        rw [if_neg Bool.false_ne_true]
        obtain ⟨S4, ho4, ho5⟩ := home S3.back
        exact comp_go Inv hs hv step ends n (i + 1) acc _ (by omega) (zI_f q) W h2 A2 σ2 e _ iv d va G S4 ho4 ho5 z2 hd2 tl2 (Fr.mk fr2.nd fr2.ac fun j b hb y => fr2.no j b hb (offF_in y).2)
      | true =>
        rw [if_pos rfl]
        obtain ⟨hlen, q⟩ := zI_t q
        have re := q.run (plus W (d :: G)) h2 A2 σ2 e1 Fs2 S3
        rw [ecf] at re
        generalize ev (cf C) el e1 h2 = o2 at re
        match o2, re with
        | some (.ex cc fs, h'), ⟨A', σ', E', Fs', ds, t', s, f, k⟩ => exact k.elim
        | some (.ok yv, h3), ⟨A3, σ3, E3, Fs3, t3, S5, ry, Gy, zy, fy, gq⟩ =>
          obtain ⟨A4, E4, Fs4, ty, Gt, t4, S6, zt, ft, iv4, _⟩ := gq.go (plus W (d :: G)) h3 A3 σ3 e1 Fs3 yv Gy S5 zy fy
          refine Run.after (t3.back.trans t4.back) ?_
          have hd3 : h3[d]? = some (.lst va) := (t3.same d (lt_get hd2) (.inr (.inr (by simp)))).trans hd2
          have tl3 : TrL h3 A4 σ3 acc va G := TrL.ok (t4.ok S5.lt) Sub.refl _ _ _ (TrL.ok (t3.ok S3.lt) t3.gm _ _ _ tl2 fun b hb => t3.same b (S3.lt' (fr2.ac b (by simp [hb])).1) (.inr (.inr (by simp [hb])))) fun _ _ => rfl
          have fr3 := (fr2.still t3 S5).still t4 S6
          have z3 : WR h3 A4 e w iv := WR.go (t4.ok S5.lt) (fun _ _ => rfl) (WR.go (t3.ok S3.lt) (fun _ _ => rfl) z2)
          obtain ⟨S7, ho7, ho8⟩ := home S6.back
          have fr4 : Fr W A4 (offF own Fs4) ((d :: G) ++ Gt) := ((Fr.mk fr3.nd fr3.ac fun j b hb y => fr3.no j b hb (offF_in y).2).two (Fr.mk ft.nd ft.ac fun j b hb y => ft.no j b hb (offF_in y).2)).perm List.perm_append_comm
          -- the list grows
          have ep : push d yv h3 = some (.ok (), h3.set d (.lst (va ++ [yv]))) := by
            unfold push
            rw [lstAt_of hd3]
            dsimp only
            rw [if_pos (by rw [← TrL.len tl3]; exact hlen)]
          show Run HJ.noX W h3 A4 σ3 e _ (bd (push d yv) _ h3)
          rw [HI.bd_eq ep]
          obtain ⟨tn, lt⟩ := tn_set S7 (ob := .lst (va ++ [yv])) (F0 := [d]) (σ' := σ3) hd3 (fr4.ac d (by simp)).1 (by simp) rfl Sub.refl
          have wk : ∀ b, W b → A4 b ∧ b ∉ [d] := fun b hb => ⟨S7.wa b hb, fun y => (fr4.ac d (by simp)).2 (by rw [← List.mem_singleton.mp y]; exact hb)⟩
          have S8 := S7.tn tn wk (fun j b hb => ⟨(S7.ac j b hb).1, fun y => fr4.no j d (by simp) (by rw [← List.mem_singleton.mp y]; exact hb)⟩) lt S7.fin
          refine Run.after (tn.weak wk) ?_
          have dn : d ∉ G ++ Gt := (List.nodup_cons.mp (show (d :: (G ++ Gt)).Nodup from fr4.nd)).1
          have tl4 : TrL (h3.set d (.lst (va ++ [yv]))) A4 σ3 (acc ++ [ty]) (va ++ [yv]) (G ++ (Gt ++ [])) := TrL.ok (tn.ok S7.lt) Sub.refl _ _ _ (TrL.app tl3 (by simp only [TrL]; exact ⟨yv, [], Gt, [], rfl, zt, by simp, rfl⟩)) fun b hb => List.getElem?_set_ne fun q => dn (by rw [q]; simpa using hb)
          rw [List.append_nil] at tl4
          exact comp_go Inv hs hv step ends n (i + 1) (acc ++ [ty]) _ (by omega) iv4 W _ A4 σ3 e _ iv d _ _ S8 ho7 ho8 (WR.go (tn.ok S7.lt) (fun _ _ => rfl) z3) (List.getElem?_set_self (lt_get hd3)) tl4 fr4
theorem ecomp_run {E : Dn} (Inv : Nat → List Tr → Dn → Prop) (hn : w.n = N) (h0 : Inv 0 [] E) (hs : ∀ i ∈ tsl t, i ∈ own) (hv : ∀ i ∈ w.vars, i ∉ own)
    (step : ∀ i acc E, i < N → Inv i acc E → ∃ va E1, w.itm i E = some va ∧ asgV t va E = some E1 ∧ WE (noX' C) c E1 fun r E2 => TruQ r E2 fun k => zI k (acc.length < sizeLine ∧ WE (noX' C) el E2 fun r E3 => GivQ r E3 fun y E4 => Inv (i + 1) (acc ++ [y]) (wipeD E4 own)) (Inv (i + 1) acc (wipeD E2 own)))
    {R : List Tr → Dn → Prop} (ends : ∀ acc E, Inv N acc E → w.ends E = true ∧ R acc E) : WComp C own t c el w E R := ⟨fun W h A σ e Fs iv d S z hd fr ho ho2 => by
  have hsz : iv.size = N := by rw [← z.size, hn]
  rw [hsz]
  exact comp_go Inv hs hv step ends N 0 [] E (by omega) h0 W h A σ e Fs iv d [] [] S ho ho2 z hd (by simp [TrL]) fr⟩
theorem all_mem {xs own : List Nat} (h : (xs.all fun i => decide (i ∈ own)) = true) : ∀ i ∈ xs, i ∈ own := fun i hi => of_decide_eq_true (List.all_eq_true.mp h i hi)
theorem all_not {xs own : List Nat} (h : (xs.all fun i => !decide (i ∈ own)) = true) : ∀ i ∈ xs, i ∉ own := fun i hi => by
  have := List.all_eq_true.mp h i hi
  simpa using this
/-- a comprehension -/
theorem comp_run {it : HI.It} {E : Dn} {Q : Re → Dn → Prop} (wi : WI C it E fun w E1 => (w.vars.all fun i => !decide (i ∈ own)) = true ∧ WComp C own t c el w (wipeD E1 own) fun acc E2 => (∃ ds, acc = ds.map .fz ∧ Q (.own (.list ds)) (backD E1 E2 own)) ∨ ∀ n, Q (.tr (.lst n acc)) (backD E1 E2 own)) : WE C (.comp own t it c el) E Q := ⟨fun W h A σ e Fs S0 => by
  simp only [HI.ev]
  refine Run.bind (wi.run W h A σ e Fs S0) ?_
  rintro iv h1 A1 σ1 E1 Fs1 t1 S1 ⟨w, z, hv, wc⟩
  unfold compL
  obtain ⟨t2, S2⟩ := S1.new (ob := .lst []) rfl Sub.refl S1.fin
  show Run C.X W h1 A1 σ1 e (KE W e Q) (bd (compGo iv t (fun e => bd (ev (cf C) c e) tru) (fun e => ev (cf C) el e) h1.length (wipeE e own) iv.size 0) (fun _ => rt (.ref h1.length)) (h1 ++ [.lst []]))
  refine Run.after (t2.weak S1.wa) ?_
  have fr := Fr.new S1 Fr.nil
  have hl : (wipeE e own).length = e.length := wipeE_len own e
  have he : ∀ j, j ∉ own → (wipeE e own)[j]? = e[j]? := fun j hj => wipeE_get own e j hj
  have S3 := S2.wide own hl he
  have f3 : Fr (ownW W own Fs1) (newA A1 h1.length) (offF own Fs1) [h1.length] := Fr.mk fr.nd (fun b hb => ⟨(fr.ac b hb).1, fun y => y.elim (fr.ac b hb).2 fun ⟨j, _, y⟩ => fr.no j b hb y⟩) fun j b hb y => fr.no j b hb (offF_in y).2
  have z3 : WR (h1 ++ [.lst []]) (newA A1 h1.length) (wipeE e own) w iv := WR.go (t2.ok S1.lt) (fun j hj => he j (all_not hv j hj)) z
  have r := wc.run (ownW W own Fs1) _ _ σ1 (wipeE e own) (offF own Fs1) iv h1.length S3 z3 getNew f3 (fun j hj => by unfold offF; rw [if_pos hj]) fun j hj va => wipeD_in hj
  refine Run.bindE r ?_
  · rintro _ h' A' σ' E' Fs' t' S' ⟨acc, va, G, hd, tl, f', k⟩
    obtain ⟨Fs2, S4, hF⟩ := S2.home own hl he t' S'
    have f4 : Fr W A' Fs2 (h1.length :: G) := Fr.mk f'.nd (fun b hb => ⟨(f'.ac b hb).1, fun y => (f'.ac b hb).2 (.inl y)⟩) fun j b hb y => by
      rcases hF j b y with y | y
      · exact f'.no j b hb y
      · exact (f'.ac b hb).2 y
    have tW : Tn W (h1 ++ [.lst []]) (newA A1 h1.length) σ1 h' A' σ' := t'.weak fun b y => .inl y
    rcases k with ⟨ds, rfl, q⟩ | q
    · have nil : ∀ {ds : List PyData} {va : List V} {G : List Nat}, TrL h' A' σ' (ds.map .fz) va G → FzL h' A' ds va ∧ G = [] := by
        intro ds
        induction ds with
        | nil =>
          intro va G z
          simp only [List.map_nil, TrL] at z
          rw [z.1]
          exact ⟨FzL.nil, z.2⟩
        | cons d ds ih =>
          intro va G z
          simp only [List.map_cons, TrL, TrR] at z
          obtain ⟨x, r, F1, F2, rfl, ⟨a, rfl⟩, b, rfl⟩ := z
          obtain ⟨i1, i2⟩ := ih b
          exact ⟨FzL.cons a i1, by simp [i2]⟩
      obtain ⟨fl, rfl⟩ := nil tl
      refine ⟨A', σ', _, Fs2, tW, S4, .own (.list ds), [h1.length], ?_, f4, q⟩
      show TrR h' A' σ' (.own (.list ds)) _ _
      simp only [TrR]
      exact ⟨h1.length, .lst va, rfl, hd, ⟨va, rfl, fl⟩, rfl⟩
    · obtain ⟨n, σ2, hn, gs, fin⟩ := S4.num (.lst va)
      obtain ⟨tg, S5⟩ := S4.gm gs fin
      refine ⟨A', σ2, _, Fs2, tW.trans (tg.weak S4.wa), S5, .tr (.lst n acc), h1.length :: G, ?_, f4, q n⟩
      show TrR h' A' σ2 (.lst n acc) _ _
      simp only [TrR]
      exact ⟨h1.length, va, G, rfl, hd, hn, TrL.ok (tg.ok S4.lt) gs _ _ _ tl fun _ _ => rfl, rfl⟩⟩
end
/-- made of data -/
structure WCompF (C : DC) (own : List Nat) (t : Tg) (c el : Ex) (w : Wd) (E : Dn) (R : List PyData → Dn → Prop) : Prop where
  go : (∀ i ∈ tsl t, i ∈ own) → (∀ i ∈ w.vars, i ∉ own) → WComp C own t c el w E fun acc E' => ∃ ds, acc = ds.map .fz ∧ R ds E'
structure WCompT (C : DC) (own : List Nat) (t : Tg) (c el : Ex) (w : Wd) (E : Dn) (R : List Tr → Dn → Prop) : Prop where
  go : (∀ i ∈ tsl t, i ∈ own) → (∀ i ∈ w.vars, i ∉ own) → WComp C own t c el w E R
theorem WComp.mono {C : DC} {own : List Nat} {t : Tg} {c el : Ex} {w : Wd} {E : Dn} {R R' : List Tr → Dn → Prop} (w1 : WComp C own t c el w E R) (m : ∀ acc E, R acc E → R' acc E) : WComp C own t c el w E R' :=
  ⟨fun W h A σ e Fs iv d S z hd fr ho ho2 => (w1.run W h A σ e Fs iv d S z hd fr ho ho2).mono fun _ h' A' σ' E' Fs' _ _ ⟨acc, va, G, a, b, c, r⟩ => ⟨acc, va, G, a, b, c, m _ _ r⟩⟩
section
variable {own : List Nat} {t : Tg} {c el : Ex}
theorem WI.mono {C : DC} {it : HI.It} {E : Dn} {R R' : Wd → Dn → Prop} (w : WI C it E R) (m : ∀ w E, R w E → R' w E) : WI C it E R' :=
  ⟨fun W h A σ e Fs S => (w.run W h A σ e Fs S).mono fun iv h' A' σ' E' Fs' _ _ ⟨w, z, q⟩ => ⟨w, z, m _ _ q⟩⟩
theorem ew_comp {C : DC} {it : HI.It} {E : Dn} {Q : Re → Dn → Prop} (wi : WI C it E fun w E1 => ((tsl t).all (fun i => decide (i ∈ own)) = true ∧ (w.vars.all fun i => !decide (i ∈ own)) = true) ∧
    WCompF C own t c el w (wipeD E1 own) fun acc E2 => Q (.own (.list acc)) (backD E1 E2 own)) : WE C (.comp own t it c el) E Q :=
  comp_run (wi.mono fun w E1 ⟨⟨h1, h2⟩, wc⟩ => ⟨h2, (wc.go (all_mem h1) (all_not h2)).mono fun acc E2 ⟨ds, e, q⟩ => .inl ⟨ds, e, q⟩⟩)
theorem ew_compT {C : DC} {it : HI.It} {E : Dn} {Q : Re → Dn → Prop} (wi : WI C it E fun w E1 => ((tsl t).all (fun i => decide (i ∈ own)) = true ∧ (w.vars.all fun i => !decide (i ∈ own)) = true) ∧
    WCompT C own t c el w (wipeD E1 own) fun acc E2 => ∀ n, Q (.tr (.lst n acc)) (backD E1 E2 own)) : WE C (.comp own t it c el) E Q :=
  comp_run (wi.mono fun w E1 ⟨⟨h1, h2⟩, wc⟩ => ⟨h2, (wc.go (all_mem h1) (all_not h2)).mono fun acc E2 q => .inr q⟩)
theorem ecomp {T : Pr} {k : Nat} {X : Xp} {E : Dn} {w : Wd} {N : Nat} {R : List PyData → Dn → Prop} (Inv : Nat → List PyData → Dn → Prop) (hn : w.n = N) (h0 : Inv 0 [] E)
    (step : ∀ i acc E, i < N → Inv i acc E → ∃ d E1, w.at i E = some d ∧ asgD t d E = some E1 ∧ WE (dC T k noX) c E1 fun r E2 => TruQ r E2 fun kk => zI kk (acc.length < sizeLine ∧ WE (dC T k noX) el E2 fun r E3 => FrzQ r E3 fun y E4 => Inv (i + 1) (acc ++ [y]) (wipeD E4 own)) (Inv (i + 1) acc (wipeD E2 own)))
    (ends : ∀ acc E, Inv N acc E → w.ends E = true ∧ R acc E) : WCompF (dC T k X) own t c el w E R := ⟨fun hs hv => by
  refine ecomp_run (fun i acc E => ∃ ds, acc = ds.map .fz ∧ Inv i ds E) hn ⟨[], rfl, h0⟩ hs hv ?_ ?_
  · rintro i acc E hi ⟨ds, rfl, v⟩
    obtain ⟨d, E1, h1, h2, h3⟩ := step i ds E hi v
    refine ⟨.fz d, E1, itm_at h1, by rw [asgD_v]; exact h2, WE_mono h3 ?_⟩
    rintro r E2 ⟨d, k, m, tr, q⟩
    refine ⟨d, k, m, tr, ?_⟩
    cases k with
    | true =>
      obtain ⟨l, q⟩ := zI_t q
      refine eq_t ⟨by rw [List.length_map]; exact l, WE_mono q fun r E3 f => g_frz ⟨fun W h A σ e Fs v G S z fr => ?_⟩⟩
      obtain ⟨A', E', Fs', d, a, b, c, v⟩ := f.go W h A σ e Fs v G S z fr
      exact ⟨A', E', Fs', d, a, b, c, ds ++ [d], by simp, v⟩
    | false => exact eq_f ⟨ds, rfl, zI_f q⟩
  · rintro acc E ⟨ds, rfl, v⟩
    obtain ⟨h1, h2⟩ := ends ds E v
    exact ⟨h1, ds, rfl, h2⟩⟩
/-- its parts owned -/
theorem ecompT {T : Pr} {k : Nat} {X : Xp} {E : Dn} {w : Wd} {N : Nat} {R : List Tr → Dn → Prop} (Inv : Nat → List Tr → Dn → Prop) (hn : w.n = N) (h0 : Inv 0 [] E)
    (step : ∀ i acc E, i < N → Inv i acc E → ∃ va E1, w.itm i E = some va ∧ asgV t va E = some E1 ∧ WE (dC T k noX) c E1 fun r E2 => TruQ r E2 fun kk => zI kk (acc.length < sizeLine ∧ WE (dC T k noX) el E2 fun r E3 => GivQ r E3 fun y E4 => Inv (i + 1) (acc ++ [y]) (wipeD E4 own)) (Inv (i + 1) acc (wipeD E2 own)))
    (ends : ∀ acc E, Inv N acc E → w.ends E = true ∧ R acc E) : WCompT (dC T k X) own t c el w E R := ⟨fun hs hv => ecomp_run (C := dC T k X) Inv hn h0 hs hv (fun i acc E hi v => step i acc E hi v) ends⟩
end
end HJ

set_option maxRecDepth 100000
set_option maxHeartbeats 4000000
/-! defs; the law -/
namespace HJ
open PySem L2 HI
/-- given back -/
structure RetQ (P : List Nat) (r : Re) (E : Dn) (K : Re → Dn → Prop) : Prop where
  go : ∀ (W : Av) (h : Hh) (A : Av) (σ : Gm) (e : Ev) (Fs : Fp) (v : V) (G : List Nat), St W h A σ e E Fs → RR h A σ e r v G → Fr W A Fs G → ∃ A' E' Fs' r' G', Tn W h A σ h A' σ ∧ St W h A' σ e E' Fs' ∧ RR h A' σ e r' v G' ∧ Fr W A' Fs' G' ∧ plainRe r' = true ∧ K r' E'
section
variable {P : List Nat} {E : Dn} {K : Re → Dn → Prop}
theorem t_giv {r : Re} (k : GivQ r E fun t E' => K (reT t) E') : RetQ P r E K := ⟨fun W h A σ e Fs v G S z f => by
  obtain ⟨A', E', Fs', t, G', a, b, c, d, k, _⟩ := k.go W h A σ e Fs v G S z f
  cases t with
  | fz d0 =>
    simp only [TrR] at c
    exact ⟨A', E', Fs', .fz d0, [], a, b, ⟨c.1, rfl⟩, Fr.nil, rfl, k⟩
  | own d0 => exact ⟨A', E', Fs', .own d0, G', a, b, c, d, rfl, k⟩
  | lst n ts => exact ⟨A', E', Fs', .tr (.lst n ts), G', a, b, c, d, rfl, k⟩
  | tup n ts => exact ⟨A', E', Fs', .tr (.tup n ts), G', a, b, c, d, rfl, k⟩
  | ins n cl ts => exact ⟨A', E', Fs', .tr (.ins n cl ts), G', a, b, c, d, rfl, k⟩⟩
theorem t_frz {r : Re} (k : FrzQ r E fun d E' => K (.fz d) E') : RetQ P r E K := ⟨fun W h A σ e Fs v G S z f => by
  obtain ⟨A', E', Fs', d, a, b, c, k⟩ := k.go W h A σ e Fs v G S z f
  exact ⟨A', E', Fs', .fz d, [], a, b, ⟨c, rfl⟩, Fr.nil, rfl, k⟩⟩
theorem t_fz {d : PyData} (k : K (.fz d) E) : RetQ P (.fz d) E K := t_giv (g_fz k)
theorem t_own {d : PyData} (k : K (.own d) E) : RetQ P (.own d) E K := t_giv (g_own k)
theorem t_tr {t : Tr} (p : plainRe (reT t) = true) (k : K (reT t) E) : RetQ P (.tr t) E K := t_giv (g_tr k)
theorem et_var {i : Nat} {d : PyData} (hp : decide (i ∈ P) = false) (e : slotV E i = some (.own d)) (k : zK E i none fun E' => K (.own d) E') : RetQ P (.var i) E K := t_giv (g_var e (zK_mono k fun _ h => h))
theorem et_varT {i : Nat} {t : Tr} (hp : decide (i ∈ P) = false) (e : slotV E i = some (.tr t)) (k : zK E i none fun E' => K (reT t) E') : RetQ P (.var i) E K := t_giv (g_varT e (zK_mono k fun _ h => h))
theorem et_varP {i : Nat} {d : PyData} (hp : decide (i ∈ P) = true) (e : slotV E i = some (.own d)) (k : zK E i (some (.fz d)) fun E' => K (.fz d) E') : RetQ P (.var i) E K := t_frz (ef_var e (zK_mono k fun _ h => h))
theorem et_varPT {i : Nat} {t : Tr} (hp : decide (i ∈ P) = true) (e : slotV E i = some (.tr t)) (k : zK E i (some (.fz t.d)) fun E' => K (.fz t.d) E') : RetQ P (.var i) E K := t_frz (ef_varT e (zK_mono k fun _ h => h))
end
def osGo (P : List Nat) : Nat → Nat → Dn → List (Option Va)
  | _, 0, _ => []
  | j, m + 1, [] => none :: osGo P (j + 1) m []
  | j, m + 1, o :: E => (if j ∈ P then o else none) :: osGo P (j + 1) m E
def mkOs (P : List Nat) (m : Nat) (E : Dn) : List (Option Va) := osGo P 0 m E
theorem osGo_len {P : List Nat} : ∀ {m k : Nat} {E : Dn}, (osGo P k m E).length = m
  | 0, k, E => by cases E <;> rfl
  | m + 1, k, [] => congrArg (· + 1) osGo_len
  | m + 1, k, o :: E => congrArg (· + 1) osGo_len
theorem osGo_get {P : List Nat} : ∀ {m k : Nat} {E : Dn} {j : Nat} {va : Va}, (osGo P k m E)[j]? = some (some va) → k + j ∈ P ∧ j < m ∧ E[j]? = some (some va)
  | 0, k, E, j, va, q => by cases E <;> simp [osGo] at q
  | m + 1, k, [], 0, va, q => by simp [osGo] at q
  | m + 1, k, [], j + 1, va, q => by
    have := osGo_get (P := P) (m := m) (k := k + 1) (E := []) (j := j) (va := va) (by simpa [osGo] using q)
    simp at this
  | m + 1, k, o :: E, 0, va, q => by
    have q : some (if k ∈ P then o else none) = some (some va) := q
    split at q
    · rename_i hp
      cases q
      exact ⟨hp, Nat.succ_pos m, rfl⟩
    · cases q
  | m + 1, k, o :: E, j + 1, va, q => by
    obtain ⟨h1, h2, h3⟩ := osGo_get (P := P) (m := m) (k := k + 1) (E := E) (j := j) (va := va) (by simpa [osGo] using q)
    exact ⟨by rw [show k + (j + 1) = k + 1 + j by omega]; exact h1, by omega, by simpa using h3⟩
structure zF (P : List Nat) (m : Nat) (Q : Re → Dn → Prop) (f : Fd) (E : Dn) : Prop where
  go : match f with
    | .nx => Q (.fz .none) (mkOs P m E)
    | .rt r => RetQ P r E fun r' E' => Q r' (mkOs P m E')
    | _ => False
theorem fq_nx {P : List Nat} {m : Nat} {Q : Re → Dn → Prop} {E : Dn} (k : Q (.fz .none) (mkOs P m E)) : zF P m Q .nx E := ⟨k⟩
theorem fq_rt {P : List Nat} {m : Nat} {Q : Re → Dn → Prop} {r : Re} {E : Dn} (k : RetQ P r E fun r' E' => Q r' (mkOs P m E')) : zF P m Q (.rt r) E := ⟨k⟩
/-- the arguments that are the caller's own things -/
def ownIx : Nat → List Va → List Nat
  | _, [] => []
  | i, .own _ :: r => i :: ownIx (i + 1) r
  | i, .tr _ :: r => i :: ownIx (i + 1) r
  | i, _ :: r => ownIx (i + 1) r
theorem ownIx_lt : ∀ {vas : List Va} {k j : Nat}, j ∈ ownIx k vas → k ≤ j ∧ j < k + vas.length
  | [], k, j, h => by simp [ownIx] at h
  | va :: vas, k, j, h => by
    have tl : j ∈ ownIx (k + 1) vas → k ≤ j ∧ j < k + (va :: vas).length := fun z => by
      have := ownIx_lt z
      rw [List.length_cons]; omega
    cases va with
    | own d =>
      rcases List.mem_cons.mp (show j ∈ k :: ownIx (k + 1) vas from h) with rfl | h
      · rw [List.length_cons]; omega
      · exact tl h
    | tr d =>
      rcases List.mem_cons.mp (show j ∈ k :: ownIx (k + 1) vas from h) with rfl | h
      · rw [List.length_cons]; omega
      · exact tl h
    | fz d => exact tl h
    | rol d => exact tl h
    | bor i q m kk => exact tl h
section
variable {W : Av} {h : Hh} {A : Av} {σ : Gm} {e : Ev} {E : Dn} {Fs : Fp}
/-- the names that are no arguments -/
theorem St.more (S : St W h A σ e E Fs) (n : Nat) : St W h A σ (e ++ List.replicate n none) (E ++ List.replicate n none) Fs where
  len := by rw [List.length_append, List.length_append, S.len]; simp
  sl := fun j va q => by
    have lt : j < E.length := by
      rcases Nat.lt_or_ge j E.length with z | z
      · exact z
      · rw [List.getElem?_append_right z, List.getElem?_replicate] at q
        split at q <;> cases q
    rw [List.getElem?_append_left lt] at q
    obtain ⟨v, h1, h2⟩ := S.sl j va q
    exact ⟨v, by rw [List.getElem?_append_left (by rw [S.len]; exact lt)]; exact h1, h2⟩
  em := fun j hj => by
    refine S.em j fun va q => hj va ?_
    rw [List.getElem?_append_left (lt_get q)]
    exact q
  nd := S.nd
  dj := S.dj
  ac := S.ac
  wa := S.wa
  lt := S.lt
  fin := S.fin
theorem mkOs_get {P : List Nat} {m : Nat} {E : Dn} {j : Nat} {va : Va} (q : (mkOs P m E)[j]? = some (some va)) : j ∈ P ∧ j < m ∧ E[j]? = some (some va) := by
  have := osGo_get (show (osGo P 0 m E)[j]? = some (some va) from q)
  rwa [Nat.zero_add] at this
/-- what is left of it for the caller -/
theorem St.outsOf {e0 : Ev} {m : Nat} {P : List Nat} (S : St W h A σ e E Fs) (l0 : e0.length = m) (pr : ∀ i ∈ P, e[i]? = e0[i]?) : St W h A σ e0 (mkOs P m E) (fun j => if (mkOs P m E)[j]?.join.isSome then Fs j else []) where
  len := by
    unfold mkOs
    rw [osGo_len, l0]
  sl := fun j va q => by
    obtain ⟨hp, hj, he⟩ := mkOs_get q
    obtain ⟨v, h1, h2⟩ := S.sl j va he
    refine ⟨v, (pr j hp).symm.trans h1, ?_⟩
    rw [q]
    exact h2
  em := fun j hj => by
    cases q : (mkOs P m E)[j]? with
    | none => rfl
    | some o =>
      cases o with
      | none => rfl
      | some va => exact absurd q (hj va)
  nd := fun j => by
    split
    · exact S.nd j
    · exact List.nodup_nil
  dj := fun i j b hi hj => by
    split at hi
    · split at hj
      · exact S.dj i j b hi hj
      · cases hj
    · cases hi
  ac := fun j b hb => by
    split at hb
    · exact S.ac j b hb
    · cases hb
  wa := S.wa
  lt := S.lt
  fin := S.fin
end
/-- a def by its body -/
theorem ecpx_of {T : Pr} {k n : Nat} {f : String} {b : Sms} {vas : List Va} {Q : Re → Dn → Prop} {Y : Xp} (hT : T.lookup f = some (n, b))
    (w : WB (dC T k fun c ds E => Y c ds (mkOs (ownIx 0 vas) vas.length E)) (ownIx 0 vas) b (vas.map some ++ List.replicate (n - vas.length) none) (zF (ownIx 0 vas) vas.length Q)) : cpx T (k + 1) f vas Q Y := ⟨fun W h A σ vs Fs S => by
  have hl : vs.length = vas.length := by have := S.len; rwa [List.length_map, List.length_map] at this
  have el : callD T.D (cfOf T.I) (k + 1) f vs h = body (cf (dC T k fun c ds E => Y c ds (mkOs (ownIx 0 vas) vas.length E))) n b vs h := by
    have hT : T.D.lookup f = some (n, b) := hT
    show (match T.D.lookup f with | some (n, b) => body { cfOf T.I with call := callD T.D (cfOf T.I) k } n b vs | none => no) h = _
    rw [hT]; rfl
  rw [el]
  unfold body
  have S0 := S.more (n - vas.length)
  have r := w.run W h A σ (vs.map some ++ List.replicate (n - vas.length) none) Fs S0
  rw [hl]
  unfold bd
  generalize exs (cf (dC T k fun c ds E => Y c ds (mkOs (ownIx 0 vas) vas.length E))) b (vs.map some ++ List.replicate (n - vas.length) none) h = o at r
  have back : ∀ {W' : Av} {h' : Hh} {A' : Av} {σ' : Gm} {e' : Ev} {E' : Dn} {Fs' : Fp}, St W' h' A' σ' e' E' Fs' → (∀ i ∈ ownIx 0 vas, e'[i]? = (vs.map some ++ List.replicate (n - vas.length) none)[i]?) →
      ∃ Fs2, St W' h' A' σ' (vs.map some) (mkOs (ownIx 0 vas) vas.length E') Fs2 ∧ ∀ i b, b ∈ Fs2 i → b ∈ Fs' i := fun {W' h' A' σ' e' E' Fs'} S' pr => by
    refine ⟨_, S'.outsOf (by rw [List.length_map]; exact hl) fun i hi => (pr i hi).trans ?_, fun i b hb => ?_⟩
    · have := ownIx_lt hi
      exact List.getElem?_append_left (by rw [List.length_map]; omega)
    · split at hb
      · exact hb
      · cases hb
  match o, r with
  | some (.ok fl, h'), ⟨A', σ', e', E', Fs', ff, t', S', pr, flr, kq⟩ =>
    cases ff with
    | nx =>
      obtain rfl : fl = .nx e' := flr
      obtain ⟨Fs2, S2, _⟩ := back S' pr
      exact ⟨A', σ', _, Fs2, t', S2, .fz .none, [], ⟨fz_none, rfl⟩, Fr.nil, kq.go⟩
    | bk => exact kq.go.elim
    | ct => exact kq.go.elim
    | rt r =>
      obtain ⟨v, G, rfl, zr, fr⟩ := flr
      obtain ⟨A2, E2, Fs3, r', G', t2, S3, z2, f2, pl, q⟩ := (show RetQ _ r E' _ from kq.go).go W h' A' σ' e' Fs' v G S' zr fr
      obtain ⟨Fs2, S2, hF⟩ := back S3 pr
      exact ⟨A2, σ', _, Fs2, t'.trans t2, S2, r', G', z2.plain pl, Fr.mk f2.nd f2.ac (fun i b hb z => f2.no i b hb (hF i b z)), q⟩
  | some (.ex c fs, h'), ⟨A', σ', e', E', Fs', ds, t', S', pr, f, x⟩ =>
    obtain ⟨Fs2, S2, _⟩ := back S' pr
    exact ⟨A', σ', _, Fs2, ds, t', S2, f, x⟩⟩
theorem ecp_of {T : Pr} {k n : Nat} {f : String} {b : Sms} {vs : List Va} {Q : Re → Dn → Prop} (hT : T.lookup f = some (n, b))
    (w : WB (dC T k noX) (ownIx 0 vs) b (vs.map some ++ List.replicate (n - vs.length) none) (zF (ownIx 0 vs) vs.length Q)) : cp T (k + 1) f vs Q := ecpx_of hT w
/-! the law -/
theorem law_sem {T : Pr} {k : Nat} {q : String} {ns : List Int} (c : cp T k q [.rol (ns.map PyData.int)] fun r _ => r = .fz (.bool true)) :
    ∃ h', callD T.D (cfOf T.I) k q [.ref 0] [.rol (ns.map V.int)] = some (.ok (.bl true), h') := by
  have fz : ∀ (h : Hh) (l : List Int), FzL h (fun _ => False) (l.map PyData.int) (l.map V.int) := by
    intro h l
    induction l with
    | nil => exact FzL.nil
    | cons i l ih => exact FzL.cons fz_int ih
  have S : St (fun _ => False) [.rol (ns.map V.int)] (fun _ => False) (fun _ => none) ([V.ref 0].map some) ([Va.rol (ns.map PyData.int)].map some) (fun _ => []) := {
    len := rfl
    sl := fun i va z => by
      cases i with
      | zero => cases z; exact ⟨.ref 0, rfl, ⟨0, ns.map V.int, rfl, rfl, fz _ ns⟩, rfl⟩
      | succ i => simp at z
    em := fun _ _ => rfl
    nd := fun _ => List.nodup_nil
    dj := fun i j b h => by cases h
    ac := fun i b h => by cases h
    wa := fun b z => z.elim
    lt := fun b z => z.elim
    fin := ⟨0, fun _ _ => rfl⟩ }
  have r := c.go _ _ _ _ [.ref 0] _ S
  generalize hc : callD T.D (cfOf T.I) k q [.ref 0] [.rol (ns.map V.int)] = o at r
  match o, r with
  | some (.ok v, h'), ⟨A', σ', E', Fs', t, s, r, G, z, f, e⟩ =>
    have e : r = .fz (.bool true) := e
    subst e
    have : v = .bl true := by have := z.1; simpa only [Fz] using this
    subst this
    exact ⟨h', rfl⟩
  | some (.ex c fs, h'), ⟨A', σ', E', Fs', ds, t, s, f, k⟩ => exact k.elim
end HJ

set_option maxRecDepth 100000
set_option maxHeartbeats 1000000
namespace HJ
open PySem L2 HI
section
variable {T : Pr} {k0 : Nat} {X : Xp} {E : Dn} {a : Ex} {es : Exs}
theorem ew_fld {Q : Re → Dn → Prop} {f : Str} (w : WE (dC T k0 X) a E fun r E1 => FldP T.I f r E1 fun r' => Q r' E1) : WE (dC T k0 X) (.fld a f) E Q := ew_fld_g w
theorem em_r {Q : Re → Dn → Prop} {ms : String} {r : Re} {c : Nat} (hm : hasMOf T.I c ms = true) (w : WA (dC T k0 X) es E fun rs E1 => CallQ (dC T k0 X) (cnameOf T.I c ++ "." ++ ms) (r :: rs) E1 Q) : MethQ (dC T k0 X) ms es r E Q (.ins c) := em_r_g hm w
theorem ex_asgF {P : List Nat} {Q : Fd → Dn → Prop} {o : Ex} {f : Str} (w : WE (dC T k0 X) a E fun r E1 => WE (dC T k0 X) o E1 fun q E2 => FstQ T.I r q E2 f (Q .nx)) : WS (dC T k0 X) P (.asgFld o f a) E Q := ex_asgF_g w
end
/-! operations, by kinds -/
section
variable {K : Re → Prop} {i j : Int} {x y : PyData}
theorem q_add_i (h : K (.fz (.int (i + j)))) : OpQ .add (.int i) (.int j) K := ⟨_, rfl, h⟩
theorem q_sub_i (h : K (.fz (.int (i - j)))) : OpQ .sub (.int i) (.int j) K := ⟨_, rfl, h⟩
theorem q_lt_i (h : K (.fz (.bool (decide (i < j))))) : OpQ .lt (.int i) (.int j) K := ⟨_, rfl, h⟩
theorem q_le_i (h : K (.fz (.bool (decide (i ≤ j))))) : OpQ .le (.int i) (.int j) K := ⟨_, rfl, h⟩
theorem q_gt_i (h : K (.fz (.bool (decide (j < i))))) : OpQ .gt (.int i) (.int j) K := ⟨_, rfl, h⟩
theorem q_ge_i (h : K (.fz (.bool (decide (j ≤ i))))) : OpQ .ge (.int i) (.int j) K := ⟨_, rfl, h⟩
theorem shaped_i (i : Int) : SeqAt.shaped (.int i) = true := by
  simp [SeqAt.shaped, PyData.canLay0, PyData.depth]
theorem eqP_i (i j : Int) : eqP (.int i) (.int j) = some (decide (i = j)) := by
  have : (i == j) = decide (i = j) := by rw [Bool.eq_iff_iff]; simp
  simp [eqP, eqP0, shaped_i, PyData.eqv, this]
theorem q_eq_i (h : K (.fz (.bool (decide (i = j))))) : OpQ .eq (.int i) (.int j) K := ⟨.fz _, by simp only [opD, eqP_i, Option.map_some], h⟩
theorem q_ne_i (h : K (.fz (.bool (!decide (i = j))))) : OpQ .ne (.int i) (.int j) K := ⟨.fz _, by simp only [opD, eqP_i, Option.map_some], h⟩
theorem q_eq_s {s t : Str} (h : K (.fz (.bool (decide (s = t))))) : OpQ .eq (.str s) (.str t) K := ⟨_, rfl, h⟩
theorem q_ne_s {s t : Str} (h : K (.fz (.bool (!decide (s = t))))) : OpQ .ne (.str s) (.str t) K := ⟨_, rfl, h⟩
theorem log2_lt {n : Nat} (h : n < 2 ^ 200) : n.log2 < 200 := by
  by_cases hn : n = 0
  · subst hn; decide
  · exact (Nat.log2_lt hn).mpr h
theorem q_mul_i (hi : i.natAbs < 2 ^ 200) (hj : j.natAbs < 2 ^ 200) (h : K (.fz (.int (i * j)))) : OpQ .mul (.int i) (.int j) K := by
  have a := log2_lt hi
  have b := log2_lt hj
  have e : intOp .mul i j = some (.int (i * j)) := if_pos (by omega)
  exact ⟨.fz _, by simp only [opD, mulD, intD, e, Option.bind_some, vD, Option.map_some], h⟩
theorem q_fdiv_i (h0 : 0 < j) (h1 : j.natAbs < 2 ^ 200) (h : K (.fz (.int (i / j)))) : OpQ .fdiv (.int i) (.int j) K := by
  have b := log2_lt h1
  have e : intOp .fdiv i j = some (.int (i / j)) := if_pos ⟨h0, by omega⟩
  exact ⟨.fz _, by simp only [opD, intD, e, Option.bind_some, vD, Option.map_some], h⟩
theorem q_mod_i (h0 : 0 < j) (h : K (.fz (.int (i % j)))) : OpQ .mod (.int i) (.int j) K := by
  have e : intOp .mod i j = some (.int (i % j)) := if_pos h0
  exact ⟨.fz _, by simp only [opD, intD, e, Option.bind_some, vD, Option.map_some], h⟩
theorem q_pow_18 (h : K (.fz (.int 1000000000000000000))) : OpQ .pow (.int 10) (.int 18) K := ⟨.fz _, by rfl, h⟩
theorem q_is_b {a b : Bool} (h : K (.fz (.bool (decide (a = b))))) : OpQ .is_ (.bool a) (.bool b) K := ⟨_, rfl, h⟩
theorem q_isn_b {a b : Bool} (h : K (.fz (.bool (!decide (a = b))))) : OpQ .isnot (.bool a) (.bool b) K := ⟨_, rfl, h⟩
theorem q_is_n (h : K (.fz (.bool (isNoneD x)))) : OpQ .is_ x .none K := ⟨_, rfl, h⟩
theorem q_isn_n (h : K (.fz (.bool (!isNoneD x)))) : OpQ .isnot x .none K := ⟨_, rfl, h⟩
theorem q_add_l {xs ys : List PyData} (l : xs.length + ys.length ≤ sizeLine) (h : K (.own (.list (xs ++ ys)))) : OpQ .add (.list xs) (.list ys) K := ⟨_, if_pos l, h⟩
theorem q_add_t {xs ys : List PyData} (l : xs.length + ys.length ≤ sizeLine) (h : K (.fz (.tuple (xs ++ ys)))) : OpQ .add (.tuple xs) (.tuple ys) K := ⟨_, if_pos l, h⟩
theorem q_mul_l {xs : List PyData} (l : (-(2 ^ 63) ≤ j ∧ j < 2 ^ 63) ∧ xs.length * j.toNat ≤ sizeLine) (h : K (.own (.list (List.replicate j.toNat xs).flatten))) : OpQ .mul (.list xs) (.int j) K := ⟨_, if_pos l, h⟩
end
theorem q_idx_nn {xs : List PyData} {k : Int} {K : PyData → Prop} (h0 : 0 ≤ k) (h1 : k < xs.length) (h : ∀ d, xs[k.toNat]? = some d → K d) : IdxQ (.list xs) (.int k) K := by
  have hk : k.toNat < xs.length := by omega
  refine ⟨xs[k.toNat], ?_, h _ (List.getElem?_eq_getElem hk)⟩
  show atI xs k = _
  unfold atI ixN
  rw [if_pos h0, if_pos h1]
  exact List.getElem?_eq_getElem hk
theorem q_idxT_nn {xs : List PyData} {k : Int} {K : PyData → Prop} (h0 : 0 ≤ k) (h1 : k < xs.length) (h : ∀ d, xs[k.toNat]? = some d → K d) : IdxQ (.tuple xs) (.int k) K := by
  have hk : k.toNat < xs.length := by omega
  refine ⟨xs[k.toNat], ?_, h _ (List.getElem?_eq_getElem hk)⟩
  show atI xs k = _
  unfold atI ixN
  rw [if_pos h0, if_pos h1]
  exact List.getElem?_eq_getElem hk
def tlS : Sms → Sms
  | .cons _ r => r
  | r => r
def thS : Sms → Sms
  | .cons (.ite _ t _) _ => t
  | _ => .nil
def elS : Sms → Sms
  | .cons (.ite _ _ t) _ => t
  | _ => .nil
def foS : Sms → Sms
  | .cons (.for_ _ _ t) _ => t
  | _ => .nil
theorem q_slcT {d : PyData} {lo hi : Option Int} {r : HI.Re} {K : Re → Prop} (e : sliceD d lo hi = some r) (h : K (reOf r)) : SlcQ d lo hi K := ⟨r, e, h⟩
theorem side {A B : Prop} (a : A) (b : B) : A ∧ B := ⟨a, b⟩
theorem side_int {d : PyData} {i : Int} {K : Int → Prop} (e : d = .int i) (h : K i) : ∃ i, d = .int i ∧ K i := ⟨i, e, h⟩
theorem side_int2 {d d' : PyData} {i j : Int} {K : Int → Int → Prop} (e : d = .int i) (e' : d' = .int j) (h : K i j) : ∃ i j, d = .int i ∧ d' = .int j ∧ K i j := ⟨i, j, e, e', h⟩
theorem side_bool {r : Re} {k : Bool} {K : Bool → Prop} (e : r = .fz (.bool k)) (h : K k) : ∃ k, r = .fz (.bool k) ∧ K k := ⟨k, e, h⟩
theorem side_var {r : Re} {j : Nat} {K : Nat → Prop} (e : r = .var j) (h : K j) : ∃ j, r = .var j ∧ K j := ⟨j, e, h⟩
theorem side_some {α : Type} {o : Option α} {v : α} {K : α → Prop} (e : o = some v) (h : K v) : ∃ v, o = some v ∧ K v := ⟨v, e, h⟩
end HJ

set_option maxRecDepth 100000
set_option maxHeartbeats 4000000
/-! a list whose parts are owned, its parts given up -/
namespace HJ
open PySem L2 HI
theorem g_flat {C : DC} {P : List Nat} {s : Sms} {E : Dn} {Q : Fd → Dn → Prop} {i n : Nat} {ts : List Tr} (q : slotV E i = some (.tr (.lst n ts))) (k : zK E i (some (.own (.list (dL ts)))) fun E' => WB C P s E' Q) : WB C P s E Q := ⟨fun W h A σ e Fs S => by
  obtain ⟨v, ev, r⟩ := S.get q
  have r : TrR h A σ (.lst n ts) v (Fs i) := r
  simp only [TrR] at r
  obtain ⟨a, xs, G, rfl, g, sg, r, eF⟩ := r
  have nd := S.nd i
  rw [eF] at nd
  obtain ⟨t, S'⟩ := S.give (F := G) (R := [a]) (va := .tr (.lst n ts)) (va' := .own (.list (dL ts))) ev (by rw [eF]; exact List.perm_append_comm (l₁ := [a]) (l₂ := G)) (by
    show TrR h (drop A G) σ (.own (.list (dL ts))) (.ref a) [a]
    simp only [TrR]
    exact ⟨a, _, rfl, g, ⟨xs, rfl, TrL.gone ok_drop ts xs G r fun b hb z => z.2 hb⟩, rfl⟩)
  exact RunS.after t (fun _ _ => rfl) (k.go.run W h _ σ e _ S')⟩
theorem em_appT {E : Dn} {K : Dn → Prop} {i n : Nat} {us : List Tr} {t : Tr} (e : slotV E i = some (.tr (.lst n us))) (l : us.length < sizeLine) (k : ∀ n, zK E i (some (.tr (.lst n (us ++ [t])))) K) : ModN (.var i) E "append" [t] K :=
  ⟨.lst n us, us, us ++ [t], by simp only [tgT, e, trOf], rfl, if_pos l, fun m => ⟨k m⟩⟩
theorem em_revT {E : Dn} {K : Dn → Prop} {i n : Nat} {us : List Tr} (e : slotV E i = some (.tr (.lst n us))) (k : ∀ n, zK E i (some (.tr (.lst n us.reverse))) K) : ModN (.var i) E "reverse" [] K :=
  ⟨.lst n us, us, us.reverse, by simp only [tgT, e, trOf], rfl, rfl, fun m => ⟨k m⟩⟩
theorem getP_lst {E : Dn} {i n j : Nat} {ts : List Tr} {c : Tr} (e : slotV E i = some (.tr (.lst n ts))) (e2 : ts[j]? = some c) : getP E i [] n (.ix j) = some c := by
  unfold getP
  rw [e]
  simp [getT, stT, chT, e2]
theorem q_recP {m : Str} {E : Dn} {i n j : Nat} {ts : List Tr} {c : Tr} {k : Rk} {K : Rk → Prop} (e : slotV E i = some (.tr (.lst n ts))) (e2 : ts[j]? = some c) (e3 : recvT m c = some k) (h : K k) : RecQ m E (.pt i [] n (.ix j)) K :=
  ⟨k, by show (match getP E i [] n (.ix j) with | some t => recvT m t | none => none) = some k; rw [getP_lst e e2]; exact e3, h⟩
end HJ

set_option maxRecDepth 100000
set_option maxHeartbeats 1000000
/-! data that are equal to themselves and print -/
namespace HJ
open PySem L2 HI
structure Nice (d : PyData) (w dp : Nat) : Prop where
  lay : d.canLay0 = true
  dep : d.depth ≤ dp
  sho : d.showable = true
  ish : d.intsShort 50 = true
  wt : d.weight ≤ w
structure NiceL (ds : List PyData) (w dp : Nat) : Prop where
  lay : PyData.canLayAll0 ds = true
  dep : PyData.depthAll ds ≤ dp
  sho : PyData.showableAll ds = true
  ish : PyData.intsShortAll 50 ds = true
  wt : PyData.weightAll ds ≤ w
theorem Nice.mono {d : PyData} {w w' dp dp' : Nat} (n : Nice d w dp) (h : w ≤ w') (h2 : dp ≤ dp') : Nice d w' dp' := ⟨n.lay, Nat.le_trans n.dep h2, n.sho, n.ish, Nat.le_trans n.wt h⟩
theorem NiceL.mono {d : List PyData} {w w' dp dp' : Nat} (n : NiceL d w dp) (h : w ≤ w') (h2 : dp ≤ dp') : NiceL d w' dp' := ⟨n.lay, Nat.le_trans n.dep h2, n.sho, n.ish, Nat.le_trans n.wt h⟩
theorem int_small {i : Int} (h : i.natAbs < 10 ^ 40) : i.natAbs.log2 < 134 := by
  by_cases hn : i.natAbs = 0
  · rw [hn]; decide
  · refine (Nat.log2_lt hn).mpr (Nat.lt_of_lt_of_le h (by decide))
theorem nice_int {i : Int} (h : i.natAbs < 10 ^ 40) : Nice (.int i) 134 0 := by
  have hl := int_small h
  refine ⟨by simp [PyData.canLay0], by simp [PyData.depth], ?_, ?_, ?_⟩
  · simp only [PyData.showable, decide_eq_true_eq]; omega
  · simp only [PyData.intsShort, decide_eq_true_eq]
    have e := int_text_length_le10 (a := i) (k := 40) (by decide) h
    show (Str.ofString (toString i)).length ≤ 50
    rw [ofString_length]; omega
  · simp only [PyData.weight]
    split <;> omega
theorem nice_bool {b : Bool} : Nice (.bool b) 0 0 := ⟨by simp [PyData.canLay0], by simp [PyData.depth], by simp [PyData.showable], by simp [PyData.intsShort], by simp [PyData.weight]⟩
theorem nice_none : Nice .none 0 0 := ⟨by simp [PyData.canLay0], by simp [PyData.depth], by simp [PyData.showable], by simp [PyData.intsShort], by simp [PyData.weight]⟩
theorem nice_str {s : Str} {n : Nat} (h1 : PyData.strOk s = true) (h2 : s.cps.size ≤ n) : Nice (.str s) n 0 := ⟨by simpa [PyData.canLay0] using h1, by simp [PyData.depth], by simp [PyData.showable], by simp [PyData.intsShort], by simpa [PyData.weight] using h2⟩
theorem nl_nil {dp : Nat} : NiceL [] 0 dp := ⟨by simp [PyData.canLayAll0], by simp [PyData.depthAll], by simp [PyData.showableAll], by simp [PyData.intsShortAll], by simp [PyData.weightAll]⟩
theorem nl_cons {d : PyData} {ds : List PyData} {w w' dp : Nat} (a : Nice d w dp) (b : NiceL ds w' dp) : NiceL (d :: ds) (w + 1 + w') dp := by
  refine ⟨?_, ?_, ?_, ?_, ?_⟩
  · simp only [PyData.canLayAll0, a.lay, b.lay]; rfl
  · have := a.dep
    have := b.dep
    simp only [PyData.depthAll]; omega
  · simp only [PyData.showableAll, a.sho, b.sho]; rfl
  · simp only [PyData.intsShortAll, a.ish, b.ish]; rfl
  · have := a.wt
    have := b.wt
    simp only [PyData.weightAll]; omega
theorem nl_all {w dp : Nat} : ∀ {ds : List PyData}, (∀ d ∈ ds, Nice d w dp) → NiceL ds (ds.length * (w + 1)) dp
  | [], _ => (nl_nil : NiceL [] 0 dp).mono (Nat.zero_le _) (Nat.le_refl _)
  | d :: ds, h => by
    have := nl_cons (h d List.mem_cons_self) (nl_all fun x hx => h x (List.mem_cons_of_mem _ hx))
    refine this.mono ?_ (Nat.le_refl _)
    rw [List.length_cons, Nat.add_mul]
    omega
theorem nice_tup {ds : List PyData} {w dp : Nat} (a : NiceL ds w dp) : Nice (.tuple ds) w (dp + 1) := by
  refine ⟨by simpa only [PyData.canLay0] using a.lay, ?_, by simpa only [PyData.showable] using a.sho, by simpa only [PyData.intsShort] using a.ish, by simpa only [PyData.weight] using a.wt⟩
  have := a.dep
  simp only [PyData.depth]; omega
theorem nice_lst {ds : List PyData} {w dp : Nat} (a : NiceL ds w dp) : Nice (.list ds) w (dp + 1) := by
  refine ⟨by simpa only [PyData.canLay0] using a.lay, ?_, by simpa only [PyData.showable] using a.sho, by simpa only [PyData.intsShort] using a.ish, by simpa only [PyData.weight] using a.wt⟩
  have := a.dep
  simp only [PyData.depth]; omega
theorem nl_mem {ds : List PyData} {w dp : Nat} (a : NiceL ds w dp) : ∀ d ∈ ds, Nice d w dp := by
  induction ds generalizing w with
  | nil => intro d h; cases h
  | cons x ds ih =>
    have h1 : x.canLay0 = true ∧ PyData.canLayAll0 ds = true := by simpa only [PyData.canLayAll0, Bool.and_eq_true] using a.lay
    have h2 : max x.depth (PyData.depthAll ds) ≤ dp := by simpa only [PyData.depthAll] using a.dep
    have h3 : x.showable = true ∧ PyData.showableAll ds = true := by simpa only [PyData.showableAll, Bool.and_eq_true] using a.sho
    have h4 : x.intsShort 50 = true ∧ PyData.intsShortAll 50 ds = true := by simpa only [PyData.intsShortAll, Bool.and_eq_true] using a.ish
    have h5 : x.weight + 1 + PyData.weightAll ds ≤ w := by simpa only [PyData.weightAll] using a.wt
    intro d hd
    rcases List.mem_cons.mp hd with rfl | hd
    · exact ⟨h1.1, by omega, h3.1, h4.1, by omega⟩
    · exact ih (w := w) ⟨h1.2, by omega, h3.2, h4.2, by omega⟩ d hd
section
variable {d : PyData} {w dp : Nat}
theorem Nice.shaped (n : Nice d w dp) (h : dp ≤ 64) : SeqAt.shaped d = true := by
  unfold SeqAt.shaped
  rw [n.lay, Bool.true_and, decide_eq_true_eq]
  exact Nat.le_trans n.dep h
theorem Nice.repr (n : Nice d w dp) (h : dp ≤ 64) (hw : w ≤ 300000) : reprD d = some (.str d.shown) := by
  have l := PyData.shown_le 50 (by decide) d (PyData.leavesShort_of_canLay0 50 d n.lay n.ish)
  have wl := n.wt
  refine if_pos ⟨n.shaped h, n.sho, PyData.hasDict_of_canLay _ n.lay, ?_⟩
  unfold sizeLine
  omega
theorem Nice.eq (n : Nice d w dp) (h : dp ≤ 64) : eqP d d = some true := by
  have : eqP0 d d = some true := by
    unfold eqP0
    rw [if_pos ⟨n.shaped h, n.shaped h⟩, SeqAt.eqv_refl _ n.lay]
  cases d with
  | str s => show some (decide (s = s)) = _; simp
  | _ => exact this
theorem q_eq_refl {K : Re → Prop} (n : Nice d w dp) (h : dp ≤ 64) (k : K (.fz (.bool true))) : OpQ .eq d d K := ⟨.fz _, by simp only [opD, n.eq h, Option.map_some], k⟩
theorem q_ne_refl {K : Re → Prop} (n : Nice d w dp) (h : dp ≤ 64) (k : K (.fz (.bool false))) : OpQ .ne d d K := ⟨.fz _, by simp only [opD, n.eq h, Option.map_some]; rfl, k⟩
theorem q_repr {K : Re → Prop} (n : Nice d w dp) (h : dp ≤ 64) (hw : w ≤ 300000) (k : K (.fz (.str d.shown))) : BfnQ "repr" [d] K := ⟨.fz _, by show (reprD d).map HI.Re.fz = _; rw [n.repr h hw]; rfl, k⟩
end
end HJ

set_option maxRecDepth 100000
namespace B
open PySem L2 HI
def meets_bound : Sms := (.cons (.asg (.tp [2, 3, 4]) (.slot 1)) (.cons (.ite (.bin .eq (.slot 3) (.cst (.str "least"))) (.cons (.ret (.bin .ge (.idx (.slot 0) (.slot 2)) (.slot 4))) .nil) .nil) (.cons (.ret (.bin .le (.idx (.slot 0) (.slot 2)) (.slot 4))) .nil)))
def meets : Sms := (.cons (.ret (.bcall "all" (.cons (.comp [2] (.nm 2) (.seq (.slot 1)) (.cst (.bl true)) (.call "meets_bound" (.cons (.slot 0) (.cons (.slot 2) .nil)))) .nil))) .nil)
def missed : Sms := (.cons (.ret (.bcall "sorted" (.cons (.comp [2] (.nm 2) (.seq (.slot 1)) (.not (.call "meets_bound" (.cons (.slot 0) (.cons (.slot 2) .nil)))) (.slot 2)) .nil))) .nil)
def _law_bag : Sms := (.cons (.ret (.lst (.cons (.cst (.int (0))) (.cons (.cst (.int (1234567891))) (.cons (.cst (.int (0))) (.cons (.comp [1] (.nm 1) (.seq (.slc (.slot 0) false (.cst .non) true (.cst (.int (63))))) (.cst (.bl true)) (.bcall "abs" (.cons (.slot 1) .nil))) .nil)))))) .nil)
def _law_take : Sms := (.cons (.ite (.bin .eq (.idx (.slot 0) (.cst (.int (0)))) (.cst (.int (0)))) (.cons (.asg (.nm 4) (.cst (.int (0)))) (.cons (.ite (.bin .lt (.idx (.slot 0) (.cst (.int (2)))) (.bcall "len" (.cons (.idx (.slot 0) (.cst (.int (3)))) .nil))) (.cons (.asg (.nm 4) (.idx (.idx (.slot 0) (.cst (.int (3)))) (.idx (.slot 0) (.cst (.int (2)))))) .nil) .nil) (.cons (.augSub (.slot 0) (.cst (.int (2))) .add (.cst (.int (1)))) (.cons (.ite (.bin .ge (.slot 4) (.cst (.int (1000000000000000000)))) (.cons (.asgSub (.slot 0) (.cst (.int (0))) (.slot 4)) .nil) .nil) (.cons (.asgSub (.slot 0) (.cst (.int (1))) (.bin .mod (.bin .add (.bin .add (.bin .mul (.idx (.slot 0) (.cst (.int (1)))) (.cst (.int (48271)))) (.bin .mod (.slot 4) (.cst (.int (2147483647))))) (.bin .mul (.cst (.int (7919))) (.idx (.slot 0) (.cst (.int (2)))))) (.cst (.int (2147483647))))) .nil))))) .nil) (.cons (.ite (.bin .gt (.idx (.slot 0) (.cst (.int (0)))) (.cst (.int (0)))) (.cons (.asg (.nm 5) (.bin .mod (.idx (.slot 0) (.cst (.int (0)))) (.slot 1))) (.cons (.asgSub (.slot 0) (.cst (.int (0))) (.bin .fdiv (.idx (.slot 0) (.cst (.int (0)))) (.slot 1))) (.cons (.ret (.slot 5)) .nil))) .nil) (.cons (.asg (.nm 2) (.bin .mod (.bin .mul (.bin .add (.idx (.slot 0) (.cst (.int (1)))) (.cst (.int (1)))) (.cst (.int (39373)))) (.cst (.int (1000000007))))) (.cons (.asg (.nm 3) (.bin .mod (.bin .mul (.bin .mod (.bin .mul (.slot 2) (.slot 2)) (.cst (.int (998244353)))) (.cst (.int (30011)))) (.cst (.int (998244353))))) (.cons (.ite (.bin .gt (.slot 1) (.cst (.int (1000000)))) (.cons (.ret (.bin .mod (.bin .add (.bin .mul (.slot 3) (.cst (.int (1000000007)))) (.slot 2)) (.slot 1))) .nil) .nil) (.cons (.ret (.bin .mod (.bin .fdiv (.slot 3) (.cst (.int (7)))) (.slot 1))) .nil))))))
def _law_alike : Sms := (.cons (.ret (.and (.bin .eq (.slot 0) (.slot 1)) (.bin .eq (.bcall "repr" (.cons (.slot 0) .nil)) (.bcall "repr" (.cons (.slot 1) .nil))))) .nil)
def _law_meets : Sms := (.cons (.for_ (.tp [2, 3, 4]) (.seq (.slot 1)) (.cons (.ite (.or (.and (.bin .eq (.slot 3) (.cst (.str "least"))) (.bin .lt (.idx (.slot 0) (.slot 2)) (.slot 4))) (.and (.bin .eq (.slot 3) (.cst (.str "most"))) (.bin .gt (.idx (.slot 0) (.slot 2)) (.slot 4)))) (.cons (.ret (.cst (.bl false))) .nil) .nil) .nil)) (.cons (.ret (.cst (.bl true))) .nil))
def _law_wide_value : Sms := (.cons (.asg (.nm 1) (.bin .pow (.cst (.int (10))) (.cst (.int (18))))) (.cons (.asg (.nm 2) (.lst (.cons (.bin .sub (.call "_law_take" (.cons (.slot 0) (.cons (.cst (.int (5))) .nil))) (.cst (.int (2)))) (.cons (.bin .sub (.call "_law_take" (.cons (.slot 0) (.cons (.cst (.int (5))) .nil))) (.cst (.int (2)))) (.cons (.bin .sub (.slot 1) (.call "_law_take" (.cons (.slot 0) (.cons (.cst (.int (3))) .nil)))) (.cons (.bin .sub (.call "_law_take" (.cons (.slot 0) (.cons (.cst (.int (3))) .nil))) (.slot 1)) .nil)))))) (.cons (.ret (.idx (.bin .add (.slot 2) (.lst (.cons (.bin .sub (.call "_law_take" (.cons (.slot 0) (.cons (.bin .add (.bin .mul (.cst (.int (2))) (.slot 1)) (.cst (.int (1)))) .nil))) (.slot 1)) .nil))) (.call "_law_take" (.cons (.slot 0) (.cons (.cst (.int (5))) .nil))))) .nil)))
def _law_beside : Sms := (.cons (.asg (.nm 2) (.lst .nil)) (.cons (.for_ (.nm 3) (.rng1 (.call "_law_take" (.cons (.slot 0) (.cons (.bin .add (.bin .mul (.cst (.int (2))) (.bcall "len" (.cons (.slot 1) .nil))) (.cst (.int (1)))) .nil)))) (.cons (.par [5, 6] (.cons (.call "_law_take" (.cons (.slot 0) (.cons (.bcall "len" (.cons (.slot 1) .nil)) .nil))) (.cons (.idx (.lst (.cons (.cst (.str "least")) (.cons (.cst (.str "most")) .nil))) (.call "_law_take" (.cons (.slot 0) (.cons (.cst (.int (2))) .nil)))) .nil))) (.cons (.asg (.nm 4) (.idx (.lst (.cons (.idx (.slot 1) (.slot 5)) (.cons (.bin .add (.idx (.slot 1) (.slot 5)) (.cst (.int (1)))) (.cons (.bin .sub (.idx (.slot 1) (.slot 5)) (.cst (.int (1)))) (.cons (.call "_law_wide_value" (.cons (.slot 0) .nil)) .nil))))) (.call "_law_take" (.cons (.slot 0) (.cons (.cst (.int (4))) .nil))))) (.cons (.ite (.bin .notin (.tup (.cons (.slot 5) (.cons (.slot 6) .nil))) (.comp [7] (.nm 7) (.seq (.slot 2)) (.cst (.bl true)) (.slc (.slot 7) false (.cst .non) true (.cst (.int (2)))))) (.cons (.ex (.meth "insert" "insert" (.slot 2) (.cons (.call "_law_take" (.cons (.slot 0) (.cons (.bin .add (.bcall "len" (.cons (.slot 2) .nil)) (.cst (.int (1)))) .nil))) (.cons (.tup (.cons (.slot 5) (.cons (.slot 6) (.cons (.bcall "min" (.cons (.bin .pow (.cst (.int (10))) (.cst (.int (18)))) (.cons (.bcall "max" (.cons (.neg (.bin .pow (.cst (.int (10))) (.cst (.int (18))))) (.cons (.slot 4) .nil))) .nil))) .nil)))) .nil)))) .nil) .nil) .nil)))) (.cons (.ret (.slot 2)) .nil)))
def law : Sms := (.cons (.asg (.nm 1) (.call "_law_bag" (.cons (.slot 0) .nil))) (.cons (.for_ (.nm 2) (.rng1 (.cst (.int (8)))) (.cons (.asg (.nm 3) (.bcall "tuple" (.cons (.comp [9] (.nm 9) (.rng1 (.bin .add (.cst (.int (1))) (.call "_law_take" (.cons (.slot 1) (.cons (.cst (.int (6))) .nil))))) (.cst (.bl true)) (.call "_law_wide_value" (.cons (.slot 1) .nil))) .nil))) (.cons (.asg (.nm 4) (.call "_law_beside" (.cons (.slot 1) (.cons (.slot 3) .nil)))) (.cons (.ite (.bin .eq (.call "_law_take" (.cons (.slot 1) (.cons (.cst (.int (4))) .nil))) (.cst (.int (0)))) (.cons (.asg (.nm 4) (.comp [10] (.nm 10) (.seq (.slot 4)) (.call "_law_meets" (.cons (.slot 3) (.cons (.lst (.cons (.slot 10) .nil)) .nil))) (.slot 10))) .nil) .nil) (.cons (.asg (.nm 5) (.bcall "sorted" (.cons (.comp [10] (.nm 10) (.seq (.slot 4)) (.not (.call "_law_meets" (.cons (.slot 3) (.cons (.lst (.cons (.slot 10) .nil)) .nil)))) (.slot 10)) .nil))) (.cons (.for_ (.nm 6) (.seq (.lst (.cons (.slot 4) (.cons (.bcall "[::-1]" (.cons (.slot 4) .nil)) (.cons (.slot 4) .nil))))) (.cons (.asg (.nm 7) (.bcall "list" (.cons (.slot 6) .nil))) (.cons (.asg (.nm 8) (.call "missed" (.cons (.slot 3) (.cons (.slot 6) .nil)))) (.cons (.ite (.or (.not (.call "_law_alike" (.cons (.slot 8) (.cons (.slot 5) .nil)))) (.or (.not (.call "_law_alike" (.cons (.call "meets" (.cons (.slot 3) (.cons (.slot 6) .nil))) (.cons (.bin .eq (.slot 5) (.lst .nil)) .nil)))) (.bin .ne (.slot 6) (.slot 7)))) (.cons (.ret (.cst (.bl false))) .nil) .nil) (.cons (.ex (.meth "append" "append" (.slot 8) (.cons (.cst (.str "x")) .nil))) .nil))))) .nil)))))) (.cons (.ret (.and (.bin .is_ (.call "meets" (.cons (.tup (.cons (.cst (.int (0))) .nil)) (.cons (.lst .nil) .nil))) (.cst (.bl true))) (.bin .eq (.call "missed" (.cons (.tup (.cons (.cst (.int (0))) .nil)) (.cons (.lst .nil) .nil))) (.lst .nil)))) .nil)))
end B
namespace K12
open PySem L2 HI
def CT : List Ci := []
def tab : List (String × Nat × Sms) := [("meets_bound", 5, B.meets_bound), ("meets", 3, B.meets), ("missed", 3, B.missed), ("_law_bag", 2, B._law_bag), ("_law_take", 6, B._law_take), ("_law_alike", 2, B._law_alike), ("_law_meets", 5, B._law_meets), ("_law_wide_value", 3, B._law_wide_value), ("_law_beside", 8, B._law_beside), ("law", 11, B.law)]
def pr : Pr := ⟨tab, CT⟩
theorem l_meets_bound : pr.lookup "meets_bound" = some (5, B.meets_bound) := by rfl
theorem l_meets : pr.lookup "meets" = some (3, B.meets) := by rfl
theorem l_missed : pr.lookup "missed" = some (3, B.missed) := by rfl
theorem l__law_bag : pr.lookup "_law_bag" = some (2, B._law_bag) := by rfl
theorem l__law_take : pr.lookup "_law_take" = some (6, B._law_take) := by rfl
theorem l__law_alike : pr.lookup "_law_alike" = some (2, B._law_alike) := by rfl
theorem l__law_meets : pr.lookup "_law_meets" = some (5, B._law_meets) := by rfl
theorem l__law_wide_value : pr.lookup "_law_wide_value" = some (3, B._law_wide_value) := by rfl
theorem l__law_beside : pr.lookup "_law_beside" = some (8, B._law_beside) := by rfl
theorem l_law : pr.lookup "law" = some (11, B.law) := by rfl
end K12

set_option maxRecDepth 100000
set_option maxHeartbeats 1000000
/-! the draw, alike -/
namespace HJ
open PySem L2 HI
-- eng
local macro_rules | `(tactic| fail "s") => `(tactic| first
  | refine ex_cons ?_ | refine ex_nx ?_ | refine ex_rt ?_ | refine ex_bk ?_ | refine ex_ct ?_ | refine ex_nil ?_
  | refine ew_fz rfl ?_ | refine ew_own rfl ?_ | refine ew_tr rfl ?_ | refine ew_bor rfl ?_ | refine ew_rol rfl ?_ | refine ew_cst rfl ?_ | refine ew_bin ?_ | refine ew_idx ?_ | refine ew_nil ?_ | refine ew_cons ?_ | refine ew_call ?_ | refine ew_bcall ?_
  | refine ew_not ?_ | refine ew_neg ?_ | refine ew_and ?_ | refine ew_or ?_ | refine ew_chain ?_ | refine ew_ife ?_ | refine ew_lst ?_ | refine ew_tup ?_ | refine ew_slc ?_ | refine ew_meth ?_ | refine ew_fld ?_ | refine ew_mk ?_
  | refine ex_asg ?_ | refine ex_asgT ?_ | refine ex_asgS ?_ | refine ex_asgF ?_ | refine ex_aug rfl ?_ | refine ex_augS ?_ | refine ex_ex ?_ | refine ex_ite ?_ | refine ex_ret ?_ | refine ex_brk ?_ | refine ex_cont ?_ | refine ex_pass ?_ | refine ex_par ?_
  | refine q_rng (by omega) ?_ | refine ei_seq ?_ | refine ei_enum ?_ | refine ei_zip ?_ | refine ei_rng1 ?_ | refine ei_rng2 ?_ | refine ei_down ?_ | refine q_down (by omega) ?_
  | refine ip_t rfl rfl rfl rfl ?_ | refine ip_tt rfl rfl rfl rfl ?_ | refine ip_d rfl ?_ | refine fp_t rfl rfl rfl ?_ | refine fp_d rfl ?_ | refine tp_d ?_ | refine tp_t ?_ | refine fs_d rfl ?_ | refine q_dat rfl ?_ | refine q_datRr ?_ | refine q_datR rfl ?_ | refine q_truB rfl ?_ | refine eq_t ?_ | refine eq_f ?_
  | refine q_add_i ?_ | refine q_sub_i ?_ | refine q_lt_i ?_ | refine q_le_i ?_ | refine q_gt_i ?_ | refine q_ge_i ?_ | refine q_eq_i ?_ | refine q_ne_i ?_ | refine q_eq_s ?_ | refine q_ne_s ?_ | refine q_pow_18 ?_ | refine q_is_n ?_ | refine q_is_b ?_ | refine q_isn_b ?_ | refine q_isn_n ?_
  | refine q_idx rfl ?_ | refine p_no ?_ | refine ep_yes ?_ | refine q_slcL ?_ | refine d_nil ?_ | refine d_cons ?_ | refine q_bfn rfl ?_
  | refine f_fz ?_ | refine f_own ?_ | refine ef_var rfl ?_ | refine f_varF rfl ?_ | refine f_tr ?_ | refine ef_varT rfl ?_ | refine f_pt rfl ?_ | refine f_nil ?_ | refine f_cons ?_
  | refine r_fz ?_ | refine r_own ?_ | refine r_rol ?_ | refine r_tr ?_ | refine r_bor ?_ | refine er_var rfl ?_ | refine rs_nil ?_ | refine rs_cons ?_
  | refine ek_0 ?_ | refine ek_s ?_ | refine ess_nil ?_ | refine ess_cons rfl ?_ | refine esv_nil ?_ | refine esv_cons rfl ?_
  | refine q_tup ?_ | refine ea_nm rfl ?_ | refine ea_tp ?_ | refine s_fzl ?_ | refine s_fzt ?_ | refine s_own ?_ | refine s_rol ?_ | refine s_var rfl ?_ | refine s_varT rfl ?_ | refine s_tr ?_
  | refine eo_nil ?_ | refine eo_fz ?_ | refine eo_own ?_ | refine eo_rol ?_ | refine eo_var rfl ?_ | refine eo_varT rfl ?_ | refine eo_tr ?_ | refine eo_pt rfl ?_
  | refine zp_lst rfl ?_ | refine zp_tup rfl ?_ | refine zp_ins rfl ?_ | refine zt_0 ?_ | refine zt_s ?_ | refine zf_0 rfl ?_ | refine zf_s rfl ?_
  | refine fq_nx ?_ | refine fq_rt ?_ | refine t_fz ?_ | refine t_own ?_ | refine et_var rfl rfl ?_ | refine et_varP rfl rfl ?_ | refine et_varT rfl rfl ?_ | refine et_varPT rfl rfl ?_ | refine t_tr rfl ?_
  | refine q_rec rfl ?_ | refine em_l ?_ | refine em_r rfl ?_ | refine q_fld rfl ?_
  | refine side_int rfl ?_ | refine side_int2 rfl rfl ?_ | refine side_bool rfl ?_ | refine side_var rfl ?_
  | refine side rfl ?_ | refine side (Nat.le_of_ble_eq_true rfl) ?_ | refine em_set0 rfl ?_ | refine em_set1 rfl ?_ | refine em_set2 rfl ?_ | refine em_clear rfl ?_ | refine m_fld rfl rfl ?_ | refine ekl_0 ?_ | refine ekl_s ?_ | refine side_some rfl ?_
  | refine q_mul_i (by omega) (by omega) ?_ | refine q_mod_i (by omega) ?_ | refine q_fdiv_i (by omega) (by omega) ?_ | refine q_op rfl ?_ | refine q_slcT rfl ?_)
-- gne

structure Bg (a b c : Int) (cells : List Int) (n : Nat) : Prop where
  a0 : 0 ≤ a
  b0 : 0 ≤ b
  b1 : b < 2147483647
  c0 : 0 ≤ c
  c1 : c ≤ n
  nn : ∀ x ∈ cells, 0 ≤ x
def bagD (a b c : Int) (cells : List Int) : PyData := .list [.int a, .int b, .int c, .list (cells.map .int)]
/-- a bag of which n values were drawn at most -/
def Bag (d : PyData) (n : Nat) : Prop := ∃ a b c cells, d = bagD a b c cells ∧ Bg a b c cells n
theorem Bag.mono {d : PyData} {n m : Nat} (h : Bag d n) (l : n ≤ m) : Bag d m := by
  obtain ⟨a, b, c, cells, e, G⟩ := h
  exact ⟨a, b, c, cells, e, G.a0, G.b0, G.b1, G.c0, by have := G.c1; omega, G.nn⟩
theorem mod_rng {a m : Int} (h : 0 < m) : 0 ≤ a % m ∧ a % m < m := ⟨Int.emod_nonneg _ (by omega), Int.emod_lt_of_pos _ h⟩
def TakeQ (cells : List Int) (many : Int) (n : Nat) : Re → List (Option Va) → Prop := fun r os => ∃ v a b c, r = .fz (.int v) ∧ os = [some (.own (bagD a b c cells)), none] ∧ 0 ≤ v ∧ v < many ∧ Bg a b c cells n
theorem take_tail {C : DC} {a b c many : Int} {cells : List Int} {n : Nat} {u2 u3 u4 u5 : Option Va} (G : Bg a b c cells n) (h0 : 0 < many) (h1 : many.natAbs < 2 ^ 200) :
    WB C [0] (tlS B._law_take) [some (.own (bagD a b c cells)), some (.fz (.int many)), u2, u3, u4, u5] (zF [0] 2 (TakeQ cells many n)) := by
  have b0 := G.b0
  have b1 := G.b1
  show WB C [0] (.cons _ _) _ _
  repeat fail "s"
  refine eq_dec (fun ha => ?_) (fun ha => ?_)
  · repeat fail "s"
    have m := mod_rng (a := a) h0
    exact ⟨_, _, _, _, rfl, rfl, m.1, m.2, Int.ediv_nonneg G.a0 (by omega), b0, b1, G.c0, G.c1, G.nn⟩
  · repeat fail "s"
    refine eq_dec (fun hb => ?_) (fun hb => ?_)
    · repeat fail "s"
      exact ⟨_, _, _, _, rfl, rfl, (mod_rng h0).1, (mod_rng h0).2, G⟩
    · repeat fail "s"
      exact ⟨_, _, _, _, rfl, rfl, (mod_rng h0).1, (mod_rng h0).2, G⟩
theorem take_bg {T : Pr} (hT : T.lookup "_law_take" = some (6, B._law_take)) {k n : Nat} {a b c many : Int} {cells : List Int} (G : Bg a b c cells n) (hn : n < 2 ^ 100) (h0 : 0 < many) (h1 : many.natAbs < 2 ^ 200) :
    cp T (k + 1) "_law_take" [.own (bagD a b c cells), .fz (.int many)] (TakeQ cells many (n + 1)) := by
  refine ecp_of hT ?_
  show WB (dC T k noX) [0] _ [some (.own (bagD a b c cells)), some (.fz (.int many)), none, none, none, none] (zF [0] 2 _)
  have G1 : Bg a b c cells (n + 1) := ⟨G.a0, G.b0, G.b1, G.c0, by have := G.c1; omega, G.nn⟩
  have b0 := G.b0
  have b1 := G.b1
  have c0 := G.c0
  have c1 := G.c1
  repeat fail "s"
  refine eq_dec (fun ha => ?_) (fun ha => ?_)
  · repeat fail "s"
    -- the cell
    have rest : ∀ x : Int, 0 ≤ x → WB (dC T k noX) [0] (tlS (tlS (tlS (thS B._law_take)))) [some (.own (bagD a b (c + 1) cells)), some (.fz (.int many)), none, none, some (.fz (.int x)), none]
        (kon (dC T k noX) [0] (tlS B._law_take) (zF [0] 2 (TakeQ cells many (n + 1)))) := by
      intro x hx
      show WB _ [0] (.cons _ _) _ _
      repeat fail "s"
      refine eq_dec (fun hb => ?_) (fun hb => ?_)
      · repeat (first | refine take_tail (n := n + 1) ?_ h0 h1 | fail "s")
        exact ⟨by omega, by omega, by omega, by omega, by omega, G.nn⟩
      · repeat (first | refine take_tail (n := n + 1) ?_ h0 h1 | fail "s")
        exact ⟨G.a0, by omega, by omega, by omega, by omega, G.nn⟩
    refine eq_dec (fun hb => ?_) (fun hb => ?_)
    · refine ex_cons ?_
      repeat fail "s"
      rw [List.length_map] at hb
      refine q_idx_nn c0 (by rw [List.length_map]; exact hb) fun d hd => ?_
      rw [List.getElem?_map] at hd
      obtain ⟨x, hx, rfl⟩ := Option.map_eq_some_iff.mp hd
      repeat (first | exact rest x (G.nn x (List.mem_of_getElem? hx)) | fail "s")
    · repeat (first | exact rest 0 (by decide) | fail "s")
  · repeat (first | exact take_tail G1 h0 h1 | fail "s")
end HJ

set_option maxRecDepth 100000
set_option maxHeartbeats 1000000
/-! draws as callers see them; equal and alike; sorted lists -/
namespace HJ
open PySem L2 HI
-- eng
local macro_rules | `(tactic| fail "s") => `(tactic| first
  | refine ex_cons ?_ | refine ex_nx ?_ | refine ex_rt ?_ | refine ex_bk ?_ | refine ex_ct ?_ | refine ex_nil ?_
  | refine ew_fz rfl ?_ | refine ew_own rfl ?_ | refine ew_tr rfl ?_ | refine ew_bor rfl ?_ | refine ew_rol rfl ?_ | refine ew_cst rfl ?_ | refine ew_bin ?_ | refine ew_idx ?_ | refine ew_nil ?_ | refine ew_cons ?_ | refine ew_call ?_ | refine ew_bcall ?_
  | refine ew_not ?_ | refine ew_neg ?_ | refine ew_and ?_ | refine ew_or ?_ | refine ew_chain ?_ | refine ew_ife ?_ | refine ew_lst ?_ | refine ew_tup ?_ | refine ew_slc ?_ | refine ew_meth ?_ | refine ew_fld ?_ | refine ew_mk ?_
  | refine ex_asg ?_ | refine ex_asgT ?_ | refine ex_asgS ?_ | refine ex_asgF ?_ | refine ex_aug rfl ?_ | refine ex_augS ?_ | refine ex_ex ?_ | refine ex_ite ?_ | refine ex_ret ?_ | refine ex_brk ?_ | refine ex_cont ?_ | refine ex_pass ?_ | refine ex_par ?_
  | refine q_rng (by omega) ?_ | refine ei_seq ?_ | refine ei_enum ?_ | refine ei_zip ?_ | refine ei_rng1 ?_ | refine ei_rng2 ?_ | refine ei_down ?_ | refine q_down (by omega) ?_
  | refine ip_t rfl rfl rfl rfl ?_ | refine ip_tt rfl rfl rfl rfl ?_ | refine ip_d rfl ?_ | refine fp_t rfl rfl rfl ?_ | refine fp_d rfl ?_ | refine tp_d ?_ | refine tp_t ?_ | refine fs_d rfl ?_ | refine q_dat rfl ?_ | refine q_datRr ?_ | refine q_datR rfl ?_ | refine q_truB rfl ?_ | refine eq_t ?_ | refine eq_f ?_
  | refine q_add_i ?_ | refine q_sub_i ?_ | refine q_lt_i ?_ | refine q_le_i ?_ | refine q_gt_i ?_ | refine q_ge_i ?_ | refine q_eq_i ?_ | refine q_ne_i ?_ | refine q_eq_s ?_ | refine q_ne_s ?_ | refine q_pow_18 ?_ | refine q_is_n ?_ | refine q_is_b ?_ | refine q_isn_b ?_ | refine q_isn_n ?_
  | refine q_idx rfl ?_ | refine p_no ?_ | refine ep_yes ?_ | refine q_slcL ?_ | refine d_nil ?_ | refine d_cons ?_ | refine q_bfn rfl ?_
  | refine f_fz ?_ | refine f_own ?_ | refine ef_var rfl ?_ | refine f_varF rfl ?_ | refine f_tr ?_ | refine ef_varT rfl ?_ | refine f_pt rfl ?_ | refine f_nil ?_ | refine f_cons ?_
  | refine r_fz ?_ | refine r_own ?_ | refine r_rol ?_ | refine r_tr ?_ | refine r_bor ?_ | refine er_var rfl ?_ | refine rs_nil ?_ | refine rs_cons ?_
  | refine ek_0 ?_ | refine ek_s ?_ | refine ess_nil ?_ | refine ess_cons rfl ?_ | refine esv_nil ?_ | refine esv_cons rfl ?_
  | refine q_tup ?_ | refine ea_nm rfl ?_ | refine ea_tp ?_ | refine s_fzl ?_ | refine s_fzt ?_ | refine s_own ?_ | refine s_rol ?_ | refine s_var rfl ?_ | refine s_varT rfl ?_ | refine s_tr ?_
  | refine eo_nil ?_ | refine eo_fz ?_ | refine eo_own ?_ | refine eo_rol ?_ | refine eo_var rfl ?_ | refine eo_varT rfl ?_ | refine eo_tr ?_ | refine eo_pt rfl ?_
  | refine zp_lst rfl ?_ | refine zp_tup rfl ?_ | refine zp_ins rfl ?_ | refine zt_0 ?_ | refine zt_s ?_ | refine zf_0 rfl ?_ | refine zf_s rfl ?_
  | refine fq_nx ?_ | refine fq_rt ?_ | refine t_fz ?_ | refine t_own ?_ | refine et_var rfl rfl ?_ | refine et_varP rfl rfl ?_ | refine et_varT rfl rfl ?_ | refine et_varPT rfl rfl ?_ | refine t_tr rfl ?_
  | refine q_rec rfl ?_ | refine em_l ?_ | refine em_r rfl ?_ | refine q_fld rfl ?_
  | refine side_int rfl ?_ | refine side_int2 rfl rfl ?_ | refine side_bool rfl ?_ | refine side_var rfl ?_
  | refine side rfl ?_ | refine side (Nat.le_of_ble_eq_true rfl) ?_ | refine em_set0 rfl ?_ | refine em_set1 rfl ?_ | refine em_set2 rfl ?_ | refine em_clear rfl ?_ | refine m_fld rfl rfl ?_ | refine ekl_0 ?_ | refine ekl_s ?_ | refine side_some rfl ?_
  | refine q_mul_i (by omega) (by omega) ?_ | refine q_mod_i (by omega) ?_ | refine q_fdiv_i (by omega) (by omega) ?_ | refine q_op rfl ?_ | refine q_slcT rfl ?_)
-- gne
/-- a draw, as a caller sees it -/
theorem c_take {T : Pr} (hT : T.lookup "_law_take" = some (6, B._law_take)) {k n j : Nat} {d : PyData} {many : Int} {E : Dn} {Q : Re → Dn → Prop} {X : Xp} (hE : slotV E j = some (.own d)) (G : Bag d n) (hn : n < 2 ^ 100) (h0 : 0 < many) (h1 : many.natAbs < 2 ^ 200)
    (h : ∀ v d', 0 ≤ v → v < many → Bag d' (n + 1) → zK E j (some (.own d')) fun E' => Q (.fz (.int v)) E') : CallQ (dC T (k + 1) X) "_law_take" [.var j, .fz (.int many)] E Q := by
  obtain ⟨a, b, c, cells, rfl, G⟩ := G
  refine eq_call (vas := [.own (bagD a b c cells), .fz (.int many)]) rfl (by simp [resL, resO, hE]) (cp_mono (take_bg hT G hn h0 h1) ?_)
  rintro r os ⟨v, a', b', c', rfl, rfl, h2, h3, G'⟩
  refine ⟨rfl, eo_var hE ?_⟩
  exact zK_mono (h v _ h2 h3 ⟨a', b', c', cells, rfl, G'⟩) fun _ z => eo_fz (eo_nil z)
/-- the bag at the start -/
def absI (i : Int) : Int := if i < 0 then -i else i
theorem bag_cp {T : Pr} (hT : T.lookup "_law_bag" = some (2, B._law_bag)) {k : Nat} {ns : List Int} (hl : ns.length ≤ 63) :
    cp T (k + 1) "_law_bag" [.rol (ns.map .int)] fun r os => ∃ d, r = .own d ∧ os = [none] ∧ Bag d 0 := by
  have big : (1000 : Nat) ≤ sizeLine := by decide
  refine ecp_of hT ?_
  show WB (dC T k noX) [] _ [some (.rol (ns.map .int)), none] (zF [] 1 _)
  repeat fail "s"
  have ec : cutD (ns.map PyData.int) none (some 63) = ns.map PyData.int := by
    unfold cutD
    have e1 : HT.sIx (ns.map PyData.int).length 0 none = 0 := rfl
    have e2 : HT.sIx (ns.map PyData.int).length (ns.map PyData.int).length (some 63) = ns.length := by
      rw [List.length_map]
      show HT.sIx ns.length ns.length (some ((63 : Nat) : Int)) = _
      rw [HT.sIx_nat]
      omega
    rw [e1, e2, Nat.sub_zero, List.drop_zero, List.take_of_length_le (by rw [List.length_map]; exact Nat.le_refl _)]
  refine ew_comp ?_
  repeat fail "s"
  rw [ec]
  refine ⟨⟨rfl, rfl⟩, ?_⟩
  refine ecomp (N := ns.length) (fun i acc E => acc = (ns.take i).map (fun x => .int (absI x)) ∧ E = [some (.rol (ns.map .int)), none]) (by simp [Wd.n, Src.n]) ⟨rfl, rfl⟩ ?_ ?_
  · rintro i acc E hi ⟨rfl, rfl⟩
    refine ⟨.int ns[i], [some (.rol (ns.map .int)), some (.fz (.int ns[i]))], ?_, rfl, ?_⟩
    · show (ns.map PyData.int)[i]? = _
      rw [List.getElem?_map, List.getElem?_eq_getElem hi]; rfl
    · repeat fail "s"
      refine side (by rw [List.length_map, List.length_take]; omega) ?_
      repeat fail "s"
      refine ⟨?_, rfl⟩
      rw [List.take_add_one, List.getElem?_eq_getElem hi, List.map_append]; rfl
  · rintro acc E ⟨rfl, rfl⟩
    refine ⟨rfl, ?_⟩
    rw [List.take_length]
    repeat fail "s"
    refine ⟨_, rfl, rfl, 0, 1234567891, 0, ns.map absI, ?_, ⟨by decide, by decide, by decide, by decide, by decide, ?_⟩⟩
    · unfold bagD; rw [List.map_map]; rfl
    · intro x hx
      obtain ⟨i, _, rfl⟩ := List.mem_map.mp hx
      unfold absI
      split <;> omega
/-- two things that are the same, print alike -/
def ow : Bool → PyData → Va
  | true, d => .own d
  | false, d => .fz d
theorem alike_cp {T : Pr} (hT : T.lookup "_law_alike" = some (2, B._law_alike)) {k w dp : Nat} {d : PyData} (n : Nice d w dp) (h : dp ≤ 64) (hw : w ≤ 300000) (p q : Bool) :
    cp T (k + 1) "_law_alike" [ow p d, ow q d] fun r os => r = .fz (.bool true) ∧ os = [if p then some (.own d) else none, if q then some (.own d) else none] := by
  refine ecp_of hT ?_
  have e2 : OpQ .eq (.str d.shown) (.str d.shown) = fun K => OpQ .eq (.str d.shown) (.str d.shown) K := rfl
  cases p <;> cases q
  · show WB (dC T k noX) [] _ [some (.fz d), some (.fz d)] (zF [] 2 _)
    repeat fail "s"
    refine q_eq_refl n h ?_
    repeat fail "s"
    refine q_repr n h hw ?_
    repeat fail "s"
    refine q_repr n h hw ?_
    repeat fail "s"
    exact ⟨by rw [decide_eq_true rfl], rfl⟩
  · show WB (dC T k noX) [1] _ [some (.fz d), some (.own d)] (zF [1] 2 _)
    repeat fail "s"
    refine q_eq_refl n h ?_
    repeat fail "s"
    refine q_repr n h hw ?_
    repeat fail "s"
    refine q_repr n h hw ?_
    repeat fail "s"
    exact ⟨by rw [decide_eq_true rfl], rfl⟩
  · show WB (dC T k noX) [0] _ [some (.own d), some (.fz d)] (zF [0] 2 _)
    repeat fail "s"
    refine q_eq_refl n h ?_
    repeat fail "s"
    refine q_repr n h hw ?_
    repeat fail "s"
    refine q_repr n h hw ?_
    repeat fail "s"
    exact ⟨by rw [decide_eq_true rfl], rfl⟩
  · show WB (dC T k noX) [0, 1] _ [some (.own d), some (.own d)] (zF [0, 1] 2 _)
    repeat fail "s"
    refine q_eq_refl n h ?_
    repeat fail "s"
    refine q_repr n h hw ?_
    repeat fail "s"
    refine q_repr n h hw ?_
    repeat fail "s"
    exact ⟨by rw [decide_eq_true rfl], rfl⟩
end HJ

set_option maxRecDepth 100000
set_option maxHeartbeats 1000000
/-! rows, bounds, wishes -/
namespace HJ
open PySem L2 HI SrtO
-- eng
local macro_rules | `(tactic| fail "s") => `(tactic| first
  | refine ex_cons ?_ | refine ex_nx ?_ | refine ex_rt ?_ | refine ex_bk ?_ | refine ex_ct ?_ | refine ex_nil ?_
  | refine ew_fz rfl ?_ | refine ew_own rfl ?_ | refine ew_tr rfl ?_ | refine ew_bor rfl ?_ | refine ew_rol rfl ?_ | refine ew_cst rfl ?_ | refine ew_bin ?_ | refine ew_idx ?_ | refine ew_nil ?_ | refine ew_cons ?_ | refine ew_call ?_ | refine ew_bcall ?_
  | refine ew_not ?_ | refine ew_neg ?_ | refine ew_and ?_ | refine ew_or ?_ | refine ew_chain ?_ | refine ew_ife ?_ | refine ew_lst ?_ | refine ew_tup ?_ | refine ew_slc ?_ | refine ew_meth ?_ | refine ew_fld ?_ | refine ew_mk ?_
  | refine ex_asg ?_ | refine ex_asgT ?_ | refine ex_asgS ?_ | refine ex_asgF ?_ | refine ex_aug rfl ?_ | refine ex_augS ?_ | refine ex_ex ?_ | refine ex_ite ?_ | refine ex_ret ?_ | refine ex_brk ?_ | refine ex_cont ?_ | refine ex_pass ?_ | refine ex_par ?_
  | refine q_rng (by omega) ?_ | refine ei_seq ?_ | refine ei_enum ?_ | refine ei_zip ?_ | refine ei_rng1 ?_ | refine ei_rng2 ?_ | refine ei_down ?_ | refine q_down (by omega) ?_
  | refine ip_t rfl rfl rfl rfl ?_ | refine ip_tt rfl rfl rfl rfl ?_ | refine ip_d rfl ?_ | refine fp_t rfl rfl rfl ?_ | refine fp_d rfl ?_ | refine tp_d ?_ | refine tp_t ?_ | refine fs_d rfl ?_ | refine q_dat rfl ?_ | refine q_datRr ?_ | refine q_datR rfl ?_ | refine q_truB rfl ?_ | refine eq_t ?_ | refine eq_f ?_
  | refine q_add_i ?_ | refine q_sub_i ?_ | refine q_lt_i ?_ | refine q_le_i ?_ | refine q_gt_i ?_ | refine q_ge_i ?_ | refine q_eq_i ?_ | refine q_ne_i ?_ | refine q_eq_s ?_ | refine q_ne_s ?_ | refine q_pow_18 ?_ | refine q_is_n ?_ | refine q_is_b ?_ | refine q_isn_b ?_ | refine q_isn_n ?_
  | refine q_idx rfl ?_ | refine p_no ?_ | refine ep_yes ?_ | refine q_slcL ?_ | refine d_nil ?_ | refine d_cons ?_ | refine q_bfn rfl ?_
  | refine f_fz ?_ | refine f_own ?_ | refine ef_var rfl ?_ | refine f_varF rfl ?_ | refine f_tr ?_ | refine ef_varT rfl ?_ | refine f_pt rfl ?_ | refine f_nil ?_ | refine f_cons ?_
  | refine r_fz ?_ | refine r_own ?_ | refine r_rol ?_ | refine r_tr ?_ | refine r_bor ?_ | refine er_var rfl ?_ | refine rs_nil ?_ | refine rs_cons ?_
  | refine ek_0 ?_ | refine ek_s ?_ | refine ess_nil ?_ | refine ess_cons rfl ?_ | refine esv_nil ?_ | refine esv_cons rfl ?_
  | refine q_tup ?_ | refine ea_nm rfl ?_ | refine ea_tp ?_ | refine s_fzl ?_ | refine s_fzt ?_ | refine s_own ?_ | refine s_rol ?_ | refine s_var rfl ?_ | refine s_varT rfl ?_ | refine s_tr ?_
  | refine eo_nil ?_ | refine eo_fz ?_ | refine eo_own ?_ | refine eo_rol ?_ | refine eo_var rfl ?_ | refine eo_varT rfl ?_ | refine eo_tr ?_ | refine eo_pt rfl ?_
  | refine zp_lst rfl ?_ | refine zp_tup rfl ?_ | refine zp_ins rfl ?_ | refine zt_0 ?_ | refine zt_s ?_ | refine zf_0 rfl ?_ | refine zf_s rfl ?_
  | refine fq_nx ?_ | refine fq_rt ?_ | refine t_fz ?_ | refine t_own ?_ | refine et_var rfl rfl ?_ | refine et_varP rfl rfl ?_ | refine et_varT rfl rfl ?_ | refine et_varPT rfl rfl ?_ | refine t_tr rfl ?_
  | refine q_rec rfl ?_ | refine em_l ?_ | refine em_r rfl ?_ | refine q_fld rfl ?_
  | refine side_int rfl ?_ | refine side_int2 rfl rfl ?_ | refine side_bool rfl ?_ | refine side_var rfl ?_
  | refine side rfl ?_ | refine side (Nat.le_of_ble_eq_true rfl) ?_ | refine em_set0 rfl ?_ | refine em_set1 rfl ?_ | refine em_set2 rfl ?_ | refine em_clear rfl ?_ | refine m_fld rfl rfl ?_ | refine ekl_0 ?_ | refine ekl_s ?_ | refine side_some rfl ?_
  | refine q_mul_i (by omega) (by omega) ?_ | refine q_mod_i (by omega) ?_ | refine q_fdiv_i (by omega) (by omega) ?_ | refine q_op rfl ?_ | refine q_slcT rfl ?_)
-- gne
theorem big1000 : (100000 : Nat) ≤ sizeLine := by decide
/-- a comprehension that changes nothing but its own names -/
theorem ecomp_pure {α : Type} {T : Pr} {k0 : Nat} {X : Xp} {E : Dn} {w : Wd} {own : List Nat} {t : Tg} {c el : Ex} {R : List PyData → Dn → Prop} {enc : α → PyData} (xs : List α) (p : α → Bool) (f : α → PyData) (hn : w.n = xs.length) (hl : xs.length < 100000)
    (hat : ∀ i, w.at i E = (xs.map enc)[i]?) (hend : w.ends E = true)
    (step : ∀ x ∈ xs, ∃ E1, asgD t (enc x) E = some E1 ∧ wipeD E1 own = E ∧ WE (dC T k0 noX) c E1 fun r E2 => TruQ r E2 fun k => k = p x ∧ E2 = E1 ∧ (p x = true → WE (dC T k0 noX) el E1 fun r E3 => FrzQ r E3 fun y E4 => y = f x ∧ wipeD E4 own = E))
    (fin : R ((xs.filter p).map f) E) : WCompF (dC T k0 X) own t c el w E R := by
  have big := big1000
  refine ecomp (N := xs.length) (fun i acc E' => acc = ((xs.take i).filter p).map f ∧ E' = E) hn ⟨rfl, rfl⟩ ?_ ?_
  · rintro i acc E' hi ⟨rfl, rfl⟩
    obtain ⟨E1, h1, h2, h3⟩ := step xs[i] (List.getElem_mem hi)
    refine ⟨enc xs[i], E1, ?_, h1, WE_mono h3 ?_⟩
    · rw [hat, List.getElem?_map, List.getElem?_eq_getElem hi]; rfl
    · rintro r E2 ⟨d, k, e1, e2, rfl, rfl, h4⟩
      refine ⟨d, _, e1, e2, ?_⟩
      have et : xs.take (i + 1) = xs.take i ++ [xs[i]] := by rw [List.take_add_one, List.getElem?_eq_getElem hi]; rfl
      have len : (((xs.take i).filter p).map f).length ≤ i := by
        rw [List.length_map]
        refine Nat.le_trans (List.length_filter_le _ _) ?_
        rw [List.length_take]; omega
      show zI _ _ _
      cases hp : p xs[i] with
      | true =>
        refine eq_t ⟨by omega, WE_mono (h4 hp) fun r E3 fq => frz_mono fq ?_⟩
        rintro y E4 ⟨rfl, q2⟩
        refine ⟨?_, q2⟩
        rw [et, List.filter_append, List.map_append, List.filter_cons_of_pos hp]; rfl
      | false =>
        refine eq_f ⟨?_, h2⟩
        rw [et, List.filter_append, List.filter_cons_of_neg (by rw [hp]; exact Bool.false_ne_true), List.filter_nil, List.append_nil]
  · rintro acc E' ⟨rfl, rfl⟩
    rw [List.take_length]
    exact ⟨hend, fin⟩
theorem at_var {E : Dn} {j : Nat} {ys : List PyData} (e : slotV E j = some (.own (.list ys))) (i : Nat) : (Wd.seq (.var j ys.length)).at i E = ys[i]? := by
  show (match Src.now E (.var j ys.length) with | some xs => xs[i]? | none => none) = _
  unfold Src.now
  simp [e, Va.d]
theorem ends_var {E : Dn} {j : Nat} {ys : List PyData} (e : slotV E j = some (.own (.list ys))) : (Wd.seq (.var j ys.length)).ends E = true := by
  show ((Src.now E (.var j ys.length)).isSome || _) = true
  unfold Src.now
  simp [e, Va.d]
theorem ex_cut {C : DC} {P : List Nat} {s : Sm} {r : Sms} {E : Dn} {Q : Fd → Dn → Prop} (Inv : Dn → Prop) (h1 : WS C P s E (fun f E1 => f = .nx ∧ Inv E1)) (h2 : ∀ E1, Inv E1 → WB C P r E1 Q) : WB C P (.cons s r) E Q := ex_cons (WS_mono h1 fun f E1 ⟨e, h⟩ => by subst e; exact ex_nx (h2 E1 h))
theorem ex_cutI {C : DC} {P : List Nat} {c : Ex} {a b : Sms} {r : Sms} {E : Dn} {Q : Fd → Dn → Prop} (Inv : Dn → Prop) (h1 : WS C P (.ite c a b) E (fun f E1 => f = .nx ∧ Inv E1)) (h2 : ∀ E1, Inv E1 → WB C P r E1 Q) : WB C P (.cons (.ite c a b) r) E Q := ex_cut Inv h1 h2
theorem q_eq_nil {xs : List PyData} {K : Re → Prop} (h : SeqAt.shaped (.list xs) = true) (k : K (.fz (.bool xs.isEmpty))) : OpQ .eq (.list xs) (.list []) K := by
  refine ⟨.fz (.bool xs.isEmpty), ?_, k⟩
  show (eqP0 _ _).map _ = _
  unfold eqP0
  rw [if_pos ⟨h, by decide +kernel⟩]
  cases xs <;> rfl
/-! bounds -/
def wy (m : Bool) : Str := if m = true then "most" else "least"
abbrev Bd := Int × Bool × Int
def rowD (r : List Int) : PyData := .tuple (r.map .int)
def bdD (b : Bd) : PyData := .tuple [.int b.1, .str (wy b.2.1), .int b.2.2]
def bdsD (ws : List Bd) : PyData := .list (ws.map bdD)
def InR (row : List Int) (b : Bd) : Prop := 0 ≤ b.1 ∧ b.1 < row.length
def mbI (row : List Int) (b : Bd) : Bool := if b.2.1 = true then decide ((row[b.1.toNat]?).getD 0 ≤ b.2.2) else decide (b.2.2 ≤ (row[b.1.toNat]?).getD 0)
theorem row_at {row : List Int} {c : Int} (h0 : 0 ≤ c) (h1 : c < row.length) : indexD (.tuple (row.map .int)) (.int c) = some (.int ((row[c.toNat]?).getD 0)) := by
  show atI (row.map PyData.int) c = _
  have hc : c.toNat < row.length := by omega
  unfold atI ixN
  rw [List.length_map, if_pos h0, if_pos h1]
  show (row.map PyData.int)[c.toNat]? = _
  rw [List.getElem?_map, List.getElem?_eq_getElem hc]; rfl
theorem wy_l : (wy false : Str) = "least" := rfl
theorem wy_m : (wy true : Str) = "most" := rfl
theorem wy_ne : ¬ (wy true : Str) = "least" := by decide +kernel
theorem wy_ne2 : ¬ (wy false : Str) = "most" := by decide +kernel
theorem meets_bound_cp {T : Pr} (hT : T.lookup "meets_bound" = some (5, B.meets_bound)) {k : Nat} {row : List Int} {b : Bd} (h : InR row b) :
    cp T (k + 1) "meets_bound" [.fz (rowD row), .fz (bdD b)] fun r os => r = .fz (.bool (mbI row b)) ∧ os = [none, none] := by
  obtain ⟨c, m, v⟩ := b
  refine ecp_of hT ?_
  show WB (dC T k noX) [] _ [some (.fz (.tuple (row.map .int))), some (.fz (.tuple [.int c, .str (wy m), .int v])), none, none, none] (zF [] 2 _)
  have hx := row_at h.1 h.2
  repeat fail "s"
  cases m with
  | false =>
    refine eq_dec (fun hw => ?_) (fun hw => absurd rfl hw)
    repeat fail "s"
    refine q_idx hx ?_
    repeat fail "s"
    first | rfl | exact ⟨rfl, rfl⟩
  | true =>
    refine eq_dec (fun hw => absurd hw wy_ne) (fun hw => ?_)
    repeat fail "s"
    refine q_idx hx ?_
    repeat fail "s"
    first | rfl | exact ⟨rfl, rfl⟩
theorem boolL_map : ∀ bs : List Bool, boolL (bs.map PyData.bool) = some bs
  | [] => rfl
  | b :: bs => by
    have ih := boolL_map bs
    unfold boolL at *
    rw [List.map_cons, List.mapM_cons, ih]; rfl
theorem intL_map : ∀ bs : List Int, intL (bs.map PyData.int) = some bs
  | [] => rfl
  | b :: bs => by
    have ih := intL_map bs
    unfold intL at *
    rw [List.map_cons, List.mapM_cons, ih]; rfl
theorem q_all {bs : List Bool} {K : Re → Prop} (h : K (.fz (.bool (bs.all id)))) : BfnQ "all" [.list (bs.map .bool)] K :=
  ⟨.fz _, by show (boolL (bs.map PyData.bool)).map _ = _; rw [boolL_map]; rfl, h⟩
theorem q_any {bs : List Bool} {K : Re → Prop} (h : K (.fz (.bool (bs.any id)))) : BfnQ "any" [.list (bs.map .bool)] K :=
  ⟨.fz _, by show (boolL (bs.map PyData.bool)).map _ = _; rw [boolL_map]; rfl, h⟩
theorem q_sum {bs : List Int} {K : Re → Prop} (h : K (.fz (.int bs.sum))) : BfnQ "sum" [.list (bs.map .int)] K :=
  ⟨.fz _, by show (intL (bs.map PyData.int)).map _ = _; rw [intL_map]; rfl, h⟩
theorem q_max1 {bs : List Int} {m : Int} {K : Re → Prop} (e : maxI bs = some m) (h : K (.fz (.int m))) : BfnQ "max" [.list (bs.map .int)] K :=
  ⟨.fz _, by show ((intL (bs.map PyData.int)).bind maxI).map _ = _; rw [intL_map]; show (maxI bs).map _ = _; rw [e]; rfl, h⟩
theorem q_min1 {bs : List Int} {m : Int} {K : Re → Prop} (e : minI bs = some m) (h : K (.fz (.int m))) : BfnQ "min" [.list (bs.map .int)] K :=
  ⟨.fz _, by show ((intL (bs.map PyData.int)).bind minI).map _ = _; rw [intL_map]; show (minI bs).map _ = _; rw [e]; rfl, h⟩
theorem all_map {α : Type} {f : α → Bool} {xs : List α} : (xs.map f).all id = xs.all f := by rw [List.all_map]; rfl
theorem map_bool {α : Type} {f : α → Bool} {xs : List α} : xs.map (fun x => PyData.bool (f x)) = (xs.map f).map .bool := by rw [List.map_map]; rfl
theorem filter_true {α : Type} {xs : List α} : xs.filter (fun _ => true) = xs := List.filter_eq_self.mpr fun _ _ => rfl
/-- a list handed on, its own or not -/
theorem meets_cp {T : Pr} (hT : T.lookup "meets" = some (3, B.meets)) (hM : T.lookup "meets_bound" = some (5, B.meets_bound)) {k : Nat} {row : List Int} {ws : List Bd} (hl : ws.length < 100000) (hr : ∀ b ∈ ws, InR row b) (o : Bool) :
    cp T (k + 2) "meets" [.fz (rowD row), ow o (bdsD ws)] fun r os => r = .fz (.bool (ws.all (mbI row))) ∧ os = [none, if o then some (.own (bdsD ws)) else none] := by
  refine ecp_of hT ?_
  cases o
  · show WB (dC T (k + 1) noX) [] _ [some (.fz (rowD row)), some (.fz (.list (ws.map bdD))), none] (zF [] 2 _)
    repeat fail "s"
    refine ew_comp ?_
    repeat fail "s"
    refine ⟨⟨rfl, rfl⟩, ?_⟩
    refine ecomp_pure (enc := bdD) ws (fun _ => true) (fun b => .bool (mbI row b)) (by simp [Wd.n, Src.n]) hl (fun i => rfl) rfl (fun b hb => ?_) ?_
    · refine ⟨_, rfl, rfl, ?_⟩
      repeat fail "s"
      intro _
      repeat fail "s"
      refine eq_call rfl rfl (cp_mono (meets_bound_cp hM (hr b hb)) ?_)
      rintro r os ⟨rfl, rfl⟩
      refine ⟨rfl, ?_⟩
      repeat fail "s"
      first | rfl | exact ⟨rfl, rfl⟩
    · rw [filter_true, map_bool]
      repeat fail "s"
      refine q_all ?_
      repeat fail "s"
      first | exact ⟨by rw [all_map], rfl⟩ | rw [all_map]
  · show WB (dC T (k + 1) noX) [1] _ [some (.fz (rowD row)), some (.own (.list (ws.map bdD))), none] (zF [1] 2 _)
    repeat fail "s"
    refine ew_comp ?_
    repeat fail "s"
    refine ⟨⟨rfl, rfl⟩, ?_⟩
    refine ecomp_pure (enc := bdD) ws (fun _ => true) (fun b => .bool (mbI row b)) (by simp [Wd.n, Src.n]) hl (fun i => at_var rfl i) (ends_var rfl) (fun b hb => ?_) ?_
    · refine ⟨_, rfl, rfl, ?_⟩
      repeat fail "s"
      intro _
      repeat fail "s"
      refine eq_call rfl rfl (cp_mono (meets_bound_cp hM (hr b hb)) ?_)
      rintro r os ⟨rfl, rfl⟩
      refine ⟨rfl, ?_⟩
      repeat fail "s"
      first | rfl | exact ⟨rfl, rfl⟩
    · rw [filter_true, map_bool]
      repeat fail "s"
      refine q_all ?_
      repeat fail "s"
      first | exact ⟨by rw [all_map], rfl⟩ | rw [all_map]
/-! sorted bounds -/
def shB : Nat → Bool := shapeD [.int 0, .str (wy false), .int 0]
def bdKey (b : Bd) : List Kit := [.inl b.1, .inr (wy b.2.1).cps.toList, .inl b.2.2]
def ltB (a b : Bd) : Bool := PyProof.Rows.lexLt PyProof.Rows.itemOrd (bdKey a) (bdKey b)
def sortB (ws : List Bd) : List Bd := isort ltB ws
theorem shape_bd (b : Bd) : shapeD [.int b.1, .str (wy b.2.1), .int b.2.2] = shB := by
  funext i
  match i with
  | 0 => rfl
  | 1 => rfl
  | 2 => rfl
  | n + 3 => rfl
theorem key_bd (b : Bd) : keyD shB (bdD b) = some (bdKey b) := rfl
theorem sort_bds {ws : List Bd} : sortD (ws.map bdD) = some ((sortB ws).map bdD) := by
  cases ws with
  | nil => rfl
  | cons b r =>
    unfold sortD
    have n1 : ¬ ((b :: r).map bdD).all isID = true := by
      intro h
      have := List.all_eq_true.mp h (bdD b) (by simp)
      cases this
    rw [if_neg n1]
    have hk : ((b :: r).map bdD).all (hasKD (shapeD [.int b.1, .str (wy b.2.1), .int b.2.2])) = true := by
      rw [shape_bd, List.all_eq_true]
      intro d hd
      obtain ⟨x, _, rfl⟩ := List.mem_map.mp hd
      rfl
    show (if ((b :: r).map bdD).all (hasKD (shapeD [.int b.1, .str (wy b.2.1), .int b.2.2])) = true then some (isort (ltD (shapeD [.int b.1, .str (wy b.2.1), .int b.2.2])) ((b :: r).map bdD)) else none) = _
    rw [if_pos hk, shape_bd, isort_map]
    rfl
theorem swo_ltB : Swo ltB := HI.Swo.of swo_lexI bdKey
theorem wy_inj {a b : Bool} (h : (wy a).cps.toList = (wy b).cps.toList) : a = b := by
  revert h
  cases a <;> cases b <;> intro h <;> first | rfl | exact absurd h (by decide +kernel)
theorem bdKey_inj {a b : Bd} (h : bdKey a = bdKey b) : a = b := by
  obtain ⟨c, m, v⟩ := a
  obtain ⟨c', m', v'⟩ := b
  unfold bdKey at h
  simp only [List.cons.injEq, Sum.inl.injEq, Sum.inr.injEq, and_true] at h
  obtain ⟨rfl, h2, rfl⟩ := h
  rw [wy_inj h2]
theorem sortB_perm {ws ws' : List Bd} (p : ws.Perm ws') : sortB ws = sortB ws' := by
  refine List.Perm.eq_of_pairwise (le := fun a b => ltB b a = false) (fun a b _ _ h1 h2 => bdKey_inj (PyProof.Rows.lex_total _ _ h2 h1)) (isort_sorted swo_ltB ws) (isort_sorted swo_ltB ws') (((isort_perm ws).trans p).trans (isort_perm ws').symm)
theorem q_sortB {ws : List Bd} {K : Re → Prop} (h : K (.own (bdsD (sortB ws)))) : BfnQ "sorted" [.list (ws.map bdD)] K :=
  ⟨.own (bdsD (sortB ws)), by show (sortD (ws.map bdD)).map _ = _; rw [sort_bds]; rfl, h⟩
theorem missed_cp {T : Pr} (hT : T.lookup "missed" = some (3, B.missed)) (hM : T.lookup "meets_bound" = some (5, B.meets_bound)) {k : Nat} {row : List Int} {ws : List Bd} (hl : ws.length < 100000) (hr : ∀ b ∈ ws, InR row b) (o : Bool) :
    cp T (k + 2) "missed" [.fz (rowD row), ow o (bdsD ws)] fun r os => r = .own (bdsD (sortB (ws.filter fun b => !mbI row b))) ∧ os = [none, if o then some (.own (bdsD ws)) else none] := by
  refine ecp_of hT ?_
  cases o
  · show WB (dC T (k + 1) noX) [] _ [some (.fz (rowD row)), some (.fz (.list (ws.map bdD))), none] (zF [] 2 _)
    repeat fail "s"
    refine ew_comp ?_
    repeat fail "s"
    refine ⟨⟨rfl, rfl⟩, ?_⟩
    refine ecomp_pure (enc := bdD) ws (fun b => !mbI row b) bdD (by simp [Wd.n, Src.n]) hl (fun i => rfl) rfl (fun b hb => ?_) ?_
    · refine ⟨_, rfl, rfl, ?_⟩
      repeat fail "s"
      refine eq_call rfl rfl (cp_mono (meets_bound_cp hM (hr b hb)) ?_)
      rintro r os ⟨rfl, rfl⟩
      refine ⟨rfl, ?_⟩
      repeat fail "s"
      intro _
      repeat fail "s"
      first | rfl | exact ⟨rfl, rfl⟩
    · repeat fail "s"
      refine q_sortB ?_
      repeat fail "s"
      first | rfl | exact ⟨rfl, rfl⟩
  · show WB (dC T (k + 1) noX) [1] _ [some (.fz (rowD row)), some (.own (.list (ws.map bdD))), none] (zF [1] 2 _)
    repeat fail "s"
    refine ew_comp ?_
    repeat fail "s"
    refine ⟨⟨rfl, rfl⟩, ?_⟩
    refine ecomp_pure (enc := bdD) ws (fun b => !mbI row b) bdD (by simp [Wd.n, Src.n]) hl (fun i => at_var rfl i) (ends_var rfl) (fun b hb => ?_) ?_
    · refine ⟨_, rfl, rfl, ?_⟩
      repeat fail "s"
      refine eq_call rfl rfl (cp_mono (meets_bound_cp hM (hr b hb)) ?_)
      rintro r os ⟨rfl, rfl⟩
      refine ⟨rfl, ?_⟩
      repeat fail "s"
      intro _
      repeat fail "s"
      first | rfl | exact ⟨rfl, rfl⟩
    · repeat fail "s"
      refine q_sortB ?_
      repeat fail "s"
      first | rfl | exact ⟨rfl, rfl⟩
end HJ

set_option maxRecDepth 100000
set_option maxHeartbeats 1000000
/-! the law's own helpers of bounds -/
namespace HJ
open PySem L2 HI SrtO
-- eng
local macro_rules | `(tactic| fail "s") => `(tactic| first
  | refine ex_cons ?_ | refine ex_nx ?_ | refine ex_rt ?_ | refine ex_bk ?_ | refine ex_ct ?_ | refine ex_nil ?_
  | refine ew_fz rfl ?_ | refine ew_own rfl ?_ | refine ew_tr rfl ?_ | refine ew_bor rfl ?_ | refine ew_rol rfl ?_ | refine ew_cst rfl ?_ | refine ew_bin ?_ | refine ew_idx ?_ | refine ew_nil ?_ | refine ew_cons ?_ | refine ew_call ?_ | refine ew_bcall ?_
  | refine ew_not ?_ | refine ew_neg ?_ | refine ew_and ?_ | refine ew_or ?_ | refine ew_chain ?_ | refine ew_ife ?_ | refine ew_lst ?_ | refine ew_tup ?_ | refine ew_slc ?_ | refine ew_meth ?_ | refine ew_fld ?_ | refine ew_mk ?_
  | refine ex_asg ?_ | refine ex_asgT ?_ | refine ex_asgS ?_ | refine ex_asgF ?_ | refine ex_aug rfl ?_ | refine ex_augS ?_ | refine ex_ex ?_ | refine ex_ite ?_ | refine ex_ret ?_ | refine ex_brk ?_ | refine ex_cont ?_ | refine ex_pass ?_ | refine ex_par ?_
  | refine q_rng (by omega) ?_ | refine ei_seq ?_ | refine ei_enum ?_ | refine ei_zip ?_ | refine ei_rng1 ?_ | refine ei_rng2 ?_ | refine ei_down ?_ | refine q_down (by omega) ?_
  | refine ip_t rfl rfl rfl rfl ?_ | refine ip_tt rfl rfl rfl rfl ?_ | refine ip_d rfl ?_ | refine fp_t rfl rfl rfl ?_ | refine fp_d rfl ?_ | refine tp_d ?_ | refine tp_t ?_ | refine fs_d rfl ?_ | refine q_dat rfl ?_ | refine q_datRr ?_ | refine q_datR rfl ?_ | refine q_truB rfl ?_ | refine eq_t ?_ | refine eq_f ?_
  | refine q_add_i ?_ | refine q_sub_i ?_ | refine q_lt_i ?_ | refine q_le_i ?_ | refine q_gt_i ?_ | refine q_ge_i ?_ | refine q_eq_i ?_ | refine q_ne_i ?_ | refine q_eq_s ?_ | refine q_ne_s ?_ | refine q_pow_18 ?_ | refine q_is_n ?_ | refine q_is_b ?_ | refine q_isn_b ?_ | refine q_isn_n ?_
  | refine q_idx rfl ?_ | refine p_no ?_ | refine ep_yes ?_ | refine q_slcL ?_ | refine d_nil ?_ | refine d_cons ?_ | refine q_bfn rfl ?_
  | refine f_fz ?_ | refine f_own ?_ | refine ef_var rfl ?_ | refine f_varF rfl ?_ | refine f_tr ?_ | refine ef_varT rfl ?_ | refine f_pt rfl ?_ | refine f_nil ?_ | refine f_cons ?_
  | refine r_fz ?_ | refine r_own ?_ | refine r_rol ?_ | refine r_tr ?_ | refine r_bor ?_ | refine er_var rfl ?_ | refine rs_nil ?_ | refine rs_cons ?_
  | refine ek_0 ?_ | refine ek_s ?_ | refine ess_nil ?_ | refine ess_cons rfl ?_ | refine esv_nil ?_ | refine esv_cons rfl ?_
  | refine q_tup ?_ | refine ea_nm rfl ?_ | refine ea_tp ?_ | refine s_fzl ?_ | refine s_fzt ?_ | refine s_own ?_ | refine s_rol ?_ | refine s_var rfl ?_ | refine s_varT rfl ?_ | refine s_tr ?_
  | refine eo_nil ?_ | refine eo_fz ?_ | refine eo_own ?_ | refine eo_rol ?_ | refine eo_var rfl ?_ | refine eo_varT rfl ?_ | refine eo_tr ?_ | refine eo_pt rfl ?_
  | refine zp_lst rfl ?_ | refine zp_tup rfl ?_ | refine zp_ins rfl ?_ | refine zt_0 ?_ | refine zt_s ?_ | refine zf_0 rfl ?_ | refine zf_s rfl ?_
  | refine fq_nx ?_ | refine fq_rt ?_ | refine t_fz ?_ | refine t_own ?_ | refine et_var rfl rfl ?_ | refine et_varP rfl rfl ?_ | refine et_varT rfl rfl ?_ | refine et_varPT rfl rfl ?_ | refine t_tr rfl ?_
  | refine q_rec rfl ?_ | refine em_l ?_ | refine em_r rfl ?_ | refine q_fld rfl ?_
  | refine side_int rfl ?_ | refine side_int2 rfl rfl ?_ | refine side_bool rfl ?_ | refine side_var rfl ?_
  | refine side rfl ?_ | refine side (Nat.le_of_ble_eq_true rfl) ?_ | refine em_set0 rfl ?_ | refine em_set1 rfl ?_ | refine em_set2 rfl ?_ | refine em_clear rfl ?_ | refine m_fld rfl rfl ?_ | refine ekl_0 ?_ | refine ekl_s ?_ | refine side_some rfl ?_
  | refine q_mul_i (by omega) (by omega) ?_ | refine q_mod_i (by omega) ?_ | refine q_fdiv_i (by omega) (by omega) ?_ | refine q_op rfl ?_ | refine q_slcT rfl ?_)
-- gne
theorem law_meets_cp {T : Pr} (hT : T.lookup "_law_meets" = some (5, B._law_meets)) {k : Nat} {row : List Int} {ws : List Bd} (hr : ∀ b ∈ ws, InR row b) (o : Bool) :
    cp T (k + 1) "_law_meets" [.fz (rowD row), ow o (bdsD ws)] fun r os => r = .fz (.bool (ws.all (mbI row))) ∧ os = [none, if o then some (.own (bdsD ws)) else none] := by
  refine ecp_of hT ?_
  cases o
  · show WB (dC T k noX) [] _ [some (.fz (rowD row)), some (.fz (.list (ws.map bdD))), none, none, none] (zF [] 2 _)
    repeat fail "s"
    refine ex_for ?_
    repeat fail "s"
    refine efor (N := ws.length) (fun i E => (∃ u2 u3 u4, E = [some (.fz (rowD row)), some (.fz (.list (ws.map bdD))), u2, u3, u4]) ∧ (ws.take i).all (mbI row) = true) (by simp [Wd.n, Src.n]) ⟨⟨_, _, _, rfl⟩, by simp⟩ ?_ ?_
    · rintro i E hi ⟨⟨u2, u3, u4, rfl⟩, h1⟩
      have hb := hr ws[i] (List.getElem_mem hi)
      have et : (ws.take (i + 1)).all (mbI row) = mbI row ws[i] := by
        rw [List.take_add_one, List.getElem?_eq_getElem hi, List.all_append, h1]; simp
      have ef : mbI row ws[i] = false → ws.all (mbI row) = false := fun h => by
        rw [List.all_eq_false]
        exact ⟨ws[i], List.getElem_mem hi, by rw [h]; exact Bool.false_ne_true⟩
      refine ⟨bdD ws[i], ?_, ?_⟩
      · refine (rfl : _ = (ws.map bdD)[i]?).trans ?_
        rw [List.getElem?_map, List.getElem?_eq_getElem hi]; rfl
      generalize ws[i] = b at *
      obtain ⟨c, m, v⟩ := b
      have hx : indexD (.tuple (row.map .int)) (.int c) = some (.int ((row[c.toNat]?).getD 0)) := row_at hb.1 hb.2
      have w1 : decide ((wy false : Str) = "least") = true := decide_eq_true rfl
      have w2 : decide ((wy false : Str) = "most") = false := decide_eq_false wy_ne2
      have w3 : decide ((wy true : Str) = "least") = false := decide_eq_false wy_ne
      have w4 : decide ((wy true : Str) = "most") = true := decide_eq_true rfl
      show zA _ _ (.tuple [.int c, .str (wy m), .int v]) _ _
      repeat fail "s"
      cases m with
      | false =>
        try rw [w1]
        repeat fail "s"
        refine q_idx hx ?_
        repeat fail "s"
        have em : mbI row (c, false, v) = decide (v ≤ (row[c.toNat]?).getD 0) := rfl
        generalize hq : decide ((row[c.toNat]?).getD 0 < v) = q
        cases q with
        | true =>
          have hl := of_decide_eq_true hq
          repeat fail "s"
          have : mbI row (c, false, v) = false := by rw [em, decide_eq_false_iff_not]; omega
          first | exact ⟨by rw [ef this], rfl⟩ | rw [ef this]
        | false =>
          have hl := of_decide_eq_false hq
          repeat fail "s"
          try rw [w2]
          repeat fail "s"
          exact ⟨⟨_, _, _, rfl⟩, by rw [et, em, decide_eq_true_iff]; omega⟩
      | true =>
        try rw [w3]
        repeat fail "s"
        try rw [w4]
        repeat fail "s"
        refine q_idx hx ?_
        repeat fail "s"
        have em : mbI row (c, true, v) = decide ((row[c.toNat]?).getD 0 ≤ v) := rfl
        generalize hq : decide ((row[c.toNat]?).getD 0 > v) = q
        cases q with
        | true =>
          have hl := of_decide_eq_true hq
          repeat fail "s"
          have : mbI row (c, true, v) = false := by rw [em, decide_eq_false_iff_not]; omega
          first | exact ⟨by rw [ef this], rfl⟩ | rw [ef this]
        | false =>
          have hl := of_decide_eq_false hq
          repeat fail "s"
          exact ⟨⟨_, _, _, rfl⟩, by rw [et, em, decide_eq_true_iff]; omega⟩
    · rintro E ⟨⟨u2, u3, u4, rfl⟩, h1⟩
      rw [List.take_length] at h1
      refine ⟨rfl, ?_⟩
      repeat fail "s"
      first | exact ⟨by rw [h1], rfl⟩ | rw [h1]
  · show WB (dC T k noX) [1] _ [some (.fz (rowD row)), some (.own (.list (ws.map bdD))), none, none, none] (zF [1] 2 _)
    repeat fail "s"
    refine ex_for ?_
    repeat fail "s"
    refine efor (N := ws.length) (fun i E => (∃ u2 u3 u4, E = [some (.fz (rowD row)), some (.own (.list (ws.map bdD))), u2, u3, u4]) ∧ (ws.take i).all (mbI row) = true) (by simp [Wd.n, Src.n]) ⟨⟨_, _, _, rfl⟩, by simp⟩ ?_ ?_
    · rintro i E hi ⟨⟨u2, u3, u4, rfl⟩, h1⟩
      have hb := hr ws[i] (List.getElem_mem hi)
      have et : (ws.take (i + 1)).all (mbI row) = mbI row ws[i] := by
        rw [List.take_add_one, List.getElem?_eq_getElem hi, List.all_append, h1]; simp
      have ef : mbI row ws[i] = false → ws.all (mbI row) = false := fun h => by
        rw [List.all_eq_false]
        exact ⟨ws[i], List.getElem_mem hi, by rw [h]; exact Bool.false_ne_true⟩
      refine ⟨bdD ws[i], ?_, ?_⟩
      · refine (at_var rfl i : _ = (ws.map bdD)[i]?).trans ?_
        rw [List.getElem?_map, List.getElem?_eq_getElem hi]; rfl
      generalize ws[i] = b at *
      obtain ⟨c, m, v⟩ := b
      have hx : indexD (.tuple (row.map .int)) (.int c) = some (.int ((row[c.toNat]?).getD 0)) := row_at hb.1 hb.2
      have w1 : decide ((wy false : Str) = "least") = true := decide_eq_true rfl
      have w2 : decide ((wy false : Str) = "most") = false := decide_eq_false wy_ne2
      have w3 : decide ((wy true : Str) = "least") = false := decide_eq_false wy_ne
      have w4 : decide ((wy true : Str) = "most") = true := decide_eq_true rfl
      show zA _ _ (.tuple [.int c, .str (wy m), .int v]) _ _
      repeat fail "s"
      cases m with
      | false =>
        try rw [w1]
        repeat fail "s"
        refine q_idx hx ?_
        repeat fail "s"
        have em : mbI row (c, false, v) = decide (v ≤ (row[c.toNat]?).getD 0) := rfl
        generalize hq : decide ((row[c.toNat]?).getD 0 < v) = q
        cases q with
        | true =>
          have hl := of_decide_eq_true hq
          repeat fail "s"
          have : mbI row (c, false, v) = false := by rw [em, decide_eq_false_iff_not]; omega
          first | exact ⟨by rw [ef this], rfl⟩ | rw [ef this]
        | false =>
          have hl := of_decide_eq_false hq
          repeat fail "s"
          try rw [w2]
          repeat fail "s"
          exact ⟨⟨_, _, _, rfl⟩, by rw [et, em, decide_eq_true_iff]; omega⟩
      | true =>
        try rw [w3]
        repeat fail "s"
        try rw [w4]
        repeat fail "s"
        refine q_idx hx ?_
        repeat fail "s"
        have em : mbI row (c, true, v) = decide ((row[c.toNat]?).getD 0 ≤ v) := rfl
        generalize hq : decide ((row[c.toNat]?).getD 0 > v) = q
        cases q with
        | true =>
          have hl := of_decide_eq_true hq
          repeat fail "s"
          have : mbI row (c, true, v) = false := by rw [em, decide_eq_false_iff_not]; omega
          first | exact ⟨by rw [ef this], rfl⟩ | rw [ef this]
        | false =>
          have hl := of_decide_eq_false hq
          repeat fail "s"
          exact ⟨⟨_, _, _, rfl⟩, by rw [et, em, decide_eq_true_iff]; omega⟩
    · rintro E ⟨⟨u2, u3, u4, rfl⟩, h1⟩
      rw [List.take_length] at h1
      refine ⟨ends_var rfl, ?_⟩
      repeat fail "s"
      first | exact ⟨by rw [h1], rfl⟩ | rw [h1]

theorem ixL {xs : List Int} {k : Int} (h0 : 0 ≤ k) (h1 : k < xs.length) : ∃ x ∈ xs, indexD (.list (xs.map .int)) (.int k) = some (.int x) := by
  have hk : k.toNat < xs.length := by omega
  refine ⟨xs[k.toNat], List.getElem_mem hk, ?_⟩
  show atI (xs.map PyData.int) k = _
  unfold atI ixN
  rw [List.length_map, if_pos h0, if_pos h1]
  show (xs.map PyData.int)[k.toNat]? = _
  rw [List.getElem?_map, List.getElem?_eq_getElem hk]; rfl
theorem q_ints {xs : List Int} {k : Int} {K : PyData → Prop} (h0 : 0 ≤ k) (h1 : k < xs.length) (h : ∀ x ∈ xs, K (.int x)) : IdxQ (.list (xs.map .int)) (.int k) K := by
  obtain ⟨x, hx, e⟩ := ixL h0 h1
  exact ⟨_, e, h x hx⟩
theorem q_slc {d : PyData} {lo hi : Option Int} {r : HI.Re} {K : Re → Prop} (e : sliceD d lo hi = some r) (h : K (reOf r)) : SlcQ d lo hi K := ⟨r, e, h⟩
theorem q_notin {x : PyData} {ds : List PyData} {K : Re → Prop} (hx : SeqAt.shaped x = true) (hd : SeqAt.shaped (.list ds) = true) (h : ∀ q, K (.fz (.bool q))) : OpQ .notin x (.list ds) K :=
  ⟨.fz (.bool _), by show (inP x (.list ds)).map _ = _; unfold inP; rw [if_pos ⟨hx, hd⟩]; rfl, h _⟩
theorem q_in {x : PyData} {ds : List PyData} {K : Re → Prop} (hx : SeqAt.shaped x = true) (hd : SeqAt.shaped (.list ds) = true) (h : ∀ q, K (.fz (.bool q))) : OpQ .in_ x (.list ds) K :=
  ⟨.fz (.bool _), by show (inP x (.list ds)).map _ = _; unfold inP; rw [if_pos ⟨hx, hd⟩]; rfl, h _⟩
def Far (v : Int) : Prop := -1000000000000000000 ≤ v ∧ v ≤ 1000000000000000000
theorem wide_cp {T : Pr} (hT : T.lookup "_law_wide_value" = some (3, B._law_wide_value)) (hK : T.lookup "_law_take" = some (6, B._law_take)) {k n : Nat} {d : PyData} (G : Bag d n) (hn : n < 2 ^ 90) :
    cp T (k + 2) "_law_wide_value" [.own d] fun r os => ∃ v d', r = .fz (.int v) ∧ os = [some (.own d')] ∧ Far v ∧ Bag d' (n + 6) := by
  refine ecp_of hT ?_
  show WB (dC T (k + 1) noX) [0] _ [some (.own d), none, none] (zF [0] 1 _)
  repeat fail "s"
  refine c_take hK rfl G (by omega) (by omega) (by omega) fun v1 d1 a1 b1 G1 => ?_
  repeat fail "s"
  refine c_take hK rfl G1 (by omega) (by omega) (by omega) fun v2 d2 a2 b2 G2 => ?_
  repeat fail "s"
  refine c_take hK rfl G2 (by omega) (by omega) (by omega) fun v3 d3 a3 b3 G3 => ?_
  repeat fail "s"
  refine c_take hK rfl G3 (by omega) (by omega) (by omega) fun v4 d4 a4 b4 G4 => ?_
  repeat fail "s"
  refine c_take hK rfl G4 (by omega) (by omega) (by omega) fun v5 d5 a5 b5 G5 => ?_
  repeat fail "s"
  refine c_take hK rfl G5 (by omega) (by omega) (by omega) fun v6 d6 a6 b6 G6 => ?_
  repeat fail "s"
  refine q_ints (xs := [v1 - 2, v2 - 2, 1000000000000000000 - v3, v4 - 1000000000000000000, v5 - 1000000000000000000]) a6 b6 fun x hx => ?_
  repeat fail "s"
  refine ⟨_, _, rfl, rfl, ?_, G6⟩
  unfold Far
  simp only [List.mem_cons, List.not_mem_nil, or_false] at hx
  omega
theorem shaped_nl {ds : List PyData} {w dp : Nat} (n : NiceL ds w dp) (h : dp ≤ 63) : SeqAt.shaped (.list ds) = true := (nice_lst n).shaped (by omega)
theorem nice_way (m : Bool) : Nice (.str (wy m)) 5 0 := by cases m <;> exact nice_str (by decide +kernel) (by decide +kernel)
theorem nice_cw (c : Int) (m : Bool) (h : c.natAbs < 10 ^ 40) : Nice (.tuple [.int c, .str (wy m)]) 141 1 := (nice_tup (nl_cons (nice_int h) (nl_cons (nice_way m) nl_nil))).mono (by omega) (by omega)
theorem nice_bd (b : Bd) (h : b.1.natAbs < 10 ^ 40) (h2 : Far b.2.2) : Nice (bdD b) 276 1 := (nice_tup (nl_cons (nice_int h) (nl_cons (nice_way b.2.1) (nl_cons (nice_int (by unfold Far at h2; omega)) nl_nil)))).mono (by omega) (by omega)
def Bds (row : List Int) (ws : List Bd) : Prop := ∀ b ∈ ws, InR row b ∧ Far b.2.2
theorem Bds.nl {row : List Int} {ws : List Bd} (hl : row.length < 1000) (h : Bds row ws) : NiceL (ws.map bdD) (ws.length * 277) 1 := by
  have := nl_all (ds := ws.map bdD) (w := 276) (dp := 1) fun d hd => by
    obtain ⟨b, hb, rfl⟩ := List.mem_map.mp hd
    have := (h b hb).1
    unfold InR at this
    exact nice_bd b (by omega) (h b hb).2
  rwa [List.length_map] at this
theorem row_mem {row : List Int} {c : Int} (h0 : 0 ≤ c) (h1 : c < row.length) : (row[c.toNat]?).getD 0 ∈ row := by
  have hc : c.toNat < row.length := by omega
  rw [List.getElem?_eq_getElem hc]
  exact List.getElem_mem hc
end HJ

set_option maxRecDepth 100000
namespace B
open PySem L2 HI
def settled : Sms := (.cons (.asg (.nm 3) (.cst (.int (0)))) (.cons (.asg (.nm 4) (.cst .non)) (.cons (.for_ (.tp [5, 6]) (.seq (.bcall "sortzip" (.cons (.slot 2) (.cons (.slot 0) .nil)))) (.cons (.ite (.bin .is_ (.slot 4) (.cst .non)) (.cons (.aug 3 .add (.slot 6)) (.cons (.ite (.bin .ge (.slot 3) (.slot 1)) (.cons (.asg (.nm 4) (.slot 5)) .nil) .nil) .nil)) .nil) .nil)) (.cons (.ret (.slot 4)) .nil))))
def settle : Sms := (.cons (.asg (.nm 2) (.meth "weights" "weights" (.slot 0) .nil)) (.cons (.asg (.nm 3) (.lst .nil)) (.cons (.for_ (.tp [4, 5]) (.enum (.meth "quotas" "quotas" (.slot 0) .nil)) (.cons (.ex (.meth "append" "append" (.slot 3) (.cons (.call "settled" (.cons (.slot 2) (.cons (.slot 5) (.cons (.comp [6] (.nm 6) (.seq (.slot 1)) (.cst (.bl true)) (.idx (.slot 6) (.slot 4))) .nil)))) .nil))) .nil)) (.cons (.ret (.bcall "tuple" (.cons (.slot 3) .nil))) .nil))))
def is_integer : Sms := (.cons (.ret (.and (.bcall "is int" (.cons (.slot 0) .nil)) (.not (.bcall "is bool" (.cons (.slot 0) .nil))))) .nil)
def is_between : Sms := (.cons (.ret (.and (.call "is_integer" (.cons (.slot 0) .nil)) (.chain .le .le (.slot 1) (.slot 0) (.slot 2)))) .nil)
def are_weights : Sms := (.cons (.ite (.or (.not (.bcall "is list" (.cons (.slot 0) .nil))) (.not (.chain .le .le (.cst (.int (2))) (.bcall "len" (.cons (.slot 0) .nil)) (.cst (.int (7)))))) (.cons (.ret (.cst (.bl false))) .nil) .nil) (.cons (.ret (.bcall "all" (.cons (.comp [1] (.nm 1) (.seq (.slot 0)) (.cst (.bl true)) (.call "is_between" (.cons (.slot 1) (.cons (.cst (.int (1))) (.cons (.cst (.int (1000000))) .nil))))) .nil))) .nil))
def are_quotas : Sms := (.cons (.ite (.or (.not (.bcall "is list" (.cons (.slot 0) .nil))) (.not (.chain .le .le (.cst (.int (1))) (.bcall "len" (.cons (.slot 0) .nil)) (.cst (.int (6)))))) (.cons (.ret (.cst (.bl false))) .nil) .nil) (.cons (.ret (.bcall "all" (.cons (.comp [2] (.nm 2) (.seq (.slot 0)) (.cst (.bl true)) (.call "is_between" (.cons (.slot 2) (.cons (.cst (.int (1))) (.cons (.slot 1) .nil))))) .nil))) .nil))
def Council_dot___init__ : Sms := (.cons (.ite (.not (.call "are_weights" (.cons (.slot 1) .nil))) (.cons .never .nil) .nil) (.cons (.ite (.not (.call "are_quotas" (.cons (.slot 2) (.cons (.bcall "sum" (.cons (.slot 1) .nil)) .nil)))) (.cons .never .nil) .nil) (.cons (.asgFld (.slot 0) "seat_weights" (.bcall "list" (.cons (.slot 1) .nil))) (.cons (.asgFld (.slot 0) "column_quotas" (.bcall "list" (.cons (.slot 2) .nil))) .nil))))
def Council_dot_weights : Sms := (.cons (.ret (.bcall "list" (.cons (.fld (.slot 0) "seat_weights") .nil))) .nil)
def Council_dot_quotas : Sms := (.cons (.ret (.bcall "list" (.cons (.fld (.slot 0) "column_quotas") .nil))) .nil)
def Council_dot_total : Sms := (.cons (.ret (.bcall "sum" (.cons (.fld (.slot 0) "seat_weights") .nil))) .nil)
def Council_dot_width : Sms := (.cons (.ret (.bcall "len" (.cons (.fld (.slot 0) "column_quotas") .nil))) .nil)
def Council_dot___len__ : Sms := (.cons (.ret (.bcall "len" (.cons (.fld (.slot 0) "seat_weights") .nil))) .nil)
def _law_council : Sms := (.cons (.par [7, 8] (.cons (.bin .add (.cst (.int (2))) (.call "_law_take" (.cons (.slot 0) (.cons (.bin .sub (.slot 2) (.cst (.int (1)))) .nil)))) (.cons (.call "_law_take" (.cons (.slot 0) (.cons (.cst (.int (5))) .nil))) .nil))) (.cons (.asg (.nm 3) (.comp [10] (.nm 10) (.rng1 (.slot 7)) (.cst (.bl true)) (.bin .add (.cst (.int (1))) (.call "_law_take" (.cons (.slot 0) (.cons (.idx (.lst (.cons (.cst (.int (1))) (.cons (.cst (.int (1))) (.cons (.cst (.int (2))) (.cons (.cst (.int (5))) (.cons (.cst (.int (1000000))) .nil)))))) (.slot 8)) .nil)))))) (.cons (.asg (.nm 4) (.bcall "sum" (.cons (.slot 3) .nil))) (.cons (.asg (.nm 5) (.lst .nil)) (.cons (.for_ (.nm 6) (.rng1 (.slot 1)) (.cons (.asg (.nm 9) (.lst (.cons (.bin .add (.bin .fdiv (.slot 4) (.cst (.int (2)))) (.cst (.int (1)))) (.cons (.bin .add (.cst (.int (1))) (.call "_law_take" (.cons (.slot 0) (.cons (.slot 4) .nil)))) (.cons (.cst (.int (1))) (.cons (.slot 4) .nil)))))) (.cons (.ex (.meth "append" "append" (.slot 5) (.cons (.idx (.slot 9) (.bin .mul (.bcall "max" (.cons (.cst (.int (0))) (.cons (.bin .sub (.call "_law_take" (.cons (.slot 0) (.cons (.cst (.int (6))) .nil))) (.cst (.int (2)))) .nil))) (.bcall "int" (.cons (.bin .gt (.slot 8) (.cst (.int (0)))) .nil)))) .nil))) .nil))) (.cons (.ret (.tup (.cons (.slot 3) (.cons (.slot 5) .nil)))) .nil))))))
def _law_made : Sms := (.cons (.ret (.mk 0 (.cons (.bcall "list" (.cons (.idx (.slot 0) (.cst (.int (0)))) .nil)) (.cons (.bcall "list" (.cons (.idx (.slot 0) (.cst (.int (1)))) .nil)) .nil)))) .nil)
def _law_value : Sms := (.cons (.asg (.nm 1) (.call "_law_take" (.cons (.slot 0) (.cons (.cst (.int (4))) .nil)))) (.cons (.ite (.bin .lt (.slot 1) (.cst (.int (2)))) (.cons (.ret (.bin .sub (.call "_law_take" (.cons (.slot 0) (.cons (.cst (.int (7))) .nil))) (.cst (.int (3))))) .nil) .nil) (.cons (.asg (.nm 2) (.lst (.cons (.bin .sub (.bin .pow (.cst (.int (10))) (.cst (.int (18)))) (.call "_law_take" (.cons (.slot 0) (.cons (.cst (.int (5))) .nil)))) (.cons (.bin .sub (.call "_law_take" (.cons (.slot 0) (.cons (.bin .add (.bin .mul (.cst (.int (2))) (.bin .pow (.cst (.int (10))) (.cst (.int (18))))) (.cst (.int (1)))) .nil))) (.bin .pow (.cst (.int (10))) (.cst (.int (18))))) .nil)))) (.cons (.ret (.bin .mul (.idx (.slot 2) (.bin .sub (.slot 1) (.cst (.int (2))))) (.idx (.lst (.cons (.cst (.int (1))) (.cons (.neg (.cst (.int (1)))) .nil))) (.call "_law_take" (.cons (.slot 0) (.cons (.cst (.int (2))) .nil)))))) .nil))))
def _law_seat_rows : Sms := (.cons (.par [4, 5] (.cons (.idx (.lst (.cons (.cst (.int (1))) (.cons (.cst (.int (3))) (.cons (.cst (.int (0))) .nil)))) (.call "_law_take" (.cons (.slot 0) (.cons (.cst (.int (3))) .nil)))) (.cons (.lst .nil) .nil))) (.cons (.for_ (.nm 3) (.rng1 (.slot 2)) (.cons (.asg (.nm 6) (.bcall "tuple" (.cons (.comp [7] (.nm 7) (.rng1 (.slot 1)) (.cst (.bl true)) (.ite (.bin .gt (.slot 4) (.cst (.int (0)))) (.call "_law_take" (.cons (.slot 0) (.cons (.bin .add (.slot 4) (.cst (.int (1)))) .nil))) (.call "_law_value" (.cons (.slot 0) .nil)))) .nil))) (.cons (.ite (.and (.bin .ne (.slot 5) (.lst .nil)) (.bin .eq (.call "_law_take" (.cons (.slot 0) (.cons (.cst (.int (4))) .nil))) (.cst (.int (0))))) (.cons (.asg (.nm 6) (.idx (.slot 5) (.call "_law_take" (.cons (.slot 0) (.cons (.bcall "len" (.cons (.slot 5) .nil)) .nil))))) .nil) .nil) (.cons (.ex (.meth "append" "append" (.slot 5) (.cons (.slot 6) .nil))) .nil)))) (.cons (.ret (.slot 5)) .nil)))
def _law_due : Sms := (.cons (.asg (.tp [4, 5]) (.slot 0)) (.cons (.asg (.nm 2) (.lst .nil)) (.cons (.for_ (.nm 3) (.rng1 (.bcall "len" (.cons (.slot 5) .nil))) (.cons (.asg (.nm 6) (.lst .nil)) (.cons (.for_ (.nm 7) (.seq (.comp [8] (.nm 8) (.seq (.slot 1)) (.cst (.bl true)) (.idx (.slot 8) (.slot 3)))) (.cons (.ite (.bin .ge (.bcall "sum" (.cons (.comp [9] (.nm 9) (.rng1 (.bcall "len" (.cons (.slot 4) .nil))) (.bin .le (.idx (.idx (.slot 1) (.slot 9)) (.slot 3)) (.slot 7)) (.idx (.slot 4) (.slot 9))) .nil)) (.idx (.slot 5) (.slot 3))) (.cons (.ex (.meth "append" "append" (.slot 6) (.cons (.slot 7) .nil))) .nil) .nil) .nil)) (.cons (.ex (.meth "append" "append" (.slot 2) (.cons (.bcall "min" (.cons (.slot 6) .nil)) .nil))) .nil)))) (.cons (.ret (.bcall "tuple" (.cons (.slot 2) .nil))) .nil))))
def law_k24 : Sms := (.cons (.asg (.nm 1) (.call "_law_bag" (.cons (.slot 0) .nil))) (.cons (.asg (.nm 2) (.bin .add (.cst (.int (1))) (.call "_law_take" (.cons (.slot 1) (.cons (.cst (.int (6))) .nil))))) (.cons (.asg (.nm 3) (.comp [10] (.nm 10) (.rng1 (.cst (.int (2)))) (.cst (.bl true)) (.call "_law_council" (.cons (.slot 1) (.cons (.slot 2) (.cons (.cst (.int (7))) .nil)))))) (.cons (.asg (.nm 4) (.comp [11] (.nm 11) (.seq (.slot 3)) (.cst (.bl true)) (.call "_law_made" (.cons (.slot 11) .nil)))) (.cons (.asg (.nm 5) (.lst .nil)) (.cons (.for_ (.nm 6) (.rng1 (.cst (.int (4)))) (.cons (.asg (.nm 7) (.call "_law_take" (.cons (.slot 1) (.cons (.cst (.int (2))) .nil)))) (.cons (.ex (.meth "append" "append" (.slot 5) (.cons (.tup (.cons (.slot 7) (.cons (.call "_law_seat_rows" (.cons (.slot 1) (.cons (.slot 2) (.cons (.bcall "len" (.cons (.idx (.idx (.slot 3) (.slot 7)) (.cst (.int (0)))) .nil)) .nil)))) .nil))) .nil))) .nil))) (.cons (.for_ (.tp [7, 8]) (.seq (.bin .add (.slot 5) (.bcall "[::-1]" (.cons (.slot 5) .nil)))) (.cons (.asg (.nm 9) (.bcall "list" (.cons (.slot 8) .nil))) (.cons (.ite (.or (.not (.call "_law_alike" (.cons (.call "settle" (.cons (.idx (.slot 4) (.slot 7)) (.cons (.slot 9) .nil))) (.cons (.call "_law_due" (.cons (.idx (.slot 3) (.slot 7)) (.cons (.slot 8) .nil))) .nil)))) (.bin .ne (.slot 9) (.slot 8))) (.cons (.ret (.cst (.bl false))) .nil) .nil) (.cons (.asgSub (.slot 9) (.call "_law_take" (.cons (.slot 1) (.cons (.bcall "len" (.cons (.slot 9) .nil)) .nil))) (.idx (.slot 9) (.cst (.int (0))))) (.cons (.asgSub (.slot 9) (.cst (.int (0))) (.idx (.slot 8) (.neg (.cst (.int (1)))))) (.cons (.ite (.not (.call "_law_alike" (.cons (.call "settle" (.cons (.idx (.slot 4) (.slot 7)) (.cons (.slot 9) .nil))) (.cons (.call "_law_due" (.cons (.idx (.slot 3) (.slot 7)) (.cons (.slot 9) .nil))) .nil)))) (.cons (.ret (.cst (.bl false))) .nil) .nil) (.cons (.ex (.meth "clear" "clear" (.slot 9) .nil)) .nil))))))) (.cons (.ret (.bcall "all" (.cons (.comp [11, 12] (.tp [11, 12]) (.zip (.slot 4) (.slot 3)) (.cst (.bl true)) (.call "_law_alike" (.cons (.lst (.cons (.meth "weights" "weights" (.slot 11) .nil) (.cons (.meth "quotas" "quotas" (.slot 11) .nil) .nil))) (.cons (.bcall "list" (.cons (.slot 12) .nil)) .nil)))) .nil))) .nil))))))))
end B
namespace K24
open PySem L2 HI
def CT : List Ci := [⟨"Council", "Council", 2, ["weights", "quotas", "total", "width"], ["seat_weights", "column_quotas"]⟩]
def tab : List (String × Nat × Sms) := [("settled", 7, B.settled), ("settle", 7, B.settle), ("is_integer", 1, B.is_integer), ("is_between", 3, B.is_between), ("are_weights", 2, B.are_weights), ("are_quotas", 3, B.are_quotas), ("Council.__init__", 3, B.Council_dot___init__), ("Council.weights", 1, B.Council_dot_weights), ("Council.quotas", 1, B.Council_dot_quotas), ("Council.total", 1, B.Council_dot_total), ("Council.width", 1, B.Council_dot_width), ("Council.__len__", 1, B.Council_dot___len__), ("_law_bag", 2, B._law_bag), ("_law_take", 6, B._law_take), ("_law_alike", 2, B._law_alike), ("_law_council", 11, B._law_council), ("_law_made", 1, B._law_made), ("_law_value", 3, B._law_value), ("_law_seat_rows", 8, B._law_seat_rows), ("_law_due", 10, B._law_due), ("law", 13, B.law_k24)]
def pr : Pr := ⟨tab, CT⟩
theorem l_settled : pr.lookup "settled" = some (7, B.settled) := by rfl
theorem l_settle : pr.lookup "settle" = some (7, B.settle) := by rfl
theorem l_is_integer : pr.lookup "is_integer" = some (1, B.is_integer) := by rfl
theorem l_is_between : pr.lookup "is_between" = some (3, B.is_between) := by rfl
theorem l_are_weights : pr.lookup "are_weights" = some (2, B.are_weights) := by rfl
theorem l_are_quotas : pr.lookup "are_quotas" = some (3, B.are_quotas) := by rfl
theorem l_Council_dot___init__ : pr.lookup "Council.__init__" = some (3, B.Council_dot___init__) := by rfl
theorem l_Council_dot_weights : pr.lookup "Council.weights" = some (1, B.Council_dot_weights) := by rfl
theorem l_Council_dot_quotas : pr.lookup "Council.quotas" = some (1, B.Council_dot_quotas) := by rfl
theorem l_Council_dot_total : pr.lookup "Council.total" = some (1, B.Council_dot_total) := by rfl
theorem l_Council_dot_width : pr.lookup "Council.width" = some (1, B.Council_dot_width) := by rfl
theorem l_Council_dot___len__ : pr.lookup "Council.__len__" = some (1, B.Council_dot___len__) := by rfl
theorem l__law_bag : pr.lookup "_law_bag" = some (2, B._law_bag) := by rfl
theorem l__law_take : pr.lookup "_law_take" = some (6, B._law_take) := by rfl
theorem l__law_alike : pr.lookup "_law_alike" = some (2, B._law_alike) := by rfl
theorem l__law_council : pr.lookup "_law_council" = some (11, B._law_council) := by rfl
theorem l__law_made : pr.lookup "_law_made" = some (1, B._law_made) := by rfl
theorem l__law_value : pr.lookup "_law_value" = some (3, B._law_value) := by rfl
theorem l__law_seat_rows : pr.lookup "_law_seat_rows" = some (8, B._law_seat_rows) := by rfl
theorem l__law_due : pr.lookup "_law_due" = some (10, B._law_due) := by rfl
theorem l_law : pr.lookup "law" = some (13, B.law_k24) := by rfl
end K24

set_option maxRecDepth 100000
set_option maxHeartbeats 1000000
/-! a session's row, by numbers -/
namespace HJ
open PySem L2 HI SrtO
def walkI (q : Int) : List (Int × Int) → Int → Option Int
  | [], _ => none
  | p :: ps, r => if q ≤ r + p.2 then some p.1 else walkI q ps (r + p.2)
def wsum (e : Int) (ps : List (Int × Int)) : Int := ((ps.filter fun p => decide (p.1 ≤ e)).map (·.2)).sum
theorem wsum_nn {e : Int} : ∀ {ps : List (Int × Int)}, (∀ p ∈ ps, 0 ≤ p.2) → 0 ≤ wsum e ps
  | [], _ => Int.le_refl _
  | p :: ps, h => by
    have ih := wsum_nn (e := e) fun x hx => h x (List.mem_cons_of_mem _ hx)
    have h0 := h p List.mem_cons_self
    unfold wsum at *
    by_cases c : p.1 ≤ e
    · rw [List.filter_cons_of_pos (by simpa using c), List.map_cons, List.sum_cons]; omega
    · rw [List.filter_cons_of_neg (by simpa using c)]; exact ih
theorem wsum_cons {e : Int} {p : Int × Int} {ps : List (Int × Int)} : wsum e (p :: ps) = (if p.1 ≤ e then p.2 else 0) + wsum e ps := by
  unfold wsum
  by_cases c : p.1 ≤ e
  · rw [List.filter_cons_of_pos (by simpa using c), List.map_cons, List.sum_cons, if_pos c]
  · rw [List.filter_cons_of_neg (by simpa using c), if_neg c]; omega
theorem wsum_lt {e : Int} : ∀ {ps : List (Int × Int)}, (∀ p ∈ ps, e < p.1) → wsum e ps = 0
  | [], _ => rfl
  | p :: ps, h => by
    have h0 := h p List.mem_cons_self
    rw [wsum_cons, if_neg (by omega), wsum_lt fun x hx => h x (List.mem_cons_of_mem _ hx)]; rfl
theorem walk_ok {q : Int} : ∀ (ps : List (Int × Int)) (r : Int), ps.Pairwise (fun a b => a.1 ≤ b.1) → (∀ p ∈ ps, 0 ≤ p.2) → r < q → q ≤ r + (ps.map (·.2)).sum →
    ∃ e, walkI q ps r = some e ∧ e ∈ ps.map (·.1) ∧ q ≤ r + wsum e ps ∧ ∀ e', q ≤ r + wsum e' ps → e ≤ e'
  | [], r, _, _, h1, h2 => by rw [List.map_nil, List.sum_nil] at h2; omega
  | p :: ps, r, hs, hn, h1, h2 => by
    have hn' : ∀ x ∈ ps, 0 ≤ x.2 := fun x hx => hn x (List.mem_cons_of_mem _ hx)
    have hp := hn p List.mem_cons_self
    rw [List.pairwise_cons] at hs
    unfold walkI
    by_cases c : q ≤ r + p.2
    · refine ⟨p.1, if_pos c, List.mem_cons_self, ?_, fun e' he => ?_⟩
      · have := wsum_nn (e := p.1) hn'
        rw [wsum_cons, if_pos (Int.le_refl _)]; omega
      · apply Classical.byContradiction
        intro hc
        rw [wsum_lt (e := e')] at he
        · omega
        · intro x hx
          rcases List.mem_cons.mp hx with rfl | hx
          · omega
          · have := hs.1 x hx; omega
    · rw [if_neg c]
      rw [List.map_cons, List.sum_cons] at h2
      obtain ⟨e, k1, k2, k3, k4⟩ := walk_ok (q := q) ps (r + p.2) hs.2 hn' (by omega) (by omega)
      obtain ⟨x, hx, rfl⟩ := List.mem_map.mp k2
      have hle := hs.1 x hx
      refine ⟨x.1, k1, List.mem_cons_of_mem _ k2, ?_, fun e' he => ?_⟩
      · rw [wsum_cons, if_pos hle]; omega
      · rw [wsum_cons] at he
        by_cases c2 : p.1 ≤ e'
        · rw [if_pos c2] at he
          exact k4 e' (by omega)
        · rw [if_neg c2] at he
          have hz : wsum e' ps = 0 := wsum_lt fun y hy => by have := hs.1 y hy; omega
          omega
theorem sum_perm {l l' : List Int} (p : l.Perm l') : l.sum = l'.sum := by
  induction p with
  | nil => rfl
  | cons x _ ih => rw [List.sum_cons, List.sum_cons, ih]
  | swap x y l => rw [List.sum_cons, List.sum_cons, List.sum_cons, List.sum_cons]; omega
  | trans _ _ i1 i2 => exact i1.trans i2
theorem wsum_perm {e : Int} {ps ps' : List (Int × Int)} (p : ps.Perm ps') : wsum e ps = wsum e ps' := sum_perm ((p.filter _).map _)
/-! the pairs, sorted -/
def prD (p : Int × Int) : PyData := .tuple [.int p.1, .int p.2]
def prKey (p : Int × Int) : List Kit := [.inl p.1, .inl p.2]
def ltP (a b : Int × Int) : Bool := PyProof.Rows.lexLt PyProof.Rows.itemOrd (prKey a) (prKey b)
def sortP (ps : List (Int × Int)) : List (Int × Int) := isort ltP ps
def shP : Nat → Bool := shapeD [.int 0, .int 0]
theorem shape_pr (p : Int × Int) : shapeD [.int p.1, .int p.2] = shP := by
  funext i
  match i with
  | 0 => rfl
  | 1 => rfl
  | n + 2 => rfl
theorem sort_prs {ps : List (Int × Int)} : sortD (ps.map prD) = some ((sortP ps).map prD) := by
  cases ps with
  | nil => rfl
  | cons b r =>
    unfold sortD
    have n1 : ¬ ((b :: r).map prD).all isID = true := by
      intro h
      have := List.all_eq_true.mp h (prD b) (by simp)
      cases this
    rw [if_neg n1]
    have hk : ((b :: r).map prD).all (hasKD (shapeD [.int b.1, .int b.2])) = true := by
      rw [shape_pr, List.all_eq_true]
      intro d hd
      obtain ⟨x, _, rfl⟩ := List.mem_map.mp hd
      rfl
    show (if ((b :: r).map prD).all (hasKD (shapeD [.int b.1, .int b.2])) = true then some (isort (ltD (shapeD [.int b.1, .int b.2])) ((b :: r).map prD)) else none) = _
    rw [if_pos hk, shape_pr, isort_map]
    rfl
theorem swo_ltP : Swo ltP := HI.Swo.of swo_lexI prKey
theorem ltP_lt {a b : Int × Int} (h : b.1 < a.1) : ltP b a = true := by
  unfold ltP prKey
  simp [PyProof.Rows.lexLt, PyProof.Rows.itemOrd, PyProof.Rows.itemLt, h]
theorem sortP_asc (ps : List (Int × Int)) : (sortP ps).Pairwise (fun a b => a.1 ≤ b.1) := by
  refine (isort_sorted swo_ltP ps).imp fun {a b} h => ?_
  apply Classical.byContradiction
  intro hc
  rw [ltP_lt (by omega)] at h
  cases h
theorem zipW_map {es ws : List Int} : List.zipWith (fun x y => PyData.tuple [x, y]) (es.map .int) (ws.map .int) = (es.zip ws).map prD := by
  rw [List.zipWith_map]
  rw [List.zip, List.map_zipWith]
  rfl
theorem q_sz {es ws : List Int} {K : Re → Prop} (h : K (.own (.list ((sortP (es.zip ws)).map prD)))) : BfnQ "sortzip" [.list (es.map .int), .list (ws.map .int)] K :=
  ⟨.own (.list _), by show (sortD (List.zipWith (fun x y => PyData.tuple [x, y]) (es.map .int) (ws.map .int))).map _ = _; rw [zipW_map, sort_prs]; rfl, h⟩
/-! one column's entry -/
def setI (ws : List Int) (q : Int) (es : List Int) : Int := (walkI q (sortP (es.zip ws)) 0).getD 0
def dueI (ws : List Int) (q : Int) (es : List Int) : List Int := es.filter fun e => decide (q ≤ wsum e (es.zip ws))
theorem minI_eq {l : List Int} {e : Int} (h : e ∈ l) (k : ∀ x ∈ l, e ≤ x) : minI l = some e := by
  induction l generalizing e with
  | nil => cases h
  | cons x r ih =>
    unfold minI
    cases hr : minI r with
    | none =>
      have : r = [] := by
        cases r with
        | nil => rfl
        | cons y r =>
          exfalso
          unfold minI at hr
          split at hr <;> cases hr
      subst this
      rw [List.mem_singleton.mp h]
    | some m =>
      have hm : m ∈ r ∧ ∀ y ∈ r, m ≤ y := by
        have key : ∀ (l : List Int) (m : Int), minI l = some m → m ∈ l ∧ ∀ y ∈ l, m ≤ y := by
          intro l
          induction l with
          | nil => intro m h; cases h
          | cons z l ihl =>
            intro m h
            unfold minI at h
            cases hz : minI l with
            | none =>
              rw [hz] at h
              cases h
              have : l = [] := by
                cases l with
                | nil => rfl
                | cons y r =>
                  exfalso
                  unfold minI at hz
                  split at hz <;> cases hz
              subst this
              exact ⟨List.mem_singleton.mpr rfl, fun y hy => by rw [List.mem_singleton.mp hy]; exact Int.le_refl _⟩
            | some n =>
              rw [hz] at h
              obtain ⟨h1, h2⟩ := ihl n hz
              cases h
              try dsimp only
              split
              · refine ⟨List.mem_cons_of_mem _ h1, fun y hy => ?_⟩
                rcases List.mem_cons.mp hy with rfl | hy
                · omega
                · exact h2 y hy
              · refine ⟨List.mem_cons_self, fun y hy => ?_⟩
                rcases List.mem_cons.mp hy with rfl | hy
                · omega
                · have := h2 y hy; omega
        exact key r m hr
      try dsimp only
      have kx := k x List.mem_cons_self
      have km := k m (List.mem_cons_of_mem _ hm.1)
      rcases List.mem_cons.mp h with rfl | h
      · split
        · congr 1; omega
        · rfl
      · have := hm.2 e h
        split
        · congr 1; omega
        · congr 1; omega
/-- the council's weights, a quota of them -/
structure Cq (ws : List Int) (q : Int) : Prop where
  q0 : 0 < q
  q1 : q ≤ ws.sum
  w0 : ∀ w ∈ ws, 0 ≤ w
theorem zip_fst {es ws : List Int} (h : es.length = ws.length) : (es.zip ws).map (·.1) = es := List.map_fst_zip (by omega)
theorem zip_snd {es ws : List Int} (h : es.length = ws.length) : (es.zip ws).map (·.2) = ws := List.map_snd_zip (by omega)
theorem set_col {ws es : List Int} {q : Int} (C : Cq ws q) (hl : es.length = ws.length) : walkI q (sortP (es.zip ws)) 0 = some (setI ws q es) ∧ minI (dueI ws q es) = some (setI ws q es) ∧ setI ws q es ∈ es ∧
    (∀ e, q ≤ wsum e (es.zip ws) ↔ setI ws q es ≤ e) := by
  have P : (sortP (es.zip ws)).Perm (es.zip ws) := isort_perm _
  have hs : ((sortP (es.zip ws)).map (·.2)).sum = ws.sum := by rw [sum_perm (P.map _), zip_snd hl]
  have hn : ∀ p ∈ sortP (es.zip ws), 0 ≤ p.2 := fun p hp => C.w0 _ (by rw [← zip_snd hl]; exact List.mem_map_of_mem (P.mem_iff.mp hp))
  have q0 := C.q0
  have q1 := C.q1
  obtain ⟨e, k1, k2, k3, k4⟩ := walk_ok (q := q) (sortP (es.zip ws)) 0 (sortP_asc _) hn (by omega) (by omega)
  have es' : setI ws q es = e := by unfold setI; rw [k1]; rfl
  have ein : e ∈ es := by
    have := (P.map (·.1)).mem_iff.mp k2
    rwa [zip_fst hl] at this
  rw [es']
  rw [wsum_perm P] at k3
  have k4' : ∀ e', q ≤ wsum e' (es.zip ws) → e ≤ e' := fun e' h => k4 e' (by rw [wsum_perm P]; omega)
  have mono : ∀ e', e ≤ e' → q ≤ wsum e' (es.zip ws) := fun e' h => by
    have : ∀ ps : List (Int × Int), (∀ p ∈ ps, 0 ≤ p.2) → wsum e ps ≤ wsum e' ps := by
      intro ps
      induction ps with
      | nil => intro _; exact Int.le_refl _
      | cons p ps ih =>
        intro hh
        have i1 := ih fun x hx => hh x (List.mem_cons_of_mem _ hx)
        have i2 := hh p List.mem_cons_self
        rw [wsum_cons, wsum_cons]
        by_cases c : p.1 ≤ e
        · rw [if_pos c, if_pos (by omega)]; omega
        · rw [if_neg c]; split <;> omega
    have := this (es.zip ws) fun p hp => C.w0 _ (by rw [← zip_snd hl]; exact List.mem_map_of_mem hp)
    omega
  refine ⟨k1, minI_eq ?_ ?_, ein, fun e' => ⟨fun h => k4' e' h, fun h => mono e' h⟩⟩
  · exact List.mem_filter.mpr ⟨ein, by simpa using k3⟩
  · intro x hx
    exact k4' x (by simpa using (List.mem_filter.mp hx).2)
end HJ

set_option maxRecDepth 100000
set_option maxHeartbeats 1000000
/-! councils: what the program does with them -/
namespace HJ
open PySem L2 HI SrtO
-- eng
local macro_rules | `(tactic| fail "s") => `(tactic| first
  | refine ex_cons ?_ | refine ex_nx ?_ | refine ex_rt ?_ | refine ex_bk ?_ | refine ex_ct ?_ | refine ex_nil ?_
  | refine ew_fz rfl ?_ | refine ew_own rfl ?_ | refine ew_tr rfl ?_ | refine ew_bor rfl ?_ | refine ew_rol rfl ?_ | refine ew_cst rfl ?_ | refine ew_bin ?_ | refine ew_idx ?_ | refine ew_nil ?_ | refine ew_cons ?_ | refine ew_call ?_ | refine ew_bcall ?_
  | refine ew_not ?_ | refine ew_neg ?_ | refine ew_and ?_ | refine ew_or ?_ | refine ew_chain ?_ | refine ew_ife ?_ | refine ew_lst ?_ | refine ew_tup ?_ | refine ew_slc ?_ | refine ew_meth ?_ | refine ew_fld ?_ | refine ew_mk ?_
  | refine ex_asg ?_ | refine ex_asgT ?_ | refine ex_asgS ?_ | refine ex_asgF ?_ | refine ex_aug rfl ?_ | refine ex_augS ?_ | refine ex_ex ?_ | refine ex_ite ?_ | refine ex_ret ?_ | refine ex_brk ?_ | refine ex_cont ?_ | refine ex_pass ?_ | refine ex_par ?_
  | refine q_rng (by omega) ?_ | refine ei_seq ?_ | refine ei_enum ?_ | refine ei_zip ?_ | refine ei_rng1 ?_ | refine ei_rng2 ?_ | refine ei_down ?_ | refine q_down (by omega) ?_
  | refine ip_t rfl rfl rfl rfl ?_ | refine ip_tt rfl rfl rfl rfl ?_ | refine ip_d rfl ?_ | refine fp_t rfl rfl rfl ?_ | refine fp_d rfl ?_ | refine tp_d ?_ | refine tp_t ?_ | refine fs_d rfl ?_ | refine q_dat rfl ?_ | refine q_datRr ?_ | refine q_datR rfl ?_ | refine q_truB rfl ?_ | refine eq_t ?_ | refine eq_f ?_
  | refine q_add_i ?_ | refine q_sub_i ?_ | refine q_lt_i ?_ | refine q_le_i ?_ | refine q_gt_i ?_ | refine q_ge_i ?_ | refine q_eq_i ?_ | refine q_ne_i ?_ | refine q_eq_s ?_ | refine q_ne_s ?_ | refine q_pow_18 ?_ | refine q_is_n ?_ | refine q_is_b ?_ | refine q_isn_b ?_ | refine q_isn_n ?_
  | refine q_idx rfl ?_ | refine p_no ?_ | refine ep_yes ?_ | refine q_slcL ?_ | refine d_nil ?_ | refine d_cons ?_ | refine q_bfn rfl ?_
  | refine f_fz ?_ | refine f_own ?_ | refine ef_var rfl ?_ | refine f_varF rfl ?_ | refine f_tr ?_ | refine ef_varT rfl ?_ | refine f_pt rfl ?_ | refine f_nil ?_ | refine f_cons ?_
  | refine r_fz ?_ | refine r_own ?_ | refine r_rol ?_ | refine r_tr ?_ | refine r_bor ?_ | refine er_var rfl ?_ | refine rs_nil ?_ | refine rs_cons ?_
  | refine ek_0 ?_ | refine ek_s ?_ | refine ess_nil ?_ | refine ess_cons rfl ?_ | refine esv_nil ?_ | refine esv_cons rfl ?_
  | refine q_tup ?_ | refine ea_nm rfl ?_ | refine ea_tp ?_ | refine s_fzl ?_ | refine s_fzt ?_ | refine s_own ?_ | refine s_rol ?_ | refine s_var rfl ?_ | refine s_varT rfl ?_ | refine s_tr ?_
  | refine eo_nil ?_ | refine eo_fz ?_ | refine eo_own ?_ | refine eo_rol ?_ | refine eo_var rfl ?_ | refine eo_varT rfl ?_ | refine eo_tr ?_ | refine eo_pt rfl ?_
  | refine zp_lst rfl ?_ | refine zp_tup rfl ?_ | refine zp_ins rfl ?_ | refine zt_0 ?_ | refine zt_s ?_ | refine zf_0 rfl ?_ | refine zf_s rfl ?_
  | refine fq_nx ?_ | refine fq_rt ?_ | refine t_fz ?_ | refine t_own ?_ | refine et_var rfl rfl ?_ | refine et_varP rfl rfl ?_ | refine et_varT rfl rfl ?_ | refine et_varPT rfl rfl ?_ | refine t_tr rfl ?_
  | refine q_rec rfl ?_ | refine em_l ?_ | refine em_r rfl ?_ | refine q_fld rfl ?_
  | refine side_int rfl ?_ | refine side_int2 rfl rfl ?_ | refine side_bool rfl ?_ | refine side_var rfl ?_
  | refine side rfl ?_ | refine side (Nat.le_of_ble_eq_true rfl) ?_ | refine em_set0 rfl ?_ | refine em_set1 rfl ?_ | refine em_set2 rfl ?_ | refine em_clear rfl ?_ | refine m_fld rfl rfl ?_ | refine ekl_0 ?_ | refine ekl_s ?_ | refine side_some rfl ?_
  | refine q_mul_i (by omega) (by omega) ?_ | refine q_mod_i (by omega) ?_ | refine q_fdiv_i (by omega) (by omega) ?_ | refine q_op rfl ?_ | refine q_slcT rfl ?_)
-- gne
def isD' : List Int → PyData := fun xs => .list (xs.map .int)
def optD : Option Int → PyData
  | none => .none
  | some e => .int e
theorem settled_cp {T : Pr} (hT : T.lookup "settled" = some (7, B.settled)) {k : Nat} {ws es : List Int} {q : Int} (C : Cq ws q) (hl : es.length = ws.length) (hz : ws.length < 1000) :
    cp T (k + 1) "settled" [.own (.list (ws.map .int)), .fz (.int q), .own (.list (es.map .int))] fun r os => r = .fz (.int (setI ws q es)) ∧ os = [some (.own (.list (ws.map .int))), none, some (.own (.list (es.map .int)))] := by
  obtain ⟨k1, k2, k3, k4⟩ := set_col C hl
  refine ecp_of hT ?_
  show WB (dC T k noX) [0, 2] _ [some (.own (.list (ws.map .int))), some (.fz (.int q)), some (.own (.list (es.map .int))), none, none, none, none] (zF [0, 2] 3 _)
  repeat fail "s"
  refine ex_for ?_
  repeat fail "s"
  refine q_sz ?_
  repeat fail "s"
  generalize hps : sortP (es.zip ws) = ps at *
  refine efor (N := ps.length) (fun i E => ∃ r f u5 u6, E = [some (.own (.list (ws.map .int))), some (.fz (.int q)), some (.own (.list (es.map .int))), some (.fz (.int r)), some (.fz (optD f)), u5, u6] ∧ (match f with | none => walkI q (ps.drop i) r | some e => some e) = some (setI ws q es)) (by simp [Wd.n, Src.n]) ⟨0, none, _, _, rfl, k1⟩ ?_ ?_
  · rintro i E hi ⟨r, f, u5, u6, rfl, hw⟩
    refine ⟨prD ps[i], ?_, ?_⟩
    · refine (rfl : _ = (ps.map prD)[i]?).trans ?_
      rw [List.getElem?_map, List.getElem?_eq_getElem hi]; rfl
    have hd : ps.drop i = ps[i] :: ps.drop (i + 1) := List.drop_eq_getElem_cons hi
    rw [hd] at hw
    generalize ps[i] = p at *
    obtain ⟨e, w⟩ := p
    show zA _ _ (.tuple [.int e, .int w]) _ _
    cases f with
    | none =>
      repeat fail "s"
      refine eq_dec (fun hc => ?_) (fun hc => ?_)
      · repeat fail "s"
        refine ⟨r + w, some e, _, _, rfl, ?_⟩
        have : walkI q ((e, w) :: ps.drop (i + 1)) r = some e := if_pos (by show q ≤ r + w; omega)
        rw [← hw]; exact this.symm
      · repeat fail "s"
        refine ⟨r + w, none, _, _, rfl, ?_⟩
        have : walkI q ((e, w) :: ps.drop (i + 1)) r = walkI q (ps.drop (i + 1)) (r + w) := if_neg (by show ¬ q ≤ r + w; omega)
        rw [← hw]; exact this.symm
    | some e0 =>
      repeat fail "s"
      exact ⟨r, some e0, _, _, rfl, hw⟩
  · rintro E ⟨r, f, u5, u6, rfl, hw⟩
    refine ⟨rfl, ?_⟩
    rw [List.drop_length] at hw
    cases f with
    | none => cases hw
    | some e0 =>
      cases hw
      repeat fail "s"
      first | rfl | exact ⟨rfl, rfl⟩
/-! council objects -/
structure CI (I : List Ci) : Prop where
  nm : cnameOf I 0 = "Council"
  mw : hasMOf I 0 "weights" = true
  mq : hasMOf I 0 "quotas" = true
  fw : fldOf I 0 "seat_weights" = true
  fq : fldOf I 0 "column_quotas" = true
def cD (ws qs : List Int) : PyData := insD 0 [("seat_weights", .list (ws.map .int)), ("column_quotas", .list (qs.map .int))]
theorem fld_w {I : List Ci} (C : CI I) {ws qs : List Int} : fldD I "seat_weights" (cD ws qs) = some (.list (ws.map .int)) := by
  show (if fldOf I 0 "seat_weights" = true then _ else _) = _
  rw [if_pos C.fw]; rfl
theorem fld_q {I : List Ci} (C : CI I) {ws qs : List Int} : fldD I "column_quotas" (cD ws qs) = some (.list (qs.map .int)) := by
  show (if fldOf I 0 "column_quotas" = true then _ else _) = _
  rw [if_pos C.fq]; rfl
theorem weights_cp {T : Pr} (hT : T.lookup "Council.weights" = some (1, B.Council_dot_weights)) (C : CI T.I) {k : Nat} {ws qs : List Int} (o : Bool) :
    cp T (k + 1) "Council.weights" [ow o (cD ws qs)] fun r os => r = .own (.list (ws.map .int)) ∧ os = [if o then some (.own (cD ws qs)) else none] := by
  refine ecp_of hT ?_
  cases o
  · show WB (dC T k noX) [] _ [some (.fz (cD ws qs))] (zF [] 1 _)
    repeat fail "s"
    refine q_fld (fld_w C) ?_
    repeat fail "s"
    first | rfl | exact ⟨rfl, rfl⟩
  · show WB (dC T k noX) [0] _ [some (.own (cD ws qs))] (zF [0] 1 _)
    repeat fail "s"
    refine q_fld (fld_w C) ?_
    repeat fail "s"
    first | rfl | exact ⟨rfl, rfl⟩
theorem quotas_cp {T : Pr} (hT : T.lookup "Council.quotas" = some (1, B.Council_dot_quotas)) (C : CI T.I) {k : Nat} {ws qs : List Int} (o : Bool) :
    cp T (k + 1) "Council.quotas" [ow o (cD ws qs)] fun r os => r = .own (.list (qs.map .int)) ∧ os = [if o then some (.own (cD ws qs)) else none] := by
  refine ecp_of hT ?_
  cases o
  · show WB (dC T k noX) [] _ [some (.fz (cD ws qs))] (zF [] 1 _)
    repeat fail "s"
    refine q_fld (fld_q C) ?_
    repeat fail "s"
    first | rfl | exact ⟨rfl, rfl⟩
  · show WB (dC T k noX) [0] _ [some (.own (cD ws qs))] (zF [0] 1 _)
    repeat fail "s"
    refine q_fld (fld_q C) ?_
    repeat fail "s"
    first | rfl | exact ⟨rfl, rfl⟩
theorem rec_c {m : Str} {E : Dn} {ws qs : List Int} {K : Rk → Prop} (h1 : ([("seat_weights", PyData.list (ws.map .int)), ("column_quotas", PyData.list (qs.map .int))] : List (Str × PyData)).lookup m = none) (h : K (.ins 0)) : RecQ m E (.fz (cD ws qs)) K :=
  ⟨.ins 0, if_pos h1, h⟩
end HJ

set_option maxRecDepth 100000
set_option maxHeartbeats 1000000
/-! settle -/
namespace HJ
open PySem L2 HI SrtO
-- eng
local macro_rules | `(tactic| fail "s") => `(tactic| first
  | refine ex_cons ?_ | refine ex_nx ?_ | refine ex_rt ?_ | refine ex_bk ?_ | refine ex_ct ?_ | refine ex_nil ?_
  | refine ew_fz rfl ?_ | refine ew_own rfl ?_ | refine ew_tr rfl ?_ | refine ew_bor rfl ?_ | refine ew_rol rfl ?_ | refine ew_cst rfl ?_ | refine ew_bin ?_ | refine ew_idx ?_ | refine ew_nil ?_ | refine ew_cons ?_ | refine ew_call ?_ | refine ew_bcall ?_
  | refine ew_not ?_ | refine ew_neg ?_ | refine ew_and ?_ | refine ew_or ?_ | refine ew_chain ?_ | refine ew_ife ?_ | refine ew_lst ?_ | refine ew_tup ?_ | refine ew_slc ?_ | refine ew_meth ?_ | refine ew_fld ?_ | refine ew_mk ?_
  | refine ex_asg ?_ | refine ex_asgT ?_ | refine ex_asgS ?_ | refine ex_asgF ?_ | refine ex_aug rfl ?_ | refine ex_augS ?_ | refine ex_ex ?_ | refine ex_ite ?_ | refine ex_ret ?_ | refine ex_brk ?_ | refine ex_cont ?_ | refine ex_pass ?_ | refine ex_par ?_
  | refine q_rng (by omega) ?_ | refine ei_seq ?_ | refine ei_enum ?_ | refine ei_zip ?_ | refine ei_rng1 ?_ | refine ei_rng2 ?_ | refine ei_down ?_ | refine q_down (by omega) ?_
  | refine ip_t rfl rfl rfl rfl ?_ | refine ip_tt rfl rfl rfl rfl ?_ | refine ip_d rfl ?_ | refine fp_t rfl rfl rfl ?_ | refine fp_d rfl ?_ | refine tp_d ?_ | refine tp_t ?_ | refine fs_d rfl ?_ | refine q_dat rfl ?_ | refine q_datRr ?_ | refine q_datR rfl ?_ | refine q_truB rfl ?_ | refine eq_t ?_ | refine eq_f ?_
  | refine q_add_i ?_ | refine q_sub_i ?_ | refine q_lt_i ?_ | refine q_le_i ?_ | refine q_gt_i ?_ | refine q_ge_i ?_ | refine q_eq_i ?_ | refine q_ne_i ?_ | refine q_eq_s ?_ | refine q_ne_s ?_ | refine q_pow_18 ?_ | refine q_is_n ?_ | refine q_is_b ?_ | refine q_isn_b ?_ | refine q_isn_n ?_
  | refine q_idx rfl ?_ | refine p_no ?_ | refine ep_yes ?_ | refine q_slcL ?_ | refine d_nil ?_ | refine d_cons ?_ | refine q_bfn rfl ?_
  | refine f_fz ?_ | refine f_own ?_ | refine ef_var rfl ?_ | refine f_varF rfl ?_ | refine f_tr ?_ | refine ef_varT rfl ?_ | refine f_pt rfl ?_ | refine f_nil ?_ | refine f_cons ?_
  | refine r_fz ?_ | refine r_own ?_ | refine r_rol ?_ | refine r_tr ?_ | refine r_bor ?_ | refine er_var rfl ?_ | refine rs_nil ?_ | refine rs_cons ?_
  | refine ek_0 ?_ | refine ek_s ?_ | refine ess_nil ?_ | refine ess_cons rfl ?_ | refine esv_nil ?_ | refine esv_cons rfl ?_
  | refine q_tup ?_ | refine ea_nm rfl ?_ | refine ea_tp ?_ | refine s_fzl ?_ | refine s_fzt ?_ | refine s_own ?_ | refine s_rol ?_ | refine s_var rfl ?_ | refine s_varT rfl ?_ | refine s_tr ?_
  | refine eo_nil ?_ | refine eo_fz ?_ | refine eo_own ?_ | refine eo_rol ?_ | refine eo_var rfl ?_ | refine eo_varT rfl ?_ | refine eo_tr ?_ | refine eo_pt rfl ?_
  | refine zp_lst rfl ?_ | refine zp_tup rfl ?_ | refine zp_ins rfl ?_ | refine zt_0 ?_ | refine zt_s ?_ | refine zf_0 rfl ?_ | refine zf_s rfl ?_
  | refine fq_nx ?_ | refine fq_rt ?_ | refine t_fz ?_ | refine t_own ?_ | refine et_var rfl rfl ?_ | refine et_varP rfl rfl ?_ | refine et_varT rfl rfl ?_ | refine et_varPT rfl rfl ?_ | refine t_tr rfl ?_
  | refine q_rec rfl ?_ | refine em_l ?_ | refine em_r rfl ?_ | refine q_fld rfl ?_
  | refine side_int rfl ?_ | refine side_int2 rfl rfl ?_ | refine side_bool rfl ?_ | refine side_var rfl ?_
  | refine side rfl ?_ | refine side (Nat.le_of_ble_eq_true rfl) ?_ | refine em_set0 rfl ?_ | refine em_set1 rfl ?_ | refine em_set2 rfl ?_ | refine em_clear rfl ?_ | refine m_fld rfl rfl ?_ | refine ekl_0 ?_ | refine ekl_s ?_ | refine side_some rfl ?_
  | refine q_mul_i (by omega) (by omega) ?_ | refine q_mod_i (by omega) ?_ | refine q_fdiv_i (by omega) (by omega) ?_ | refine q_op rfl ?_ | refine q_slcT rfl ?_)
-- gne
def nth (xs : List Int) (j : Nat) : Int := (xs[j]?).getD 0
def col (j : Nat) (rows : List (List Int)) : List Int := rows.map fun r => nth r j
def setRow (ws qs : List Int) (rows : List (List Int)) : List Int := (List.range qs.length).map fun j => setI ws (nth qs j) (col j rows)
def rowsD (rows : List (List Int)) : PyData := .list (rows.map rowD)
theorem map_int {α : Type} {f : α → Int} {xs : List α} : xs.map (fun x => PyData.int (f x)) = (xs.map f).map .int := by rw [List.map_map]; rfl
theorem settle_cp2 {T : Pr} (hT : T.lookup "settle" = some (7, B.settle)) (hS : T.lookup "settled" = some (7, B.settled)) (hW : T.lookup "Council.weights" = some (1, B.Council_dot_weights)) (hQ : T.lookup "Council.quotas" = some (1, B.Council_dot_quotas)) (C : CI T.I)
    {k : Nat} {ws qs : List Int} {rows : List (List Int)} (hq : ∀ q ∈ qs, Cq ws q) (hl : rows.length = ws.length) (hz : ws.length < 1000) (hz2 : qs.length < 1000) (hr : ∀ r ∈ rows, qs.length ≤ r.length) (oc o : Bool) :
    cp T (k + 2) "settle" [ow oc (cD ws qs), ow o (rowsD rows)] fun r os => r = .fz (rowD (setRow ws qs rows)) ∧ os = [if oc then some (.own (cD ws qs)) else none, if o then some (.own (rowsD rows)) else none] := by
  have big := big1000
  have ew : cnameOf T.I 0 ++ "." ++ "weights" = "Council.weights" := by rw [C.nm]; rfl
  have eqq : cnameOf T.I 0 ++ "." ++ "quotas" = "Council.quotas" := by rw [C.nm]; rfl
  refine ecp_of hT ?_
  cases oc <;> cases o
  · show WB (dC T (k + 1) noX) [] _ [some (.fz (cD ws qs)), some (.fz (.list (rows.map rowD))), none, none, none, none, none] (zF [] 2 _)
    repeat fail "s"
    refine em_r C.mw ?_
    repeat fail "s"
    rw [ew]
    refine eq_call rfl rfl (cp_mono (weights_cp hW C false) ?_)
    rintro r os ⟨rfl, rfl⟩
    refine ⟨rfl, ?_⟩
    repeat fail "s"
    refine ex_for ?_
    repeat fail "s"
    refine em_r C.mq ?_
    repeat fail "s"
    rw [eqq]
    refine eq_call rfl rfl (cp_mono (quotas_cp hQ C false) ?_)
    rintro r os ⟨rfl, rfl⟩
    refine ⟨rfl, ?_⟩
    repeat fail "s"
    refine efor (N := qs.length) (fun i E => ∃ u4 u5, E = [some (.fz (cD ws qs)), some (.fz (.list (rows.map rowD))), some (.own (.list (ws.map .int))), some (.own (.list (((List.range i).map fun j => setI ws (nth qs j) (col j rows)).map .int))), u4, u5, none]) (by simp [Wd.n, Src.n]) ⟨_, _, rfl⟩ ?_ ?_
    · rintro i E hi ⟨u4, u5, rfl⟩
      refine ⟨.tuple [.int (i : Nat), .int (nth qs i)], ?_, ?_⟩
      · refine (rfl : _ = ((qs.map PyData.int)[i]?).map fun x => PyData.tuple [.int (i : Nat), x]).trans ?_
        rw [List.getElem?_map, List.getElem?_eq_getElem hi]
        unfold nth
        rw [List.getElem?_eq_getElem hi]; rfl
      have hC : Cq ws (nth qs i) := by
        unfold nth
        rw [List.getElem?_eq_getElem hi]
        exact hq _ (List.getElem_mem hi)
      repeat fail "s"
      refine ew_comp ?_
      repeat fail "s"
      refine ⟨⟨rfl, rfl⟩, ?_⟩
      refine ecomp_pure (enc := rowD) rows (fun _ => true) (fun r => .int (nth r i)) (by simp [Wd.n, Src.n]) (by omega) (fun i => rfl) (rfl) (fun r hr' => ?_) ?_
      · refine ⟨_, rfl, rfl, ?_⟩
        repeat fail "s"
        intro _
        repeat fail "s"
        refine q_idx (row_at (by omega) (by have := hr r hr'; omega)) ?_
        repeat fail "s"
        first | rfl | exact ⟨rfl, rfl⟩
      · have em : (rows.map fun r => PyData.int (nth r i)) = (col i rows).map .int := map_int
        rw [filter_true, em]
        repeat fail "s"
        refine eq_call (T := T) rfl rfl (cp_mono (settled_cp hS (es := col i rows) hC (by unfold col; rw [List.length_map]; exact hl) hz) ?_)
        rintro r os ⟨rfl, rfl⟩
        refine ⟨rfl, ?_⟩
        repeat fail "s"
        refine em_append rfl (by rw [List.length_map, List.length_map, List.length_range]; omega) ?_
        repeat fail "s"
        refine ⟨some (.fz (.int (i : Nat))), some (.fz (.int (nth qs i))), ?_⟩
        rw [List.range_succ, List.map_append, List.map_append]; rfl
    · rintro E ⟨u4, u5, rfl⟩
      refine ⟨rfl, ?_⟩
      repeat fail "s"
      first | rfl | exact ⟨rfl, rfl⟩
  · show WB (dC T (k + 1) noX) [1] _ [some (.fz (cD ws qs)), some (.own (.list (rows.map rowD))), none, none, none, none, none] (zF [1] 2 _)
    repeat fail "s"
    refine em_r C.mw ?_
    repeat fail "s"
    rw [ew]
    refine eq_call rfl rfl (cp_mono (weights_cp hW C false) ?_)
    rintro r os ⟨rfl, rfl⟩
    refine ⟨rfl, ?_⟩
    repeat fail "s"
    refine ex_for ?_
    repeat fail "s"
    refine em_r C.mq ?_
    repeat fail "s"
    rw [eqq]
    refine eq_call rfl rfl (cp_mono (quotas_cp hQ C false) ?_)
    rintro r os ⟨rfl, rfl⟩
    refine ⟨rfl, ?_⟩
    repeat fail "s"
    refine efor (N := qs.length) (fun i E => ∃ u4 u5, E = [some (.fz (cD ws qs)), some (.own (.list (rows.map rowD))), some (.own (.list (ws.map .int))), some (.own (.list (((List.range i).map fun j => setI ws (nth qs j) (col j rows)).map .int))), u4, u5, none]) (by simp [Wd.n, Src.n]) ⟨_, _, rfl⟩ ?_ ?_
    · rintro i E hi ⟨u4, u5, rfl⟩
      refine ⟨.tuple [.int (i : Nat), .int (nth qs i)], ?_, ?_⟩
      · refine (rfl : _ = ((qs.map PyData.int)[i]?).map fun x => PyData.tuple [.int (i : Nat), x]).trans ?_
        rw [List.getElem?_map, List.getElem?_eq_getElem hi]
        unfold nth
        rw [List.getElem?_eq_getElem hi]; rfl
      have hC : Cq ws (nth qs i) := by
        unfold nth
        rw [List.getElem?_eq_getElem hi]
        exact hq _ (List.getElem_mem hi)
      repeat fail "s"
      refine ew_comp ?_
      repeat fail "s"
      refine ⟨⟨rfl, rfl⟩, ?_⟩
      refine ecomp_pure (enc := rowD) rows (fun _ => true) (fun r => .int (nth r i)) (by simp [Wd.n, Src.n]) (by omega) (fun i => at_var rfl i) (ends_var rfl) (fun r hr' => ?_) ?_
      · refine ⟨_, rfl, rfl, ?_⟩
        repeat fail "s"
        intro _
        repeat fail "s"
        refine q_idx (row_at (by omega) (by have := hr r hr'; omega)) ?_
        repeat fail "s"
        first | rfl | exact ⟨rfl, rfl⟩
      · have em : (rows.map fun r => PyData.int (nth r i)) = (col i rows).map .int := map_int
        rw [filter_true, em]
        repeat fail "s"
        refine eq_call (T := T) rfl rfl (cp_mono (settled_cp hS (es := col i rows) hC (by unfold col; rw [List.length_map]; exact hl) hz) ?_)
        rintro r os ⟨rfl, rfl⟩
        refine ⟨rfl, ?_⟩
        repeat fail "s"
        refine em_append rfl (by rw [List.length_map, List.length_map, List.length_range]; omega) ?_
        repeat fail "s"
        refine ⟨some (.fz (.int (i : Nat))), some (.fz (.int (nth qs i))), ?_⟩
        rw [List.range_succ, List.map_append, List.map_append]; rfl
    · rintro E ⟨u4, u5, rfl⟩
      refine ⟨rfl, ?_⟩
      repeat fail "s"
      first | rfl | exact ⟨rfl, rfl⟩
  · show WB (dC T (k + 1) noX) [0] _ [some (.own (cD ws qs)), some (.fz (.list (rows.map rowD))), none, none, none, none, none] (zF [0] 2 _)
    repeat fail "s"
    refine em_r C.mw ?_
    repeat fail "s"
    rw [ew]
    refine eq_call rfl rfl (cp_mono (weights_cp hW C true) ?_)
    rintro r os ⟨rfl, rfl⟩
    refine ⟨rfl, ?_⟩
    repeat fail "s"
    refine ex_for ?_
    repeat fail "s"
    refine em_r C.mq ?_
    repeat fail "s"
    rw [eqq]
    refine eq_call rfl rfl (cp_mono (quotas_cp hQ C true) ?_)
    rintro r os ⟨rfl, rfl⟩
    refine ⟨rfl, ?_⟩
    repeat fail "s"
    refine efor (N := qs.length) (fun i E => ∃ u4 u5, E = [some (.own (cD ws qs)), some (.fz (.list (rows.map rowD))), some (.own (.list (ws.map .int))), some (.own (.list (((List.range i).map fun j => setI ws (nth qs j) (col j rows)).map .int))), u4, u5, none]) (by simp [Wd.n, Src.n]) ⟨_, _, rfl⟩ ?_ ?_
    · rintro i E hi ⟨u4, u5, rfl⟩
      refine ⟨.tuple [.int (i : Nat), .int (nth qs i)], ?_, ?_⟩
      · refine (rfl : _ = ((qs.map PyData.int)[i]?).map fun x => PyData.tuple [.int (i : Nat), x]).trans ?_
        rw [List.getElem?_map, List.getElem?_eq_getElem hi]
        unfold nth
        rw [List.getElem?_eq_getElem hi]; rfl
      have hC : Cq ws (nth qs i) := by
        unfold nth
        rw [List.getElem?_eq_getElem hi]
        exact hq _ (List.getElem_mem hi)
      repeat fail "s"
      refine ew_comp ?_
      repeat fail "s"
      refine ⟨⟨rfl, rfl⟩, ?_⟩
      refine ecomp_pure (enc := rowD) rows (fun _ => true) (fun r => .int (nth r i)) (by simp [Wd.n, Src.n]) (by omega) (fun i => rfl) (rfl) (fun r hr' => ?_) ?_
      · refine ⟨_, rfl, rfl, ?_⟩
        repeat fail "s"
        intro _
        repeat fail "s"
        refine q_idx (row_at (by omega) (by have := hr r hr'; omega)) ?_
        repeat fail "s"
        first | rfl | exact ⟨rfl, rfl⟩
      · have em : (rows.map fun r => PyData.int (nth r i)) = (col i rows).map .int := map_int
        rw [filter_true, em]
        repeat fail "s"
        refine eq_call (T := T) rfl rfl (cp_mono (settled_cp hS (es := col i rows) hC (by unfold col; rw [List.length_map]; exact hl) hz) ?_)
        rintro r os ⟨rfl, rfl⟩
        refine ⟨rfl, ?_⟩
        repeat fail "s"
        refine em_append rfl (by rw [List.length_map, List.length_map, List.length_range]; omega) ?_
        repeat fail "s"
        refine ⟨some (.fz (.int (i : Nat))), some (.fz (.int (nth qs i))), ?_⟩
        rw [List.range_succ, List.map_append, List.map_append]; rfl
    · rintro E ⟨u4, u5, rfl⟩
      refine ⟨rfl, ?_⟩
      repeat fail "s"
      first | rfl | exact ⟨rfl, rfl⟩
  · show WB (dC T (k + 1) noX) [0, 1] _ [some (.own (cD ws qs)), some (.own (.list (rows.map rowD))), none, none, none, none, none] (zF [0, 1] 2 _)
    repeat fail "s"
    refine em_r C.mw ?_
    repeat fail "s"
    rw [ew]
    refine eq_call rfl rfl (cp_mono (weights_cp hW C true) ?_)
    rintro r os ⟨rfl, rfl⟩
    refine ⟨rfl, ?_⟩
    repeat fail "s"
    refine ex_for ?_
    repeat fail "s"
    refine em_r C.mq ?_
    repeat fail "s"
    rw [eqq]
    refine eq_call rfl rfl (cp_mono (quotas_cp hQ C true) ?_)
    rintro r os ⟨rfl, rfl⟩
    refine ⟨rfl, ?_⟩
    repeat fail "s"
    refine efor (N := qs.length) (fun i E => ∃ u4 u5, E = [some (.own (cD ws qs)), some (.own (.list (rows.map rowD))), some (.own (.list (ws.map .int))), some (.own (.list (((List.range i).map fun j => setI ws (nth qs j) (col j rows)).map .int))), u4, u5, none]) (by simp [Wd.n, Src.n]) ⟨_, _, rfl⟩ ?_ ?_
    · rintro i E hi ⟨u4, u5, rfl⟩
      refine ⟨.tuple [.int (i : Nat), .int (nth qs i)], ?_, ?_⟩
      · refine (rfl : _ = ((qs.map PyData.int)[i]?).map fun x => PyData.tuple [.int (i : Nat), x]).trans ?_
        rw [List.getElem?_map, List.getElem?_eq_getElem hi]
        unfold nth
        rw [List.getElem?_eq_getElem hi]; rfl
      have hC : Cq ws (nth qs i) := by
        unfold nth
        rw [List.getElem?_eq_getElem hi]
        exact hq _ (List.getElem_mem hi)
      repeat fail "s"
      refine ew_comp ?_
      repeat fail "s"
      refine ⟨⟨rfl, rfl⟩, ?_⟩
      refine ecomp_pure (enc := rowD) rows (fun _ => true) (fun r => .int (nth r i)) (by simp [Wd.n, Src.n]) (by omega) (fun i => at_var rfl i) (ends_var rfl) (fun r hr' => ?_) ?_
      · refine ⟨_, rfl, rfl, ?_⟩
        repeat fail "s"
        intro _
        repeat fail "s"
        refine q_idx (row_at (by omega) (by have := hr r hr'; omega)) ?_
        repeat fail "s"
        first | rfl | exact ⟨rfl, rfl⟩
      · have em : (rows.map fun r => PyData.int (nth r i)) = (col i rows).map .int := map_int
        rw [filter_true, em]
        repeat fail "s"
        refine eq_call (T := T) rfl rfl (cp_mono (settled_cp hS (es := col i rows) hC (by unfold col; rw [List.length_map]; exact hl) hz) ?_)
        rintro r os ⟨rfl, rfl⟩
        refine ⟨rfl, ?_⟩
        repeat fail "s"
        refine em_append rfl (by rw [List.length_map, List.length_map, List.length_range]; omega) ?_
        repeat fail "s"
        refine ⟨some (.fz (.int (i : Nat))), some (.fz (.int (nth qs i))), ?_⟩
        rw [List.range_succ, List.map_append, List.map_append]; rfl
    · rintro E ⟨u4, u5, rfl⟩
      refine ⟨rfl, ?_⟩
      repeat fail "s"
      first | rfl | exact ⟨rfl, rfl⟩
theorem settle_cp {T : Pr} (hT : T.lookup "settle" = some (7, B.settle)) (hS : T.lookup "settled" = some (7, B.settled)) (hW : T.lookup "Council.weights" = some (1, B.Council_dot_weights)) (hQ : T.lookup "Council.quotas" = some (1, B.Council_dot_quotas)) (C : CI T.I)
    {k : Nat} {ws qs : List Int} {rows : List (List Int)} (hq : ∀ q ∈ qs, Cq ws q) (hl : rows.length = ws.length) (hz : ws.length < 1000) (hz2 : qs.length < 1000) (hr : ∀ r ∈ rows, qs.length ≤ r.length) (o : Bool) :
    cp T (k + 2) "settle" [.fz (cD ws qs), ow o (rowsD rows)] fun r os => r = .fz (rowD (setRow ws qs rows)) ∧ os = [none, if o then some (.own (rowsD rows)) else none] := settle_cp2 hT hS hW hQ C hq hl hz hz2 hr false o
end HJ

set_option maxRecDepth 100000
set_option maxHeartbeats 1000000
namespace HJ
open PySem L2 HI SrtO
-- eng
local macro_rules | `(tactic| fail "s") => `(tactic| first
  | refine ex_cons ?_ | refine ex_nx ?_ | refine ex_rt ?_ | refine ex_bk ?_ | refine ex_ct ?_ | refine ex_nil ?_
  | refine ew_fz rfl ?_ | refine ew_own rfl ?_ | refine ew_tr rfl ?_ | refine ew_bor rfl ?_ | refine ew_rol rfl ?_ | refine ew_cst rfl ?_ | refine ew_bin ?_ | refine ew_idx ?_ | refine ew_nil ?_ | refine ew_cons ?_ | refine ew_call ?_ | refine ew_bcall ?_
  | refine ew_not ?_ | refine ew_neg ?_ | refine ew_and ?_ | refine ew_or ?_ | refine ew_chain ?_ | refine ew_ife ?_ | refine ew_lst ?_ | refine ew_tup ?_ | refine ew_slc ?_ | refine ew_meth ?_ | refine ew_fld ?_ | refine ew_mk ?_
  | refine ex_asg ?_ | refine ex_asgT ?_ | refine ex_asgS ?_ | refine ex_asgF ?_ | refine ex_aug rfl ?_ | refine ex_augS ?_ | refine ex_ex ?_ | refine ex_ite ?_ | refine ex_ret ?_ | refine ex_brk ?_ | refine ex_cont ?_ | refine ex_pass ?_ | refine ex_par ?_
  | refine q_rng (by omega) ?_ | refine ei_seq ?_ | refine ei_enum ?_ | refine ei_zip ?_ | refine ei_rng1 ?_ | refine ei_rng2 ?_ | refine ei_down ?_ | refine q_down (by omega) ?_
  | refine ip_t rfl rfl rfl rfl ?_ | refine ip_tt rfl rfl rfl rfl ?_ | refine ip_d rfl ?_ | refine fp_t rfl rfl rfl ?_ | refine fp_d rfl ?_ | refine tp_d ?_ | refine tp_t ?_ | refine fs_d rfl ?_ | refine q_dat rfl ?_ | refine q_datRr ?_ | refine q_datR rfl ?_ | refine q_truB rfl ?_ | refine eq_t ?_ | refine eq_f ?_
  | refine q_add_i ?_ | refine q_sub_i ?_ | refine q_lt_i ?_ | refine q_le_i ?_ | refine q_gt_i ?_ | refine q_ge_i ?_ | refine q_eq_i ?_ | refine q_ne_i ?_ | refine q_eq_s ?_ | refine q_ne_s ?_ | refine q_pow_18 ?_ | refine q_is_n ?_ | refine q_is_b ?_ | refine q_isn_b ?_ | refine q_isn_n ?_
  | refine q_idx rfl ?_ | refine p_no ?_ | refine ep_yes ?_ | refine q_slcL ?_ | refine d_nil ?_ | refine d_cons ?_ | refine q_bfn rfl ?_
  | refine f_fz ?_ | refine f_own ?_ | refine ef_var rfl ?_ | refine f_varF rfl ?_ | refine f_tr ?_ | refine ef_varT rfl ?_ | refine f_pt rfl ?_ | refine f_nil ?_ | refine f_cons ?_
  | refine r_fz ?_ | refine r_own ?_ | refine r_rol ?_ | refine r_tr ?_ | refine r_bor ?_ | refine er_var rfl ?_ | refine rs_nil ?_ | refine rs_cons ?_
  | refine ek_0 ?_ | refine ek_s ?_ | refine ess_nil ?_ | refine ess_cons rfl ?_ | refine esv_nil ?_ | refine esv_cons rfl ?_
  | refine q_tup ?_ | refine ea_nm rfl ?_ | refine ea_tp ?_ | refine s_fzl ?_ | refine s_fzt ?_ | refine s_own ?_ | refine s_rol ?_ | refine s_var rfl ?_ | refine s_varT rfl ?_ | refine s_tr ?_
  | refine eo_nil ?_ | refine eo_fz ?_ | refine eo_own ?_ | refine eo_rol ?_ | refine eo_var rfl ?_ | refine eo_varT rfl ?_ | refine eo_tr ?_ | refine eo_pt rfl ?_
  | refine zp_lst rfl ?_ | refine zp_tup rfl ?_ | refine zp_ins rfl ?_ | refine zt_0 ?_ | refine zt_s ?_ | refine zf_0 rfl ?_ | refine zf_s rfl ?_
  | refine fq_nx ?_ | refine fq_rt ?_ | refine t_fz ?_ | refine t_own ?_ | refine et_var rfl rfl ?_ | refine et_varP rfl rfl ?_ | refine et_varT rfl rfl ?_ | refine et_varPT rfl rfl ?_ | refine t_tr rfl ?_
  | refine q_rec rfl ?_ | refine em_l ?_ | refine em_r rfl ?_ | refine q_fld rfl ?_
  | refine side_int rfl ?_ | refine side_int2 rfl rfl ?_ | refine side_bool rfl ?_ | refine side_var rfl ?_
  | refine side rfl ?_ | refine side (Nat.le_of_ble_eq_true rfl) ?_ | refine em_set0 rfl ?_ | refine em_set1 rfl ?_ | refine em_set2 rfl ?_ | refine em_clear rfl ?_ | refine m_fld rfl rfl ?_ | refine ekl_0 ?_ | refine ekl_s ?_ | refine side_some rfl ?_
  | refine q_mul_i (by omega) (by omega) ?_ | refine q_mod_i (by omega) ?_ | refine q_fdiv_i (by omega) (by omega) ?_ | refine q_op rfl ?_ | refine q_slcT rfl ?_)
-- gne
theorem is_integer_cp {T : Pr} (hT : T.lookup "is_integer" = some (1, B.is_integer)) {k : Nat} {x : Int} : cp T (k + 1) "is_integer" [.fz (.int x)] fun r os => r = .fz (.bool true) ∧ os = [none] := by
  refine ecp_of hT ?_
  show WB (dC T k noX) [] _ [some (.fz (.int x))] (zF [] 1 _)
  repeat fail "s"
  first | rfl | exact ⟨rfl, rfl⟩
theorem is_between_cp {T : Pr} (hT : T.lookup "is_between" = some (3, B.is_between)) (hI : T.lookup "is_integer" = some (1, B.is_integer)) {k : Nat} {x lo hi : Int} (h1 : lo ≤ x) (h2 : x ≤ hi) :
    cp T (k + 2) "is_between" [.fz (.int x), .fz (.int lo), .fz (.int hi)] fun r os => r = .fz (.bool true) ∧ os = [none, none, none] := by
  refine ecp_of hT ?_
  show WB (dC T (k + 1) noX) [] _ [some (.fz (.int x)), some (.fz (.int lo)), some (.fz (.int hi))] (zF [] 3 _)
  repeat fail "s"
  refine eq_call rfl rfl (cp_mono (is_integer_cp hI) ?_)
  rintro r os ⟨rfl, rfl⟩
  refine ⟨rfl, ?_⟩
  repeat fail "s"
  rw [decide_eq_true h1]
  repeat fail "s"
  rw [decide_eq_true h2]
  first | rfl | exact ⟨rfl, rfl⟩
structure Co (ws qs : List Int) (width most : Nat) : Prop where
  l2 : 2 ≤ ws.length
  l7 : ws.length ≤ most
  w : ∀ w ∈ ws, 1 ≤ w ∧ w ≤ 1000000
  ql : qs.length = width
  q : ∀ q ∈ qs, 1 ≤ q ∧ q ≤ ws.sum
theorem Co.cq {ws qs : List Int} {width most : Nat} (C : Co ws qs width most) {q : Int} (h : q ∈ qs) : Cq ws q := ⟨by have := (C.q q h).1; omega, (C.q q h).2, fun w hw => by have := (C.w w hw).1; omega⟩
theorem all_true {α : Type} {xs : List α} : ((xs.map fun _ => true).all id) = true := by rw [List.all_map, List.all_eq_true]; intro x _; rfl
theorem are_weights_cp {T : Pr} (hT : T.lookup "are_weights" = some (2, B.are_weights)) (hB : T.lookup "is_between" = some (3, B.is_between)) (hI : T.lookup "is_integer" = some (1, B.is_integer)) {k : Nat} {ws : List Int} (h1 : 2 ≤ ws.length) (h2 : ws.length ≤ 7) (h3 : ∀ w ∈ ws, 1 ≤ w ∧ w ≤ 1000000) :
    cp T (k + 3) "are_weights" [.own (.list (ws.map .int))] fun r os => r = .fz (.bool true) ∧ os = [some (.own (.list (ws.map .int)))] := by
  refine ecp_of hT ?_
  have ln : (ws.map PyData.int).length = ws.length := List.length_map _
  show WB (dC T (k + 2) noX) [0] _ [some (.own (.list (ws.map .int))), none] (zF [0] 1 _)
  repeat fail "s"
  rw [ln, decide_eq_true (show (2 : Int) ≤ (ws.length : Int) by omega)]
  repeat fail "s"
  rw [decide_eq_true (show (ws.length : Int) ≤ 7 by omega)]
  repeat fail "s"
  refine ew_comp ?_
  repeat fail "s"
  refine ⟨⟨rfl, rfl⟩, ?_⟩
  refine ecomp_pure (enc := .int) ws (fun _ => true) (fun _ => .bool true) (by simp [Wd.n, Src.n]) (by omega) (fun i => at_var rfl i) (ends_var rfl) (fun w hw => ?_) ?_
  · refine ⟨_, rfl, rfl, ?_⟩
    repeat fail "s"
    intro _
    repeat fail "s"
    refine eq_call rfl rfl (cp_mono (is_between_cp hB hI (h3 w hw).1 (h3 w hw).2) ?_)
    rintro r os ⟨rfl, rfl⟩
    refine ⟨rfl, ?_⟩
    repeat fail "s"
    first | rfl | exact ⟨rfl, rfl⟩
  · have em : (ws.map fun _ => PyData.bool true) = (ws.map fun _ => true).map .bool := map_bool
    rw [filter_true, em]
    repeat fail "s"
    refine q_all ?_
    rw [all_true]
    repeat fail "s"
    first | rfl | exact ⟨rfl, rfl⟩
theorem are_quotas_cp {T : Pr} (hT : T.lookup "are_quotas" = some (3, B.are_quotas)) (hB : T.lookup "is_between" = some (3, B.is_between)) (hI : T.lookup "is_integer" = some (1, B.is_integer)) {k : Nat} {qs : List Int} {t : Int} (h1 : 1 ≤ qs.length) (h2 : qs.length ≤ 6) (h3 : ∀ q ∈ qs, 1 ≤ q ∧ q ≤ t) :
    cp T (k + 3) "are_quotas" [.own (.list (qs.map .int)), .fz (.int t)] fun r os => r = .fz (.bool true) ∧ os = [some (.own (.list (qs.map .int))), none] := by
  refine ecp_of hT ?_
  have ln : (qs.map PyData.int).length = qs.length := List.length_map _
  show WB (dC T (k + 2) noX) [0] _ [some (.own (.list (qs.map .int))), some (.fz (.int t)), none] (zF [0] 2 _)
  repeat fail "s"
  rw [ln, decide_eq_true (show (1 : Int) ≤ (qs.length : Int) by omega)]
  repeat fail "s"
  rw [decide_eq_true (show (qs.length : Int) ≤ 6 by omega)]
  repeat fail "s"
  refine ew_comp ?_
  repeat fail "s"
  refine ⟨⟨rfl, rfl⟩, ?_⟩
  refine ecomp_pure (enc := .int) qs (fun _ => true) (fun _ => .bool true) (by simp [Wd.n, Src.n]) (by omega) (fun i => at_var rfl i) (ends_var rfl) (fun w hw => ?_) ?_
  · refine ⟨_, rfl, rfl, ?_⟩
    repeat fail "s"
    intro _
    repeat fail "s"
    refine eq_call rfl rfl (cp_mono (is_between_cp hB hI (h3 w hw).1 (h3 w hw).2) ?_)
    rintro r os ⟨rfl, rfl⟩
    refine ⟨rfl, ?_⟩
    repeat fail "s"
    first | rfl | exact ⟨rfl, rfl⟩
  · have em : (qs.map fun _ => PyData.bool true) = (qs.map fun _ => true).map .bool := map_bool
    rw [filter_true, em]
    repeat fail "s"
    refine q_all ?_
    rw [all_true]
    repeat fail "s"
    first | rfl | exact ⟨rfl, rfl⟩
/-- what a made council rests on -/
structure CL (T : Pr) : Prop extends CI T.I where
  ini : T.lookup "Council.__init__" = some (3, B.Council_dot___init__)
  arw : T.lookup "are_weights" = some (2, B.are_weights)
  arq : T.lookup "are_quotas" = some (3, B.are_quotas)
  isb : T.lookup "is_between" = some (3, B.is_between)
  isi : T.lookup "is_integer" = some (1, B.is_integer)
  wei : T.lookup "Council.weights" = some (1, B.Council_dot_weights)
  quo : T.lookup "Council.quotas" = some (1, B.Council_dot_quotas)
theorem setf_w {I : List Ci} (C : CI I) {v : PyData} : setFD I "seat_weights" v (insD 0 []) = some (insD 0 [("seat_weights", v)]) := by
  show (if fldOf I 0 "seat_weights" = true ∧ 0 < 1000 then _ else _) = _
  rw [if_pos ⟨C.fw, by decide⟩]; rfl
theorem setf_q {I : List Ci} (C : CI I) {v x : PyData} : setFD I "column_quotas" v (insD 0 [("seat_weights", x)]) = some (insD 0 [("seat_weights", x), ("column_quotas", v)]) := by
  show (if fldOf I 0 "column_quotas" = true ∧ 1 < 1000 then _ else _) = _
  rw [if_pos ⟨C.fq, by decide⟩]; rfl
theorem init_cp {T : Pr} (L : CL T) {k : Nat} {ws qs : List Int} {width most : Nat} (C : Co ws qs width most) (h7 : most ≤ 7) (w1 : 1 ≤ width) (w6 : width ≤ 6) :
    cp T (k + 4) "Council.__init__" [.own (insD 0 []), .own (.list (ws.map .int)), .own (.list (qs.map .int))] fun r os => r = .fz .none ∧ os = [some (.own (cD ws qs)), some (.own (.list (ws.map .int))), some (.own (.list (qs.map .int)))] := by
  refine ecp_of L.ini ?_
  have hq := C.ql
  have h2 := C.l2
  have h3 := C.l7
  show WB (dC T (k + 3) noX) [0, 1, 2] _ [some (.own (insD 0 [])), some (.own (.list (ws.map .int))), some (.own (.list (qs.map .int)))] (zF [0, 1, 2] 3 _)
  repeat fail "s"
  refine eq_call rfl rfl (cp_mono (are_weights_cp L.arw L.isb L.isi h2 (by omega) C.w) ?_)
  rintro r os ⟨rfl, rfl⟩
  refine ⟨rfl, ?_⟩
  repeat fail "s"
  refine q_sum ?_
  repeat fail "s"
  refine eq_call rfl rfl (cp_mono (are_quotas_cp L.arq L.isb L.isi (by omega) (by omega) C.q) ?_)
  rintro r os ⟨rfl, rfl⟩
  refine ⟨rfl, ?_⟩
  repeat fail "s"
  refine m_fld rfl (setf_w L.toCI) ?_
  repeat fail "s"
  refine m_fld rfl (setf_q L.toCI) ?_
  repeat fail "s"
  first | rfl | exact ⟨rfl, rfl⟩
def partsD (ws qs : List Int) : PyData := .tuple [.list (ws.map .int), .list (qs.map .int)]
theorem made_cp {T : Pr} (L : CL T) (hT : T.lookup "_law_made" = some (1, B._law_made)) {k : Nat} {ws qs : List Int} {width most : Nat} (C : Co ws qs width most) (h7 : most ≤ 7) (w1 : 1 ≤ width) (w6 : width ≤ 6) :
    cp T (k + 5) "_law_made" [.fz (partsD ws qs)] fun r os => r = .own (cD ws qs) ∧ os = [none] := by
  have ei : cnameOf T.I 0 ++ ".__init__" = "Council.__init__" := by rw [L.nm]; rfl
  refine ecp_of hT ?_
  show WB (dC T (k + 4) noX) [] _ [some (.fz (.tuple [.list (ws.map .int), .list (qs.map .int)]))] (zF [] 1 _)
  repeat fail "s"
  refine eq_mk rfl rfl ?_
  rw [ei]
  refine cp_mono (init_cp L C h7 w1 w6) ?_
  rintro r os ⟨rfl, rfl⟩
  refine ⟨rfl, _, _, rfl, ?_⟩
  repeat fail "s"
  first | rfl | exact ⟨rfl, rfl⟩
end HJ

set_option maxRecDepth 100000
set_option maxHeartbeats 1000000
namespace HJ
open PySem L2 HI SrtO
-- eng
local macro_rules | `(tactic| fail "s") => `(tactic| first
  | refine ex_cons ?_ | refine ex_nx ?_ | refine ex_rt ?_ | refine ex_bk ?_ | refine ex_ct ?_ | refine ex_nil ?_
  | refine ew_fz rfl ?_ | refine ew_own rfl ?_ | refine ew_tr rfl ?_ | refine ew_bor rfl ?_ | refine ew_rol rfl ?_ | refine ew_cst rfl ?_ | refine ew_bin ?_ | refine ew_idx ?_ | refine ew_nil ?_ | refine ew_cons ?_ | refine ew_call ?_ | refine ew_bcall ?_
  | refine ew_not ?_ | refine ew_neg ?_ | refine ew_and ?_ | refine ew_or ?_ | refine ew_chain ?_ | refine ew_ife ?_ | refine ew_lst ?_ | refine ew_tup ?_ | refine ew_slc ?_ | refine ew_meth ?_ | refine ew_fld ?_ | refine ew_mk ?_
  | refine ex_asg ?_ | refine ex_asgT ?_ | refine ex_asgS ?_ | refine ex_asgF ?_ | refine ex_aug rfl ?_ | refine ex_augS ?_ | refine ex_ex ?_ | refine ex_ite ?_ | refine ex_ret ?_ | refine ex_brk ?_ | refine ex_cont ?_ | refine ex_pass ?_ | refine ex_par ?_
  | refine q_rng (by omega) ?_ | refine ei_seq ?_ | refine ei_enum ?_ | refine ei_zip ?_ | refine ei_rng1 ?_ | refine ei_rng2 ?_ | refine ei_down ?_ | refine q_down (by omega) ?_
  | refine ip_t rfl rfl rfl rfl ?_ | refine ip_tt rfl rfl rfl rfl ?_ | refine ip_d rfl ?_ | refine fp_t rfl rfl rfl ?_ | refine fp_d rfl ?_ | refine tp_d ?_ | refine tp_t ?_ | refine fs_d rfl ?_ | refine q_dat rfl ?_ | refine q_datRr ?_ | refine q_datR rfl ?_ | refine q_truB rfl ?_ | refine eq_t ?_ | refine eq_f ?_
  | refine q_add_i ?_ | refine q_sub_i ?_ | refine q_lt_i ?_ | refine q_le_i ?_ | refine q_gt_i ?_ | refine q_ge_i ?_ | refine q_eq_i ?_ | refine q_ne_i ?_ | refine q_eq_s ?_ | refine q_ne_s ?_ | refine q_pow_18 ?_ | refine q_is_n ?_ | refine q_is_b ?_ | refine q_isn_b ?_ | refine q_isn_n ?_
  | refine q_idx rfl ?_ | refine p_no ?_ | refine ep_yes ?_ | refine q_slcL ?_ | refine d_nil ?_ | refine d_cons ?_ | refine q_bfn rfl ?_
  | refine f_fz ?_ | refine f_own ?_ | refine ef_var rfl ?_ | refine f_varF rfl ?_ | refine f_tr ?_ | refine ef_varT rfl ?_ | refine f_pt rfl ?_ | refine f_nil ?_ | refine f_cons ?_
  | refine r_fz ?_ | refine r_own ?_ | refine r_rol ?_ | refine r_tr ?_ | refine r_bor ?_ | refine er_var rfl ?_ | refine rs_nil ?_ | refine rs_cons ?_
  | refine ek_0 ?_ | refine ek_s ?_ | refine ess_nil ?_ | refine ess_cons rfl ?_ | refine esv_nil ?_ | refine esv_cons rfl ?_
  | refine q_tup ?_ | refine ea_nm rfl ?_ | refine ea_tp ?_ | refine s_fzl ?_ | refine s_fzt ?_ | refine s_own ?_ | refine s_rol ?_ | refine s_var rfl ?_ | refine s_varT rfl ?_ | refine s_tr ?_
  | refine eo_nil ?_ | refine eo_fz ?_ | refine eo_own ?_ | refine eo_rol ?_ | refine eo_var rfl ?_ | refine eo_varT rfl ?_ | refine eo_tr ?_ | refine eo_pt rfl ?_
  | refine zp_lst rfl ?_ | refine zp_tup rfl ?_ | refine zp_ins rfl ?_ | refine zt_0 ?_ | refine zt_s ?_ | refine zf_0 rfl ?_ | refine zf_s rfl ?_
  | refine fq_nx ?_ | refine fq_rt ?_ | refine t_fz ?_ | refine t_own ?_ | refine et_var rfl rfl ?_ | refine et_varP rfl rfl ?_ | refine et_varT rfl rfl ?_ | refine et_varPT rfl rfl ?_ | refine t_tr rfl ?_
  | refine q_rec rfl ?_ | refine em_l ?_ | refine em_r rfl ?_ | refine q_fld rfl ?_
  | refine side_int rfl ?_ | refine side_int2 rfl rfl ?_ | refine side_bool rfl ?_ | refine side_var rfl ?_
  | refine side rfl ?_ | refine side (Nat.le_of_ble_eq_true rfl) ?_ | refine em_set0 rfl ?_ | refine em_set1 rfl ?_ | refine em_set2 rfl ?_ | refine em_clear rfl ?_ | refine m_fld rfl rfl ?_ | refine ekl_0 ?_ | refine ekl_s ?_ | refine side_some rfl ?_
  | refine q_mul_i (by omega) (by omega) ?_ | refine q_mod_i (by omega) ?_ | refine q_fdiv_i (by omega) (by omega) ?_ | refine q_op rfl ?_ | refine q_slcT rfl ?_)
-- gne
theorem council_cp {T : Pr} (hT : T.lookup "_law_council" = some (11, B._law_council)) (hK : T.lookup "_law_take" = some (6, B._law_take)) {k n : Nat} {d : PyData} (G : Bag d n) (hn : n < 2 ^ 80) {width most : Nat} (w0 : width < 100) (m0 : 2 ≤ most) (m1 : most < 100) :
    cp T (k + 2) "_law_council" [.own d, .fz (.int width), .fz (.int most)] fun r os => ∃ ws qs d', r = .fz (partsD ws qs) ∧ os = [some (.own d'), none, none] ∧ Co ws qs width most ∧ Bag d' (n + 1000) := by
  have big := big1000
  refine ecp_of hT ?_
  show WB (dC T (k + 1) noX) [0] _ [some (.own d), some (.fz (.int width)), some (.fz (.int most)), none, none, none, none, none, none, none, none] (zF [0] 3 _)
  repeat fail "s"
  refine c_take hK rfl G (by omega) (by omega) (by omega) fun sv d1 s0 s1 G1 => ?_
  repeat fail "s"
  refine c_take hK rfl G1 (by omega) (by omega) (by omega) fun way d2 y0 y1 G2 => ?_
  repeat fail "s"
  refine ew_comp ?_
  repeat fail "s"
  refine ⟨⟨rfl, rfl⟩, ?_⟩
  refine ecomp (N := (2 + sv).toNat) (fun j acc E => ∃ ws d', acc = ws.map .int ∧ ws.length = j ∧ (∀ w ∈ ws, 1 ≤ w ∧ w ≤ 1000000) ∧ E = [some (.own d'), some (.fz (.int width)), some (.fz (.int most)), none, none, none, none, some (.fz (.int (2 + sv))), some (.fz (.int way)), none, none] ∧ Bag d' (n + 2 + j))
    (by show (2 + sv - 0).toNat = _; rw [Int.sub_zero]) ⟨[], d2, rfl, rfl, (by intro x hx; cases hx), rfl, G2⟩ ?_ ?_
  · rintro j acc E hj ⟨ws, d3, rfl, rfl, hw, rfl, G3⟩
    refine ⟨.int (0 + (ws.length : Int)), _, if_pos (by rw [Int.sub_zero]; exact hj), rfl, ?_⟩
    repeat fail "s"
    refine ⟨by rw [List.length_map]; omega, ?_⟩
    repeat fail "s"
    refine q_ints (xs := [1, 1, 2, 5, 1000000]) y0 y1 fun m hm => ?_
    have hm2 : 1 ≤ m ∧ m ≤ 1000000 := by
      simp only [List.mem_cons, List.not_mem_nil, or_false] at hm
      omega
    repeat fail "s"
    refine c_take hK rfl G3 (by omega) (by omega) (by omega) fun v d4 v0 v1 G4 => ?_
    repeat fail "s"
    refine ⟨ws ++ [1 + v], d4, by rw [List.map_append]; rfl, by rw [List.length_append]; rfl, ?_, rfl, G4.mono (by omega)⟩
    intro y hy
    rcases List.mem_append.mp hy with hy | hy
    · exact hw y hy
    · rw [List.mem_singleton.mp hy]; omega
  · rintro acc E ⟨ws, d3, rfl, hl, hw, rfl, G3⟩
    refine ⟨rfl, ?_⟩
    have l2 : 2 ≤ ws.length := by omega
    have l7 : ws.length ≤ most := by omega
    have hsum : (ws.length : Int) ≤ ws.sum ∧ ws.sum ≤ 1000000 * ws.length := by
      clear hl l2 l7
      induction ws with
      | nil => exact ⟨Int.le_refl _, Int.le_refl _⟩
      | cons x ws ih =>
        have h1 := hw x List.mem_cons_self
        obtain ⟨i1, i2⟩ := ih fun y hy => hw y (List.mem_cons_of_mem _ hy)
        rw [List.sum_cons, List.length_cons]
        omega
    repeat fail "s"
    refine q_sum ?_
    have hL : (ws.length : Int) ≤ 100 := by omega
    obtain ⟨t, ht⟩ : ∃ t, t = ws.sum := ⟨_, rfl⟩
    rw [← ht] at hsum ⊢
    repeat fail "s"
    refine ex_for ?_
    repeat fail "s"
    refine efor (N := width) (fun i E => ∃ qs d' u6 u9, E = [some (.own d'), some (.fz (.int width)), some (.fz (.int most)), some (.own (.list (ws.map .int))), some (.fz (.int t)), some (.own (.list (qs.map .int))), u6, some (.fz (.int (2 + sv))), some (.fz (.int way)), u9, none] ∧ qs.length = i ∧ (∀ q ∈ qs, 1 ≤ q ∧ q ≤ t) ∧ Bag d' (n + 110 + 2 * i))
      (by show ((width : Int) - 0).toNat = _; omega) ⟨[], _, _, _, rfl, rfl, (by intro x hx; cases hx), G3.mono (by omega)⟩ ?_ ?_
    · rintro i E hi ⟨qs, d4, u6, u9, rfl, hql, hq, G4⟩
      refine ⟨.int (0 + (i : Int)), if_pos (by show i < ((width : Int) - 0).toNat; omega), ?_⟩
      repeat fail "s"
      refine c_take hK rfl G4 (by omega) (by omega) (by omega) fun v1 d5 a1 b1 G5 => ?_
      repeat fail "s"
      refine c_take hK rfl G5 (by omega) (by omega) (by omega) fun v2 d6 a2 b2 G6 => ?_
      repeat fail "s"
      obtain ⟨z, hz, z0, z1⟩ : ∃ z : Int, ((if v2 - 2 > 0 then v2 - 2 else 0) * if decide (0 < way) = true then 1 else 0) = z ∧ 0 ≤ z ∧ z < 4 := ⟨_, rfl, by split <;> split <;> omega, by split <;> split <;> omega⟩
      rw [hz]
      refine q_ints (xs := [t / 2 + 1, 1 + v1, 1, t]) z0 z1 fun q hq' => ?_
      have hq2 : 1 ≤ q ∧ q ≤ t := by
        simp only [List.mem_cons, List.not_mem_nil, or_false] at hq'
        omega
      repeat fail "s"
      refine em_append rfl (by rw [List.length_map]; omega) ?_
      repeat fail "s"
      refine ⟨qs ++ [q], d6, some (.fz (.int (0 + (i : Int)))), some (.own (.list [.int (t / 2 + 1), .int (1 + v1), .int 1, .int t])), by rw [List.map_append]; rfl, by rw [List.length_append, hql]; rfl, ?_, G6.mono (by omega)⟩
      intro y hy
      rcases List.mem_append.mp hy with hy | hy
      · exact hq y hy
      · rw [List.mem_singleton.mp hy]; exact hq2
    · rintro E ⟨qs, d4, u6, u9, rfl, hql, hq, G4⟩
      refine ⟨rfl, ?_⟩
      repeat fail "s"
      exact ⟨ws, qs, _, rfl, rfl, ⟨l2, l7, hw, hql, by rw [← ht]; exact hq⟩, G4.mono (by omega)⟩
end HJ

set_option maxRecDepth 100000
set_option maxHeartbeats 1000000
namespace HJ
open PySem L2 HI SrtO
-- eng
local macro_rules | `(tactic| fail "s") => `(tactic| first
  | refine ex_cons ?_ | refine ex_nx ?_ | refine ex_rt ?_ | refine ex_bk ?_ | refine ex_ct ?_ | refine ex_nil ?_
  | refine ew_fz rfl ?_ | refine ew_own rfl ?_ | refine ew_tr rfl ?_ | refine ew_bor rfl ?_ | refine ew_rol rfl ?_ | refine ew_cst rfl ?_ | refine ew_bin ?_ | refine ew_idx ?_ | refine ew_nil ?_ | refine ew_cons ?_ | refine ew_call ?_ | refine ew_bcall ?_
  | refine ew_not ?_ | refine ew_neg ?_ | refine ew_and ?_ | refine ew_or ?_ | refine ew_chain ?_ | refine ew_ife ?_ | refine ew_lst ?_ | refine ew_tup ?_ | refine ew_slc ?_ | refine ew_meth ?_ | refine ew_fld ?_ | refine ew_mk ?_
  | refine ex_asg ?_ | refine ex_asgT ?_ | refine ex_asgS ?_ | refine ex_asgF ?_ | refine ex_aug rfl ?_ | refine ex_augS ?_ | refine ex_ex ?_ | refine ex_ite ?_ | refine ex_ret ?_ | refine ex_brk ?_ | refine ex_cont ?_ | refine ex_pass ?_ | refine ex_par ?_
  | refine q_rng (by omega) ?_ | refine ei_seq ?_ | refine ei_enum ?_ | refine ei_zip ?_ | refine ei_rng1 ?_ | refine ei_rng2 ?_ | refine ei_down ?_ | refine q_down (by omega) ?_
  | refine ip_t rfl rfl rfl rfl ?_ | refine ip_tt rfl rfl rfl rfl ?_ | refine ip_d rfl ?_ | refine fp_t rfl rfl rfl ?_ | refine fp_d rfl ?_ | refine tp_d ?_ | refine tp_t ?_ | refine fs_d rfl ?_ | refine q_dat rfl ?_ | refine q_datRr ?_ | refine q_datR rfl ?_ | refine q_truB rfl ?_ | refine eq_t ?_ | refine eq_f ?_
  | refine q_add_i ?_ | refine q_sub_i ?_ | refine q_lt_i ?_ | refine q_le_i ?_ | refine q_gt_i ?_ | refine q_ge_i ?_ | refine q_eq_i ?_ | refine q_ne_i ?_ | refine q_eq_s ?_ | refine q_ne_s ?_ | refine q_pow_18 ?_ | refine q_is_n ?_ | refine q_is_b ?_ | refine q_isn_b ?_ | refine q_isn_n ?_
  | refine q_idx rfl ?_ | refine p_no ?_ | refine ep_yes ?_ | refine q_slcL ?_ | refine d_nil ?_ | refine d_cons ?_ | refine q_bfn rfl ?_
  | refine f_fz ?_ | refine f_own ?_ | refine ef_var rfl ?_ | refine f_varF rfl ?_ | refine f_tr ?_ | refine ef_varT rfl ?_ | refine f_pt rfl ?_ | refine f_nil ?_ | refine f_cons ?_
  | refine r_fz ?_ | refine r_own ?_ | refine r_rol ?_ | refine r_tr ?_ | refine r_bor ?_ | refine er_var rfl ?_ | refine rs_nil ?_ | refine rs_cons ?_
  | refine ek_0 ?_ | refine ek_s ?_ | refine ess_nil ?_ | refine ess_cons rfl ?_ | refine esv_nil ?_ | refine esv_cons rfl ?_
  | refine q_tup ?_ | refine ea_nm rfl ?_ | refine ea_tp ?_ | refine s_fzl ?_ | refine s_fzt ?_ | refine s_own ?_ | refine s_rol ?_ | refine s_var rfl ?_ | refine s_varT rfl ?_ | refine s_tr ?_
  | refine eo_nil ?_ | refine eo_fz ?_ | refine eo_own ?_ | refine eo_rol ?_ | refine eo_var rfl ?_ | refine eo_varT rfl ?_ | refine eo_tr ?_ | refine eo_pt rfl ?_
  | refine zp_lst rfl ?_ | refine zp_tup rfl ?_ | refine zp_ins rfl ?_ | refine zt_0 ?_ | refine zt_s ?_ | refine zf_0 rfl ?_ | refine zf_s rfl ?_
  | refine fq_nx ?_ | refine fq_rt ?_ | refine t_fz ?_ | refine t_own ?_ | refine et_var rfl rfl ?_ | refine et_varP rfl rfl ?_ | refine et_varT rfl rfl ?_ | refine et_varPT rfl rfl ?_ | refine t_tr rfl ?_
  | refine q_rec rfl ?_ | refine em_l ?_ | refine em_r rfl ?_ | refine q_fld rfl ?_
  | refine side_int rfl ?_ | refine side_int2 rfl rfl ?_ | refine side_bool rfl ?_ | refine side_var rfl ?_
  | refine side rfl ?_ | refine side (Nat.le_of_ble_eq_true rfl) ?_ | refine em_set0 rfl ?_ | refine em_set1 rfl ?_ | refine em_set2 rfl ?_ | refine em_clear rfl ?_ | refine m_fld rfl rfl ?_ | refine ekl_0 ?_ | refine ekl_s ?_ | refine side_some rfl ?_
  | refine q_mul_i (by omega) (by omega) ?_ | refine q_mod_i (by omega) ?_ | refine q_fdiv_i (by omega) (by omega) ?_ | refine q_op rfl ?_ | refine q_slcT rfl ?_)
-- gne
theorem value_cp {T : Pr} (hT : T.lookup "_law_value" = some (3, B._law_value)) (hK : T.lookup "_law_take" = some (6, B._law_take)) {k n : Nat} {d : PyData} (G : Bag d n) (hn : n < 2 ^ 90) :
    cp T (k + 2) "_law_value" [.own d] fun r os => ∃ v d', r = .fz (.int v) ∧ os = [some (.own d')] ∧ Far v ∧ Bag d' (n + 5) := by
  refine ecp_of hT ?_
  show WB (dC T (k + 1) noX) [0] _ [some (.own d), none, none] (zF [0] 1 _)
  repeat fail "s"
  refine c_take hK rfl G (by omega) (by omega) (by omega) fun v1 d1 a1 b1 G1 => ?_
  repeat fail "s"
  refine eq_dec (fun hc => ?_) (fun hc => ?_)
  · repeat fail "s"
    refine c_take hK rfl G1 (by omega) (by omega) (by omega) fun v2 d2 a2 b2 G2 => ?_
    repeat fail "s"
    exact ⟨_, _, rfl, rfl, (by unfold Far; omega), G2.mono (by omega)⟩
  · repeat fail "s"
    refine c_take hK rfl G1 (by omega) (by omega) (by omega) fun v2 d2 a2 b2 G2 => ?_
    repeat fail "s"
    refine c_take hK rfl G2 (by omega) (by omega) (by omega) fun v3 d3 a3 b3 G3 => ?_
    repeat fail "s"
    refine q_ints (xs := [1000000000000000000 - v2, v3 - 1000000000000000000]) (by omega) (by show v1 - 2 < 2; omega) fun x hx => ?_
    have hX : Far x := by
      unfold Far
      simp only [List.mem_cons, List.not_mem_nil, or_false] at hx
      omega
    unfold Far at hX
    repeat fail "s"
    refine c_take hK rfl G3 (by omega) (by omega) (by omega) fun v4 d4 a4 b4 G4 => ?_
    repeat fail "s"
    refine q_ints (xs := [1, -1]) a4 b4 fun y hy => ?_
    have hY : y = 1 ∨ y = -1 := by simpa using hy
    rcases hY with rfl | rfl
    · repeat fail "s"
      exact ⟨_, _, rfl, rfl, (by unfold Far; omega), G4.mono (by omega)⟩
    · repeat fail "s"
      exact ⟨_, _, rfl, rfl, (by unfold Far; omega), G4.mono (by omega)⟩
def FarR (width : Nat) (r : List Int) : Prop := r.length = width ∧ ∀ x ∈ r, Far x
theorem FarR.nice {width : Nat} {r : List Int} (h : FarR width r) : Nice (rowD r) (width * 135) 1 := by
  have := nice_tup (nl_all (ds := r.map .int) (w := 134) (dp := 0) fun d hd => by
    obtain ⟨x, hx, rfl⟩ := List.mem_map.mp hd
    have := h.2 x hx
    unfold Far at this
    exact nice_int (by omega))
  rw [List.length_map, h.1] at this
  exact this
theorem farRs_nice {width : Nat} {rows : List (List Int)} (h : ∀ r ∈ rows, FarR width r) : Nice (rowsD rows) (rows.length * (width * 135 + 1)) 2 := by
  have := nice_lst (nl_all (ds := rows.map rowD) (w := width * 135) (dp := 1) fun d hd => by
    obtain ⟨x, hx, rfl⟩ := List.mem_map.mp hd
    exact (h x hx).nice)
  rw [List.length_map] at this
  exact this
theorem q_ne_nil {xs : List PyData} {K : Re → Prop} (h : SeqAt.shaped (.list xs) = true) (k : K (.fz (.bool (!xs.isEmpty)))) : OpQ .ne (.list xs) (.list []) K := by
  refine ⟨.fz (.bool (!xs.isEmpty)), ?_, k⟩
  show (eqP0 _ _).map _ = _
  unfold eqP0
  rw [if_pos ⟨h, by decide +kernel⟩]
  cases xs <;> rfl
theorem q_mem {α : Type} {f : α → PyData} {xs : List α} {k : Int} {K : PyData → Prop} (h0 : 0 ≤ k) (h1 : k < xs.length) (h : ∀ x ∈ xs, K (f x)) : IdxQ (.list (xs.map f)) (.int k) K := by
  have hk : k.toNat < xs.length := by omega
  refine q_idx_nn h0 (by rw [List.length_map]; exact h1) fun d hd => ?_
  rw [List.getElem?_map, List.getElem?_eq_getElem hk] at hd
  cases hd
  exact h _ (List.getElem_mem hk)
theorem seat_rows_cp {T : Pr} (hT : T.lookup "_law_seat_rows" = some (8, B._law_seat_rows)) (hV : T.lookup "_law_value" = some (3, B._law_value)) (hK : T.lookup "_law_take" = some (6, B._law_take)) {k n : Nat} {d : PyData} (G : Bag d n) (hn : n < 2 ^ 80) {width many : Nat} (w0 : width < 100) (m1 : many < 100) :
    cp T (k + 3) "_law_seat_rows" [.own d, .fz (.int width), .fz (.int many)] fun r os => ∃ rows d', r = .own (rowsD rows) ∧ os = [some (.own d'), none, none] ∧ rows.length = many ∧ (∀ r ∈ rows, FarR width r) ∧ Bag d' (n + 100000) := by
  have big := big1000
  refine ecp_of hT ?_
  show WB (dC T (k + 2) noX) [0] _ [some (.own d), some (.fz (.int width)), some (.fz (.int many)), none, none, none, none, none] (zF [0] 3 _)
  repeat fail "s"
  refine c_take hK rfl G (by omega) (by omega) (by omega) fun tv d1 t0 t1 G1 => ?_
  repeat fail "s"
  refine q_ints (xs := [1, 3, 0]) t0 t1 fun top ht => ?_
  have hT2 : 0 ≤ top ∧ top ≤ 3 := by
    simp only [List.mem_cons, List.not_mem_nil, or_false] at ht
    omega
  repeat fail "s"
  refine ex_for ?_
  repeat fail "s"
  refine efor (N := many) (fun i E => ∃ rows d' u3 u6, E = [some (.own d'), some (.fz (.int width)), some (.fz (.int many)), u3, some (.fz (.int top)), some (.own (.list (rows.map rowD))), u6, none] ∧ rows.length = i ∧ (∀ r ∈ rows, FarR width r) ∧ Bag d' (n + 1 + 600 * i))
    (by show ((many : Int) - 0).toNat = _; omega) ⟨[], _, _, _, rfl, rfl, (by intro x hx; cases hx), G1⟩ ?_ ?_
  · rintro i E hi ⟨rows, d4, u3, u6, rfl, hrl, hr, G4⟩
    refine ⟨.int (0 + (i : Int)), if_pos (by show i < ((many : Int) - 0).toNat; omega), ?_⟩
    repeat fail "s"
    refine ew_comp ?_
    repeat fail "s"
    refine ⟨⟨rfl, rfl⟩, ?_⟩
    refine ecomp (N := width) (fun j acc E => ∃ vs d', acc = vs.map .int ∧ vs.length = j ∧ (∀ x ∈ vs, Far x) ∧ E = [some (.own d'), some (.fz (.int width)), some (.fz (.int many)), some (.fz (.int (0 + (i : Int)))), some (.fz (.int top)), some (.own (.list (rows.map rowD))), u6, none] ∧ Bag d' (n + 1 + 600 * i + 5 * j))
      (by show ((width : Int) - 0).toNat = _; omega) ⟨[], d4, rfl, rfl, (by intro x hx; cases hx), rfl, G4⟩ ?_ ?_
    · rintro j acc E hj ⟨vs, d5, rfl, rfl, hv, rfl, G5⟩
      refine ⟨.int (0 + (vs.length : Int)), _, if_pos (by show vs.length < ((width : Int) - 0).toNat; omega), rfl, ?_⟩
      repeat fail "s"
      refine ⟨by rw [List.length_map]; omega, ?_⟩
      repeat fail "s"
      have fin : ∀ (x : Int) (d6 : PyData), Far x → Bag d6 (n + 1 + 600 * i + 5 * vs.length + 5) → ∃ (vs_1 : List Int) (d' : PyData), vs.map PyData.int ++ [.int x] = vs_1.map .int ∧ vs_1.length = vs.length + 1 ∧ (∀ x ∈ vs_1, Far x) ∧
          [some (.own d6), some (.fz (.int width)), some (.fz (.int many)), some (.fz (.int (0 + (i : Int)))), some (.fz (.int top)), some (.own (.list (rows.map rowD))), u6, none] = [some (Va.own d'), some (.fz (.int width)), some (.fz (.int many)), some (.fz (.int (0 + (i : Int)))), some (.fz (.int top)), some (.own (.list (rows.map rowD))), u6, none] ∧ Bag d' (n + 1 + 600 * i + 5 * (vs.length + 1)) := fun x d6 hx G6 => by
        refine ⟨vs ++ [x], d6, by rw [List.map_append]; rfl, by rw [List.length_append]; rfl, ?_, rfl, G6.mono (by omega)⟩
        intro y hy
        rcases List.mem_append.mp hy with hy | hy
        · exact hv y hy
        · rw [List.mem_singleton.mp hy]; exact hx
      refine eq_dec (fun hc => ?_) (fun hc => ?_)
      · repeat fail "s"
        refine c_take hK rfl G5 (by omega) (by omega) (by omega) fun x d6 x0 x1 G6 => ?_
        repeat fail "s"
        exact fin _ _ (by unfold Far; omega) (G6.mono (by omega))
      · repeat fail "s"
        refine eq_call rfl rfl (cp_mono (value_cp hV hK G5 (by omega)) ?_)
        rintro r os ⟨x, d6, rfl, rfl, hx, G6⟩
        refine ⟨rfl, ?_⟩
        repeat fail "s"
        exact fin _ _ hx G6
    · rintro acc E ⟨vs, d5, rfl, hvl, hv, rfl, G5⟩
      refine ⟨rfl, ?_⟩
      have hRow : FarR width vs := ⟨hvl, hv⟩
      repeat (first | refine ex_cutI (fun E => ∃ row d', E = [some (.own d'), some (.fz (.int width)), some (.fz (.int many)), some (.fz (.int (0 + (i : Int)))), some (.fz (.int top)), some (.own (.list (rows.map rowD))), some (.fz (rowD row)), none] ∧ FarR width row ∧ Bag d' (n + 1 + 600 * i + 510)) ?_ ?_ | fail "s")
      · refine q_ne_nil ((farRs_nice hr).shaped (by omega)) ?_
        repeat fail "s"
        cases rows with
        | nil =>
          repeat fail "s"
          exact ⟨vs, _, rfl, hRow, G5.mono (by omega)⟩
        | cons r0 rr =>
          repeat fail "s"
          refine c_take hK rfl G5 (by omega) (by omega) (by omega) fun x d6 x0 x1 G6 => ?_
          repeat fail "s"
          refine eq_dec (fun hb => ?_) (fun hb => ?_)
          · have ln : ((r0 :: rr).map rowD).length = (r0 :: rr).length := List.length_map _
            have l0 : 0 < (r0 :: rr).length := by rw [List.length_cons]; omega
            show WB _ _ (.cons _ _) _ _
            repeat fail "s"
            rw [ln]
            refine c_take hK rfl G6 (by omega) (by omega) (by rw [List.length_cons] at hrl ⊢; omega) fun y d7 y0 y1 G7 => ?_
            repeat fail "s"
            refine q_mem y0 y1 fun row hrow => ?_
            repeat fail "s"
            exact ⟨row, _, rfl, hr row hrow, G7.mono (by omega)⟩
          · repeat fail "s"
            exact ⟨vs, _, rfl, hRow, G6.mono (by omega)⟩
      · rintro E ⟨row, d6, rfl, hrow, G6⟩
        repeat fail "s"
        refine em_append rfl (by rw [List.length_map]; omega) ?_
        repeat fail "s"
        refine ⟨rows ++ [row], d6, some (.fz (.int (0 + (i : Int)))), some (.fz (rowD row)), by rw [List.map_append]; rfl, by rw [List.length_append, hrl]; rfl, ?_, G6.mono (by omega)⟩
        intro y hy
        rcases List.mem_append.mp hy with hy | hy
        · exact hr y hy
        · rw [List.mem_singleton.mp hy]; exact hrow
  · rintro E ⟨rows, d4, u3, u6, rfl, hrl, hr, G4⟩
    refine ⟨rfl, ?_⟩
    repeat fail "s"
    exact ⟨rows, _, rfl, rfl, hrl, hr, G4.mono (by omega)⟩
end HJ

set_option maxRecDepth 100000
set_option maxHeartbeats 1000000
namespace HJ
open PySem L2 HI SrtO
-- eng
local macro_rules | `(tactic| fail "s") => `(tactic| first
  | refine ex_cons ?_ | refine ex_nx ?_ | refine ex_rt ?_ | refine ex_bk ?_ | refine ex_ct ?_ | refine ex_nil ?_
  | refine ew_fz rfl ?_ | refine ew_own rfl ?_ | refine ew_tr rfl ?_ | refine ew_bor rfl ?_ | refine ew_rol rfl ?_ | refine ew_cst rfl ?_ | refine ew_bin ?_ | refine ew_idx ?_ | refine ew_nil ?_ | refine ew_cons ?_ | refine ew_call ?_ | refine ew_bcall ?_
  | refine ew_not ?_ | refine ew_neg ?_ | refine ew_and ?_ | refine ew_or ?_ | refine ew_chain ?_ | refine ew_ife ?_ | refine ew_lst ?_ | refine ew_tup ?_ | refine ew_slc ?_ | refine ew_meth ?_ | refine ew_fld ?_ | refine ew_mk ?_
  | refine ex_asg ?_ | refine ex_asgT ?_ | refine ex_asgS ?_ | refine ex_asgF ?_ | refine ex_aug rfl ?_ | refine ex_augS ?_ | refine ex_ex ?_ | refine ex_ite ?_ | refine ex_ret ?_ | refine ex_brk ?_ | refine ex_cont ?_ | refine ex_pass ?_ | refine ex_par ?_
  | refine q_rng (by omega) ?_ | refine ei_seq ?_ | refine ei_enum ?_ | refine ei_zip ?_ | refine ei_rng1 ?_ | refine ei_rng2 ?_ | refine ei_down ?_ | refine q_down (by omega) ?_
  | refine ip_t rfl rfl rfl rfl ?_ | refine ip_tt rfl rfl rfl rfl ?_ | refine ip_d rfl ?_ | refine fp_t rfl rfl rfl ?_ | refine fp_d rfl ?_ | refine tp_d ?_ | refine tp_t ?_ | refine fs_d rfl ?_ | refine q_dat rfl ?_ | refine q_datRr ?_ | refine q_datR rfl ?_ | refine q_truB rfl ?_ | refine eq_t ?_ | refine eq_f ?_
  | refine q_add_i ?_ | refine q_sub_i ?_ | refine q_lt_i ?_ | refine q_le_i ?_ | refine q_gt_i ?_ | refine q_ge_i ?_ | refine q_eq_i ?_ | refine q_ne_i ?_ | refine q_eq_s ?_ | refine q_ne_s ?_ | refine q_pow_18 ?_ | refine q_is_n ?_ | refine q_is_b ?_ | refine q_isn_b ?_ | refine q_isn_n ?_
  | refine q_idx rfl ?_ | refine p_no ?_ | refine ep_yes ?_ | refine q_slcL ?_ | refine d_nil ?_ | refine d_cons ?_ | refine q_bfn rfl ?_
  | refine f_fz ?_ | refine f_own ?_ | refine ef_var rfl ?_ | refine f_varF rfl ?_ | refine f_tr ?_ | refine ef_varT rfl ?_ | refine f_pt rfl ?_ | refine f_nil ?_ | refine f_cons ?_
  | refine r_fz ?_ | refine r_own ?_ | refine r_rol ?_ | refine r_tr ?_ | refine r_bor ?_ | refine er_var rfl ?_ | refine rs_nil ?_ | refine rs_cons ?_
  | refine ek_0 ?_ | refine ek_s ?_ | refine ess_nil ?_ | refine ess_cons rfl ?_ | refine esv_nil ?_ | refine esv_cons rfl ?_
  | refine q_tup ?_ | refine ea_nm rfl ?_ | refine ea_tp ?_ | refine s_fzl ?_ | refine s_fzt ?_ | refine s_own ?_ | refine s_rol ?_ | refine s_var rfl ?_ | refine s_varT rfl ?_ | refine s_tr ?_
  | refine eo_nil ?_ | refine eo_fz ?_ | refine eo_own ?_ | refine eo_rol ?_ | refine eo_var rfl ?_ | refine eo_varT rfl ?_ | refine eo_tr ?_ | refine eo_pt rfl ?_
  | refine zp_lst rfl ?_ | refine zp_tup rfl ?_ | refine zp_ins rfl ?_ | refine zt_0 ?_ | refine zt_s ?_ | refine zf_0 rfl ?_ | refine zf_s rfl ?_
  | refine fq_nx ?_ | refine fq_rt ?_ | refine t_fz ?_ | refine t_own ?_ | refine et_var rfl rfl ?_ | refine et_varP rfl rfl ?_ | refine et_varT rfl rfl ?_ | refine et_varPT rfl rfl ?_ | refine t_tr rfl ?_
  | refine q_rec rfl ?_ | refine em_l ?_ | refine em_r rfl ?_ | refine q_fld rfl ?_
  | refine side_int rfl ?_ | refine side_int2 rfl rfl ?_ | refine side_bool rfl ?_ | refine side_var rfl ?_
  | refine side rfl ?_ | refine side (Nat.le_of_ble_eq_true rfl) ?_ | refine em_set0 rfl ?_ | refine em_set1 rfl ?_ | refine em_set2 rfl ?_ | refine em_clear rfl ?_ | refine m_fld rfl rfl ?_ | refine ekl_0 ?_ | refine ekl_s ?_ | refine side_some rfl ?_
  | refine q_mul_i (by omega) (by omega) ?_ | refine q_mod_i (by omega) ?_ | refine q_fdiv_i (by omega) (by omega) ?_ | refine q_op rfl ?_ | refine q_slcT rfl ?_)
-- gne
theorem list_at' {xs : List Int} {k : Int} {j : Nat} (e : k = j) (h : j < xs.length) : indexD (.list (xs.map .int)) (.int k) = some (.int (nth xs j)) := by
  subst e
  show atI (xs.map PyData.int) _ = _
  unfold atI ixN
  rw [List.length_map, if_pos (by omega), if_pos (by omega)]
  show (xs.map PyData.int)[j]? = _
  unfold nth
  rw [List.getElem?_map, List.getElem?_eq_getElem h]; rfl
theorem rows_at {rows : List (List Int)} {j : Nat} (h : j < rows.length) : indexD (.list (rows.map rowD)) (.int (j : Int)) = some (rowD ((rows[j]?).getD [])) := by
  show atI (rows.map rowD) _ = _
  unfold atI ixN
  rw [List.length_map, if_pos (by omega), if_pos (by omega)]
  show (rows.map rowD)[j]? = _
  rw [List.getElem?_map, List.getElem?_eq_getElem h]; rfl
theorem sum_w {ws : List Int} {rows : List (List Int)} {j : Nat} {e : Int} (hl : rows.length = ws.length) : (((List.range ws.length).filter fun i => decide (nth ((rows[i]?).getD []) j ≤ e)).map (nth ws)).sum = wsum e ((col j rows).zip ws) := by
  have hz : (col j rows).zip ws = (List.range ws.length).map fun i => (nth ((rows[i]?).getD []) j, nth ws i) := by
    refine List.ext_getElem ?_ fun i h1 h2 => ?_
    · rw [List.length_zip, List.length_map, List.length_range]; unfold col; rw [List.length_map]; omega
    · rw [List.length_zip] at h1
      have hc : (col j rows).length = rows.length := by unfold col; rw [List.length_map]
      have h3 : i < rows.length := by omega
      have h4 : i < ws.length := by omega
      rw [List.getElem_zip, List.getElem_map, List.getElem_range]
      unfold col nth
      rw [List.getElem_map, List.getElem?_eq_getElem h3, List.getElem?_eq_getElem h4]; rfl
  unfold wsum
  rw [hz, List.filter_map, List.map_map]
  rfl
theorem due_cp {T : Pr} (hT : T.lookup "_law_due" = some (10, B._law_due)) {k : Nat} {ws qs : List Int} {rows : List (List Int)} (hq : ∀ q ∈ qs, Cq ws q) (hl : rows.length = ws.length) (hz : ws.length < 1000) (hz2 : qs.length < 1000) (hr : ∀ r ∈ rows, qs.length ≤ r.length) (o : Bool) :
    cp T (k + 1) "_law_due" [.fz (partsD ws qs), ow o (rowsD rows)] fun r os => r = .fz (rowD (setRow ws qs rows)) ∧ os = [none, if o then some (.own (rowsD rows)) else none] := by
  have big := big1000
  have lq : (qs.map PyData.int).length = qs.length := List.length_map _
  have lw : (ws.map PyData.int).length = ws.length := List.length_map _
  refine ecp_of hT ?_
  cases o
  · show WB (dC T k noX) [] _ [some (.fz (.tuple [.list (ws.map .int), .list (qs.map .int)])), some (.fz (.list (rows.map rowD))), none, none, none, none, none, none, none, none] (zF [] 2 _)
    repeat fail "s"
    refine ex_for ?_
    repeat fail "s"
    refine efor (N := qs.length) (fun i E => ∃ u3 u6 u7, E = [some (.fz (partsD ws qs)), some (.fz (.list (rows.map rowD))), some (.own (.list (((List.range i).map fun j => setI ws (nth qs j) (col j rows)).map .int))), u3, some (.fz (.list (ws.map .int))), some (.fz (.list (qs.map .int))), u6, u7, none, none])
      (by show (((qs.map PyData.int).length : Int) - 0).toNat = _; rw [List.length_map]; omega) ⟨_, _, _, rfl⟩ ?_ ?_
    · rintro j E hj ⟨u3, u6, u7, rfl⟩
      refine ⟨.int (0 + (j : Int)), if_pos (by show j < (((qs.map PyData.int).length : Int) - 0).toNat; rw [List.length_map]; omega), ?_⟩
      have hC : Cq ws (nth qs j) := by
        unfold nth
        rw [List.getElem?_eq_getElem hj]
        exact hq _ (List.getElem_mem hj)
      have hcl : (col j rows).length = ws.length := by unfold col; rw [List.length_map]; exact hl
      obtain ⟨-, k2, -, -⟩ := set_col hC hcl
      have hqj : indexD (.list (qs.map .int)) (.int (0 + (j : Int))) = some (.int (nth qs j)) := by
        refine list_at' ?_ hj
        omega
      rw [Int.zero_add]
      rw [Int.zero_add] at hqj
      repeat fail "s"
      refine ex_for ?_
      repeat fail "s"
      refine ew_comp ?_
      repeat fail "s"
      refine ⟨⟨rfl, rfl⟩, ?_⟩
      refine ecomp_pure (enc := rowD) rows (fun _ => true) (fun r => .int (nth r j)) (by simp [Wd.n, Src.n]) (by omega) (fun i => rfl) (rfl) (fun r hr' => ?_) ?_
      · refine ⟨_, rfl, rfl, ?_⟩
        repeat fail "s"
        intro _
        repeat fail "s"
        refine q_idx (row_at (by omega) (by have := hr r hr'; omega)) ?_
        repeat fail "s"
        first | rfl | exact ⟨rfl, rfl⟩
      have em : (rows.map fun r => PyData.int (nth r j)) = (col j rows).map .int := map_int
      rw [filter_true, em]
      repeat fail "s"
      refine efor (N := (col j rows).length) (fun i E => ∃ u7, E = [some (.fz (partsD ws qs)), some (.fz (.list (rows.map rowD))), some (.own (.list (((List.range j).map fun j => setI ws (nth qs j) (col j rows)).map .int))), some (.fz (.int (j : Int))), some (.fz (.list (ws.map .int))), some (.fz (.list (qs.map .int))), some (.own (.list ((((col j rows).take i).filter fun e => decide (nth qs j ≤ wsum e ((col j rows).zip ws))).map .int))), u7, none, none])
        (by simp [Wd.n, Src.n]) ⟨_, rfl⟩ ?_ ?_
      · rintro i E hi ⟨u7, rfl⟩
        refine ⟨.int ((col j rows)[i]), ?_, ?_⟩
        · refine (rfl : _ = ((col j rows).map PyData.int)[i]?).trans ?_
          rw [List.getElem?_map, List.getElem?_eq_getElem hi]; rfl
        have et : ∀ p : Int → Bool, ((col j rows).take (i + 1)).filter p = ((col j rows).take i).filter p ++ (if p ((col j rows)[i]) = true then [(col j rows)[i]] else []) := fun p => by
          rw [List.take_add_one, List.getElem?_eq_getElem hi, List.filter_append]
          congr 1
          show List.filter p [_] = _
          rw [List.filter_cons, List.filter_nil]
        have len : ∀ p : Int → Bool, (((col j rows).take i).filter p).length ≤ i := fun p => Nat.le_trans (List.length_filter_le _ _) (by rw [List.length_take]; omega)
        rw [et]
        have len := len fun e => decide (nth qs j ≤ wsum e ((col j rows).zip ws))
        generalize ((col j rows).take i).filter (fun e => decide (nth qs j ≤ wsum e ((col j rows).zip ws))) = fs at *
        generalize (col j rows)[i] = e
        repeat fail "s"
        refine ew_comp ?_
        repeat fail "s"
        refine ⟨⟨rfl, rfl⟩, ?_⟩
        refine ecomp_pure (enc := fun i : Nat => .int (0 + (i : Int))) (List.range ws.length) (fun i => decide (nth ((rows[i]?).getD []) j ≤ e)) (fun i => .int (nth ws i)) ?_ (by rw [List.length_range]; omega) (fun i => ?_) rfl (fun i hi2 => ?_) ?_
        · show (((ws.map PyData.int).length : Int) - 0).toNat = _
          rw [List.length_map, List.length_range]; omega
        · show (if i < (((ws.map PyData.int).length : Int) - 0).toNat then some (PyData.int (0 + (i : Int))) else none) = _
          rw [List.length_map, List.getElem?_map]
          by_cases c : i < ws.length
          · rw [if_pos (by omega), List.getElem?_range c]; rfl
          · rw [if_neg (by omega), List.getElem?_eq_none (by rw [List.length_range]; omega)]; rfl
        · have hi3 := List.mem_range.mp hi2
          have hi4 : i < rows.length := by omega
          rw [Int.zero_add]
          refine ⟨_, rfl, rfl, ?_⟩
          repeat fail "s"
          refine q_idx (d := rowD ((rows[i]?).getD [])) (rows_at hi4) ?_
          have hrl : qs.length ≤ ((rows[i]?).getD []).length := by
            rw [List.getElem?_eq_getElem hi4]
            exact hr _ (List.getElem_mem hi4)
          generalize (rows[i]?).getD [] = r at hrl
          repeat fail "s"
          refine q_idx (row_at (by omega) (by omega)) ?_
          repeat fail "s"
          intro hp
          repeat fail "s"
          refine q_idx (list_at' rfl hi3) ?_
          repeat fail "s"
          first | rfl | exact ⟨rfl, rfl⟩
        · have em2 : (((List.range ws.length).filter fun i => decide (nth ((rows[i]?).getD []) j ≤ e)).map fun i => PyData.int (nth ws i)) = (((List.range ws.length).filter fun i => decide (nth ((rows[i]?).getD []) j ≤ e)).map (nth ws)).map .int := map_int
          rw [em2]
          repeat fail "s"
          refine q_sum ?_
          rw [sum_w hl]
          repeat fail "s"
          refine q_idx hqj ?_
          repeat fail "s"
          refine eq_dec (fun hc => ?_) (fun hc => ?_)
          · repeat fail "s"
            refine em_append rfl (by rw [List.length_map]; have := len; omega) ?_
            repeat fail "s"
            refine ⟨some (.fz (.int e)), ?_⟩
            rw [if_pos (decide_eq_true hc), List.map_append]; rfl
          · repeat fail "s"
            refine ⟨some (.fz (.int e)), ?_⟩
            rw [if_neg (by rw [decide_eq_false hc]; exact Bool.false_ne_true), List.append_nil]
            rfl
      · rintro E ⟨u7, rfl⟩
        refine ⟨rfl, ?_⟩
        rw [List.take_length]
        repeat fail "s"
        refine q_min1 k2 ?_
        repeat fail "s"
        refine em_append rfl (by rw [List.length_map, List.length_map, List.length_range]; omega) ?_
        repeat fail "s"
        refine ⟨some (.fz (.int (j : Int))), some (.own (.list ((dueI ws (nth qs j) (col j rows)).map .int))), u7, ?_⟩
        rw [List.range_succ, List.map_append, List.map_append]; rfl
    · rintro E ⟨u3, u6, u7, rfl⟩
      refine ⟨rfl, ?_⟩
      repeat fail "s"
      first | rfl | exact ⟨rfl, rfl⟩
  · show WB (dC T k noX) [1] _ [some (.fz (.tuple [.list (ws.map .int), .list (qs.map .int)])), some (.own (.list (rows.map rowD))), none, none, none, none, none, none, none, none] (zF [1] 2 _)
    repeat fail "s"
    refine ex_for ?_
    repeat fail "s"
    refine efor (N := qs.length) (fun i E => ∃ u3 u6 u7, E = [some (.fz (partsD ws qs)), some (.own (.list (rows.map rowD))), some (.own (.list (((List.range i).map fun j => setI ws (nth qs j) (col j rows)).map .int))), u3, some (.fz (.list (ws.map .int))), some (.fz (.list (qs.map .int))), u6, u7, none, none])
      (by show (((qs.map PyData.int).length : Int) - 0).toNat = _; rw [List.length_map]; omega) ⟨_, _, _, rfl⟩ ?_ ?_
    · rintro j E hj ⟨u3, u6, u7, rfl⟩
      refine ⟨.int (0 + (j : Int)), if_pos (by show j < (((qs.map PyData.int).length : Int) - 0).toNat; rw [List.length_map]; omega), ?_⟩
      have hC : Cq ws (nth qs j) := by
        unfold nth
        rw [List.getElem?_eq_getElem hj]
        exact hq _ (List.getElem_mem hj)
      have hcl : (col j rows).length = ws.length := by unfold col; rw [List.length_map]; exact hl
      obtain ⟨-, k2, -, -⟩ := set_col hC hcl
      have hqj : indexD (.list (qs.map .int)) (.int (0 + (j : Int))) = some (.int (nth qs j)) := by
        refine list_at' ?_ hj
        omega
      rw [Int.zero_add]
      rw [Int.zero_add] at hqj
      repeat fail "s"
      refine ex_for ?_
      repeat fail "s"
      refine ew_comp ?_
      repeat fail "s"
      refine ⟨⟨rfl, rfl⟩, ?_⟩
      refine ecomp_pure (enc := rowD) rows (fun _ => true) (fun r => .int (nth r j)) (by simp [Wd.n, Src.n]) (by omega) (fun i => at_var rfl i) (ends_var rfl) (fun r hr' => ?_) ?_
      · refine ⟨_, rfl, rfl, ?_⟩
        repeat fail "s"
        intro _
        repeat fail "s"
        refine q_idx (row_at (by omega) (by have := hr r hr'; omega)) ?_
        repeat fail "s"
        first | rfl | exact ⟨rfl, rfl⟩
      have em : (rows.map fun r => PyData.int (nth r j)) = (col j rows).map .int := map_int
      rw [filter_true, em]
      repeat fail "s"
      refine efor (N := (col j rows).length) (fun i E => ∃ u7, E = [some (.fz (partsD ws qs)), some (.own (.list (rows.map rowD))), some (.own (.list (((List.range j).map fun j => setI ws (nth qs j) (col j rows)).map .int))), some (.fz (.int (j : Int))), some (.fz (.list (ws.map .int))), some (.fz (.list (qs.map .int))), some (.own (.list ((((col j rows).take i).filter fun e => decide (nth qs j ≤ wsum e ((col j rows).zip ws))).map .int))), u7, none, none])
        (by simp [Wd.n, Src.n]) ⟨_, rfl⟩ ?_ ?_
      · rintro i E hi ⟨u7, rfl⟩
        refine ⟨.int ((col j rows)[i]), ?_, ?_⟩
        · refine (rfl : _ = ((col j rows).map PyData.int)[i]?).trans ?_
          rw [List.getElem?_map, List.getElem?_eq_getElem hi]; rfl
        have et : ∀ p : Int → Bool, ((col j rows).take (i + 1)).filter p = ((col j rows).take i).filter p ++ (if p ((col j rows)[i]) = true then [(col j rows)[i]] else []) := fun p => by
          rw [List.take_add_one, List.getElem?_eq_getElem hi, List.filter_append]
          congr 1
          show List.filter p [_] = _
          rw [List.filter_cons, List.filter_nil]
        have len : ∀ p : Int → Bool, (((col j rows).take i).filter p).length ≤ i := fun p => Nat.le_trans (List.length_filter_le _ _) (by rw [List.length_take]; omega)
        rw [et]
        have len := len fun e => decide (nth qs j ≤ wsum e ((col j rows).zip ws))
        generalize ((col j rows).take i).filter (fun e => decide (nth qs j ≤ wsum e ((col j rows).zip ws))) = fs at *
        generalize (col j rows)[i] = e
        repeat fail "s"
        refine ew_comp ?_
        repeat fail "s"
        refine ⟨⟨rfl, rfl⟩, ?_⟩
        refine ecomp_pure (enc := fun i : Nat => .int (0 + (i : Int))) (List.range ws.length) (fun i => decide (nth ((rows[i]?).getD []) j ≤ e)) (fun i => .int (nth ws i)) ?_ (by rw [List.length_range]; omega) (fun i => ?_) rfl (fun i hi2 => ?_) ?_
        · show (((ws.map PyData.int).length : Int) - 0).toNat = _
          rw [List.length_map, List.length_range]; omega
        · show (if i < (((ws.map PyData.int).length : Int) - 0).toNat then some (PyData.int (0 + (i : Int))) else none) = _
          rw [List.length_map, List.getElem?_map]
          by_cases c : i < ws.length
          · rw [if_pos (by omega), List.getElem?_range c]; rfl
          · rw [if_neg (by omega), List.getElem?_eq_none (by rw [List.length_range]; omega)]; rfl
        · have hi3 := List.mem_range.mp hi2
          have hi4 : i < rows.length := by omega
          rw [Int.zero_add]
          refine ⟨_, rfl, rfl, ?_⟩
          repeat fail "s"
          refine q_idx (d := rowD ((rows[i]?).getD [])) (rows_at hi4) ?_
          have hrl : qs.length ≤ ((rows[i]?).getD []).length := by
            rw [List.getElem?_eq_getElem hi4]
            exact hr _ (List.getElem_mem hi4)
          generalize (rows[i]?).getD [] = r at hrl
          repeat fail "s"
          refine q_idx (row_at (by omega) (by omega)) ?_
          repeat fail "s"
          intro hp
          repeat fail "s"
          refine q_idx (list_at' rfl hi3) ?_
          repeat fail "s"
          first | rfl | exact ⟨rfl, rfl⟩
        · have em2 : (((List.range ws.length).filter fun i => decide (nth ((rows[i]?).getD []) j ≤ e)).map fun i => PyData.int (nth ws i)) = (((List.range ws.length).filter fun i => decide (nth ((rows[i]?).getD []) j ≤ e)).map (nth ws)).map .int := map_int
          rw [em2]
          repeat fail "s"
          refine q_sum ?_
          rw [sum_w hl]
          repeat fail "s"
          refine q_idx hqj ?_
          repeat fail "s"
          refine eq_dec (fun hc => ?_) (fun hc => ?_)
          · repeat fail "s"
            refine em_append rfl (by rw [List.length_map]; have := len; omega) ?_
            repeat fail "s"
            refine ⟨some (.fz (.int e)), ?_⟩
            rw [if_pos (decide_eq_true hc), List.map_append]; rfl
          · repeat fail "s"
            refine ⟨some (.fz (.int e)), ?_⟩
            rw [if_neg (by rw [decide_eq_false hc]; exact Bool.false_ne_true), List.append_nil]
            rfl
      · rintro E ⟨u7, rfl⟩
        refine ⟨rfl, ?_⟩
        rw [List.take_length]
        repeat fail "s"
        refine q_min1 k2 ?_
        repeat fail "s"
        refine em_append rfl (by rw [List.length_map, List.length_map, List.length_range]; omega) ?_
        repeat fail "s"
        refine ⟨some (.fz (.int (j : Int))), some (.own (.list ((dueI ws (nth qs j) (col j rows)).map .int))), u7, ?_⟩
        rw [List.range_succ, List.map_append, List.map_append]; rfl
    · rintro E ⟨u3, u6, u7, rfl⟩
      refine ⟨rfl, ?_⟩
      repeat fail "s"
      first | rfl | exact ⟨rfl, rfl⟩
end HJ

set_option maxRecDepth 100000
set_option maxHeartbeats 1000000
namespace HJ
open PySem L2 HI SrtO
-- eng
local macro_rules | `(tactic| fail "s") => `(tactic| first
  | refine ex_cons ?_ | refine ex_nx ?_ | refine ex_rt ?_ | refine ex_bk ?_ | refine ex_ct ?_ | refine ex_nil ?_
  | refine ew_fz rfl ?_ | refine ew_own rfl ?_ | refine ew_tr rfl ?_ | refine ew_bor rfl ?_ | refine ew_rol rfl ?_ | refine ew_cst rfl ?_ | refine ew_bin ?_ | refine ew_idx ?_ | refine ew_nil ?_ | refine ew_cons ?_ | refine ew_call ?_ | refine ew_bcall ?_
  | refine ew_not ?_ | refine ew_neg ?_ | refine ew_and ?_ | refine ew_or ?_ | refine ew_chain ?_ | refine ew_ife ?_ | refine ew_lst ?_ | refine ew_tup ?_ | refine ew_slc ?_ | refine ew_meth ?_ | refine ew_fld ?_ | refine ew_mk ?_
  | refine ex_asg ?_ | refine ex_asgT ?_ | refine ex_asgS ?_ | refine ex_asgF ?_ | refine ex_aug rfl ?_ | refine ex_augS ?_ | refine ex_ex ?_ | refine ex_ite ?_ | refine ex_ret ?_ | refine ex_brk ?_ | refine ex_cont ?_ | refine ex_pass ?_ | refine ex_par ?_
  | refine q_rng (by omega) ?_ | refine ei_seq ?_ | refine ei_enum ?_ | refine ei_zip ?_ | refine ei_rng1 ?_ | refine ei_rng2 ?_ | refine ei_down ?_ | refine q_down (by omega) ?_
  | refine ip_t rfl rfl rfl rfl ?_ | refine ip_tt rfl rfl rfl rfl ?_ | refine ip_d rfl ?_ | refine fp_t rfl rfl rfl ?_ | refine fp_d rfl ?_ | refine tp_d ?_ | refine tp_t ?_ | refine fs_d rfl ?_ | refine q_dat rfl ?_ | refine q_datRr ?_ | refine q_datR rfl ?_ | refine q_truB rfl ?_ | refine eq_t ?_ | refine eq_f ?_
  | refine q_add_i ?_ | refine q_sub_i ?_ | refine q_lt_i ?_ | refine q_le_i ?_ | refine q_gt_i ?_ | refine q_ge_i ?_ | refine q_eq_i ?_ | refine q_ne_i ?_ | refine q_eq_s ?_ | refine q_ne_s ?_ | refine q_pow_18 ?_ | refine q_is_n ?_ | refine q_is_b ?_ | refine q_isn_b ?_ | refine q_isn_n ?_
  | refine q_idx rfl ?_ | refine p_no ?_ | refine ep_yes ?_ | refine q_slcL ?_ | refine d_nil ?_ | refine d_cons ?_ | refine q_bfn rfl ?_
  | refine f_fz ?_ | refine f_own ?_ | refine ef_var rfl ?_ | refine f_varF rfl ?_ | refine f_tr ?_ | refine ef_varT rfl ?_ | refine f_pt rfl ?_ | refine f_nil ?_ | refine f_cons ?_
  | refine r_fz ?_ | refine r_own ?_ | refine r_rol ?_ | refine r_tr ?_ | refine r_bor ?_ | refine er_var rfl ?_ | refine rs_nil ?_ | refine rs_cons ?_
  | refine ek_0 ?_ | refine ek_s ?_ | refine ess_nil ?_ | refine ess_cons rfl ?_ | refine esv_nil ?_ | refine esv_cons rfl ?_
  | refine q_tup ?_ | refine ea_nm rfl ?_ | refine ea_tp ?_ | refine s_fzl ?_ | refine s_fzt ?_ | refine s_own ?_ | refine s_rol ?_ | refine s_var rfl ?_ | refine s_varT rfl ?_ | refine s_tr ?_
  | refine eo_nil ?_ | refine eo_fz ?_ | refine eo_own ?_ | refine eo_rol ?_ | refine eo_var rfl ?_ | refine eo_varT rfl ?_ | refine eo_tr ?_ | refine eo_pt rfl ?_
  | refine zp_lst rfl ?_ | refine zp_tup rfl ?_ | refine zp_ins rfl ?_ | refine zt_0 ?_ | refine zt_s ?_ | refine zf_0 rfl ?_ | refine zf_s rfl ?_
  | refine fq_nx ?_ | refine fq_rt ?_ | refine t_fz ?_ | refine t_own ?_ | refine et_var rfl rfl ?_ | refine et_varP rfl rfl ?_ | refine et_varT rfl rfl ?_ | refine et_varPT rfl rfl ?_ | refine t_tr rfl ?_
  | refine q_rec rfl ?_ | refine em_l ?_ | refine em_r rfl ?_ | refine q_fld rfl ?_
  | refine side_int rfl ?_ | refine side_int2 rfl rfl ?_ | refine side_bool rfl ?_ | refine side_var rfl ?_
  | refine side rfl ?_ | refine side (Nat.le_of_ble_eq_true rfl) ?_ | refine em_set0 rfl ?_ | refine em_set1 rfl ?_ | refine em_set2 rfl ?_ | refine em_clear rfl ?_ | refine m_fld rfl rfl ?_ | refine ekl_0 ?_ | refine ekl_s ?_ | refine side_some rfl ?_
  | refine q_mul_i (by omega) (by omega) ?_ | refine q_mod_i (by omega) ?_ | refine q_fdiv_i (by omega) (by omega) ?_ | refine q_op rfl ?_ | refine q_slcT rfl ?_)
-- gne
/-- what the council laws rest on -/
structure CH0 (T : Pr) : Prop extends CL T where
  ste : T.lookup "settle" = some (7, B.settle)
  sed : T.lookup "settled" = some (7, B.settled)
  bag : T.lookup "_law_bag" = some (2, B._law_bag)
  tak : T.lookup "_law_take" = some (6, B._law_take)
  cou : T.lookup "_law_council" = some (11, B._law_council)
  mad : T.lookup "_law_made" = some (1, B._law_made)
structure CH (T : Pr) : Prop extends CH0 T where
  ali : T.lookup "_law_alike" = some (2, B._law_alike)
/-- a council and its parts -/
structure Kc (width most : Nat) where
  ws : List Int
  qs : List Int
  ok : Co ws qs width most
def Kc.p {width most : Nat} (c : Kc width most) : PyData := partsD c.ws c.qs
def Kc.c {width most : Nat} (c : Kc width most) : PyData := cD c.ws c.qs
theorem cs_mem {α : Type} {f : α → PyData} {xs : List α} {k : Int} (h0 : 0 ≤ k) (h1 : k < xs.length) : ∃ h : k.toNat < xs.length, indexD (.list (xs.map f)) (.int k) = some (f (xs[k.toNat])) := by
  have hk : k.toNat < xs.length := by omega
  refine ⟨hk, ?_⟩
  show atI (xs.map f) k = _
  unfold atI ixN
  rw [List.length_map, if_pos h0, if_pos h1]
  show (xs.map f)[k.toNat]? = _
  rw [List.getElem?_map, List.getElem?_eq_getElem hk]; rfl
def askD (a : Nat × List (List Int)) : PyData := .tuple [.int (a.1 : Nat), rowsD a.2]
def AskOk {width : Nat} (cs : List (Kc width 7)) (a : Nat × List (List Int)) : Prop := ∃ h : a.1 < cs.length, a.2.length = (cs[a.1]).ws.length ∧ ∀ r ∈ a.2, FarR width r
theorem setRow_far {ws qs : List Int} {width most : Nat} {rows : List (List Int)} (C : Co ws qs width most) (hl : rows.length = ws.length) (hr : ∀ r ∈ rows, FarR width r) : FarR width (setRow ws qs rows) := by
  refine ⟨by unfold setRow; rw [List.length_map, List.length_range]; exact C.ql, fun x hx => ?_⟩
  obtain ⟨j, hj, rfl⟩ := List.mem_map.mp hx
  have hj := List.mem_range.mp hj
  have hC : Cq ws (nth qs j) := by
    unfold nth
    rw [List.getElem?_eq_getElem hj]
    exact C.cq (List.getElem_mem hj)
  obtain ⟨-, -, h3, -⟩ := set_col hC (es := col j rows) (by unfold col; rw [List.length_map]; exact hl)
  obtain ⟨r, hr1, e⟩ := List.mem_map.mp h3
  rw [← e]
  obtain ⟨k1, k2⟩ := hr r hr1
  refine k2 _ ?_
  have hq := C.ql
  unfold nth
  rw [List.getElem?_eq_getElem (by omega)]
  exact List.getElem_mem _
theorem ints_nice {xs : List Int} (h : ∀ x ∈ xs, -1000000000000000000 ≤ x ∧ x ≤ 1000000000000000000) : Nice (.list (xs.map .int)) (xs.length * 135) 1 := by
  have := nice_lst (nl_all (ds := xs.map .int) (w := 134) (dp := 0) fun d hd => by
    obtain ⟨x, hx, rfl⟩ := List.mem_map.mp hd
    have := h x hx
    exact nice_int (by omega))
  rwa [List.length_map] at this
theorem ws_sum {ws : List Int} (h : ∀ w ∈ ws, 1 ≤ w ∧ w ≤ 1000000) : (ws.length : Int) ≤ ws.sum ∧ ws.sum ≤ 1000000 * ws.length := by
  induction ws with
  | nil => exact ⟨Int.le_refl _, Int.le_refl _⟩
  | cons x ws ih =>
    have h1 := h x List.mem_cons_self
    obtain ⟨i1, i2⟩ := ih fun y hy => h y (List.mem_cons_of_mem _ hy)
    rw [List.sum_cons, List.length_cons]
    omega
theorem Co.nice {ws qs : List Int} {width most : Nat} (C : Co ws qs width most) (h7 : most ≤ 7) : Nice (.list [.list (ws.map .int), .list (qs.map .int)]) (ws.length * 135 + 1 + (qs.length * 135 + 1 + 0)) 2 := by
  have hs := ws_sum C.w
  have l7 := C.l7
  have n1 := ints_nice (xs := ws) fun x hx => by have := C.w x hx; omega
  have n2 := ints_nice (xs := qs) fun x hx => by have := C.q x hx; omega
  exact nice_lst (nl_cons n1 (nl_cons n2 nl_nil))
theorem at_zip {E : Dn} {i j : Nat} {xs ys : List PyData} (e1 : slotV E i = some (.own (.list xs))) (e2 : slotV E j = some (.own (.list ys))) (n : Nat) : (Wd.zip (.var i xs.length) (.var j ys.length)).at n E = (xs[n]?).bind fun x => (ys[n]?).map fun y => .tuple [x, y] := by
  have a1 := at_var e1 n
  have a2 := at_var e2 n
  show (Src.at E (.var i xs.length) n).bind (fun x => (Src.at E (.var j ys.length) n).map fun y => PyData.tuple [x, y]) = _
  rw [show Src.at E (.var i xs.length) n = xs[n]? from a1, show Src.at E (.var j ys.length) n = ys[n]? from a2]
theorem ends_zip {E : Dn} {i j : Nat} {xs ys : List PyData} (e1 : slotV E i = some (.own (.list xs))) (e2 : slotV E j = some (.own (.list ys))) : (Wd.zip (.var i xs.length) (.var j ys.length)).ends E = true := by
  show ((Src.now E (.var i xs.length)).isSome && (Src.now E (.var j ys.length)).isSome) = true
  unfold Src.now
  simp [e1, e2, Va.d]
theorem last_at {rows : List (List Int)} (h : 0 < rows.length) : ∃ r ∈ rows, indexD (.list (rows.map rowD)) (.int (-1)) = some (rowD r) := by
  have hk : rows.length - 1 < rows.length := by omega
  refine ⟨rows[rows.length - 1], List.getElem_mem hk, ?_⟩
  show atI (rows.map rowD) (-1) = _
  unfold atI ixN
  rw [List.length_map, if_neg (by omega), if_pos (by omega)]
  show (rows.map rowD)[(-1 + (rows.length : Int)).toNat]? = _
  rw [show (-1 + (rows.length : Int)).toNat = rows.length - 1 by omega, List.getElem?_map, List.getElem?_eq_getElem hk]; rfl
end HJ

set_option maxRecDepth 100000
namespace B
open PySem L2 HI
def origins : Sms := (.cons (.asg (.nm 2) (.call "settle" (.cons (.slot 0) (.cons (.slot 1) .nil)))) (.cons (.asg (.nm 3) (.lst .nil)) (.cons (.for_ (.tp [4, 5]) (.enum (.slot 2)) (.cons (.ex (.meth "append" "append" (.slot 3) (.cons (.comp [6, 7] (.tp [6, 7]) (.enum (.slot 1)) (.bin .eq (.idx (.slot 7) (.slot 4)) (.slot 5)) (.slot 6)) .nil))) .nil)) (.cons (.ret (.slot 3)) .nil))))
def _law_due_k26 : Sms := (.cons (.asg (.nm 2) (.lst .nil)) (.cons (.for_ (.nm 3) (.rng1 (.bcall "len" (.cons (.slot 0) .nil))) (.cons (.ex (.meth "append" "append" (.slot 2) (.cons (.comp [4] (.nm 4) (.rng1 (.bcall "len" (.cons (.slot 1) .nil))) (.bin .eq (.idx (.idx (.slot 1) (.slot 4)) (.slot 3)) (.idx (.slot 0) (.slot 3))) (.slot 4)) .nil))) .nil)) (.cons (.ret (.slot 2)) .nil)))
def law_k26 : Sms := (.cons (.asg (.nm 1) (.call "_law_bag" (.cons (.slot 0) .nil))) (.cons (.for_ (.nm 2) (.rng1 (.cst (.int (3)))) (.cons (.asg (.nm 3) (.bin .add (.cst (.int (1))) (.call "_law_take" (.cons (.slot 1) (.cons (.cst (.int (6))) .nil))))) (.cons (.asg (.nm 4) (.lst (.cons (.call "_law_council" (.cons (.slot 1) (.cons (.slot 3) (.cons (.cst (.int (7))) .nil)))) .nil))) (.cons (.ex (.meth "append" "append" (.slot 4) (.cons (.tup (.cons (.idx (.idx (.slot 4) (.cst (.int (0)))) (.cst (.int (0)))) (.cons (.comp [15] (.nm 15) (.rng1 (.slot 3)) (.cst (.bl true)) (.bin .add (.cst (.int (1))) (.call "_law_take" (.cons (.slot 1) (.cons (.bcall "sum" (.cons (.idx (.idx (.slot 4) (.cst (.int (0)))) (.cst (.int (0)))) .nil)) .nil))))) .nil))) .nil))) (.cons (.asg (.nm 5) (.comp [12] (.nm 12) (.rng1 (.cst (.int (2)))) (.cst (.bl true)) (.call "_law_seat_rows" (.cons (.slot 1) (.cons (.slot 3) (.cons (.bcall "len" (.cons (.idx (.idx (.slot 4) (.cst (.int (0)))) (.cst (.int (0)))) .nil)) .nil)))))) (.cons (.asg (.nm 6) (.comp [13] (.nm 13) (.seq (.slot 4)) (.cst (.bl true)) (.call "_law_made" (.cons (.slot 13) .nil)))) (.cons (.for_ (.tp [7, 8]) (.seq (.lst (.cons (.tup (.cons (.cst (.int (0))) (.cons (.idx (.slot 5) (.cst (.int (0)))) .nil))) (.cons (.tup (.cons (.cst (.int (1))) (.cons (.idx (.slot 5) (.cst (.int (0)))) .nil))) (.cons (.tup (.cons (.cst (.int (0))) (.cons (.idx (.slot 5) (.cst (.int (1)))) .nil))) (.cons (.tup (.cons (.cst (.int (0))) (.cons (.idx (.slot 5) (.cst (.int (0)))) .nil))) .nil)))))) (.cons (.asg (.nm 9) (.bcall "list" (.cons (.slot 8) .nil))) (.cons (.asg (.nm 10) (.call "_law_due" (.cons (.call "settle" (.cons (.idx (.slot 6) (.slot 7)) (.cons (.slot 8) .nil))) (.cons (.slot 8) .nil)))) (.cons (.for_ (.nm 11) (.rng1 (.cst (.int (2)))) (.cons (.asg (.nm 14) (.call "origins" (.cons (.idx (.slot 6) (.slot 7)) (.cons (.slot 8) .nil)))) (.cons (.ite (.or (.not (.call "_law_alike" (.cons (.slot 14) (.cons (.slot 10) .nil)))) (.or (.bin .in_ (.lst .nil) (.slot 14)) (.bin .ne (.slot 8) (.slot 9)))) (.cons (.ret (.cst (.bl false))) .nil) .nil) (.cons (.ex (.meth "append" "append" (.idx (.slot 14) (.cst (.int (0)))) (.cons (.cst (.int (9))) .nil))) (.cons (.ite (.bin .ne (.slc (.slot 14) true (.cst (.int (1))) false (.cst .non)) (.slc (.slot 10) true (.cst (.int (1))) false (.cst .non))) (.cons (.ret (.cst (.bl false))) .nil) .nil) (.cons (.ex (.meth "reverse" "reverse" (.slot 14) .nil)) .nil)))))) .nil)))) .nil))))))) (.cons (.ret (.cst (.bl true))) .nil)))
end B
namespace K26
open PySem L2 HI
def CT : List Ci := [⟨"Council", "Council", 2, ["weights", "quotas", "total", "width"], ["seat_weights", "column_quotas"]⟩]
def tab : List (String × Nat × Sms) := [("settled", 7, B.settled), ("settle", 7, B.settle), ("origins", 8, B.origins), ("is_integer", 1, B.is_integer), ("is_between", 3, B.is_between), ("are_weights", 2, B.are_weights), ("are_quotas", 3, B.are_quotas), ("Council.__init__", 3, B.Council_dot___init__), ("Council.weights", 1, B.Council_dot_weights), ("Council.quotas", 1, B.Council_dot_quotas), ("Council.total", 1, B.Council_dot_total), ("Council.width", 1, B.Council_dot_width), ("Council.__len__", 1, B.Council_dot___len__), ("_law_bag", 2, B._law_bag), ("_law_take", 6, B._law_take), ("_law_alike", 2, B._law_alike), ("_law_council", 11, B._law_council), ("_law_made", 1, B._law_made), ("_law_value", 3, B._law_value), ("_law_seat_rows", 8, B._law_seat_rows), ("_law_due", 5, B._law_due_k26), ("law", 16, B.law_k26)]
def pr : Pr := ⟨tab, CT⟩
theorem l_settled : pr.lookup "settled" = some (7, B.settled) := by rfl
theorem l_settle : pr.lookup "settle" = some (7, B.settle) := by rfl
theorem l_origins : pr.lookup "origins" = some (8, B.origins) := by rfl
theorem l_is_integer : pr.lookup "is_integer" = some (1, B.is_integer) := by rfl
theorem l_is_between : pr.lookup "is_between" = some (3, B.is_between) := by rfl
theorem l_are_weights : pr.lookup "are_weights" = some (2, B.are_weights) := by rfl
theorem l_are_quotas : pr.lookup "are_quotas" = some (3, B.are_quotas) := by rfl
theorem l_Council_dot___init__ : pr.lookup "Council.__init__" = some (3, B.Council_dot___init__) := by rfl
theorem l_Council_dot_weights : pr.lookup "Council.weights" = some (1, B.Council_dot_weights) := by rfl
theorem l_Council_dot_quotas : pr.lookup "Council.quotas" = some (1, B.Council_dot_quotas) := by rfl
theorem l_Council_dot_total : pr.lookup "Council.total" = some (1, B.Council_dot_total) := by rfl
theorem l_Council_dot_width : pr.lookup "Council.width" = some (1, B.Council_dot_width) := by rfl
theorem l_Council_dot___len__ : pr.lookup "Council.__len__" = some (1, B.Council_dot___len__) := by rfl
theorem l__law_bag : pr.lookup "_law_bag" = some (2, B._law_bag) := by rfl
theorem l__law_take : pr.lookup "_law_take" = some (6, B._law_take) := by rfl
theorem l__law_alike : pr.lookup "_law_alike" = some (2, B._law_alike) := by rfl
theorem l__law_council : pr.lookup "_law_council" = some (11, B._law_council) := by rfl
theorem l__law_made : pr.lookup "_law_made" = some (1, B._law_made) := by rfl
theorem l__law_value : pr.lookup "_law_value" = some (3, B._law_value) := by rfl
theorem l__law_seat_rows : pr.lookup "_law_seat_rows" = some (8, B._law_seat_rows) := by rfl
theorem l__law_due : pr.lookup "_law_due" = some (5, B._law_due_k26) := by rfl
theorem l_law : pr.lookup "law" = some (16, B.law_k26) := by rfl
end K26

set_option maxRecDepth 100000
set_option maxHeartbeats 1000000
/-! origins -/
namespace HJ
open PySem L2 HI SrtO
-- eng
local macro_rules | `(tactic| fail "s") => `(tactic| first
  | refine ex_cons ?_ | refine ex_nx ?_ | refine ex_rt ?_ | refine ex_bk ?_ | refine ex_ct ?_ | refine ex_nil ?_
  | refine ew_fz rfl ?_ | refine ew_own rfl ?_ | refine ew_tr rfl ?_ | refine ew_bor rfl ?_ | refine ew_rol rfl ?_ | refine ew_cst rfl ?_ | refine ew_bin ?_ | refine ew_idx ?_ | refine ew_nil ?_ | refine ew_cons ?_ | refine ew_call ?_ | refine ew_bcall ?_
  | refine ew_not ?_ | refine ew_neg ?_ | refine ew_and ?_ | refine ew_or ?_ | refine ew_chain ?_ | refine ew_ife ?_ | refine ew_lst ?_ | refine ew_tup ?_ | refine ew_slc ?_ | refine ew_meth ?_ | refine ew_fld ?_ | refine ew_mk ?_
  | refine ex_asg ?_ | refine ex_asgT ?_ | refine ex_asgS ?_ | refine ex_asgF ?_ | refine ex_aug rfl ?_ | refine ex_augS ?_ | refine ex_ex ?_ | refine ex_ite ?_ | refine ex_ret ?_ | refine ex_brk ?_ | refine ex_cont ?_ | refine ex_pass ?_ | refine ex_par ?_
  | refine q_rng (by omega) ?_ | refine ei_seq ?_ | refine ei_enum ?_ | refine ei_zip ?_ | refine ei_rng1 ?_ | refine ei_rng2 ?_ | refine ei_down ?_ | refine q_down (by omega) ?_
  | refine ip_t rfl rfl rfl rfl ?_ | refine ip_tt rfl rfl rfl rfl ?_ | refine ip_d rfl ?_ | refine fp_t rfl rfl rfl ?_ | refine fp_d rfl ?_ | refine tp_d ?_ | refine tp_t ?_ | refine fs_d rfl ?_ | refine q_dat rfl ?_ | refine q_datRr ?_ | refine q_datR rfl ?_ | refine q_truB rfl ?_ | refine eq_t ?_ | refine eq_f ?_
  | refine q_add_i ?_ | refine q_sub_i ?_ | refine q_lt_i ?_ | refine q_le_i ?_ | refine q_gt_i ?_ | refine q_ge_i ?_ | refine q_eq_i ?_ | refine q_ne_i ?_ | refine q_eq_s ?_ | refine q_ne_s ?_ | refine q_pow_18 ?_ | refine q_is_n ?_ | refine q_is_b ?_ | refine q_isn_b ?_ | refine q_isn_n ?_
  | refine q_idx rfl ?_ | refine p_no ?_ | refine ep_yes ?_ | refine q_slcL ?_ | refine d_nil ?_ | refine d_cons ?_ | refine q_bfn rfl ?_
  | refine f_fz ?_ | refine f_own ?_ | refine ef_var rfl ?_ | refine f_varF rfl ?_ | refine f_tr ?_ | refine ef_varT rfl ?_ | refine f_pt rfl ?_ | refine f_nil ?_ | refine f_cons ?_
  | refine r_fz ?_ | refine r_own ?_ | refine r_rol ?_ | refine r_tr ?_ | refine r_bor ?_ | refine er_var rfl ?_ | refine rs_nil ?_ | refine rs_cons ?_
  | refine ek_0 ?_ | refine ek_s ?_ | refine ess_nil ?_ | refine ess_cons rfl ?_ | refine esv_nil ?_ | refine esv_cons rfl ?_
  | refine q_tup ?_ | refine ea_nm rfl ?_ | refine ea_tp ?_ | refine s_fzl ?_ | refine s_fzt ?_ | refine s_own ?_ | refine s_rol ?_ | refine s_var rfl ?_ | refine s_varT rfl ?_ | refine s_tr ?_
  | refine eo_nil ?_ | refine eo_fz ?_ | refine eo_own ?_ | refine eo_rol ?_ | refine eo_var rfl ?_ | refine eo_varT rfl ?_ | refine eo_tr ?_ | refine eo_pt rfl ?_
  | refine zp_lst rfl ?_ | refine zp_tup rfl ?_ | refine zp_ins rfl ?_ | refine zt_0 ?_ | refine zt_s ?_ | refine zf_0 rfl ?_ | refine zf_s rfl ?_
  | refine fq_nx ?_ | refine fq_rt ?_ | refine t_fz ?_ | refine t_own ?_ | refine et_var rfl rfl ?_ | refine et_varP rfl rfl ?_ | refine et_varT rfl rfl ?_ | refine et_varPT rfl rfl ?_ | refine t_tr rfl ?_
  | refine q_rec rfl ?_ | refine em_l ?_ | refine em_r rfl ?_ | refine q_fld rfl ?_
  | refine side_int rfl ?_ | refine side_int2 rfl rfl ?_ | refine side_bool rfl ?_ | refine side_var rfl ?_
  | refine side rfl ?_ | refine side (Nat.le_of_ble_eq_true rfl) ?_ | refine em_set0 rfl ?_ | refine em_set1 rfl ?_ | refine em_set2 rfl ?_ | refine em_clear rfl ?_ | refine m_fld rfl rfl ?_ | refine ekl_0 ?_ | refine ekl_s ?_ | refine side_some rfl ?_
  | refine q_mul_i (by omega) (by omega) ?_ | refine q_mod_i (by omega) ?_ | refine q_fdiv_i (by omega) (by omega) ?_ | refine q_op rfl ?_ | refine q_slcT rfl ?_)
-- gne
/-- the seats whose rows have this entry in a column -/
def orgI (rows : List (List Int)) (c : Nat) (e : Int) : List Nat := (List.range rows.length).filter fun s => decide (nth (rows.getD s []) c = e)
def natD (s : Nat) : PyData := .int (s : Int)
def orgD (rows : List (List Int)) (made : List Int) (c : Nat) : PyData := .list ((orgI rows c (nth made c)).map natD)
theorem orgI_len (rows : List (List Int)) (c : Nat) (e : Int) : (orgI rows c e).length ≤ rows.length := by
  unfold orgI
  refine Nat.le_trans (List.length_filter_le _ _) ?_
  rw [List.length_range]; exact Nat.le_refl _
def pairD (rows : List (List Int)) (s : Nat) : PyData := .tuple [.int (s : Int), rowD (rows.getD s [])]
theorem pair_at (rows : List (List Int)) (i : Nat) : ((rows.map rowD)[i]?).map (fun x => PyData.tuple [.int (i : Nat), x]) = ((List.range rows.length).map (pairD rows))[i]? := by
  rw [List.getElem?_map, List.getElem?_map]
  by_cases h : i < rows.length
  · rw [List.getElem?_eq_getElem h, List.getElem?_range h]
    show some _ = some _
    unfold pairD
    rw [List.getD_eq_getElem?_getD, List.getElem?_eq_getElem h]; rfl
  · rw [List.getElem?_eq_none (by omega), List.getElem?_eq_none (by rw [List.length_range]; omega)]; rfl
theorem dec_eq {a b : Int} : (PyData.eqv (.int a) (.int b)) = decide (a = b) := by
  unfold PyData.eqv
  first | rfl | simp
theorem origins_cp {T : Pr} (L : CH T) (hO : T.lookup "origins" = some (8, B.origins)) {k : Nat} {ws qs : List Int} {rows : List (List Int)} (hq : ∀ q ∈ qs, Cq ws q) (hl : rows.length = ws.length) (hz : ws.length < 1000) (hz2 : qs.length < 1000) (hr : ∀ r ∈ rows, qs.length ≤ r.length) :
    cp T (k + 3) "origins" [.fz (cD ws qs), .fz (rowsD rows)] fun r os => ∃ n, r = .tr (.lst n ((List.range qs.length).map fun c => .own (orgD rows (setRow ws qs rows) c))) ∧ os = [none, none] := by
  have big := big1000
  refine ecp_of hO ?_
  show WB (dC T (k + 2) noX) [] _ [some (.fz (cD ws qs)), some (.fz (rowsD rows)), none, none, none, none, none, none] (zF [] 2 _)
  repeat fail "s"
  refine eq_call (T := T) rfl rfl (cp_mono (settle_cp2 L.ste L.sed L.wei L.quo L.toCI hq hl hz hz2 hr false false) ?_)
  rintro r os ⟨rfl, rfl⟩
  refine ⟨rfl, ?_⟩
  repeat (first | refine ew_lstK ?_ | refine g_nil ?_ | fail "s")
  intro n0
  repeat fail "s"
  refine ex_for ?_
  repeat fail "s"
  have lm : (setRow ws qs rows).length = qs.length := by unfold setRow; simp
  refine efor (N := qs.length) (fun i E => ∃ n u4 u5, E = [some (.fz (cD ws qs)), some (.fz (rowsD rows)), some (.fz (rowD (setRow ws qs rows))), some (.tr (.lst n ((List.range i).map fun c => .own (orgD rows (setRow ws qs rows) c)))), u4, u5, none, none]) (by simp [Wd.n, Src.n, lm]) ⟨_, _, _, rfl⟩ ?_ ?_
  · rintro i E hi ⟨n, u4, u5, rfl⟩
    have hi2 : i < (setRow ws qs rows).length := by omega
    refine ⟨.tuple [.int (i : Nat), .int (nth (setRow ws qs rows) i)], ?_, ?_⟩
    · show (((setRow ws qs rows).map PyData.int)[i]?).map _ = _
      rw [List.getElem?_map, List.getElem?_eq_getElem hi2]
      unfold nth
      rw [List.getElem?_eq_getElem hi2]; rfl
    · generalize setRow ws qs rows = made at *
      repeat (first | refine em_lT ?_ | fail "s")
      refine ew_comp ?_
      repeat fail "s"
      refine ⟨⟨rfl, rfl⟩, ?_⟩
      refine ecomp_pure (enc := pairD rows) (List.range rows.length) (fun s => decide (nth (rows.getD s []) i = nth made i)) natD (by simp [Wd.n, Src.n]) (by rw [List.length_range]; omega) (fun j => pair_at rows j) rfl (fun s hs => ?_) ?_
      · have hs := List.mem_range.mp hs
        have hsl : i < (rows.getD s []).length := by
          have := hr rows[s] (List.getElem_mem hs)
          rw [List.getD_eq_getElem?_getD, List.getElem?_eq_getElem hs]
          show i < rows[s].length
          omega
        refine ⟨_, rfl, rfl, ?_⟩
        repeat fail "s"
        refine q_idx (row_at (row := rows.getD s []) (c := (i : Int)) (by omega) (by omega)) ?_
        repeat fail "s"
        intro _
        repeat fail "s"
        first | rfl | exact ⟨rfl, rfl⟩
      · repeat fail "s"
        refine g_cons (g_own (g_nil ?_))
        refine em_appT rfl (by rw [List.length_map, List.length_range]; omega) fun n' => ?_
        repeat fail "s"
        rw [List.range_succ, List.map_append]
        exact ⟨n', _, _, rfl⟩
  · rintro E ⟨n, u4, u5, rfl⟩
    refine ⟨rfl, ?_⟩
    repeat fail "s"
    exact ⟨n, rfl, rfl⟩
end HJ

set_option maxRecDepth 100000
set_option maxHeartbeats 1000000
namespace HJ
open PySem L2 HI SrtO
-- eng
local macro_rules | `(tactic| fail "s") => `(tactic| first
  | refine ex_cons ?_ | refine ex_nx ?_ | refine ex_rt ?_ | refine ex_bk ?_ | refine ex_ct ?_ | refine ex_nil ?_
  | refine ew_fz rfl ?_ | refine ew_own rfl ?_ | refine ew_tr rfl ?_ | refine ew_bor rfl ?_ | refine ew_rol rfl ?_ | refine ew_cst rfl ?_ | refine ew_bin ?_ | refine ew_idx ?_ | refine ew_nil ?_ | refine ew_cons ?_ | refine ew_call ?_ | refine ew_bcall ?_
  | refine ew_not ?_ | refine ew_neg ?_ | refine ew_and ?_ | refine ew_or ?_ | refine ew_chain ?_ | refine ew_ife ?_ | refine ew_lst ?_ | refine ew_tup ?_ | refine ew_slc ?_ | refine ew_meth ?_ | refine ew_fld ?_ | refine ew_mk ?_
  | refine ex_asg ?_ | refine ex_asgT ?_ | refine ex_asgS ?_ | refine ex_asgF ?_ | refine ex_aug rfl ?_ | refine ex_augS ?_ | refine ex_ex ?_ | refine ex_ite ?_ | refine ex_ret ?_ | refine ex_brk ?_ | refine ex_cont ?_ | refine ex_pass ?_ | refine ex_par ?_
  | refine q_rng (by omega) ?_ | refine ei_seq ?_ | refine ei_enum ?_ | refine ei_zip ?_ | refine ei_rng1 ?_ | refine ei_rng2 ?_ | refine ei_down ?_ | refine q_down (by omega) ?_
  | refine ip_t rfl rfl rfl rfl ?_ | refine ip_tt rfl rfl rfl rfl ?_ | refine ip_d rfl ?_ | refine fp_t rfl rfl rfl ?_ | refine fp_d rfl ?_ | refine tp_d ?_ | refine tp_t ?_ | refine fs_d rfl ?_ | refine q_dat rfl ?_ | refine q_datRr ?_ | refine q_datR rfl ?_ | refine q_truB rfl ?_ | refine eq_t ?_ | refine eq_f ?_
  | refine q_add_i ?_ | refine q_sub_i ?_ | refine q_lt_i ?_ | refine q_le_i ?_ | refine q_gt_i ?_ | refine q_ge_i ?_ | refine q_eq_i ?_ | refine q_ne_i ?_ | refine q_eq_s ?_ | refine q_ne_s ?_ | refine q_pow_18 ?_ | refine q_is_n ?_ | refine q_is_b ?_ | refine q_isn_b ?_ | refine q_isn_n ?_
  | refine q_idx rfl ?_ | refine p_no ?_ | refine ep_yes ?_ | refine q_slcL ?_ | refine d_nil ?_ | refine d_cons ?_ | refine q_bfn rfl ?_
  | refine f_fz ?_ | refine f_own ?_ | refine ef_var rfl ?_ | refine f_varF rfl ?_ | refine f_tr ?_ | refine ef_varT rfl ?_ | refine f_pt rfl ?_ | refine f_nil ?_ | refine f_cons ?_
  | refine r_fz ?_ | refine r_own ?_ | refine r_rol ?_ | refine r_tr ?_ | refine r_bor ?_ | refine er_var rfl ?_ | refine rs_nil ?_ | refine rs_cons ?_
  | refine ek_0 ?_ | refine ek_s ?_ | refine ess_nil ?_ | refine ess_cons rfl ?_ | refine esv_nil ?_ | refine esv_cons rfl ?_
  | refine q_tup ?_ | refine ea_nm rfl ?_ | refine ea_tp ?_ | refine s_fzl ?_ | refine s_fzt ?_ | refine s_own ?_ | refine s_rol ?_ | refine s_var rfl ?_ | refine s_varT rfl ?_ | refine s_tr ?_
  | refine eo_nil ?_ | refine eo_fz ?_ | refine eo_own ?_ | refine eo_rol ?_ | refine eo_var rfl ?_ | refine eo_varT rfl ?_ | refine eo_tr ?_ | refine eo_pt rfl ?_
  | refine zp_lst rfl ?_ | refine zp_tup rfl ?_ | refine zp_ins rfl ?_ | refine zt_0 ?_ | refine zt_s ?_ | refine zf_0 rfl ?_ | refine zf_s rfl ?_
  | refine fq_nx ?_ | refine fq_rt ?_ | refine t_fz ?_ | refine t_own ?_ | refine et_var rfl rfl ?_ | refine et_varP rfl rfl ?_ | refine et_varT rfl rfl ?_ | refine et_varPT rfl rfl ?_ | refine t_tr rfl ?_
  | refine q_rec rfl ?_ | refine em_l ?_ | refine em_r rfl ?_ | refine q_fld rfl ?_
  | refine side_int rfl ?_ | refine side_int2 rfl rfl ?_ | refine side_bool rfl ?_ | refine side_var rfl ?_
  | refine side rfl ?_ | refine side (Nat.le_of_ble_eq_true rfl) ?_ | refine em_set0 rfl ?_ | refine em_set1 rfl ?_ | refine em_set2 rfl ?_ | refine em_clear rfl ?_ | refine m_fld rfl rfl ?_ | refine ekl_0 ?_ | refine ekl_s ?_ | refine side_some rfl ?_
  | refine q_mul_i (by omega) (by omega) ?_ | refine q_mod_i (by omega) ?_ | refine q_fdiv_i (by omega) (by omega) ?_ | refine q_op rfl ?_ | refine q_slcT rfl ?_)
-- gne
theorem cut1 {xs : List PyData} {a : PyData} (h : xs.length < 1000) : cutD (a :: xs) (some (1 : Int)) none = xs := by
  unfold cutD
  have e2 : HT.sIx (a :: xs).length (a :: xs).length none = (a :: xs).length := rfl
  have e1 : HT.sIx (a :: xs).length 0 (some (1 : Int)) = 1 := by
    have := HT.sIx_nat (n := (a :: xs).length) (d := 0) (k := 1)
    rw [show ((1 : Nat) : Int) = (1 : Int) from rfl] at this
    rw [this, List.length_cons]; omega
  rw [e2, e1]
  show List.take _ xs = xs
  rw [List.take_of_length_le (by rw [List.length_cons]; omega)]
theorem due26_cp {T : Pr} (hT : T.lookup "_law_due" = some (5, B._law_due_k26)) {k : Nat} {rows : List (List Int)} {made : List Int} (hl : rows.length < 1000) (hm : made.length < 1000) (hr : ∀ r ∈ rows, made.length ≤ r.length) :
    cp T (k + 1) "_law_due" [.fz (rowD made), .fz (rowsD rows)] fun r os => r = .own (.list ((List.range made.length).map (orgD rows made))) ∧ os = [none, none] := by
  have big := big1000
  have lm : (made.map PyData.int).length = made.length := List.length_map _
  have lr : (rows.map rowD).length = rows.length := List.length_map _
  refine ecp_of hT ?_
  show WB (dC T k noX) [] _ [some (.fz (.tuple (made.map .int))), some (.fz (.list (rows.map rowD))), none, none, none] (zF [] 2 _)
  repeat fail "s"
  refine ex_for ?_
  repeat fail "s"
  refine efor (N := made.length) (fun i E => ∃ u3, E = [some (.fz (.tuple (made.map .int))), some (.fz (.list (rows.map rowD))), some (.own (.list ((List.range i).map (orgD rows made)))), u3, none]) (by simp [Wd.n]) ⟨_, rfl⟩ ?_ ?_
  · rintro i E hi ⟨u3, rfl⟩
    refine ⟨.int (0 + (i : Int)), if_pos (by rw [lm]; omega), ?_⟩
    rw [Int.zero_add]
    repeat fail "s"
    refine ew_comp ?_
    repeat fail "s"
    refine ⟨⟨rfl, rfl⟩, ?_⟩
    refine ecomp_pure (enc := natD) (List.range rows.length) (fun s => decide (nth (rows.getD s []) i = nth made i)) natD (by simp [Wd.n]) (by rw [List.length_range]; omega) (fun j => ?_) rfl (fun s hs => ?_) ?_
    · show (if j < _ then some (PyData.int (0 + (j : Int))) else none) = _
      rw [lr, Int.zero_add, List.getElem?_map]
      by_cases h : j < rows.length
      · rw [List.getElem?_range h, if_pos (by omega)]; rfl
      · rw [List.getElem?_eq_none (by rw [List.length_range]; omega), if_neg (by omega)]; rfl
    · have hs := List.mem_range.mp hs
      have hsl : i < (rows.getD s []).length := by
        have := hr rows[s] (List.getElem_mem hs)
        rw [List.getD_eq_getElem?_getD, List.getElem?_eq_getElem hs]
        show i < rows[s].length
        omega
      refine ⟨_, rfl, rfl, ?_⟩
      repeat fail "s"
      refine q_idx (rows_at hs) ?_
      repeat fail "s"
      refine q_idx (row_at (row := (rows[s]?).getD []) (c := (i : Int)) (by omega) (by rw [← List.getD_eq_getElem?_getD]; omega)) ?_
      repeat fail "s"
      refine q_idx (row_at (row := made) (c := (i : Int)) (by omega) (by omega)) ?_
      repeat fail "s"
      intro _
      repeat fail "s"
      first | rfl | exact ⟨rfl, rfl⟩
    · repeat fail "s"
      refine em_append rfl (by rw [List.length_map, List.length_range]; omega) ?_
      repeat fail "s"
      rw [List.range_succ, List.map_append]
      exact ⟨_, rfl⟩
  · rintro E ⟨u3, rfl⟩
    refine ⟨rfl, ?_⟩
    repeat fail "s"
    first | rfl | exact ⟨rfl, rfl⟩
theorem alikeT_cp {T : Pr} (hT : T.lookup "_law_alike" = some (2, B._law_alike)) {k w dp n : Nat} {ts : List Tr} {ds : List PyData} (e : dL ts = ds) (ni : Nice (.list ds) w dp) (h : dp ≤ 64) (hw : w ≤ 300000) :
    cp T (k + 1) "_law_alike" [.tr (.lst n ts), .own (.list ds)] fun r os => r = .fz (.bool true) ∧ os = [some (.tr (.lst n ts)), some (.own (.list ds))] := by
  subst e
  refine ecp_of hT ?_
  show WB (dC T k noX) [0, 1] _ [some (.tr (.lst n ts)), some (.own (.list (dL ts)))] (zF [0, 1] 2 _)
  repeat fail "s"
  refine q_eq_refl ni h ?_
  repeat fail "s"
  refine q_repr ni h hw ?_
  repeat fail "s"
  refine q_repr ni h hw ?_
  repeat fail "s"
  exact ⟨by rw [show (Tr.lst n ts).d = .list (dL ts) from by simp only [Tr.d], decide_eq_true rfl], rfl⟩
theorem orgD_nice {rows : List (List Int)} {made : List Int} {c : Nat} (h : rows.length ≤ 7) : Nice (orgD rows made c) 1000 1 := by
  have l := orgI_len rows c (nth made c)
  have := nice_lst (nl_all (ds := (orgI rows c (nth made c)).map natD) (w := 134) (dp := 0) fun d hd => by
    obtain ⟨s, hs, rfl⟩ := List.mem_map.mp hd
    have := List.mem_range.mp (List.mem_filter.mp hs).1
    exact nice_int (by omega))
  refine this.mono ?_ (Nat.le_refl _)
  rw [List.length_map]
  have : (orgI rows c (nth made c)).length * (134 + 1) ≤ 7 * 135 := Nat.mul_le_mul (by omega) (by omega)
  omega
theorem orgs_nice {rows : List (List Int)} {made : List Int} {ns : List Nat} (h : rows.length ≤ 7) (hn : ns.length ≤ 6) : Nice (.list (ns.map (orgD rows made))) 10000 2 := by
  have := nice_lst (nl_all (ds := ns.map (orgD rows made)) (w := 1000) (dp := 1) fun d hd => by
    obtain ⟨s, hs, rfl⟩ := List.mem_map.mp hd
    exact orgD_nice h)
  refine this.mono ?_ (Nat.le_refl _)
  rw [List.length_map]
  have : ns.length * (1000 + 1) ≤ 6 * 1001 := Nat.mul_le_mul hn (by omega)
  omega
theorem dL_own {rows : List (List Int)} {made : List Int} : ∀ {ns : List Nat}, dL (ns.map fun c => .own (orgD rows made c)) = ns.map (orgD rows made)
  | [] => by simp [dL]
  | c :: ns => by simp only [List.map_cons, dL, Tr.d, dL_own]
/-- some seat has the entry that is made -/
theorem org_ne {ws qs : List Int} {rows : List (List Int)} {c : Nat} (C : ∀ q ∈ qs, Cq ws q) (hl : rows.length = ws.length) (hc : c < qs.length) : orgI rows c (nth (setRow ws qs rows) c) ≠ [] := by
  have hq : nth qs c ∈ qs := by
    unfold nth
    rw [List.getElem?_eq_getElem hc]
    exact List.getElem_mem hc
  obtain ⟨-, -, h3, -⟩ := set_col (C _ hq) (es := col c rows) (by unfold col; rw [List.length_map]; exact hl)
  have e : nth (setRow ws qs rows) c = setI ws (nth qs c) (col c rows) := by
    have hlt : c < (List.range qs.length).length := by rw [List.length_range]; exact hc
    unfold setRow
    rw [nth, List.getElem?_map, List.getElem?_range hc]; rfl
  rw [e]
  obtain ⟨r, hr, e2⟩ := List.mem_map.mp h3
  obtain ⟨s, hs, e3⟩ := List.getElem_of_mem hr
  intro z
  have m : s ∈ orgI rows c (setI ws (nth qs c) (col c rows)) := by
    unfold orgI
    refine List.mem_filter.mpr ⟨List.mem_range.mpr hs, ?_⟩
    rw [decide_eq_true_iff, List.getD_eq_getElem?_getD, List.getElem?_eq_getElem hs]
    show nth rows[s] c = _
    rw [e3]
    exact e2
  rw [z] at m
  cases m
theorem eqv_nil {xs : List PyData} (h : xs ≠ []) : PyData.eqv (.list xs) (.list []) = false := by
  cases xs with
  | nil => exact absurd rfl h
  | cons a r => simp [PyData.eqv, PyData.eqvAll]
theorem q_nil_in {ds : List (List PyData)} {K : Re → Prop} (hd : SeqAt.shaped (.list (ds.map .list)) = true) (h : ∀ x ∈ ds, x ≠ []) (k : K (.fz (.bool false))) : OpQ .in_ (.list []) (.list (ds.map .list)) K := by
  refine ⟨.fz (.bool false), ?_, k⟩
  show (inP (.list []) (.list (ds.map .list))).map _ = _
  unfold inP
  have e : (ds.map PyData.list).any (fun z => PyData.eqv z (.list [])) = false := by
    rw [List.any_eq_false]
    intro z hz
    obtain ⟨x, hx, rfl⟩ := List.mem_map.mp hz
    rw [eqv_nil (h x hx)]; exact Bool.false_ne_true
  rw [if_pos ⟨by decide +kernel, hd⟩]
  dsimp only
  rw [e]; rfl
theorem ix0 {α : Type} (a : α) (l : List α) : ixN (a :: l).length 0 = some 0 := by
  unfold ixN
  rw [if_pos (by omega), if_pos (by rw [List.length_cons]; omega)]; rfl
def orgL (rows : List (List Int)) (made : List Int) (c : Nat) : List PyData := (orgI rows c (nth made c)).map natD
theorem orgD_eq {rows : List (List Int)} {made : List Int} {ns : List Nat} : ns.map (orgD rows made) = (ns.map (orgL rows made)).map .list := by rw [List.map_map]; rfl
end HJ

set_option maxRecDepth 100000
set_option maxHeartbeats 1000000
namespace HJ
open PySem L2 HI SrtO
-- eng
local macro_rules | `(tactic| fail "s") => `(tactic| first
  | refine ex_cons ?_ | refine ex_nx ?_ | refine ex_rt ?_ | refine ex_bk ?_ | refine ex_ct ?_ | refine ex_nil ?_
  | refine ew_fz rfl ?_ | refine ew_own rfl ?_ | refine ew_tr rfl ?_ | refine ew_bor rfl ?_ | refine ew_rol rfl ?_ | refine ew_cst rfl ?_ | refine ew_bin ?_ | refine ew_idx ?_ | refine ew_nil ?_ | refine ew_cons ?_ | refine ew_call ?_ | refine ew_bcall ?_
  | refine ew_not ?_ | refine ew_neg ?_ | refine ew_and ?_ | refine ew_or ?_ | refine ew_chain ?_ | refine ew_ife ?_ | refine ew_lst ?_ | refine ew_tup ?_ | refine ew_slc ?_ | refine ew_meth ?_ | refine ew_fld ?_ | refine ew_mk ?_
  | refine ex_asg ?_ | refine ex_asgT ?_ | refine ex_asgS ?_ | refine ex_asgF ?_ | refine ex_aug rfl ?_ | refine ex_augS ?_ | refine ex_ex ?_ | refine ex_ite ?_ | refine ex_ret ?_ | refine ex_brk ?_ | refine ex_cont ?_ | refine ex_pass ?_ | refine ex_par ?_
  | refine q_rng (by omega) ?_ | refine ei_seq ?_ | refine ei_enum ?_ | refine ei_zip ?_ | refine ei_rng1 ?_ | refine ei_rng2 ?_ | refine ei_down ?_ | refine q_down (by omega) ?_
  | refine ip_t rfl rfl rfl rfl ?_ | refine ip_tt rfl rfl rfl rfl ?_ | refine ip_d rfl ?_ | refine fp_t rfl rfl rfl ?_ | refine fp_d rfl ?_ | refine tp_d ?_ | refine tp_t ?_ | refine fs_d rfl ?_ | refine q_dat rfl ?_ | refine q_datRr ?_ | refine q_datR rfl ?_ | refine q_truB rfl ?_ | refine eq_t ?_ | refine eq_f ?_
  | refine q_add_i ?_ | refine q_sub_i ?_ | refine q_lt_i ?_ | refine q_le_i ?_ | refine q_gt_i ?_ | refine q_ge_i ?_ | refine q_eq_i ?_ | refine q_ne_i ?_ | refine q_eq_s ?_ | refine q_ne_s ?_ | refine q_pow_18 ?_ | refine q_is_n ?_ | refine q_is_b ?_ | refine q_isn_b ?_ | refine q_isn_n ?_
  | refine q_idx rfl ?_ | refine p_no ?_ | refine ep_yes ?_ | refine q_slcL ?_ | refine d_nil ?_ | refine d_cons ?_ | refine q_bfn rfl ?_
  | refine f_fz ?_ | refine f_own ?_ | refine ef_var rfl ?_ | refine f_varF rfl ?_ | refine f_tr ?_ | refine ef_varT rfl ?_ | refine f_pt rfl ?_ | refine f_nil ?_ | refine f_cons ?_
  | refine r_fz ?_ | refine r_own ?_ | refine r_rol ?_ | refine r_tr ?_ | refine r_bor ?_ | refine er_var rfl ?_ | refine rs_nil ?_ | refine rs_cons ?_
  | refine ek_0 ?_ | refine ek_s ?_ | refine ess_nil ?_ | refine ess_cons rfl ?_ | refine esv_nil ?_ | refine esv_cons rfl ?_
  | refine q_tup ?_ | refine ea_nm rfl ?_ | refine ea_tp ?_ | refine s_fzl ?_ | refine s_fzt ?_ | refine s_own ?_ | refine s_rol ?_ | refine s_var rfl ?_ | refine s_varT rfl ?_ | refine s_tr ?_
  | refine eo_nil ?_ | refine eo_fz ?_ | refine eo_own ?_ | refine eo_rol ?_ | refine eo_var rfl ?_ | refine eo_varT rfl ?_ | refine eo_tr ?_ | refine eo_pt rfl ?_
  | refine zp_lst rfl ?_ | refine zp_tup rfl ?_ | refine zp_ins rfl ?_ | refine zt_0 ?_ | refine zt_s ?_ | refine zf_0 rfl ?_ | refine zf_s rfl ?_
  | refine fq_nx ?_ | refine fq_rt ?_ | refine t_fz ?_ | refine t_own ?_ | refine et_var rfl rfl ?_ | refine et_varP rfl rfl ?_ | refine et_varT rfl rfl ?_ | refine et_varPT rfl rfl ?_ | refine t_tr rfl ?_
  | refine q_rec rfl ?_ | refine em_l ?_ | refine em_r rfl ?_ | refine q_fld rfl ?_
  | refine side_int rfl ?_ | refine side_int2 rfl rfl ?_ | refine side_bool rfl ?_ | refine side_var rfl ?_
  | refine side rfl ?_ | refine side (Nat.le_of_ble_eq_true rfl) ?_ | refine em_set0 rfl ?_ | refine em_set1 rfl ?_ | refine em_set2 rfl ?_ | refine em_clear rfl ?_ | refine m_fld rfl rfl ?_ | refine ekl_0 ?_ | refine ekl_s ?_ | refine side_some rfl ?_
  | refine q_mul_i (by omega) (by omega) ?_ | refine q_mod_i (by omega) ?_ | refine q_fdiv_i (by omega) (by omega) ?_ | refine q_op rfl ?_ | refine q_slcT rfl ?_)
-- gne
theorem law26 {T : Pr} (L : CH T) (hV : T.lookup "_law_value" = some (3, B._law_value)) (hR : T.lookup "_law_seat_rows" = some (8, B._law_seat_rows)) (hO : T.lookup "origins" = some (8, B.origins)) (hD : T.lookup "_law_due" = some (5, B._law_due_k26))
    (hL : T.lookup "law" = some (16, B.law_k26)) {k : Nat} {ns : List Int} (hl : ns.length ≤ 63) : cp T (k + 6) "law" [.rol (ns.map .int)] fun r os => r = .fz (.bool true) := by
  have big := big1000
  have hK := L.tak
  refine ecp_of hL ?_
  show WB (dC T (k + 5) noX) [] _ [some (.rol (ns.map .int)), none, none, none, none, none, none, none, none, none, none, none, none, none, none, none] (zF [] 1 _)
  repeat fail "s"
  refine eq_call rfl rfl (cp_mono (bag_cp L.bag hl) ?_)
  rintro r os ⟨d, rfl, rfl, G⟩
  refine ⟨rfl, ?_⟩
  repeat fail "s"
  refine ex_for ?_
  repeat fail "s"
  refine efor (N := 3) (fun i E => ∃ (d : PyData) (u2 u3 u4 u5 u6 u7 u8 u9 u10 u11 u14 : Option Va), E = [some (.rol (ns.map .int)), some (.own d), u2, u3, u4, u5, u6, u7, u8, u9, u10, u11, none, none, u14, none] ∧ Bag d (1000000 * i + 1)) rfl ⟨_, _, _, _, _, _, _, _, _, _, _, _, rfl, G.mono (by omega)⟩ ?_ ?_
  · rintro i E hi ⟨d, u2, u3, u4, u5, u6, u7, u8, u9, u10, u11, u14, rfl, G⟩
    refine ⟨.int (0 + (i : Int)), if_pos hi, ?_⟩
    repeat fail "s"
    refine c_take hK rfl G (by omega) (by omega) (by omega) fun wv d1 wv0 wv1 G1 => ?_
    repeat fail "s"
    obtain ⟨width, hw⟩ : ∃ width : Nat, 1 + wv = (width : Int) := ⟨(1 + wv).toNat, by omega⟩
    have w1 : 1 ≤ width := by omega
    have w6 : width ≤ 6 := by omega
    rw [hw]
    refine eq_call rfl rfl (cp_mono (council_cp (most := 7) L.cou hK G1 (by omega) (by omega) (by omega) (by omega)) ?_)
    rintro r os ⟨ws, qs, d2, rfl, rfl, hC, G2⟩
    have hq1 := hC.ql
    have hq2 := hC.l7
    have hq3 := hC.l2
    have hs := ws_sum hC.w
    have lws : (ws.map PyData.int).length = ws.length := List.length_map _
    refine ⟨rfl, ?_⟩
    unfold partsD
    repeat fail "s"
    refine ew_comp ?_
    repeat fail "s"
    refine ⟨⟨rfl, rfl⟩, ?_⟩
    refine ecomp (N := width) (fun j acc E => ∃ (vs : List Int) (d : PyData), acc = vs.map .int ∧ vs.length = j ∧ (∀ q ∈ vs, 1 ≤ q ∧ q ≤ ws.sum) ∧ E = [some (.rol (ns.map .int)), some (.own d), some (.fz (.int (0 + (i : Int)))), some (.fz (.int width)), some (.own (.list [partsD ws qs])), u5, u6, u7, u8, u9, u10, u11, none, none, u14, none] ∧ Bag d (1000000 * i + 1 + 1 + 1000 + j)) (by simp [Wd.n]) ⟨[], d2, rfl, rfl, (by intro x hx; cases hx), rfl, G2.mono (by omega)⟩ ?_ ?_
    · rintro j acc E hj ⟨vs, d3, rfl, hvl, hvs, rfl, G3⟩
      refine ⟨.int (0 + (j : Int)), _, if_pos (by omega), rfl, ?_⟩
      repeat fail "s"
      refine ⟨by rw [List.length_map]; omega, ?_⟩
      unfold partsD
      repeat fail "s"
      refine q_sum ?_
      repeat fail "s"
      refine c_take hK rfl G3 (by omega) (by omega) (by omega) fun y d4 y0 y1 G4 => ?_
      repeat fail "s"
      refine ⟨vs ++ [1 + y], d4, by rw [List.map_append]; rfl, by rw [List.length_append]; show _ + 1 = _; omega, ?_, rfl, G4.mono (by omega)⟩
      intro q hq
      rcases List.mem_append.mp hq with hq | hq
      · exact hvs q hq
      · rw [List.mem_singleton.mp hq]; omega
    rintro acc E ⟨qs2, d3, rfl, hql2, hqs2, rfl, G3⟩
    refine ⟨rfl, ?_⟩
    have hC2 : Co ws qs2 width 7 := ⟨hC.l2, hC.l7, hC.w, hql2, hqs2⟩
    unfold partsD
    repeat fail "s"
    refine em_append rfl (Nat.le_of_ble_eq_true rfl) ?_
    repeat fail "s"
    refine ew_comp ?_
    repeat fail "s"
    refine ⟨⟨rfl, rfl⟩, ?_⟩
    refine ecomp (N := 2) (fun j acc E => ∃ (ls : List (List (List Int))) (d : PyData), acc = ls.map rowsD ∧ ls.length = j ∧ (∀ rows ∈ ls, rows.length = ws.length ∧ ∀ r ∈ rows, FarR width r) ∧ E = [some (.rol (ns.map .int)), some (.own d), some (.fz (.int (0 + (i : Int)))), some (.fz (.int width)), some (.own (.list [partsD ws qs, partsD ws qs2])), u5, u6, u7, u8, u9, u10, u11, none, none, u14, none] ∧ Bag d (1000000 * i + 2000 + 100000 * j)) rfl ⟨[], d3, rfl, rfl, (by intro x hx; cases hx), rfl, G3.mono (by omega)⟩ ?_ ?_
    · rintro j acc E hj ⟨ls, d4, rfl, hll, hls, rfl, G4⟩
      refine ⟨.int (0 + (j : Int)), _, if_pos hj, rfl, ?_⟩
      repeat fail "s"
      refine ⟨by rw [List.length_map]; omega, ?_⟩
      unfold partsD
      repeat fail "s"
      rw [lws]
      refine eq_call rfl rfl (cp_mono (seat_rows_cp hR hV hK G4 (by omega) (by omega) (by omega)) ?_)
      rintro r os ⟨rows, d5, rfl, rfl, hrl, hr, G5⟩
      refine ⟨rfl, ?_⟩
      repeat fail "s"
      refine ⟨ls ++ [rows], d5, by rw [List.map_append]; rfl, by rw [List.length_append]; show _ + 1 = _; omega, ?_, rfl, G5.mono (by omega)⟩
      intro x hx
      rcases List.mem_append.mp hx with hx | hx
      · exact hls x hx
      · rw [List.mem_singleton.mp hx]; exact ⟨hrl, hr⟩
    rintro acc E ⟨ls, d4, rfl, hll, hls, rfl, G4⟩
    refine ⟨rfl, ?_⟩
    obtain ⟨A, B, rfl⟩ : ∃ A B, ls = [A, B] := by
      match ls, hll with
      | [A, B], _ => exact ⟨A, B, rfl⟩
    obtain ⟨cs, hcs⟩ : ∃ cs : List (Kc width 7), cs = [⟨ws, qs, hC⟩, ⟨ws, qs2, hC2⟩] := ⟨_, rfl⟩
    have ecs : [partsD ws qs, partsD ws qs2] = cs.map Kc.p := by rw [hcs]; rfl
    have hcl : cs.length = 2 := by rw [hcs]; rfl
    have hcw : ∀ c ∈ cs, c.ws = ws := by
      rw [hcs]
      intro c hc
      rcases List.mem_cons.mp hc with rfl | hc
      · rfl
      · rw [List.mem_singleton.mp hc]
    clear hcs
    rw [ecs]
    repeat fail "s"
    refine ew_comp ?_
    repeat fail "s"
    refine ⟨⟨rfl, rfl⟩, ?_⟩
    refine ecomp_pure (enc := Kc.p) cs (fun _ => true) Kc.c (by simp [Wd.n, Src.n]) (by omega) (fun i => at_var rfl i) (ends_var rfl) (fun c hc => ?_) ?_
    · refine ⟨_, rfl, rfl, ?_⟩
      repeat fail "s"
      intro _
      repeat fail "s"
      refine eq_call rfl rfl (cp_mono (made_cp L.toCL L.mad c.ok (by omega) w1 w6) ?_)
      rintro r os ⟨rfl, rfl⟩
      refine ⟨rfl, ?_⟩
      repeat fail "s"
      first | rfl | exact ⟨rfl, rfl⟩
    rw [filter_true]
    repeat fail "s"
    refine ex_for ?_
    repeat fail "s"
    have hA := hls A (by simp)
    have hB := hls B (by simp)
    obtain ⟨its, hits⟩ : ∃ its : List (Nat × List (List Int)), its = [(0, A), (1, A), (0, B), (0, A)] := ⟨_, rfl⟩
    have eits : [PyData.tuple [PyData.int 0, rowsD A], PyData.tuple [PyData.int 1, rowsD A], PyData.tuple [PyData.int 0, rowsD B], PyData.tuple [PyData.int 0, rowsD A]] = its.map askD := by rw [hits]; rfl
    have hil : its.length = 4 := by rw [hits]; rfl
    have hio : ∀ a ∈ its, a.1 < 2 ∧ a.2.length = ws.length ∧ ∀ r ∈ a.2, FarR width r := by
      rw [hits]
      intro a ha
      rcases List.mem_cons.mp ha with rfl | ha
      · exact ⟨by simp, hA⟩
      rcases List.mem_cons.mp ha with rfl | ha
      · exact ⟨by simp, hA⟩
      rcases List.mem_cons.mp ha with rfl | ha
      · exact ⟨by simp, hB⟩
      rw [List.mem_singleton.mp ha]
      exact ⟨by simp, hA⟩
    clear hits
    rw [eits]
    refine efor (N := 4) (fun j E => ∃ (v7 v8 v9 v10 v11 v14 : Option Va), E = [some (.rol (ns.map .int)), some (.own d4), some (.fz (.int (0 + (i : Int)))), some (.fz (.int width)), some (.own (.list (cs.map Kc.p))), some (.own (.list ([A, B].map rowsD))), some (.own (.list (cs.map Kc.c))), v7, v8, v9, v10, v11, none, none, v14, none]) (by simp [Wd.n, Src.n, hil]) ⟨_, _, _, _, _, _, rfl⟩ ?_ ?_
    · rintro j E hj ⟨v7, v8, v9, v10, v11, v14, rfl⟩
      have hj' : j < its.length := by omega
      refine ⟨askD its[j], ?_, ?_⟩
      · show (its.map askD)[j]? = _
        rw [List.getElem?_map, List.getElem?_eq_getElem hj']; rfl
      obtain ⟨ha, hrl, hr⟩ := hio its[j] (List.getElem_mem hj')
      generalize its[j] = a at *
      obtain ⟨at_, rows⟩ := a
      replace ha : at_ < 2 := ha
      replace hrl : rows.length = ws.length := hrl
      replace hr : ∀ r ∈ rows, FarR width r := hr
      obtain ⟨hix, eix⟩ := cs_mem (f := Kc.c) (xs := cs) (k := (at_ : Int)) (by omega) (by omega)
      have hcm := List.getElem_mem hix
      generalize cs[(at_ : Int).toNat] = c at *
      have ew := hcw c hcm
      have hcq : ∀ q ∈ c.qs, Cq c.ws q := fun q h => c.ok.cq h
      have cql := c.ok.ql
      have hrl' : rows.length = c.ws.length := by rw [ew]; exact hrl
      have frl : ∀ r ∈ rows, c.qs.length ≤ r.length := fun r h => by rw [(hr r h).1]; omega
      have lm : (setRow c.ws c.qs rows).length = c.qs.length := by unfold setRow; rw [List.length_map, List.length_range]
      have lcw : c.ws.length = ws.length := by rw [ew]
      have eKc : Kc.c c = cD c.ws c.qs := rfl
      have ne0 : ∀ x ∈ List.range c.qs.length, orgI rows x (nth (setRow c.ws c.qs rows) x) ≠ [] := fun x hx => org_ne hcq hrl' (List.mem_range.mp hx)
      have nr := farRs_nice hr
      unfold askD
      repeat fail "s"
      refine q_idx eix ?_
      repeat fail "s"
      rw [eKc]
      refine eq_call (T := T) rfl rfl (cp_mono (settle_cp2 L.ste L.sed L.wei L.quo L.toCI hcq hrl' (by omega) (by omega) frl false false) ?_)
      rintro r os ⟨rfl, rfl⟩
      refine ⟨rfl, ?_⟩
      repeat fail "s"
      refine eq_call (T := T) rfl rfl (cp_mono (due26_cp (rows := rows) hD (by omega) (by omega) (fun r h => by rw [lm]; exact frl r h)) ?_)
      rintro r os ⟨rfl, rfl⟩
      refine ⟨rfl, ?_⟩
      rw [lm]
      repeat fail "s"
      refine ex_for ?_
      repeat fail "s"
      refine efor (N := 2) (fun y E => ∃ (v11 v14 : Option Va), E = [some (.rol (ns.map .int)), some (.own d4), some (.fz (.int (0 + (i : Int)))), some (.fz (.int width)), some (.own (.list (cs.map Kc.p))), some (.own (.list ([A, B].map rowsD))), some (.own (.list (cs.map Kc.c))), some (.fz (.int (at_ : Int))), some (.fz (rowsD rows)), some (.own (rowsD rows)), some (.own (.list ((List.range c.qs.length).map (orgD rows (setRow c.ws c.qs rows))))), v11, none, none, v14, none]) rfl ⟨_, _, rfl⟩ ?_ ?_
      · rintro y E hy ⟨v11, v14, rfl⟩
        refine ⟨.int (0 + (y : Int)), if_pos hy, ?_⟩
        repeat fail "s"
        refine q_idx eix ?_
        repeat fail "s"
        rw [eKc]
        refine eq_call (T := T) rfl rfl (cp_mono (origins_cp L hO hcq hrl' (by omega) (by omega) frl) ?_)
        rintro r os ⟨n, rfl, rfl⟩
        refine ⟨rfl, ?_⟩
        repeat fail "s"
        generalize setRow c.ws c.qs rows = made at *
        have nice2 := orgs_nice (rows := rows) (made := made) (ns := List.range c.qs.length) (by omega) (by rw [List.length_range]; omega)
        refine eq_call (T := T) rfl rfl (cp_mono (alikeT_cp L.ali dL_own nice2 (by omega) (by omega)) ?_)
        rintro r os ⟨rfl, rfl⟩
        refine ⟨rfl, ?_⟩
        repeat fail "s"
        have ed : (Tr.lst n ((List.range c.qs.length).map fun c => .own (orgD rows made c))).d = .list (((List.range c.qs.length).map (orgL rows made)).map .list) := by
          simp only [Tr.d]
          rw [dL_own, orgD_eq]
        rw [ed]
        refine q_nil_in (by rw [← orgD_eq]; exact nice2.shaped (by omega)) (fun x hx => ?_) ?_
        · obtain ⟨s, hs, rfl⟩ := List.mem_map.mp hx
          intro z
          exact ne0 s hs (List.map_eq_nil_iff.mp z)
        repeat fail "s"
        refine q_ne_refl nr (by omega) ?_
        repeat fail "s"
        clear ed ne0 nice2
        obtain ⟨m, hm⟩ : ∃ m, c.qs.length = m + 1 := ⟨c.qs.length - 1, by omega⟩
        have rl : ((List.range m).map Nat.succ).length ≤ 6 := by rw [List.length_map, List.length_range]; omega
        have hsh : (orgL rows made 0).length ≤ 7 := by
          unfold orgL
          rw [List.length_map]
          have := orgI_len rows 0 (nth made 0)
          omega
        have e1 : (List.range (m + 1)).map (fun c => Tr.own (orgD rows made c)) = Tr.own (.list (orgL rows made 0)) :: ((List.range m).map Nat.succ).map (fun c => Tr.own (orgD rows made c)) := by rw [List.range_succ_eq_map]; rfl
        have e2 : (List.range (m + 1)).map (orgD rows made) = .list (orgL rows made 0) :: ((List.range m).map Nat.succ).map (orgD rows made) := by rw [List.range_succ_eq_map]; rfl
        rw [hm, e1, e2]
        generalize (List.range m).map Nat.succ = rs at *
        have nice3 := orgs_nice (rows := rows) (made := made) (ns := rs) (by omega) rl
        have lrs : (rs.map (orgD rows made)).length < 1000 := by rw [List.length_map]; omega
        generalize orgL rows made 0 = xs at *
        repeat (first | refine ip_t rfl rfl (ix0 _ _) rfl ?_ | fail "s")
        refine q_recP (i := 14) (j := 0) rfl rfl rfl ?_
        repeat fail "s"
        refine em_appendP (i := 14) (xs := xs) (getP_lst rfl rfl) (by omega) ?_
        repeat (first | refine g_flat (i := 14) rfl ?_ | fail "s")
        have e3 : dL (Tr.own (.list (xs ++ [.int 9])) :: rs.map fun c => Tr.own (orgD rows made c)) = .list (xs ++ [.int 9]) :: rs.map (orgD rows made) := by simp only [dL, Tr.d, dL_own]
        rw [e3, cut1 lrs, cut1 lrs]
        refine q_ne_refl nice3 (by omega) ?_
        repeat fail "s"
        refine mod_var rfl rfl ?_
        repeat fail "s"
        exact ⟨_, _, rfl⟩
      · rintro E ⟨v11, v14, rfl⟩
        refine ⟨rfl, ?_⟩
        repeat fail "s"
        exact ⟨_, _, _, _, _, _, rfl⟩
    · rintro E ⟨v7, v8, v9, v10, v11, v14, rfl⟩
      refine ⟨rfl, ?_⟩
      repeat fail "s"
      exact ⟨_, _, _, _, _, _, _, _, _, _, _, _, rfl, G4.mono (by omega)⟩
  · rintro E ⟨d, u2, u3, u4, u5, u6, u7, u8, u9, u10, u11, u14, rfl, G⟩
    refine ⟨rfl, ?_⟩
    repeat fail "s"
    rfl
end HJ
theorem K26.cl : HJ.CL K26.pr := { nm := rfl, mw := rfl, mq := rfl, fw := rfl, fq := rfl, ini := K26.l_Council_dot___init__, arw := K26.l_are_weights, arq := K26.l_are_quotas, isb := K26.l_is_between, isi := K26.l_is_integer, wei := K26.l_Council_dot_weights, quo := K26.l_Council_dot_quotas }
theorem K26.ch : HJ.CH K26.pr := { K26.cl with ste := K26.l_settle, sed := K26.l_settled, bag := K26.l__law_bag, tak := K26.l__law_take, ali := K26.l__law_alike, cou := K26.l__law_council, mad := K26.l__law_made }
theorem K26.pure (ns : List Int) (hl : ns.length ≤ 63) : HJ.cp K26.pr 60 "law" [.rol (ns.map .int)] fun r _ => r = .fz (.bool true) := HJ.law26 (T := K26.pr) K26.ch K26.l__law_value K26.l__law_seat_rows K26.l_origins K26.l__law_due K26.l_law (k := 54) hl

namespace K26
open PySem PySem.Spec PyProof.Rows L2 HI
abbrev at_ (i : Nat) : Stmt := PySem.Challenge.pw_packedseats_k26_origins_of_entries.main.body.getD i (.Pass ⟨0, 0, 0, 0⟩)
def d_settled : Df := ⟨"settled", "settled", at_ 2, ["weights", "quota", "entries", "reached", "found", "entry", "weight"], ["weights", "quota", "entries"], B.settled, none⟩
def d_settle : Df := ⟨"settle", "settle", at_ 3, ["council", "rows", "weights", "made", "column", "quota", "row"], ["council", "rows"], B.settle, none⟩
def d_origins : Df := ⟨"origins", "origins", at_ 4, ["council", "rows", "made", "found", "column", "entry", "seat", "row"], ["council", "rows"], B.origins, none⟩
def d_is_integer : Df := ⟨"is_integer", "is_integer", at_ 9, ["thing"], ["thing"], B.is_integer, none⟩
def d_is_between : Df := ⟨"is_between", "is_between", at_ 10, ["thing", "least", "greatest"], ["thing", "least", "greatest"], B.is_between, none⟩
def d_are_weights : Df := ⟨"are_weights", "are_weights", at_ 16, ["thing", "weight"], ["thing"], B.are_weights, none⟩
def d_are_quotas : Df := ⟨"are_quotas", "are_quotas", at_ 17, ["thing", "total", "quota"], ["thing", "total"], B.are_quotas, none⟩
def d_Council_dot___init__ : Df := ⟨"__init__", "Council.__init__", inClass (at_ 18) 0, ["self", "weights", "quotas"], ["self", "weights", "quotas"], B.Council_dot___init__, some 0⟩
def d_Council_dot_weights : Df := ⟨"weights", "Council.weights", inClass (at_ 18) 1, ["self"], ["self"], B.Council_dot_weights, some 0⟩
def d_Council_dot_quotas : Df := ⟨"quotas", "Council.quotas", inClass (at_ 18) 2, ["self"], ["self"], B.Council_dot_quotas, some 0⟩
def d_Council_dot_total : Df := ⟨"total", "Council.total", inClass (at_ 18) 3, ["self"], ["self"], B.Council_dot_total, some 0⟩
def d_Council_dot_width : Df := ⟨"width", "Council.width", inClass (at_ 18) 4, ["self"], ["self"], B.Council_dot_width, some 0⟩
def d_Council_dot___len__ : Df := ⟨"__len__", "Council.__len__", inClass (at_ 18) 9, ["self"], ["self"], B.Council_dot___len__, some 0⟩
def d__law_bag : Df := ⟨"_law_bag", "_law_bag", at_ 20, ["script", "cell"], ["script"], B._law_bag, none⟩
def d__law_take : Df := ⟨"_law_take", "_law_take", at_ 21, ["bag", "many", "first", "second", "cell", "value"], ["bag", "many"], B._law_take, none⟩
def d__law_alike : Df := ⟨"_law_alike", "_law_alike", at_ 22, ["found", "due"], ["found", "due"], B._law_alike, none⟩
def d__law_council : Df := ⟨"_law_council", "_law_council", at_ 23, ["bag", "width", "most", "weights", "total", "quotas", "column", "seats", "way", "some", "k"], ["bag", "width", "most"], B._law_council, none⟩
def d__law_made : Df := ⟨"_law_made", "_law_made", at_ 24, ["parts"], ["parts"], B._law_made, none⟩
def d__law_value : Df := ⟨"_law_value", "_law_value", at_ 25, ["bag", "way", "some"], ["bag"], B._law_value, none⟩
def d__law_seat_rows : Df := ⟨"_law_seat_rows", "_law_seat_rows", at_ 26, ["bag", "width", "many", "seat", "top", "found", "row", "column"], ["bag", "width", "many"], B._law_seat_rows, none⟩
def d__law_due : Df := ⟨"_law_due", "_law_due", at_ 27, ["made", "rows", "found", "column", "seat"], ["made", "rows"], B._law_due_k26, none⟩
def d_law : Df := ⟨"law", "law", at_ 28, ["script", "bag", "step", "width", "parts", "lists", "councils", "at", "rows", "kept", "due", "again", "k", "one", "found", "column"], ["script"], B.law_k26, none⟩
def ds : List Df := [d_settled, d_settle, d_origins, d_is_integer, d_is_between, d_are_weights, d_are_quotas, d_Council_dot___init__, d_Council_dot_weights, d_Council_dot_quotas, d_Council_dot_total, d_Council_dot_width, d_Council_dot___len__, d__law_bag, d__law_take, d__law_alike, d__law_council, d__law_made, d__law_value, d__law_seat_rows, d__law_due, d_law]
def bns : List Str := ["abs", "all", "bool", "enumerate", "int", "isinstance", "len", "list", "max", "range", "repr", "sorted", "sum", "tuple", "zip"]
def mt : List (Str × String × Nat) := [("weights", "weights", 0), ("quotas", "quotas", 0), ("total", "total", 0), ("width", "width", 0)]
def gls : List (Str × V) := [("LEAST_SEATS", .int (2)), ("MOST_SEATS", .int (7)), ("MOST_WEIGHT", .int (1000000)), ("MOST_COLUMNS", .int (6))]
theorem c_settled : cSs (cS (tab0 ds CT mt bns gls) 60 ⟨d_settled.N, defScope d_settled.st, fun _ => true⟩) (defBody d_settled.st) = some d_settled.b := by kernel_rfl
theorem s_settled : FnScope d_settled.N d_settled.ps (defScope d_settled.st) := ⟨rfl, rfl, rfl, by decide +kernel, rfl, by decide +kernel, by decide +kernel⟩
theorem c_settle : cSs (cS (tab0 ds CT mt bns gls) 60 ⟨d_settle.N, defScope d_settle.st, fun _ => true⟩) (defBody d_settle.st) = some d_settle.b := by kernel_rfl
theorem s_settle : FnScope d_settle.N d_settle.ps (defScope d_settle.st) := ⟨rfl, rfl, rfl, by decide +kernel, rfl, by decide +kernel, by decide +kernel⟩
theorem c_origins : cSs (cS (tab0 ds CT mt bns gls) 60 ⟨d_origins.N, defScope d_origins.st, fun _ => true⟩) (defBody d_origins.st) = some d_origins.b := by kernel_rfl
theorem s_origins : FnScope d_origins.N d_origins.ps (defScope d_origins.st) := ⟨rfl, rfl, rfl, by decide +kernel, rfl, by decide +kernel, by decide +kernel⟩
theorem c_is_integer : cSs (cS (tab0 ds CT mt bns gls) 60 ⟨d_is_integer.N, defScope d_is_integer.st, fun _ => true⟩) (defBody d_is_integer.st) = some d_is_integer.b := by kernel_rfl
theorem s_is_integer : FnScope d_is_integer.N d_is_integer.ps (defScope d_is_integer.st) := ⟨rfl, rfl, rfl, by decide +kernel, rfl, by decide +kernel, by decide +kernel⟩
theorem c_is_between : cSs (cS (tab0 ds CT mt bns gls) 60 ⟨d_is_between.N, defScope d_is_between.st, fun _ => true⟩) (defBody d_is_between.st) = some d_is_between.b := by kernel_rfl
theorem s_is_between : FnScope d_is_between.N d_is_between.ps (defScope d_is_between.st) := ⟨rfl, rfl, rfl, by decide +kernel, rfl, by decide +kernel, by decide +kernel⟩
theorem c_are_weights : cSs (cS (tab0 ds CT mt bns gls) 60 ⟨d_are_weights.N, defScope d_are_weights.st, fun _ => true⟩) (defBody d_are_weights.st) = some d_are_weights.b := by kernel_rfl
theorem s_are_weights : FnScope d_are_weights.N d_are_weights.ps (defScope d_are_weights.st) := ⟨rfl, rfl, rfl, by decide +kernel, rfl, by decide +kernel, by decide +kernel⟩
theorem c_are_quotas : cSs (cS (tab0 ds CT mt bns gls) 60 ⟨d_are_quotas.N, defScope d_are_quotas.st, fun _ => true⟩) (defBody d_are_quotas.st) = some d_are_quotas.b := by kernel_rfl
theorem s_are_quotas : FnScope d_are_quotas.N d_are_quotas.ps (defScope d_are_quotas.st) := ⟨rfl, rfl, rfl, by decide +kernel, rfl, by decide +kernel, by decide +kernel⟩
theorem c_Council_dot___init__ : cSs (cS (tab0 ds CT mt bns gls) 60 ⟨d_Council_dot___init__.N, defScope d_Council_dot___init__.st, fun _ => true⟩) (defBody d_Council_dot___init__.st) = some d_Council_dot___init__.b := by kernel_rfl
theorem s_Council_dot___init__ : FnScope d_Council_dot___init__.N d_Council_dot___init__.ps (defScope d_Council_dot___init__.st) := ⟨rfl, rfl, rfl, by decide +kernel, rfl, by decide +kernel, by decide +kernel⟩
theorem c_Council_dot_weights : cSs (cS (tab0 ds CT mt bns gls) 60 ⟨d_Council_dot_weights.N, defScope d_Council_dot_weights.st, fun _ => true⟩) (defBody d_Council_dot_weights.st) = some d_Council_dot_weights.b := by kernel_rfl
theorem s_Council_dot_weights : FnScope d_Council_dot_weights.N d_Council_dot_weights.ps (defScope d_Council_dot_weights.st) := ⟨rfl, rfl, rfl, by decide +kernel, rfl, by decide +kernel, by decide +kernel⟩
theorem c_Council_dot_quotas : cSs (cS (tab0 ds CT mt bns gls) 60 ⟨d_Council_dot_quotas.N, defScope d_Council_dot_quotas.st, fun _ => true⟩) (defBody d_Council_dot_quotas.st) = some d_Council_dot_quotas.b := by kernel_rfl
theorem s_Council_dot_quotas : FnScope d_Council_dot_quotas.N d_Council_dot_quotas.ps (defScope d_Council_dot_quotas.st) := ⟨rfl, rfl, rfl, by decide +kernel, rfl, by decide +kernel, by decide +kernel⟩
theorem c_Council_dot_total : cSs (cS (tab0 ds CT mt bns gls) 60 ⟨d_Council_dot_total.N, defScope d_Council_dot_total.st, fun _ => true⟩) (defBody d_Council_dot_total.st) = some d_Council_dot_total.b := by kernel_rfl
theorem s_Council_dot_total : FnScope d_Council_dot_total.N d_Council_dot_total.ps (defScope d_Council_dot_total.st) := ⟨rfl, rfl, rfl, by decide +kernel, rfl, by decide +kernel, by decide +kernel⟩
theorem c_Council_dot_width : cSs (cS (tab0 ds CT mt bns gls) 60 ⟨d_Council_dot_width.N, defScope d_Council_dot_width.st, fun _ => true⟩) (defBody d_Council_dot_width.st) = some d_Council_dot_width.b := by kernel_rfl
theorem s_Council_dot_width : FnScope d_Council_dot_width.N d_Council_dot_width.ps (defScope d_Council_dot_width.st) := ⟨rfl, rfl, rfl, by decide +kernel, rfl, by decide +kernel, by decide +kernel⟩
theorem c_Council_dot___len__ : cSs (cS (tab0 ds CT mt bns gls) 60 ⟨d_Council_dot___len__.N, defScope d_Council_dot___len__.st, fun _ => true⟩) (defBody d_Council_dot___len__.st) = some d_Council_dot___len__.b := by kernel_rfl
theorem s_Council_dot___len__ : FnScope d_Council_dot___len__.N d_Council_dot___len__.ps (defScope d_Council_dot___len__.st) := ⟨rfl, rfl, rfl, by decide +kernel, rfl, by decide +kernel, by decide +kernel⟩
theorem c__law_bag : cSs (cS (tab0 ds CT mt bns gls) 60 ⟨d__law_bag.N, defScope d__law_bag.st, fun _ => true⟩) (defBody d__law_bag.st) = some d__law_bag.b := by kernel_rfl
theorem s__law_bag : FnScope d__law_bag.N d__law_bag.ps (defScope d__law_bag.st) := ⟨rfl, rfl, rfl, by decide +kernel, rfl, by decide +kernel, by decide +kernel⟩
theorem c__law_take : cSs (cS (tab0 ds CT mt bns gls) 60 ⟨d__law_take.N, defScope d__law_take.st, fun _ => true⟩) (defBody d__law_take.st) = some d__law_take.b := by kernel_rfl
theorem s__law_take : FnScope d__law_take.N d__law_take.ps (defScope d__law_take.st) := ⟨rfl, rfl, rfl, by decide +kernel, rfl, by decide +kernel, by decide +kernel⟩
theorem c__law_alike : cSs (cS (tab0 ds CT mt bns gls) 60 ⟨d__law_alike.N, defScope d__law_alike.st, fun _ => true⟩) (defBody d__law_alike.st) = some d__law_alike.b := by kernel_rfl
theorem s__law_alike : FnScope d__law_alike.N d__law_alike.ps (defScope d__law_alike.st) := ⟨rfl, rfl, rfl, by decide +kernel, rfl, by decide +kernel, by decide +kernel⟩
theorem c__law_council : cSs (cS (tab0 ds CT mt bns gls) 60 ⟨d__law_council.N, defScope d__law_council.st, fun _ => true⟩) (defBody d__law_council.st) = some d__law_council.b := by kernel_rfl
theorem s__law_council : FnScope d__law_council.N d__law_council.ps (defScope d__law_council.st) := ⟨rfl, rfl, rfl, by decide +kernel, rfl, by decide +kernel, by decide +kernel⟩
theorem c__law_made : cSs (cS (tab0 ds CT mt bns gls) 60 ⟨d__law_made.N, defScope d__law_made.st, fun _ => true⟩) (defBody d__law_made.st) = some d__law_made.b := by kernel_rfl
theorem s__law_made : FnScope d__law_made.N d__law_made.ps (defScope d__law_made.st) := ⟨rfl, rfl, rfl, by decide +kernel, rfl, by decide +kernel, by decide +kernel⟩
theorem c__law_value : cSs (cS (tab0 ds CT mt bns gls) 60 ⟨d__law_value.N, defScope d__law_value.st, fun _ => true⟩) (defBody d__law_value.st) = some d__law_value.b := by kernel_rfl
theorem s__law_value : FnScope d__law_value.N d__law_value.ps (defScope d__law_value.st) := ⟨rfl, rfl, rfl, by decide +kernel, rfl, by decide +kernel, by decide +kernel⟩
theorem c__law_seat_rows : cSs (cS (tab0 ds CT mt bns gls) 60 ⟨d__law_seat_rows.N, defScope d__law_seat_rows.st, fun _ => true⟩) (defBody d__law_seat_rows.st) = some d__law_seat_rows.b := by kernel_rfl
theorem s__law_seat_rows : FnScope d__law_seat_rows.N d__law_seat_rows.ps (defScope d__law_seat_rows.st) := ⟨rfl, rfl, rfl, by decide +kernel, rfl, by decide +kernel, by decide +kernel⟩
theorem c__law_due : cSs (cS (tab0 ds CT mt bns gls) 60 ⟨d__law_due.N, defScope d__law_due.st, fun _ => true⟩) (defBody d__law_due.st) = some d__law_due.b := by kernel_rfl
theorem s__law_due : FnScope d__law_due.N d__law_due.ps (defScope d__law_due.st) := ⟨rfl, rfl, rfl, by decide +kernel, rfl, by decide +kernel, by decide +kernel⟩
theorem c_law : cSs (cS (tab0 ds CT mt bns gls) 60 ⟨d_law.N, defScope d_law.st, fun _ => true⟩) (defBody d_law.st) = some d_law.b := by kernel_rfl
theorem s_law : FnScope d_law.N d_law.ps (defScope d_law.st) := ⟨rfl, rfl, rfl, by decide +kernel, rfl, by decide +kernel, by decide +kernel⟩
theorem tab_eq : tabOf ds = tab := by kernel_rfl
theorem ck_ok : clsChk ds mt 0 CT = true := by decide +kernel
theorem mt_ok : mtChk mt = true := by decide +kernel
theorem plc_ini {K : PySem.W.Frag} {mg : Str → Option Value} {G : Gd} {d : Df} {f : Addr} {c : Nat} (ho : d.own = some c) (hx : d.x = "__init__") (h : Mk K (G.cls c) f) : Plc K mg G d f := by unfold Plc; rw [ho]; dsimp only; rw [if_pos hx]; exact h
theorem plc_meth {K : PySem.W.Frag} {mg : Str → Option Value} {G : Gd} {d : Df} {f : Addr} {c : Nat} (ho : d.own = some c) (hx : ¬ d.x = "__init__") (h : Meth K (G.cls c) d.x f) : Plc K mg G d f := by unfold Plc; rw [ho]; dsimp only; rw [if_neg hx]; exact h
theorem fns {l : PySem.W.OpenLaw} {w : World} {K : PySem.W.Frag} {h : Heap} {mg : Str → Option Value} {fa : Addr} (X : K.In h) (Gm : h.Ns mainGlobals mg) (hfa : mg "law" = some (.ref fa))
    {f0 : Addr} {od0 an0 : Option Addr} {sl0 : Array (Option Value)} {oc0 kV0 dc0 pm0 cd0 ct0 : Value}
    {f1 : Addr} {od1 an1 : Option Addr} {sl1 : Array (Option Value)} {oc1 kV1 dc1 pm1 cd1 ct1 : Value}
    {f2 : Addr} {od2 an2 : Option Addr} {sl2 : Array (Option Value)} {oc2 kV2 dc2 pm2 cd2 ct2 : Value}
    {f3 : Addr} {od3 an3 : Option Addr} {sl3 : Array (Option Value)} {oc3 kV3 dc3 pm3 cd3 ct3 : Value}
    {f4 : Addr} {od4 an4 : Option Addr} {sl4 : Array (Option Value)} {oc4 kV4 dc4 pm4 cd4 ct4 : Value}
    {f5 : Addr} {od5 an5 : Option Addr} {sl5 : Array (Option Value)} {oc5 kV5 dc5 pm5 cd5 ct5 : Value}
    {f6 : Addr} {od6 an6 : Option Addr} {sl6 : Array (Option Value)} {oc6 kV6 dc6 pm6 cd6 ct6 : Value}
    {f7 : Addr} {od7 an7 : Option Addr} {sl7 : Array (Option Value)} {oc7 kV7 dc7 pm7 cd7 ct7 : Value}
    {f8 : Addr} {od8 an8 : Option Addr} {sl8 : Array (Option Value)} {oc8 kV8 dc8 pm8 cd8 ct8 : Value}
    {f9 : Addr} {od9 an9 : Option Addr} {sl9 : Array (Option Value)} {oc9 kV9 dc9 pm9 cd9 ct9 : Value}
    {f10 : Addr} {od10 an10 : Option Addr} {sl10 : Array (Option Value)} {oc10 kV10 dc10 pm10 cd10 ct10 : Value}
    {f11 : Addr} {od11 an11 : Option Addr} {sl11 : Array (Option Value)} {oc11 kV11 dc11 pm11 cd11 ct11 : Value}
    {f12 : Addr} {od12 an12 : Option Addr} {sl12 : Array (Option Value)} {oc12 kV12 dc12 pm12 cd12 ct12 : Value}
    {f13 : Addr} {od13 an13 : Option Addr} {sl13 : Array (Option Value)} {oc13 kV13 dc13 pm13 cd13 ct13 : Value}
    {f14 : Addr} {od14 an14 : Option Addr} {sl14 : Array (Option Value)} {oc14 kV14 dc14 pm14 cd14 ct14 : Value}
    {f15 : Addr} {od15 an15 : Option Addr} {sl15 : Array (Option Value)} {oc15 kV15 dc15 pm15 cd15 ct15 : Value}
    {f16 : Addr} {od16 an16 : Option Addr} {sl16 : Array (Option Value)} {oc16 kV16 dc16 pm16 cd16 ct16 : Value}
    {f17 : Addr} {od17 an17 : Option Addr} {sl17 : Array (Option Value)} {oc17 kV17 dc17 pm17 cd17 ct17 : Value}
    {f18 : Addr} {od18 an18 : Option Addr} {sl18 : Array (Option Value)} {oc18 kV18 dc18 pm18 cd18 ct18 : Value}
    {f19 : Addr} {od19 an19 : Option Addr} {sl19 : Array (Option Value)} {oc19 kV19 dc19 pm19 cd19 ct19 : Value}
    {f20 : Addr} {od20 an20 : Option Addr} {sl20 : Array (Option Value)} {oc20 kV20 dc20 pm20 cd20 ct20 : Value}
    {f21 : Addr} {od21 an21 : Option Addr} {sl21 : Array (Option Value)} {oc21 kV21 dc21 pm21 cd21 ct21 : Value}
    {C0 : Addr}
    (a0 : PySem.W.nsIn K mainGlobals "settled" = some (some (.ref f0))) (l0 : K.lookup f0 = some ⟨oc0, od0, .func (PySem.W.fnOf "settled" "settled" (defArgs d_settled.st) (defBody d_settled.st) (defScope d_settled.st) .none kV0 dc0 pm0 an0 cd0 ct0), sl0⟩) (c0 : PySem.W.codeIn K cd0 "settled" = true) (k0 : PySem.W.keepIn K (.ref f0) = true)
    (a1 : PySem.W.nsIn K mainGlobals "settle" = some (some (.ref f1))) (l1 : K.lookup f1 = some ⟨oc1, od1, .func (PySem.W.fnOf "settle" "settle" (defArgs d_settle.st) (defBody d_settle.st) (defScope d_settle.st) .none kV1 dc1 pm1 an1 cd1 ct1), sl1⟩) (c1 : PySem.W.codeIn K cd1 "settle" = true) (k1 : PySem.W.keepIn K (.ref f1) = true)
    (a2 : PySem.W.nsIn K mainGlobals "origins" = some (some (.ref f2))) (l2 : K.lookup f2 = some ⟨oc2, od2, .func (PySem.W.fnOf "origins" "origins" (defArgs d_origins.st) (defBody d_origins.st) (defScope d_origins.st) .none kV2 dc2 pm2 an2 cd2 ct2), sl2⟩) (c2 : PySem.W.codeIn K cd2 "origins" = true) (k2 : PySem.W.keepIn K (.ref f2) = true)
    (a3 : PySem.W.nsIn K mainGlobals "is_integer" = some (some (.ref f3))) (l3 : K.lookup f3 = some ⟨oc3, od3, .func (PySem.W.fnOf "is_integer" "is_integer" (defArgs d_is_integer.st) (defBody d_is_integer.st) (defScope d_is_integer.st) .none kV3 dc3 pm3 an3 cd3 ct3), sl3⟩) (c3 : PySem.W.codeIn K cd3 "is_integer" = true) (k3 : PySem.W.keepIn K (.ref f3) = true)
    (a4 : PySem.W.nsIn K mainGlobals "is_between" = some (some (.ref f4))) (l4 : K.lookup f4 = some ⟨oc4, od4, .func (PySem.W.fnOf "is_between" "is_between" (defArgs d_is_between.st) (defBody d_is_between.st) (defScope d_is_between.st) .none kV4 dc4 pm4 an4 cd4 ct4), sl4⟩) (c4 : PySem.W.codeIn K cd4 "is_between" = true) (k4 : PySem.W.keepIn K (.ref f4) = true)
    (a5 : PySem.W.nsIn K mainGlobals "are_weights" = some (some (.ref f5))) (l5 : K.lookup f5 = some ⟨oc5, od5, .func (PySem.W.fnOf "are_weights" "are_weights" (defArgs d_are_weights.st) (defBody d_are_weights.st) (defScope d_are_weights.st) .none kV5 dc5 pm5 an5 cd5 ct5), sl5⟩) (c5 : PySem.W.codeIn K cd5 "are_weights" = true) (k5 : PySem.W.keepIn K (.ref f5) = true)
    (a6 : PySem.W.nsIn K mainGlobals "are_quotas" = some (some (.ref f6))) (l6 : K.lookup f6 = some ⟨oc6, od6, .func (PySem.W.fnOf "are_quotas" "are_quotas" (defArgs d_are_quotas.st) (defBody d_are_quotas.st) (defScope d_are_quotas.st) .none kV6 dc6 pm6 an6 cd6 ct6), sl6⟩) (c6 : PySem.W.codeIn K cd6 "are_quotas" = true) (k6 : PySem.W.keepIn K (.ref f6) = true)
    (a7 : PySem.W.findIn K (.ref C0) "__init__" = some (some (.ref f7))) (i7 : PySem.W.isFn K (.ref f7) = true) (l7 : K.lookup f7 = some ⟨oc7, od7, .func (PySem.W.fnOf "__init__" "Council.__init__" (defArgs d_Council_dot___init__.st) (defBody d_Council_dot___init__.st) (defScope d_Council_dot___init__.st) .none kV7 dc7 pm7 an7 cd7 ct7), sl7⟩) (c7 : PySem.W.codeIn K cd7 "Council.__init__" = true) (k7 : PySem.W.keepIn K (.ref f7) = true)
    (a8 : PySem.W.findIn K (.ref C0) "weights" = some (some (.ref f8))) (i8 : PySem.W.isFn K (.ref f8) = true) (l8 : K.lookup f8 = some ⟨oc8, od8, .func (PySem.W.fnOf "weights" "Council.weights" (defArgs d_Council_dot_weights.st) (defBody d_Council_dot_weights.st) (defScope d_Council_dot_weights.st) .none kV8 dc8 pm8 an8 cd8 ct8), sl8⟩) (c8 : PySem.W.codeIn K cd8 "Council.weights" = true) (k8 : PySem.W.keepIn K (.ref f8) = true)
    (a9 : PySem.W.findIn K (.ref C0) "quotas" = some (some (.ref f9))) (i9 : PySem.W.isFn K (.ref f9) = true) (l9 : K.lookup f9 = some ⟨oc9, od9, .func (PySem.W.fnOf "quotas" "Council.quotas" (defArgs d_Council_dot_quotas.st) (defBody d_Council_dot_quotas.st) (defScope d_Council_dot_quotas.st) .none kV9 dc9 pm9 an9 cd9 ct9), sl9⟩) (c9 : PySem.W.codeIn K cd9 "Council.quotas" = true) (k9 : PySem.W.keepIn K (.ref f9) = true)
    (a10 : PySem.W.findIn K (.ref C0) "total" = some (some (.ref f10))) (i10 : PySem.W.isFn K (.ref f10) = true) (l10 : K.lookup f10 = some ⟨oc10, od10, .func (PySem.W.fnOf "total" "Council.total" (defArgs d_Council_dot_total.st) (defBody d_Council_dot_total.st) (defScope d_Council_dot_total.st) .none kV10 dc10 pm10 an10 cd10 ct10), sl10⟩) (c10 : PySem.W.codeIn K cd10 "Council.total" = true) (k10 : PySem.W.keepIn K (.ref f10) = true)
    (a11 : PySem.W.findIn K (.ref C0) "width" = some (some (.ref f11))) (i11 : PySem.W.isFn K (.ref f11) = true) (l11 : K.lookup f11 = some ⟨oc11, od11, .func (PySem.W.fnOf "width" "Council.width" (defArgs d_Council_dot_width.st) (defBody d_Council_dot_width.st) (defScope d_Council_dot_width.st) .none kV11 dc11 pm11 an11 cd11 ct11), sl11⟩) (c11 : PySem.W.codeIn K cd11 "Council.width" = true) (k11 : PySem.W.keepIn K (.ref f11) = true)
    (a12 : PySem.W.findIn K (.ref C0) "__len__" = some (some (.ref f12))) (i12 : PySem.W.isFn K (.ref f12) = true) (l12 : K.lookup f12 = some ⟨oc12, od12, .func (PySem.W.fnOf "__len__" "Council.__len__" (defArgs d_Council_dot___len__.st) (defBody d_Council_dot___len__.st) (defScope d_Council_dot___len__.st) .none kV12 dc12 pm12 an12 cd12 ct12), sl12⟩) (c12 : PySem.W.codeIn K cd12 "Council.__len__" = true) (k12 : PySem.W.keepIn K (.ref f12) = true)
    (a13 : PySem.W.nsIn K mainGlobals "_law_bag" = some (some (.ref f13))) (l13 : K.lookup f13 = some ⟨oc13, od13, .func (PySem.W.fnOf "_law_bag" "_law_bag" (defArgs d__law_bag.st) (defBody d__law_bag.st) (defScope d__law_bag.st) .none kV13 dc13 pm13 an13 cd13 ct13), sl13⟩) (c13 : PySem.W.codeIn K cd13 "_law_bag" = true) (k13 : PySem.W.keepIn K (.ref f13) = true)
    (a14 : PySem.W.nsIn K mainGlobals "_law_take" = some (some (.ref f14))) (l14 : K.lookup f14 = some ⟨oc14, od14, .func (PySem.W.fnOf "_law_take" "_law_take" (defArgs d__law_take.st) (defBody d__law_take.st) (defScope d__law_take.st) .none kV14 dc14 pm14 an14 cd14 ct14), sl14⟩) (c14 : PySem.W.codeIn K cd14 "_law_take" = true) (k14 : PySem.W.keepIn K (.ref f14) = true)
    (a15 : PySem.W.nsIn K mainGlobals "_law_alike" = some (some (.ref f15))) (l15 : K.lookup f15 = some ⟨oc15, od15, .func (PySem.W.fnOf "_law_alike" "_law_alike" (defArgs d__law_alike.st) (defBody d__law_alike.st) (defScope d__law_alike.st) .none kV15 dc15 pm15 an15 cd15 ct15), sl15⟩) (c15 : PySem.W.codeIn K cd15 "_law_alike" = true) (k15 : PySem.W.keepIn K (.ref f15) = true)
    (a16 : PySem.W.nsIn K mainGlobals "_law_council" = some (some (.ref f16))) (l16 : K.lookup f16 = some ⟨oc16, od16, .func (PySem.W.fnOf "_law_council" "_law_council" (defArgs d__law_council.st) (defBody d__law_council.st) (defScope d__law_council.st) .none kV16 dc16 pm16 an16 cd16 ct16), sl16⟩) (c16 : PySem.W.codeIn K cd16 "_law_council" = true) (k16 : PySem.W.keepIn K (.ref f16) = true)
    (a17 : PySem.W.nsIn K mainGlobals "_law_made" = some (some (.ref f17))) (l17 : K.lookup f17 = some ⟨oc17, od17, .func (PySem.W.fnOf "_law_made" "_law_made" (defArgs d__law_made.st) (defBody d__law_made.st) (defScope d__law_made.st) .none kV17 dc17 pm17 an17 cd17 ct17), sl17⟩) (c17 : PySem.W.codeIn K cd17 "_law_made" = true) (k17 : PySem.W.keepIn K (.ref f17) = true)
    (a18 : PySem.W.nsIn K mainGlobals "_law_value" = some (some (.ref f18))) (l18 : K.lookup f18 = some ⟨oc18, od18, .func (PySem.W.fnOf "_law_value" "_law_value" (defArgs d__law_value.st) (defBody d__law_value.st) (defScope d__law_value.st) .none kV18 dc18 pm18 an18 cd18 ct18), sl18⟩) (c18 : PySem.W.codeIn K cd18 "_law_value" = true) (k18 : PySem.W.keepIn K (.ref f18) = true)
    (a19 : PySem.W.nsIn K mainGlobals "_law_seat_rows" = some (some (.ref f19))) (l19 : K.lookup f19 = some ⟨oc19, od19, .func (PySem.W.fnOf "_law_seat_rows" "_law_seat_rows" (defArgs d__law_seat_rows.st) (defBody d__law_seat_rows.st) (defScope d__law_seat_rows.st) .none kV19 dc19 pm19 an19 cd19 ct19), sl19⟩) (c19 : PySem.W.codeIn K cd19 "_law_seat_rows" = true) (k19 : PySem.W.keepIn K (.ref f19) = true)
    (a20 : PySem.W.nsIn K mainGlobals "_law_due" = some (some (.ref f20))) (l20 : K.lookup f20 = some ⟨oc20, od20, .func (PySem.W.fnOf "_law_due" "_law_due" (defArgs d__law_due.st) (defBody d__law_due.st) (defScope d__law_due.st) .none kV20 dc20 pm20 an20 cd20 ct20), sl20⟩) (c20 : PySem.W.codeIn K cd20 "_law_due" = true) (k20 : PySem.W.keepIn K (.ref f20) = true)
    (a21 : PySem.W.nsIn K mainGlobals "law" = some (some (.ref f21))) (l21 : K.lookup f21 = some ⟨oc21, od21, .func (PySem.W.fnOf "law" "law" (defArgs d_law.st) (defBody d_law.st) (defScope d_law.st) .none kV21 dc21 pm21 an21 cd21 ct21), sl21⟩) (c21 : PySem.W.codeIn K cd21 "law" = true) (k21 : PySem.W.keepIn K (.ref f21) = true)
    (aC0 : PySem.W.nsIn K mainGlobals "Council" = some (some (.ref C0))) (pg0 : PySem.W.plainGet K C0 Str.empty = true) (hd0 : PySem.W.hasDictIn K C0 = true) (po0 : PySem.W.plainOver K C0 = true) (sa0 : PySem.W.findIn K (.ref C0) "__setattr__" = some (some (.builtin "object.__setattr__"))) (mk0 : PySem.W.makesIn K C0 = true) (kc0 : PySem.W.keepIn K (.ref C0) = true) (n0_0 : PySem.W.findIn K (.ref C0) "seat_weights" = some none) (n0_1 : PySem.W.findIn K (.ref C0) "column_quotas" = some none)
    (z0 : PySem.W.nsIn K mainGlobals "abs" = some none)
    (z1 : PySem.W.nsIn K mainGlobals "all" = some none)
    (z2 : PySem.W.nsIn K mainGlobals "bool" = some none)
    (z3 : PySem.W.nsIn K mainGlobals "enumerate" = some none)
    (z4 : PySem.W.nsIn K mainGlobals "int" = some none)
    (z5 : PySem.W.nsIn K mainGlobals "isinstance" = some none)
    (z6 : PySem.W.nsIn K mainGlobals "len" = some none)
    (z7 : PySem.W.nsIn K mainGlobals "list" = some none)
    (z8 : PySem.W.nsIn K mainGlobals "max" = some none)
    (z9 : PySem.W.nsIn K mainGlobals "range" = some none)
    (z10 : PySem.W.nsIn K mainGlobals "repr" = some none)
    (z11 : PySem.W.nsIn K mainGlobals "sorted" = some none)
    (z12 : PySem.W.nsIn K mainGlobals "sum" = some none)
    (z13 : PySem.W.nsIn K mainGlobals "tuple" = some none)
    (z14 : PySem.W.nsIn K mainGlobals "zip" = some none)
    {tk0 : Tok}
    {tk1 : Tok}
    {tk2 : Tok}
    {tk3 : Tok}
    (y0 : PySem.W.nsIn K mainGlobals "LEAST_SEATS" = some (some (Value.int (2) tk0)))
    (y1 : PySem.W.nsIn K mainGlobals "MOST_SEATS" = some (some (Value.int (7) tk1)))
    (y2 : PySem.W.nsIn K mainGlobals "MOST_WEIGHT" = some (some (Value.int (1000000) tk2)))
    (y3 : PySem.W.nsIn K mainGlobals "MOST_COLUMNS" = some (some (Value.int (6) tk3)))
    : ∃ (fd : FuncData) (G : Gd), G.K = K ∧ (∀ (s : Shared) (v : Value), BindsTo s fd ⟨[v], []⟩ [("script", v)]) ∧ ∀ base : Heap, FnG l.prog w K mg base CX0 120 fa fd ["script"] (spH G 1 (callD (tabOf ds) (cfOf CT) 60 "law")) := by
  have ef := hfa.symm.trans (PySem.W.mg_of X Gm a21)
  cases ef
  let G : Gd := ⟨K, fun c => [C0].getD c 0⟩
  have F0 : Fun K d_settled.x d_settled.q d_settled.st f0 _ := fun_mk (st := d_settled.st) l0 c0 k0
  have B0 := F0.binds (ps := d_settled.ps) fun _ _ _ _ _ _ us hl => match us, hl with | [_, _, _], _ => rfl
  have F1 : Fun K d_settle.x d_settle.q d_settle.st f1 _ := fun_mk (st := d_settle.st) l1 c1 k1
  have B1 := F1.binds (ps := d_settle.ps) fun _ _ _ _ _ _ us hl => match us, hl with | [_, _], _ => rfl
  have F2 : Fun K d_origins.x d_origins.q d_origins.st f2 _ := fun_mk (st := d_origins.st) l2 c2 k2
  have B2 := F2.binds (ps := d_origins.ps) fun _ _ _ _ _ _ us hl => match us, hl with | [_, _], _ => rfl
  have F3 : Fun K d_is_integer.x d_is_integer.q d_is_integer.st f3 _ := fun_mk (st := d_is_integer.st) l3 c3 k3
  have B3 := F3.binds (ps := d_is_integer.ps) fun _ _ _ _ _ _ us hl => match us, hl with | [_], _ => rfl
  have F4 : Fun K d_is_between.x d_is_between.q d_is_between.st f4 _ := fun_mk (st := d_is_between.st) l4 c4 k4
  have B4 := F4.binds (ps := d_is_between.ps) fun _ _ _ _ _ _ us hl => match us, hl with | [_, _, _], _ => rfl
  have F5 : Fun K d_are_weights.x d_are_weights.q d_are_weights.st f5 _ := fun_mk (st := d_are_weights.st) l5 c5 k5
  have B5 := F5.binds (ps := d_are_weights.ps) fun _ _ _ _ _ _ us hl => match us, hl with | [_], _ => rfl
  have F6 : Fun K d_are_quotas.x d_are_quotas.q d_are_quotas.st f6 _ := fun_mk (st := d_are_quotas.st) l6 c6 k6
  have B6 := F6.binds (ps := d_are_quotas.ps) fun _ _ _ _ _ _ us hl => match us, hl with | [_, _], _ => rfl
  have F7 : Fun K d_Council_dot___init__.x d_Council_dot___init__.q d_Council_dot___init__.st f7 _ := fun_mk (st := d_Council_dot___init__.st) l7 c7 k7
  have B7 := F7.binds (ps := d_Council_dot___init__.ps) fun _ _ _ _ _ _ us hl => match us, hl with | [_, _, _], _ => rfl
  have F8 : Fun K d_Council_dot_weights.x d_Council_dot_weights.q d_Council_dot_weights.st f8 _ := fun_mk (st := d_Council_dot_weights.st) l8 c8 k8
  have B8 := F8.binds (ps := d_Council_dot_weights.ps) fun _ _ _ _ _ _ us hl => match us, hl with | [_], _ => rfl
  have F9 : Fun K d_Council_dot_quotas.x d_Council_dot_quotas.q d_Council_dot_quotas.st f9 _ := fun_mk (st := d_Council_dot_quotas.st) l9 c9 k9
  have B9 := F9.binds (ps := d_Council_dot_quotas.ps) fun _ _ _ _ _ _ us hl => match us, hl with | [_], _ => rfl
  have F10 : Fun K d_Council_dot_total.x d_Council_dot_total.q d_Council_dot_total.st f10 _ := fun_mk (st := d_Council_dot_total.st) l10 c10 k10
  have B10 := F10.binds (ps := d_Council_dot_total.ps) fun _ _ _ _ _ _ us hl => match us, hl with | [_], _ => rfl
  have F11 : Fun K d_Council_dot_width.x d_Council_dot_width.q d_Council_dot_width.st f11 _ := fun_mk (st := d_Council_dot_width.st) l11 c11 k11
  have B11 := F11.binds (ps := d_Council_dot_width.ps) fun _ _ _ _ _ _ us hl => match us, hl with | [_], _ => rfl
  have F12 : Fun K d_Council_dot___len__.x d_Council_dot___len__.q d_Council_dot___len__.st f12 _ := fun_mk (st := d_Council_dot___len__.st) l12 c12 k12
  have B12 := F12.binds (ps := d_Council_dot___len__.ps) fun _ _ _ _ _ _ us hl => match us, hl with | [_], _ => rfl
  have F13 : Fun K d__law_bag.x d__law_bag.q d__law_bag.st f13 _ := fun_mk (st := d__law_bag.st) l13 c13 k13
  have B13 := F13.binds (ps := d__law_bag.ps) fun _ _ _ _ _ _ us hl => match us, hl with | [_], _ => rfl
  have F14 : Fun K d__law_take.x d__law_take.q d__law_take.st f14 _ := fun_mk (st := d__law_take.st) l14 c14 k14
  have B14 := F14.binds (ps := d__law_take.ps) fun _ _ _ _ _ _ us hl => match us, hl with | [_, _], _ => rfl
  have F15 : Fun K d__law_alike.x d__law_alike.q d__law_alike.st f15 _ := fun_mk (st := d__law_alike.st) l15 c15 k15
  have B15 := F15.binds (ps := d__law_alike.ps) fun _ _ _ _ _ _ us hl => match us, hl with | [_, _], _ => rfl
  have F16 : Fun K d__law_council.x d__law_council.q d__law_council.st f16 _ := fun_mk (st := d__law_council.st) l16 c16 k16
  have B16 := F16.binds (ps := d__law_council.ps) fun _ _ _ _ _ _ us hl => match us, hl with | [_, _, _], _ => rfl
  have F17 : Fun K d__law_made.x d__law_made.q d__law_made.st f17 _ := fun_mk (st := d__law_made.st) l17 c17 k17
  have B17 := F17.binds (ps := d__law_made.ps) fun _ _ _ _ _ _ us hl => match us, hl with | [_], _ => rfl
  have F18 : Fun K d__law_value.x d__law_value.q d__law_value.st f18 _ := fun_mk (st := d__law_value.st) l18 c18 k18
  have B18 := F18.binds (ps := d__law_value.ps) fun _ _ _ _ _ _ us hl => match us, hl with | [_], _ => rfl
  have F19 : Fun K d__law_seat_rows.x d__law_seat_rows.q d__law_seat_rows.st f19 _ := fun_mk (st := d__law_seat_rows.st) l19 c19 k19
  have B19 := F19.binds (ps := d__law_seat_rows.ps) fun _ _ _ _ _ _ us hl => match us, hl with | [_, _, _], _ => rfl
  have F20 : Fun K d__law_due.x d__law_due.q d__law_due.st f20 _ := fun_mk (st := d__law_due.st) l20 c20 k20
  have B20 := F20.binds (ps := d__law_due.ps) fun _ _ _ _ _ _ us hl => match us, hl with | [_, _], _ => rfl
  have F21 : Fun K d_law.x d_law.q d_law.st fa _ := fun_mk (st := d_law.st) l21 c21 k21
  have B21 := F21.binds (ps := d_law.ps) fun _ _ _ _ _ _ us hl => match us, hl with | [_], _ => rfl
  have ok : ∀ d ∈ ds, DfOk K mg G (tab0 ds CT mt bns gls) d := by
    intro d hd
    simp only [ds, List.mem_cons, List.not_mem_nil, or_false] at hd
    rcases hd with rfl | rfl | rfl | rfl | rfl | rfl | rfl | rfl | rfl | rfl | rfl | rfl | rfl | rfl | rfl | rfl | rfl | rfl | rfl | rfl | rfl | rfl
    · exact ⟨c_settled, s_settled, _, _, (⟨PySem.W.mg_of X Gm a0, k0⟩), F0, B0⟩
    · exact ⟨c_settle, s_settle, _, _, (⟨PySem.W.mg_of X Gm a1, k1⟩), F1, B1⟩
    · exact ⟨c_origins, s_origins, _, _, (⟨PySem.W.mg_of X Gm a2, k2⟩), F2, B2⟩
    · exact ⟨c_is_integer, s_is_integer, _, _, (⟨PySem.W.mg_of X Gm a3, k3⟩), F3, B3⟩
    · exact ⟨c_is_between, s_is_between, _, _, (⟨PySem.W.mg_of X Gm a4, k4⟩), F4, B4⟩
    · exact ⟨c_are_weights, s_are_weights, _, _, (⟨PySem.W.mg_of X Gm a5, k5⟩), F5, B5⟩
    · exact ⟨c_are_quotas, s_are_quotas, _, _, (⟨PySem.W.mg_of X Gm a6, k6⟩), F6, B6⟩
    · exact ⟨c_Council_dot___init__, s_Council_dot___init__, _, _, (plc_ini (c := 0) rfl rfl ⟨mk0, a7, i7, kc0⟩), F7, B7⟩
    · exact ⟨c_Council_dot_weights, s_Council_dot_weights, _, _, (plc_meth (c := 0) rfl (by decide +kernel) ⟨a8, i8, k8⟩), F8, B8⟩
    · exact ⟨c_Council_dot_quotas, s_Council_dot_quotas, _, _, (plc_meth (c := 0) rfl (by decide +kernel) ⟨a9, i9, k9⟩), F9, B9⟩
    · exact ⟨c_Council_dot_total, s_Council_dot_total, _, _, (plc_meth (c := 0) rfl (by decide +kernel) ⟨a10, i10, k10⟩), F10, B10⟩
    · exact ⟨c_Council_dot_width, s_Council_dot_width, _, _, (plc_meth (c := 0) rfl (by decide +kernel) ⟨a11, i11, k11⟩), F11, B11⟩
    · exact ⟨c_Council_dot___len__, s_Council_dot___len__, _, _, (plc_meth (c := 0) rfl (by decide +kernel) ⟨a12, i12, k12⟩), F12, B12⟩
    · exact ⟨c__law_bag, s__law_bag, _, _, (⟨PySem.W.mg_of X Gm a13, k13⟩), F13, B13⟩
    · exact ⟨c__law_take, s__law_take, _, _, (⟨PySem.W.mg_of X Gm a14, k14⟩), F14, B14⟩
    · exact ⟨c__law_alike, s__law_alike, _, _, (⟨PySem.W.mg_of X Gm a15, k15⟩), F15, B15⟩
    · exact ⟨c__law_council, s__law_council, _, _, (⟨PySem.W.mg_of X Gm a16, k16⟩), F16, B16⟩
    · exact ⟨c__law_made, s__law_made, _, _, (⟨PySem.W.mg_of X Gm a17, k17⟩), F17, B17⟩
    · exact ⟨c__law_value, s__law_value, _, _, (⟨PySem.W.mg_of X Gm a18, k18⟩), F18, B18⟩
    · exact ⟨c__law_seat_rows, s__law_seat_rows, _, _, (⟨PySem.W.mg_of X Gm a19, k19⟩), F19, B19⟩
    · exact ⟨c__law_due, s__law_due, _, _, (⟨PySem.W.mg_of X Gm a20, k20⟩), F20, B20⟩
    · exact ⟨c_law, s_law, _, _, (⟨hfa, k21⟩), F21, B21⟩
  have hb : ∀ x ∈ bns, mg x = none := by
    intro x hx
    simp only [bns, List.mem_cons, List.not_mem_nil, or_false] at hx
    rcases hx with rfl | rfl | rfl | rfl | rfl | rfl | rfl | rfl | rfl | rfl | rfl | rfl | rfl | rfl | rfl
    · exact PySem.W.mg_none_of X Gm z0
    · exact PySem.W.mg_none_of X Gm z1
    · exact PySem.W.mg_none_of X Gm z2
    · exact PySem.W.mg_none_of X Gm z3
    · exact PySem.W.mg_none_of X Gm z4
    · exact PySem.W.mg_none_of X Gm z5
    · exact PySem.W.mg_none_of X Gm z6
    · exact PySem.W.mg_none_of X Gm z7
    · exact PySem.W.mg_none_of X Gm z8
    · exact PySem.W.mg_none_of X Gm z9
    · exact PySem.W.mg_none_of X Gm z10
    · exact PySem.W.mg_none_of X Gm z11
    · exact PySem.W.mg_none_of X Gm z12
    · exact PySem.W.mg_none_of X Gm z13
    · exact PySem.W.mg_none_of X Gm z14
  have nd : (ds.map (·.q)).Nodup := by decide +kernel
  have cl : ClOk K mg G CT := by
    refine ⟨fun c i hi => ?_⟩
    match c, hi with
    | 0, hi => cases hi; exact ⟨⟨pg0, hd0, po0, sa0⟩, PySem.W.mg_of X Gm aC0, fun f hf => by
        simp only [List.mem_cons, List.not_mem_nil, or_false] at hf
        rcases hf with rfl | rfl
        · exact n0_0
        · exact n0_1⟩
    | c + 1, hi => simp [CT] at hi
  have hg : ∀ x v, gls.lookup x = some v → (∃ u, mg x = some u ∧ RelV v u) ∧ (∀ π, im π v = v) ∧ ∀ n, wf n v := by
    intro x v hx
    have hx := lookup_in hx
    simp only [gls, List.mem_cons, List.not_mem_nil, or_false, Prod.mk.injEq] at hx
    rcases hx with ⟨rfl, rfl⟩ | ⟨rfl, rfl⟩ | ⟨rfl, rfl⟩ | ⟨rfl, rfl⟩
    · exact ⟨⟨_, PySem.W.mg_of X Gm y0, _, rfl⟩, fun _ => rfl, fun _ => trivial⟩
    · exact ⟨⟨_, PySem.W.mg_of X Gm y1, _, rfl⟩, fun _ => rfl, fun _ => trivial⟩
    · exact ⟨⟨_, PySem.W.mg_of X Gm y2, _, rfl⟩, fun _ => rfl, fun _ => trivial⟩
    · exact ⟨⟨_, PySem.W.mg_of X Gm y3, _, rfl⟩, fun _ => rfl, fun _ => trivial⟩
  have Z : Tx0 K mg G ds CT mt bns gls := ⟨rfl, nd, ok, cl, ck_ok, mt_ok, hb, hg⟩
  have hm : d_law ∈ ds := by simp [ds]
  exact ⟨_, G, rfl, fun s v => .of_eq rfl, law_fn (d := d_law) Z 59 hm F21 rfl⟩
end K26
open PySem PySem.W PyProof.Rows
set_option maxHeartbeats 0 in
theorem PySem.Challenge.cw_packedseats_k26_origins_of_entries_holds : PySem.Challenge.rw_packedseats_k26_origins_of_entries.Holds := by
  w_on; o_law; k_head; (case hw => w_witness2)
  k_fill
  refine HI.walk_go (l := PySem.Challenge.rw_packedseats_k26_origins_of_entries) (n := 63) (k := 120) (x := "script") (F := HI.callD (HI.tabOf K26.ds) (HI.cfOf K26.CT) 60 "law") rfl (by decide) rfl ⟨rfl, by decide, by decide⟩ (fun w h Y => PySem.W.kIn_of Y) ?fn ?law
  case fn =>
    intro w mg fa h X Gm hfa
    refine' K26.fns X Gm hfa ?a0 ?l0 ?c0 ?k0 ?a1 ?l1 ?c1 ?k1 ?a2 ?l2 ?c2 ?k2 ?a3 ?l3 ?c3 ?k3 ?a4 ?l4 ?c4 ?k4 ?a5 ?l5 ?c5 ?k5 ?a6 ?l6 ?c6 ?k6 ?a7 ?i7 ?l7 ?c7 ?k7 ?a8 ?i8 ?l8 ?c8 ?k8 ?a9 ?i9 ?l9 ?c9 ?k9 ?a10 ?i10 ?l10 ?c10 ?k10 ?a11 ?i11 ?l11 ?c11 ?k11 ?a12 ?i12 ?l12 ?c12 ?k12 ?a13 ?l13 ?c13 ?k13 ?a14 ?l14 ?c14 ?k14 ?a15 ?l15 ?c15 ?k15 ?a16 ?l16 ?c16 ?k16 ?a17 ?l17 ?c17 ?k17 ?a18 ?l18 ?c18 ?k18 ?a19 ?l19 ?c19 ?k19 ?a20 ?l20 ?c20 ?k20 ?a21 ?l21 ?c21 ?k21 ?aC0 ?pg0 ?hd0 ?po0 ?sa0 ?mk0 ?kc0 ?n0_0 ?n0_1 ?z0 ?z1 ?z2 ?z3 ?z4 ?z5 ?z6 ?z7 ?z8 ?z9 ?z10 ?z11 ?z12 ?z13 ?z14 ?y0 ?y1 ?y2 ?y3
    (case aC0 => k_is); (case a0 => k_is); (case l0 => k_is); (case c0 => k_is); (case k0 => k_is); (case a1 => k_is); (case l1 => k_is); (case c1 => k_is); (case k1 => k_is); (case a2 => k_is); (case l2 => k_is); (case c2 => k_is); (case k2 => k_is); (case a3 => k_is); (case l3 => k_is); (case c3 => k_is); (case k3 => k_is); (case a4 => k_is); (case l4 => k_is); (case c4 => k_is); (case k4 => k_is); (case a5 => k_is); (case l5 => k_is); (case c5 => k_is); (case k5 => k_is); (case a6 => k_is); (case l6 => k_is); (case c6 => k_is); (case k6 => k_is); (case a7 => k_is); (case i7 => k_is); (case l7 => k_is); (case c7 => k_is); (case k7 => k_is); (case a8 => k_is); (case i8 => k_is); (case l8 => k_is); (case c8 => k_is); (case k8 => k_is); (case a9 => k_is); (case i9 => k_is); (case l9 => k_is); (case c9 => k_is); (case k9 => k_is); (case a10 => k_is); (case i10 => k_is); (case l10 => k_is); (case c10 => k_is); (case k10 => k_is); (case a11 => k_is); (case i11 => k_is); (case l11 => k_is); (case c11 => k_is); (case k11 => k_is); (case a12 => k_is); (case i12 => k_is); (case l12 => k_is); (case c12 => k_is); (case k12 => k_is); (case a13 => k_is); (case l13 => k_is); (case c13 => k_is); (case k13 => k_is); (case a14 => k_is); (case l14 => k_is); (case c14 => k_is); (case k14 => k_is); (case a15 => k_is); (case l15 => k_is); (case c15 => k_is); (case k15 => k_is); (case a16 => k_is); (case l16 => k_is); (case c16 => k_is); (case k16 => k_is); (case a17 => k_is); (case l17 => k_is); (case c17 => k_is); (case k17 => k_is); (case a18 => k_is); (case l18 => k_is); (case c18 => k_is); (case k18 => k_is); (case a19 => k_is); (case l19 => k_is); (case c19 => k_is); (case k19 => k_is); (case a20 => k_is); (case l20 => k_is); (case c20 => k_is); (case k20 => k_is); (case a21 => k_is); (case l21 => k_is); (case c21 => k_is); (case k21 => k_is); (case pg0 => k_is); (case hd0 => k_is); (case po0 => k_is); (case sa0 => k_is); (case mk0 => k_is); (case kc0 => k_is); (case n0_0 => k_is); (case n0_1 => k_is); (case z0 => k_is); (case z1 => k_is); (case z2 => k_is); (case z3 => k_is); (case z4 => k_is); (case z5 => k_is); (case z6 => k_is); (case z7 => k_is); (case z8 => k_is); (case z9 => k_is); (case z10 => k_is); (case z11 => k_is); (case z12 => k_is); (case z13 => k_is); (case z14 => k_is); (case y0 => k_is); (case y1 => k_is); (case y2 => k_is); (case y3 => k_is)
  case law =>
    intro ns hl
    rw [K26.tab_eq]
    exact HJ.law_sem (T := K26.pr) (K26.pure ns hl)
