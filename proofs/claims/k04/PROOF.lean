import PyProof.Rows.All
import Wide.All
import OpenK.AllK
import Wide.FinOn
import HandS.ForMost
import HandS.Walk
import HandS.TupLen
import HandS.Deep
import HandS.Zip
import HandS.Flow
import HandS.IsInst
import HandS.TupAny
import HandS.TupMul
import HandS.TupLe
import HandS.Style
import HandS.RaiseMore
import HandS.SortInts
import HandS.SortRule
import HandS.Conv
import KE.KStateDown
import Lean
import HandS.Ends
import HandS.More
import HandS.Words
import HandS.WordsExc
import HandS.Defaults
import HandS.Head0
import HandS.Head1
import HandS.Head2
import HandS.HeadEnd
import HandS.HeadHook1
import HandS.HeadHook2
import HandS.HeadNt
import PySem.Challenge.RW_strunglimbs_k04_whole_poses
set_option Elab.async false
set_option linter.all false
set_option maxRecDepth 100000
set_option maxHeartbeats 4000000
/-! DI0: rules that the layer lacked. -/
namespace DI
open PySem PySem.Spec PyProof.Rows L2
/-! ### a tuple times any int -/
abbrev tupO (items : Array Value) (n : Nat) (dd : Option Addr) (sl : Array (Option Value)) : Obj := { cls := .type "tuple", dict := dd, data := .seq items n, slots := sl }
theorem tuple_mulS (l : Addr) (items : Array Value) (n : Nat) (dd : Option Addr) (sl : Array (Option Value)) (x : Int) (u : Tok) (c0 : (decide (x < -(2 ^ 63)) || decide (x ≥ 2 ^ 63)) = false) (c1 : (items.isEmpty || x == 1) = true) :
    Meets (Builtin.«tuple.__mul__» ⟨[.ref l, .int x u], []⟩) (fun _ R s => s.heap.get? l = some (tupO items n dd sl) ∧ R (.ok (.ret (Value.ref l))) s) :=
  .of_wp fun prog w A R s h => by
    obtain ⟨hp, g, d, tk, os⟩ := s
    obtain ⟨hl, h⟩ := h
    have hT : Shared.TypeIs ⟨hp, g, d, tk, os⟩ (.ref l) "tuple" := ⟨_, hl, rfl⟩
    have f1 := AutoSeq1.idx_int
    wp_walk using wpAny_loadPart' hl
    repeat (first
      | (refine wpAny_ite_false (decide_eq_false (by rw [c0]; exact Bool.false_ne_true)) ?_; wp_walk using wpAny_loadPart' hl)
      | (refine wpAny_ite_true (decide_eq_true c1) ?_; wp_walk using wpAny_loadPart' hl, wpAny_typeOf hT))
    all_goals exact ⟨_, rfl, h⟩
theorem tuple_mulE (l : Addr) (items : Array Value) (n : Nat) (dd : Option Addr) (sl : Array (Option Value)) (x : Int) (u : Tok) (c0 : (decide (x < -(2 ^ 63)) || decide (x ≥ 2 ^ 63)) = false) (c1 : (items.isEmpty || x == 1) = false) (c2 : (decide (x ≤ 0) || items.isEmpty) = true) :
    Meets (Builtin.«tuple.__mul__» ⟨[.ref l, .int x u], []⟩) (fun _ R s => s.heap.get? l = some (tupO items n dd sl) ∧ R (.ok (.ret (Value.ref s.heap.objs.size))) { s with heap := s.heap.push { cls := Value.type "tuple", data := Data.seq #[] }, toks := s.toks }) :=
  .of_wp fun prog w A R s h => by
    obtain ⟨hp, g, d, tk, os⟩ := s
    obtain ⟨hl, h⟩ := h
    have f1 := AutoSeq1.idx_int
    wp_walk using wpAny_loadPart' hl
    repeat (first
      | (refine wpAny_ite_false (decide_eq_false (by rw [c0]; exact Bool.false_ne_true)) ?_; wp_walk using wpAny_loadPart' hl)
      | (refine wpAny_ite_false (decide_eq_false (by rw [c1]; exact Bool.false_ne_true)) ?_; wp_walk using wpAny_loadPart' hl)
      | (refine wpAny_ite_true (decide_eq_true c2) ?_; wp_walk using wpAny_loadPart' hl))
    all_goals exact ⟨_, rfl, h⟩
def rRepA (K : PySem.W.Frag) : R2 := fun x y H Q => ∃ l k xs, x = .ref l ∧ y = .int k ∧ SqT K H l xs ∧ -(2 ^ 63) ≤ k ∧ k < 2 ^ 63 ∧ xs.length * k.toNat ≤ sizeLine ∧
  ((xs = [] ∨ k = 1) → Q (.ref l) H) ∧ (xs ≠ [] → k ≠ 1 → ∀ p, H p = none → Q (.ref p) (upd H p (.tup (List.replicate k.toNat xs).flatten)))
section
variable {X : Cx}
theorem op_repA : OpR X (binaryOp .Mult) (rRepA X.K) := by
  intro pins s σ H x y v u Q I rx ry h
  obtain ⟨l, k, xs, rfl, rfl, hT, hk1, hk2, hz, q1, q2⟩ := h
  cases rx
  obtain ⟨t, rfl⟩ := ry
  obtain ⟨its, r, ⟨⟨cls, dd, data, sl⟩, ho, hc, n, hd⟩, hs⟩ := I.tuple hT
  simp only at hc hd
  subst hc hd
  have el : its.length = xs.length := r.length.symm
  have c0 : (decide (k < -(2 ^ 63)) || decide (k ≥ 2 ^ 63)) = false := by
    rw [decide_eq_false (Int.not_lt.mpr hk1), decide_eq_false (Int.not_le.mpr hk2)]; rfl
  have road : ∀ {R : Value → Shared → Prop}, Meets (Builtin.«tuple.__mul__» ⟨[.ref l, .int k t], []⟩) (fun _ R s => s.heap.get? l = some (tupO its.toArray n dd sl) ∧ R (.ok (.ret (Value.ref l))) s) ∧ R (.ref l) s ∨
      (Meets (Builtin.«tuple.__mul__» ⟨[.ref l, .int k t], []⟩) (fun _ R s => s.heap.get? l = some (tupO its.toArray n dd sl) ∧ R (.ok (.ret (Value.ref s.heap.objs.size))) { s with heap := s.heap.push { cls := Value.type "tuple", data := Data.seq (List.replicate k.toNat its).flatten.toArray }, toks := s.toks }) ∧
        R (.ref s.heap.objs.size) { s with heap := s.heap.push { cls := Value.type "tuple", data := Data.seq (List.replicate k.toNat its).flatten.toArray }, toks := s.toks }) →
      wpAny (model X.prog X.w) X.A (binaryOp .Mult (.ref l) (.int k t)) R X.xe s := by
    intro R h
    refine wpAny_binaryOp_repeat_ref (T := "tuple") (U := "int") (by decide) ⟨_, ho, rfl⟩ (fun s' => typeIs_int s' k t) noFill_tuple_mul F.fills_int_mul F.slot_int_rmul repeat_tuple F.slot_int_index.lookup
      (call_meets F.slot_int_rmul (typeIs_int s k t) F.entry_int_rmul (F.args_int_rmul_2 _ _) (int_rmul_tuple k t l its.toArray n dd sl) ⟨ho, rfl, ⟨_, ho, rfl⟩, ?_⟩)
    rcases h with ⟨m, h⟩ | ⟨m, h⟩
    · exact call_meets F.slot_tuple_mul ⟨_, ho, rfl⟩ F.entry_tuple_mul (F.args_tuple_mul_2 _ _) m ⟨ho, h⟩
    · exact call_meets F.slot_tuple_mul ⟨_, ho, rfl⟩ F.entry_tuple_mul (F.args_tuple_mul_2 _ _) m ⟨ho, h⟩
  have he : its.toArray.isEmpty = true ↔ xs = [] := by
    rw [← List.length_eq_zero_iff, ← el]; simp
  have hlen : (List.replicate k.toNat its).flatten.length ≤ sizeLine := by
    rw [PyProof.Rows.lm_len_rep_flat, el, Nat.mul_comm]; exact hz
  by_cases c1 : (its.toArray.isEmpty || k == 1) = true
  · refine road (.inl ⟨tuple_mulS l its.toArray n dd sl k t c0 c1, .ref l, H, I, rfl, q1 ?_⟩)
    rcases Bool.or_eq_true_iff.mp c1 with e | e
    · exact .inl (he.mp e)
    · exact .inr (eq_of_beq e)
  · have c1' : (its.toArray.isEmpty || k == 1) = false := Bool.eq_false_iff.mpr c1
    obtain ⟨e1, e2⟩ := Bool.or_eq_false_iff.mp c1'
    have hx : xs ≠ [] := fun e => by rw [he.mpr e] at e1; cases e1
    have hk : k ≠ 1 := fun e => by rw [e] at e2; cases e2
    have fin : ∀ (m : Meets (Builtin.«tuple.__mul__» ⟨[.ref l, .int k t], []⟩) (fun _ R s => s.heap.get? l = some (tupO its.toArray n dd sl) ∧ R (.ok (.ret (Value.ref s.heap.objs.size))) { s with heap := s.heap.push { cls := Value.type "tuple", data := Data.seq (List.replicate k.toNat its).flatten.toArray }, toks := s.toks })),
        wpAny (model X.prog X.w) X.A (binaryOp .Mult (.ref l) (.int k t)) (EP X pins σ Q) X.xe s := fun m => road (.inr ⟨m, .ref s.heap.objs.size, _,
          I.laid (t' := s.toks) (o := .tup (List.replicate k.toNat xs).flatten) (fun b ob q => Heap.get?_push_of_some _ q) (Nat.le_refl _) ⟨by rw [PyProof.Rows.lm_len_rep_flat, Nat.mul_comm]; exact hz, _, r.rep k.toNat, IsTup.new _ _⟩, rfl, q2 hx hk _ (I.hok.fresh (Nat.le_refl _))⟩)
    by_cases c2 : (decide (k ≤ 0) || its.toArray.isEmpty) = true
    · have k0 : k.toNat = 0 := by
        rcases Bool.or_eq_true_iff.mp c2 with e | e
        · have := of_decide_eq_true e; omega
        · rw [e] at e1; cases e1
      have m := tuple_mulE l its.toArray n dd sl k t c0 c1' c2
      rw [k0] at fin
      exact fin m
    · have c2' : (decide (k ≤ 0) || its.toArray.isEmpty) = false := Bool.eq_false_iff.mpr c2
      have kp : 0 < k := Int.not_le.mp (of_decide_eq_false (Bool.or_eq_false_iff.mp c2').1)
      have hm : ((its.toArray.size : Nat) : Int) * k ≤ sizeLine := by
        rw [List.size_toArray, el]
        have : ((xs.length * k.toNat : Nat) : Int) ≤ (sizeLine : Nat) := Int.ofNat_le.mpr hz
        rw [Int.natCast_mul, Int.toNat_of_nonneg (Int.le_of_lt kp)] at this
        exact this
      refine fin ?_
      have := tuple_mulW l its.toArray n dd sl k t c0 c1' c2' (by rw [sizeLine_eq] at hm; omega) (by unfold Builtin.Tuple.tupleTooMany; rw [sizeLine_eq] at hm ⊢; exact decide_eq_false (by omega)) (by rw [size_rep, List.size_toArray]; exact hlen)
      rw [size_rep] at this
      exact this

/-! ### sorted(d), the keys of d pairs of ints -/
/-- the two ints behind a value -/
def kH (H : Hp) : Value → Int × Int
  | .ref b => match H b with
    | some (.tup [.int i, .int j]) => (i, j)
    | _ => (0, 0)
  | _ => (0, 0)
theorem kH_of {H : Hp} {b : Addr} {i j : Int} (h : H b = some (.tup [.int i, .int j])) : kH H (.ref b) = (i, j) := by
  show (match H b with | some (.tup [.int i, .int j]) => (i, j) | _ => (0, 0)) = _
  rw [h]
/-- y stands for the pair q -/
def AtP (H : Hp) (y : V) (q : Int × Int) : Prop := ∃ b, y = V.ref b ∧ H b = some (.tup [.int q.1, .int q.2])
abbrev keysP (ks : List (Int × Int)) : List (List L2.Key) := ks.map fun p => [Sum.inl p.1, Sum.inl p.2]
def rSortedDT : List V → Hp → VK → Prop := fun vs H Q => ∃ (a : Addr) (kvs : List (List L2.Key × V)) (ks : List (Int × Int)), vs = [V.ref a] ∧ Rd H a (.dT kvs) ∧ kvs.map (·.1) = keysP ks ∧
  ∀ (ys : List V) (qs : List (Int × Int)) (p : Addr), Paired (AtP H) ys qs → qs.Perm ks → qs.Pairwise (fun x y => SrtO.lexB y x = false) → H p = none → Q (.ref p) (upd H p (.lst ys))
theorem cr_sortedDT (hc : X.calm = true) : CallR X (.builtin "sorted") rSortedDT := by
  intro pins s σ H xs us Q I r h
  obtain ⟨d, kvs, ks, rfl, hd, hks, q⟩ := h
  obtain ⟨u, rfl, rx⟩ := r.one
  cases rx
  obtain ⟨z, hs, ms, pr, o, es, ep, ho, hx, hdt, he, hn⟩ := (show ObjOk X.prog X.w H s.heap d (.dT kvs) from hd.ok I.hok)
  have n1 : es.size = ms.length := size_of_entries he
  have n2 : kvs.length = ms.length := Paired.length pr
  have n3 : es.size ≤ sizeLine := by omega
  have tup : ∀ m ∈ ms, ∃ p ∈ ks, H m.2.1 = some (.tup [.int p.1, .int p.2]) := by
    have go : ∀ {kvs : List (List L2.Key × V)} {ms : List (List L2.Key × Addr × Value)} {ks : List (Int × Int)}, KT H kvs ms → kvs.map (·.1) = keysP ks → ∀ m ∈ ms, ∃ p ∈ ks, H m.2.1 = some (.tup [.int p.1, .int p.2]) := by
      intro kvs ms ks r
      induction r generalizing ks with
      | nil => intro _ m hm; cases hm
      | @cons a b as bs h t ih =>
        intro e m hm
        cases ks with
        | nil => cases e
        | cons p ks =>
          rw [keysP, List.map_cons, List.map_cons] at e
          obtain ⟨e1, e2⟩ := List.cons.inj e
          rcases List.mem_cons.mp hm with z | z
          · subst z
            refine ⟨p, by simp, ?_⟩
            rw [h.2.1, e1]; rfl
          · obtain ⟨p', h1, h2⟩ := ih e2 m z
            exact ⟨p', by simp [h1], h2⟩
    exact go pr hks
  refine Calls.call_function_entry PyProof.Rows.kind_sorted PyProof.Rows.plain_sorted PyProof.Rows.entry_sorted (PyProof.Rows.args_sorted1 _) ?_
  unfold Builtin.«sorted»
  refine wpAny_bind (m := checkCount "sorted" 1 1 _) (wpAny_pure ?_)
  refine wpAny_bind (PySem.W.kdu_collect (A := X.A.in1) (kdl_raw hs hx hdt) (I.ok.hd hc) ho n3 fun h' tk acc hk it => ?_)
  have ea : acc.toList = ms.map fun x => Value.ref x.2.1 := by
    apply List.ext_getElem
    · rw [Array.length_toList, it.1, List.length_map, n1]
    · intro j h1 h2
      obtain ⟨en, hen, hv⟩ := it.2 j acc.toList[j] (by rw [← Array.getElem?_toList, List.getElem?_eq_getElem h1])
      have qe := entry_at he j
      have h3 : j < ms.length := by simpa using h2
      have hb : ms[j]? = some ms[j] := List.getElem?_eq_getElem h3
      rw [hen, hb] at qe
      rw [List.getElem_map, hv, Option.some.inj qe]
      rfl
  have I1 : Inv X pins σ H { s with heap := h', toks := tk } := I.kept hk
  have alen : acc.toList.length ≤ sizeLine := by rw [ea, List.length_map, ← n1]; exact n3
  refine wpAny_bind (wpAny_newList ?_ alen)
  have hoL : (h'.push (seqObj "list" acc.toList.toArray 0)).get? h'.objs.size = some (seqObj "list" acc.toList.toArray 0) := Heap.get?_push_size _ rfl
  show wpAny _ _ _ _ _ { s with heap := h'.push (seqObj "list" acc.toList.toArray 0), toks := tk }
  have refs : ∀ u ∈ acc.toList, ∃ b p, u = Value.ref b ∧ p ∈ ks ∧ H b = some (.tup [.int p.1, .int p.2]) := by
    intro u hu
    rw [ea] at hu
    obtain ⟨m, hm, rfl⟩ := List.mem_map.mp hu
    obtain ⟨p, hp, e⟩ := tup m hm
    exact ⟨_, p, rfl, hp, e⟩
  have pairs : ∀ u ∈ acc.toList, Srt.IsPair (h'.push (seqObj "list" acc.toList.toArray 0)) u (kH H u).1 (kH H u).2 := by
    intro u hu
    obtain ⟨b, p, rfl, _, e⟩ := refs u hu
    rw [kH_of e]
    obtain ⟨_, its2, r2, o2, ho2, hc2, n2, hd2⟩ := I1.hok _ _ e
    obtain ⟨u1, u2, rfl, ri, rj⟩ := vals2 r2
    obtain ⟨t1, rfl⟩ := ri
    obtain ⟨t2, rfl⟩ := rj
    exact ⟨b, o2, t1, t2, n2, rfl, Heap.get?_push_of_some _ ho2, hc2, hd2⟩
  refine wpAny_bind (wpAny_holding (wpAny_call_entry PyProof.Rows.slot_list_sort ⟨_, hoL, rfl⟩ PyProof.Rows.entry_list_sort
    (SrtO.list_sort_ord (SrtO.swo_lex (kH H)) (s := { s with heap := h'.push (seqObj "list" acc.toList.toArray 0), toks := tk }) hoL alen
      (fun h2 => SrtO.pairs_sortableO (s := { s with heap := h'.push (seqObj "list" acc.toList.toArray 0), toks := tk }) (by omega) pairs fun o e c => ?_) fun out s1 s2 => ⟨_, rfl, ?_⟩) (PyProof.Rows.args_list_sort _)))
  · have e' : some o = some (seqObj "list" acc.toList.toArray 0) := e.symm.trans hoL
    cases e'
    exact absurd (Value.type.inj c) (by decide)
  obtain ⟨e', he'⟩ := PyProof.Rows.sortedHeap_at (vs := acc.toList) (out := out.toArray) hoL
  have orefs : ∀ u ∈ out, ∃ b p, u = Value.ref b ∧ p ∈ ks ∧ H b = some (.tup [.int p.1, .int p.2]) := fun u hu => refs u (s2.perm.mem_iff.mp hu)
  have olen : out.length ≤ sizeLine := by rw [s2.perm.length_eq]; exact alen
  have pd : Paired (AtP H) (out.map backV) (out.map (kH H)) := by
    clear s1 s2 he' olen
    induction out with
    | nil => exact .nil
    | cons u r ih =>
      obtain ⟨b, p, rfl, _, e⟩ := orefs u (by simp)
      refine .cons ⟨b, rfl, ?_⟩ (ih fun u hu => orefs u (by simp [hu]))
      rw [kH_of e]; exact e
  have eks : acc.toList.map (kH H) = ks := by
    rw [ea, List.map_map]
    have go : ∀ {kvs : List (List L2.Key × V)} {ms : List (List L2.Key × Addr × Value)} {ks : List (Int × Int)}, KT H kvs ms → kvs.map (·.1) = keysP ks → ms.map ((kH H) ∘ fun x => Value.ref x.2.1) = ks := by
      intro kvs ms ks r
      induction r generalizing ks with
      | nil => intro e; cases ks with
        | nil => rfl
        | cons p ks => cases e
      | @cons a b as bs h t ih =>
        intro e
        cases ks with
        | nil => cases e
        | cons p ks =>
          rw [keysP, List.map_cons, List.map_cons] at e
          obtain ⟨e1, e2⟩ := List.cons.inj e
          rw [List.map_cons, ih e2]
          congr 1
          refine kH_of ?_
          rw [h.2.1, e1]; rfl
    exact go pr hks
  refine wpAny_pure ⟨_, rfl, .ref h'.objs.size, upd H h'.objs.size (.lst (out.map backV)), I1.laid (t' := tk) (fun b u e => ?_) (Nat.le_refl _)
    (show ObjOk X.prog X.w _ _ _ (.lst (out.map backV)) from ⟨by rw [List.length_map]; exact olen, out, e', vals_back fun u hu => ?_, he'⟩), rfl, q _ _ _ pd ?_ ?_ (I1.hok.fresh (Nat.le_refl _))⟩
  · have hb : b < h'.objs.size := Heap.lt_size e
    rw [PyProof.Rows.sortedHeap_old (Nat.ne_of_lt hb) (by rw [size_push']; exact Nat.lt_succ_of_lt hb)]
    exact Heap.get?_push_of_some _ e
  · obtain ⟨b, _, e, _⟩ := orefs u hu
    exact ⟨b, e⟩
  · rw [← eks]; exact s2.perm.map _
  · exact List.pairwise_map.mpr s1
end
end DI

/-! DI1: a small language of plain data, and what it reckons: no program in sight. -/
namespace DI
open PySem L2

abbrev D := PyData

/-- a slot: not set, data at a level of ownership (0: shared for good), the argument that is changed for the caller -/
inductive Sl where
  | un
  | sl (k : Nat) (d : D)
  | io (d : D)
abbrev Ev := List Sl
abbrev M (α : Type) := Ev → Option (α × Ev)

def gt : Ev → Nat → Sl
  | [], _ => .un
  | s :: _, 0 => s
  | _ :: r, i + 1 => gt r i
def st : Ev → Nat → Sl → Ev
  | [], _, _ => []
  | _ :: r, 0, s => s :: r
  | a :: r, i + 1, s => a :: st r i s
@[simp] theorem gt_zero (s : Sl) (r : Ev) : gt (s :: r) 0 = s := rfl
@[simp] theorem gt_succ (s : Sl) (r : Ev) (i : Nat) : gt (s :: r) (i + 1) = gt r i := rfl
@[simp] theorem st_zero (s a : Sl) (r : Ev) : st (a :: r) 0 s = s :: r := rfl
@[simp] theorem st_succ (s a : Sl) (r : Ev) (i : Nat) : st (a :: r) (i + 1) s = a :: st r i s := rfl
def wp : Ev → List Nat → Ev
  | ρ, [] => ρ
  | ρ, i :: is => st (wp ρ is) i .un

def mb {α β : Type} (m : Option (α × Ev)) (f : α → Ev → Option β) : Option β := match m with
  | some (a, ρ) => f a ρ
  | none => none
@[simp] theorem mb_some {α β : Type} (a : α) (ρ : Ev) (f : α → Ev → Option β) : mb (some (a, ρ)) f = f a ρ := rfl
@[simp] theorem mb_none {α β : Type} (f : α → Ev → Option β) : mb none f = none := rfl
theorem mb_of {α β : Type} {m : Option (α × Ev)} {f : α → Ev → Option β} {b : β} (h : mb m f = some b) : ∃ a ρ, m = some (a, ρ) ∧ f a ρ = some b := by
  cases m with
  | none => cases h
  | some p => exact ⟨p.1, p.2, rfl, h⟩

/-! ### operators over data -/
inductive Op where
  | add | sub | mul | fdiv | mod | pow
inductive Cm where
  | eq | ne | lt | le | gt | ge | is | isN | inn | notin

def mulOk (i j : Int) : Bool := (decide (-(2 ^ 64) < i) && decide (i < 2 ^ 64)) || (decide (-(2 ^ 64) < j) && decide (j < 2 ^ 64))
def divOk (j : Int) : Bool := decide (j ≠ 0) && decide (j.natAbs < 1073741824)
def powOk (i j : Int) : Bool := decide (0 ≤ j) && decide (j ≤ 1000000) && decide (i.natAbs < 2 ^ 64)
def lenOk (n : Nat) : Bool := decide (n ≤ sizeLine)

/-- xs, n times -/
def repD (n : Nat) (xs : List D) : List D := (List.replicate n xs).flatten
def repOk (l : Nat) (k : Int) : Bool := decide (-(2 ^ 63) ≤ k) && decide (k < 2 ^ 63) && lenOk (l * k.toNat)

def opD : Op → D → D → Option D
  | .add, .int i, .int j => some (.int (i + j))
  | .sub, .int i, .int j => some (.int (i - j))
  | .mul, .int i, .int j => if mulOk i j then some (.int (i * j)) else none
  | .fdiv, .int i, .int j => if divOk j then some (.int (i.fdiv j)) else none
  | .mod, .int i, .int j => if j ≠ 0 then some (.int (i.fmod j)) else none
  | .pow, .int i, .int j => if powOk i j then some (.int (i ^ j.toNat)) else none
  | .add, .tuple xs, .tuple ys => if lenOk (xs.length + ys.length) then some (.tuple (xs ++ ys)) else none
  | .add, .list xs, .list ys => if lenOk (xs.length + ys.length) then some (.list (xs ++ ys)) else none
  | .add, .str x, .str y => if lenOk (x.length + y.length) then some (.str (x ++ y)) else none
  | .mul, .list xs, .int k => if repOk xs.length k then some (.list (repD k.toNat xs)) else none
  | .mul, .tuple xs, .int k => if repOk xs.length k then some (.tuple (repD k.toNat xs)) else none
  | _, _, _ => none

/-- a new list is owned -/
def lvD : D → Nat
  | .list _ => 1
  | _ => 0
def shp (d : D) : Bool := SeqAt.shaped d
/-- lists of ints, tuples of ints -/
def intsOf : List D → Option (List Int)
  | [] => some []
  | .int i :: r => (intsOf r).map (i :: ·)
  | _ :: _ => none
/-- pairs of ints -/
def pairsOf : List D → Option (List (Int × Int))
  | [] => some []
  | .tuple [.int i, .int j] :: r => (pairsOf r).map ((i, j) :: ·)
  | _ :: _ => none
/-- sorted, by inserting -/
def insB {α : Type} (lt : α → α → Bool) (a : α) : List α → List α
  | [] => [a]
  | b :: r => if lt b a then b :: insB lt a r else a :: b :: r
def srtB {α : Type} (lt : α → α → Bool) : List α → List α
  | [] => []
  | a :: r => insB lt a (srtB lt r)
def ltI (a b : Int) : Bool := decide (a < b)
def ltP2 (p q : Int × Int) : Bool := if p.1 = q.1 then decide (p.2 < q.2) else decide (p.1 < q.1)
def pairD (p : Int × Int) : D := .tuple [.int p.1, .int p.2]
def sortedD (ds : List D) : Option D := match intsOf ds with
  | some ns => some (.list ((srtB ltI ns).map PyData.int))
  | none => (pairsOf ds).map fun ps => .list ((srtB ltP2 ps).map pairD)
/-- None, a bool, an int, a text -/
def flatD : D → Bool
  | .none | .bool _ | .int _ | .str _ => true
  | _ => false
/-- += and -= in place -/
def augD (o : Op) (a b : D) : Option D := match a, b with
  | .int _, .int _ => opD o a b
  | .str _, .str _ => opD o a b
  | _, _ => none
def cutD (xs : List D) (lo hi : Option Int) : List D := (xs.drop (HT.sIx xs.length 0 lo)).take (HT.sIx xs.length xs.length hi - HT.sIx xs.length 0 lo)
def slD : D → Option Int → Option Int → Option D
  | .list xs, lo, hi => some (.list (cutD xs lo hi))
  | .tuple xs, lo, hi => some (.tuple (cutD xs lo hi))
  | _, _, _ => none

/-! ### dicts: keys are ints, texts, or tuples of them. A dict's data begin with a mark: True for plain keys, False for tuples -/
def keyD : L2.Key → D
  | .inl i => .int i
  | .inr s => .str s
def toKey : D → Option L2.Key
  | .int i => some (.inl i)
  | .str s => some (.inr s)
  | _ => none
def toKeys : List D → Option (List L2.Key)
  | [] => some []
  | d :: r => match toKey d, toKeys r with
    | some k, some ks => some (k :: ks)
    | _, _ => none
def dfind (k : D) : List (D × D) → Option D
  | [] => none
  | p :: r => if PyData.eqv p.1 k then some p.2 else dfind k r
def dput (k d : D) (l : List (D × D)) : List (D × D) :=
  if l.any fun p => PyData.eqv p.1 k then l.map fun p => if PyData.eqv p.1 k then (p.1, d) else p else l ++ [(k, d)]
/-- d.get(k): some none where it is not there -/
def dget : D → D → Option (Option D)
  | .dict ((.bool true, _) :: kvs), k => (toKey k).map fun _ => dfind k kvs
  | .dict ((.bool false, _) :: kvs), .tuple ks => (toKeys ks).map fun _ => dfind (.tuple ks) kvs
  | _, _ => none
def dset : D → D → D → Option D
  | .dict ((.bool true, m) :: kvs), k, d => if decide (kvs.length < sizeLine) then (toKey k).map fun _ => .dict ((.bool true, m) :: dput k d kvs) else none
  | .dict ((.bool false, m) :: kvs), .tuple ks, d => if decide (kvs.length < sizeLine) then (toKeys ks).map fun _ => .dict ((.bool false, m) :: dput (.tuple ks) d kvs) else none
  | _, _, _ => none

/-! ### items -/
def ixD : D → D → Option D
  | .list xs, .int i => atI xs i
  | .tuple xs, .int i => atI xs i
  | .dict ds, k => (dget (.dict ds) k).bind id
  | _, _ => none
def cmD : Cm → D → D → Option Bool
  | .eq, a, b => if shp a && shp b then some (PyData.eqv a b) else none
  | .ne, a, b => if shp a && shp b then some (!PyData.eqv a b) else none
  | .lt, .int i, .int j => some (decide (i < j))
  | .le, .int i, .int j => some (decide (i ≤ j))
  | .gt, .int i, .int j => some (decide (j < i))
  | .ge, .int i, .int j => some (decide (j ≤ i))
  | .lt, .tuple xs, .tuple ys => match intsOf xs, intsOf ys with
    | some ns, some ms => some (HT.lexLt ns ms)
    | _, _ => none
  | .is, a, .none => some (match a with | .none => true | _ => false)
  | .isN, a, .none => some (match a with | .none => false | _ => true)
  | .is, .bool a, .bool b => some (a == b)
  | .isN, .bool a, .bool b => some (!(a == b))
  | .inn, d, .list ds => if shp d && shp (.list ds) then some (ds.any fun z => PyData.eqv z d) else none
  | .notin, d, .list ds => if shp d && shp (.list ds) then some (!ds.any fun z => PyData.eqv z d) else none
  | .inn, d, .tuple ds => if flatD d && ds.all flatD then some (ds.any fun z => PyData.eqv z d) else none
  | .inn, k, .dict ds => (dget (.dict ds) k).map Option.isSome
  | .notin, k, .dict ds => (dget (.dict ds) k).map fun o => !o.isSome
  | .notin, d, .tuple ds => if flatD d && ds.all flatD then some (!ds.any fun z => PyData.eqv z d) else none
  | _, _, _ => none

/-! ### built-ins of one value, of two -/
inductive B1 where
  | len | abs | int | tuple | list | all | any | sum | min | max | bool | str | sorted
inductive B2 where
  | min | max
def boolsOf : List D → Option (List Bool)
  | [] => some []
  | .bool b :: r => (boolsOf r).map (b :: ·)
  | _ :: _ => none
def b1D : B1 → D → Option D
  | .len, .list xs => some (.int xs.length)
  | .len, .tuple xs => some (.int xs.length)
  | .len, .str x => if lenOk x.length then some (.int x.length) else none
  | .len, .dict ((.bool true, _) :: kvs) => some (.int kvs.length)
  | .len, .dict ((.bool false, _) :: kvs) => some (.int kvs.length)
  | .str, .str x => some (.str x)
  | .sorted, .list xs => sortedD xs
  | .sorted, .dict ((.bool false, _) :: kvs) => (pairsOf (kvs.map (·.1))).map fun ps => .list ((srtB ltP2 ps).map pairD)
  | .abs, .int i => some (.int (if i < 0 then -i else i))
  | .int, .int i => some (.int i)
  | .int, .bool b => some (.int (if b then 1 else 0))
  | .tuple, .list xs => some (.tuple xs)
  | .tuple, .tuple xs => some (.tuple xs)
  | .list, .list xs => some (.list xs)
  | .list, .tuple xs => some (.list xs)
  | .list, .dict [(.none, .list xs)] => some (.list xs)
  | .all, .list xs => (boolsOf xs).map fun bs => .bool (bs.all id)
  | .any, .list xs => (boolsOf xs).map fun bs => .bool (bs.any id)
  | .sum, .list xs => (intsOf xs).map fun ns => .int ns.sum
  | .min, .list xs => match intsOf xs with
    | some (n :: ns) => some (.int (ns.foldl (fun a b => if b < a then b else a) n))
    | _ => none
  | .max, .list xs => match intsOf xs with
    | some (n :: ns) => some (.int (ns.foldl (fun a b => if b > a then b else a) n))
    | _ => none
  | _, _ => none
def b2D : B2 → D → D → Option D
  | .min, .int i, .int j => some (.int (if j < i then j else i))
  | .max, .int i, .int j => some (.int (if j > i then j else i))
  | _, _, _ => none

/-- isinstance -/
inductive Ty where
  | int | bool | str | tuple | list
def isiD : Ty → D → Bool
  | .int, .int _ => true
  | .int, .bool _ => true
  | .bool, .bool _ => true
  | .str, .str _ => true
  | .tuple, .tuple _ => true
  | .list, .list _ => true
  | _, _ => false

/-! ### the language -/
inductive Tg where
  | nm (i : Nat)
  | tup (ts : List Tg)

mutual
inductive E where
  | nm (i : Nat)
  | int (i : Int)
  | bl (b : Bool)
  | non
  | str (s : Str)
  | glb (g : Nat) (i : Int)
  | op (o : Op) (a b : E)
  | neg (a : E)
  | tst (t : T)
  | ife (t : T) (a b : E)
  | tup (es : Es)
  | lst (es : Es)
  | ix (a i : E)
  | bix (s : Nat) (i : E)
  | bix2 (s : Nat) (i j : E)
  | slc (a : E) (lo hi : Eo)
  | call (f : Nat) (es : Es)
  | cio (f : Nat) (s : Nat) (es : Es)
  | b1 (f : B1) (a : E)
  | blen (s : Nat)
  | b2 (f : B2) (a b : E)
  | isi (t : Ty) (a : E)
  | dnew (tup : Bool)
  | comp (k : Nat) (vs : List Nat) (tg : Tg) (it : It) (cs : Ts) (e : E)
inductive Es where
  | nil
  | cons (e : E) (es : Es)
inductive Eo where
  | no
  | yes (e : E)
inductive T where
  | ex (e : E)
  | cm (c : Cm) (a b : E)
  | chn (c c' : Cm) (a b d : E)
  | not (t : T)
  | and (ts : Ts)
  | or (ts : Ts)
inductive Ts where
  | nil
  | cons (t : T) (ts : Ts)
inductive It where
  | ex (e : E)
  | rng1 (e : E)
  | rng2 (a b : E)
  | enm (e : E)
  | zip (a b : E)
end

mutual
inductive S where
  | set (keep : Bool) (i : Nat) (e : E)
  | tset (tg : Tg) (e : E)
  | par (i j : Nat) (a b : E)
  | par3 (i j l : Nat) (a b c : E)
  | aug (o : Op) (i : Nat) (e : E)
  | ixset (s : Nat) (i e : E)
  | pst (e : E) (s : Nat) (i : E) (s' : Nat) (i' : E)
  | ixset2 (s : Nat) (i j e : E)
  | ixset22 (s : Nat) (i j i' j' e : E)
  | app (s : Nat) (e : E)
  | expr (e : E)
  | ret (keep : Bool) (e : E)
  | retN
  | ite (t : T) (a b : Ss)
  | for (kill : List Nat) (tg : Tg) (it : It) (body : Ss)
  | while (fuel : Nat) (kill : List Nat) (t : T) (body : Ss)
  | brk
  | cont
  | pass
  | never
inductive Ss where
  | nil
  | cons (s : S) (ss : Ss)
end

/-! ### what it reckons -/
/-- what a def does: the data of its arguments; what it hands back, at which level; the changed argument behind it -/
structure FR where
  d : D
  k : Nat
  io : D
abbrev Fn := List D → Option FR
abbrev Gm := Nat → Fn

def bndT : List Tg → List D → (Tg → D → Ev → Option Ev) → Ev → Option Ev
  | [], [], _, ρ => some ρ
  | t :: ts, d :: ds, f, ρ => (f t d ρ).bind (bndT ts ds f)
  | _, _, _, _ => none
def setable : Sl → Bool
  | .io _ => false
  | _ => true
mutual
def bnd : Tg → D → Ev → Option Ev
  | .nm i, d, ρ => if setable (gt ρ i) then some (st ρ i (.sl 0 d)) else none
  | .tup ts, .tuple ds, ρ => bnds ts ds ρ
  | .tup _, _, _ => none
def bnds : List Tg → List D → Ev → Option Ev
  | [], [], ρ => some ρ
  | t :: ts, d :: ds, ρ => (bnd t d ρ).bind (bnds ts ds)
  | _, _, _ => none
end

/-- a name, read for good -/
def rdN (i : Nat) (ρ : Ev) : Option ((D × Nat) × Ev) := match gt ρ i with
  | .sl 0 d => some ((d, 0), ρ)
  | .sl (_ + 1) d => some ((d, 0), st ρ i (.sl 0 d))
  | _ => none
/-- what stands in a slot, looked at -/
def lkN (i : Nat) (ρ : Ev) : Option D := match gt ρ i with
  | .sl _ d => some d
  | .io d => some d
  | .un => none
/-- what is owned at just one level -/
def ow1 (s : Nat) (ρ : Ev) : Option D := match gt ρ s with
  | .sl 1 d => some d
  | .io d => some d
  | _ => none
/-- what is looked into: shared, or owned at one level -/
def ow01 (s : Nat) (ρ : Ev) : Option D := match gt ρ s with
  | .sl 0 d => some d
  | .sl 1 d => some d
  | .io d => some d
  | _ => none
def ow2 (s : Nat) (ρ : Ev) : Option D := match gt ρ s with
  | .sl 2 d => some d
  | _ => none

def zipD : List D → List D → List D
  | x :: xs, y :: ys => .tuple [x, y] :: zipD xs ys
  | _, _ => []
def enumD : Nat → List D → List D
  | _, [] => []
  | n, x :: xs => .tuple [.int n, x] :: enumD (n + 1) xs
def rngD : Nat → Int → List D
  | 0, _ => []
  | n + 1, lo => .int lo :: rngD n (lo + 1)

/-- a comprehension's turns: what is made so far -/
def compL (k : Nat) (vs : List Nat) (bind : D → Ev → Option Ev) (test : Ev → Option (Bool × Ev)) (elt : Ev → Option ((D × Nat) × Ev)) : List D → Ev → Option (List D × Ev)
  | [], ρ => some ([], ρ)
  | x :: xs, ρ => (bind x ρ).bind fun ρ1 => mb (test ρ1) fun b ρ2 =>
      if b then mb (elt ρ2) fun p ρ3 => if k = 0 ∨ p.2 = k then mb (compL k vs bind test elt xs (wp ρ3 vs)) fun ys ρ4 => some (p.1 :: ys, ρ4) else none
      else compL k vs bind test elt xs (wp ρ2 vs)
/-- the slots at vs as they were -/
def bk (ρ0 : Ev) : List Nat → Ev → Ev
  | [], ρ => ρ
  | i :: is, ρ => st (bk ρ0 is ρ) i (gt ρ0 i)

mutual
def ev (Γ : Gm) : E → Ev → Option ((D × Nat) × Ev)
  | .nm i, ρ => rdN i ρ
  | .int i, ρ => some ((.int i, 0), ρ)
  | .bl b, ρ => some ((.bool b, 0), ρ)
  | .non, ρ => some ((.none, 0), ρ)
  | .str s, ρ => some ((.str s, 0), ρ)
  | .glb _ i, ρ => some ((.int i, 0), ρ)
  | .op o a b, ρ => mb (ev Γ a ρ) fun x ρ => mb (ev Γ b ρ) fun y ρ => (opD o x.1 y.1).map fun d => ((d, lvD d), ρ)
  | .neg a, ρ => mb (ev Γ a ρ) fun x ρ => match x.1 with
    | .int i => some ((.int (-i), 0), ρ)
    | _ => none
  | .tst t, ρ => mb (evT Γ t ρ) fun b ρ => some ((.bool b, 0), ρ)
  | .ife t a b, ρ => mb (evT Γ t ρ) fun c ρ => if c then ev Γ a ρ else ev Γ b ρ
  | .tup es, ρ => mb (evs Γ es ρ) fun ds ρ => if lenOk ds.length then some ((.tuple ds, 0), ρ) else none
  | .lst es, ρ => mb (evs Γ es ρ) fun ds ρ => if lenOk ds.length then some ((.list ds, 1), ρ) else none
  | .ix a i, ρ => mb (ev Γ a ρ) fun x ρ => mb (ev Γ i ρ) fun y ρ => (ixD x.1 y.1).map fun d => ((d, 0), ρ)
  | .bix s i, ρ => (ow01 s ρ).bind fun _ => mb (ev Γ i ρ) fun y ρ => (ow01 s ρ).bind fun d => (ixD d y.1).map fun r => ((r, 0), ρ)
  | .bix2 s i j, ρ => (ow2 s ρ).bind fun _ => mb (ev Γ i ρ) fun y ρ => (ow2 s ρ).bind fun d => (ixD d y.1).bind fun d => mb (ev Γ j (wp ρ [s])) fun z ρ' => (ixD d z.1).map fun r => ((r, 0), bk ρ [s] ρ')
  | .slc a lo hi, ρ => mb (ev Γ a ρ) fun x ρ => mb (evo Γ lo ρ) fun l ρ => mb (evo Γ hi ρ) fun h ρ => (slD x.1 l h).map fun d => ((d, lvD d), ρ)
  | .call f es, ρ => mb (evs Γ es ρ) fun ds ρ => (Γ f ds).map fun r => ((r.d, r.k), ρ)
  | .cio f s es, ρ => (ow1 s ρ).bind fun _ => mb (evs Γ es ρ) fun ds ρ => match gt ρ s with
    | .sl 1 d => (Γ f (d :: ds)).map fun r => ((r.d, r.k), st ρ s (.sl 1 r.io))
    | .io d => (Γ f (d :: ds)).map fun r => ((r.d, r.k), st ρ s (.io r.io))
    | _ => none
  | .b1 f a, ρ => mb (ev Γ a ρ) fun x ρ => (b1D f x.1).map fun d => ((d, lvD d), ρ)
  | .dnew t, ρ => some ((.dict [(.bool !t, .none)], 1), ρ)
  | .blen s, ρ => (ow01 s ρ).bind fun x => (b1D .len x).map fun d => ((d, 0), ρ)
  | .b2 f a b, ρ => mb (ev Γ a ρ) fun x ρ => mb (ev Γ b ρ) fun y ρ => (b2D f x.1 y.1).map fun d => ((d, 0), ρ)
  | .isi t a, ρ => mb (ev Γ a ρ) fun x ρ => match x.1 with
      | .dict _ => none
      | d => some ((.bool (isiD t d), 0), ρ)
  | .comp k vs tg it cs e, ρ => mb (evI Γ it ρ) fun xs ρ0 =>
      mb (compL k vs (bnd tg) (evA Γ cs) (ev Γ e) xs (wp ρ0 vs)) fun ys ρ1 => some ((.list ys, k + 1), bk ρ0 vs ρ1)
def evs (Γ : Gm) : Es → Ev → Option (List D × Ev)
  | .nil, ρ => some ([], ρ)
  | .cons e es, ρ => mb (ev Γ e ρ) fun x ρ => mb (evs Γ es ρ) fun xs ρ => some (x.1 :: xs, ρ)
def evo (Γ : Gm) : Eo → Ev → Option (Option Int × Ev)
  | .no, ρ => some (none, ρ)
  | .yes e, ρ => mb (ev Γ e ρ) fun x ρ => match x.1 with
    | .int i => some (some i, ρ)
    | _ => none
def evT (Γ : Gm) : T → Ev → Option (Bool × Ev)
  | .ex e, ρ => mb (ev Γ e ρ) fun x ρ => match x.1 with
    | .bool b => some (b, ρ)
    | _ => none
  | .cm c a b, ρ => mb (ev Γ a ρ) fun x ρ => mb (ev Γ b ρ) fun y ρ => (cmD c x.1 y.1).map fun b => (b, ρ)
  | .chn c c' a b d, ρ => mb (ev Γ a ρ) fun x ρ => mb (ev Γ b ρ) fun y ρ => (cmD c x.1 y.1).bind fun k =>
      if k then mb (ev Γ d ρ) fun z ρ => (cmD c' y.1 z.1).map fun b => (b, ρ) else some (false, ρ)
  | .not t, ρ => mb (evT Γ t ρ) fun b ρ => some (!b, ρ)
  | .and ts, ρ => evA Γ ts ρ
  | .or ts, ρ => evR Γ ts ρ
def evA (Γ : Gm) : Ts → Ev → Option (Bool × Ev)
  | .nil, ρ => some (true, ρ)
  | .cons t ts, ρ => mb (evT Γ t ρ) fun b ρ => if b then evA Γ ts ρ else some (false, ρ)
def evR (Γ : Gm) : Ts → Ev → Option (Bool × Ev)
  | .nil, ρ => some (false, ρ)
  | .cons t ts, ρ => mb (evT Γ t ρ) fun b ρ => if b then some (true, ρ) else evR Γ ts ρ
def evI (Γ : Gm) : It → Ev → Option (List D × Ev)
  | .ex e, ρ => mb (ev Γ e ρ) fun x ρ => match x.1 with
    | .list xs => some (xs, ρ)
    | .tuple xs => some (xs, ρ)
    | _ => none
  | .rng1 e, ρ => mb (ev Γ e ρ) fun x ρ => match x.1 with
    | .int n => if lenOk n.toNat && decide (-(2 ^ 62) ≤ n) then some (rngD n.toNat 0, ρ) else none
    | _ => none
  | .rng2 a b, ρ => mb (ev Γ a ρ) fun x ρ => mb (ev Γ b ρ) fun y ρ => match x.1, y.1 with
    | .int i, .int j => if lenOk (j - i).toNat && decide (-(2 ^ 62) ≤ i) && decide (i < 2 ^ 62) && decide (-(2 ^ 62) ≤ j) && decide (j < 2 ^ 62) then some (rngD (j - i).toNat i, ρ) else none
    | _, _ => none
  | .enm e, ρ => mb (ev Γ e ρ) fun x ρ => match x.1 with
    | .list xs => some (enumD 0 xs, ρ)
    | .tuple xs => some (enumD 0 xs, ρ)
    | _ => none
  | .zip a b, ρ => mb (ev Γ a ρ) fun x ρ => mb (ev Γ b ρ) fun y ρ => match x.1, y.1 with
    | .list xs, .list ys => some (zipD xs ys, ρ)
    | .tuple xs, .tuple ys => some (zipD xs ys, ρ)
    | _, _ => none
end

/-- where a statement goes -/
inductive Out where
  | nx (ρ : Ev)
  | rt (d : D) (k : Nat) (ρ : Ev)
  | bk (ρ : Ev)
  | ct (ρ : Ev)

/-- a for's turns -/
def forL (kill : List Nat) (bind : D → Ev → Option Ev) (body : Ev → Option Out) : List D → Ev → Option Out
  | [], ρ => some (.nx ρ)
  | x :: xs, ρ => (bind x ρ).bind fun ρ1 => (body ρ1).bind fun o => match o with
    | .nx ρ2 => forL kill bind body xs (wp ρ2 kill)
    | .ct ρ2 => forL kill bind body xs (wp ρ2 kill)
    | .bk ρ2 => some (.nx (wp ρ2 kill))
    | .rt d k ρ2 => some (.rt d k ρ2)
def whileL (kill : List Nat) (test : Ev → Option (Bool × Ev)) (body : Ev → Option Out) : Nat → Ev → Option Out
  | 0, _ => none
  | n + 1, ρ => mb (test ρ) fun b ρ1 => if b then (body ρ1).bind fun o => (match o with
    | .nx ρ2 => whileL kill test body n (wp ρ2 kill)
    | .ct ρ2 => whileL kill test body n (wp ρ2 kill)
    | .bk ρ2 => some (.nx (wp ρ2 kill))
    | .rt d k ρ2 => some (.rt d k ρ2)) else some (.nx ρ1)
def setS (keep : Bool) (i : Nat) (x : D × Nat) (ρ : Ev) : Option Out := if setable (gt ρ i) then some (.nx (st ρ i (.sl (if keep then x.2 else 0) x.1))) else none
/-- d[i] := x -/
def stI (d i x : D) : Option D := match d, i with
  | .list xs, .int j => (ixN xs.length j).map fun j => .list (xs.set j x)
  | .dict ds, k => dset (.dict ds) k x
  | _, _ => none
/-- what is owned at one level is changed -/
def up1 (s : Nat) (d : D) (ρ : Ev) : Ev := match gt ρ s with
  | .io _ => st ρ s (.io d)
  | _ => st ρ s (.sl 1 d)
/-- r[i][j] := x, r owned at two levels -/
def stI2 (x : D) (i j : D) (d : D) : Option D := (ixD d i).bind fun r => (stI r j x).bind fun r => stI d i r
def isL : D → Bool
  | .list _ => true
  | _ => false
def appD (x : D) : D → Option D
  | .list xs => if decide (xs.length < sizeLine) then some (.list (xs ++ [x])) else none
  | _ => none

def set1 (s : Nat) (mi : Ev → Option ((D × Nat) × Ev)) (x : D) (ρ : Ev) : Option Ev := (ow1 s ρ).bind fun _ => mb (mi ρ) fun y ρ => (ow1 s ρ).bind fun d => (stI d y.1 x).map fun d => up1 s d ρ
def set2 (s : Nat) (mi mj : Ev → Option ((D × Nat) × Ev)) (x : D) (ρ : Ev) : Option Ev := (ow2 s ρ).bind fun _ => mb (mi ρ) fun y ρ => (ow2 s ρ).bind fun d => (ixD d y.1).bind fun _ => mb (mj (wp ρ [s])) fun z ρ' =>
  (stI2 x y.1 z.1 d).map fun d => st (bk ρ [s] ρ') s (.sl 2 d)
mutual
def ex (Γ : Gm) : S → Ev → Option Out
  | .set keep i e, ρ => mb (ev Γ e ρ) (setS keep i)
  | .tset tg e, ρ => mb (ev Γ e ρ) fun x ρ => (bnd tg x.1 ρ).map .nx
  | .par i j a b, ρ => mb (ev Γ a ρ) fun x ρ => mb (ev Γ b ρ) fun y ρ => if setable (gt ρ i) && setable (gt ρ j) then some (.nx (st (st ρ i (.sl 0 x.1)) j (.sl 0 y.1))) else none
  | .par3 i j l a b c, ρ => mb (ev Γ a ρ) fun x ρ => mb (ev Γ b ρ) fun y ρ => mb (ev Γ c ρ) fun z ρ =>
      if setable (gt ρ i) && setable (gt ρ j) && setable (gt ρ l) then some (.nx (st (st (st ρ i (.sl 0 x.1)) j (.sl 0 y.1)) l (.sl 0 z.1))) else none
  | .aug o i e, ρ => (match gt ρ i with | .sl 0 d => some d | _ => none).bind fun d => mb (ev Γ e ρ) fun y ρ => (augD o d y.1).map fun d => .nx (st ρ i (.sl 0 d))
  | .ixset s i e, ρ => mb (ev Γ e ρ) fun x ρ => (set1 s (ev Γ i) x.1 ρ).map .nx
  | .pst e s i s' i', ρ => mb (ev Γ e ρ) fun x ρ => match x.1 with
    | .tuple [a, b] => (set1 s (ev Γ i) a ρ).bind fun ρ => (set1 s' (ev Γ i') b ρ).map .nx
    | _ => none
  | .ixset2 s i j e, ρ => mb (ev Γ e ρ) fun x ρ => (set2 s (ev Γ i) (ev Γ j) x.1 ρ).map .nx
  | .ixset22 s i j i' j' e, ρ => mb (ev Γ e ρ) fun x ρ => (set2 s (ev Γ i) (ev Γ j) x.1 ρ).bind fun ρ => (set2 s (ev Γ i') (ev Γ j') x.1 ρ).map .nx
  | .app s e, ρ => (ow1 s ρ).bind fun d0 => if isL d0 then mb (ev Γ e ρ) fun x ρ => (ow1 s ρ).bind fun d => ((appD x.1 d).map fun d => .nx (up1 s d ρ)) else none
  | .expr e, ρ => mb (ev Γ e ρ) fun _ ρ => some (.nx ρ)
  | .ret keep e, ρ => mb (ev Γ e ρ) fun x ρ => some (.rt x.1 (if keep then x.2 else 0) ρ)
  | .retN, ρ => some (.rt .none 0 ρ)
  | .ite t a b, ρ => mb (evT Γ t ρ) fun c ρ => if c then exs Γ a ρ else exs Γ b ρ
  | .for kill tg it body, ρ => mb (evI Γ it ρ) fun xs ρ => forL kill (bnd tg) (exs Γ body) xs (wp ρ kill)
  | .while fuel kill t body, ρ => whileL kill (evT Γ t) (exs Γ body) fuel (wp ρ kill)
  | .brk, ρ => some (.bk ρ)
  | .cont, ρ => some (.ct ρ)
  | .pass, ρ => some (.nx ρ)
  | .never, _ => none
def exs (Γ : Gm) : Ss → Ev → Option Out
  | .nil, ρ => some (.nx ρ)
  | .cons s ss, ρ => (ex Γ s ρ).bind fun o => match o with
    | .nx ρ => exs Γ ss ρ
    | o => some o
end

/-- a def: its slots are n, its first argument is changed for the caller where io says so -/
def ioOf : Bool → Ev → Option D
  | false, _ => some .none
  | true, .io d :: _ => some d
  | true, _ => none
def outF (io : Bool) : Out → Option FR
  | .nx ρ => (ioOf io ρ).map fun x => ⟨.none, 0, x⟩
  | .rt d k ρ => (ioOf io ρ).map fun x => ⟨d, k, x⟩
  | _ => none
def ent (io : Bool) (n : Nat) : List D → Ev
  | [] => List.replicate n .un
  | d :: ds => (if io then Sl.io d else .sl 0 d) :: (ds.map (Sl.sl 0) ++ List.replicate (n - ds.length - 1) .un)
/-- what a def reckons -/
def run (Γ : Gm) (io : Bool) (np n : Nat) (body : Ss) : Fn := fun ds => if ds.length = np then (exs Γ body (ent io n ds)).bind (outF io) else none
end DI

/-! DI2: how data lie in the abstract heap; the relation between slots and data; freezing, hiding. -/
namespace DI
open PySem PySem.Spec PyProof.Rows L2

mutual
inductive Rp (K : PySem.W.Frag) (G : Hp) : V → D → Prop
  | non : Rp K G .non .none
  | bl (b : Bool) : Rp K G (.bl b) (.bool b)
  | int (i : Int) : Rp K G (.int i) (.int i)
  | str (x : Str) : Rp K G (.str x) (.str x)
  | lst {a : Addr} {xs : List V} {ds : List D} : G a = some (.lst xs) → xs.length ≤ sizeLine → RpA K G xs ds → Rp K G (.ref a) (.list ds)
  | tup {a : Addr} {xs : List V} {ds : List D} : G a = some (.tup xs) → xs.length ≤ sizeLine → RpA K G xs ds → Rp K G (.ref a) (.tuple ds)
  | scr {a : Addr} {xs : List V} {ds : List D} : SqL K G a xs → xs.length ≤ sizeLine → RpA K G xs ds → Rp K G (.ref a) (.dict [(.none, .list ds)])
  | dK {a : Addr} {xs : List (L2.Key × V)} {ds : List (D × D)} : G a = some (.dK xs) → xs.length ≤ sizeLine → RpK K G xs ds → Rp K G (.ref a) (.dict ((.bool true, .none) :: ds))
  | dT {a : Addr} {xs : List (List L2.Key × V)} {ds : List (D × D)} : G a = some (.dT xs) → xs.length ≤ sizeLine → RpT K G xs ds → Rp K G (.ref a) (.dict ((.bool false, .none) :: ds))
inductive RpA (K : PySem.W.Frag) (G : Hp) : List V → List D → Prop
  | nil : RpA K G [] []
  | cons {v : V} {d : D} {vs : List V} {ds : List D} : Rp K G v d → RpA K G vs ds → RpA K G (v :: vs) (d :: ds)
inductive RpK (K : PySem.W.Frag) (G : Hp) : List (L2.Key × V) → List (D × D) → Prop
  | nil : RpK K G [] []
  | cons {k : L2.Key} {v : V} {d : D} {vs : List (L2.Key × V)} {ds : List (D × D)} : Rp K G v d → RpK K G vs ds → RpK K G ((k, v) :: vs) ((keyD k, d) :: ds)
inductive RpT (K : PySem.W.Frag) (G : Hp) : List (List L2.Key × V) → List (D × D) → Prop
  | nil : RpT K G [] []
  | cons {k : List L2.Key} {v : V} {d : D} {vs : List (List L2.Key × V)} {ds : List (D × D)} : Rp K G v d → RpT K G vs ds → RpT K G ((k, v) :: vs) ((.tuple (k.map keyD), d) :: ds)
end

section
variable {K : PySem.W.Frag} {G G' : Hp}
theorem sqT_mono {H H' : Hp} {a : Addr} {xs : List V} (e : Same H H') (h : SqT K H a xs) : SqT K H' a xs := by
  rcases h with (h | ⟨o, h⟩) | h
  · exact .inl (.inl (e _ _ h))
  · exact .inl (.inr ⟨o, e _ _ h⟩)
  · exact .inr h
mutual
theorem Rp.mono (s : Same G G') : ∀ {v : V} {d : D}, Rp K G v d → Rp K G' v d
  | _, _, .non => .non
  | _, _, .bl b => .bl b
  | _, _, .int i => .int i
  | _, _, .str x => .str x
  | _, _, .lst h l a => .lst (s _ _ h) l (RpA.mono s a)
  | _, _, .scr h l a => .scr (s.seq h) l (RpA.mono s a)
  | _, _, .tup h l a => .tup (s _ _ h) l (RpA.mono s a)
  | _, _, .dK h l a => .dK (s _ _ h) l (RpK.mono s a)
  | _, _, .dT h l a => .dT (s _ _ h) l (RpT.mono s a)
theorem RpA.mono (s : Same G G') : ∀ {v : List V} {d : List D}, RpA K G v d → RpA K G' v d
  | _, _, .nil => .nil
  | _, _, .cons h t => .cons (Rp.mono s h) (RpA.mono s t)
theorem RpK.mono (s : Same G G') : ∀ {v : List (L2.Key × V)} {d : List (D × D)}, RpK K G v d → RpK K G' v d
  | _, _, .nil => .nil
  | _, _, .cons h t => .cons (Rp.mono s h) (RpK.mono s t)
theorem RpT.mono (s : Same G G') : ∀ {v : List (List L2.Key × V)} {d : List (D × D)}, RpT K G v d → RpT K G' v d
  | _, _, .nil => .nil
  | _, _, .cons h t => .cons (Rp.mono s h) (RpT.mono s t)
end
theorem RpA.length : ∀ {v : List V} {d : List D}, RpA K G v d → v.length = d.length
  | _, _, .nil => rfl
  | _, _, .cons _ t => congrArg (· + 1) t.length
theorem RpA.get : ∀ {v : List V} {d : List D} {i : Nat} {y : D}, RpA K G v d → d[i]? = some y → ∃ x, v[i]? = some x ∧ Rp K G x y
  | _, _, _, _, .nil, e => by simp at e
  | _, _, 0, _, .cons r _, e => by simp at e; subst e; exact ⟨_, rfl, r⟩
  | _, _, i + 1, y, .cons _ t, e => by
    obtain ⟨u, h1, h2⟩ := RpA.get (i := i) (y := y) t (by simpa using e)
    exact ⟨u, by simpa using h1, h2⟩
theorem RpA.getV {v : List V} {d : List D} {i : Nat} {x : V} (r : RpA K G v d) (e : v[i]? = some x) : ∃ y, d[i]? = some y ∧ Rp K G x y := by
  have hl : i < v.length := (List.getElem?_eq_some_iff.mp e).1
  have hd : d[i]? = some (d[i]'(r.length ▸ hl)) := by simp
  obtain ⟨x', h1, h2⟩ := r.get hd
  rw [e] at h1; cases h1
  exact ⟨_, hd, h2⟩
theorem RpA.append : ∀ {v w : List V} {d e : List D}, RpA K G v d → RpA K G w e → RpA K G (v ++ w) (d ++ e)
  | _, _, _, _, .nil, s => s
  | _, _, _, _, .cons r t, s => .cons r (RpA.append t s)
theorem RpA.take : ∀ {v : List V} {d : List D} (n : Nat), RpA K G v d → RpA K G (v.take n) (d.take n)
  | _, _, 0, _ => .nil
  | _, _, _ + 1, .nil => .nil
  | _, _, n + 1, .cons r t => .cons r (RpA.take n t)
theorem RpA.drop : ∀ {v : List V} {d : List D} (n : Nat), RpA K G v d → RpA K G (v.drop n) (d.drop n)
  | _, _, 0, r => r
  | _, _, _ + 1, .nil => .nil
  | _, _, n + 1, .cons _ t => RpA.drop n t
theorem RpA.set {x : V} {y : D} (r : Rp K G x y) : ∀ {v : List V} {d : List D} (i : Nat), RpA K G v d → RpA K G (v.set i x) (d.set i y)
  | _, _, _, .nil => .nil
  | _, _, 0, .cons _ t => .cons r t
  | _, _, i + 1, .cons q t => .cons q (RpA.set r i t)
theorem RpA.cut {v : List V} {d : List D} (r : RpA K G v d) (lo hi : Option Int) : RpA K G (cutV v lo hi) (cutD d lo hi) := by
  unfold cutV cutD
  rw [r.length]
  exact (r.drop _).take _
theorem RpA.reverse : ∀ {v : List V} {d : List D}, RpA K G v d → RpA K G v.reverse d.reverse
  | _, _, .nil => .nil
  | _, _, .cons r t => by
    rw [List.reverse_cons, List.reverse_cons]
    exact (RpA.reverse t).append (.cons r .nil)
/-- ints -/
theorem RpA.ints : ∀ {v : List V} {d : List D} {ns : List Int}, RpA K G v d → intsOf d = some ns → v = ns.map V.int
  | _, _, ns, .nil, e => by cases e; rfl
  | _, _, ns, .cons r t, e => by
    cases r with
    | int i =>
      rename_i ds
      unfold intsOf at e
      cases h : intsOf ds with
      | none => rw [h] at e; cases e
      | some m =>
        rw [h] at e; cases e
        rw [List.map_cons, RpA.ints t h]
    | _ => simp [intsOf] at e
theorem RpA.bools : ∀ {v : List V} {d : List D} {ns : List Bool}, RpA K G v d → boolsOf d = some ns → v = ns.map V.bl
  | _, _, ns, .nil, e => by cases e; rfl
  | _, _, ns, .cons r t, e => by
    cases r with
    | bl i =>
      rename_i ds
      unfold boolsOf at e
      cases h : boolsOf ds with
      | none => rw [h] at e; cases e
      | some m =>
        rw [h] at e; cases e
        rw [List.map_cons, RpA.bools t h]
    | _ => simp [boolsOf] at e
theorem rpA_ints : ∀ ns : List Int, RpA K G (ns.map V.int) (ns.map PyData.int)
  | [] => .nil
  | n :: r => .cons (.int n) (rpA_ints r)

/-! ### ownership -/
inductive OwA (P : V → D → List Addr → Prop) : List V → List D → List (List Addr) → Prop
  | nil : OwA P [] [] []
  | cons {v : V} {d : D} {f : List Addr} {vs : List V} {ds : List D} {fs : List (List Addr)} : P v d f → OwA P vs ds fs → OwA P (v :: vs) (d :: ds) (f :: fs)
theorem OwA.imp {P P' : V → D → List Addr → Prop} : ∀ {vs : List V} {ds : List D} {fs : List (List Addr)}, OwA P vs ds fs → (∀ v d f, f ∈ fs → P v d f → P' v d f) → OwA P' vs ds fs
  | _, _, _, .nil, _ => .nil
  | _, _, _, .cons h t, g => .cons (g _ _ _ (by simp) h) (t.imp fun v d f hf => g v d f (by simp [hf]))
theorem OwA.length {P : V → D → List Addr → Prop} : ∀ {vs : List V} {ds : List D} {fs : List (List Addr)}, OwA P vs ds fs → vs.length = ds.length ∧ fs.length = ds.length
  | _, _, _, .nil => ⟨rfl, rfl⟩
  | _, _, _, .cons _ t => ⟨congrArg (· + 1) t.length.1, congrArg (· + 1) t.length.2⟩
theorem OwA.snoc {P : V → D → List Addr → Prop} {v : V} {d : D} {f : List Addr} (p : P v d f) : ∀ {vs : List V} {ds : List D} {fs : List (List Addr)}, OwA P vs ds fs → OwA P (vs ++ [v]) (ds ++ [d]) (fs ++ [f])
  | _, _, _, .nil => .cons p .nil
  | _, _, _, .cons h t => .cons h (t.snoc p)
theorem OwA.get {P : V → D → List Addr → Prop} : ∀ {vs : List V} {ds : List D} {fs : List (List Addr)} {i : Nat} {d : D}, OwA P vs ds fs → ds[i]? = some d → ∃ v f, vs[i]? = some v ∧ fs[i]? = some f ∧ P v d f
  | _, _, _, _, _, .nil, e => by simp at e
  | _, _, _, 0, _, .cons h _, e => by simp at e; subst e; exact ⟨_, _, rfl, rfl, h⟩
  | _, _, _, i + 1, d, .cons _ t, e => by
    obtain ⟨v, f, h1, h2, h3⟩ := t.get (i := i) (d := d) (by simpa using e)
    exact ⟨v, f, by simpa using h1, by simpa using h2, h3⟩
theorem OwA.set {P : V → D → List Addr → Prop} {v : V} {d : D} {f : List Addr} (p : P v d f) : ∀ {vs : List V} {ds : List D} {fs : List (List Addr)} (i : Nat), OwA P vs ds fs → OwA P (vs.set i v) (ds.set i d) (fs.set i f)
  | _, _, _, _, .nil => .nil
  | _, _, _, 0, .cons _ t => .cons p t
  | _, _, _, i + 1, .cons h t => .cons h (t.set p i)

/-- at v stands d, of which the upper k levels are owned: the addresses fp -/
def Ow (K : PySem.W.Frag) (G H : Hp) : Nat → V → D → List Addr → Prop
  | 0, v, d, fp => Rp K G v d ∧ fp = []
  | k + 1, v, d, fp => ∃ (a : Addr) (fs : List (List Addr)), v = .ref a ∧ fp = a :: fs.flatten ∧
      ((∃ vs ds, H a = some (.lst vs) ∧ vs.length ≤ sizeLine ∧ d = .list ds ∧ OwA (Ow K G H k) vs ds fs) ∨
       (k = 0 ∧ fs = [] ∧ ∃ vs ds, H a = some (.dK vs) ∧ vs.length ≤ sizeLine ∧ d = .dict ((.bool true, .none) :: ds) ∧ RpK K G vs ds) ∨
       (k = 0 ∧ fs = [] ∧ ∃ vs ds, H a = some (.dT vs) ∧ vs.length ≤ sizeLine ∧ d = .dict ((.bool false, .none) :: ds) ∧ RpT K G vs ds))
theorem Ow.mono {H H' : Hp} (s : Same G G') : ∀ (k : Nat) {v : V} {d : D} {fp : List Addr}, Ow K G H k v d fp → (∀ a ∈ fp, ∀ o, H a = some o → H' a = some o) → Ow K G' H' k v d fp
  | 0, _, _, _, ⟨h, e⟩, _ => ⟨h.mono s, e⟩
  | k + 1, _, _, _, ⟨a, fs, e1, e2, h⟩, ke => by
    refine ⟨a, fs, e1, e2, ?_⟩
    subst e2
    rcases h with ⟨vs, ds, h1, h2, h3, h4⟩ | ⟨h0, h00, vs, ds, h1, h2, h3, h4⟩ | ⟨h0, h00, vs, ds, h1, h2, h3, h4⟩
    · refine .inl ⟨vs, ds, ke a (by simp) _ h1, h2, h3, h4.imp fun v d f hf p => Ow.mono s k p fun b hb => ke b ?_⟩
      exact List.mem_cons_of_mem _ (List.mem_flatten.mpr ⟨f, hf, hb⟩)
    · exact .inr (.inl ⟨h0, h00, vs, ds, ke a (by simp) _ h1, h2, h3, h4.mono s⟩)
    · exact .inr (.inr ⟨h0, h00, vs, ds, ke a (by simp) _ h1, h2, h3, h4.mono s⟩)
theorem Ow.there {H : Hp} : ∀ (k : Nat) {v : V} {d : D} {fp : List Addr}, Ow K G H k v d fp → ∀ a ∈ fp, H a ≠ none
  | 0, _, _, _, ⟨_, e⟩, a, ha => by rw [e] at ha; cases ha
  | k + 1, _, _, _, ⟨a, fs, e1, e2, h⟩, b, hb => by
    subst e2
    rcases h with ⟨vs, ds, h1, h2, h3, h4⟩ | ⟨h0, h00, vs, ds, h1, _⟩ | ⟨h0, h00, vs, ds, h1, _⟩
    · rcases List.mem_cons.mp hb with e | hb
      · rw [e, h1]; simp
      · obtain ⟨f, hf, hb⟩ := List.mem_flatten.mp hb
        have go : ∀ {vs : List V} {ds : List D} {fs : List (List Addr)}, OwA (Ow K G H k) vs ds fs → f ∈ fs → H b ≠ none := by
          intro vs ds fs h
          induction h with
          | nil => intro z; cases z
          | cons p t ih =>
            intro z
            rcases List.mem_cons.mp z with z | z
            · subst z; exact Ow.there k p b hb
            · exact ih z
        exact go h4 hf
    · subst h00; simp at hb; rw [hb, h1]; simp
    · subst h00; simp at hb; rw [hb, h1]; simp
/-- what is owned is no tuple -/
theorem Ow.ntup {H : Hp} : ∀ (k : Nat) {v : V} {d : D} {fp : List Addr}, Ow K G H k v d fp → ∀ a ∈ fp, ∀ xs, H a ≠ some (.tup xs)
  | 0, _, _, _, ⟨_, e⟩, a, ha, _ => by rw [e] at ha; cases ha
  | k + 1, _, _, _, ⟨a, fs, e1, e2, h⟩, b, hb, ys => by
    subst e2
    rcases h with ⟨vs, ds, h1, h2, h3, h4⟩ | ⟨h0, h00, vs, ds, h1, _⟩ | ⟨h0, h00, vs, ds, h1, _⟩
    · rcases List.mem_cons.mp hb with e | hb
      · rw [e, h1]; intro z; cases z
      · obtain ⟨f, hf, hb⟩ := List.mem_flatten.mp hb
        have go : ∀ {vs : List V} {ds : List D} {fs : List (List Addr)}, OwA (Ow K G H k) vs ds fs → f ∈ fs → H b ≠ some (.tup ys) := by
          intro vs ds fs h
          induction h with
          | nil => intro z; cases z
          | cons p t ih =>
            intro z
            rcases List.mem_cons.mp z with z | z
            · subst z; exact Ow.ntup k p b hb ys
            · exact ih z
        exact go h4 hf
    · subst h00; simp at hb; rw [hb, h1]; intro z; cases z
    · subst h00; simp at hb; rw [hb, h1]; intro z; cases z
/-- what is owned is shared from now on -/
theorem Ow.freeze {H : Hp} (s : Same G G') : ∀ (k : Nat) {v : V} {d : D} {fp : List Addr}, Ow K G H k v d fp → (∀ a ∈ fp, G' a = H a) → Rp K G' v d
  | 0, _, _, _, ⟨h, _⟩, _ => h.mono s
  | k + 1, _, _, _, ⟨a, fs, e1, e2, h⟩, ke => by
    subst e1 e2
    have ka := ke a (by simp)
    rcases h with ⟨vs, ds, h1, h2, h3, h4⟩ | ⟨h0, h00, vs, ds, h1, h2, h3, h4⟩ | ⟨h0, h00, vs, ds, h1, h2, h3, h4⟩
    · subst h3
      refine .lst (ka.trans h1) h2 ?_
      have go : ∀ {vs : List V} {ds : List D} {fs : List (List Addr)}, OwA (Ow K G H k) vs ds fs → (∀ f ∈ fs, ∀ b ∈ f, G' b = H b) → RpA K G' vs ds := by
        intro vs ds fs h
        induction h with
        | nil => intro _; exact .nil
        | cons p t ih => intro z; exact .cons (Ow.freeze s k p (z _ (by simp))) (ih fun f hf => z f (by simp [hf]))
      exact go h4 fun f hf b hb => ke b (List.mem_cons_of_mem _ (List.mem_flatten.mpr ⟨f, hf, hb⟩))
    · subst h3; exact .dK (ka.trans h1) h2 (h4.mono s)
    · subst h3; exact .dT (ka.trans h1) h2 (h4.mono s)

/-! ### the relation -/
/-- fixed through a def: what is protected, what was shared and what stood at the entry, the argument that is changed -/
structure Bd where
  R : Hp
  G0 : Hp
  H0 : Hp
  io : Option Addr
  n : Nat
def SlOk (K : PySem.W.Frag) (B : Bd) (G H : Hp) (x : Option (Option V)) (s : Sl) (fp : List Addr) : Prop := match s with
  | .un => fp = []
  | .sl k d => ∃ v, x = some (some v) ∧ Ow K G H k v d fp ∧ ∀ a ∈ fp, B.H0 a = none
  | .io d => ∃ a, x = some (some (.ref a)) ∧ B.io = some a ∧ fp = [a] ∧ Ow K G H 1 (.ref a) d [a]
structure Rel (K : PySem.W.Frag) (B : Bd) (σ : L2.St) (H : Hp) (ρ : Ev) (G : Hp) (fp : Nat → List Addr) : Prop where
  len : σ.length = B.n
  lenR : ρ.length = B.n
  sl : ∀ i, SlOk K B G H σ[i]? (gt ρ i) (fp i)
  nd : ∀ i, (fp i).Nodup
  dj : ∀ i j, i ≠ j → ∀ a ∈ fp i, a ∉ fp j
  own : ∀ i, ∀ a ∈ fp i, G a = none ∧ B.R a = none
  gh : Same G H
  rh : Same B.R H
  fr : ∀ a, G a ≠ none → (∃ xs, G a = some (.tup xs)) ∨ B.G0 a ≠ none ∨ (B.H0 a = none ∧ B.R a = none)
  g0 : Same B.G0 G
  hh : ∀ a, B.H0 a ≠ none → H a ≠ none
/-- what an expression hands on: owned, apart from all slots, new since the entry -/
structure OwN (K : PySem.W.Frag) (B : Bd) (G H : Hp) (k : Nat) (v : V) (d : D) (fp : Nat → List Addr) (fv : List Addr) : Prop where
  ow : Ow K G H k v d fv
  nd : fv.Nodup
  ap : ∀ i, ∀ a ∈ fv, a ∉ fp i
  own : ∀ a ∈ fv, G a = none ∧ B.R a = none ∧ B.H0 a = none

theorem gt_st_same {s : Sl} : ∀ {ρ : Ev} {i : Nat}, i < ρ.length → gt (st ρ i s) i = s
  | _ :: _, 0, _ => rfl
  | _ :: r, i + 1, h => gt_st_same (ρ := r) (by simpa using h)
theorem st_st {s s' : Sl} : ∀ {ρ : Ev} {i : Nat}, st (st ρ i s) i s' = st ρ i s'
  | [], _ => rfl
  | _ :: _, 0 => rfl
  | _ :: r, i + 1 => congrArg _ (st_st (ρ := r))
theorem gt_st_ne {s : Sl} : ∀ {ρ : Ev} {i j : Nat}, j ≠ i → gt (st ρ i s) j = gt ρ j
  | [], _, _, _ => rfl
  | _ :: _, 0, 0, h => absurd rfl h
  | _ :: _, 0, _ + 1, _ => rfl
  | _ :: _, _ + 1, 0, _ => rfl
  | _ :: r, i + 1, j + 1, h => gt_st_ne (ρ := r) (fun e => h (congrArg (· + 1) e))
theorem st_length {s : Sl} : ∀ {ρ : Ev} {i : Nat}, (st ρ i s).length = ρ.length
  | [], _ => rfl
  | _ :: _, 0 => rfl
  | _ :: r, i + 1 => congrArg (· + 1) (st_length (ρ := r))
theorem gt_out : ∀ {ρ : Ev} {i : Nat}, ρ.length ≤ i → gt ρ i = .un
  | [], _, _ => rfl
  | _ :: r, 0, h => by simp at h
  | _ :: r, i + 1, h => gt_out (ρ := r) (by simpa using h)
theorem gt_lt {ρ : Ev} {i : Nat} (h : gt ρ i ≠ .un) : i < ρ.length := by
  by_cases c : i < ρ.length
  · exact c
  · exact absurd (gt_out (by omega)) h
theorem st_gt : ∀ {ρ : Ev} {i : Nat}, st ρ i (gt ρ i) = ρ
  | [], _ => rfl
  | _ :: _, 0 => rfl
  | _ :: r, i + 1 => congrArg _ (st_gt (ρ := r))
def fset (fp : Nat → List Addr) (i : Nat) (f : List Addr) : Nat → List Addr := fun j => if j = i then f else fp j
theorem fset_same {fp : Nat → List Addr} {i : Nat} {f : List Addr} : fset fp i f i = f := by unfold fset; rw [if_pos rfl]
theorem fset_ne {fp : Nat → List Addr} {i j : Nat} {f : List Addr} (h : j ≠ i) : fset fp i f j = fp j := by unfold fset; rw [if_neg h]

variable {B : Bd} {σ σ' : L2.St} {H H' : Hp} {ρ ρ' : Ev} {fp : Nat → List Addr}
theorem SlOk.mono {x : Option (Option V)} {s : Sl} {f : List Addr} (h : SlOk K B G H x s f) (sg : Same G G') (ke : ∀ a ∈ f, ∀ o, H a = some o → H' a = some o) : SlOk K B G' H' x s f := by
  cases s with
  | un => exact h
  | sl k d => obtain ⟨v, e, o, z⟩ := h; exact ⟨v, e, o.mono sg k ke, z⟩
  | io d =>
    obtain ⟨a, e, e2, e3, o⟩ := h
    exact ⟨a, e, e2, e3, o.mono sg 1 fun b hb => ke b (by rw [e3]; exact hb)⟩
theorem SlOk.there {x : Option (Option V)} {s : Sl} {f : List Addr} (h : SlOk K B G H x s f) : ∀ a ∈ f, H a ≠ none := by
  cases s with
  | un => intro a ha; rw [show f = [] from h] at ha; cases ha
  | sl k d => obtain ⟨v, e, o, z⟩ := h; exact o.there k
  | io d => obtain ⟨a, e, e2, e3, o⟩ := h; intro b hb; rw [e3] at hb; exact o.there 1 b hb
theorem SlOk.ntup {x : Option (Option V)} {s : Sl} {f : List Addr} (h : SlOk K B G H x s f) : ∀ a ∈ f, ∀ xs, H a ≠ some (.tup xs) := by
  cases s with
  | un => intro a ha; rw [show f = [] from h] at ha; cases ha
  | sl k d => obtain ⟨v, e, o, z⟩ := h; exact o.ntup k
  | io d => obtain ⟨a, e, e2, e3, o⟩ := h; intro b hb; rw [e3] at hb; exact o.ntup 1 b hb
theorem SlOk.ntup1 {x : Option (Option V)} {s : Sl} {f : List Addr} (h : SlOk K B G H x s f) (a : Addr) (ha : a ∈ f) (ke : ∀ o, H a = some o → H' a = some o) (xs : List V) : H' a ≠ some (.tup xs) := fun z => by
  cases q : H a with
  | none => exact h.there a ha q
  | some o =>
    have := ke o q
    rw [z] at this
    cases this
    exact h.ntup a ha xs q
theorem SlOk.ntup' {x : Option (Option V)} {s : Sl} {f : List Addr} (h : SlOk K B G H x s f) (a : Addr) (ha : a ∈ f) (ke : Same H H') (xs : List V) : H' a ≠ some (.tup xs) := h.ntup1 a ha (ke a) xs
/-- tuples that stand in the heap are shared, if wanted -/
theorem Rel.addT (r : Rel K B σ H ρ G fp) {G2 : Hp} (s : Same G G2) (s2 : Same G2 H) (ht : ∀ a, G2 a ≠ none → G a ≠ none ∨ ∃ xs, G2 a = some (.tup xs)) : Rel K B σ H ρ G2 fp := by
  refine ⟨r.len, r.lenR, fun i => (r.sl i).mono s fun a _ o h => h, r.nd, r.dj, fun i a ha => ⟨?_, (r.own i a ha).2⟩, s2, r.rh, fun a h => ?_, r.g0.trans s, r.hh⟩
  · cases e : G2 a with
    | none => rfl
    | some o =>
      rcases ht a (by rw [e]; simp) with z | ⟨xs, z⟩
      · exact absurd (r.own i a ha).1 z
      · exact absurd (s2 a _ z) ((r.sl i).ntup a ha xs)
  · rcases ht a h with z | z
    · cases q : G a with
      | none => exact absurd q z
      | some o =>
        rcases r.fr a z with ⟨xs, y⟩ | y | y
        · exact .inl ⟨xs, s a _ y⟩
        · exact .inr (.inl y)
        · exact .inr (.inr y)
    · exact .inl z
/-- nothing that was tracked has changed -/
theorem Rel.grow (r : Rel K B σ H ρ G fp) (s : Same H H') : Rel K B σ H' ρ G fp :=
  ⟨r.len, r.lenR, fun i => (r.sl i).mono (Same.refl G) fun a _ o h => s a o h, r.nd, r.dj, r.own, r.gh.trans s, r.rh.trans s, r.fr, r.g0, fun a h => by
    cases e : H a with
    | none => exact absurd e (r.hh a h)
    | some o => rw [s a o e]; simp⟩
theorem OwN.grow {k : Nat} {v : V} {d : D} {fv : List Addr} (o : OwN K B G H k v d fp fv) (s : Same H H') : OwN K B G H' k v d fp fv :=
  ⟨o.ow.mono (Same.refl G) k fun a _ => s a, o.nd, o.ap, o.own⟩
theorem OwN.val {v : V} {d : D} (h : Rp K G v d) : OwN K B G H 0 v d fp [] := ⟨⟨h, rfl⟩, List.nodup_nil, fun _ _ z => (by cases z), fun _ z => (by cases z)⟩
/-- what an expression hands on is shared from now on -/
theorem Rel.freezeV {k : Nat} {v : V} {d : D} {fv : List Addr} (r : Rel K B σ H ρ G fp) (o : OwN K B G H k v d fp fv) : ∃ G', Same G G' ∧ Rel K B σ H ρ G' fp ∧ Rp K G' v d := by
  have s : Same G (fun a => if a ∈ fv then H a else G a) := fun b x e => by
    have hb : b ∉ fv := fun z => by rw [(o.own b z).1] at e; cases e
    simp [hb, e]
  refine ⟨_, s, ⟨r.len, r.lenR, fun i => (r.sl i).mono s fun a _ o h => h, r.nd, r.dj, fun i a ha => ?_, fun b x e => ?_, r.rh, fun a h => ?_, r.g0.trans s, r.hh⟩, o.ow.freeze s k fun a ha => by simp [ha]⟩
  · have hb : a ∉ fv := fun z => o.ap i a z ha
    simp only [hb, if_false]
    exact r.own i a ha
  · by_cases hb : b ∈ fv
    · simpa [hb] using e
    · simp only [hb, if_false] at e; exact r.gh b x e
  · by_cases hb : a ∈ fv
    · exact .inr (.inr ⟨(o.own a hb).2.2, (o.own a hb).2.1⟩)
    · simp only [hb, if_false] at h ⊢; exact r.fr a h
/-- fewer slots are told of -/
theorem Rel.sub (r : Rel K B σ H ρ G fp) (hl : σ'.length = B.n) (hr : ρ'.length = B.n) (h : ∀ i, gt ρ' i = .un ∨ (gt ρ' i = gt ρ i ∧ σ'[i]? = σ[i]?)) :
    Rel K B σ' H ρ' G (fun i => match gt ρ' i with | .un => [] | _ => fp i) := by
  have hs : ∀ i a, a ∈ (match gt ρ' i with | .un => [] | _ => fp i) → a ∈ fp i := fun i a => by
    split
    · intro z; cases z
    · exact fun z => z
  refine ⟨hl, hr, fun i => ?_, fun i => ?_, fun i j hij a ha hb => r.dj i j hij a (hs i a ha) (hs j a hb), fun i a ha => r.own i a (hs i a ha), r.gh, r.rh, r.fr, r.g0, r.hh⟩
  · rcases h i with e | ⟨e, e2⟩
    · rw [e]; rfl
    · have q := r.sl i
      rw [e, e2]
      cases hg : gt ρ i with
      | un => rfl
      | sl k d => rw [hg] at q; exact q
      | io d => rw [hg] at q; exact q
  · show List.Nodup (match gt ρ' i with | .un => [] | _ => fp i)
    split
    · exact List.nodup_nil
    · exact r.nd i
/-- a slot is stored -/
theorem Rel.set {i k : Nat} {v : V} {d : D} {fv : List Addr} (r : Rel K B σ H ρ G fp) (o : OwN K B G H k v d fp fv) (hi : i < B.n) : Rel K B (σ.set i (some v)) H (st ρ i (.sl k d)) G (fset fp i fv) := by
  refine ⟨by rw [List.length_set]; exact r.len, by rw [st_length]; exact r.lenR, fun j => ?_, fun j => ?_, fun j l hjl a ha hb => ?_, fun j a ha => ?_, r.gh, r.rh, r.fr, r.g0, r.hh⟩
  · by_cases hj : j = i
    · subst hj
      rw [gt_st_same (by rw [r.lenR]; exact hi), fset_same, List.getElem?_set_self (by rw [r.len]; exact hi)]
      exact ⟨v, rfl, o.ow, fun a ha => (o.own a ha).2.2⟩
    · rw [gt_st_ne hj, fset_ne hj, List.getElem?_set_ne (Ne.symm hj)]
      exact r.sl j
  · by_cases hj : j = i
    · subst hj; rw [fset_same]; exact o.nd
    · rw [fset_ne hj]; exact r.nd j
  · by_cases hj : j = i
    · subst hj
      rw [fset_same] at ha
      rw [fset_ne (Ne.symm hjl)] at hb
      exact o.ap l a ha hb
    · rw [fset_ne hj] at ha
      by_cases hl : l = i
      · subst hl; rw [fset_same] at hb; exact o.ap j a hb ha
      · rw [fset_ne hl] at hb; exact r.dj j l hjl a ha hb
  · by_cases hj : j = i
    · subst hj; rw [fset_same] at ha; exact ⟨(o.own a ha).1, (o.own a ha).2.1⟩
    · rw [fset_ne hj] at ha; exact r.own j a ha
/-- a slot's thing is shared from now on -/
theorem Rel.freezeS {i k : Nat} {d : D} (r : Rel K B σ H ρ G fp) (hg : gt ρ i = .sl k d) : ∃ G' v, Same G G' ∧ Rel K B σ H (st ρ i (.sl 0 d)) G' (fset fp i []) ∧ σ[i]? = some (some v) ∧ Rp K G' v d := by
  have q := r.sl i
  rw [hg] at q
  obtain ⟨v, e, ow, hn⟩ := q
  have hi : i < ρ.length := gt_lt (by rw [hg]; intro z; cases z)
  have r1 : Rel K B σ H (st ρ i .un) G (fset fp i []) := by
    refine ⟨r.len, by rw [st_length]; exact r.lenR, fun j => ?_, fun j => ?_, fun j l hjl a ha hb => ?_, fun j a ha => ?_, r.gh, r.rh, r.fr, r.g0, r.hh⟩
    · by_cases hj : j = i
      · subst hj; rw [gt_st_same hi, fset_same]; rfl
      · rw [gt_st_ne hj, fset_ne hj]; exact r.sl j
    · by_cases hj : j = i
      · subst hj; rw [fset_same]; exact List.nodup_nil
      · rw [fset_ne hj]; exact r.nd j
    · by_cases hj : j = i
      · subst hj; rw [fset_same] at ha; cases ha
      · rw [fset_ne hj] at ha
        by_cases hl : l = i
        · subst hl; rw [fset_same] at hb; cases hb
        · rw [fset_ne hl] at hb; exact r.dj j l hjl a ha hb
    · by_cases hj : j = i
      · subst hj; rw [fset_same] at ha; cases ha
      · rw [fset_ne hj] at ha; exact r.own j a ha
  have o1 : OwN K B G H k v d (fset fp i []) (fp i) := by
    refine ⟨ow, r.nd i, fun j a ha hb => ?_, fun a ha => ⟨(r.own i a ha).1, (r.own i a ha).2, hn a ha⟩⟩
    by_cases hj : j = i
    · subst hj; rw [fset_same] at hb; cases hb
    · rw [fset_ne hj] at hb; exact r.dj i j (Ne.symm hj) a ha hb
  obtain ⟨G', s, r2, p⟩ := r1.freezeV o1
  refine ⟨G', v, s, ?_, e, p⟩
  have r3 := r2.set (i := i) (OwN.val p) (by rw [← r.lenR]; exact hi)
  have e1 : σ.set i (some v) = σ := by
    apply List.ext_getElem?
    intro j
    by_cases hj : j = i
    · subst hj; rw [List.getElem?_set_self (by rw [r.len, ← r.lenR]; exact hi), e]
    · rw [List.getElem?_set_ne (Ne.symm hj)]
  have e2 : st (st ρ i .un) i (.sl 0 d) = st ρ i (.sl 0 d) := st_st
  have e3 : fset (fset fp i []) i [] = fset fp i [] := by
    funext j; unfold fset; split <;> rfl
  rw [e1, e2, e3] at r3
  exact r3

/-! ### hiding slots; more is protected -/
def Bd.add (B : Bd) (F : List Addr) (H : Hp) : Bd := { B with R := fun a => if a ∈ F then H a else B.R a }
theorem wp_gt {ρ : Ev} : ∀ {vs : List Nat} {i : Nat}, gt (wp ρ vs) i = if i ∈ vs then .un else gt ρ i
  | [], i => by simp [wp]
  | v :: vs, i => by
    unfold wp
    by_cases h : i = v
    · subst h
      simp only [List.mem_cons, true_or, if_true]
      by_cases c : i < (wp ρ vs).length
      · exact gt_st_same c
      · rw [gt_out]; rw [st_length]; omega
    · rw [gt_st_ne h, wp_gt]
      simp [h]
theorem wp_length {ρ : Ev} : ∀ {vs : List Nat}, (wp ρ vs).length = ρ.length
  | [] => rfl
  | v :: vs => by unfold wp; rw [st_length, wp_length]
theorem bk_length {ρ ρ0 : Ev} : ∀ {vs : List Nat}, (bk ρ0 vs ρ).length = ρ.length
  | [] => rfl
  | v :: vs => by unfold bk; rw [st_length, bk_length]
theorem bk_gt {ρ ρ0 : Ev} (h : ρ.length = ρ0.length) : ∀ {vs : List Nat} {i : Nat}, gt (bk ρ0 vs ρ) i = if i ∈ vs then gt ρ0 i else gt ρ i
  | [], i => by simp [bk]
  | v :: vs, i => by
    unfold bk
    by_cases e : i = v
    · subst e
      simp only [List.mem_cons, true_or, if_true]
      by_cases c : i < (bk ρ0 vs ρ).length
      · exact gt_st_same c
      · rw [gt_out, gt_out]
        · rw [bk_length] at c; omega
        · rw [st_length]; omega
    · rw [gt_st_ne e, bk_gt h]
      simp [e]
theorem SlOk.badd {x : Option (Option V)} {s : Sl} {f : List Addr} {F : List Addr} {Hx : Hp} (h : SlOk K B G H x s f) : SlOk K (B.add F Hx) G H x s f := by
  cases s with
  | un => exact h
  | sl k d => exact h
  | io d => exact h
theorem SlOk.bdel {x : Option (Option V)} {s : Sl} {f : List Addr} {F : List Addr} {Hx : Hp} (h : SlOk K (B.add F Hx) G H x s f) : SlOk K B G H x s f := by
  cases s with
  | un => exact h
  | sl k d => exact h
  | io d => exact h
theorem Rel.hide (r : Rel K B σ H ρ G fp) (vs : List Nat) (hl : σ'.length = B.n) (hs : ∀ i, i ∉ vs → σ'[i]? = σ[i]?) :
    Rel K (B.add (vs.flatMap fp) H) σ' H (wp ρ vs) G (fun i => if i ∈ vs then [] else fp i) := by
  have mF : ∀ a, a ∈ vs.flatMap fp ↔ ∃ i ∈ vs, a ∈ fp i := fun a => List.mem_flatMap
  refine ⟨hl, by rw [wp_length]; exact r.lenR, fun i => ?_, fun i => ?_, fun i j hij a ha hb => ?_, fun i a ha => ?_, r.gh, fun a o e => ?_, fun a h => ?_, r.g0, r.hh⟩
  · rw [wp_gt]
    by_cases hi : i ∈ vs
    · simp only [hi, if_true]; rfl
    · simp only [hi, if_false]
      rw [hs i hi]
      exact (r.sl i).badd
  · by_cases hi : i ∈ vs
    · simp only [hi, if_true]; exact List.nodup_nil
    · simp only [hi, if_false]; exact r.nd i
  · by_cases hi : i ∈ vs
    · simp [hi] at ha
    · by_cases hj : j ∈ vs
      · simp [hj] at hb
      · simp only [hi, hj, if_false] at ha hb
        exact r.dj i j hij a ha hb
  · by_cases hi : i ∈ vs
    · simp [hi] at ha
    · simp only [hi, if_false] at ha
      refine ⟨(r.own i a ha).1, ?_⟩
      have : a ∉ vs.flatMap fp := fun z => by
        obtain ⟨j, hj, hb⟩ := (mF a).mp z
        exact r.dj i j (fun e => hi (e ▸ hj)) a ha hb
      show (if a ∈ vs.flatMap fp then H a else B.R a) = none
      rw [if_neg this]
      exact (r.own i a ha).2
  · have e : (if a ∈ vs.flatMap fp then H a else B.R a) = some o := e
    by_cases c : a ∈ vs.flatMap fp
    · rw [if_pos c] at e; exact e
    · rw [if_neg c] at e; exact r.rh a o e
  · rcases r.fr a h with z | z | ⟨z1, z2⟩
    · exact .inl z
    · exact .inr (.inl z)
    · refine .inr (.inr ⟨z1, ?_⟩)
      show (if a ∈ vs.flatMap fp then H a else B.R a) = none
      by_cases c : a ∈ vs.flatMap fp
      · obtain ⟨j, hj, hb⟩ := (mF a).mp c
        exact absurd (r.own j a hb).1 h
      · rw [if_neg c]; exact z2
theorem Rel.unhide {G' : Hp} {fp1 : Nat → List Addr} {ρ1 : Ev} {σ1 : L2.St} (vs : List Nat) (r : Rel K B σ H ρ G fp) (r1 : Rel K (B.add (vs.flatMap fp) H) σ1 H' ρ1 G' fp1) (s : Same G G') (hs : ∀ i, i ∉ vs → gt ρ1 i = .un ∨ σ1[i]? = σ[i]?) :
    Rel K B σ H' (bk ρ vs ρ1) G' (fun i => if i ∈ vs then fp i else fp1 i) := by
  have mF : ∀ a, a ∈ vs.flatMap fp ↔ ∃ i ∈ vs, a ∈ fp i := fun a => List.mem_flatMap
  have kF : ∀ a, a ∈ vs.flatMap fp → ∀ o, H a = some o → H' a = some o := fun a ha o e => r1.rh a o (by
    show (if a ∈ vs.flatMap fp then H a else B.R a) = some o
    rw [if_pos ha]; exact e)
  have apart : ∀ i a, a ∈ fp1 i → a ∉ vs.flatMap fp := fun i a ha hb => by
    have q : (if a ∈ vs.flatMap fp then H a else B.R a) = none := (r1.own i a ha).2
    rw [if_pos hb] at q
    obtain ⟨j, hj, hc⟩ := (mF a).mp hb
    exact (r.sl j).there a hc q
  refine ⟨r.len, by rw [bk_length]; exact r1.lenR, fun i => ?_, fun i => ?_, fun i j hij a ha hb => ?_, fun i a ha => ?_, r1.gh, fun a o e => ?_, fun a h => ?_, r1.g0, r1.hh⟩
  · rw [bk_gt (by rw [r1.lenR, r.lenR]; rfl)]
    by_cases hi : i ∈ vs
    · simp only [hi, if_true]
      exact (r.sl i).mono s fun a ha o e => kF a ((mF a).mpr ⟨i, hi, ha⟩) o e
    · simp only [hi, if_false]
      have q := (r1.sl i).bdel
      rcases hs i hi with e | e
      · rw [e] at q ⊢; exact q
      · rw [e] at q; exact q
  · by_cases hi : i ∈ vs
    · simp only [hi, if_true]; exact r.nd i
    · simp only [hi, if_false]; exact r1.nd i
  · by_cases hi : i ∈ vs
    · simp only [hi, if_true] at ha
      by_cases hj : j ∈ vs
      · simp only [hj, if_true] at hb; exact r.dj i j hij a ha hb
      · simp only [hj, if_false] at hb; exact apart j a hb ((mF a).mpr ⟨i, hi, ha⟩)
    · simp only [hi, if_false] at ha
      by_cases hj : j ∈ vs
      · simp only [hj, if_true] at hb; exact apart i a ha ((mF a).mpr ⟨j, hj, hb⟩)
      · simp only [hj, if_false] at hb; exact r1.dj i j hij a ha hb
  · by_cases hi : i ∈ vs
    · simp only [hi, if_true] at ha
      refine ⟨?_, (r.own i a ha).2⟩
      cases e : G' a with
      | none => rfl
      | some x =>
        exfalso
        have hF : a ∈ vs.flatMap fp := (mF a).mpr ⟨i, hi, ha⟩
        rcases r1.fr a (by rw [e]; simp) with ⟨xs, z⟩ | z | ⟨_, z⟩
        · exact (r.sl i).ntup a ha xs (by
            cases q : H a with
            | none => exact absurd q ((r.sl i).there a ha)
            | some y => rw [← kF a hF y q]; exact r1.gh a _ z)
        · have z : B.G0 a ≠ none := z
          cases q : B.G0 a with
          | none => exact z q
          | some y =>
            have := r.g0 a y q
            rw [(r.own i a ha).1] at this; cases this
        · have z : (if a ∈ vs.flatMap fp then H a else B.R a) = none := z
          rw [if_pos hF] at z
          exact (r.sl i).there a ha z
    · simp only [hi, if_false] at ha
      refine ⟨(r1.own i a ha).1, ?_⟩
      have q : (if a ∈ vs.flatMap fp then H a else B.R a) = none := (r1.own i a ha).2
      rw [if_neg (apart i a ha)] at q
      exact q
  · by_cases c : a ∈ vs.flatMap fp
    · obtain ⟨j, hj, hc⟩ := (mF a).mp c
      rw [(r.own j a hc).2] at e; cases e
    · exact r1.rh a o (by
        show (if a ∈ vs.flatMap fp then H a else B.R a) = some o
        rw [if_neg c]; exact e)
  · rcases r1.fr a h with z | z | ⟨z1, z2⟩
    · exact .inl z
    · exact .inr (.inl z)
    · refine .inr (.inr ⟨z1, ?_⟩)
      have z2 : (if a ∈ vs.flatMap fp then H a else B.R a) = none := z2
      by_cases c : a ∈ vs.flatMap fp
      · obtain ⟨j, hj, hc⟩ := (mF a).mp c
        exact (r.own j a hc).2
      · rw [if_neg c] at z2; exact z2
end
end DI

/-! DI3: readings by data; what each construct's rule gives. -/
namespace DI
open PySem PySem.Spec PyProof.Rows L2
section
variable {K : PySem.W.Frag} {G G' : Hp} {B : Bd} {σ : L2.St} {H H' : Hp} {ρ ρ' : Ev} {fp : Nat → List Addr}

/-- what is wanted behind an expression -/
def Fin (K : PySem.W.Frag) (B : Bd) (σ : L2.St) (ρ : Ev) (G : Hp) (k : Nat) (d : D) (Q : VK) : Prop :=
  ∀ v H' G' fp' fv, Same G G' → Rel K B σ H' ρ G' fp' → OwN K B G' H' k v d fp' fv → Q v H'
theorem Fin.val {d : D} {v : V} {Q : VK} (q : Fin K B σ ρ G 0 d Q) (s : Same G G') (r : Rel K B σ H ρ G' fp) (p : Rp K G' v d) : Q v H := q v H G' fp [] s r (OwN.val p)
theorem Rel.fresh (r : Rel K B σ H ρ G fp) {p : Addr} (h : H p = none) : (∀ i, p ∉ fp i) ∧ G p = none ∧ B.R p = none ∧ B.H0 p = none :=
  ⟨fun i z => (r.sl i).there p z h, r.gh.free h, r.rh.free h, by
    cases e : B.H0 p with
    | none => rfl
    | some o => exact absurd h (r.hh p (by rw [e]; simp))⟩
theorem same_upd {p : Addr} {o : HO} (h : H p = none) : Same H (upd H p o) := fun b x e => by rw [upd_ne (ne_of_none e h)]; exact e
theorem Rel.newF {p : Addr} {o : HO} (r : Rel K B σ H ρ G fp) (h : H p = none) : Same G (upd G p o) ∧ Rel K B σ (upd H p o) ρ (upd G p o) fp := by
  obtain ⟨f1, f2, f3, f4⟩ := r.fresh h
  have s := same_upd (o := o) f2
  have r1 := r.grow (same_upd (o := o) h)
  refine ⟨s, ⟨r1.len, r1.lenR, fun i => (r1.sl i).mono s fun _ _ _ e => e, r1.nd, r1.dj, fun i a ha => ?_, fun b x e => ?_, r1.rh, fun a e => ?_, r1.g0.trans s, r1.hh⟩⟩
  · have : a ≠ p := fun e => f1 i (e ▸ ha)
    rw [upd_ne this]; exact r1.own i a ha
  · by_cases c : b = p
    · subst c; rw [upd_same] at e ⊢; exact e
    · rw [upd_ne c] at e; exact r1.gh b x e
  · by_cases c : a = p
    · subst c; exact .inr (.inr ⟨f4, f3⟩)
    · rw [upd_ne c] at e ⊢; exact r1.fr a e
theorem Fin.tup {ds : List D} {vs : List V} {Q : VK} (q : Fin K B σ ρ G 0 (.tuple ds) Q) (s : Same G G') (r : Rel K B σ H ρ G' fp) (p : RpA K G' vs ds) (z : vs.length ≤ sizeLine) : ∀ p, H p = none → Q (.ref p) (upd H p (.tup vs)) := fun a ha => by
  obtain ⟨s2, r2⟩ := r.newF (o := .tup vs) ha
  exact q.val (s.trans s2) r2 (.tup upd_same z (p.mono s2))
theorem rpA_ow0 : ∀ {vs : List V} {ds : List D}, RpA K G vs ds → OwA (Ow K G H 0) vs ds (vs.map fun _ => [])
  | _, _, .nil => .nil
  | _, _, .cons h t => .cons ⟨h, rfl⟩ (rpA_ow0 t)
theorem flat_nil {α β : Type} : ∀ (l : List α), (l.map fun _ => ([] : List β)).flatten = []
  | [] => rfl
  | _ :: r => flat_nil r
theorem Fin.lst {ds : List D} {vs : List V} {Q : VK} (q : Fin K B σ ρ G 1 (.list ds) Q) (s : Same G G') (r : Rel K B σ H ρ G' fp) (p : RpA K G' vs ds) (z : vs.length ≤ sizeLine) : ∀ p, H p = none → Q (.ref p) (upd H p (.lst vs)) := fun a ha => by
  obtain ⟨f1, f2, f3, f4⟩ := r.fresh ha
  refine q _ _ G' fp [a] s (r.grow (same_upd ha)) ⟨⟨a, vs.map fun _ => [], rfl, by rw [flat_nil], .inl ⟨vs, ds, upd_same, z, rfl, rpA_ow0 p⟩⟩, by simp, fun i b hb => ?_, fun b hb => ?_⟩
  · have e : b = a := by simpa using hb
    rw [e]; exact f1 i
  · have e : b = a := by simpa using hb
    rw [e]; exact ⟨f2, f3, f4⟩

/-! ### readings -/
def tE (K : PySem.W.Frag) (n : Nat) (m : Ev → Option ((D × Nat) × Ev)) : TE := fun σ H Q => ∃ B ρ G fp, B.n = n ∧ Rel K B σ H ρ G fp ∧ ∃ d k ρ', m ρ = some ((d, k), ρ') ∧ Fin K B σ ρ' G k d Q
/-- .. shared -/
def tEv (K : PySem.W.Frag) (n : Nat) (m : Ev → Option ((D × Nat) × Ev)) : TE := fun σ H Q => ∃ B ρ G fp, B.n = n ∧ Rel K B σ H ρ G fp ∧ ∃ d k ρ', m ρ = some ((d, k), ρ') ∧
  ∀ v H' G' fp', Same G G' → Rel K B σ H' ρ' G' fp' → Rp K G' v d → Q v H'
def tEs (K : PySem.W.Frag) (n : Nat) (m : Ev → Option (List D × Ev)) : TA := fun σ H Q => ∃ B ρ G fp, B.n = n ∧ Rel K B σ H ρ G fp ∧ ∃ ds ρ', m ρ = some (ds, ρ') ∧
  ∀ vs H' G' fp', Same G G' → Rel K B σ H' ρ' G' fp' → RpA K G' vs ds → Q vs H'
def tO (K : PySem.W.Frag) (n : Nat) (m : Ev → Option (Option Int × Ev)) : TO := fun σ H Q => ∃ B ρ G fp, B.n = n ∧ Rel K B σ H ρ G fp ∧ ∃ o ρ', m ρ = some (o, ρ') ∧
  ∀ H' G' fp', Same G G' → Rel K B σ H' ρ' G' fp' → Q o H'
def tT (K : PySem.W.Frag) (n : Nat) (m : Ev → Option (Bool × Ev)) : TT := fun σ H Q => ∃ B ρ G fp, B.n = n ∧ Rel K B σ H ρ G fp ∧ ∃ b ρ', m ρ = some (b, ρ') ∧
  ∀ H' G' fp', Same G G' → Rel K B σ H' ρ' G' fp' → Q b H'
/-- a test as a value -/
def tTv (K : PySem.W.Frag) (n : Nat) (m : Ev → Option (Bool × Ev)) : TE := fun σ H Q => ∃ B ρ G fp, B.n = n ∧ Rel K B σ H ρ G fp ∧ ∃ b ρ', m ρ = some (b, ρ') ∧
  ∀ H' G' fp', Same G G' → Rel K B σ H' ρ' G' fp' → Q (.bl b) H'
/-- a walked thing: its items -/
structure Wk (K : PySem.W.Frag) (J : L2.It) (G : Hp) (ds : List D) : Prop where
  z : ds.length ≤ sizeLine
  w : Walk J ds.length (fun H => Same G H) (fun i H x H' => (H' = H ∧ ∀ d, ds[i]? = some d → Rp K G x d) ∨ ∃ T a b, x = .ref T ∧ H T = none ∧ H' = upd H T (.tup [a, b]) ∧ ∀ d, ds[i]? = some d → ∃ e f, d = .tuple [e, f] ∧ Rp K G a e ∧ Rp K G b f)
def tI (K : PySem.W.Frag) (n : Nat) (m : Ev → Option (List D × Ev)) : TI := fun σ H R => ∃ B ρ G fp, B.n = n ∧ Rel K B σ H ρ G fp ∧ ∃ ds ρ', m ρ = some (ds, ρ') ∧
  ∀ J H' G' fp', Same G G' → Rel K B σ H' ρ' G' fp' → Wk K J G' ds → R J H'
end

section
variable {X : Cx} {n : Nat}
theorem _root_.L2.PE.diw {e : Expr} {t t' : TE} (h : PE X e t) (w : ∀ σ H Q, t' σ H Q → t σ H Q) : PE X e t' := ⟨fun pins s σ H Q I q => h.run pins s σ H Q I (w σ H Q q)⟩
theorem _root_.L2.PT.diw {e : Expr} {t t' : TT} (h : PT X e t) (w : ∀ σ H Q, t' σ H Q → t σ H Q) : PT X e t' := ⟨fun pins s σ H Q I q => h.run pins s σ H Q I (w σ H Q q)⟩
theorem _root_.L2.PW.diw {e : Expr} {t t' : TT} (h : PW X e t) (w : ∀ σ H Q, t' σ H Q → t σ H Q) : PW X e t' := ⟨fun wh pins s σ H Q I q => h.run wh pins s σ H Q I (w σ H Q q)⟩
theorem _root_.L2.PA.diw {e : List Expr} {t t' : TA} (h : PA X e t) (w : ∀ σ H Q, t' σ H Q → t σ H Q) : PA X e t' := ⟨fun pos pins s σ H Q I q => h.run pos pins s σ H Q I (w σ H Q q)⟩
theorem _root_.L2.PO.diw {e : Option Expr} {t t' : TO} (h : PO X e t) (w : ∀ σ H Q, t' σ H Q → t σ H Q) : PO X e t' := ⟨fun pins s σ H Q I q => h.run pins s σ H Q I (w σ H Q q)⟩
theorem _root_.L2.PI.diw {tg e : Expr} {t t' : TI} (h : PI X tg e t) (w : ∀ σ H Q, t' σ H Q → t σ H Q) : PI X tg e t' := ⟨fun pins s σ H Q I q => h.run pins s σ H Q I (w σ H Q q)⟩
theorem _root_.L2.PSs.diw {e : List Stmt} {t t' : TS} (h : PSs X e t) (w : ∀ D σ H, t' D σ H → t D σ H) : PSs X e t' := ⟨fun pins s σ H D I q => h.run pins s σ H D I (w D σ H q)⟩
theorem _root_.L2.PS.diw {e : Stmt} {t t' : TS} (h : PS X e t) (w : ∀ D σ H, t' D σ H → t D σ H) : PS X e t' := ⟨fun pins s σ H D I q => h.run pins s σ H D I (w D σ H q)⟩

theorem tE_v {K : PySem.W.Frag} {m : Ev → Option ((D × Nat) × Ev)} {σ : L2.St} {H : Hp} {Q : VK} (h : tEv K n m σ H Q) : tE K n m σ H Q := by
  obtain ⟨B, ρ, G, fp, hn, r, d, k, ρ', hm, q⟩ := h
  refine ⟨B, ρ, G, fp, hn, r, d, k, ρ', hm, fun v H' G' fp' fv s r' o => ?_⟩
  obtain ⟨G2, s2, r2, p⟩ := r'.freezeV o
  exact q v H' G2 fp' (s.trans s2) r2 p
theorem _root_.L2.PE.div {e : Expr} {m : Ev → Option ((D × Nat) × Ev)} (h : PE X e (tE X.K n m)) : PE X e (tEv X.K n m) := h.diw fun _ _ _ => tE_v

/-! ### names, constants -/
theorem se_nm {i : Nat} {x : Str} {pos : Pos} (hN : X.N[i]? = some x) (hv : Vis X.env.scope x) (hd : (x == ("__debug__" : Str)) = false) (hc : (x == ("__classdict__" : Str)) = false) : PE X (.Name x pos) (tE X.K n (rdN i)) := by
  refine (pe_var hN hv hd hc).diw fun σ H Q h => ?_
  obtain ⟨B, ρ, G, fp, hn, r, d, k, ρ', hm, q⟩ := h
  unfold rdN at hm
  cases hg : gt ρ i with
  | un => rw [hg] at hm; cases hm
  | io d => rw [hg] at hm; cases hm
  | sl k' d' =>
    cases k' with
    | zero =>
      rw [hg] at hm
      cases hm
      have w := r.sl i
      rw [hg] at w
      obtain ⟨v, e, ow, _⟩ := w
      exact ⟨v, e, q.val (Same.refl _) r ow.1⟩
    | succ k' =>
      rw [hg] at hm
      cases hm
      obtain ⟨G2, v, s, r2, e, p⟩ := r.freezeS hg
      exact ⟨v, e, q.val s r2 p⟩
theorem se_c {e : Expr} {v : V} {d : D} (h : PE X e (tC v)) (p : ∀ G, Rp X.K G v d) : PE X e (tE X.K n fun ρ => some ((d, 0), ρ)) := by
  refine h.diw fun σ H Q h => ?_
  obtain ⟨B, ρ, G, fp, hn, r, d, k, ρ', hm, q⟩ := h
  cases hm
  exact q.val (Same.refl _) r (p G)

/-! ### lists of arguments -/
theorem sa_nil : PA X [] (tEs X.K n fun ρ => some ([], ρ)) := pa_nil.diw fun σ H Q h => by
  obtain ⟨B, ρ, G, fp, hn, r, ds, ρ', hm, q⟩ := h
  cases hm
  exact q [] H G fp (Same.refl _) r .nil
def isStar : Expr → Bool
  | .Starred .. => true
  | _ => false
theorem star_cons {e : Expr} {es : List Expr} {env : Env} (h : isStar e = false) : starEach (e :: es) env = (false, eval e env) :: starEach es env := by
  cases e <;> first | rfl | cases h

theorem sa_cons {e : Expr} {es : List Expr} {m : Ev → Option ((D × Nat) × Ev)} {ms : Ev → Option (List D × Ev)} (he : PE X e (tE X.K n m)) (hs : PA X es (tEs X.K n ms)) (hx : isStar e = false) :
    PA X (e :: es) (tEs X.K n fun ρ => mb (m ρ) fun x ρ => mb (ms ρ) fun xs ρ => some (x.1 :: xs, ρ)) := by
  refine (pa_cons he.div hs (star_cons hx)).diw fun σ H Q h => ?_
  obtain ⟨B, ρ, G, fp, hn, r, ds, ρ', hm, q⟩ := h
  obtain ⟨x, ρ1, h1, hm⟩ := mb_of hm
  obtain ⟨xs, ρ2, h2, hm⟩ := mb_of hm
  cases hm
  refine ⟨B, ρ, G, fp, hn, r, x.1, x.2, ρ1, h1, fun v H1 G1 fp1 s1 r1 p1 => ⟨B, ρ1, G1, fp1, hn, r1, xs, ρ', h2, fun vs H2 G2 fp2 s2 r2 p2 => ?_⟩⟩
  exact q (v :: vs) H2 G2 fp2 (s1.trans s2) r2 (.cons (p1.mono s2) p2)
theorem se_tup {es : List Expr} {ms : Ev → Option (List D × Ev)} {x1 : Nat} {pos : Pos} (hs : PA X es (tEs X.K n ms)) :
    PE X (.Tuple es x1 pos) (tE X.K n fun ρ => mb (ms ρ) fun ds ρ => if lenOk ds.length then some ((.tuple ds, 0), ρ) else none) := by
  refine (pe_tup hs).diw fun σ H Q h => ?_
  obtain ⟨B, ρ, G, fp, hn, r, d, k, ρ', hm, q⟩ := h
  obtain ⟨ds, ρ1, h1, hm⟩ := mb_of hm
  by_cases c : lenOk ds.length = true
  · simp only [c, if_true] at hm
    cases hm
    refine ⟨B, ρ, G, fp, hn, r, ds, ρ', h1, fun vs H1 G1 fp1 s1 r1 p1 => ?_⟩
    have z : vs.length ≤ sizeLine := by rw [p1.length]; exact of_decide_eq_true c
    exact ⟨z, q.tup s1 r1 p1 z⟩
  · simp only [c, if_false] at hm; cases hm
theorem se_lst {es : List Expr} {ms : Ev → Option (List D × Ev)} {pos : Pos} (hs : PA X es (tEs X.K n ms)) :
    PE X (.List es pos) (tE X.K n fun ρ => mb (ms ρ) fun ds ρ => if lenOk ds.length then some ((.list ds, 1), ρ) else none) := by
  refine (pe_lst hs).diw fun σ H Q h => ?_
  obtain ⟨B, ρ, G, fp, hn, r, d, k, ρ', hm, q⟩ := h
  obtain ⟨ds, ρ1, h1, hm⟩ := mb_of hm
  by_cases c : lenOk ds.length = true
  · simp only [c, if_true] at hm
    cases hm
    refine ⟨B, ρ, G, fp, hn, r, ds, ρ', h1, fun vs H1 G1 fp1 s1 r1 p1 => ?_⟩
    have z : vs.length ≤ sizeLine := by rw [p1.length]; exact of_decide_eq_true c
    exact ⟨z, q.lst s1 r1 p1 z⟩
  · simp only [c, if_false] at hm; cases hm

/-! ### operators -/
/-- what an operation's end asks, by the data it makes -/
structure Res (K : PySem.W.Frag) (G H : Hp) (d : D) (Q : VK) : Prop where
  l2 : ∀ ds, d = .list ds → ∀ p vs G2, H p = none → Same G G2 → Same G2 H → (∀ a, G2 a ≠ none → G a ≠ none ∨ ∃ xs, G2 a = some (.tup xs)) → RpA K G2 vs ds → vs.length ≤ sizeLine → Q (.ref p) (upd H p (.lst vs))
  b : ∀ ds, d = .tuple ds → ∀ p vs, H p = none → RpA K G vs ds → vs.length ≤ sizeLine → Q (.ref p) (upd H p (.tup vs))
  c : (∀ ds, d ≠ .list ds) → ∀ z, Rp K G z d → Q z H
  sg : Same G H
theorem Res.a {K : PySem.W.Frag} {G H : Hp} {d : D} {Q : VK} (q : Res K G H d Q) : ∀ ds, d = .list ds → ∀ p vs, H p = none → RpA K G vs ds → vs.length ≤ sizeLine → Q (.ref p) (upd H p (.lst vs)) :=
  fun ds e p vs hp a z => q.l2 ds e p vs G hp (Same.refl _) q.sg (fun _ h => .inl h) a z
theorem Fin.res {K : PySem.W.Frag} {B : Bd} {σ : L2.St} {ρ : Ev} {G0 G H : Hp} {fp : Nat → List Addr} {d : D} {Q : VK} (q : Fin K B σ ρ G0 (lvD d) d Q) (s : Same G0 G) (r : Rel K B σ H ρ G fp) : Res K G H d Q := by
  refine ⟨fun ds e p vs G2 hp s1 s2 ht a z => ?_, fun ds e p vs hp a z => ?_, fun ne z hz => ?_, r.gh⟩
  · subst e; exact q.lst (s.trans s1) (r.addT s1 s2 ht) a z p hp
  · subst e; exact q.tup s r a z p hp
  · cases d with
    | list ds => exact absurd rfl (ne ds)
    | _ => exact q.val s r hz
theorem Res.int {K : PySem.W.Frag} {G H : Hp} {i : Int} {Q : VK} (q : Res K G H (.int i) Q) : Q (.int i) H := q.c (fun _ z => by cases z) _ (.int i)
theorem Res.bl {K : PySem.W.Frag} {G H : Hp} {i : Bool} {Q : VK} (q : Res K G H (.bool i) Q) : Q (.bl i) H := q.c (fun _ z => by cases z) _ (.bl i)
theorem Res.str {K : PySem.W.Frag} {G H : Hp} {i : Str} {Q : VK} (q : Res K G H (.str i) Q) : Q (.str i) H := q.c (fun _ z => by cases z) _ (.str i)
def rD (K : PySem.W.Frag) (f : D → D → Option D) : R2 := fun x y H Q => ∃ G d1 d2 d, Same G H ∧ Rp K G x d1 ∧ Rp K G y d2 ∧ f d1 d2 = some d ∧ Res K G H d Q
def opP : Op → Operator
  | .add => .Add
  | .sub => .Sub
  | .mul => .Mult
  | .fdiv => .FloorDiv
  | .mod => .Mod
  | .pow => .Pow
theorem if_some {α : Type} {c : Prop} [Decidable c] {a b : α} (h : (if c then some a else none) = some b) : c ∧ a = b := by
  by_cases e : c
  · rw [if_pos e] at h; exact ⟨e, Option.some.inj h⟩
  · rw [if_neg e] at h; cases h
theorem RpA.rep {K : PySem.W.Frag} {G : Hp} {vs : List V} {ds : List D} (a : RpA K G vs ds) : ∀ n : Nat, RpA K G (List.replicate n vs).flatten (repD n ds)
  | 0 => .nil
  | n + 1 => by
    unfold repD
    rw [List.replicate_succ, List.replicate_succ, List.flatten_cons, List.flatten_cons]
    exact a.append (a.rep n)
theorem op_D (o : Op) : OpR X (binaryOp (opP o)) (rD X.K (opD o)) := by
  intro pins s σ H x y v u Q I rx ry h
  obtain ⟨G, d1, d2, d, sg, p1, p2, e, q⟩ := h
  cases o with
  | add =>
    cases p1 with
    | int i =>
      cases p2 with
      | int j => cases e; exact op_add pins s σ H _ _ v u Q I rx ry ⟨i, j, rfl, rfl, q.int⟩
      | _ => cases e
    | str i =>
      cases p2 with
      | str j =>
        obtain ⟨c, rfl⟩ := if_some e
        exact op_add_str pins s σ H _ _ v u Q I rx ry ⟨i, j, rfl, rfl, of_decide_eq_true c, q.str⟩
      | _ => cases e
    | lst h1 z1 a1 =>
      cases p2 with
      | lst h2 z2 a2 =>
        obtain ⟨c, rfl⟩ := if_some e
        have c := of_decide_eq_true c
        rw [← a1.length, ← a2.length] at c
        exact op_cat pins s σ H _ _ v u Q I rx ry ⟨_, _, _, _, rfl, rfl, sg _ _ h1, sg _ _ h2, c, fun p hp => q.a _ rfl p _ hp (a1.append a2) (by rw [List.length_append]; exact c)⟩
      | _ => cases e
    | tup h1 z1 a1 =>
      cases p2 with
      | tup h2 z2 a2 =>
        obtain ⟨c, rfl⟩ := if_some e
        have c := of_decide_eq_true c
        rw [← a1.length, ← a2.length] at c
        refine op_catA pins s σ H _ _ v u Q I rx ry ⟨_, _, _, _, rfl, rfl, SqT.of (sg _ _ h1), SqT.of (sg _ _ h2), c, fun e0 => ?_, fun _ e0 => ?_, fun _ _ p hp => q.b _ rfl p _ hp (a1.append a2) (by rw [List.length_append]; exact c)⟩
        · subst e0
          cases a1
          exact q.c (fun _ z => by cases z) _ (.tup h2 z2 a2)
        · subst e0
          cases a2
          rw [List.append_nil] at q
          exact q.c (fun _ z => by cases z) _ (.tup h1 z1 a1)
      | _ => cases e
    | _ => cases p2 <;> cases e
  | sub =>
    cases p1 with
    | int i =>
      cases p2 with
      | int j => cases e; exact op_sub pins s σ H _ _ v u Q I rx ry ⟨i, j, rfl, rfl, q.int⟩
      | _ => cases e
    | _ => cases p2 <;> cases e
  | mul =>
    cases p1 with
    | int i =>
      cases p2 with
      | int j =>
        obtain ⟨c, rfl⟩ := if_some e
        refine op_mul pins s σ H _ _ v u Q I rx ry ⟨i, j, rfl, rfl, ?_, q.int⟩
        unfold mulOk at c
        simp only [Bool.or_eq_true, Bool.and_eq_true, decide_eq_true_eq] at c
        exact c
      | _ => cases e
    | lst h1 z1 a1 =>
      cases p2 with
      | int k =>
        obtain ⟨c, rfl⟩ := if_some e
        unfold repOk at c
        simp only [Bool.and_eq_true, decide_eq_true_eq] at c
        have c2 := of_decide_eq_true c.2
        rw [← a1.length] at c2
        refine op_rep pins s σ H _ _ v u Q I rx ry ⟨_, k, _, rfl, rfl, sg _ _ h1, c.1.1, c.1.2, c2, fun p hp => q.a _ rfl p _ hp (a1.rep _) ?_⟩
        rw [PyProof.Rows.lm_len_rep_flat, Nat.mul_comm]; exact c2
      | _ => cases e
    | tup h1 z1 a1 =>
      cases p2 with
      | int k =>
        obtain ⟨c, rfl⟩ := if_some e
        unfold repOk at c
        simp only [Bool.and_eq_true, decide_eq_true_eq] at c
        have c2 := of_decide_eq_true c.2
        rw [← a1.length] at c2
        refine op_repA pins s σ H _ _ v u Q I rx ry ⟨_, k, _, rfl, rfl, SqT.of (sg _ _ h1), c.1.1, c.1.2, c2, fun h => ?_, fun _ _ p hp => q.b _ rfl p _ hp (a1.rep _) ?_⟩
        · rename_i xs ds
          have e : repD k.toNat ds = ds := by
            rcases h with h | h
            · subst h; cases a1
              unfold repD
              induction k.toNat with
              | zero => rfl
              | succ m ih => rw [List.replicate_succ, List.flatten_cons, ih]; rfl
            · subst h
              show (List.replicate 1 ds).flatten = ds
              simp
          rw [e] at q
          exact q.c (fun _ z => by cases z) _ (.tup h1 z1 a1)
        · rw [PyProof.Rows.lm_len_rep_flat, Nat.mul_comm]; exact c2
      | _ => cases e
    | _ => cases p2 <;> cases e
  | fdiv =>
    cases p1 with
    | int i =>
      cases p2 with
      | int j =>
        obtain ⟨c, rfl⟩ := if_some e
        refine op_fdivN pins s σ H _ _ v u Q I rx ry ⟨i, j, rfl, rfl, ?_, q.int⟩
        unfold divOk at c
        simp only [Bool.and_eq_true, decide_eq_true_eq] at c
        exact c
      | _ => cases e
    | _ => cases p2 <;> cases e
  | mod =>
    cases p1 with
    | int i =>
      cases p2 with
      | int j =>
        obtain ⟨c, rfl⟩ := if_some e
        exact op_modN pins s σ H _ _ v u Q I rx ry ⟨i, j, rfl, rfl, c, q.int⟩
      | _ => cases e
    | _ => cases p2 <;> cases e
  | pow =>
    cases p1 with
    | int i =>
      cases p2 with
      | int j =>
        obtain ⟨c, rfl⟩ := if_some e
        refine op_pow pins s σ H _ _ v u Q I rx ry ⟨i, j, rfl, rfl, ?_, q.int⟩
        unfold powOk at c
        simp only [Bool.and_eq_true, decide_eq_true_eq] at c
        exact ⟨c.1.1, c.1.2, c.2⟩
      | _ => cases e
    | _ => cases p2 <;> cases e
theorem bin_D {ma mb' : Ev → Option ((D × Nat) × Ev)} {f : D → D → Option D} {e : Expr} (h : PE X e (tOp (rD X.K f) (tEv X.K n ma) (tEv X.K n mb'))) :
    PE X e (tE X.K n fun ρ => mb (ma ρ) fun x ρ => mb (mb' ρ) fun y ρ => (f x.1 y.1).map fun d => ((d, lvD d), ρ)) := by
  refine h.diw fun σ H Q h => ?_
  obtain ⟨B, ρ, G, fp, hn, r, d, k, ρ', hm, q⟩ := h
  obtain ⟨x, ρ1, h1, hm⟩ := mb_of hm
  obtain ⟨y, ρ2, h2, hm⟩ := mb_of hm
  cases e : f x.1 y.1 with
  | none => rw [e] at hm; cases hm
  | some d' =>
    rw [e] at hm
    cases hm
    exact ⟨B, ρ, G, fp, hn, r, x.1, x.2, ρ1, h1, fun v H1 G1 fp1 s1 r1 p1 => ⟨B, ρ1, G1, fp1, hn, r1, y.1, y.2, ρ', h2, fun u H2 G2 fp2 s2 r2 p2 => ⟨G2, x.1, y.1, _, r2.gh, p1.mono s2, p2, e, q.res (s1.trans s2) r2⟩⟩⟩

theorem se_neg {a : Expr} {ma : Ev → Option ((D × Nat) × Ev)} {pos : Pos} (ha : PE X a (tE X.K n ma)) : PE X (.UnaryOp .USub a pos) (tE X.K n fun ρ => mb (ma ρ) fun x ρ => match x.1 with
    | .int i => some ((.int (-i), 0), ρ)
    | _ => none) := by
  refine (pe_un un_neg ha.div).diw fun σ H Q h => ?_
  obtain ⟨B, ρ, G, fp, hn, r, d, k, ρ', hm, q⟩ := h
  obtain ⟨x, ρ1, h1, hm⟩ := mb_of hm
  refine ⟨B, ρ, G, fp, hn, r, x.1, x.2, ρ1, h1, fun v H1 G1 fp1 s1 r1 p1 => ?_⟩
  cases hx : x.1 with
  | int i =>
    rw [hx] at hm p1
    cases hm
    cases p1
    exact ⟨i, rfl, q.val s1 r1 (.int _)⟩
  | _ => rw [hx] at hm; cases hm

/-! ### comparisons -/
mutual
theorem Rp.dp {K : PySem.W.Frag} {G H : Hp} (s : Same G H) : ∀ {v : V} {d : D}, Rp K G v d → d.canLay0 = true → Dp K H v d
  | _, _, .non, _ => .non
  | _, _, .bl b, _ => .bl b
  | _, _, .int i, _ => .int i
  | _, _, .str x, _ => .str x
  | _, _, .lst h l a, c => .lst (SqL.of (s _ _ h)) (RpA.dp s a c)
  | _, _, .tup h l a, c => .tup (SqT.of (s _ _ h)) (RpA.dp s a c)
  | _, _, .scr h l a, c => by cases c
  | _, _, .dK h l a, c => by cases c
  | _, _, .dT h l a, c => by cases c
theorem RpA.dp {K : PySem.W.Frag} {G H : Hp} (s : Same G H) : ∀ {v : List V} {d : List D}, RpA K G v d → PyData.canLayAll0 d = true → DpAll K H v d
  | _, _, .nil, _ => .nil
  | _, _, .cons h t, c => .cons (Rp.dp s h (Bool.and_eq_true_iff.mp (show (_ && _) = true from c)).1) (RpA.dp s t (Bool.and_eq_true_iff.mp (show (_ && _) = true from c)).2)
end
theorem Rp.dps {K : PySem.W.Frag} {G H : Hp} (s : Same G H) {v : V} {d : D} (h : Rp K G v d) (c : shp d = true) : Dp K H v d := h.dp s (SeqAt.canLay_of_shaped c)
theorem flat_V {K : PySem.W.Frag} {G : Hp} {v : V} {d : D} (h : Rp K G v d) (f : flatD d = true) : flatV v = true := by
  cases h <;> first | rfl | cases f
theorem flat_eqv {K : PySem.W.Frag} {G : Hp} {v w : V} {d e : D} (h : Rp K G v d) (h2 : Rp K G w e) (f : flatD d = true) (f2 : flatD e = true) : eqV v w = PyData.eqv d e := by
  cases h <;> cases h2 <;> first | cases f | cases f2 | (simp [eqV, PyData.eqv, b2i]; done) | skip
  all_goals first
    | (simp only [eqV, PyData.eqv]; rfl)
    | (simp only [eqV, PyData.eqv, b2i]; split <;> simp_all)
    | (simp [eqV, PyData.eqv]; done)
theorem flat_any {K : PySem.W.Frag} {G : Hp} {x : V} {d : D} (h : Rp K G x d) (f : flatD d = true) : ∀ {vs : List V} {ds : List D}, RpA K G vs ds → ds.all flatD = true → vs.all flatV = true ∧ inV x vs = ds.any fun z => PyData.eqv z d
  | _, _, .nil, _ => ⟨rfl, rfl⟩
  | _, _, .cons p t, c => by
    simp only [List.all_cons, Bool.and_eq_true] at c
    obtain ⟨h1, h2⟩ := flat_any h f t c.2
    refine ⟨by rw [List.all_cons, flat_V p c.1, h1]; rfl, ?_⟩
    unfold inV at h2 ⊢
    rw [List.any_cons, List.any_cons, h2, flat_eqv p h c.1 f]
def cmP : Cm → CmpOp
  | .eq => .Eq
  | .ne => .NotEq
  | .lt => .Lt
  | .le => .LtE
  | .gt => .Gt
  | .ge => .GtE
  | .is => .Is
  | .isN => .IsNot
  | .inn => .In
  | .notin => .NotIn
def rC (K : PySem.W.Frag) (f : D → D → Option Bool) : R2 := fun x y H Q => ∃ G d1 d2 b, Same G H ∧ Rp K G x d1 ∧ Rp K G y d2 ∧ f d1 d2 = some b ∧ Q (.bl b) H
theorem intsOf_map {ds : List D} {ns : List Int} {K : PySem.W.Frag} {G : Hp} {vs : List V} (a : RpA K G vs ds) (e : intsOf ds = some ns) : vs = ns.map V.int := a.ints e
/-! ### dicts -/
theorem eqv_key (k k' : L2.Key) : PyData.eqv (keyD k) (keyD k') = decide (k = k') := by
  rcases k with i | x <;> rcases k' with j | y
  · show (i == j) = _; rw [L2.key_ll]
  · show false = _; rw [L2.key_lr]
  · show false = _; rw [L2.key_rl]
  · show (x == y) = _
    rw [L2.key_rr]
    exact (Bool.beq_eq_decide_eq x y)
theorem eqv_keys : ∀ k k' : List L2.Key, PyData.eqvAll (k.map keyD) (k'.map keyD) = decide (k = k')
  | [], [] => rfl
  | [], _ :: _ => rfl
  | _ :: _, [] => rfl
  | a :: r, b :: r' => by
    show (PyData.eqv (keyD a) (keyD b) && PyData.eqvAll (r.map keyD) (r'.map keyD)) = _
    rw [eqv_key, eqv_keys r r']
    by_cases h : a = b <;> by_cases h' : r = r' <;> simp [h, h']
theorem toKey_D {d : D} {k : L2.Key} (h : toKey d = some k) : d = keyD k := by
  cases d <;> first | cases h; rfl | cases h
theorem toKeys_D : ∀ {ds : List D} {ks : List L2.Key}, toKeys ds = some ks → ds = ks.map keyD
  | [], ks, h => by cases h; rfl
  | d :: r, ks, h => by
    unfold toKeys at h
    cases h1 : toKey d with
    | none => rw [h1] at h; cases h
    | some k =>
      cases h2 : toKeys r with
      | none => rw [h1, h2] at h; cases h
      | some ks' =>
        rw [h1, h2] at h; cases h
        rw [List.map_cons, ← toKey_D h1, ← toKeys_D h2]
def RO (K : PySem.W.Frag) (G : Hp) : Option V → Option D → Prop
  | some v, some d => Rp K G v d
  | none, none => True
  | _, _ => False
theorem RpK.find {K : PySem.W.Frag} {G : Hp} (k : L2.Key) : ∀ {kvs : List (L2.Key × V)} {ds : List (D × D)}, RpK K G kvs ds → RO K G (valV kvs k) (dfind (keyD k) ds)
  | _, _, .nil => trivial
  | _, _, .cons (k := k') h t => by
    unfold dfind
    rw [eqv_key]
    by_cases e : k' = k
    · rw [valV_pos (by exact e), decide_eq_true e, if_pos rfl]; exact h
    · rw [valV_neg (by exact e), decide_eq_false e, if_neg (by decide)]; exact t.find k
theorem RpT.find {K : PySem.W.Frag} {G : Hp} (k : List L2.Key) : ∀ {kvs : List (List L2.Key × V)} {ds : List (D × D)}, RpT K G kvs ds → RO K G (valV kvs k) (dfind (.tuple (k.map keyD)) ds)
  | _, _, .nil => trivial
  | _, _, .cons (k := k') h t => by
    unfold dfind
    rw [show PyData.eqv (.tuple (k'.map keyD)) (.tuple (k.map keyD)) = decide (k' = k) from eqv_keys k' k]
    by_cases e : k' = k
    · rw [valV_pos (by exact e), decide_eq_true e, if_pos rfl]; exact h
    · rw [valV_neg (by exact e), decide_eq_false e, if_neg (by decide)]; exact t.find k
theorem kV_rp {K : PySem.W.Frag} {G : Hp} {v : V} {k : L2.Key} (h : Rp K G v (keyD k)) : v = kV k := by
  rcases k with i | x <;> (cases h; rfl)
theorem kVs_rp {K : PySem.W.Frag} {G : Hp} : ∀ {vs : List V} {ks : List L2.Key}, RpA K G vs (ks.map keyD) → vs = ks.map kV
  | _, [], h => by cases h; rfl
  | _, k :: r, h => by
    cases h with
    | cons h t => rw [kV_rp h, kVs_rp t, List.map_cons]
/-- what is found in a dict -/
theorem dget_ok {K : PySem.W.Frag} {G H : Hp} {x y : V} {d k : D} {o : Option D} (sg : Same G H) (p1 : Rp K G x d) (p2 : Rp K G y k) (e : dget d k = some o) (hd : ∃ ds, d = .dict ds) : ∃ a ov, x = .ref a ∧ DGet H a y ov ∧ RO K G ov o := by
  obtain ⟨ds0, hd⟩ := hd
  cases p1 with
  | dK h z a =>
    rename_i ad kvs ds
    cases hk : toKey k with
    | none => simp [dget, hk] at e
    | some κ =>
      have e : some (dfind k ds) = some o := by simpa [dget, hk] using e
      cases e
      obtain rfl := toKey_D hk
      obtain rfl := kV_rp p2
      exact ⟨_, _, rfl, DGet.k (sg _ _ h), a.find κ⟩
  | dT h z a =>
    rename_i ad kvs ds
    cases p2 with
    | tup h2 z2 a2 =>
      rename_i ks
      cases hk : toKeys ks with
      | none => simp [dget, hk] at e
      | some κ =>
        have e : some (dfind (.tuple ks) ds) = some o := by simpa [dget, hk] using e
        cases e
        obtain rfl := toKeys_D hk
        obtain rfl := kVs_rp a2
        exact ⟨_, _, rfl, DGet.t (sg _ _ h) (sg _ _ h2), a.find κ⟩
    | _ => cases e
  | scr h z a => cases e
  | _ => cases hd
theorem RO.some_eq {K : PySem.W.Frag} {G : Hp} {ov : Option V} {o : Option D} (h : RO K G ov o) : ov.isSome = o.isSome := by
  cases ov <;> cases o <;> first | rfl | cases h
theorem c_dict (neg : Bool) {pins : List (Addr × Obj)} {s : Shared} {σ : L2.St} {G H : Hp} {x y : V} {v u : Value} {Q : VK} {d1 : D} {ds : List (D × D)} {b : Bool} (hu : X.A.units + 1 < cLine) (I : Inv X pins σ H s) (rx : RelV x v) (ry : RelV y u)
    (sg : Same G H) (p1 : Rp X.K G x d1) (p2 : Rp X.K G y (.dict ds)) (e : cmD (if neg then .notin else .inn) d1 (.dict ds) = some b) (q : Q (.bl b) H) : wpAny (model X.prog X.w) X.A (compareOp (if neg then .NotIn else .In) v u) (EP X pins σ Q) X.xe s := by
  cases h : dget (.dict ds) d1 with
  | none => cases neg <;> (cases d1 <;> simp [cmD, h] at e)
  | some o =>
    obtain ⟨a, ov, rfl, g, ro⟩ := dget_ok sg p2 p1 h ⟨_, rfl⟩
    obtain rfl : u = Value.ref a := ry
    cases neg with
    | false =>
      have e : some o.isSome = some b := by cases d1 <;> simpa [cmD, h] using e
      cases e
      exact d_in hu I g rx fun s' I' => ⟨.bl _, H, I', rfl, by rw [ro.some_eq]; exact q⟩
    | true =>
      have e : some (!o.isSome) = some b := by cases d1 <;> simpa [cmD, h] using e
      cases e
      exact d_notIn hu I g rx fun s' I' => ⟨.bl _, H, I', rfl, by rw [ro.some_eq]; exact q⟩
theorem op_C (c : Cm) (hu : X.A.units + 65 < cLine) (hc : X.calm = true) : OpR X (compareOp (cmP c)) (rC X.K (cmD c)) := by
  intro pins s σ H x y v u Q I rx ry h
  obtain ⟨G, d1, d2, b, sg, p1, p2, e, q⟩ := h
  cases c with
  | eq =>
    obtain ⟨c, rfl⟩ := if_some (show (if shp d1 && shp d2 then some (PyData.eqv d1 d2) else none) = some b by cases d1 <;> exact e)
    simp only [Bool.and_eq_true] at c
    exact op_eqD (by omega) pins s σ H _ _ v u Q I rx ry ⟨d1, d2, p1.dps sg c.1, p2.dps sg c.2, c.1, c.2, q⟩
  | ne =>
    obtain ⟨c, rfl⟩ := if_some (show (if shp d1 && shp d2 then some (!PyData.eqv d1 d2) else none) = some b by cases d1 <;> exact e)
    simp only [Bool.and_eq_true] at c
    exact op_neD (by omega) pins s σ H _ _ v u Q I rx ry ⟨d1, d2, p1.dps sg c.1, p2.dps sg c.2, c.1, c.2, q⟩
  | lt =>
    cases p1 with
    | int i =>
      cases p2 with
      | int j => cases e; exact op_lt pins s σ H _ _ v u Q I rx ry ⟨i, j, rfl, rfl, q⟩
      | _ => cases e
    | tup h1 z1 a1 =>
      cases p2 with
      | tup h2 z2 a2 =>
        rename_i xs _ _ ys
        simp only [cmD] at e
        cases i1 : intsOf xs with
        | none => rw [i1] at e; cases e
        | some ns =>
          cases i2 : intsOf ys with
          | none => rw [i1, i2] at e; cases e
          | some ms =>
            rw [i1, i2] at e
            cases e
            rw [a1.ints i1] at h1
            rw [a2.ints i2] at h2
            exact op_ltT (by omega) pins s σ H _ _ v u Q I rx ry ⟨_, _, ns, ms, rfl, rfl, SqT.of (sg _ _ h1), SqT.of (sg _ _ h2), q⟩
      | _ => cases e
    | _ => cases p2 <;> cases e
  | le =>
    cases p1 with
    | int i =>
      cases p2 with
      | int j => cases e; exact op_le pins s σ H _ _ v u Q I rx ry ⟨i, j, rfl, rfl, q⟩
      | _ => cases e
    | _ => cases p2 <;> cases e
  | gt =>
    cases p1 with
    | int i =>
      cases p2 with
      | int j => cases e; exact op_gt pins s σ H _ _ v u Q I rx ry ⟨i, j, rfl, rfl, q⟩
      | _ => cases e
    | _ => cases p2 <;> cases e
  | ge =>
    cases p1 with
    | int i =>
      cases p2 with
      | int j => cases e; exact op_ge pins s σ H _ _ v u Q I rx ry ⟨i, j, rfl, rfl, q⟩
      | _ => cases e
    | _ => cases p2 <;> cases e
  | is =>
    cases p2 with
    | non =>
      refine op_isN pins s σ H _ _ v u Q I rx ry ⟨rfl, ?_⟩
      cases p1 <;> cases e <;> exact q
    | bl j =>
      cases p1 with
      | bl i => cases e; exact op_is_bl pins s σ H _ _ v u Q I rx ry ⟨i, j, rfl, rfl, by rw [← Bool.beq_eq_decide_eq]; exact q⟩
      | _ => cases e
    | _ => cases p1 <;> cases e
  | isN =>
    cases p2 with
    | non =>
      refine op_notN pins s σ H _ _ v u Q I rx ry ⟨rfl, ?_⟩
      cases p1 <;> cases e <;> exact q
    | bl j =>
      cases p1 with
      | bl i => cases e; exact op_isnot_bl pins s σ H _ _ v u Q I rx ry ⟨i, j, rfl, rfl, by rw [← Bool.beq_eq_decide_eq]; exact q⟩
      | _ => cases e
    | _ => cases p1 <;> cases e
  | inn =>
    cases p2 with
    | lst h2 z2 a2 =>
      rename_i a vs ds
      obtain ⟨c, rfl⟩ := if_some (show (if shp d1 && shp (.list ds) then some (ds.any fun z => PyData.eqv z d1) else none) = some b by cases d1 <;> exact e)
      simp only [Bool.and_eq_true] at c
      exact op_inD hu pins s σ H _ _ v u Q I rx ry ⟨d1, ds, p1.dps sg c.1, (Rp.lst h2 z2 a2).dps sg c.2, c.1, c.2, q⟩
    | tup h2 z2 a2 =>
      rename_i a vs ds
      obtain ⟨c, rfl⟩ := if_some (show (if flatD d1 && ds.all flatD then some (ds.any fun z => PyData.eqv z d1) else none) = some b by cases d1 <;> exact e)
      simp only [Bool.and_eq_true] at c
      obtain ⟨f1, f2⟩ := flat_any p1 c.1 a2 c.2
      exact op_in_seq pins s σ H _ _ v u Q I rx ry ⟨_, _, rfl, .inr (SqT.of (sg _ _ h2)), flat_V p1 c.1, f1, by rw [f2]; exact q⟩
    | dK h2 z2 a2 => exact c_dict false (by omega) I rx ry sg p1 (.dK h2 z2 a2) e q
    | dT h2 z2 a2 => exact c_dict false (by omega) I rx ry sg p1 (.dT h2 z2 a2) e q
    | _ => cases p1 <;> cases e
  | notin =>
    cases p2 with
    | lst h2 z2 a2 =>
      rename_i a vs ds
      obtain ⟨c, rfl⟩ := if_some (show (if shp d1 && shp (.list ds) then some (!ds.any fun z => PyData.eqv z d1) else none) = some b by cases d1 <;> exact e)
      simp only [Bool.and_eq_true] at c
      exact op_notInD hu pins s σ H _ _ v u Q I rx ry ⟨d1, ds, p1.dps sg c.1, (Rp.lst h2 z2 a2).dps sg c.2, c.1, c.2, q⟩
    | tup h2 z2 a2 =>
      rename_i a vs ds
      obtain ⟨c, rfl⟩ := if_some (show (if flatD d1 && ds.all flatD then some (!ds.any fun z => PyData.eqv z d1) else none) = some b by cases d1 <;> exact e)
      simp only [Bool.and_eq_true] at c
      obtain ⟨f1, f2⟩ := flat_any p1 c.1 a2 c.2
      exact op_notIn_seq pins s σ H _ _ v u Q I rx ry ⟨_, _, rfl, .inr (SqT.of (sg _ _ h2)), flat_V p1 c.1, f1, by rw [f2]; exact q⟩
    | dK h2 z2 a2 => exact c_dict true (by omega) I rx ry sg p1 (.dK h2 z2 a2) e q
    | dT h2 z2 a2 => exact c_dict true (by omega) I rx ry sg p1 (.dT h2 z2 a2) e q
    | _ => cases p1 <;> cases e

/-! ### tests, as tests and as values -/
abbrev Me := Ev → Option ((D × Nat) × Ev)
abbrev Mt := Ev → Option (Bool × Ev)
def mCm (c : Cm) (ma mb' : Me) : Mt := fun ρ => mb (ma ρ) fun x ρ => mb (mb' ρ) fun y ρ => (cmD c x.1 y.1).map fun b => (b, ρ)
theorem cm_wp {K : PySem.W.Frag} {c : Cm} {ma mb' : Me} {σ : L2.St} {H : Hp} {Q : VK} (h : tTv K n (mCm c ma mb') σ H Q) : tOp (rC K (cmD c)) (tEv K n ma) (tEv K n mb') σ H Q := by
  obtain ⟨B, ρ, G, fp, hn, r, b, ρ', hm, q⟩ := h
  obtain ⟨x, ρ1, h1, hm⟩ := mb_of hm
  obtain ⟨y, ρ2, h2, hm⟩ := mb_of hm
  cases e : cmD c x.1 y.1 with
  | none => rw [e] at hm; cases hm
  | some d' =>
    rw [e] at hm
    cases hm
    exact ⟨B, ρ, G, fp, hn, r, x.1, x.2, ρ1, h1, fun v H1 G1 fp1 s1 r1 p1 => ⟨B, ρ1, G1, fp1, hn, r1, y.1, y.2, ρ', h2, fun u H2 G2 fp2 s2 r2 p2 => ⟨G2, x.1, y.1, _, r2.gh, p1.mono s2, p2, e, q H2 G2 fp2 (s1.trans s2) r2⟩⟩⟩
theorem tT_tTv {K : PySem.W.Frag} {m : Mt} {σ : L2.St} {H : Hp} {Q : Bool → Hp → Prop} (h : tT K n m σ H Q) : tTv K n m σ H fun x H' => ∃ k, x = .bl k ∧ Q k H' := by
  obtain ⟨B, ρ, G, fp, hn, r, b, ρ', hm, q⟩ := h
  exact ⟨B, ρ, G, fp, hn, r, b, ρ', hm, fun H' G' fp' s r' => ⟨b, rfl, q H' G' fp' s r'⟩⟩
theorem sv_cm {c : Cm} {a b : Expr} {ma mb' : Me} {pos : Pos} (hu : X.A.units + 65 < cLine) (hc : X.calm = true) (ha : PE X a (tE X.K n ma)) (hb : PE X b (tE X.K n mb')) (hm : behindInMarks (cmP c) b = false) : PE X (.Compare a [cmP c] [b] pos) (tTv X.K n (mCm c ma mb')) :=
  (pe_cmpR (op_C c hu hc) ha.div hb.div hm).diw fun _ _ _ => cm_wp
theorem st_cm {c : Cm} {a b : Expr} {ma mb' : Me} {pos : Pos} (hu : X.A.units + 65 < cLine) (hc : X.calm = true) (ha : PE X a (tE X.K n ma)) (hb : PE X b (tE X.K n mb')) (hm : behindInMarks (cmP c) b = false) : PT X (.Compare a [cmP c] [b] pos) (tT X.K n (mCm c ma mb')) :=
  (pt_cmpR (op_C c hu hc) ha.div hb.div hm).diw fun _ _ _ h => cm_wp (tT_tTv h)
def mChn (c c' : Cm) (ma mb' md : Me) : Mt := fun ρ => mb (ma ρ) fun x ρ => mb (mb' ρ) fun y ρ => (cmD c x.1 y.1).bind fun k =>
      if k then mb (md ρ) fun z ρ => (cmD c' y.1 z.1).map fun b => (b, ρ) else some (false, ρ)
theorem chn_wp {K : PySem.W.Frag} {c c' : Cm} {ma mb' md : Me} {σ : L2.St} {H : Hp} {Q : VK} (h : tTv K n (mChn c c' ma mb' md) σ H Q) : tChain (rC K (cmD c)) (rC K (cmD c')) (tEv K n ma) (tEv K n mb') (tEv K n md) σ H Q := by
  obtain ⟨B, ρ, G, fp, hn, r, b, ρ', hm, q⟩ := h
  obtain ⟨x, ρ1, h1, hm⟩ := mb_of hm
  obtain ⟨y, ρ2, h2, hm⟩ := mb_of hm
  cases e : cmD c x.1 y.1 with
  | none => rw [e] at hm; cases hm
  | some d' =>
    rw [e] at hm
    refine ⟨B, ρ, G, fp, hn, r, x.1, x.2, ρ1, h1, fun v H1 G1 fp1 s1 r1 p1 => ⟨B, ρ1, G1, fp1, hn, r1, y.1, y.2, ρ2, h2, fun u H2 G2 fp2 s2 r2 p2 => ⟨G2, x.1, y.1, _, r2.gh, p1.mono s2, p2, e, d', rfl, ?_⟩⟩⟩
    cases d' with
    | false =>
      have hm : some (false, ρ2) = some (b, ρ') := hm
      cases hm
      exact iteF (q H2 G2 fp2 (s1.trans s2) r2)
    | true =>
      have hm : (mb (md ρ2) fun z ρ => (cmD c' y.1 z.1).map fun b => (b, ρ)) = some (b, ρ') := hm
      obtain ⟨z, ρ3, h3, hm⟩ := mb_of hm
      cases e' : cmD c' y.1 z.1 with
      | none => rw [e'] at hm; cases hm
      | some d' =>
        rw [e'] at hm
        cases hm
        exact iteT ⟨B, ρ2, G2, fp2, hn, r2, z.1, z.2, ρ', h3, fun w H3 G3 fp3 s3 r3 p3 => ⟨G3, y.1, z.1, _, r3.gh, p2.mono s3, p3, e', q H3 G3 fp3 ((s1.trans s2).trans s3) r3⟩⟩
theorem sv_chn {c c' : Cm} {a b d : Expr} {ma mb' md : Me} {pos : Pos} (hu : X.A.units + 65 < cLine) (hc : X.calm = true) (ha : PE X a (tE X.K n ma)) (hb : PE X b (tE X.K n mb')) (hd : PE X d (tE X.K n md)) (hm : lastMarks [cmP c, cmP c'] [b, d] = false) : PE X (.Compare a [cmP c, cmP c'] [b, d] pos) (tTv X.K n (mChn c c' ma mb' md)) :=
  (pe_chain (op_C c hu hc) (op_C c' hu hc) ha.div hb.div hd.div hm).diw fun _ _ _ => chn_wp
theorem st_chn {c c' : Cm} {a b d : Expr} {ma mb' md : Me} {pos : Pos} (hu : X.A.units + 65 < cLine) (hc : X.calm = true) (ha : PE X a (tE X.K n ma)) (hb : PE X b (tE X.K n mb')) (hd : PE X d (tE X.K n md)) (hm : lastMarks [cmP c, cmP c'] [b, d] = false) : PT X (.Compare a [cmP c, cmP c'] [b, d] pos) (tT X.K n (mChn c c' ma mb' md)) :=
  (pt_chain (op_C c hu hc) (op_C c' hu hc) ha.div hb.div hd.div hm).diw fun _ _ _ h => chn_wp (tT_tTv h)
def mEx (m : Me) : Mt := fun ρ => mb (m ρ) fun x ρ => match x.1 with
    | .bool b => some (b, ρ)
    | _ => none
theorem ex_wp {K : PySem.W.Frag} {m : Me} {σ : L2.St} {H : Hp} {Q : VK} (h : tTv K n (mEx m) σ H Q) : tEv K n m σ H Q := by
  obtain ⟨B, ρ, G, fp, hn, r, b, ρ', hm, q⟩ := h
  obtain ⟨x, ρ1, h1, hm⟩ := mb_of hm
  refine ⟨B, ρ, G, fp, hn, r, x.1, x.2, ρ1, h1, fun v H1 G1 fp1 s1 r1 p1 => ?_⟩
  cases hx : x.1 with
  | bool i =>
    rw [hx] at hm p1
    cases hm
    cases p1
    exact q H1 G1 fp1 s1 r1
  | _ => rw [hx] at hm; cases hm
theorem sv_ex {e : Expr} {m : Me} (h : PE X e (tE X.K n m)) : PE X e (tTv X.K n (mEx m)) := h.div.diw fun _ _ _ => ex_wp
def isPlainT : Expr → Bool
  | .UnaryOp .Not _ _ => false
  | .BoolOp .. => false
  | .IfExp .. => false
  | .Compare .. => false
  | _ => true
theorem plainT {e : Expr} {env : Env} (h : isPlainT e = true) : ∀ whole, isTrue e env whole = (do let v ← whole; standAt e.pos; holding [v] (truthy v)) := by
  intro whole
  cases e with
  | UnaryOp op x pos => cases op <;> first | rfl | cases h
  | _ => first | rfl | cases h
theorem st_ex {e : Expr} {m : Me} (h : PE X e (tE X.K n m)) (hp : isPlainT e = true) : PT X e (tT X.K n (mEx m)) :=
  (pt_val h.div (plainT hp)).diw fun _ _ _ h => ex_wp (tT_tTv h)
theorem st_of_v {e : Expr} {m : Mt} (h : PE X e (tTv X.K n m)) (hp : isPlainT e = true) : PT X e (tT X.K n m) := (pt_val h (plainT hp)).diw fun _ _ _ h => tT_tTv h
def mNot (m : Mt) : Mt := fun ρ => mb (m ρ) fun b ρ => some (!b, ρ)
theorem st_not {a : Expr} {m : Mt} {pos : Pos} (h : PT X a (tT X.K n m)) : PT X (.UnaryOp .Not a pos) (tT X.K n (mNot m)) := by
  refine (pt_not h).diw fun σ H Q h => ?_
  obtain ⟨B, ρ, G, fp, hn, r, b, ρ', hm, q⟩ := h
  obtain ⟨x, ρ1, h1, hm⟩ := mb_of hm
  cases hm
  exact ⟨B, ρ, G, fp, hn, r, x, ρ', h1, q⟩
theorem sv_not {a : Expr} {m : Mt} {pos : Pos} (h : PE X a (tTv X.K n m)) : PE X (.UnaryOp .Not a pos) (tTv X.K n (mNot m)) := by
  refine (pe_not h).diw fun σ H Q h => ?_
  obtain ⟨B, ρ, G, fp, hn, r, b, ρ', hm, q⟩ := h
  obtain ⟨x, ρ1, h1, hm⟩ := mb_of hm
  cases hm
  exact ⟨B, ρ, G, fp, hn, r, x, ρ', h1, fun H1 G1 fp1 s1 r1 => ⟨x, rfl, q H1 G1 fp1 s1 r1⟩⟩
def mAnd (m ms : Mt) : Mt := fun ρ => mb (m ρ) fun b ρ => if b then ms ρ else some (false, ρ)
def mOr (m ms : Mt) : Mt := fun ρ => mb (m ρ) fun b ρ => if b then some (true, ρ) else ms ρ
theorem st_and1 {a : Expr} {m : Mt} {pos : Pos} (h : PT X a (tT X.K n m)) : PW X (.BoolOp .And [a] pos) (tT X.K n (mAnd m fun ρ => some (true, ρ))) := by
  refine (pw_and1 h).diw fun σ H Q h => ?_
  obtain ⟨B, ρ, G, fp, hn, r, b, ρ', hm, q⟩ := h
  obtain ⟨x, ρ1, h1, hm⟩ := mb_of hm
  cases x <;> (cases hm; exact ⟨B, ρ, G, fp, hn, r, _, ρ', h1, q⟩)
theorem st_or1 {a : Expr} {m : Mt} {pos : Pos} (h : PT X a (tT X.K n m)) : PW X (.BoolOp .Or [a] pos) (tT X.K n (mOr m fun ρ => some (false, ρ))) := by
  refine (pw_or1 h).diw fun σ H Q h => ?_
  obtain ⟨B, ρ, G, fp, hn, r, b, ρ', hm, q⟩ := h
  obtain ⟨x, ρ1, h1, hm⟩ := mb_of hm
  cases x <;> (cases hm; exact ⟨B, ρ, G, fp, hn, r, _, ρ', h1, q⟩)
theorem st_and {a b : Expr} {rest : List Expr} {m ms : Mt} {pos : Pos} (h : PT X a (tT X.K n m)) (hs : PW X (.BoolOp .And (b :: rest) pos) (tT X.K n ms)) : PW X (.BoolOp .And (a :: b :: rest) pos) (tT X.K n (mAnd m ms)) := by
  refine (pw_and h hs).diw fun σ H Q h => ?_
  obtain ⟨B, ρ, G, fp, hn, r, b, ρ', hm, q⟩ := h
  obtain ⟨x, ρ1, h1, hm⟩ := mb_of hm
  refine ⟨B, ρ, G, fp, hn, r, x, ρ1, h1, fun H1 G1 fp1 s1 r1 => ?_⟩
  cases x with
  | false => cases hm; exact iteF (q H1 G1 fp1 s1 r1)
  | true => exact iteT ⟨B, ρ1, G1, fp1, hn, r1, b, ρ', hm, fun H2 G2 fp2 s2 r2 => q H2 G2 fp2 (s1.trans s2) r2⟩
theorem st_or {a b : Expr} {rest : List Expr} {m ms : Mt} {pos : Pos} (h : PT X a (tT X.K n m)) (hs : PW X (.BoolOp .Or (b :: rest) pos) (tT X.K n ms)) : PW X (.BoolOp .Or (a :: b :: rest) pos) (tT X.K n (mOr m ms)) := by
  refine (pw_or h hs).diw fun σ H Q h => ?_
  obtain ⟨B, ρ, G, fp, hn, r, b, ρ', hm, q⟩ := h
  obtain ⟨x, ρ1, h1, hm⟩ := mb_of hm
  refine ⟨B, ρ, G, fp, hn, r, x, ρ1, h1, fun H1 G1 fp1 s1 r1 => ?_⟩
  cases x with
  | true => cases hm; exact iteT (q H1 G1 fp1 s1 r1)
  | false => exact iteF ⟨B, ρ1, G1, fp1, hn, r1, b, ρ', hm, fun H2 G2 fp2 s2 r2 => q H2 G2 fp2 (s1.trans s2) r2⟩
theorem sv_and1 {a : Expr} {m : Mt} {pos : Pos} (h : PE X a (tTv X.K n m)) : PE X (.BoolOp .And [a] pos) (tTv X.K n (mAnd m fun ρ => some (true, ρ))) := by
  refine (pe_one h).diw fun σ H Q h => ?_
  obtain ⟨B, ρ, G, fp, hn, r, b, ρ', hm, q⟩ := h
  obtain ⟨x, ρ1, h1, hm⟩ := mb_of hm
  cases x <;> (cases hm; exact ⟨B, ρ, G, fp, hn, r, _, ρ', h1, q⟩)
theorem sv_or1 {a : Expr} {m : Mt} {pos : Pos} (h : PE X a (tTv X.K n m)) : PE X (.BoolOp .Or [a] pos) (tTv X.K n (mOr m fun ρ => some (false, ρ))) := by
  refine (pe_one h).diw fun σ H Q h => ?_
  obtain ⟨B, ρ, G, fp, hn, r, b, ρ', hm, q⟩ := h
  obtain ⟨x, ρ1, h1, hm⟩ := mb_of hm
  cases x <;> (cases hm; exact ⟨B, ρ, G, fp, hn, r, _, ρ', h1, q⟩)
theorem sv_and {a b : Expr} {rest : List Expr} {m ms : Mt} {pos : Pos} (h : PE X a (tTv X.K n m)) (hs : PE X (.BoolOp .And (b :: rest) pos) (tTv X.K n ms)) : PE X (.BoolOp .And (a :: b :: rest) pos) (tTv X.K n (mAnd m ms)) := by
  refine (pe_and h hs).diw fun σ H Q h => ?_
  obtain ⟨B, ρ, G, fp, hn, r, b, ρ', hm, q⟩ := h
  obtain ⟨x, ρ1, h1, hm⟩ := mb_of hm
  refine ⟨B, ρ, G, fp, hn, r, x, ρ1, h1, fun H1 G1 fp1 s1 r1 => ⟨x, rfl, ?_⟩⟩
  cases x with
  | false => cases hm; exact iteF (q H1 G1 fp1 s1 r1)
  | true => exact iteT ⟨B, ρ1, G1, fp1, hn, r1, b, ρ', hm, fun H2 G2 fp2 s2 r2 => q H2 G2 fp2 (s1.trans s2) r2⟩
theorem sv_or {a b : Expr} {rest : List Expr} {m ms : Mt} {pos : Pos} (h : PE X a (tTv X.K n m)) (hs : PE X (.BoolOp .Or (b :: rest) pos) (tTv X.K n ms)) : PE X (.BoolOp .Or (a :: b :: rest) pos) (tTv X.K n (mOr m ms)) := by
  refine (pe_or h hs).diw fun σ H Q h => ?_
  obtain ⟨B, ρ, G, fp, hn, r, b, ρ', hm, q⟩ := h
  obtain ⟨x, ρ1, h1, hm⟩ := mb_of hm
  refine ⟨B, ρ, G, fp, hn, r, x, ρ1, h1, fun H1 G1 fp1 s1 r1 => ⟨x, rfl, ?_⟩⟩
  cases x with
  | true => cases hm; exact iteT (q H1 G1 fp1 s1 r1)
  | false => exact iteF ⟨B, ρ1, G1, fp1, hn, r1, b, ρ', hm, fun H2 G2 fp2 s2 r2 => q H2 G2 fp2 (s1.trans s2) r2⟩
theorem se_tst {e : Expr} {m : Mt} (h : PE X e (tTv X.K n m)) : PE X e (tE X.K n fun ρ => mb (m ρ) fun b ρ => some ((.bool b, 0), ρ)) := by
  refine h.diw fun σ H Q h => ?_
  obtain ⟨B, ρ, G, fp, hn, r, d, k, ρ', hm, q⟩ := h
  obtain ⟨x, ρ1, h1, hm⟩ := mb_of hm
  cases hm
  exact ⟨B, ρ, G, fp, hn, r, x, ρ', h1, fun H1 G1 fp1 s1 r1 => q.val s1 r1 (.bl x)⟩
theorem se_ife {c a b : Expr} {mt : Mt} {ma mb' : Me} {pos : Pos} (hc : PT X c (tT X.K n mt)) (ha : PE X a (tE X.K n ma)) (hb : PE X b (tE X.K n mb')) :
    PE X (.IfExp c a b pos) (tE X.K n fun ρ => mb (mt ρ) fun c ρ => if c then ma ρ else mb' ρ) := by
  refine (pe_ifExp hc ha hb).diw fun σ H Q h => ?_
  obtain ⟨B, ρ, G, fp, hn, r, d, k, ρ', hm, q⟩ := h
  obtain ⟨x, ρ1, h1, hm⟩ := mb_of hm
  refine ⟨B, ρ, G, fp, hn, r, x, ρ1, h1, fun H1 G1 fp1 s1 r1 => ?_⟩
  cases x with
  | false => exact iteF ⟨B, ρ1, G1, fp1, hn, r1, d, k, ρ', hm, fun v H2 G2 fp2 fv s2 r2 o => q v H2 G2 fp2 fv (s1.trans s2) r2 o⟩
  | true => exact iteT ⟨B, ρ1, G1, fp1, hn, r1, d, k, ρ', hm, fun v H2 G2 fp2 fv s2 r2 o => q v H2 G2 fp2 fv (s1.trans s2) r2 o⟩
end
end DI

/-! DI4: subscripts, calls, built-ins, comprehensions. -/
namespace DI
open PySem PySem.Spec PyProof.Rows L2
section
variable {X : Cx} {n : Nat}
/-! ### items -/
theorem RpA.atI {K : PySem.W.Frag} {G : Hp} {vs : List V} {ds : List D} {i : Int} {d : D} (a : RpA K G vs ds) (h : L2.atI ds i = some d) : ∃ v, L2.atI vs i = some v ∧ Rp K G v d := by
  unfold L2.atI at h ⊢
  rw [a.length]
  cases e : ixN ds.length i with
  | none => rw [e] at h; cases h
  | some j =>
    rw [e] at h
    exact a.get (show ds[j]? = some d from h)
def rIxDc : R2 := fun x y H Q => ∃ a v, x = .ref a ∧ DGet H a y (some v) ∧ Q v H
theorem ix_dc (hu : X.A.units + 1 < cLine) : IxR X rIxDc := by
  intro value slice pins s σ H x y v u Q I rx ry h hs
  obtain ⟨a, z, rfl, g, q⟩ := h
  obtain rfl : v = Value.ref a := rx
  exact tail_any (dict_typeIs I g) PySem.F.slot_dict_getitem.lookup (d_getItem hu I g ry fun w' s3 I3 rw' => ⟨z, H, I3, rw', q⟩) hs
abbrev rIxA (K : PySem.W.Frag) : R2 := fun x y H Q => rIx K x y H Q ∨ rIxDc x y H Q
theorem ix_any (hu : X.A.units + 1 < cLine) : IxR X (rIxA X.K) := ix_seq.or (ix_dc hu)
theorem ix_D {K : PySem.W.Frag} {G H : Hp} {x y : V} {d1 d2 d : D} {Q : VK} (sg : Same G H) (p1 : Rp K G x d1) (p2 : Rp K G y d2) (e : ixD d1 d2 = some d) (q : ∀ z, Rp K G z d → Q z H) : rIxA K x y H Q := by
  have dict : ∀ ds, d1 = .dict ds → rIxA K x y H Q := fun ds hd => by
    subst hd
    have e : (dget (.dict ds) d2).bind id = some d := by cases d2 <;> exact e
    cases h : dget (.dict ds) d2 with
    | none => rw [h] at e; cases e
    | some o =>
      rw [h] at e
      have e : o = some d := e
      subst e
      obtain ⟨a, ov, rfl, g, ro⟩ := dget_ok sg p1 p2 h ⟨_, rfl⟩
      cases ov with
      | none => cases ro
      | some w => exact .inr ⟨a, w, rfl, g, q w ro⟩
  cases p1 with
  | lst h z a =>
    cases p2 with
    | int i =>
      obtain ⟨w, e1, p⟩ := a.atI (show atI _ i = some d from e)
      exact .inl (.inl ⟨_, _, i, w, rfl, rfl, SqL.of (sg _ _ h), e1, q w p⟩)
    | _ => cases e
  | tup h z a =>
    cases p2 with
    | int i =>
      obtain ⟨w, e1, p⟩ := a.atI (show atI _ i = some d from e)
      exact .inl (.inr (.inl ⟨_, _, i, w, rfl, rfl, SqT.of (sg _ _ h), e1, q w p⟩))
    | _ => cases e
  | dK h z a => exact dict _ rfl
  | dT h z a => exact dict _ rfl
  | scr h z a => exact dict _ rfl
  | _ => cases p2 <;> cases e
def plainIx : Expr → Bool
  | .Slice .. => false
  | _ => true
theorem plainIx_ok {b : Expr} (h : plainIx b = true) : PlainIx b := by
  intro o i
  cases b <;> first | rfl | cases h
theorem se_ix {a i : Expr} {ma mi : Me} {pos : Pos} (hu : X.A.units + 1 < cLine) (ha : PE X a (tE X.K n ma)) (hi : PE X i (tE X.K n mi)) (hs : plainIx i = true) :
    PE X (.Subscript a i pos) (tE X.K n fun ρ => mb (ma ρ) fun x ρ => mb (mi ρ) fun y ρ => (ixD x.1 y.1).map fun d => ((d, 0), ρ)) := by
  refine (pe_ix (ix_any hu) ha.div hi.div (plainIx_ok hs)).diw fun σ H Q h => ?_
  obtain ⟨B, ρ, G, fp, hn, r, d, k, ρ', hm, q⟩ := h
  obtain ⟨x, ρ1, h1, hm⟩ := mb_of hm
  obtain ⟨y, ρ2, h2, hm⟩ := mb_of hm
  cases e : ixD x.1 y.1 with
  | none => rw [e] at hm; cases hm
  | some d' =>
    rw [e] at hm
    cases hm
    exact ⟨B, ρ, G, fp, hn, r, x.1, x.2, ρ1, h1, fun v H1 G1 fp1 s1 r1 p1 => ⟨B, ρ1, G1, fp1, hn, r1, y.1, y.2, ρ', h2, fun u H2 G2 fp2 s2 r2 p2 =>
      ix_D r2.gh (p1.mono s2) p2 e fun z hz => q.val (s1.trans s2) r2 hz⟩⟩
/-- what is owned at one level -/
theorem ow1_ok {K : PySem.W.Frag} {B : Bd} {σ : L2.St} {H G : Hp} {ρ : Ev} {fp : Nat → List Addr} {s : Nat} {d : D} (r : Rel K B σ H ρ G fp) (h : ow1 s ρ = some d) : ∃ v, σ[s]? = some (some v) ∧ ∃ f, Ow K G H 1 v d f := by
  have w := r.sl s
  unfold ow1 at h
  cases hg : gt ρ s with
  | un => rw [hg] at h; cases h
  | io d' =>
    rw [hg] at h w
    cases h
    obtain ⟨a, e, _, _, o⟩ := w
    exact ⟨_, e, _, o⟩
  | sl k d' =>
    rw [hg] at h w
    match k, h with
    | 1, h =>
      cases h
      obtain ⟨v, e, o, _⟩ := w
      exact ⟨v, e, _, o⟩
theorem RpK.len {K : PySem.W.Frag} {G : Hp} : ∀ {vs : List (L2.Key × V)} {ds : List (D × D)}, RpK K G vs ds → vs.length = ds.length
  | _, _, .nil => rfl
  | _, _, .cons _ t => congrArg (· + 1) t.len
theorem RpT.len {K : PySem.W.Frag} {G : Hp} : ∀ {vs : List (List L2.Key × V)} {ds : List (D × D)}, RpT K G vs ds → vs.length = ds.length
  | _, _, .nil => rfl
  | _, _, .cons _ t => congrArg (· + 1) t.len
theorem owA0 {K : PySem.W.Frag} {G H : Hp} : ∀ {vs : List V} {ds : List D} {fs : List (List Addr)}, OwA (Ow K G H 0) vs ds fs → RpA K G vs ds ∧ fs.flatten = []
  | _, _, _, .nil => ⟨.nil, rfl⟩
  | _, _, _, .cons h t => by
    obtain ⟨h1, h2⟩ := h
    obtain ⟨t1, t2⟩ := owA0 t
    exact ⟨.cons h1 t1, by rw [List.flatten_cons, h2, t2]; rfl⟩
/-- an owned thing is read as if it were shared: at this heap alone -/
theorem Ow.look {K : PySem.W.Frag} {G H : Hp} {v : V} {d : D} {f : List Addr} (sg : Same G H) (o : Ow K G H 1 v d f) : Rp K H v d := by
  obtain ⟨a, fs, rfl, _, h⟩ := o
  rcases h with ⟨vs, ds, h1, h2, rfl, h4⟩ | ⟨_, _, vs, ds, h1, h2, rfl, h4⟩ | ⟨_, _, vs, ds, h1, h2, rfl, h4⟩
  · exact .lst h1 h2 ((owA0 h4).1.mono sg)
  · exact .dK h1 h2 (h4.mono sg)
  · exact .dT h1 h2 (h4.mono sg)
/-- an item of what is owned at one level is shared -/
theorem Ow.item {K : PySem.W.Frag} {G H : Hp} {x y : V} {d1 d2 d : D} {f : List Addr} {Q : VK} (sg : Same G H) (o : Ow K G H 1 x d1 f) (p2 : Rp K G y d2) (e : ixD d1 d2 = some d) (q : ∀ z, Rp K G z d → Q z H) : rIxA K x y H Q := by
  obtain ⟨a, fs, rfl, _, h⟩ := o
  have dict : ∀ ds, d1 = .dict ds → (∀ k o, dget (.dict ds) d2 = some o → ∃ ov, DGet H a y ov ∧ RO K G ov o) → rIxA K (.ref a) y H Q := fun ds hd hg => by
    subst hd
    have e : (dget (.dict ds) d2).bind id = some d := by cases d2 <;> exact e
    cases h : dget (.dict ds) d2 with
    | none => rw [h] at e; cases e
    | some o =>
      rw [h] at e
      have e : o = some d := e
      subst e
      obtain ⟨ov, g, ro⟩ := hg d2 _ h
      cases ov with
      | none => cases ro
      | some w => exact .inr ⟨a, w, rfl, g, q w ro⟩
  rcases h with ⟨vs, ds, h1, h2, rfl, h4⟩ | ⟨_, _, vs, ds, h1, h2, rfl, h4⟩ | ⟨_, _, vs, ds, h1, h2, rfl, h4⟩
  · cases p2 with
    | int i =>
      obtain ⟨w, e1, p⟩ := (owA0 h4).1.atI (show atI _ i = some d from e)
      exact .inl (.inl ⟨_, _, i, w, rfl, rfl, SqL.of h1, e1, q w p⟩)
    | _ => cases e
  · refine dict _ rfl fun k o ho => ?_
    cases hk : toKey d2 with
    | none => simp [dget, hk] at ho
    | some κ =>
      have ho : some (dfind d2 ds) = some o := by simpa [dget, hk] using ho
      cases ho
      obtain rfl := toKey_D hk
      obtain rfl := kV_rp p2
      exact ⟨_, DGet.k h1, h4.find κ⟩
  · refine dict _ rfl fun k o ho => ?_
    cases p2 with
    | tup h2 z2 a2 =>
      rename_i ks
      cases hk : toKeys ks with
      | none => simp [dget, hk] at ho
      | some κ =>
        have ho : some (dfind (.tuple ks) ds) = some o := by simpa [dget, hk] using ho
        cases ho
        obtain rfl := toKeys_D hk
        obtain rfl := kVs_rp a2
        exact ⟨_, DGet.t h1 (sg _ _ h2), h4.find κ⟩
    | _ => cases ho
theorem ow01_ok {K : PySem.W.Frag} {B : Bd} {σ : L2.St} {H G : Hp} {ρ : Ev} {fp : Nat → List Addr} {s : Nat} {d : D} (r : Rel K B σ H ρ G fp) (h : ow01 s ρ = some d) : ∃ v, σ[s]? = some (some v) ∧ (Rp K G v d ∨ ∃ f, Ow K G H 1 v d f) := by
  have w := r.sl s
  unfold ow01 at h
  cases hg : gt ρ s with
  | un => rw [hg] at h; cases h
  | io d' =>
    rw [hg] at h w
    cases h
    obtain ⟨a, e, _, _, o⟩ := w
    exact ⟨_, e, .inr ⟨_, o⟩⟩
  | sl k d' =>
    rw [hg] at h w
    obtain ⟨v, e, o, _⟩ := w
    match k, h with
    | 0, h => cases h; exact ⟨v, e, .inl o.1⟩
    | 1, h => cases h; exact ⟨v, e, .inr ⟨_, o⟩⟩
theorem se_dnew {t : Bool} {pos : Pos} : PE X (.Dict [] [] pos) (tE X.K n fun ρ => some ((.dict [(.bool !t, .none)], 1), ρ)) := by
  have own : ∀ {B : Bd} {σ : L2.St} {H : Hp} {ρ : Ev} {G : Hp} {fp : Nat → List Addr} {Q : VK} {d : D} {o : HO}, Rel X.K B σ H ρ G fp → Fin X.K B σ ρ G 1 d Q → (∀ H p, H p = some o → ∃ f : List (List Addr), Ow X.K G H 1 (.ref p) d [p]) → ∀ p, H p = none → Q (.ref p) (upd H p o) := by
    intro B σ H ρ G fp Q d o r q ho p hp
    obtain ⟨f1, f2, f3, f4⟩ := r.fresh hp
    obtain ⟨_, ow⟩ := ho (upd H p o) p upd_same
    refine q _ _ G fp [p] (Same.refl _) (r.grow (same_upd hp)) ⟨ow, by simp, fun i b hb => ?_, fun b hb => ?_⟩
    · have e : b = p := by simpa using hb
      rw [e]; exact f1 i
    · have e : b = p := by simpa using hb
      rw [e]; exact ⟨f2, f3, f4⟩
  cases t with
  | false =>
    refine pe_dnewK.diw fun σ H Q h => ?_
    obtain ⟨B, ρ, G, fp, hn, r, d, k, ρ', hm, q⟩ := h
    cases hm
    exact own r q fun H p e => ⟨[], p, [], rfl, rfl, .inr (.inl ⟨rfl, rfl, [], [], e, Nat.zero_le _, rfl, .nil⟩)⟩
  | true =>
    refine pe_dnewT.diw fun σ H Q h => ?_
    obtain ⟨B, ρ, G, fp, hn, r, d, k, ρ', hm, q⟩ := h
    cases hm
    exact own r q fun H p e => ⟨[], p, [], rfl, rfl, .inr (.inr ⟨rfl, rfl, [], [], e, Nat.zero_le _, rfl, .nil⟩)⟩
theorem se_bix {s : Nat} {x : Str} {i : Expr} {mi : Me} {pos p : Pos} (hu : X.A.units + 1 < cLine) (hN : X.N[s]? = some x) (hv : Vis X.env.scope x) (hd : (x == ("__debug__" : Str)) = false) (hc : (x == ("__classdict__" : Str)) = false)
    (hi : PE X i (tE X.K n mi)) (hs : plainIx i = true) :
    PE X (.Subscript (.Name x p) i pos) (tE X.K n fun ρ => (ow01 s ρ).bind fun _ => mb (mi ρ) fun y ρ => (ow01 s ρ).bind fun d => (ixD d y.1).map fun r => ((r, 0), ρ)) := by
  refine (pe_ix (ix_any hu) (pe_var hN hv hd hc) hi.div (plainIx_ok hs)).diw fun σ H Q h => ?_
  obtain ⟨B, ρ, G, fp, hn, r, d, k, ρ', hm, q⟩ := h
  dsimp only at hm
  cases e0 : ow01 s ρ with
  | none => rw [e0] at hm; cases hm
  | some d0 =>
    rw [e0] at hm
    obtain ⟨v, hσ, _⟩ := ow01_ok r e0
    obtain ⟨y, ρ1, h1, hm⟩ := mb_of (show mb (mi ρ) _ = _ from hm)
    cases e1 : ow01 s ρ1 with
    | none => rw [e1] at hm; cases hm
    | some d1 =>
      rw [e1] at hm
      cases e : ixD d1 y.1 with
      | none => simp [e] at hm
      | some d' =>
        have hm : some ((d', 0), ρ1) = some ((d, k), ρ') := by simpa [e] using hm
        cases hm
        refine ⟨v, hσ, B, ρ, G, fp, hn, r, y.1, y.2, ρ', h1, fun u H1 G1 fp1 s1 r1 p1 => ?_⟩
        obtain ⟨v', hσ', o | ⟨f, o⟩⟩ := ow01_ok r1 e1
        · rw [hσ] at hσ'; cases hσ'
          exact ix_D r1.gh o p1 e fun z hz => q.val s1 r1 hz
        · rw [hσ] at hσ'; cases hσ'
          exact o.item r1.gh p1 e fun z hz => q.val s1 r1 hz
theorem ow2_ok {K : PySem.W.Frag} {B : Bd} {σ : L2.St} {H G : Hp} {ρ : Ev} {fp : Nat → List Addr} {s : Nat} {d : D} (r : Rel K B σ H ρ G fp) (h : ow2 s ρ = some d) : ∃ v, σ[s]? = some (some v) ∧ gt ρ s = .sl 2 d ∧ Ow K G H 2 v d (fp s) := by
  have w := r.sl s
  unfold ow2 at h
  cases hg : gt ρ s with
  | un => rw [hg] at h; cases h
  | io d' => rw [hg] at h; cases h
  | sl k d' =>
    rw [hg] at h w
    match k, h with
    | 2, h =>
      cases h
      obtain ⟨v, e, o, _⟩ := w
      exact ⟨v, e, rfl, o⟩
/-- an owned thing within an owned one -/
theorem Ow.item2 {K : PySem.W.Frag} {G H : Hp} {x y : V} {d1 d2 d : D} {f : List Addr} {Q : VK} (o : Ow K G H 2 x d1 f) (p2 : Rp K G y d2) (e : ixD d1 d2 = some d)
    (q : ∀ a vs ds (fs : List (List Addr)) j i z g, x = .ref a → d1 = .list ds → y = .int i → ixN ds.length i = some j → H a = some (.lst vs) → f = a :: fs.flatten → OwA (Ow K G H 1) vs ds fs → vs[j]? = some z → ds[j]? = some d → fs[j]? = some g → Ow K G H 1 z d g → Q z H) : rIxA K x y H Q := by
  obtain ⟨a, fs, rfl, rfl, h⟩ := o
  rcases h with ⟨vs, ds, h1, h2, rfl, h4⟩ | ⟨z, _⟩ | ⟨z, _⟩
  · cases p2 with
    | int i =>
      have e : (ixN ds.length i).bind (fun j => ds[j]?) = some d := e
      cases hj : ixN ds.length i with
      | none => rw [hj] at e; cases e
      | some j =>
        rw [hj] at e
        have e : ds[j]? = some d := e
        obtain ⟨z, g, e1, e2, o2⟩ := h4.get e
        refine .inl (.inl ⟨a, vs, i, z, rfl, rfl, SqL.of h1, ?_, q a vs ds fs j i z g rfl rfl rfl hj h1 rfl h4 e1 e e2 o2⟩)
        unfold L2.atI
        rw [h4.length.1, hj]
        exact e1
    | _ => cases e
  · cases z
  · cases z
theorem mem1 {s i : Nat} : (i ∈ [s]) ↔ i = s := by simp
theorem flat1 {fp : Nat → List Addr} {s : Nat} : [s].flatMap fp = fp s := by simp
theorem se_bix2 {s : Nat} {x : Str} {i j : Expr} {mi mj : Me} {pos p p2 : Pos} (hu : X.A.units + 1 < cLine) (hN : X.N[s]? = some x) (hv : Vis X.env.scope x) (hd : (x == ("__debug__" : Str)) = false) (hc : (x == ("__classdict__" : Str)) = false)
    (hi : PE X i (tE X.K n mi)) (hj : PE X j (tE X.K n mj)) (hs : plainIx i = true) (hs2 : plainIx j = true) :
    PE X (.Subscript (.Subscript (.Name x p) i p2) j pos) (tE X.K n fun ρ => (ow2 s ρ).bind fun _ => mb (mi ρ) fun y ρ => (ow2 s ρ).bind fun d => (ixD d y.1).bind fun d => mb (mj (wp ρ [s])) fun z ρ' => (ixD d z.1).map fun r => ((r, 0), bk ρ [s] ρ')) := by
  refine (pe_ix (ix_any hu) (pe_ix (ix_any hu) (pe_var hN hv hd hc) hi.div (plainIx_ok hs)) hj.div (plainIx_ok hs2)).diw fun σ H Q h => ?_
  obtain ⟨B, ρ, G, fp, hn, r, d, k, ρ', hm, q⟩ := h
  dsimp only at hm
  cases e0 : ow2 s ρ with
  | none => rw [e0] at hm; cases hm
  | some d0 =>
    rw [e0] at hm
    obtain ⟨v, hσ, _, _⟩ := ow2_ok r e0
    obtain ⟨y, ρ1, h1, hm⟩ := mb_of (show mb (mi ρ) _ = _ from hm)
    cases e1 : ow2 s ρ1 with
    | none => rw [e1] at hm; cases hm
    | some d1 =>
      rw [e1] at hm
      cases e : ixD d1 y.1 with
      | none => simp [e] at hm
      | some d2 =>
        have hm : (mb (mj (wp ρ1 [s])) fun z ρ' => (ixD d2 z.1).map fun r => ((r, 0), bk ρ1 [s] ρ')) = some ((d, k), ρ') := by simpa [e] using hm
        obtain ⟨z, ρ2, h2, hm⟩ := mb_of hm
        cases e3 : ixD d2 z.1 with
        | none => simp [e3] at hm
        | some d3 =>
          have hm : some ((d3, 0), bk ρ1 [s] ρ2) = some ((d, k), ρ') := by simpa [e3] using hm
          cases hm
          refine ⟨v, hσ, B, ρ, G, fp, hn, r, y.1, y.2, ρ1, h1, fun u H1 G1 fp1 s1 r1 p1 => ?_⟩
          obtain ⟨v', hσ', hg, o⟩ := ow2_ok r1 e1
          rw [hσ] at hσ'; cases hσ'
          refine o.item2 p1 e fun a vs ds fs j i w g ea ed ei hj ha hf oa ew ed2 eg og => ?_
          have rh := r1.hide [s] (σ' := σ) r1.len (fun _ _ => rfl)
          refine ⟨B.add ([s].flatMap fp1) H1, wp ρ1 [s], G1, _, hn, rh, z.1, z.2, ρ2, h2, fun u2 H2 G2 fp2 s2 r2 p2 => ?_⟩
          have kF : ∀ b ∈ fp1 s, ∀ o, H1 b = some o → H2 b = some o := fun b hb o eo => r2.rh b o (by
            show (if b ∈ [s].flatMap fp1 then H1 b else B.R b) = some o
            rw [flat1, if_pos hb]; exact eo)
          have og2 : Ow X.K G2 H2 1 w d2 g := og.mono s2 1 fun b hb o eo => kF b (by
            rw [hf]
            exact List.mem_cons_of_mem _ (List.mem_flatten.mpr ⟨g, List.mem_of_getElem? eg, hb⟩)) o eo
          exact og2.item r2.gh p2 e3 fun z3 hz => q.val (s1.trans s2) (r1.unhide [s] r2 s2 fun i _ => .inr rfl) hz

/-! ### slices -/
theorem so_no : PO X none (tO X.K n fun ρ => some (none, ρ)) := po_none.diw fun σ H Q h => by
  obtain ⟨B, ρ, G, fp, hn, r, o, ρ', hm, q⟩ := h
  cases hm
  exact q H G fp (Same.refl _) r
theorem so_yes {e : Expr} {m : Me} (h : PE X e (tE X.K n m)) : PO X (some e) (tO X.K n fun ρ => mb (m ρ) fun x ρ => match x.1 with
    | .int i => some (some i, ρ)
    | _ => none) := by
  refine (po_some h.div).diw fun σ H Q h => ?_
  obtain ⟨B, ρ, G, fp, hn, r, o, ρ', hm, q⟩ := h
  obtain ⟨x, ρ1, h1, hm⟩ := mb_of hm
  refine ⟨B, ρ, G, fp, hn, r, x.1, x.2, ρ1, h1, fun v H1 G1 fp1 s1 r1 p1 => ?_⟩
  cases hx : x.1 with
  | int i =>
    rw [hx] at hm p1
    cases hm
    cases p1
    exact ⟨i, rfl, q H1 G1 fp1 s1 r1⟩
  | _ => rw [hx] at hm; cases hm
theorem cut_whole {α : Type} (xs : List α) (lo hi : Option Int) (h : HT.sIx xs.length 0 lo = 0 ∧ HT.sIx xs.length xs.length hi = xs.length) : (xs.drop (HT.sIx xs.length 0 lo)).take (HT.sIx xs.length xs.length hi - HT.sIx xs.length 0 lo) = xs := by
  rw [h.1, h.2]; simp
theorem cutV_le (xs : List V) (lo hi : Option Int) : (cutV xs lo hi).length ≤ xs.length := cutV_length xs lo hi
theorem se_slc {a : Expr} {lo hi : Option Expr} {ma : Me} {ml mh : Ev → Option (Option Int × Ev)} {pos p2 : Pos} (ha : PE X a (tE X.K n ma)) (hl : PO X lo (tO X.K n ml)) (hh : PO X hi (tO X.K n mh)) :
    PE X (.Subscript a (.Slice lo hi none p2) pos) (tE X.K n fun ρ => mb (ma ρ) fun x ρ => mb (ml ρ) fun l ρ => mb (mh ρ) fun h ρ => (slD x.1 l h).map fun d => ((d, lvD d), ρ)) := by
  refine (pe_slice (SlR.or sl_list sl_tupA) ha.div hl hh).diw fun σ H Q h => ?_
  obtain ⟨B, ρ, G, fp, hn, r, d, k, ρ', hm, q⟩ := h
  obtain ⟨x, ρ1, h1, hm⟩ := mb_of hm
  obtain ⟨l, ρ2, h2, hm⟩ := mb_of hm
  obtain ⟨u, ρ3, h3, hm⟩ := mb_of hm
  refine ⟨B, ρ, G, fp, hn, r, x.1, x.2, ρ1, h1, fun v H1 G1 fp1 s1 r1 p1 => ⟨B, ρ1, G1, fp1, hn, r1, l, ρ2, h2, fun H2 G2 fp2 s2 r2 => ⟨B, ρ2, G2, fp2, hn, r2, u, ρ3, h3, fun H3 G3 fp3 s3 r3 => ?_⟩⟩⟩
  have p3 := p1.mono (s2.trans s3)
  have s := (s1.trans s2).trans s3
  cases hx : x.1 with
  | list ds =>
    rw [hx] at hm p3
    cases hm
    cases p3 with
    | lst h z a => exact .inl ⟨_, _, rfl, SqL.of (r3.gh _ _ h), q.lst s r3 (a.cut l u) (Nat.le_trans (cutV_le _ _ _) z)⟩
  | tuple ds =>
    rw [hx] at hm p3
    cases hm
    cases p3 with
    | tup h z a =>
      rename_i ad vs
      refine .inr ⟨_, vs, rfl, SqT.of (r3.gh _ _ h), fun w => ?_, fun w => q.tup s r3 (a.cut l u) (Nat.le_trans (cutV_le _ _ _) z)⟩
      have e : cutD ds l u = ds := by
        rw [a.length] at w
        exact cut_whole ds l u w
      rw [e] at q
      exact q.val s r3 (.tup h z a)
  | _ => rw [hx] at hm; cases hm

/-! ### defs -/
def ArgOk (K : PySem.W.Frag) (io : Bool) (G H : Hp) (vs : List V) (ds : List D) (ioA : Option Addr) : Prop := match io with
    | false => ioA = none ∧ RpA K G vs ds
    | true => ∃ a vr d dr, vs = .ref a :: vr ∧ ds = d :: dr ∧ ioA = some a ∧ Ow K G H 1 (.ref a) d [a] ∧ G a = none ∧ RpA K G vr dr
def spF (K : PySem.W.Frag) (io : Bool) (np : Nat) (S : Fn) : Sp := fun vs H Q _ => vs.length = np ∧ ∃ ds r G ioA, S ds = some r ∧ Same G H ∧
  ArgOk K io G H vs ds ioA ∧
  ∀ v H' G' fv, Same G G' → Same G' H' → (∀ a o, H a = some o → ioA ≠ some a → H' a = some o) → (∀ a, G' a ≠ none → (∃ xs, G' a = some (.tup xs)) ∨ G a ≠ none ∨ H a = none) →
    Ow K G' H' r.k v r.d fv → fv.Nodup → (∀ a ∈ fv, G' a = none ∧ H a = none) → (∀ a, ioA = some a → Ow K G' H' 1 (.ref a) r.io [a] ∧ G' a = none) → Q v H'
/-- a def as it is called: where it stands, its promise -/
structure Df (X : Cx) (k : Nat) (x : Str) (np : Nat) (io : Bool) (S : Fn) : Prop where
  ln : ∀ ds r, S ds = some r → ds.length = np
  ex : ∃ f fd ps, ps.length = np ∧ X.mg x = some (.ref f) ∧ PySem.W.keepIn X.K (.ref f) = true ∧ L2.Binds X.K fd ps [] ∧ FnOk X.prog X.w X.K X.mg X.base CX0 k f fd ps (spF X.K io np S)
theorem star_any {env : Env} {pos : Pos} : ∀ {es : List Expr}, es.any isStar = false → (backTo pos (starEach es env)).any (·.1) = false
  | [], _ => rfl
  | e :: r, h => by
    rw [List.any_cons, Bool.or_eq_false_iff] at h
    rw [star_cons h.1]
    exact star_any h.2
theorem se_call {k : Nat} {x : Str} {np : Nat} {S : Fn} {e : Expr} {es : List Expr} {ms : Ev → Option (List D × Ev)} {pos p : Pos} (F : Df X k x np false S) (hr : Room k X.A) (hg : Gl X x) (hd : (x == ("__debug__" : Str)) = false)
    (ha : PA X (e :: es) (tEs X.K n ms)) (hl : (e :: es).length = np) (hs : isStar e = false) (hs2 : es.any isStar = false) :
    PE X (.Call (.Name x p) (e :: es) [] pos) (tE X.K n fun ρ => mb (ms ρ) fun ds ρ => (S ds).map fun r => ((r.d, r.k), ρ)) := by
  have ln := F.ln
  obtain ⟨f, fd, ps, hps, hm, hk, hb, F⟩ := F.ex
  refine (pe_call F hr hg hm hk hb .nil pass0 ha hd (star_cons hs) (star_any hs2)).diw fun σ H Q h => ?_
  obtain ⟨B, ρ, G, fp, hn, r, d, k', ρ', hm, q⟩ := h
  obtain ⟨ds, ρ1, h1, hm⟩ := mb_of hm
  cases hS : S ds with
  | none => rw [hS] at hm; cases hm
  | some R =>
    rw [hS] at hm
    cases hm
    refine ⟨B, ρ, G, fp, hn, r, ds, ρ', h1, fun vs H1 G1 fp1 s1 r1 p1 => ?_⟩
    show spF X.K false np S (vs ++ []) H1 Q E0
    rw [List.append_nil]
    refine ⟨by rw [p1.length, ln _ _ hS], ds, R, G1, none, hS, r1.gh, ⟨rfl, p1⟩, fun v H' G' fv sG sH keep fr ow nd fo _ => ?_⟩
    have kp : Same H1 H' := fun a o e => keep a o e (by simp)
    have hnone := fr
    have hfree : ∀ a, H1 a = none → (∀ i, a ∉ fp1 i) ∧ G1 a = none ∧ B.R a = none ∧ B.H0 a = none := fun a h => r1.fresh h
    refine q v H' G' fp1 fv (s1.trans sG) ⟨r1.len, r1.lenR, fun i => (r1.sl i).mono sG fun a _ => kp a, r1.nd, r1.dj, fun i a ha => ⟨?_, (r1.own i a ha).2⟩, sH, r1.rh.trans kp, fun a h => ?_, r1.g0.trans sG, fun a h => ?_⟩ ⟨ow, nd, fun i a ha => (hfree a (fo a ha).2).1 i, fun a ha => ⟨(fo a ha).1, (hfree a (fo a ha).2).2.2⟩⟩
    · cases e : G' a with
      | none => rfl
      | some o =>
        rcases hnone a (by rw [e]; simp) with ⟨xs, z⟩ | z | z
        · exact absurd (sH a _ z) ((r1.sl i).ntup' a ha kp xs)
        · exact absurd (r1.own i a ha).1 z
        · exact absurd z ((r1.sl i).there a ha)
    · rcases hnone a h with z | z | z
      · exact .inl z
      · rcases r1.fr a z with ⟨xs, y⟩ | y
        · exact .inl ⟨xs, sG a _ y⟩
        · exact .inr y
      · exact .inr (.inr ⟨(hfree a z).2.2.2, (hfree a z).2.2.1⟩)
    · cases e : H1 a with
      | none => exact absurd e (r1.hh a h)
      | some o => rw [kp a o e]; simp

theorem se_cio {k s : Nat} {x y : Str} {np : Nat} {S : Fn} {es : List Expr} {ms : Ev → Option (List D × Ev)} {pos p p2 : Pos} (F : Df X k x np true S) (hr : Room k X.A) (hg : Gl X x) (hd : (x == ("__debug__" : Str)) = false)
    (hN : X.N[s]? = some y) (hv : Vis X.env.scope y) (hyd : (y == ("__debug__" : Str)) = false) (hyc : (y == ("__classdict__" : Str)) = false)
    (ha : PA X es (tEs X.K n ms)) (hs2 : es.any isStar = false) :
    PE X (.Call (.Name x p) (.Name y p2 :: es) [] pos) (tE X.K n fun ρ => (ow1 s ρ).bind fun _ => mb (ms ρ) fun ds ρ => match gt ρ s with
    | .sl 1 d => (S (d :: ds)).map fun r => ((r.d, r.k), st ρ s (.sl 1 r.io))
    | .io d => (S (d :: ds)).map fun r => ((r.d, r.k), st ρ s (.io r.io))
    | _ => none) := by
  have ln := F.ln
  obtain ⟨f, fd, ps, hps, hm, hk, hb, F⟩ := F.ex
  refine (pe_call F hr hg hm hk hb .nil pass0 (pa_cons (pe_var hN hv hyd hyc) ha (star_cons rfl)) hd (star_cons rfl) (star_any hs2)).diw fun σ H Q h => ?_
  obtain ⟨B, ρ, G, fp, hn, r, d, k', ρ', hm, q⟩ := h
  dsimp only at hm
  cases e0 : ow1 s ρ with
  | none => rw [e0] at hm; cases hm
  | some d0 =>
    rw [e0] at hm
    obtain ⟨v0, hσ, _, _⟩ := ow1_ok r e0
    obtain ⟨ds, ρ1, h1, hm⟩ := mb_of (show mb (ms ρ) _ = _ from hm)
    -- the slot behind the arguments: owned at one level
    obtain ⟨dc, R, hS, hR, hgt⟩ : ∃ dc R, S (dc :: ds) = some R ∧ ((d, k'), ρ') = ((R.d, R.k), st ρ1 s (match gt ρ1 s with | .io _ => .io R.io | _ => .sl 1 R.io)) ∧ (gt ρ1 s = .sl 1 dc ∨ gt ρ1 s = .io dc) := by
      cases hg : gt ρ1 s with
      | un => rw [hg] at hm; cases hm
      | io dc =>
        rw [hg] at hm
        cases hS : S (dc :: ds) with
        | none => simp [hS] at hm
        | some R => exact ⟨dc, R, hS, by simpa [hS] using hm.symm, .inr rfl⟩
      | sl kk dc =>
        rw [hg] at hm
        match kk, hm with
        | 1, hm =>
          cases hS : S (dc :: ds) with
          | none => simp [hS] at hm
          | some R => exact ⟨dc, R, hS, by simpa [hS] using hm.symm, .inl rfl⟩
    cases hR
    refine ⟨v0, hσ, B, ρ, G, fp, hn, r, ds, ρ1, h1, fun vs H1 G1 fp1 s1 r1 p1 => ?_⟩
    show spF X.K true np S ((v0 :: vs) ++ []) H1 Q E0
    rw [List.append_nil]
    -- the address
    obtain ⟨a, hσa, hfp, hap, o1, hio⟩ : ∃ a, v0 = .ref a ∧ fp1 s = [a] ∧ (B.io = some a ∨ B.H0 a = none) ∧ Ow X.K G1 H1 1 (.ref a) dc [a] ∧ (∀ d', (∀ G' H', Same G1 G' → Ow X.K G' H' 1 (.ref a) d' [a] → SlOk X.K B G' H' (some (some (.ref a))) (match gt ρ1 s with | .io _ => .io d' | _ => .sl 1 d') [a])) := by
      have w := r1.sl s
      rcases hgt with hgt | hgt
      · rw [hgt] at w
        obtain ⟨v1, e1, o, hz⟩ := w
        rw [hσ] at e1; cases e1
        obtain ⟨a, fs, rfl, hf, hh⟩ := id o
        have hnil : fs.flatten = [] := by
          rcases hh with ⟨vs, ds, h1, h2, rfl, h4⟩ | ⟨_, e, _⟩ | ⟨_, e, _⟩
          · exact (owA0 h4).2
          · rw [e]; rfl
          · rw [e]; rfl
        rw [hnil] at hf
        refine ⟨a, rfl, hf, .inr (hz a (by rw [hf]; simp)), hf ▸ o, fun d' G' H' _ o' => ?_⟩
        rw [hgt]
        exact ⟨_, rfl, o', fun b hb => hz b (by rw [hf]; exact hb)⟩
      · rw [hgt] at w
        obtain ⟨a, e1, e2, e3, o⟩ := w
        rw [hσ] at e1; cases e1
        refine ⟨a, rfl, e3, .inl e2, o, fun d' G' H' _ o' => ?_⟩
        rw [hgt]
        exact ⟨a, rfl, e2, rfl, o'⟩
    subst hσa
    have hmem : a ∈ fp1 s := by rw [hfp]; simp
    have hi : s < ρ1.length := gt_lt (by rcases hgt with z | z <;> (rw [z]; intro z; cases z))
    refine ⟨by rw [List.length_cons, p1.length, ← ln _ _ hS, List.length_cons], dc :: ds, R, G1, some a, hS, r1.gh, ⟨a, vs, dc, ds, rfl, rfl, rfl, o1, (r1.own s a hmem).1, p1⟩, fun v H' G' fv sG sH keep fr ow nd fo io => ?_⟩
    obtain ⟨oio, hGa⟩ := io a rfl
    have kp : ∀ b, b ≠ a → ∀ o, H1 b = some o → H' b = some o := fun b hb o e => keep b o e fun z => hb (Option.some.inj z).symm
    have hfree : ∀ a, H1 a = none → (∀ i, a ∉ fp1 i) ∧ G1 a = none ∧ B.R a = none ∧ B.H0 a = none := fun a h => r1.fresh h
    have notin : ∀ i, i ≠ s → a ∉ fp1 i := fun i hi z => r1.dj s i (Ne.symm hi) a hmem z
    refine q v H' G' fp1 fv (s1.trans sG) ⟨r1.len, by rw [st_length]; exact r1.lenR, fun i => ?_, r1.nd, r1.dj, fun i b hb => ⟨?_, (r1.own i b hb).2⟩, sH, fun b o e => ?_, fun b h => ?_, r1.g0.trans sG, fun b h => ?_⟩ ⟨ow, nd, fun i b hb => (hfree b (fo b hb).2).1 i, fun b hb => ⟨(fo b hb).1, (hfree b (fo b hb).2).2.2⟩⟩
    · by_cases his : i = s
      · subst his
        rw [gt_st_same hi, hσ, hfp]
        exact hio R.io G' H' sG oio
      · rw [gt_st_ne his]
        exact (r1.sl i).mono sG fun b hb o e => kp b (fun z => notin i his (z ▸ hb)) o e
    · cases e : G' b with
      | none => rfl
      | some o =>
        rcases fr b (by rw [e]; simp) with ⟨xs, z⟩ | z | z
        · by_cases hba : b = a
          · subst hba
            rw [hGa] at e; cases e
          · exact absurd (sH b _ z) ((r1.sl i).ntup1 b hb (kp b hba) xs)
        · exact absurd (r1.own i b hb).1 z
        · exact absurd z ((r1.sl i).there b hb)
    · by_cases hba : b = a
      · subst hba
        rw [(r1.own s b hmem).2] at e; cases e
      · exact kp b hba o (r1.rh b o e)
    · rcases fr b h with z | z | z
      · exact .inl z
      · rcases r1.fr b z with ⟨xs, y⟩ | y
        · exact .inl ⟨xs, sG b _ y⟩
        · exact .inr y
      · exact .inr (.inr ⟨(hfree b z).2.2.2, (hfree b z).2.2.1⟩)
    · by_cases hba : b = a
      · subst hba
        exact Ow.there 1 oio b (by simp)
      · cases e : H1 b with
        | none => exact absurd e (r1.hh b h)
        | some o => rw [kp b hba o e]; simp

/-! ### built-ins -/
def b1V : B1 → Value
  | .len => .builtin "len"
  | .abs => .builtin "abs"
  | .int => .type "int"
  | .tuple => .type "tuple"
  | .list => .type "list"
  | .all => .builtin "all"
  | .any => .builtin "any"
  | .sum => .builtin "sum"
  | .min => .builtin "min"
  | .max => .builtin "max"
  | .bool => .type "bool"
  | .str => .type "str"
  | .sorted => .builtin "sorted"
def b1N : B1 → Str
  | .len => "len"
  | .abs => "abs"
  | .int => "int"
  | .tuple => "tuple"
  | .list => "list"
  | .all => "all"
  | .any => "any"
  | .sum => "sum"
  | .min => "min"
  | .max => "max"
  | .bool => "bool"
  | .str => "str"
  | .sorted => "sorted"
theorem b1_boot (f : B1) : bootBuiltins (b1N f) = some (b1V f) := by cases f <;> decide +kernel
def rB1 (K : PySem.W.Frag) (f : D → Option D) : List V → Hp → VK → Prop := fun xs H Q => ∃ x G d1 d, xs = [x] ∧ Same G H ∧ Rp K G x d1 ∧ f d1 = some d ∧ Res K G H d Q
theorem fold_min : ∀ (ns : List Int) (n : Int), (ns.foldl (fun a b => if b < a then b else a) n) ∈ n :: ns ∧ ∀ y ∈ n :: ns, ns.foldl (fun a b => if b < a then b else a) n ≤ y
  | [], n => by simp
  | m :: r, n => by
    obtain ⟨h1, h2⟩ := fold_min r (if m < n then m else n)
    rw [List.foldl_cons]
    have h0 := h2 _ (List.mem_cons_self)
    refine ⟨?_, fun y hy => ?_⟩
    · rcases List.mem_cons.mp h1 with e | e
      · rw [e]; split <;> simp
      · exact List.mem_cons_of_mem _ (List.mem_cons_of_mem _ e)
    · rcases List.mem_cons.mp hy with e | e
      · subst e; split at h0 <;> split <;> omega
      · rcases List.mem_cons.mp e with e | e
        · subst e; split at h0 <;> split <;> omega
        · exact h2 y (List.mem_cons_of_mem _ e)
theorem fold_max : ∀ (ns : List Int) (n : Int), (ns.foldl (fun a b => if b > a then b else a) n) ∈ n :: ns ∧ ∀ y ∈ n :: ns, y ≤ ns.foldl (fun a b => if b > a then b else a) n
  | [], n => by simp
  | m :: r, n => by
    obtain ⟨h1, h2⟩ := fold_max r (if m > n then m else n)
    rw [List.foldl_cons]
    have h0 := h2 _ (List.mem_cons_self)
    refine ⟨?_, fun y hy => ?_⟩
    · rcases List.mem_cons.mp h1 with e | e
      · rw [e]; split <;> simp
      · exact List.mem_cons_of_mem _ (List.mem_cons_of_mem _ e)
    · rcases List.mem_cons.mp hy with e | e
      · subst e; split at h0 <;> split <;> omega
      · rcases List.mem_cons.mp e with e | e
        · subst e; split at h0 <;> split <;> omega
        · exact h2 y (List.mem_cons_of_mem _ e)
theorem insB_perm {α : Type} (lt : α → α → Bool) (a : α) : ∀ l : List α, (insB lt a l).Perm (a :: l)
  | [] => List.Perm.refl _
  | b :: r => by
    unfold insB
    split
    · exact ((insB_perm lt a r).cons b).trans (List.Perm.swap a b r)
    · exact List.Perm.refl _
theorem srtB_perm {α : Type} (lt : α → α → Bool) : ∀ l : List α, (srtB lt l).Perm l
  | [] => List.Perm.refl _
  | a :: r => (insB_perm lt a (srtB lt r)).trans ((srtB_perm lt r).cons a)
theorem insB_pw {α : Type} {lt : α → α → Bool} (tot : ∀ a b, lt a b = true → lt b a = false) (tr : ∀ a b c, lt b a = false → lt c b = false → lt c a = false) (a : α) : ∀ l : List α, l.Pairwise (fun x y => lt y x = false) → (insB lt a l).Pairwise (fun x y => lt y x = false)
  | [], _ => List.pairwise_singleton _ _
  | b :: r, h => by
    unfold insB
    obtain ⟨h1, h2⟩ := List.pairwise_cons.mp h
    by_cases c : lt b a = true
    · rw [if_pos c]
      refine List.pairwise_cons.mpr ⟨fun y hy => ?_, insB_pw tot tr a r h2⟩
      rcases List.mem_cons.mp ((insB_perm lt a r).mem_iff.mp hy) with e | e
      · rw [e]; exact tot b a c
      · exact h1 y e
    · have c : lt b a = false := by simpa using c
      rw [if_neg (by rw [c]; decide)]
      refine List.pairwise_cons.mpr ⟨fun y hy => ?_, h⟩
      rcases List.mem_cons.mp hy with e | e
      · rw [e]; exact c
      · exact tr a b y c (h1 y e)
theorem srtB_pw {α : Type} {lt : α → α → Bool} (tot : ∀ a b, lt a b = true → lt b a = false) (tr : ∀ a b c, lt b a = false → lt c b = false → lt c a = false) : ∀ l : List α, (srtB lt l).Pairwise (fun x y => lt y x = false)
  | [] => .nil
  | a :: r => insB_pw tot tr a _ (srtB_pw tot tr r)
theorem srt_uniq {α : Type} {lt : α → α → Bool} (anti : ∀ a b, lt a b = false → lt b a = false → a = b) : ∀ {l m : List α}, l.Perm m → l.Pairwise (fun x y => lt y x = false) → m.Pairwise (fun x y => lt y x = false) → l = m
  | [], m, p, _, _ => p.nil_eq
  | a :: r, [], p, _, _ => by cases p.symm.nil_eq
  | a :: r, b :: s, p, h1, h2 => by
    have e : a = b := by
      rcases List.mem_cons.mp (p.mem_iff.mp (List.mem_cons_self (a := a) (l := r))) with e | e
      · exact e
      · rcases List.mem_cons.mp (p.mem_iff.mpr (List.mem_cons_self (a := b) (l := s))) with e' | e'
        · exact e'.symm
        · exact anti a b ((List.pairwise_cons.mp h2).1 a e) ((List.pairwise_cons.mp h1).1 b e')
    subst e
    rw [srt_uniq anti p.cons_inv (List.pairwise_cons.mp h1).2 (List.pairwise_cons.mp h2).2]
theorem ltP2_iff {p q : Int × Int} : ltP2 p q = true ↔ p.1 < q.1 ∨ (p.1 = q.1 ∧ p.2 < q.2) := SrtO.lexB_iff
theorem ltP2_no {p q : Int × Int} : ltP2 p q = false ↔ ¬ (p.1 < q.1 ∨ (p.1 = q.1 ∧ p.2 < q.2)) := SrtO.lexB_no
theorem srtI_pw (ns : List Int) : (srtB ltI ns).Pairwise (fun x y => ltI y x = false) := srtB_pw (fun a b h => by unfold ltI at *; simp at *; omega) (fun a b c h h' => by unfold ltI at *; simp at *; omega) ns
theorem srtP_pw (ps : List (Int × Int)) : (srtB ltP2 ps).Pairwise (fun x y => ltP2 y x = false) := srtB_pw (fun a b h => by rw [ltP2_iff] at h; rw [ltP2_no]; omega) (fun a b c h h' => by rw [ltP2_no] at *; omega) ps
theorem srt_ints {ns ms : List Int} (p : ns.Perm (srtB ltI ms)) (h : ns.Pairwise (· ≤ ·)) : ns = srtB ltI ms :=
  srt_uniq (lt := ltI) (fun a b h h' => by unfold ltI at *; simp at *; omega) p (h.imp fun {a b} h => by unfold ltI; simp; omega) (srtI_pw ms)
theorem srt_pairs {ns ms : List (Int × Int)} (p : ns.Perm (srtB ltP2 ms)) (h : ns.Pairwise (fun x y => ltP2 y x = false)) : ns = srtB ltP2 ms :=
  srt_uniq (lt := ltP2) (fun a b h h' => by rw [ltP2_no] at *; exact Prod.ext (by omega) (by omega)) p h (srtP_pw ms)
theorem pairsOf_cons {d : D} {r : List D} {ps : List (Int × Int)} (e : pairsOf (d :: r) = some ps) : ∃ i j qs, d = .tuple [.int i, .int j] ∧ pairsOf r = some qs ∧ ps = (i, j) :: qs := by
  unfold pairsOf at e
  split at e
  · rename_i h; cases h
  · rename_i i j r' h
    cases h
    cases hr : pairsOf r with
    | none => rw [hr] at e; cases e
    | some qs => rw [hr] at e; cases e; exact ⟨i, j, qs, rfl, rfl, rfl⟩
  · cases e
theorem keys2 {k : List L2.Key} {i j : Int} (h : k.map keyD = [.int i, .int j]) : k = [Sum.inl i, Sum.inl j] := by
  cases k with
  | nil => cases h
  | cons a k =>
    cases k with
    | nil => simp at h
    | cons b k =>
      cases k with
      | cons c k => simp at h
      | nil =>
        simp only [List.map_cons, List.map_nil, List.cons.injEq, and_true] at h
        rcases a with a | a <;> rcases b with b | b
        · simp only [keyD, PyData.int.injEq] at h; rw [h.1, h.2]
        · exact nomatch (show PyData.str b = PyData.int j from h.2)
        · exact nomatch (show PyData.str a = PyData.int i from h.1)
        · exact nomatch (show PyData.str a = PyData.int i from h.1)
theorem RpA.pairs {K : PySem.W.Frag} {G : Hp} : ∀ {vs : List V} {ds : List D} {ps : List (Int × Int)}, RpA K G vs ds → pairsOf ds = some ps → ∃ k : V → Int × Int, (∀ x ∈ vs, ∃ t, x = V.ref t ∧ G t = some (.tup [.int (k x).1, .int (k x).2])) ∧ vs.map k = ps := by
  intro vs ds ps a e
  let k : V → Int × Int := fun v => match v with
    | .ref b => (match G b with | some (.tup [.int i, .int j]) => (i, j) | _ => (0, 0))
    | _ => (0, 0)
  have hk : ∀ b i j, G b = some (.tup [.int i, .int j]) → k (.ref b) = (i, j) := fun b i j h => by
    show (match G b with | some (.tup [.int i, .int j]) => (i, j) | _ => (0, 0)) = _
    rw [h]
  refine ⟨k, ?_⟩
  induction ds generalizing vs ps with
  | nil => cases a; cases e; exact ⟨(fun x hx => by cases hx), rfl⟩
  | cons d ds ih =>
    cases a with
    | cons p t =>
      obtain ⟨i, j, qs, rfl, hr, rfl⟩ := pairsOf_cons e
      cases p with
      | tup h2 z2 a2 =>
        cases a2 with
        | cons q1 t1 => cases t1 with
          | cons q2 t2 =>
            cases t2; cases q1; cases q2
            obtain ⟨g1, g2⟩ := ih t hr
            refine ⟨fun x hx => ?_, ?_⟩
            · rcases List.mem_cons.mp hx with z | z
              · subst z
                exact ⟨_, rfl, by rw [hk _ _ _ h2]; exact h2⟩
              · exact g1 x z
            · rw [List.map_cons, g2, hk _ _ _ h2]
theorem rpA_pairs {K : PySem.W.Frag} {G : Hp} {k : V → Int × Int} : ∀ {ys : List V}, (∀ x ∈ ys, ∃ t, x = V.ref t ∧ G t = some (.tup [.int (k x).1, .int (k x).2])) → RpA K G ys ((ys.map k).map pairD)
  | [], _ => .nil
  | y :: r, h => by
    obtain ⟨t, rfl, e⟩ := h y (by simp)
    exact .cons (.tup e (by show 2 ≤ sizeLine; decide) (.cons (.int _) (.cons (.int _) .nil))) (rpA_pairs fun x hx => h x (by simp [hx]))
theorem RpT.keysP {K : PySem.W.Frag} {G : Hp} : ∀ {kvs : List (List L2.Key × V)} {ds : List (D × D)} {ps : List (Int × Int)}, RpT K G kvs ds → pairsOf (ds.map (·.1)) = some ps → kvs.map (·.1) = DI.keysP ps
  | _, _, ps, .nil, e => by cases e; rfl
  | _, _, ps, .cons (k := k) (ds := ds) h t, e => by
    rw [List.map_cons] at e
    obtain ⟨i, j, qs, h1, hr, rfl⟩ := pairsOf_cons e
    injection h1 with h1
    rw [List.map_cons, RpT.keysP t hr, keys2 h1]; rfl
theorem atP_mem {H : Hp} {ys : List V} {qs : List (Int × Int)} (pd : Paired (AtP H) ys qs) (b : Addr) (hb : V.ref b ∈ ys) : ∃ q : Int × Int, q ∈ qs ∧ H b = some (.tup [.int q.1, .int q.2]) := by
  induction pd with
  | nil => cases hb
  | @cons y q ys qs h t ih =>
    rcases List.mem_cons.mp hb with e | e
    · obtain ⟨c, e1, e2⟩ := h
      rw [e1] at e; cases e
      exact ⟨q, by simp, e2⟩
    · obtain ⟨q', h1, h2⟩ := ih e
      exact ⟨q', by simp [h1], h2⟩
theorem atP_rp {K : PySem.W.Frag} {G H : Hp} {ys : List V} {qs : List (Int × Int)} (pd : Paired (AtP H) ys qs) (h : ∀ b, V.ref b ∈ ys → G b = H b) : RpA K G ys (qs.map pairD) := by
  induction pd with
  | nil => exact .nil
  | @cons y q ys qs p t ih =>
    obtain ⟨c, e1, e2⟩ := p
    subst e1
    exact .cons (.tup ((h c (by simp)).trans e2) (by show 2 ≤ sizeLine; decide) (.cons (.int _) (.cons (.int _) .nil))) (ih fun b hb => h b (by simp [hb]))
theorem cr_B1 (f : B1) (hc : X.calm = true) : CallR X (b1V f) (rB1 X.K (b1D f)) := by
  intro pins s σ H xs us Q I rx h
  obtain ⟨x, G, d1, d, rfl, sg, p, e, q⟩ := h
  cases f with
  | len =>
    cases p with
    | lst h z a => cases e; exact call_len_seq pins s σ H _ us Q I rx ⟨_, _, rfl, .inl (SqL.of (sg _ _ h)), by rw [a.length]; exact q.int⟩
    | tup h z a => cases e; exact call_len_seq pins s σ H _ us Q I rx ⟨_, _, rfl, .inr (SqT.of (sg _ _ h)), by rw [a.length]; exact q.int⟩
    | dK h z a => cases e; exact call_lenD pins s σ H _ us Q I rx ⟨_, _, rfl, sg _ _ h, by rw [a.len]; exact q.int⟩
    | dT h z a => cases e; exact call_len_dT pins s σ H _ us Q I rx ⟨_, _, rfl, sg _ _ h, by rw [a.len]; exact q.int⟩
    | str y =>
      obtain ⟨c, rfl⟩ := if_some e
      exact call_len_str pins s σ H _ us Q I rx ⟨y, rfl, of_decide_eq_true c, q.int⟩
    | scr h z a => cases e
    | _ => cases e
  | abs =>
    cases p with
    | int i => cases e; exact call_abs pins s σ H _ us Q I rx ⟨i, rfl, q.int⟩
    | _ => cases e
  | int =>
    cases p with
    | int i => cases e; exact call_int1 pins s σ H _ us Q I rx (.inl ⟨i, rfl, q.int⟩)
    | bl b => cases e; exact call_int1 pins s σ H _ us Q I rx (.inr ⟨b, rfl, q.int⟩)
    | _ => cases e
  | tuple =>
    cases p with
    | lst h z a => cases e; exact call_tuple_of pins s σ H _ us Q I rx ⟨_, _, rfl, .inl ⟨SqL.of (sg _ _ h), fun l hl => q.b _ rfl l _ hl a z⟩⟩
    | tup h z a => cases e; exact call_tuple_of pins s σ H _ us Q I rx ⟨_, _, rfl, .inr ⟨SqT.of (sg _ _ h), q.c (fun _ z => by cases z) _ (.tup h z a)⟩⟩
    | scr h z a => cases e
    | _ => cases e
  | list =>
    cases p with
    | lst h z a => cases e; exact call_list_of pins s σ H _ us Q I rx ⟨_, _, rfl, .inl (SqL.of (sg _ _ h)), fun l hl => q.a _ rfl l _ hl a z⟩
    | tup h z a => cases e; exact call_list_of pins s σ H _ us Q I rx ⟨_, _, rfl, .inr (SqT.of (sg _ _ h)), fun l hl => q.a _ rfl l _ hl a z⟩
    | scr h z a => cases e; exact call_list_of pins s σ H _ us Q I rx ⟨_, _, rfl, .inl (sg.seq h), fun l hl => q.a _ rfl l _ hl a z⟩
    | _ => cases e
  | all =>
    cases p with
    | lst h z a =>
      rename_i ds
      cases hb : boolsOf ds with
      | none => simp [b1D, hb] at e
      | some bs =>
        have e : some (PyData.bool (bs.all id)) = some d := by simpa [b1D, hb] using e
        cases e
        rw [a.bools hb] at h
        exact cr_all hc pins s σ H _ us Q I rx ⟨_, bs, rfl, SqL.of (sg _ _ h), q.bl⟩
    | scr h z a => cases e
    | _ => cases e
  | any =>
    cases p with
    | lst h z a =>
      rename_i ds
      cases hb : boolsOf ds with
      | none => simp [b1D, hb] at e
      | some bs =>
        have e : some (PyData.bool (bs.any id)) = some d := by simpa [b1D, hb] using e
        cases e
        rw [a.bools hb] at h
        exact cr_any hc pins s σ H _ us Q I rx ⟨_, bs, rfl, SqL.of (sg _ _ h), q.bl⟩
    | scr h z a => cases e
    | _ => cases e
  | sum =>
    cases p with
    | lst h z a =>
      rename_i ds
      cases hb : intsOf ds with
      | none => simp [b1D, hb] at e
      | some bs =>
        have e : some (PyData.int bs.sum) = some d := by simpa [b1D, hb] using e
        cases e
        rw [a.ints hb] at h
        exact cr_sum hc pins s σ H _ us Q I rx ⟨_, bs, rfl, SqL.of (sg _ _ h), q.int⟩
    | scr h z a => cases e
    | _ => cases e
  | min =>
    cases p with
    | lst h z a =>
      rename_i ds
      cases hb : intsOf ds with
      | none => simp [b1D, hb] at e
      | some bs =>
        cases bs with
        | nil => simp [b1D, hb] at e
        | cons m ms =>
          have e : some (PyData.int (ms.foldl (fun a b => if b < a then b else a) m)) = some d := by simpa [b1D, hb] using e
          cases e
          rw [a.ints hb] at h
          obtain ⟨f1, f2⟩ := fold_min ms m
          refine cr_min hc pins s σ H _ us Q I rx ⟨_, m :: ms, rfl, SqL.of (sg _ _ h), by simp, fun y hy hle => ?_⟩
          have e : y = ms.foldl (fun a b => if b < a then b else a) m := Int.le_antisymm (hle _ f1) (f2 y hy)
          rw [e]; exact q.int
    | scr h z a => cases e
    | _ => cases e
  | max =>
    cases p with
    | lst h z a =>
      rename_i ds
      cases hb : intsOf ds with
      | none => simp [b1D, hb] at e
      | some bs =>
        cases bs with
        | nil => simp [b1D, hb] at e
        | cons m ms =>
          have e : some (PyData.int (ms.foldl (fun a b => if b > a then b else a) m)) = some d := by simpa [b1D, hb] using e
          cases e
          rw [a.ints hb] at h
          obtain ⟨f1, f2⟩ := fold_max ms m
          refine cr_max hc pins s σ H _ us Q I rx ⟨_, m :: ms, rfl, SqL.of (sg _ _ h), by simp, fun y hy hle => ?_⟩
          have e : y = ms.foldl (fun a b => if b > a then b else a) m := Int.le_antisymm (f2 y hy) (hle _ f1)
          rw [e]; exact q.int
    | scr h z a => cases e
    | _ => cases e
  | bool =>
    cases p <;> cases e
  | str =>
    cases p with
    | str y => cases e; exact SkE.call_str_str pins s σ H _ us Q I rx ⟨y, rfl, q.str⟩
    | _ => cases e
  | sorted =>
    cases p with
    | lst h z a =>
      rename_i ad vs ds
      have e : sortedD ds = some d := e
      unfold sortedD at e
      cases hi : intsOf ds with
      | some ns =>
        rw [hi] at e
        cases e
        rw [a.ints hi] at h
        refine cr_sortedI pins s σ H _ us Q I rx ⟨_, ns, rfl, SqL.of (sg _ _ h), fun ns' p pm so hp => ?_⟩
        have e : ns' = srtB ltI ns := srt_ints (pm.trans (srtB_perm ltI ns).symm) so
        subst e
        exact q.a _ rfl p _ hp (rpA_ints _) (by rw [List.length_map, (srtB_perm ltI ns).length_eq]; rw [a.ints hi, List.length_map] at z; exact z)
      | none =>
        rw [hi] at e
        cases hq : pairsOf ds with
        | none => rw [hq] at e; cases e
        | some ps =>
          rw [hq] at e
          cases e
          obtain ⟨k, hk, hm⟩ := a.pairs hq
          refine cr_sortedPO pins s σ H _ us Q I rx ⟨_, vs, k, rfl, SqL.of (sg _ _ h), fun x hx => ?_, fun ys p so st hp => ?_⟩
          · obtain ⟨t, e1, e2⟩ := hk x hx
            exact ⟨t, e1, sg _ _ e2⟩
          · have pm : (ys.map k).Perm ps := by rw [← hm]; exact st.perm.map k
            have e : ys.map k = srtB ltP2 ps := srt_pairs (pm.trans (srtB_perm ltP2 ps).symm) (List.pairwise_map.mpr so)
            have q : Res X.K G H (.list ((srtB ltP2 ps).map pairD)) Q := q
            rw [← e] at q
            refine q.a _ rfl p ys hp ?_ (by rw [st.perm.length_eq]; exact z)
            have hk' : ∀ x ∈ ys, ∃ t, x = V.ref t ∧ G t = some (.tup [.int (k x).1, .int (k x).2]) := fun x hx => hk x (st.perm.mem_iff.mp hx)
            exact rpA_pairs hk'
    | dT h z a =>
      rename_i ad kvs ds
      have e : (pairsOf (ds.map (·.1))).map (fun ps => PyData.list ((srtB ltP2 ps).map pairD)) = some d := e
      cases hq : pairsOf (ds.map (·.1)) with
      | none => rw [hq] at e; cases e
      | some ps =>
        rw [hq] at e
        cases e
        refine cr_sortedDT hc pins s σ H _ us Q I rx ⟨ad, kvs, ps, rfl, .inl (sg _ _ h), a.keysP hq, fun ys qs p pd pm so hp => ?_⟩
        have e : qs = srtB ltP2 ps := srt_pairs (pm.trans (srtB_perm ltP2 ps).symm) so
        subst e
        refine q.l2 _ rfl p ys (fun b => if V.ref b ∈ ys then H b else G b) hp (fun b x hx => ?_) (fun b x hx => ?_) (fun b hb => ?_) ?_ ?_
        · show (if V.ref b ∈ ys then H b else G b) = some x
          split
          · exact sg b x hx
          · exact hx
        · have hx : (if V.ref b ∈ ys then H b else G b) = some x := hx
          split at hx
          · exact hx
          · exact sg b x hx
        · show G b ≠ none ∨ ∃ xs, (if V.ref b ∈ ys then H b else G b) = some (.tup xs)
          by_cases c : V.ref b ∈ ys
          · obtain ⟨q', e1, e2⟩ := atP_mem pd b c
            exact .inr ⟨_, by rw [if_pos c]; exact e2⟩
          · have hb : (if V.ref b ∈ ys then H b else G b) ≠ none := hb
            rw [if_neg c] at hb
            exact .inl hb
        · exact atP_rp pd fun b hb => by show (if V.ref b ∈ ys then H b else G b) = H b; rw [if_pos hb]
        · rw [Paired.length pd, (srtB_perm ltP2 ps).length_eq]
          have := congrArg List.length (a.keysP hq)
          rw [List.length_map, List.length_map] at this
          omega
    | scr h z a => cases e
    | _ => cases e
/-- a call of a built-in, whichever it is -/
theorem pe_blt {v : Value} {x : Str} {r : List V → Hp → VK → Prop} {t : TA} {e : Expr} {es : List Expr} {pos p : Pos} (hv : bootBuiltins x = some v) (hk : (∃ id, v = .builtin id) ∨ ∃ T, v = .type T) (hc : CallR X v r) (hg : Gl X x) (hm : X.mg x = none)
    (ha : PA X (e :: es) t) (hn : x ≠ "__name__") (hdb : (x == ("__debug__" : Str)) = false) (hs : isStar e = false) (hs2 : es.any isStar = false) : PE X (.Call (.Name x p) (e :: es) [] pos) (tCB r t) := by
  rcases hk with ⟨id, rfl⟩ | ⟨T, rfl⟩
  · exact pe_callB hc hg hm hv ha hn hdb (star_cons hs) (star_any hs2)
  · exact pe_callTy hc hg hm hv ha hn hdb (star_cons hs) (star_any hs2)
theorem b1_kind (f : B1) : (∃ id, b1V f = .builtin id) ∨ ∃ T, b1V f = .type T := by cases f <;> first | exact .inl ⟨_, rfl⟩ | exact .inr ⟨_, rfl⟩
theorem se_b1 {f : B1} {a : Expr} {ma : Me} {pos p : Pos} (hc : X.calm = true) (hg : Gl X (b1N f)) (hm : X.mg (b1N f) = none) (ha : PE X a (tE X.K n ma)) (hs : isStar a = false) :
    PE X (.Call (.Name (b1N f) p) [a] [] pos) (tE X.K n fun ρ => mb (ma ρ) fun x ρ => (b1D f x.1).map fun d => ((d, lvD d), ρ)) := by
  refine (pe_blt (b1_boot f) (b1_kind f) (cr_B1 f hc) hg hm (pa_cons ha.div pa_nil (star_cons hs)) (by cases f <;> decide) (by cases f <;> decide) hs rfl).diw fun σ H Q h => ?_
  obtain ⟨B, ρ, G, fp, hn, r, d, k, ρ', hm, q⟩ := h
  obtain ⟨x, ρ1, h1, hm⟩ := mb_of hm
  cases e : b1D f x.1 with
  | none => rw [e] at hm; cases hm
  | some d' =>
    rw [e] at hm
    cases hm
    exact ⟨B, ρ, G, fp, hn, r, x.1, x.2, ρ', h1, fun v H1 G1 fp1 s1 r1 p1 => ⟨v, G1, x.1, _, rfl, r1.gh, p1, e, q.res s1 r1⟩⟩
/-- len of what is owned -/
theorem se_blen {s : Nat} {y : Str} {pos p p2 : Pos} (hc : X.calm = true) (hg : Gl X "len") (hm : X.mg "len" = none) (hN : X.N[s]? = some y) (hv : Vis X.env.scope y) (hyd : (y == ("__debug__" : Str)) = false) (hyc : (y == ("__classdict__" : Str)) = false) :
    PE X (.Call (.Name "len" p) [.Name y p2] [] pos) (tE X.K n fun ρ => (ow01 s ρ).bind fun x => (b1D .len x).map fun d => ((d, 0), ρ)) := by
  refine (pe_blt (v := .builtin "len") (b1_boot .len) (.inl ⟨_, rfl⟩) (cr_B1 .len hc) hg hm (pa_cons (pe_var hN hv hyd hyc) pa_nil (star_cons rfl)) (by decide) (by decide) rfl rfl).diw fun σ H Q h => ?_
  obtain ⟨B, ρ, G, fp, hn, r, d, k, ρ', hm, q⟩ := h
  dsimp only at hm
  cases e0 : ow01 s ρ with
  | none => rw [e0] at hm; cases hm
  | some d0 =>
    obtain ⟨v, hσ, o⟩ := ow01_ok r e0
    rw [e0] at hm
    cases e : b1D .len d0 with
    | none => simp [e] at hm
    | some d' =>
      have hm : some ((d', 0), ρ) = some ((d, k), ρ') := by simpa [e] using hm
      cases hm
      obtain ⟨i, rfl⟩ : ∃ i, d = .int i := by
       rcases o with o | ⟨f, o⟩
       · cases o <;> first | (cases e <;> exact ⟨_, rfl⟩) | (obtain ⟨_, rfl⟩ := if_some e; exact ⟨_, rfl⟩)
       · obtain ⟨a, fs, _, _, h⟩ := id o
         rcases h with ⟨_, _, _, _, h, _⟩ | ⟨_, _, _, _, _, _, h, _⟩ | ⟨_, _, _, _, _, _, h, _⟩
         · subst h; cases e; exact ⟨_, rfl⟩
         · subst h; cases e; exact ⟨_, rfl⟩
         · subst h; cases e; exact ⟨_, rfl⟩
      refine ⟨v, hσ, v, H, d0, _, rfl, Same.refl H, (by rcases o with o | ⟨f, o⟩; exact o.mono r.gh; exact o.look r.gh), e, ⟨(fun _ z => by cases z), (fun _ z => by cases z), (fun _ z hz => ?_), Same.refl H⟩⟩
      cases hz
      exact q.val (Same.refl _) r (.int _)
def b2N : B2 → Str
  | .min => "min"
  | .max => "max"
def rB2 (K : PySem.W.Frag) (f : D → D → Option D) : List V → Hp → VK → Prop := fun xs H Q => ∃ x y G d1 d2 d, xs = [x, y] ∧ Same G H ∧ Rp K G x d1 ∧ Rp K G y d2 ∧ f d1 d2 = some d ∧ Res K G H d Q
def b2V : B2 → Value
  | .min => .builtin "min"
  | .max => .builtin "max"
theorem b2_boot (f : B2) : bootBuiltins (b2N f) = some (b2V f) := by cases f <;> decide +kernel
theorem cr_B2 (f : B2) (hc : X.calm = true) : CallR X (b2V f) (rB2 X.K (b2D f)) := by
  intro pins s σ H xs us Q I rx h
  obtain ⟨x, y, G, d1, d2, d, rfl, sg, p1, p2, e, q⟩ := h
  cases f with
  | min =>
    cases p1 with
    | int i =>
      cases p2 with
      | int j => cases e; exact call_min2 hc pins s σ H _ us Q I rx ⟨i, j, rfl, q.int⟩
      | _ => cases e
    | _ => cases p2 <;> cases e
  | max =>
    cases p1 with
    | int i =>
      cases p2 with
      | int j => cases e; exact call_max2 hc pins s σ H _ us Q I rx ⟨i, j, rfl, q.int⟩
      | _ => cases e
    | _ => cases p2 <;> cases e
theorem lvD_b2 {f : B2} {a b d : D} (e : b2D f a b = some d) : lvD d = 0 := by
  unfold b2D at e
  split at e <;> first | (cases e; rfl) | cases e
theorem se_b2 {f : B2} {a b : Expr} {ma mb' : Me} {pos p : Pos} (hc : X.calm = true) (hg : Gl X (b2N f)) (hm : X.mg (b2N f) = none) (ha : PE X a (tE X.K n ma)) (hb : PE X b (tE X.K n mb')) (hs : isStar a = false) (hs2 : isStar b = false) :
    PE X (.Call (.Name (b2N f) p) [a, b] [] pos) (tE X.K n fun ρ => mb (ma ρ) fun x ρ => mb (mb' ρ) fun y ρ => (b2D f x.1 y.1).map fun d => ((d, 0), ρ)) := by
  refine (pe_blt (b2_boot f) (by cases f <;> exact .inl ⟨_, rfl⟩) (cr_B2 f hc) hg hm (pa_cons ha.div (pa_cons hb.div pa_nil (star_cons hs2)) (star_cons hs)) (by cases f <;> decide) (by cases f <;> decide) hs (by simp [hs2])).diw fun σ H Q h => ?_
  obtain ⟨B, ρ, G, fp, hn, r, d, k, ρ', hm, q⟩ := h
  obtain ⟨x, ρ1, h1, hm⟩ := mb_of hm
  obtain ⟨y, ρ2, h2, hm⟩ := mb_of hm
  cases e : b2D f x.1 y.1 with
  | none => rw [e] at hm; cases hm
  | some d' =>
    rw [e] at hm
    cases hm
    refine ⟨B, ρ, G, fp, hn, r, x.1, x.2, ρ1, h1, fun v H1 G1 fp1 s1 r1 p1 => ⟨B, ρ1, G1, fp1, hn, r1, y.1, y.2, ρ', h2, fun u H2 G2 fp2 s2 r2 p2 => ⟨v, u, G2, x.1, y.1, _, rfl, r2.gh, p1.mono s2, p2, e, ?_⟩⟩⟩
    have hl := lvD_b2 e
    rw [← hl] at q
    exact q.res (s1.trans s2) r2
/-! ### isinstance -/
def tyN : Ty → Str
  | .int => "int"
  | .bool => "bool"
  | .str => "str"
  | .tuple => "tuple"
  | .list => "list"
def tyS : Ty → String
  | .int => "int"
  | .bool => "bool"
  | .str => "str"
  | .tuple => "tuple"
  | .list => "list"
theorem ty_boot (t : Ty) : bootBuiltins (tyN t) = some (.type (tyS t)) := by cases t <;> decide +kernel
theorem pe_ty {t : Ty} {p : Pos} (hg : Gl X (tyN t)) (hm : X.mg (tyN t) = none) : PE X (.Name (tyN t) p) (tC (.ty (tyS t))) := pe_bltn hg hm (ty_boot t) rfl (by cases t <;> decide) (by cases t <;> decide)
theorem kit_n (t : Ty) : kitB "NoneType" (tyS t) = some (isiD t .none) := by cases t <;> decide +kernel
theorem kit_b (t : Ty) : kitB "bool" (tyS t) = some (isiD t (.bool true)) := by cases t <;> decide +kernel
theorem kit_i (t : Ty) : kitB "int" (tyS t) = some (isiD t (.int 0)) := by cases t <;> decide +kernel
theorem kit_s (t : Ty) : kitB "str" (tyS t) = some (isiD t (.str "")) := by cases t <;> decide +kernel
theorem kit_l (t : Ty) : kitB "list" (tyS t) = some (isiD t (.list [])) := by cases t <;> decide +kernel
theorem kit_t (t : Ty) : kitB "tuple" (tyS t) = some (isiD t (.tuple [])) := by cases t <;> decide +kernel
theorem isi_ty {K : PySem.W.Frag} {G H : Hp} {x : V} {d : D} (sg : Same G H) (p : Rp K G x d) (t : Ty) (hd : ∀ ds, d ≠ .dict ds) : ∃ ty, TyX K H x (.type ty) ∧ kitB ty (tyS t) = some (isiD t d) := by
  cases p with
  | non => exact ⟨_, .base .non, kit_n t⟩
  | bl b => exact ⟨_, .base (.bl b), (kit_b t).trans (by cases t <;> rfl)⟩
  | int i => exact ⟨_, .base (.int i), (kit_i t).trans (by cases t <;> rfl)⟩
  | str x => exact ⟨_, .base (.str x), (kit_s t).trans (by cases t <;> rfl)⟩
  | lst h z a => exact ⟨_, .base (.lst (sg _ _ h)), (kit_l t).trans (by cases t <;> rfl)⟩
  | tup h z a => exact ⟨_, .base (.tup (sg _ _ h)), (kit_t t).trans (by cases t <;> rfl)⟩
  | dK h z a => exact absurd rfl (hd _)
  | dT h z a => exact absurd rfl (hd _)
  | scr h z a => exact absurd rfl (hd _)
theorem se_isi {t : Ty} {a : Expr} {ma : Me} {pos p p2 : Pos} (hg : Gl X "isinstance") (hm : X.mg "isinstance" = none) (hg2 : Gl X (tyN t)) (hm2 : X.mg (tyN t) = none) (ha : PE X a (tE X.K n ma)) (hs : isStar a = false) :
    PE X (.Call (.Name "isinstance" p) [a, .Name (tyN t) p2] [] pos) (tE X.K n fun ρ => mb (ma ρ) fun x ρ => match x.1 with
      | .dict _ => none
      | d => some ((.bool (isiD t d), 0), ρ)) := by
  refine (pe_callB call_isi hg hm PyProof.Rows.boot_isinstance (pa_cons ha.div (pa_cons (pe_ty hg2 hm2) pa_nil (star_cons rfl)) (star_cons hs)) (by decide) (by decide) (star_cons hs) (star_any rfl)).diw fun σ H Q h => ?_
  obtain ⟨B, ρ, G, fp, hn, r, d, k, ρ', hm, q⟩ := h
  obtain ⟨x, ρ1, h1, hm⟩ := mb_of hm
  have hd : ∀ ds, x.1 ≠ .dict ds := fun ds e => by rw [e] at hm; cases hm
  have hm : some ((PyData.bool (isiD t x.1), 0), ρ1) = some ((d, k), ρ') := by
    cases hx : x.1 <;> rw [hx] at hm <;> first | exact hm | exact absurd hx (hd _)
  cases hm
  refine ⟨B, ρ, G, fp, hn, r, x.1, x.2, ρ', h1, fun v H1 G1 fp1 s1 r1 p1 => ?_⟩
  obtain ⟨ty, h1, h2⟩ := isi_ty r1.gh p1 t hd
  exact ⟨v, .ty (tyS t), _, _, _, rfl, .ty _, h1, kit_ty h2, q.val s1 r1 (.bl _)⟩
end
end DI

/-! DI5: walked things, targets, comprehensions. -/
namespace DI
open PySem PySem.Spec PyProof.Rows L2 RZ
section
variable {K : PySem.W.Frag} {G G' : Hp} {B : Bd} {σ σ' : L2.St} {H H' : Hp} {ρ ρ' : Ev} {fp : Nat → List Addr}
/-! ### walked things -/
theorem rngD_len : ∀ (n : Nat) (lo : Int), (rngD n lo).length = n
  | 0, _ => rfl
  | n + 1, lo => congrArg (· + 1) (rngD_len n (lo + 1))
theorem rngD_get : ∀ (n : Nat) (lo : Int) (i : Nat), i < n → (rngD n lo)[i]? = some (.int (lo + i))
  | 0, _, i, h => absurd h (by omega)
  | n + 1, lo, 0, _ => by simp [rngD]
  | n + 1, lo, i + 1, h => by
    unfold rngD
    rw [List.getElem?_cons_succ, rngD_get n (lo + 1) i (by omega)]
    have : lo + 1 + (i : Int) = lo + ((i + 1 : Nat) : Int) := by omega
    rw [this]
theorem enumD_len : ∀ (xs : List D) (n : Nat), (enumD n xs).length = xs.length
  | [], _ => rfl
  | _ :: r, n => congrArg (· + 1) (enumD_len r (n + 1))
theorem enumD_get : ∀ (xs : List D) (n i : Nat), (enumD n xs)[i]? = xs[i]?.map fun x => .tuple [.int ((n + i : Nat)), x]
  | [], _, i => by simp [enumD]
  | x :: r, n, 0 => by simp [enumD]
  | x :: r, n, i + 1 => by
    unfold enumD
    rw [List.getElem?_cons_succ, List.getElem?_cons_succ, enumD_get r (n + 1) i]
    have : n + 1 + i = n + (i + 1) := by omega
    rw [this]
theorem zipD_len : ∀ (xs ys : List D), (zipD xs ys).length = min xs.length ys.length
  | [], _ => by simp [zipD]
  | _ :: _, [] => by simp [zipD]
  | x :: r, y :: q => by
    unfold zipD
    rw [List.length_cons, zipD_len r q, List.length_cons, List.length_cons]
    omega
theorem zipD_get : ∀ (xs ys : List D) (i : Nat) (d : D), (zipD xs ys)[i]? = some d → ∃ x y, xs[i]? = some x ∧ ys[i]? = some y ∧ d = .tuple [x, y]
  | [], _, i, d, h => by simp [zipD] at h
  | _ :: _, [], i, d, h => by simp [zipD] at h
  | x :: r, y :: q, 0, d, h => by simp [zipD] at h; exact ⟨x, y, rfl, rfl, h.symm⟩
  | x :: r, y :: q, i + 1, d, h => by
    unfold zipD at h
    rw [List.getElem?_cons_succ] at h
    obtain ⟨a, b, h1, h2, h3⟩ := zipD_get r q i d h
    exact ⟨a, b, by simpa using h1, by simpa using h2, h3⟩
theorem wk_list {a : Addr} {xs : List V} {ds : List D} (h : G a = some (.lst xs)) (z : xs.length ≤ sizeLine) (p : RpA K G xs ds) : Wk K (Itl K a) G ds :=
  ⟨by rw [← p.length]; exact z, by
    rw [← p.length]
    exact (walk_list (K := K) (a := a) (xs := xs)).mono (fun H s => SqL.of (s _ _ h)) fun i H x H' hi _ y => .inl ⟨y.1, fun d hd => by
      obtain ⟨v, e, r⟩ := p.get hd
      rw [y.2] at e; cases e; exact r⟩⟩
theorem wk_tup {a : Addr} {xs : List V} {ds : List D} (h : G a = some (.tup xs)) (z : xs.length ≤ sizeLine) (p : RpA K G xs ds) : Wk K (Itt K a) G ds :=
  ⟨by rw [← p.length]; exact z, by
    rw [← p.length]
    exact (walk_tup (K := K) (a := a) (xs := xs)).mono (fun H s => SqT.of (s _ _ h)) fun i H x H' hi _ y => .inl ⟨y.1, fun d hd => by
      obtain ⟨v, e, r⟩ := p.get hd
      rw [y.2] at e; cases e; exact r⟩⟩
theorem wk_rng {lo : Int} {n : Nat} (z : n ≤ sizeLine) : Wk K (Itr lo n) G (rngD n lo) :=
  ⟨by rw [rngD_len]; exact z, by
    rw [rngD_len]
    exact walk_range.mono (fun _ _ => trivial) fun i H x H' hi _ y => .inl ⟨y.1, fun d hd => by
      rw [rngD_get n lo i hi] at hd
      cases hd
      rw [y.2]; exact .int _⟩⟩
theorem wk_enum {a : Addr} {xs : List V} {ds : List D} (h : G a = some (.lst xs)) (z : xs.length ≤ sizeLine) (p : RpA K G xs ds) : Wk K (Ite K a) G (enumD 0 ds) :=
  ⟨by rw [enumD_len, ← p.length]; exact z, by
    rw [enumD_len, ← p.length]
    exact (walk_enum (K := K) (a := a) (xs := xs)).mono (fun H s => SqL.of (s _ _ h)) fun i H x H' hi _ y => by
      obtain ⟨T, u, w, e1, e2, e3, e4, e5⟩ := y
      dsimp only at e4 e5
      refine .inr ⟨T, u, w, e1, e2, e3, fun d hd => ?_⟩
      rw [enumD_get] at hd
      obtain ⟨q, hq, rfl⟩ := Option.map_eq_some_iff.mp hd
      obtain ⟨v, e, r⟩ := p.get hq
      rw [e5] at e; cases e
      cases e4
      refine ⟨_, _, rfl, ?_, r⟩
      rw [Nat.zero_add]; exact .int _⟩
theorem wk_zip {a b : Addr} {xs ys : List V} {ds es : List D} (h : G a = some (.lst xs)) (h2 : G b = some (.lst ys)) (z : xs.length ≤ sizeLine) (p : RpA K G xs ds) (p2 : RpA K G ys es) : Wk K (Itz K a b) G (zipD ds es) :=
  ⟨by rw [zipD_len, ← p.length]; omega, by
    exact (walk_zip (K := K) (a := a) (b := b) (xs := xs) (ys := ys) (n := (zipD ds es).length) (by rw [zipD_len, p.length, p2.length])).mono (fun H s => ⟨SqL.of (s _ _ h), SqL.of (s _ _ h2)⟩) fun i H x H' hi _ y => by
      obtain ⟨T, u, w, e1, e2, e3, e4, e5⟩ := y
      dsimp only at e4 e5
      refine .inr ⟨T, u, w, e1, e2, e3, fun d hd => ?_⟩
      obtain ⟨x1, y1, q1, q2, rfl⟩ := zipD_get _ _ _ _ hd
      obtain ⟨v, e, r⟩ := p.get q1
      obtain ⟨v', e', r'⟩ := p2.get q2
      rw [e4] at e; cases e
      rw [e5] at e'; cases e'
      exact ⟨x1, y1, rfl, r, r'⟩⟩
theorem walk_zipT {K : PySem.W.Frag} {a b : Addr} {xs ys : List V} {n : Nat} (hn : n = min xs.length ys.length) : Walk (ItzT K a b) n (fun H => SqT K H a xs ∧ SqT K H b ys) (YPair (fun i => xs[i]?) (fun i => ys[i]?)) := by
  subst hn
  refine ⟨fun i _ hi q => ?_, fun _ q => ⟨xs, ys, q.1, q.2, by omega⟩, fun i H v H' _ q y => ?_⟩
  · have h1 : i < xs.length := by omega
    have h2 : i < ys.length := by omega
    exact ⟨xs, ys, xs[i], ys[i], q.1, q.2, by simp [h1], by simp [h2]⟩
  · obtain ⟨T, x, z, h1, h2, h3, h4, h5⟩ := y
    exact ⟨T, x, z, h1, h2, h3, h4 xs q.1, h5 ys q.2⟩
theorem wk_zipT {a b : Addr} {xs ys : List V} {ds es : List D} (h : G a = some (.tup xs)) (h2 : G b = some (.tup ys)) (z : xs.length ≤ sizeLine) (p : RpA K G xs ds) (p2 : RpA K G ys es) : Wk K (ItzT K a b) G (zipD ds es) :=
  ⟨by rw [zipD_len, ← p.length]; omega, by
    exact (walk_zipT (K := K) (a := a) (b := b) (xs := xs) (ys := ys) (n := (zipD ds es).length) (by rw [zipD_len, p.length, p2.length])).mono (fun H s => ⟨SqT.of (s _ _ h), SqT.of (s _ _ h2)⟩) fun i H x H' hi _ y => by
      obtain ⟨T, u, w, e1, e2, e3, e4, e5⟩ := y
      dsimp only at e4 e5
      refine .inr ⟨T, u, w, e1, e2, e3, fun d hd => ?_⟩
      obtain ⟨x1, y1, q1, q2, rfl⟩ := zipD_get _ _ _ _ hd
      obtain ⟨v, e, r⟩ := p.get q1
      obtain ⟨v', e', r'⟩ := p2.get q2
      rw [e4] at e; cases e
      rw [e5] at e'; cases e'
      exact ⟨x1, y1, rfl, r, r'⟩⟩
end
section
variable {X : Cx} {n : Nat} {tg : Expr}
/-- a list or a tuple is walked -/
def iSeq (K : PySem.W.Frag) (tl : TE) : TI := fun σ H R => tl σ H fun x H1 => (∃ a, x = .ref a ∧ (∃ xs, SqL K H1 a xs) ∧ R (Itl K a) H1) ∨ (∃ a, x = .ref a ∧ (∃ xs, SqT K H1 a xs) ∧ R (Itt K a) H1)
theorem pi_seq {l : Expr} {tl : TE} (hl : PE X l tl) : PI X tg l (iSeq X.K tl) := by
  refine ⟨fun pins s σ H R I h => ?_⟩
  refine thn (hl.run pins s σ H _ I h) fun v s1 ⟨x, H1, I1, r1, q1⟩ => ?_
  rcases q1 with ⟨a, e, ⟨xs, hq⟩, q⟩ | ⟨a, e, ⟨xs, hq⟩, q⟩
  · subst e
    cases r1
    obtain ⟨its, rv, p, hz⟩ := I1.list hq
    refine wpAny_pyIter_list p.isList ?_
    refine ⟨s1.heap.objs.size, [s1.heap.objs.size], _, _, H1, rfl, I1.kept (t' := s1.toks) fun b o e => Heap.get?_push_of_some _ e, turn_list a _, ⟨_, Heap.get?_push_size _ rfl, rfl, rfl⟩, fun b hb => ?_, q⟩
    have e : b = s1.heap.objs.size := by simpa using hb
    subst e
    exact I1.fpOk (Nat.le_refl _) (I1.hok.fresh (Nat.le_refl _))
  · subst e
    cases r1
    obtain ⟨its, rv, p, hz⟩ := I1.tuple hq
    refine wpAny_pyIter_tuple (show s1.heap.IsTuple a its.toArray from p) ?_
    refine ⟨s1.heap.objs.size, [s1.heap.objs.size], _, _, H1, rfl, I1.kept (t' := s1.toks) fun b o e => Heap.get?_push_of_some _ e, turn_tuple a _, ⟨_, Heap.get?_push_size _ rfl, rfl, rfl⟩, fun b hb => ?_, q⟩
    have e : b = s1.heap.objs.size := by simpa using hb
    subst e
    exact I1.fpOk (Nat.le_refl _) (I1.hok.fresh (Nat.le_refl _))
theorem si_ex {e : Expr} {m : Me} (h : PE X e (tE X.K n m)) : PI X tg e (tI X.K n fun ρ => mb (m ρ) fun x ρ => match x.1 with
    | .list xs => some (xs, ρ)
    | .tuple xs => some (xs, ρ)
    | _ => none) := by
  refine (pi_seq h.div).diw fun σ H R h => ?_
  obtain ⟨B, ρ, G, fp, hn, r, ds, ρ', hm, q⟩ := h
  obtain ⟨x, ρ1, h1, hm⟩ := mb_of hm
  refine ⟨B, ρ, G, fp, hn, r, x.1, x.2, ρ1, h1, fun v H1 G1 fp1 s1 r1 p1 => ?_⟩
  cases hx : x.1 with
  | list ys =>
    rw [hx] at hm p1
    cases hm
    cases p1 with
    | lst h z a => exact .inl ⟨_, rfl, ⟨_, SqL.of (r1.gh _ _ h)⟩, q _ H1 G1 fp1 s1 r1 (wk_list h z a)⟩
  | tuple ys =>
    rw [hx] at hm p1
    cases hm
    cases p1 with
    | tup h z a => exact .inr ⟨_, rfl, ⟨_, SqT.of (r1.gh _ _ h)⟩, q _ H1 G1 fp1 s1 r1 (wk_tup h z a)⟩
  | _ => rw [hx] at hm; cases hm
theorem small62 {n : Nat} (h : n ≤ sizeLine) : (n : Int) < 2 ^ 62 := by
  have : sizeLine = 16777216 := sizeLine_eq
  omega
theorem si_rng1 {a : Expr} {m : Me} {pos p : Pos} (hg : Gl X "range") (hm : X.mg "range" = none) (ha : PE X a (tE X.K n m)) (hs : isStar a = false) : PI X tg (.Call (.Name "range" p) [a] [] pos) (tI X.K n fun ρ => mb (m ρ) fun x ρ => match x.1 with
    | .int n => if lenOk n.toNat && decide (-(2 ^ 62) ≤ n) then some (rngD n.toNat 0, ρ) else none
    | _ => none) := by
  refine (pi_range1 hg hm (pa_cons ha.div pa_nil (star_cons hs)) (star_cons hs)).diw fun σ H R h => ?_
  obtain ⟨B, ρ, G, fp, hn, r, ds, ρ', hm, q⟩ := h
  obtain ⟨x, ρ1, h1, hm⟩ := mb_of hm
  refine ⟨B, ρ, G, fp, hn, r, x.1, x.2, ρ1, h1, fun v H1 G1 fp1 s1 r1 p1 => ?_⟩
  cases hx : x.1 with
  | int i =>
    rw [hx] at hm p1
    obtain ⟨c, hm⟩ := if_some hm
    cases hm
    cases p1
    simp only [Bool.and_eq_true, decide_eq_true_eq] at c
    have c1 : i.toNat ≤ sizeLine := of_decide_eq_true c.1
    have := small62 c1
    exact ⟨i, rfl, c.2, by omega, q _ H1 G1 fp1 s1 r1 (wk_rng c1)⟩
  | _ => rw [hx] at hm; cases hm
theorem si_rng2 {a b : Expr} {m m2 : Me} {pos p : Pos} (hg : Gl X "range") (hm : X.mg "range" = none) (ha : PE X a (tE X.K n m)) (hb : PE X b (tE X.K n m2)) (hs : isStar a = false) (hs2 : isStar b = false) : PI X tg (.Call (.Name "range" p) [a, b] [] pos) (tI X.K n fun ρ => mb (m ρ) fun x ρ => mb (m2 ρ) fun y ρ => match x.1, y.1 with
    | .int i, .int j => if lenOk (j - i).toNat && decide (-(2 ^ 62) ≤ i) && decide (i < 2 ^ 62) && decide (-(2 ^ 62) ≤ j) && decide (j < 2 ^ 62) then some (rngD (j - i).toNat i, ρ) else none
    | _, _ => none) := by
  refine (pi_range2 hg hm (pa_cons ha.div (pa_cons hb.div pa_nil (star_cons hs2)) (star_cons hs)) (by rw [star_cons hs, star_cons hs2]; rfl) (by rw [star_cons hs2]; rfl)).diw fun σ H R h => ?_
  obtain ⟨B, ρ, G, fp, hn, r, ds, ρ', hm, q⟩ := h
  obtain ⟨x, ρ1, h1, hm⟩ := mb_of hm
  obtain ⟨y, ρ2, h2, hm⟩ := mb_of hm
  refine ⟨B, ρ, G, fp, hn, r, x.1, x.2, ρ1, h1, fun v H1 G1 fp1 s1 r1 p1 => ⟨B, ρ1, G1, fp1, hn, r1, y.1, y.2, ρ2, h2, fun u H2 G2 fp2 s2 r2 p2 => ?_⟩⟩
  cases hx : x.1 with
  | int i =>
    cases hy : y.1 with
    | int j =>
      rw [hx, hy] at hm
      rw [hx] at p1
      rw [hy] at p2
      obtain ⟨c, hm⟩ := if_some hm
      cases hm
      cases p1
      cases p2
      simp only [Bool.and_eq_true, decide_eq_true_eq] at c
      obtain ⟨⟨⟨⟨c1, c2⟩, c3⟩, c4⟩, c5⟩ := c
      exact ⟨i, j, rfl, ⟨c2, c3, c4, c5⟩, q _ H2 G2 fp2 (s1.trans s2) r2 (wk_rng (of_decide_eq_true c1))⟩
    | _ => rw [hx, hy] at hm; cases hm
  | _ => rw [hx] at hm; cases hm
theorem si_zip {a b : Expr} {m m2 : Me} {pos p tpos : Pos} {elts : List Expr} {kk : Nat} (hg : Gl X "zip") (hm : X.mg "zip" = none) (ha : PE X a (tE X.K n m)) (hb : PE X b (tE X.K n m2)) (hs : isStar a = false) (hs2 : isStar b = false) : PI X (.Tuple elts kk tpos) (.Call (.Name "zip" p) [a, b] [] pos) (tI X.K n fun ρ => mb (m ρ) fun x ρ => mb (m2 ρ) fun y ρ => match x.1, y.1 with
    | .list xs, .list ys => some (zipD xs ys, ρ)
    | .tuple xs, .tuple ys => some (zipD xs ys, ρ)
    | _, _ => none) := by
  refine (pi_zipA hg hm (pa_cons ha.div (pa_cons hb.div pa_nil (star_cons hs2)) (star_cons hs)) (star_cons hs) (by rw [star_cons hs2]; rfl)).diw fun σ H R h => ?_
  obtain ⟨B, ρ, G, fp, hn, r, ds, ρ', hm, q⟩ := h
  obtain ⟨x, ρ1, h1, hm⟩ := mb_of hm
  obtain ⟨y, ρ2, h2, hm⟩ := mb_of hm
  refine ⟨B, ρ, G, fp, hn, r, x.1, x.2, ρ1, h1, fun v H1 G1 fp1 s1 r1 p1 => ⟨B, ρ1, G1, fp1, hn, r1, y.1, y.2, ρ2, h2, fun u H2 G2 fp2 s2 r2 p2 => ?_⟩⟩
  have p1 := p1.mono s2
  cases hx : x.1 with
  | list xs =>
    cases hy : y.1 with
    | list ys =>
      rw [hx, hy] at hm
      rw [hx] at p1
      rw [hy] at p2
      cases hm
      cases p1 with
      | lst h z a =>
        cases p2 with
        | lst h2 z2 a2 => exact ⟨_, _, _, _, rfl, .inl ⟨SqL.of (r2.gh _ _ h), SqL.of (r2.gh _ _ h2), q _ H2 G2 fp2 (s1.trans s2) r2 (wk_zip h h2 z a a2)⟩⟩
    | _ => rw [hx, hy] at hm; cases hm
  | tuple xs =>
    cases hy : y.1 with
    | tuple ys =>
      rw [hx, hy] at hm
      rw [hx] at p1
      rw [hy] at p2
      cases hm
      cases p1 with
      | tup h z a =>
        cases p2 with
        | tup h2 z2 a2 =>
          exact ⟨_, _, _, _, rfl, .inr ⟨SqT.of (r2.gh _ _ h), SqT.of (r2.gh _ _ h2), q _ H2 G2 fp2 (s1.trans s2) r2 (wk_zipT h h2 z a a2)⟩⟩
    | _ => rw [hx, hy] at hm; cases hm
  | _ => rw [hx] at hm; cases hm

/-! ### targets -/
def tG (K : PySem.W.Frag) (n : Nat) (vs : List Nat) (f : D → Ev → Option Ev) : TG := fun v σ H Q => ∃ B ρ G fp d ρ', B.n = n ∧ Rel K B σ H ρ G fp ∧ Rp K G v d ∧ f d ρ = some ρ' ∧
  ∀ σ' fp', σ'.length = σ.length → (∀ j, j ∉ vs → σ'[j]? = σ[j]?) → Rel K B σ' H ρ' G fp' → Q σ' H
def tGs (K : PySem.W.Frag) (n : Nat) (vs : List Nat) (f : List D → Ev → Option Ev) : TGs := fun v σ H Q => ∃ B ρ G fp d ρ', B.n = n ∧ Rel K B σ H ρ G fp ∧ RpA K G v d ∧ f d ρ = some ρ' ∧
  ∀ σ' fp', σ'.length = σ.length → (∀ j, j ∉ vs → σ'[j]? = σ[j]?) → Rel K B σ' H ρ' G fp' → Q σ' H
theorem _root_.L2.PG.diw {e : Expr} {t t' : TG} (h : PG X e t) (w : ∀ v σ H Q, t' v σ H Q → t v σ H Q) : PG X e t' := ⟨fun pins s σ H v u Q I r q => h.run pins s σ H v u Q I r (w v σ H Q q)⟩
theorem _root_.L2.PGs.diw {e : List Expr} {t t' : TGs} (h : PGs X e t) (w : ∀ v σ H Q, t' v σ H Q → t v σ H Q) : PGs X e t' := ⟨fun pins s σ H v u Q I r q => h.run pins s σ H v u Q I r (w v σ H Q q)⟩
theorem sg_nm {i : Nat} {x : Str} {pos : Pos} (hn : X.N.length = n) (hN : X.N.Nodup) (hi : X.N[i]? = some x) (hx : Loc X.env.scope x) (hf : X.fn x = true ∨ X.env.scope.names.lookup x = some .local) :
    PG X (.Name x pos) (tG X.K n [i] (bnd (.nm i))) := by
  refine (pg_name hN hi hx hf).diw fun v σ H Q h => ?_
  obtain ⟨B, ρ, G, fp, d, ρ', hb, r, p, hm, q⟩ := h
  unfold bnd at hm
  obtain ⟨c, rfl⟩ := if_some hm
  have hi' : i < B.n := by
    rw [hb, ← hn]; exact (List.getElem?_eq_some_iff.mp hi).1
  exact q _ _ (List.length_set ..) (fun j hj => List.getElem?_set_ne (fun e => hj (by simp [e]))) (r.set (OwN.val p) hi')
theorem sgs_nil : PGs X [] (tGs X.K n [] (bnds [])) := pgs_nil.diw fun v σ H Q h => by
  obtain ⟨B, ρ, G, fp, d, ρ', hb, r, p, hm, q⟩ := h
  cases p with
  | nil =>
    cases hm
    exact ⟨rfl, q σ fp rfl (fun _ _ => rfl) r⟩
  | cons => cases hm
theorem asg_cons {e : Expr} {es : List Expr} {env : Env} (h : isStar e = false) : (assignEach (e :: es) env).map (·.2) = assign e env :: (assignEach es env).map (·.2) := by
  cases e <;> first | rfl | cases h
theorem sgs_cons {e : Expr} {es : List Expr} {t : Tg} {ts : List Tg} {vs ws : List Nat} (h1 : PG X e (tG X.K n vs (bnd t))) (h2 : PGs X es (tGs X.K n ws (bnds ts))) (hs : isStar e = false) : PGs X (e :: es) (tGs X.K n (vs ++ ws) (bnds (t :: ts))) := by
  refine (pgs_cons h1 h2 (asg_cons hs)).diw fun v σ H Q h => ?_
  obtain ⟨B, ρ, G, fp, d, ρ', hb, r, p, hm, q⟩ := h
  cases p with
  | nil => cases hm
  | cons p1 p2 =>
    rename_i v1 d1 vr dr
    unfold bnds at hm
    cases e1 : bnd t d1 ρ with
    | none => rw [e1] at hm; cases hm
    | some ρ1 =>
      rw [e1] at hm
      refine ⟨v1, vr, rfl, B, ρ, G, fp, d1, ρ1, hb, r, p1, e1, fun σ1 fp1 l1 k1 r1 => ⟨B, ρ1, G, fp1, dr, ρ', hb, r1, p2, hm, fun σ2 fp2 l2 k2 r2 => ?_⟩⟩
      exact q σ2 fp2 (l2.trans l1) (fun j hj => (k2 j (fun z => hj (by simp [z]))).trans (k1 j (fun z => hj (by simp [z])))) r2
theorem asg_len {env : Env} : ∀ {es : List Expr}, es.any isStar = false → (assignEach es env).length = es.length ∧ (assignEach es env).findIdx? (·.1) = none
  | [], _ => ⟨rfl, rfl⟩
  | e :: r, h => by
    rw [List.any_cons, Bool.or_eq_false_iff] at h
    obtain ⟨h1, h2⟩ := asg_len (env := env) h.2
    have : assignEach (e :: r) env = (false, assign e env) :: assignEach r env := by
      cases e <;> first | rfl | cases h.1
    rw [this]
    exact ⟨congrArg (· + 1) h1, by rw [List.findIdx?_cons]; simp [h2]⟩
theorem bnds_len : ∀ {ts : List Tg} {ds : List D} {ρ ρ' : Ev}, bnds ts ds ρ = some ρ' → ds.length = ts.length
  | [], [], _, _, _ => rfl
  | [], _ :: _, _, _, h => by cases h
  | _ :: _, [], _, _, h => by cases h
  | t :: ts, d :: ds, ρ, ρ', h => by
    unfold bnds at h
    cases e1 : bnd t d ρ with
    | none => rw [e1] at h; cases h
    | some ρ1 =>
      rw [e1] at h
      exact congrArg (· + 1) (bnds_len (show bnds ts ds ρ1 = some ρ' from h))
theorem sg_tup {es : List Expr} {ts : List Tg} {vs : List Nat} {k : Nat} {pos : Pos} (hc : X.calm = true) (h : PGs X es (tGs X.K n vs (bnds ts))) (hl : es.length = ts.length) (hs : es.any isStar = false) : PG X (.Tuple es k pos) (tG X.K n vs (bnd (.tup ts))) := by
  refine (pg_tup hc h ((asg_len hs).1.trans hl) (asg_len hs).2).diw fun v σ H Q h => ?_
  obtain ⟨B, ρ, G, fp, d, ρ', hb, r, p, hm, q⟩ := h
  cases p with
  | tup h z a =>
    have hm : bnds ts _ ρ = some ρ' := hm
    exact ⟨_, _, rfl, SqT.of (r.gh _ _ h), by rw [a.length, bnds_len hm], B, ρ, G, fp, _, ρ', hb, r, a, hm, q⟩
  | _ => cases hm

end
section
variable {K : PySem.W.Frag} {G G' : Hp} {B : Bd} {σ σ' : L2.St} {H H' : Hp} {ρ ρ' : Ev} {fp : Nat → List Addr}
/-! ### protecting addresses that no slot owns -/
theorem Rel.prot (r : Rel K B σ H ρ G fp) (F : List Addr) (hF : ∀ a ∈ F, (∀ i, a ∉ fp i) ∧ G a = none) : Rel K (B.add F H) σ H ρ G fp := by
  refine ⟨r.len, r.lenR, fun i => (r.sl i).badd, r.nd, r.dj, fun i a ha => ⟨(r.own i a ha).1, ?_⟩, r.gh, fun a o e => ?_, fun a h => ?_, r.g0, r.hh⟩
  · show (if a ∈ F then H a else B.R a) = none
    rw [if_neg fun z => (hF a z).1 i ha]
    exact (r.own i a ha).2
  · have e : (if a ∈ F then H a else B.R a) = some o := e
    by_cases c : a ∈ F
    · rw [if_pos c] at e; exact e
    · rw [if_neg c] at e; exact r.rh a o e
  · rcases r.fr a h with z | z | ⟨z1, z2⟩
    · exact .inl z
    · exact .inr (.inl z)
    · refine .inr (.inr ⟨z1, ?_⟩)
      show (if a ∈ F then H a else B.R a) = none
      rw [if_neg fun z => h (hF a z).2]
      exact z2
theorem Rel.unprot {fp1 : Nat → List Addr} {F : List Addr} (r : Rel K B σ H ρ G fp) (hF : ∀ a ∈ F, G a = none ∧ B.R a = none ∧ H a ≠ none ∧ ∀ xs, H a ≠ some (.tup xs)) (r1 : Rel K (B.add F H) σ' H' ρ' G' fp1) :
    Rel K B σ' H' ρ' G' fp1 ∧ ∀ a ∈ F, (∀ i, a ∉ fp1 i) ∧ G' a = none ∧ H' a = H a := by
  have R1 : ∀ a, (B.add F H).R a = if a ∈ F then H a else B.R a := fun _ => rfl
  have nF : ∀ a, (B.add F H).R a = none → a ∉ F := fun a h c => by
    rw [R1, if_pos c] at h
    exact (hF a c).2.2.1 h
  refine ⟨⟨r1.len, r1.lenR, fun i => (r1.sl i).bdel, r1.nd, r1.dj, fun i a ha => ⟨(r1.own i a ha).1, ?_⟩, r1.gh, fun a o e => ?_, fun a h => ?_, r1.g0, r1.hh⟩, fun a ha => ⟨fun i hi => ?_, ?_, ?_⟩⟩
  · have q := (r1.own i a ha).2
    have := nF a q
    rw [R1, if_neg this] at q
    exact q
  · refine r1.rh a o ?_
    rw [R1, if_neg fun c => by rw [(hF a c).2.1] at e; cases e]
    exact e
  · rcases r1.fr a h with z | z | ⟨z1, z2⟩
    · exact .inl z
    · exact .inr (.inl z)
    · have := nF a z2
      rw [R1, if_neg this] at z2
      exact .inr (.inr ⟨z1, z2⟩)
  · exact nF a (r1.own i a hi).2 ha
  · cases e : G' a with
    | none => rfl
    | some o =>
      rcases r1.fr a (by rw [e]; simp) with ⟨xs, z⟩ | z | ⟨_, z⟩
      · cases q : H a with
        | none => exact absurd q (hF a ha).2.2.1
        | some y =>
          have h1 := r1.rh a y (by rw [R1, if_pos ha, q])
          rw [r1.gh a _ z] at h1
          exact absurd (q.trans h1.symm) ((hF a ha).2.2.2 xs)
      · have z : B.G0 a ≠ none := z
        cases q : B.G0 a with
        | none => exact absurd q z
          | some y => exact absurd (r.g0 a y q) (by rw [(hF a ha).1]; simp)
      · exact absurd ha (nF a z)
  · cases e : H a with
    | none => exact absurd e (hF a ha).2.2.1
    | some o => exact r1.rh a o (by rw [R1, if_pos ha, e])
/-- a free object is changed -/
theorem Rel.updF {a : Addr} {o : HO} (r : Rel K B σ H ρ G fp) (h : (∀ i, a ∉ fp i) ∧ G a = none ∧ B.R a = none) : Rel K B σ (upd H a o) ρ G fp := by
  refine ⟨r.len, r.lenR, fun i => (r.sl i).mono (Same.refl G) fun b hb x e => ?_, r.nd, r.dj, r.own, fun b x e => ?_, fun b x e => ?_, r.fr, r.g0, fun b hb => ?_⟩
  · rw [upd_ne (fun z : b = a => h.1 i (z ▸ hb))]; exact e
  · rw [upd_ne (fun z : b = a => by rw [z, h.2.1] at e; cases e)]; exact r.gh b x e
  · rw [upd_ne (fun z : b = a => by rw [z, h.2.2] at e; cases e)]; exact r.rh b x e
  · by_cases c : b = a
    · subst c; rw [upd_same]; simp
    · rw [upd_ne c]; exact r.hh b hb
theorem wipe_gt {σ : L2.St} : ∀ {vs : List Nat} {i : Nat}, i ∉ vs → (wipe σ vs)[i]? = σ[i]?
  | [], _, _ => rfl
  | v :: vs, i, h => by
    unfold wipe
    simp only [List.mem_cons, not_or] at h
    rw [List.getElem?_set_ne (Ne.symm h.1)]
    exact wipe_gt h.2
theorem wipe_eq {σ σ' : L2.St} (hl : σ'.length = σ.length) {vs : List Nat} (h : ∀ j, j ∉ vs → σ'[j]? = σ[j]?) : wipe σ' vs = wipe σ vs := by
  apply List.ext_getElem?
  intro i
  have go : ∀ {ws : List Nat}, i ∈ ws → (wipe σ' ws)[i]? = (wipe σ ws)[i]? := by
    intro ws hi
    induction ws with
    | nil => cases hi
    | cons w ws ih =>
      unfold wipe
      by_cases c : w = i
      · subst c
        by_cases hz : w < σ.length
        · rw [List.getElem?_set_self (by rw [wipe_length, hl]; exact hz), List.getElem?_set_self (by rw [wipe_length]; exact hz)]
        · rw [List.getElem?_eq_none (by rw [List.length_set, wipe_length, hl]; omega), List.getElem?_eq_none (by rw [List.length_set, wipe_length]; omega)]
      · rw [List.getElem?_set_ne c, List.getElem?_set_ne c]
        rcases List.mem_cons.mp hi with e | e
        · exact absurd e.symm c
        · exact ih e
  by_cases c : i ∈ vs
  · exact go c
  · rw [wipe_gt c, wipe_gt c, h i c]
end
end DI

/-! DI6: comprehensions. -/
namespace DI
open PySem PySem.Spec PyProof.Rows L2 RZ
section
variable {X : Cx} {n : Nat}
theorem owA_mono {K : PySem.W.Frag} {G G' H H' : Hp} {k : Nat} {vs : List V} {ds : List D} {fs : List (List Addr)} (o : OwA (Ow K G H k) vs ds fs) (s : Same G G') (ke : ∀ a ∈ fs.flatten, ∀ x, H a = some x → H' a = some x) : OwA (Ow K G' H' k) vs ds fs :=
  o.imp fun v d f hf p => p.mono s k fun a ha => ke a (List.mem_flatten.mpr ⟨f, hf, ha⟩)
/-- between two turns of a comprehension -/
structure CI (K : PySem.W.Frag) (B : Bd) (σ : L2.St) (k : Nat) (D0 : Addr) (G1 : Hp) (cl : List D → Ev → Option (List D × Ev)) (ds YS : List D) (ρE : Ev) (i : Nat) (H : Hp) : Prop where
  ex : ∃ ρ G fp acc ys fs rest, Same G1 G ∧ Rel K B σ H ρ G fp ∧ H D0 = some (.lst acc) ∧ OwA (Ow K G H k) acc ys fs ∧ (D0 :: fs.flatten).Nodup ∧
    (∀ a ∈ D0 :: fs.flatten, (∀ j, a ∉ fp j) ∧ G a = none ∧ B.R a = none ∧ B.H0 a = none) ∧ acc.length ≤ i ∧ cl (ds.drop i) ρ = some (rest, ρE) ∧ ys ++ rest = YS
abbrev mComp (k : Nat) (vs : List Nat) (mi : Ev → Option (List D × Ev)) (bind : D → Ev → Option Ev) (mt : Mt) (me : Me) : Me := fun ρ => mb (mi ρ) fun xs ρ0 =>
      mb (compL k vs bind mt me xs (wp ρ0 vs)) fun ys ρ1 => some ((.list ys, k + 1), bk ρ0 vs ρ1)
theorem comp_wp {K : PySem.W.Frag} {k : Nat} {vs tv : List Nat} {mi : Ev → Option (List D × Ev)} {bind : D → Ev → Option Ev} {mt : Mt} {me : Me} (htv : ∀ j ∈ tv, j ∈ vs) {σ : L2.St} {H : Hp} {Q : VK}
    (h : tE K n (mComp k vs mi bind mt me) σ H Q) : tLc (tI K n mi) (tG K n tv bind) (tT K n mt) (tE K n me) vs σ H Q := by
  obtain ⟨B, ρ, G, fp, hn, r, d, k', ρ', hm, q⟩ := h
  obtain ⟨ds, ρ0, h1, hm⟩ := mb_of hm
  obtain ⟨YS, ρE, h2, hm⟩ := mb_of hm
  cases hm
  refine ⟨B, ρ, G, fp, hn, r, ds, ρ0, h1, fun J H1 G1 fp1 s1 r1 wk => fun D0 hD0 => ?_⟩
  -- the block's own slots are hidden
  have rh := r1.hide vs (σ' := wipe σ vs) (by rw [wipe_length]; exact r1.len) (fun i hi => wipe_gt hi)
  generalize hB1 : B.add (vs.flatMap fp1) H1 = B1 at rh
  have hB1n : B1.n = n := by rw [← hB1]; exact hn
  refine lc_it wk.w (CI K B1 (wipe σ vs) k D0 G1 (compL k vs bind mt me) ds YS ρE) ?_ ?_ ?_ ?_
  · obtain ⟨f1, f2, f3, f4⟩ := rh.fresh hD0
    refine ⟨⟨wp ρ0 vs, G1, _, [], [], [], YS, Same.refl _, rh.grow (same_upd hD0), upd_same, .nil, by simp, fun a ha => ?_, Nat.le_refl _, h2, rfl⟩⟩
    have e : a = D0 := by simpa using ha
    rw [e]; exact ⟨f1, f2, f3, f4⟩
  · rintro i H hi ⟨⟨ρ2, G2, fp2, acc, ys, fs, rest, s2, r2, hD, ow, nd, fr, hl, hcl, hys⟩⟩
    exact s2.trans r2.gh
  · rintro i x H H' hi ⟨⟨ρ2, G2, fp2, acc, ys, fs, rest, s2, r2, hD, ow, nd, fr, hl, hcl, hys⟩⟩ hY
    have hd : ds[i]? = some ds[i] := List.getElem?_eq_getElem hi
    rw [List.drop_eq_getElem_cons hi] at hcl
    generalize ds[i] = d at hd hcl
    generalize hF : D0 :: fs.flatten = F at nd fr
    have there : ∀ a ∈ F, H a ≠ none := fun a ha => by
      rw [← hF] at ha
      rcases List.mem_cons.mp ha with e | e
      · rw [e, hD]; simp
      · obtain ⟨f, hf, hb⟩ := List.mem_flatten.mp e
        have go : ∀ {vs : List V} {ds : List D} {fs : List (List Addr)}, OwA (Ow K G2 H k) vs ds fs → f ∈ fs → H a ≠ none := by
          intro vs ds fs h
          induction h with
          | nil => intro z; cases z
          | cons p t ih =>
            intro z
            rcases List.mem_cons.mp z with z | z
            · subst z; exact Ow.there k p a hb
            · exact ih z
        exact go ow hf
    have notup : ∀ a ∈ F, ∀ xs, H a ≠ some (.tup xs) := fun a ha xs => by
      rw [← hF] at ha
      rcases List.mem_cons.mp ha with e | e
      · rw [e, hD]; intro z; cases z
      · obtain ⟨f, hf, hb⟩ := List.mem_flatten.mp e
        have go : ∀ {vs : List V} {ds : List D} {fs : List (List Addr)}, OwA (Ow K G2 H k) vs ds fs → f ∈ fs → H a ≠ some (.tup xs) := by
          intro vs ds fs h
          induction h with
          | nil => intro z; cases z
          | cons p t ih =>
            intro z
            rcases List.mem_cons.mp z with z | z
            · subst z; exact Ow.ntup k p a hb xs
            · exact ih z
        exact go ow hf
    -- the item
    obtain ⟨G3, s3, r3, px, f3⟩ : ∃ G3, Same G2 G3 ∧ Rel K B1 (wipe σ vs) H' ρ2 G3 fp2 ∧ Rp K G3 x d ∧ ∀ a ∈ F, G3 a = none ∧ H' a = H a := by
      rcases hY with ⟨rfl, hp⟩ | ⟨T, a, b, rfl, hT, rfl, hp⟩
      · exact ⟨G2, Same.refl _, r2, (hp d hd).mono s2, fun a ha => ⟨(fr a ha).2.1, rfl⟩⟩
      · obtain ⟨e, f, rfl, p1, p2⟩ := hp d hd
        obtain ⟨s3, r3⟩ := r2.newF (o := .tup [a, b]) hT
        refine ⟨_, s3, r3, .tup upd_same (by show 2 ≤ sizeLine; decide) (.cons ((p1.mono s2).mono s3) (.cons ((p2.mono s2).mono s3) .nil)), fun c hc' => ?_⟩
        have hne : c ≠ T := fun z => there c hc' (z ▸ hT)
        rw [upd_ne hne, upd_ne hne]
        exact ⟨(fr c hc').2.1, rfl⟩
    have rp := r3.prot F (fun a ha => ⟨(fr a ha).1, (f3 a ha).1⟩)
    have there' : ∀ a ∈ F, H' a ≠ none := fun a ha => by rw [(f3 a ha).2]; exact there a ha
    have hFR : ∀ a ∈ F, G3 a = none ∧ B1.R a = none ∧ H' a ≠ none ∧ ∀ xs, H' a ≠ some (.tup xs) := fun a ha => ⟨(f3 a ha).1, (fr a ha).2.2.1, there' a ha, fun xs => by rw [(f3 a ha).2]; exact notup a ha xs⟩
    unfold compL at hcl
    cases hb : bind d ρ2 with
    | none => rw [hb] at hcl; cases hcl
    | some ρ3 =>
      rw [hb] at hcl
      obtain ⟨b, ρ4, h4, hcl⟩ := mb_of (show mb (mt ρ3) _ = _ from hcl)
      refine ⟨B1.add F H', ρ2, G3, fp2, d, ρ3, hB1n, rp, px, hb, fun σ3 fp3 hl3 hk3 r3' => ⟨?_, B1.add F H', ρ3, G3, fp3, hB1n, r3', b, ρ4, h4, fun H4 G4 fp4 s4 r4 => ?_⟩⟩
      · rw [wipe_eq hl3 fun j hj => hk3 j fun z => hj (htv j z)]
        exact wipe_eq (wipe_length _ _) fun j hj => wipe_gt hj
      · have hslot : ∀ (ρ : Ev) (i : Nat), gt (wp ρ vs) i = .un ∨ (gt (wp ρ vs) i = gt ρ i ∧ (wipe σ vs)[i]? = σ3[i]?) := fun ρ i => by
          rw [wp_gt]
          by_cases c : i ∈ vs
          · simp [c]
          · simp only [c, if_false]
            exact .inr ⟨trivial, (hk3 i fun z => c (htv i z)).symm⟩
        have hsub : ∀ (ρ : Ev) (fp : Nat → List Addr) (a : Addr) (j : Nat), a ∈ (match gt (wp ρ vs) j with | .un => [] | _ => fp j) → a ∈ fp j := fun ρ fp a j => by
          split
          · intro z; cases z
          · exact fun z => z
        have hlw : (wipe σ vs).length = B1.n := by rw [wipe_length, r1.len, ← hB1]; rfl
        have sG : Same G2 G4 := s3.trans s4
        cases b with
        | false =>
          refine iteF ?_
          obtain ⟨r5, f5⟩ := r3.unprot hFR r4
          have r6 := r5.sub (σ' := wipe σ vs) (ρ' := wp ρ4 vs) hlw (by rw [wp_length]; exact r5.lenR) (hslot ρ4)
          have keep : ∀ a ∈ F, H4 a = H a := fun a ha => (f5 a ha).2.2.trans (f3 a ha).2
          refine ⟨⟨wp ρ4 vs, G4, _, acc, ys, fs, rest, s2.trans sG, r6, ?_, owA_mono ow sG fun a ha x e => ?_, hF ▸ nd, fun a ha => ?_, Nat.le_succ_of_le hl, hcl, hys⟩⟩
          · rw [keep D0 (by rw [← hF]; simp)]; exact hD
          · rw [keep a (by rw [← hF]; exact List.mem_cons_of_mem _ ha)]; exact e
          · rw [hF] at ha
            exact ⟨fun j z => (f5 a ha).1 j (hsub _ _ _ _ z), (f5 a ha).2.1, (fr a ha).2.2⟩
        | true =>
          refine iteT ?_
          obtain ⟨p, ρ5, h5, hcl⟩ := mb_of (show mb (me ρ4) _ = _ from hcl)
          obtain ⟨d5, k5⟩ := p
          by_cases hk : k = 0 ∨ k5 = k
          · rw [if_pos (show k = 0 ∨ (d5, k5).2 = k from hk)] at hcl
            obtain ⟨zs, ρ6, h6, hcl⟩ := mb_of hcl
            cases hcl
            refine ⟨B1.add F H', ρ4, G4, fp4, hB1n, r4, d5, k5, ρ5, h5, fun y H5 G5 fp5 fv s5 r5 o => ?_⟩
            obtain ⟨G6, f, s6, r6, o6, nf, ff⟩ : ∃ G6 f, Same G5 G6 ∧ Rel K (B1.add F H') σ3 H5 ρ5 G6 fp5 ∧ Ow K G6 H5 k y d5 f ∧ f.Nodup ∧ ∀ a ∈ f, (∀ j, a ∉ fp5 j) ∧ G6 a = none ∧ (B1.add F H').R a = none ∧ B1.H0 a = none := by
              rcases hk with e | e
              · subst e
                obtain ⟨G6, s6, r6, p6⟩ := r5.freezeV o
                exact ⟨G6, [], s6, r6, ⟨p6, rfl⟩, List.nodup_nil, fun _ z => by cases z⟩
              · subst e
                exact ⟨G5, fv, Same.refl _, r5, o.ow, o.nd, fun a ha => ⟨fun j => o.ap j a ha, o.own a ha⟩⟩
            obtain ⟨r7, f7⟩ := r3.unprot hFR r6
            have keep : ∀ a ∈ F, H5 a = H a := fun a ha => (f7 a ha).2.2.trans (f3 a ha).2
            have hD0F : D0 ∈ F := by rw [← hF]; simp
            have hD5 : H5 D0 = some (.lst acc) := (keep D0 hD0F).trans hD
            have fF : ∀ a ∈ f, a ∉ F := fun a ha c => by
              have z : (if a ∈ F then H' a else B1.R a) = none := (ff a ha).2.2.1
              rw [if_pos c] at z
              exact there' a c z
            have nd' : (D0 :: fs.flatten).Nodup := by rw [hF]; exact nd
            have hD0 : ∀ a ∈ fs.flatten, a ≠ D0 := fun a ha e => (List.nodup_cons.mp nd').1 (e ▸ ha)
            have sG6 : Same G2 G6 := sG.trans (s5.trans s6)
            refine ⟨acc, hD5, ?_, ?_⟩
            · have := wk.z; omega
            · have r8 := (r7.updF (a := D0) (o := .lst (acc ++ [y])) ⟨(f7 D0 hD0F).1, (f7 D0 hD0F).2.1, (fr D0 hD0F).2.2.1⟩).sub (σ' := wipe σ vs) (ρ' := wp ρ5 vs) hlw (by rw [wp_length]; exact r7.lenR) (hslot ρ5)
              refine ⟨⟨wp ρ5 vs, G6, _, acc ++ [y], ys ++ [d5], fs ++ [f], zs, s2.trans sG6, r8, upd_same, ?_, ?_, fun a ha => ?_, ?_, h6, ?_⟩⟩
              · refine OwA.snoc (o6.mono (Same.refl _) k fun a ha x e => ?_) (owA_mono ow sG6 fun a ha x e => ?_)
                · rw [upd_ne (fun z : a = D0 => fF a ha (z ▸ hD0F))]; exact e
                · rw [upd_ne (hD0 a ha), keep a (by rw [← hF]; exact List.mem_cons_of_mem _ ha)]; exact e
              · rw [List.flatten_append, List.flatten_cons, List.flatten_nil, List.append_nil, ← List.cons_append, hF]
                exact List.nodup_append.mpr ⟨nd, nf, fun a ha b hb e => fF b hb (e ▸ ha)⟩
              · rw [List.flatten_append, List.flatten_cons, List.flatten_nil, List.append_nil, ← List.cons_append, hF] at ha
                rcases List.mem_append.mp ha with ha | ha
                · exact ⟨fun j z => (f7 a ha).1 j (hsub _ _ _ _ z), (f7 a ha).2.1, (fr a ha).2.2⟩
                · have z : (if a ∈ F then H' a else B1.R a) = none := (ff a ha).2.2.1
                  rw [if_neg (fF a ha)] at z
                  exact ⟨fun j z => (ff a ha).1 j (hsub _ _ _ _ z), (ff a ha).2.1, z, (ff a ha).2.2.2⟩
              · rw [List.length_append]; simp; omega
              · rw [← hys]; simp
          · rw [if_neg (show ¬ (k = 0 ∨ (d5, k5).2 = k) from hk)] at hcl; cases hcl
  · rintro H ⟨⟨ρ2, G2, fp2, acc, ys, fs, rest, s2, r2, hD, ow, nd, fr, hl, hcl, hys⟩⟩
    rw [List.drop_of_length_le (Nat.le_refl _)] at hcl
    cases hcl
    rw [List.append_nil] at hys
    subst hys
    subst hB1
    refine q _ _ G2 _ (D0 :: fs.flatten) (s1.trans s2) (r1.unhide vs r2 s2 fun i hi => .inr (wipe_gt hi)) ⟨⟨D0, fs, rfl, rfl, .inl ⟨acc, ys, hD, ?_, rfl, ow⟩⟩, nd, fun i a ha => ?_, fun a ha => ?_⟩
    · have := wk.z; omega
    · have z : (if a ∈ vs.flatMap fp1 then H1 a else B.R a) = none := (fr a ha).2.2.1
      by_cases c : i ∈ vs
      · simp only [c, if_true]
        intro hb
        have hm : a ∈ vs.flatMap fp1 := List.mem_flatMap.mpr ⟨i, c, hb⟩
        rw [if_pos hm] at z
        exact (r1.sl i).there a hb z
      · simp only [c, if_false]
        exact (fr a ha).1 i
    · have z : (if a ∈ vs.flatMap fp1 then H1 a else B.R a) = none := (fr a ha).2.2.1
      refine ⟨(fr a ha).2.1, ?_, (fr a ha).2.2.2⟩
      by_cases hm : a ∈ vs.flatMap fp1
      · rw [if_pos hm] at z
        obtain ⟨j, hj, hb⟩ := List.mem_flatMap.mp hm
        exact absurd z ((r1.sl j).there a hb)
      · rw [if_neg hm] at z; exact z
theorem se_comp {k : Nat} {vs tv : List Nat} {tgE iter elt : Expr} {ifs : List Expr} {scope : Scope} {own : List (Str × Nat)} {pos : Pos} {mi : Ev → Option (List D × Ev)} {bind : D → Ev → Option Ev} {mt : Mt} {me : Me}
    (hc : X.calm = true) (hN : X.N.Nodup) (hi : PI X tgE iter (tI X.K n mi)) (ok : BlkOk X.N X.env.scope scope own) (hov : own.map (·.2) = vs) (htv : ∀ j ∈ tv, j ∈ vs)
    (hg : ∀ (s : Shared) (H : Hp) (C : Addr) (cl : List (Str × Addr)) (fp : List Addr), PG (X.blk s H scope (compEnvC scope cl C X.env) fp) tgE (tG X.K n tv bind))
    (ht : ∀ (s : Shared) (H : Hp) (C : Addr) (cl : List (Str × Addr)) (fp : List Addr), PTs (X.blk s H scope (compEnvC scope cl C X.env) fp) ifs (tT X.K n mt))
    (he : ∀ (s : Shared) (H : Hp) (C : Addr) (cl : List (Str × Addr)) (fp : List Addr), PE (X.blk s H scope (compEnvC scope cl C X.env) fp) elt (tE X.K n me)) (hs : ∀ x, foldedSetIterable iter X.env x = pure x) :
    PE X (.ListComp elt [⟨tgE, iter, ifs, 0⟩] scope pos) (tE X.K n (mComp k vs mi bind mt me)) := by
  subst hov
  exact (pe_lc hc hN hi ok hg ht he hs).diw fun σ H Q h => comp_wp htv h
/-- name = [..], stored within the block's frame -/
theorem ss_setLc {i k : Nat} {y : Str} {py : Pos} {vs tv : List Nat} {tgE iter elt : Expr} {ifs : List Expr} {scope : Scope} {own : List (Str × Nat)} {pos spos : Pos} {mi : Ev → Option (List D × Ev)} {bind : D → Ev → Option Ev} {mt : Mt} {me : Me}
    (hc : X.calm = true) (hN : X.N.Nodup) (hy : X.N[i]? = some y) (hyl : X.env.scope.names.lookup y = some .local) (hsw : swapsWith (.ListComp elt [⟨tgE, iter, ifs, 0⟩] scope pos) (some (.Name y py)) spos.line X.env = pure true)
    (hi : PI X tgE iter (tI X.K n mi)) (ok : BlkOk X.N X.env.scope scope own) (hov : own.map (·.2) = vs) (htv : ∀ j ∈ tv, j ∈ vs)
    (hg : ∀ (s : Shared) (H : Hp) (C : Addr) (cl : List (Str × Addr)) (fp : List Addr), PG (X.blk s H scope (compEnvC scope cl C X.env) fp) tgE (tG X.K n tv bind))
    (ht : ∀ (s : Shared) (H : Hp) (C : Addr) (cl : List (Str × Addr)) (fp : List Addr), PTs (X.blk s H scope (compEnvC scope cl C X.env) fp) ifs (tT X.K n mt))
    (he : ∀ (s : Shared) (H : Hp) (C : Addr) (cl : List (Str × Addr)) (fp : List Addr), PE (X.blk s H scope (compEnvC scope cl C X.env) fp) elt (tE X.K n me)) (hs : ∀ x, foldedSetIterable iter X.env x = pure x) :
    PS X (.Assign [.Name y py] (.ListComp elt [⟨tgE, iter, ifs, 0⟩] scope pos) spos) (tAsg (tE X.K n (mComp k vs mi bind mt me)) (gName i)) := by
  subst hov
  exact (ps_setLc hc hN hy hyl hsw hi ok hg ht he hs).diw fun D σ H h => comp_wp htv h
end
end DI

/-! DI7: statements. -/
namespace DI
open PySem PySem.Spec PyProof.Rows L2 RZ
/-! ### a, b = x, y -/
def swNames (sc : Scope) (line : Nat) : List Expr → List Str
  | [] => []
  | .Name id pos :: r => if sc.names.lookup id == some .local && pos.line == line then id :: swNames sc line r else swNames sc line r
  | _ :: r => swNames sc line r
theorem swNames_eq {sc : Scope} {env : Env} (h : env.scope = sc) (line : Nat) : ∀ ts : List Expr, (ts.filterMap fun
    | .Name id pos => if env.kindOf id == some .local && pos.line == line then some id else none
    | _ => none) = swNames sc line ts
  | [] => rfl
  | t :: r => by
    have ih := swNames_eq h line r
    subst h
    cases t with
    | Name id pos =>
      have hk : env.kindOf id = env.scope.names.lookup id := rfl
      unfold swNames
      rw [← hk]
      by_cases c : (env.kindOf id == some NameKind.local && pos.line == line) = true
      · rw [if_pos c, ← ih, List.filterMap_cons_some]
        exact if_pos c
      · rw [if_neg c, ← ih, List.filterMap_cons_none]
        exact if_neg c
    | _ => rw [List.filterMap_cons]; exact ih
theorem sw_some {env : Env} {sc : Scope} {ts vs : List Expr} {k k2 : Nat} {p p2 : Pos} {names : List Str} (h : env.scope = sc) (hk : sc.kind = .function) (hl : ts.length = 2 ∨ ts.length = 3) (hv : vs.length = ts.length) (hs : vs.any isStar = false)
    (hn : swNames sc ((ts.head?.map (·.pos.line)).getD 0) ts = names) (h1 : names.length = ts.length) (h2 : names.eraseDups.length = names.length) (h3 : vs.all (foldedForSure 8) = false) (h4 : vs.all (constantsAlone 8) = false) :
    swappedStores [.Tuple ts k p] (.Tuple vs k2 p2) env = pure (some names) := by
  have e1 : (!(ts.length == 2 || ts.length == 3) || vs.length != ts.length || env.blockKind != .function) = false := by
    have : env.blockKind = .function := by unfold Env.blockKind; rw [h, hk]; rfl
    rw [this, hv]
    rcases hl with e | e <;> rw [e] <;> rfl
  have e2 : (vs.any fun | .Starred .. => true | _ => false) = false := by
    refine Eq.trans ?_ hs
    congr 1
  have e3 := swNames_eq h ((ts.head?.map (·.pos.line)).getD 0) ts
  rw [hn] at e3
  have e4 : (names.length != ts.length || names.eraseDups.length != names.length) = false := by
    have h5 : names.eraseDups.length = ts.length := h2.trans h1
    simp [h1, h5]
  unfold swappedStores
  refine (if_neg (by rw [e1]; decide)).trans ?_
  refine (if_neg (fun z => Bool.noConfusion (e2.symm.trans z))).trans ?_
  have e5 : ∀ l : List Str, l = names → (if (l.length != ts.length || l.eraseDups.length != l.length) = true then pure none
      else if vs.all (foldedForSure 8) = true then pure none
        else if vs.all (constantsAlone 8) = true then (do
            unsupported "assign.tuple-of-constant-expressions:order-of-the-stores"
            pure (some l)) else pure (some l) : Sem (Option (List Str))) = pure (some names) := by
    intro l hl
    subst hl
    rw [e4, h3, h4]
    rfl
  exact e5 _ e3

/-! ### stores -/
section
variable {K : PySem.W.Frag} {G G' : Hp} {B : Bd} {σ σ' : L2.St} {H H' : Hp} {ρ ρ' : Ev} {fp : Nat → List Addr}
theorem RpK.put {K : PySem.W.Frag} {G : Hp} {k : L2.Key} {v : V} {d : D} (p : Rp K G v d) {kvs : List (L2.Key × V)} {ds : List (D × D)} (a : RpK K G kvs ds) : RpK K G (putK kvs k v) (dput (keyD k) d ds) := by
  have h1 : ∀ {kvs : List (L2.Key × V)} {ds : List (D × D)}, RpK K G kvs ds → (ds.any fun p => PyData.eqv p.1 (keyD k)) = kvs.any fun kv => decide (kv.1 = k) := by
    intro kvs ds a
    match a with
    | .nil => rfl
    | .cons (k := k') h t =>
      rw [List.any_cons, List.any_cons]
      have : ∀ {kvs : List (L2.Key × V)} {ds : List (D × D)}, RpK K G kvs ds → (ds.any fun p => PyData.eqv p.1 (keyD k)) = kvs.any fun kv => decide (kv.1 = k) := by
        intro kvs ds a
        induction ds generalizing kvs with
        | nil => cases a; rfl
        | cons q r ih =>
          cases a with
          | cons h t => rw [List.any_cons, List.any_cons, ih t, eqv_key]
      rw [this t, eqv_key]
  have h2 : ∀ {ds : List (D × D)} {kvs : List (L2.Key × V)}, RpK K G kvs ds → RpK K G (kvs.map fun kv => if kv.1 = k then (kv.1, v) else kv) (ds.map fun p => if PyData.eqv p.1 (keyD k) then (p.1, d) else p) := by
    intro ds
    induction ds with
    | nil => intro kvs a; cases a; exact .nil
    | cons q r ih =>
      intro kvs a
      cases a with
      | cons h t =>
        rename_i k' v' d' vs'
        rw [List.map_cons, List.map_cons]
        show RpK K G ((if k' = k then (k', v) else (k', v')) :: _) ((if PyData.eqv (keyD k') (keyD k) = true then (keyD k', d) else (keyD k', d')) :: _)
        rw [eqv_key]
        by_cases e : k' = k
        · rw [if_pos e, if_pos (decide_eq_true e)]; exact .cons p (ih t)
        · rw [if_neg e, if_neg (by simp [e])]; exact .cons h (ih t)
  have h3 : ∀ {ds : List (D × D)} {kvs : List (L2.Key × V)}, RpK K G kvs ds → RpK K G (kvs ++ [(k, v)]) (ds ++ [(keyD k, d)]) := by
    intro ds
    induction ds with
    | nil => intro kvs a; cases a; exact .cons p .nil
    | cons q r ih =>
      intro kvs a
      cases a with
      | cons h t => exact .cons h (ih t)
  unfold putK dput
  rw [h1 a]
  split
  · exact h2 a
  · exact h3 a
theorem RpT.put {K : PySem.W.Frag} {G : Hp} {k : List L2.Key} {v : V} {d : D} (p : Rp K G v d) {kvs : List (List L2.Key × V)} {ds : List (D × D)} (a : RpT K G kvs ds) : RpT K G (putK kvs k v) (dput (.tuple (k.map keyD)) d ds) := by
  have ek : ∀ k' : List L2.Key, PyData.eqv (.tuple (k'.map keyD)) (.tuple (k.map keyD)) = decide (k' = k) := fun k' => eqv_keys k' k
  have h1 : ∀ {ds : List (D × D)} {kvs : List (List L2.Key × V)}, RpT K G kvs ds → (ds.any fun p => PyData.eqv p.1 (.tuple (k.map keyD))) = kvs.any fun kv => decide (kv.1 = k) := by
    intro ds
    induction ds with
    | nil => intro kvs a; cases a; rfl
    | cons q r ih =>
      intro kvs a
      cases a with
      | cons h t => rw [List.any_cons, List.any_cons, ih t, ek]
  have h2 : ∀ {ds : List (D × D)} {kvs : List (List L2.Key × V)}, RpT K G kvs ds → RpT K G (kvs.map fun kv => if kv.1 = k then (kv.1, v) else kv) (ds.map fun p => if PyData.eqv p.1 (.tuple (k.map keyD)) then (p.1, d) else p) := by
    intro ds
    induction ds with
    | nil => intro kvs a; cases a; exact .nil
    | cons q r ih =>
      intro kvs a
      cases a with
      | cons h t =>
        rename_i k' v' d' vs'
        rw [List.map_cons, List.map_cons]
        show RpT K G ((if k' = k then (k', v) else (k', v')) :: _) ((if PyData.eqv (.tuple (k'.map keyD)) (.tuple (k.map keyD)) = true then (PyData.tuple (k'.map keyD), d) else (PyData.tuple (k'.map keyD), d')) :: _)
        rw [ek]
        by_cases e : k' = k
        · rw [if_pos e, if_pos (decide_eq_true e)]; exact .cons p (ih t)
        · rw [if_neg e, if_neg (by simp [e])]; exact .cons h (ih t)
  have h3 : ∀ {ds : List (D × D)} {kvs : List (List L2.Key × V)}, RpT K G kvs ds → RpT K G (kvs ++ [(k, v)]) (ds ++ [(.tuple (k.map keyD), d)]) := by
    intro ds
    induction ds with
    | nil => intro kvs a; cases a; exact .cons p .nil
    | cons q r ih =>
      intro kvs a
      cases a with
      | cons h t => exact .cons h (ih t)
  unfold putK dput
  rw [h1 a]
  split
  · exact h2 a
  · exact h3 a
def rSetA : TSet := fun o i v H Q => rSetL o i v H Q ∨ ∃ a H', o = .ref a ∧ DPut H a i v H' ∧ Q H'
theorem set_any {X : Cx} (hu : X.A.units + 1 < cLine) : PSet X rSetA := by
  intro pins s σ H o i v ov iv u Q I ro ri rv h
  rcases h with h | ⟨a, H', rfl, g, q⟩
  · exact set_list pins s σ H o i v ov iv u Q I ro ri rv h
  · obtain rfl : ov = Value.ref a := ro
    exact d_setItem hu I g ri rv fun s' I' => ⟨H', I', q⟩
theorem ixN_lt {n : Nat} {i : Int} {j : Nat} (h : ixN n i = some j) : j < n := (ixN_seq h).2.1
/-- a store into what is owned at one level -/
theorem Ow.put {a : Addr} {x y : V} {d i e d' : D} {f : List Addr} {Q : Hp → Prop} (sg : Same G H) (o : Ow K G H 1 (.ref a) d f) (hf : ∀ b ∈ f, G b = none) (p1 : Rp K G y i) (p2 : Rp K G x e) (h : stI d i e = some d')
    (q : ∀ o', Ow K G (upd H a o') 1 (.ref a) d' f → Q (upd H a o')) : rSetA (.ref a) y x H Q := by
  obtain ⟨a', fs, e1, rfl, hh⟩ := o
  cases e1
  have hGa : G a = none := hf a (by simp)
  rcases hh with ⟨vs, ds, h1, h2, rfl, h4⟩ | ⟨_, rfl, vs, ds, h1, h2, rfl, h4⟩ | ⟨_, rfl, vs, ds, h1, h2, rfl, h4⟩
  · cases p1 with
    | int k =>
      have h : (ixN ds.length k).map (fun j => PyData.list (ds.set j e)) = some d' := h
      cases hj : ixN ds.length k with
      | none => rw [hj] at h; cases h
      | some j =>
        rw [hj] at h
        cases h
        obtain ⟨r, hfl⟩ := owA0 h4
        refine .inl ⟨a, vs, k, j, rfl, rfl, h1, by rw [r.length]; exact hj, q _ ⟨a, (vs.set j x).map fun _ => [], rfl, by rw [hfl, flat_nil], .inl ⟨_, _, upd_same, by rw [List.length_set]; exact h2, rfl, rpA_ow0 (RpA.set p2 j r)⟩⟩⟩
    | _ => cases h
  · have h : dset (.dict ((.bool true, .none) :: ds)) i e = some d' := by cases i <;> exact h
    simp only [dset] at h
    obtain ⟨c, h⟩ : decide (ds.length < sizeLine) = true ∧ (toKey i).map (fun _ => PyData.dict ((.bool true, .none) :: dput i e ds)) = some d' := by
      by_cases c : decide (ds.length < sizeLine) = true
      · rw [if_pos c] at h; exact ⟨c, h⟩
      · rw [if_neg c] at h; cases h
    cases hk : toKey i with
    | none => rw [hk] at h; cases h
    | some κ =>
      rw [hk] at h
      cases h
      obtain rfl := toKey_D hk
      obtain rfl := kV_rp p1
      have c : vs.length < sizeLine := by rw [h4.len]; exact of_decide_eq_true c
      refine .inr ⟨a, _, rfl, DPut.k h1 c, q _ ⟨a, [], rfl, rfl, .inr (.inl ⟨rfl, rfl, _, _, upd_same, ?_, rfl, h4.put p2⟩)⟩⟩
      have := length_putK vs κ x
      omega
  · have h : dset (.dict ((.bool false, .none) :: ds)) i e = some d' := by cases i <;> exact h
    cases p1 with
    | tup ht z2 a2 =>
      rename_i at' vs' ks _
      simp only [dset] at h
      obtain ⟨c, h⟩ : decide (ds.length < sizeLine) = true ∧ (toKeys ks).map (fun _ => PyData.dict ((.bool false, .none) :: dput (.tuple ks) e ds)) = some d' := by
        by_cases c : decide (ds.length < sizeLine) = true
        · rw [if_pos c] at h; exact ⟨c, h⟩
        · rw [if_neg c] at h; cases h
      cases hk : toKeys ks with
      | none => rw [hk] at h; cases h
      | some κ =>
        rw [hk] at h
        cases h
        obtain rfl := toKeys_D hk
        obtain rfl := kVs_rp a2
        have c : vs.length < sizeLine := by rw [h4.len]; exact of_decide_eq_true c
        refine .inr ⟨a, _, rfl, DPut.t h1 (sg _ _ ht) c, q _ ⟨a, [], rfl, rfl, .inr (.inr ⟨rfl, rfl, _, _, upd_same, ?_, rfl, h4.put p2⟩)⟩⟩
        have := length_putK vs κ x
        omega
    | _ => cases h
/-- where the thing owned at one level stands -/
theorem ow1_at {s : Nat} {d : D} (r : Rel K B σ H ρ G fp) (h : ow1 s ρ = some d) : ∃ a, σ[s]? = some (some (.ref a)) ∧ fp s = [a] ∧ Ow K G H 1 (.ref a) d [a] := by
  have w := r.sl s
  unfold ow1 at h
  cases hg : gt ρ s with
  | un => rw [hg] at h; cases h
  | io d' =>
    rw [hg] at h w
    cases h
    obtain ⟨a, e, _, e3, o⟩ := w
    exact ⟨a, e, e3, o⟩
  | sl k d' =>
    rw [hg] at h w
    match k, h with
    | 1, h =>
      cases h
      obtain ⟨v, e, o, _⟩ := w
      obtain ⟨a, fs, rfl, hf, hh⟩ := id o
      have hnil : fs.flatten = [] := by
        rcases hh with ⟨vs, ds, h1, h2, rfl, h4⟩ | ⟨_, e, _⟩ | ⟨_, e, _⟩
        · exact (owA0 h4).2
        · rw [e]; rfl
        · rw [e]; rfl
      rw [hnil] at hf
      exact ⟨a, e, hf, hf ▸ o⟩
theorem Rel.up1 {s : Nat} {a : Addr} {d d' : D} {o' : HO} (r : Rel K B σ H ρ G fp) (h : ow1 s ρ = some d) (hσ : σ[s]? = some (some (.ref a))) (hfp : fp s = [a]) (ow : Ow K G (upd H a o') 1 (.ref a) d' [a]) :
    Rel K B σ (upd H a o') (DI.up1 s d' ρ) G fp := by
  have hmem : a ∈ fp s := by rw [hfp]; simp
  have notin : ∀ i, i ≠ s → a ∉ fp i := fun i hi z => r.dj s i (Ne.symm hi) a hmem z
  have hl : (DI.up1 s d' ρ).length = ρ.length := by unfold DI.up1; split <;> rw [st_length]
  have hi : s < ρ.length := gt_lt (by intro z; unfold ow1 at h; rw [z] at h; cases h)
  have hne : ∀ i, i ≠ s → gt (DI.up1 s d' ρ) i = gt ρ i := fun i hi => by unfold DI.up1; split <;> rw [gt_st_ne hi]
  refine ⟨r.len, hl.trans r.lenR, fun i => ?_, r.nd, r.dj, r.own, fun b x e => ?_, fun b x e => ?_, r.fr, r.g0, fun b hb => ?_⟩
  · by_cases his : i = s
    · subst his
      have w := r.sl i
      unfold ow1 at h
      cases hg : gt ρ i with
      | un => rw [hg] at h; cases h
      | io d0 =>
        rw [hg] at w
        obtain ⟨a', e, e2, e3, _⟩ := w
        rw [hσ] at e; cases e
        have : gt (DI.up1 i d' ρ) i = .io d' := by unfold DI.up1; rw [hg]; exact gt_st_same hi
        rw [this]
        exact ⟨a, hσ, e2, hfp, ow⟩
      | sl k d0 =>
        rw [hg] at w h
        have : gt (DI.up1 i d' ρ) i = .sl 1 d' := by unfold DI.up1; rw [hg]; exact gt_st_same hi
        rw [this]
        obtain ⟨v, e, _, z⟩ := w
        exact ⟨_, hσ, hfp ▸ ow, z⟩
    · rw [hne i his]
      exact (r.sl i).mono (Same.refl G) fun b hb x e => by rw [upd_ne (fun z : b = a => notin i his (z ▸ hb))]; exact e
  · rw [upd_ne (fun z : b = a => by rw [z, (r.own s a hmem).1] at e; cases e)]; exact r.gh b x e
  · rw [upd_ne (fun z : b = a => by rw [z, (r.own s a hmem).2] at e; cases e)]; exact r.rh b x e
  · by_cases c : b = a
    · subst c; rw [upd_same]; simp
    · rw [upd_ne c]; exact r.hh b hb
end

section
variable {X : Cx} {n : Nat}
/-- what is wanted behind a statement -/
def SF (K : PySem.W.Frag) (B : Bd) (G : Hp) (D : Ends) : Out → Prop
  | .nx ρ' => ∀ σ' H' G' fp', Same G G' → Rel K B σ' H' ρ' G' fp' → D.nx σ' H'
  | .bk ρ' => ∀ σ' H' G' fp', Same G G' → Rel K B σ' H' ρ' G' fp' → D.bk σ' H'
  | .ct ρ' => ∀ σ' H' G' fp', Same G G' → Rel K B σ' H' ρ' G' fp' → D.ct σ' H'
  | .rt d k ρ' => ∀ v σ' H' G' fp' fv, Same G G' → Rel K B σ' H' ρ' G' fp' → OwN K B G' H' k v d fp' fv → D.rt v H'
theorem SF.mono {K : PySem.W.Frag} {B : Bd} {G G' : Hp} {D : Ends} {o : Out} (h : SF K B G D o) (s : Same G G') : SF K B G' D o := by
  cases o with
  | nx ρ => exact fun σ' H' G2 fp' s' => h σ' H' G2 fp' (s.trans s')
  | bk ρ => exact fun σ' H' G2 fp' s' => h σ' H' G2 fp' (s.trans s')
  | ct ρ => exact fun σ' H' G2 fp' s' => h σ' H' G2 fp' (s.trans s')
  | rt d k ρ => exact fun v σ' H' G2 fp' fv s' => h v σ' H' G2 fp' fv (s.trans s')
def tS (K : PySem.W.Frag) (n : Nat) (m : Ev → Option Out) : TS := fun D σ H => ∃ B ρ G fp, B.n = n ∧ Rel K B σ H ρ G fp ∧ ∃ o, m ρ = some o ∧ SF K B G D o
theorem ss_nil : PSs X [] (tS X.K n fun ρ => some (.nx ρ)) := pss_nil.diw fun D σ H h => by
  obtain ⟨B, ρ, G, fp, hn, r, o, hm, q⟩ := h
  cases hm
  exact q σ H G fp (Same.refl _) r
def sq (m : Ev → Option Out) (ms : Ev → Option Out) : Ev → Option Out := fun ρ => (m ρ).bind fun o => match o with
    | .nx ρ => ms ρ
    | o => some o
theorem ss_cons {s : Stmt} {ss : List Stmt} {m ms : Ev → Option Out} (h1 : PS X s (tS X.K n m)) (h2 : PSs X ss (tS X.K n ms)) : PSs X (s :: ss) (tS X.K n (sq m ms)) := by
  refine (pss_cons h1 h2).diw fun D σ H h => ?_
  obtain ⟨B, ρ, G, fp, hn, r, o, hm, q⟩ := h
  unfold sq at hm
  cases e : m ρ with
  | none => rw [e] at hm; cases hm
  | some o1 =>
    rw [e] at hm
    refine ⟨B, ρ, G, fp, hn, r, o1, e, ?_⟩
    cases o1 with
    | nx ρ1 => exact fun σ1 H1 G1 fp1 s1 r1 => ⟨B, ρ1, G1, fp1, hn, r1, o, hm, q.mono s1⟩
    | rt d k ρ1 => cases hm; exact q
    | bk ρ1 => cases hm; exact q
    | ct ρ1 => cases hm; exact q
theorem setable_n {ρ : Ev} {i : Nat} {K : PySem.W.Frag} : True := trivial
/-- x = e, whichever way it is stored -/
theorem ss_set {i : Nat} {keep : Bool} {m : Me} {s : Stmt} (hi : i < n) (h : PS X s (tAsg (tE X.K n m) (gName i))) : PS X s (tS X.K n fun ρ => mb (m ρ) (setS keep i)) := by
  refine h.diw fun D σ H h => ?_
  obtain ⟨B, ρ, G, fp, hn, r, o, hm, q⟩ := h
  obtain ⟨⟨d, k⟩, ρ1, h1, hm⟩ := mb_of hm
  unfold setS at hm
  obtain ⟨c, rfl⟩ := if_some hm
  refine ⟨B, ρ, G, fp, hn, r, d, k, ρ1, h1, fun v H1 G1 fp1 fv s1 r1 o => ?_⟩
  have hi' : i < B.n := by rw [hn]; exact hi
  cases keep with
  | true => exact q _ H1 G1 _ s1 (r1.set o hi')
  | false =>
    obtain ⟨G2, s2, r2, p⟩ := r1.freezeV o
    exact q _ H1 G2 _ (s1.trans s2) (r2.set (OwN.val p) hi')
theorem sw_no {e : Expr} {t : Option Expr} {l : Nat} {env : Env} (h : (match e with | .ListComp .. => true | .SetComp .. => true | .DictComp .. => true | _ => false) = false) : swapsWith e t l env = pure false := by
  cases e <;> first | rfl | cases h
def isCompE : Expr → Bool
  | .ListComp .. => true
  | .SetComp .. => true
  | .DictComp .. => true
  | _ => false
theorem sw_no' {e : Expr} {t : Option Expr} {l : Nat} {env : Env} (h : isCompE e = false) : swapsWith e t l env = pure false := by
  cases e <;> first | rfl | cases h
theorem ss_set1 {i : Nat} {x : Str} {e : Expr} {m : Me} {pos p : Pos} (hN : X.N.Nodup) (hi : X.N[i]? = some x) (hx : Loc X.env.scope x) (hf : X.fn x = true ∨ X.env.scope.names.lookup x = some .local) (he : PE X e (tE X.K n m)) (hc : isCompE e = false) :
    PS X (.Assign [.Name x p] e pos) (tAsg (tE X.K n m) (gName i)) := ps_set hN hi hx he (sw_no' hc) hf
/-- (a, b, ..) = e -/
def isTupE : Expr → Bool
  | .Tuple .. => true
  | _ => false
theorem sw_noT {e : Expr} {ts : List Expr} {k : Nat} {p : Pos} {env : Env} (h : isTupE e = false) : swappedStores [.Tuple ts k p] e env = pure none := by
  cases e <;> first | rfl | cases h
theorem sw_soleT {e : Expr} {ts : List Expr} {k l : Nat} {p : Pos} {env : Env} : swapsWithSole [.Tuple ts k p] e l env = pure false := by
  cases e <;> rfl
theorem ss_tset {ts : List Expr} {k : Nat} {p pos : Pos} {e : Expr} {m : Me} {vs : List Nat} {f : D → Ev → Option Ev} (hg : PG X (.Tuple ts k p) (tG X.K n vs f)) (he : PE X e (tE X.K n m)) (hw : swappedStores [.Tuple ts k p] e X.env = pure none) :
    PS X (.Assign [.Tuple ts k p] e pos) (tS X.K n fun ρ => mb (m ρ) fun x ρ => (f x.1 ρ).map .nx) := by
  refine (ps_asg he.div hg sw_soleT hw rfl).diw fun D σ H h => ?_
  obtain ⟨B, ρ, G, fp, hn, r, o, hm, q⟩ := h
  obtain ⟨⟨d, k⟩, ρ1, h1, hm⟩ := mb_of hm
  cases hb : f d ρ1 with
  | none => rw [hb] at hm; cases hm
  | some ρ2 =>
    rw [hb] at hm
    cases hm
    exact ⟨B, ρ, G, fp, hn, r, d, k, ρ1, h1, fun v H1 G1 fp1 s1 r1 p1 => ⟨B, ρ1, G1, fp1, d, ρ2, hn, r1, p1, hb, fun σ' fp' _ _ r' => q σ' H1 G1 fp' s1 r'⟩⟩
theorem ss_par {i j : Nat} {x y : Str} {a b : Expr} {ma mb' : Me} {px py pt pos : Pos} {kt k2 pt2} (hc : X.calm = true) (hnl : X.N.length = n) (hN : X.N.Nodup) (hi : X.N[i]? = some x) (hj : X.N[j]? = some y) (hij : i ≠ j)
    (hx : X.env.scope.names.lookup x = some .local) (hy : X.env.scope.names.lookup y = some .local) (ha : PE X a (tE X.K n ma)) (hb : PE X b (tE X.K n mb')) (hsa : isStar a = false) (hsb : isStar b = false)
    (hw : swappedStores [.Tuple [.Name x px, .Name y py] kt pt] (.Tuple [a, b] k2 pt2) X.env = pure (some [x, y])) :
    PS X (.Assign [.Tuple [.Name x px, .Name y py] kt pt] (.Tuple [a, b] k2 pt2) pos) (tS X.K n fun ρ => mb (ma ρ) fun x ρ => mb (mb' ρ) fun y ρ => if setable (gt ρ i) && setable (gt ρ j) then some (.nx (st (st ρ i (.sl 0 x.1)) j (.sl 0 y.1))) else none) := by
  refine (ps_par hc hN hi hj hij hx hy (pa_cons ha.div (pa_cons hb.div pa_nil (star_cons hsb)) (star_cons hsa)) hw).diw fun D σ H h => ?_
  obtain ⟨B, ρ, G, fp, hn, r, o, hm, q⟩ := h
  obtain ⟨x, ρ1, h1, hm⟩ := mb_of hm
  obtain ⟨y, ρ2, h2, hm⟩ := mb_of hm
  obtain ⟨c, rfl⟩ := if_some hm
  have hi' : i < B.n := by rw [hn, ← hnl]; exact (List.getElem?_eq_some_iff.mp hi).1
  have hj' : j < B.n := by rw [hn, ← hnl]; exact (List.getElem?_eq_some_iff.mp hj).1
  refine ⟨B, ρ, G, fp, hn, r, x.1, x.2, ρ1, h1, fun v H1 G1 fp1 s1 r1 p1 => ⟨B, ρ1, G1, fp1, hn, r1, y.1, y.2, ρ2, h2, fun u H2 G2 fp2 s2 r2 p2 => ⟨v, u, rfl, ?_⟩⟩⟩
  exact q _ H2 G2 _ (s1.trans s2) ((r2.set (OwN.val (p1.mono s2)) hi').set (OwN.val p2) hj')
/-- x op= e -/
def tipD (K : PySem.W.Frag) (f : D → D → Option D) : TIp := rD K f
theorem ss_aug {i : Nat} {x : Str} {e : Expr} {o : Op} {f : D → D → Option D} {m : Me} {pos p : Pos} (hnl : X.N.length = n) (hN : X.N.Nodup) (hi : X.N[i]? = some x) (hx : Loc X.env.scope x) (hf : X.fn x = true ∨ X.env.scope.names.lookup x = some .local) (he : PE X e (tE X.K n m))
    (hl : ∀ a b d, f a b = some d → lvD d = 0) (ho : PIp X (opP o) (rD X.K f)) :
    PS X (.AugAssign (.Name x p) (opP o) e pos) (tS X.K n fun ρ => (match gt ρ i with | .sl 0 d => some d | _ => none).bind fun d => mb (m ρ) fun y ρ => (f d y.1).map fun d => .nx (st ρ i (.sl 0 d))) := by
  refine (ps_aug hN hi hx he.div ho hf).diw fun D σ H h => ?_
  obtain ⟨B, ρ, G, fp, hn, r, oo, hm, q⟩ := h
  dsimp only at hm
  cases hg : gt ρ i with
  | un => rw [hg] at hm; cases hm
  | io d => rw [hg] at hm; cases hm
  | sl k d =>
    rw [hg] at hm
    match k, hm with
    | 0, hm =>
      obtain ⟨y, ρ1, h1, hm⟩ := mb_of (show mb (m ρ) _ = _ from hm)
      cases hd : f d y.1 with
      | none => rw [hd] at hm; cases hm
      | some d' =>
        rw [hd] at hm
        cases hm
        have w := r.sl i
        rw [hg] at w
        obtain ⟨v, hσ, ow, _⟩ := w
        have hi' : i < B.n := by rw [hn, ← hnl]; exact (List.getElem?_eq_some_iff.mp hi).1
        refine ⟨v, hσ, B, ρ, G, fp, hn, r, y.1, y.2, ρ1, h1, fun u H1 G1 fp1 s1 r1 p1 => ⟨G1, d, y.1, d', r1.gh, ow.1.mono s1, p1, hd, ?_⟩⟩
        have hl' := hl _ _ _ hd
        have F : Fin X.K B σ ρ1 G1 (lvD d') d' (fun z H2 => D.nx (σ.set i (some z)) H2) := by
          intro z H2 G2 fp2 fv s2 r2 o2
          rw [hl'] at o2
          exact q _ H2 G2 _ (s1.trans s2) (r2.set o2 hi')
        exact F.res (Same.refl _) r1
/-- x[i] = .. -/
def tG1 (K : PySem.W.Frag) (n s : Nat) (mi : Me) : TG := fun v σ H Q => ∃ B ρ G fp d ρ', B.n = n ∧ Rel K B σ H ρ G fp ∧ Rp K G v d ∧ set1 s mi d ρ = some ρ' ∧
  ∀ H' G' fp', Same G G' → Rel K B σ H' ρ' G' fp' → Q σ H'
/-- how a store into a subscript is asked -/
def SubA (env : Env) (o i : Expr) (p : Pos) : Prop := ∀ v, assign (.Subscript o i p) env v = (holding [v] (eval o env)) >>= fun a => (holding [v, a] (eval i env)) >>= fun b => standAt p >>= fun _ => holding [v, a, b] (setItem a b v) >>= fun _ => release [v, a, b] []
theorem sg_set1 {s : Nat} {x : Str} {i : Expr} {mi : Me} {p p2 : Pos} (hu : X.A.units + 1 < cLine) (hN : X.N[s]? = some x) (hv : Vis X.env.scope x) (hd : (x == ("__debug__" : Str)) = false) (hc : (x == ("__classdict__" : Str)) = false)
    (hi : PE X i (tE X.K n mi)) (ha : SubA X.env (.Name x p) i p2) : PG X (.Subscript (.Name x p) i p2) (tG1 X.K n s mi) := by
  refine (pg_sub (pe_var hN hv hd hc) hi.div (set_any hu) ha).diw fun v σ H Q h => ?_
  obtain ⟨B, ρ1, G1, fp1, d, ρ', hn, r1, p1, hm, q⟩ := h
  unfold set1 at hm
  cases e0 : ow1 s ρ1 with
  | none => rw [e0] at hm; cases hm
  | some d0 =>
    rw [e0] at hm
    obtain ⟨a, hσ, _, _⟩ := ow1_at r1 e0
    obtain ⟨y, ρ2, h2, hm⟩ := mb_of (show mb (mi ρ1) _ = _ from hm)
    cases e1 : ow1 s ρ2 with
    | none => rw [e1] at hm; cases hm
    | some d1 =>
      rw [e1] at hm
      cases e2 : stI d1 y.1 d with
      | none => simp [e2] at hm
      | some d2 =>
        have hm : some (DI.up1 s d2 ρ2) = some ρ' := by simpa [e2] using hm
        cases hm
        refine ⟨_, hσ, B, ρ1, G1, fp1, hn, r1, y.1, y.2, ρ2, h2, fun u H2 G2 fp2 s2 r2 p2 => ?_⟩
        obtain ⟨a', hσ', hfp, ow⟩ := ow1_at r2 e1
        rw [hσ] at hσ'
        cases hσ'
        exact ow.put r2.gh (fun b hb => (r2.own s b (by rw [hfp]; exact hb)).1) p2 (p1.mono s2) e2 fun o' ow' => q _ G2 fp2 s2 (r2.up1 e1 hσ hfp ow')
/-- x[i] = e -/
theorem ss_ixset {s : Nat} {tg e : Expr} {mi me : Me} {pos : Pos} (hg : PG X tg (tG1 X.K n s mi)) (he : PE X e (tE X.K n me))
    (hsw : swapsWithSole [tg] e pos.line X.env = pure false) (hww : swappedStores [tg] e X.env = pure none) (h1 : (assignEach [tg] X.env).map (·.2) = [assign tg X.env]) :
    PS X (.Assign [tg] e pos) (tS X.K n fun ρ => mb (me ρ) fun x ρ => (set1 s mi x.1 ρ).map .nx) := by
  refine (ps_asg he.div hg hsw hww h1).diw fun D σ H h => ?_
  obtain ⟨B, ρ, G, fp, hn, r, oo, hm, q⟩ := h
  obtain ⟨x1, ρ1, h1, hm⟩ := mb_of hm
  refine ⟨B, ρ, G, fp, hn, r, x1.1, x1.2, ρ1, h1, fun v H1 G1 fp1 s1 r1 p1 => ?_⟩
  cases e0 : set1 s mi x1.1 ρ1 with
  | none => rw [e0] at hm; cases hm
  | some ρ2 =>
    rw [e0] at hm
    cases hm
    exact ⟨B, ρ1, G1, fp1, x1.1, ρ2, hn, r1, p1, e0, fun H' G' fp' s2 r2 => q σ H' G' fp' (s1.trans s2) r2⟩
/-- x[i], y[j] = e -/
theorem ss_pst {s s' : Nat} {o1 i1 o2 i2 e : Expr} {k : Nat} {mi mi' me : Me} {pos p p1 p2 : Pos} (hc : X.calm = true) (hg : PG X (.Subscript o1 i1 p1) (tG1 X.K n s mi)) (hg2 : PG X (.Subscript o2 i2 p2) (tG1 X.K n s' mi')) (he : PE X e (tE X.K n me))
    (hww : swappedStores [.Tuple [.Subscript o1 i1 p1, .Subscript o2 i2 p2] k p] e X.env = pure none) :
    PS X (.Assign [.Tuple [.Subscript o1 i1 p1, .Subscript o2 i2 p2] k p] e pos) (tS X.K n fun ρ => mb (me ρ) fun x ρ => match x.1 with
    | .tuple [a, b] => (set1 s mi a ρ).bind fun ρ => (set1 s' mi' b ρ).map .nx
    | _ => none) := by
  refine (ps_asg he.div (pg_tup hc (pgs_cons hg (pgs_cons hg2 pgs_nil))) sw_soleT hww rfl).diw fun D σ H h => ?_
  obtain ⟨B, ρ, G, fp, hn, r, oo, hm, q⟩ := h
  obtain ⟨x1, ρ1, h1, hm⟩ := mb_of hm
  refine ⟨B, ρ, G, fp, hn, r, x1.1, x1.2, ρ1, h1, fun v H1 G1 fp1 s1 r1 p1 => ?_⟩
  split at hm
  · rename_i a b hx
    rw [hx] at p1
    cases e0 : set1 s mi a ρ1 with
    | none => rw [e0] at hm; cases hm
    | some ρ2 =>
      rw [e0] at hm
      cases e1 : set1 s' mi' b ρ2 with
      | none => simp [e1] at hm
      | some ρ3 =>
        have hm : some (Out.nx ρ3) = some oo := by simpa [e1] using hm
        cases hm
        cases p1 with
        | tup h2 z2 a2 =>
          cases a2 with
          | cons pa t => cases t with
            | cons pb t =>
              cases t
              exact ⟨_, _, rfl, SqT.of (r1.gh _ _ h2), rfl, _, _, rfl, B, ρ1, G1, fp1, a, ρ2, hn, r1, pa, e0, fun H2 G2 fp2 s2 r2 =>
                ⟨_, _, rfl, B, ρ2, G2, fp2, b, ρ3, hn, r2, pb.mono s2, e1, fun H3 G3 fp3 s3 r3 => ⟨rfl, q σ H3 G3 fp3 ((s1.trans s2).trans s3) r3⟩⟩⟩
  · cases hm
/-- x.append(e) -/
theorem ss_app {s : Nat} {x : Str} {e : Expr} {me : Me} {pos p p2 p3 : Pos} (hN : X.N[s]? = some x) (hv : Vis X.env.scope x) (hd : (x == ("__debug__" : Str)) = false) (hc : (x == ("__classdict__" : Str)) = false)
    (he : PE X e (tE X.K n me)) (hs : isStar e = false) (hline : (p2.endLine == p3.line) = true) :
    PS X (.Expr (.Call (.Attribute (.Name x p) "append" p2) [e] [] p3) pos) (tS X.K n fun ρ => (ow1 s ρ).bind fun d0 => if isL d0 then mb (me ρ) fun x ρ => (ow1 s ρ).bind fun d => ((appD x.1 d).map fun d => .nx (up1 s d ρ)) else none) := by
  refine (ps_expr (pe_bm PySem.F.plainAttrs_list PySem.F.slot_list_append PySem.F.type_list_append mt_append (pe_var hN hv hd hc) (pa_cons he.div pa_nil (star_cons hs)) rfl (by rw [star_cons hs]; rfl) hline (star_cons hs) rfl)).diw fun D σ H h => ?_
  obtain ⟨B, ρ, G, fp, hn, r, oo, hm, q⟩ := h
  dsimp only at hm
  cases e0 : ow1 s ρ with
  | none => rw [e0] at hm; cases hm
  | some d0 =>
    rw [e0] at hm
    obtain ⟨a, hσ, hfp0, ow0⟩ := ow1_at r e0
    cases d0 with
    | list ds0 =>
     obtain ⟨x1, ρ1, h1, hm⟩ := mb_of (show mb (me ρ) _ = _ from hm)
     have ty : tyV X.K "list" (.ref a) H := by
       obtain ⟨a2, fs, ea, hfs, hh⟩ := id ow0
       cases ea
       rcases hh with ⟨vs, ds', g1, g2, g3, g4⟩ | ⟨_, _, _, _, _, _, g3, _⟩ | ⟨_, _, _, _, _, _, g3, _⟩
       · exact Or.inl ⟨rfl, _, Or.inl (Or.inl g1)⟩
       · cases g3
       · cases g3
     cases e1 : ow1 s ρ1 with
     | none => rw [e1] at hm; cases hm
     | some d1 =>
       rw [e1] at hm
       cases e2 : appD x1.1 d1 with
       | none => simp [e2] at hm
       | some d2 =>
         have hm : some (Out.nx (DI.up1 s d2 ρ1)) = some oo := by simpa [e2] using hm
         cases hm
         cases d1 with
         | list ds =>
           refine ⟨_, hσ, ty, B, ρ, G, fp, hn, r, x1.1, x1.2, ρ1, h1, fun v H1 G1 fp1 s1 r1 p1 => ?_⟩
           obtain ⟨a', hσ', hfp, ow⟩ := ow1_at r1 e1
           rw [hσ] at hσ'
           cases hσ'
           obtain ⟨a2, fs, ea, hfs, hh⟩ := id ow
           cases ea
           have hfl : fs.flatten = [] := by simpa using hfs.symm
           rcases hh with ⟨vs, ds', g1, g2, g3, g4⟩ | ⟨_, _, _, _, _, _, g3, _⟩ | ⟨_, _, _, _, _, _, g3, _⟩
           · cases g3
             obtain ⟨c, hd2⟩ := if_some (show (if decide (ds.length < sizeLine) then some (PyData.list (ds ++ [x1.1])) else none) = some d2 from e2)
             subst hd2
             obtain ⟨rp, _⟩ := owA0 g4
             have c : vs.length < sizeLine := by rw [rp.length]; exact of_decide_eq_true c
             refine ⟨a, vs, v, rfl, rfl, g1, c, ?_⟩
             refine q _ _ G1 fp1 s1 (r1.up1 e1 hσ hfp ⟨a, (vs ++ [v]).map fun _ => [], rfl, by rw [flat_nil], .inl ⟨vs ++ [v], ds ++ [x1.1], upd_same, by rw [List.length_append]; exact c, rfl, rpA_ow0 (rp.append (.cons p1 .nil))⟩⟩)
           · cases g3
           · cases g3
         | _ => cases e2
    | _ => cases hm
theorem ss_expr {e : Expr} {m : Me} {pos : Pos} (he : PE X e (tE X.K n m)) (hc : isCompE e = false) : PS X (.Expr e pos) (tS X.K n fun ρ => mb (m ρ) fun _ ρ => some (.nx ρ)) := by
  refine (ps_expr he.div (sw_no' hc)).diw fun D σ H h => ?_
  obtain ⟨B, ρ, G, fp, hn, r, oo, hm, q⟩ := h
  obtain ⟨x1, ρ1, h1, hm⟩ := mb_of hm
  cases hm
  exact ⟨B, ρ, G, fp, hn, r, x1.1, x1.2, ρ1, h1, fun v H1 G1 fp1 s1 r1 p1 => q σ H1 G1 fp1 s1 r1⟩
theorem ss_ret {e : Expr} {keep : Bool} {m : Me} {pos : Pos} (he : PE X e (tE X.K n m)) : PS X (.Return (some e) pos) (tS X.K n fun ρ => mb (m ρ) fun x ρ => some (.rt x.1 (if keep then x.2 else 0) ρ)) := by
  refine (ps_ret he).diw fun D σ H h => ?_
  obtain ⟨B, ρ, G, fp, hn, r, oo, hm, q⟩ := h
  obtain ⟨x1, ρ1, h1, hm⟩ := mb_of hm
  cases hm
  refine ⟨B, ρ, G, fp, hn, r, x1.1, x1.2, ρ1, h1, fun v H1 G1 fp1 fv s1 r1 o => ?_⟩
  cases keep with
  | true => exact q v σ H1 G1 fp1 fv s1 r1 o
  | false =>
    obtain ⟨G2, s2, r2, p⟩ := r1.freezeV o
    exact q v σ H1 G2 fp1 [] (s1.trans s2) r2 (OwN.val p)
theorem ss_retN {pos : Pos} : PS X (.Return none pos) (tS X.K n fun ρ => some (.rt .none 0 ρ)) := by
  refine ps_retN.diw fun D σ H h => ?_
  obtain ⟨B, ρ, G, fp, hn, r, oo, hm, q⟩ := h
  cases hm
  exact q .non σ H G fp [] (Same.refl _) r (OwN.val .non)
theorem ss_ite {c : Expr} {a b : List Stmt} {mt : Mt} {ma mb' : Ev → Option Out} {pos : Pos} (hc : PT X c (tT X.K n mt)) (ha : PSs X a (tS X.K n ma)) (hb : PSs X b (tS X.K n mb')) :
    PS X (.If c a b pos) (tS X.K n fun ρ => mb (mt ρ) fun c ρ => if c then ma ρ else mb' ρ) := by
  refine (ps_if hc ha hb).diw fun D σ H h => ?_
  obtain ⟨B, ρ, G, fp, hn, r, oo, hm, q⟩ := h
  obtain ⟨x, ρ1, h1, hm⟩ := mb_of hm
  refine ⟨B, ρ, G, fp, hn, r, x, ρ1, h1, fun H1 G1 fp1 s1 r1 => ?_⟩
  cases x with
  | false => exact iteF ⟨B, ρ1, G1, fp1, hn, r1, oo, hm, q.mono s1⟩
  | true => exact iteT ⟨B, ρ1, G1, fp1, hn, r1, oo, hm, q.mono s1⟩
theorem ss_brk {pos : Pos} : PS X (.Break pos) (tS X.K n fun ρ => some (.bk ρ)) := ps_break.diw fun D σ H h => by
  obtain ⟨B, ρ, G, fp, hn, r, oo, hm, q⟩ := h
  cases hm
  exact q σ H G fp (Same.refl _) r
theorem ss_cont {pos : Pos} : PS X (.Continue pos) (tS X.K n fun ρ => some (.ct ρ)) := ps_continue.diw fun D σ H h => by
  obtain ⟨B, ρ, G, fp, hn, r, oo, hm, q⟩ := h
  cases hm
  exact q σ H G fp (Same.refl _) r
theorem ss_pass {pos : Pos} : PS X (.Pass pos) (tS X.K n fun ρ => some (.nx ρ)) := ps_pass.diw fun D σ H h => by
  obtain ⟨B, ρ, G, fp, hn, r, oo, hm, q⟩ := h
  cases hm
  exact q σ H G fp (Same.refl _) r
theorem ss_never {s : Stmt} : PS X s (tS X.K n fun _ => none) := ps_never.diw fun D σ H h => by
  obtain ⟨B, ρ, G, fp, hn, r, oo, hm, q⟩ := h
  cases hm
theorem Rel.kill {K : PySem.W.Frag} {B : Bd} {σ : L2.St} {H G : Hp} {ρ : Ev} {fp : Nat → List Addr} (r : Rel K B σ H ρ G fp) (vs : List Nat) : ∃ fp', Rel K B σ H (wp ρ vs) G fp' :=
  ⟨_, r.sub r.len (by rw [wp_length]; exact r.lenR) fun i => by
    rw [wp_gt]
    by_cases c : i ∈ vs
    · simp [c]
    · simp [c]⟩
theorem ss_for {kill tv : List Nat} {tgE iter : Expr} {body : List Stmt} {mi : Ev → Option (List D × Ev)} {bind : D → Ev → Option Ev} {mbd : Ev → Option Out} {pos : Pos} (hp : PassesOwn (model X.prog X.w) X.A X.env X.xe) (hc : X.calm = true)
    (hi : PI X tgE iter (tI X.K n mi)) (hg : PG X tgE (tG X.K n tv bind)) (hb : PSs X body (tS X.K n mbd)) (hs : ∀ x, foldedSetIterable iter X.env x = pure x) :
    PS X (.For tgE iter body [] pos) (tS X.K n fun ρ => mb (mi ρ) fun xs ρ => forL kill bind mbd xs (wp ρ kill)) := by
  refine (ps_for hp hc hi hg hb hs).diw fun D σ H h => ?_
  obtain ⟨B, ρ, G, fp, hn, r, oo, hm, q⟩ := h
  obtain ⟨ds, ρ1, h1, hm⟩ := mb_of hm
  refine ⟨B, ρ, G, fp, hn, r, ds, ρ1, h1, fun J H1 G1 fp1 s1 r1 wk => ?_⟩
  refine for_it wk.w (fun i σ2 H2 => ∃ ρ2 G2 fp2, Same G1 G2 ∧ Rel X.K B σ2 H2 ρ2 G2 fp2 ∧ forL kill bind mbd (ds.drop i) ρ2 = some oo) ?_ ?_ ?_ ?_
  · obtain ⟨fp', r'⟩ := r1.kill kill
    exact ⟨_, G1, fp', Same.refl _, r', hm⟩
  · rintro i σ2 H2 hi ⟨ρ2, G2, fp2, s2, r2, e2⟩
    exact s2.trans r2.gh
  · rintro i x σ2 H2 H3 hi ⟨ρ2, G2, fp2, s2, r2, e2⟩ hY
    have hd : ds[i]? = some ds[i] := List.getElem?_eq_getElem hi
    rw [List.drop_eq_getElem_cons hi] at e2
    generalize ds[i] = d at hd e2
    unfold forL at e2
    cases hb : bind d ρ2 with
    | none => rw [hb] at e2; cases e2
    | some ρ3 =>
      rw [hb] at e2
      obtain ⟨G3, s3, r3, px⟩ : ∃ G3, Same G2 G3 ∧ Rel X.K B σ2 H3 ρ2 G3 fp2 ∧ Rp X.K G3 x d := by
        rcases hY with ⟨rfl, hp⟩ | ⟨T, a, b, rfl, hT, rfl, hp⟩
        · exact ⟨G2, Same.refl _, r2, (hp d hd).mono s2⟩
        · obtain ⟨e, f, rfl, p1, p2⟩ := hp d hd
          obtain ⟨s3, r3⟩ := r2.newF (o := .tup [a, b]) hT
          exact ⟨_, s3, r3, .tup upd_same (by show 2 ≤ sizeLine; decide) (.cons ((p1.mono s2).mono s3) (.cons ((p2.mono s2).mono s3) .nil))⟩
      refine ⟨B, ρ2, G3, fp2, d, ρ3, hn, r3, px, hb, fun σ4 fp4 _ _ r4 => ?_⟩
      have e2 : ((mbd ρ3).bind fun o => match o with
        | .nx ρ2 => forL kill bind mbd (ds.drop (i + 1)) (wp ρ2 kill)
        | .ct ρ2 => forL kill bind mbd (ds.drop (i + 1)) (wp ρ2 kill)
        | .bk ρ2 => some (.nx (wp ρ2 kill))
        | .rt d k ρ2 => some (.rt d k ρ2)) = some oo := e2
      cases hbd : mbd ρ3 with
      | none => rw [hbd] at e2; cases e2
      | some o =>
        rw [hbd] at e2
        refine ⟨B, ρ3, G3, fp4, hn, r4, o, hbd, ?_⟩
        have sg : Same G1 G3 := s2.trans s3
        cases o with
        | nx ρ5 =>
          intro σ5 H5 G5 fp5 s5 r5
          obtain ⟨fp', r'⟩ := r5.kill kill
          exact ⟨_, G5, fp', sg.trans s5, r', e2⟩
        | ct ρ5 =>
          intro σ5 H5 G5 fp5 s5 r5
          obtain ⟨fp', r'⟩ := r5.kill kill
          exact ⟨_, G5, fp', sg.trans s5, r', e2⟩
        | bk ρ5 =>
          cases e2
          intro σ5 H5 G5 fp5 s5 r5
          obtain ⟨fp', r'⟩ := r5.kill kill
          exact q σ5 H5 G5 fp' ((s1.trans sg).trans s5) r'
        | rt d k ρ5 =>
          cases e2
          intro v σ5 H5 G5 fp5 fv s5 r5 o5
          exact q v σ5 H5 G5 fp5 fv ((s1.trans sg).trans s5) r5 o5
  · rintro σ2 H2 ⟨ρ2, G2, fp2, s2, r2, e2⟩
    rw [List.drop_of_length_le (Nat.le_refl _)] at e2
    cases e2
    exact q σ2 H2 G2 fp2 (s1.trans s2) r2
theorem ss_while {fuel : Nat} {kill : List Nat} {c : Expr} {body : List Stmt} {mt : Mt} {mbd : Ev → Option Out} {pos : Pos} (hp : PassesOwn (model X.prog X.w) X.A X.env X.xe)
    (hc : PT X c (tT X.K n mt)) (hb : PSs X body (tS X.K n mbd)) :
    PS X (.While c body [] pos) (tS X.K n fun ρ => whileL kill mt mbd fuel (wp ρ kill)) := by
  refine (ps_while hp hc hb).diw fun D σ H h => ?_
  obtain ⟨B, ρ, G, fp, hn, r, oo, hm, q⟩ := h
  refine ⟨fun m σ2 H2 => ∃ ρ2 G2 fp2, Same G G2 ∧ Rel X.K B σ2 H2 ρ2 G2 fp2 ∧ whileL kill mt mbd m ρ2 = some oo, ⟨fuel, ?_⟩, ?_⟩
  · obtain ⟨fp', r'⟩ := r.kill kill
    exact ⟨_, G, fp', Same.refl _, r', hm⟩
  · rintro m σ2 H2 ⟨ρ2, G2, fp2, s2, r2, e2⟩
    cases m with
    | zero => cases e2
    | succ m =>
      unfold whileL at e2
      obtain ⟨b, ρ3, h3, e2⟩ := mb_of e2
      refine ⟨B, ρ2, G2, fp2, hn, r2, b, ρ3, h3, fun H4 G4 fp4 s4 r4 => ?_⟩
      have sg : Same G G4 := s2.trans s4
      cases b with
      | false =>
        have e2 : some (Out.nx ρ3) = some oo := e2
        cases e2
        exact iteF (q σ2 H4 G4 fp4 sg r4)
      | true =>
        have e2 : ((mbd ρ3).bind fun o => match o with
          | .nx ρ2 => whileL kill mt mbd m (wp ρ2 kill)
          | .ct ρ2 => whileL kill mt mbd m (wp ρ2 kill)
          | .bk ρ2 => some (.nx (wp ρ2 kill))
          | .rt d k ρ2 => some (.rt d k ρ2)) = some oo := e2
        refine iteT ⟨fun σ5 H5 => ∃ ρ5 G5 fp5, Same G G5 ∧ Rel X.K B σ5 H5 ρ5 G5 fp5 ∧ whileL kill mt mbd m ρ5 = some oo, fun σ5 H5 h => ⟨m, Nat.lt_succ_self _, h⟩, ?_⟩
        cases hbd : mbd ρ3 with
        | none => rw [hbd] at e2; cases e2
        | some o =>
          rw [hbd] at e2
          refine ⟨B, ρ3, G4, fp4, hn, r4, o, hbd, ?_⟩
          cases o with
          | nx ρ5 =>
            intro σ5 H5 G5 fp5 s5 r5
            obtain ⟨fp', r'⟩ := r5.kill kill
            exact ⟨_, G5, fp', sg.trans s5, r', e2⟩
          | ct ρ5 =>
            intro σ5 H5 G5 fp5 s5 r5
            obtain ⟨fp', r'⟩ := r5.kill kill
            exact ⟨_, G5, fp', sg.trans s5, r', e2⟩
          | bk ρ5 =>
            cases e2
            intro σ5 H5 G5 fp5 s5 r5
            obtain ⟨fp', r'⟩ := r5.kill kill
            exact q σ5 H5 G5 fp' (sg.trans s5) r'
          | rt d k ρ5 =>
            cases e2
            intro v σ5 H5 G5 fp5 fv s5 r5 o5
            exact q v σ5 H5 G5 fp5 fv (sg.trans s5) r5 o5

/-! ### x[i][j] = e -/
def tG2 (K : PySem.W.Frag) (n s : Nat) (mi mj : Me) : TG := fun v σ H Q => ∃ B ρ G fp d ρ', B.n = n ∧ Rel K B σ H ρ G fp ∧ Rp K G v d ∧ set2 s mi mj d ρ = some ρ' ∧
  ∀ H' G' fp', Same G G' → Rel K B σ H' ρ' G' fp' → Q σ H'
theorem nodup_get {fs : List (List Addr)} (h : fs.flatten.Nodup) {i j : Nat} {f g : List Addr} (hi : fs[i]? = some f) (hj : fs[j]? = some g) (hij : i ≠ j) : ∀ a ∈ f, a ∉ g := by
  induction fs generalizing i j with
  | nil => simp at hi
  | cons x r ih =>
    rw [List.flatten_cons, List.nodup_append] at h
    obtain ⟨h1, h2, h3⟩ := h
    cases i with
    | zero =>
      cases j with
      | zero => exact absurd rfl hij
      | succ j =>
        simp at hi hj
        subst hi
        exact fun a ha hb => h3 a ha a (List.mem_flatten.mpr ⟨g, List.mem_of_getElem? hj, hb⟩) rfl
    | succ i =>
      cases j with
      | zero =>
        simp at hi hj
        subst hj
        exact fun a ha hb => h3 a hb a (List.mem_flatten.mpr ⟨f, List.mem_of_getElem? hi, ha⟩) rfl
      | succ j => exact ih h2 (by simpa using hi) (by simpa using hj) (fun e => hij (congrArg (· + 1) e))
theorem OwA.setd {P : V → D → List Addr → Prop} {d : D} : ∀ {vs : List V} {ds : List D} {fs : List (List Addr)} {j : Nat} {v : V} {f : List Addr}, OwA P vs ds fs → vs[j]? = some v → fs[j]? = some f → P v d f → OwA P vs (ds.set j d) fs
  | _, _, _, _, _, _, .nil, h, _, _ => by simp at h
  | _, _, _, 0, _, _, .cons h t, e1, e2, p => by simp at e1 e2; subst e1 e2; exact .cons p t
  | _, _, _, j + 1, _, _, .cons h t, e1, e2, p => .cons h (t.setd (by simpa using e1) (by simpa using e2) p)
theorem OwA.impI {P P' : V → D → List Addr → Prop} : ∀ {vs : List V} {ds : List D} {fs : List (List Addr)}, OwA P vs ds fs → (∀ (i : Nat) (v : V) (d : D) (f : List Addr), vs[i]? = some v → ds[i]? = some d → fs[i]? = some f → P v d f → P' v d f) → OwA P' vs ds fs
  | _, _, _, .nil, _ => .nil
  | _, _, _, .cons h t, g => .cons (g 0 _ _ _ rfl rfl rfl h) (t.impI fun i v d f h1 h2 h3 => g (i + 1) v d f (by simpa using h1) (by simpa using h2) (by simpa using h3))
theorem sg_set2 {s : Nat} {x : Str} {i j : Expr} {mi mj : Me} {p p2 p3 : Pos} (hu : X.A.units + 1 < cLine) (hN : X.N[s]? = some x) (hv : Vis X.env.scope x) (hd : (x == ("__debug__" : Str)) = false) (hc : (x == ("__classdict__" : Str)) = false)
    (hi : PE X i (tE X.K n mi)) (hj : PE X j (tE X.K n mj)) (hs : plainIx i = true)
    (ha : SubA X.env (.Subscript (.Name x p) i p2) j p3) : PG X (.Subscript (.Subscript (.Name x p) i p2) j p3) (tG2 X.K n s mi mj) := by
  refine (pg_sub (pe_ix (ix_any hu) (pe_var hN hv hd hc) hi.div (plainIx_ok hs)) hj.div (set_any hu) ha).diw fun v σ H Q h => ?_
  obtain ⟨B, ρ, G, fp, d, ρ', hn, r, px, hm, q⟩ := h
  unfold set2 at hm
  cases e0 : ow2 s ρ with
  | none => rw [e0] at hm; cases hm
  | some d0 =>
    rw [e0] at hm
    obtain ⟨v0, hσ, _, _⟩ := ow2_ok r e0
    obtain ⟨y, ρ1, h1, hm⟩ := mb_of (show mb (mi ρ) _ = _ from hm)
    cases e1 : ow2 s ρ1 with
    | none => rw [e1] at hm; cases hm
    | some d1 =>
      rw [e1] at hm
      cases e : ixD d1 y.1 with
      | none => simp [e] at hm
      | some d2 =>
        have hm : (mb (mj (wp ρ1 [s])) fun z ρ' => (stI2 d y.1 z.1 d1).map fun d => st (bk ρ1 [s] ρ') s (.sl 2 d)) = some ρ' := by simpa [e] using hm
        obtain ⟨z, ρ2, h2, hm⟩ := mb_of hm
        cases e3 : stI2 d y.1 z.1 d1 with
        | none => simp [e3] at hm
        | some d3 =>
          have hm : some (st (bk ρ1 [s] ρ2) s (.sl 2 d3)) = some ρ' := by simpa [e3] using hm
          cases hm
          refine ⟨v0, hσ, B, ρ, G, fp, hn, r, y.1, y.2, ρ1, h1, fun u H1 G1 fp1 s1 r1 p1 => ?_⟩
          obtain ⟨v', hσ', hg, o⟩ := ow2_ok r1 e1
          rw [hσ] at hσ'; cases hσ'
          refine o.item2 p1 e fun a vs ds fs j i w g ea ed ei hj haH hf oa ew ed2 eg og => ?_
          subst ea ed
          have rh := r1.hide [s] (σ' := σ) r1.len (fun _ _ => rfl)
          refine ⟨B.add ([s].flatMap fp1) H1, wp ρ1 [s], G1, _, hn, rh, z.1, z.2, ρ2, h2, fun u2 H2 G2 fp2 s2 r2 p2 => ?_⟩
          have kF : ∀ b ∈ fp1 s, ∀ o, H1 b = some o → H2 b = some o := fun b hb o eo => r2.rh b o (by
            show (if b ∈ [s].flatMap fp1 then H1 b else B.R b) = some o
            rw [flat1, if_pos hb]; exact eo)
          have ru := r1.unhide [s] r2 s2 fun i _ => .inr rfl
          -- the outer thing at the heap of now
          have oa2 : OwA (Ow X.K G2 H2 1) vs ds fs := owA_mono oa s2 fun b hb o eo => kF b (by rw [hf]; exact List.mem_cons_of_mem _ hb) o eo
          have og2 : Ow X.K G2 H2 1 w d2 g := og.mono s2 1 fun b hb o eo => kF b (by
            rw [hf]
            exact List.mem_cons_of_mem _ (List.mem_flatten.mpr ⟨g, List.mem_of_getElem? eg, hb⟩)) o eo
          have haH2 : H2 a = some (.lst vs) := kF a (by rw [hf]; simp) _ haH
          have ey : y.1 = .int i := by
            subst ei
            generalize y.1 = dd at p1
            cases p1
            rfl
          obtain ⟨d2', e5, e6⟩ : ∃ d2', stI d2 z.1 d = some d2' ∧ d3 = .list (ds.set j d2') := by
            unfold stI2 at e3
            rw [e] at e3
            cases e7 : stI d2 z.1 d with
            | none => simp [e7] at e3
            | some d2' =>
              have e3 : stI (.list ds) y.1 d2' = some d3 := by simpa [e7] using e3
              rw [ey] at e3
              have e3 : (ixN ds.length i).map (fun j => PyData.list (ds.set j d2')) = some d3 := e3
              rw [hj] at e3
              exact ⟨d2', rfl, (Option.some.inj e3).symm⟩
          subst e6
          obtain ⟨a1, hw, hg1⟩ : ∃ a1, w = .ref a1 ∧ g = [a1] := by
            obtain ⟨a1, fs1, e1, e2, hh⟩ := id og2
            refine ⟨a1, e1, ?_⟩
            rw [e2]
            rcases hh with ⟨_, _, _, _, _, h4⟩ | ⟨_, e, _⟩ | ⟨_, e, _⟩
            · rw [(owA0 h4).2]
            · rw [e]; rfl
            · rw [e]; rfl
          subst hw hg1
          have ndf : (a :: fs.flatten).Nodup := hf ▸ r1.nd s
          have ha1 : a1 ∈ fs.flatten := List.mem_flatten.mpr ⟨_, List.mem_of_getElem? eg, by simp⟩
          have hne : a ≠ a1 := fun e => (List.nodup_cons.mp ndf).1 (e ▸ ha1)
          have ha1s : a1 ∈ fp1 s := by rw [hf]; exact List.mem_cons_of_mem _ ha1
          have hG2 : ∀ b ∈ fp1 s, G2 b = none ∧ B.R b = none := fun b hb => by
            have := ru.own s b (by simp [hb])
            exact this
          refine og2.put r2.gh (fun b hb => by
            have e : b = a1 := by simpa using hb
            rw [e]; exact (hG2 a1 ha1s).1) p2 ((px.mono s1).mono s2) e5 fun o' ow' => ?_
          -- the slots behind the store
          have hi' : s < (bk ρ1 [s] ρ2).length := by rw [bk_length, r2.lenR]; show s < B.n; rw [← r1.lenR]; exact gt_lt (by rw [hg]; intro z; cases z)
          have hgs : gt (bk ρ1 [s] ρ2) s = .sl 2 (.list ds) := by rw [bk_gt (by rw [r2.lenR, r1.lenR]; rfl)]; simp [hg]
          have w0 := ru.sl s
          rw [hgs] at w0
          obtain ⟨v2, hσ2, _, hz⟩ := w0
          rw [hσ] at hσ2; cases hσ2
          refine q _ G2 _ (s1.trans s2) ⟨ru.len, by rw [st_length]; exact ru.lenR, fun k => ?_, ru.nd, ru.dj, ru.own, fun b x e => ?_, fun b x e => ?_, ru.fr, ru.g0, fun b hb => ?_⟩
          · by_cases hk : k = s
            · subst hk
              rw [gt_st_same hi']
              refine ⟨_, hσ, ?_, hz⟩
              have e8 : (if k ∈ [k] then fp1 k else fp2 k) = a :: fs.flatten := by simp [hf]
              rw [e8]
              refine ⟨a, fs, rfl, rfl, .inl ⟨vs, ds.set j d2', by rw [upd_ne hne]; exact haH2, ?_, rfl, ?_⟩⟩
              · obtain ⟨_, _, e9, _, hh⟩ := id o
                cases e9
                rcases hh with ⟨vs', _, k1, k2, _, _⟩ | ⟨k1, _⟩ | ⟨k1, _⟩
                · rw [haH] at k1; cases k1; exact k2
                · cases k1
                · cases k1
              · have base : OwA (fun v d f => (f = [a1] ∨ Ow X.K G2 (upd H2 a1 o') 1 v d f)) vs ds fs := oa2.impI fun i' v' d' f' k1 k2 k3 ow3 => by
                  by_cases hij : i' = j
                  · subst hij; rw [eg] at k3; cases k3; exact .inl rfl
                  · refine .inr (ow3.mono (Same.refl _) 1 fun b hb x ex => ?_)
                    rw [upd_ne (fun z : b = a1 => nodup_get (List.nodup_cons.mp ndf).2 k3 eg hij b hb (by simp [z]))]
                    exact ex
                have step := base.setd (d := d2') ew eg (.inr ow')
                refine step.impI fun i' v' d' f' k1 k2 k3 hor => ?_
                by_cases hij : i' = j
                · subst hij
                  rw [eg] at k3; cases k3
                  rw [ew] at k1; cases k1
                  have hjl : i' < ds.length := ixN_lt hj
                  rw [List.getElem?_set_self hjl] at k2
                  cases k2
                  exact ow'
                · rcases hor with e9 | h9
                  · subst e9
                    exact absurd (show a1 ∈ [a1] by simp) (nodup_get (List.nodup_cons.mp ndf).2 k3 eg hij a1 (by simp))
                  · exact h9
            · rw [gt_st_ne hk]
              have w1 := ru.sl k
              refine w1.mono (Same.refl _) fun b hb x ex => ?_
              rw [upd_ne (fun z : b = a1 => ru.dj k s hk b hb (by simp; rw [z]; exact ha1s))]
              exact ex
          · rw [upd_ne (fun z : b = a1 => by rw [z, (hG2 a1 ha1s).1] at e; cases e)]; exact ru.gh b x e
          · rw [upd_ne (fun z : b = a1 => by rw [z, (hG2 a1 ha1s).2] at e; cases e)]; exact ru.rh b x e
          · by_cases c : b = a1
            · subst c; rw [upd_same]; simp
            · rw [upd_ne c]; exact ru.hh b hb
theorem ss_ixset2 {s : Nat} {t e : Expr} {mi mj me : Me} {pos : Pos} (hg : PG X t (tG2 X.K n s mi mj)) (he : PE X e (tE X.K n me)) (hs : swapsWithSole [t] e pos.line X.env = pure false) (hw : swappedStores [t] e X.env = pure none) (h1 : (assignEach [t] X.env).map (·.2) = [assign t X.env]) :
    PS X (.Assign [t] e pos) (tS X.K n fun ρ => mb (me ρ) fun x ρ => (set2 s mi mj x.1 ρ).map .nx) := by
  refine (ps_asg he.div hg hs hw h1).diw fun D σ H h => ?_
  obtain ⟨B, ρ, G, fp, hn, r, o, hm, q⟩ := h
  obtain ⟨x, ρ1, h1, hm⟩ := mb_of hm
  cases hb : set2 s mi mj x.1 ρ1 with
  | none => rw [hb] at hm; cases hm
  | some ρ2 =>
    rw [hb] at hm
    cases hm
    exact ⟨B, ρ, G, fp, hn, r, x.1, x.2, ρ1, h1, fun v H1 G1 fp1 s1 r1 p1 => ⟨B, ρ1, G1, fp1, x.1, ρ2, hn, r1, p1, hb, fun H' G' fp' s' r' => q σ H' G' fp' (s1.trans s') r'⟩⟩
theorem ss_ixset22 {s : Nat} {t t' e : Expr} {mi mj mi' mj' me : Me} {pos : Pos} (hg : PG X t (tG2 X.K n s mi mj)) (hg' : PG X t' (tG2 X.K n s mi' mj')) (he : PE X e (tE X.K n me))
    (ha : (assignEach [t, t'] X.env).map (·.2) = [assign t X.env, assign t' X.env]) (hw : swappedStores [t, t'] e X.env = pure none) :
    PS X (.Assign [t, t'] e pos) (tS X.K n fun ρ => mb (me ρ) fun x ρ => (set2 s mi mj x.1 ρ).bind fun ρ => (set2 s mi' mj' x.1 ρ).map .nx) := by
  refine (ps_asg2 he.div hg hg' ha hw).diw fun D σ H h => ?_
  obtain ⟨B, ρ, G, fp, hn, r, o, hm, q⟩ := h
  obtain ⟨x, ρ1, h1, hm⟩ := mb_of hm
  cases hb : set2 s mi mj x.1 ρ1 with
  | none => rw [hb] at hm; cases hm
  | some ρ2 =>
    rw [hb] at hm
    cases hb2 : set2 s mi' mj' x.1 ρ2 with
    | none => simp [hb2] at hm
    | some ρ3 =>
      have hm : some (Out.nx ρ3) = some o := by simpa [hb2] using hm
      cases hm
      exact ⟨B, ρ, G, fp, hn, r, x.1, x.2, ρ1, h1, fun v H1 G1 fp1 s1 r1 p1 => ⟨B, ρ1, G1, fp1, x.1, ρ2, hn, r1, p1, hb, fun H2 G2 fp2 s2 r2 => ⟨B, ρ2, G2, fp2, x.1, ρ3, hn, r2, p1.mono s2, hb2, fun H' G' fp' s' r' => q σ H' G' fp' ((s1.trans s2).trans s') r'⟩⟩⟩
end
end DI

/-! DI8: the language's text against the program's text; soundness; a def's promise. -/
namespace DI
open PySem PySem.Spec PyProof.Rows L2 RZ

structure CC where
  N : List Str
  sc : Scope
  fn : Str → Bool
  fs : List (Str × Nat × Bool)
  cn : List (Str × Int)
def bltL : List Str := ["len", "abs", "int", "tuple", "list", "all", "any", "sum", "min", "max", "bool", "isinstance", "str", "range", "zip", "enumerate", "sorted", "dict", "set"]
def isSetE : Expr → Bool
  | .Set .. => true
  | _ => false
def visB (C : CC) (i : Nat) (x : Str) : Bool := decide (C.N[i]? = some x) && (match C.sc.names.lookup x with | some .local => true | some .cell => true | some .free => true | _ => false) && !(x == ("__debug__" : Str)) && !(x == ("__classdict__" : Str))
def glB (C : CC) (x : Str) : Bool := (match C.sc.names.lookup x with | some .globalImplicit => true | _ => false) && !(x == ("__debug__" : Str))
def locB (C : CC) (i : Nat) (x : Str) : Bool := decide (C.N[i]? = some x) && ((match C.sc.names.lookup x with | some .local => true | _ => false) || ((match C.sc.names.lookup x with | some .cell => true | _ => false) && C.fn x))
def opB : Op → Operator → Bool
  | .add, .Add => true
  | .sub, .Sub => true
  | .mul, .Mult => true
  | .fdiv, .FloorDiv => true
  | .mod, .Mod => true
  | .pow, .Pow => true
  | _, _ => false
def cmB : Cm → CmpOp → Bool
  | .eq, .Eq => true
  | .ne, .NotEq => true
  | .lt, .Lt => true
  | .le, .LtE => true
  | .gt, .Gt => true
  | .ge, .GtE => true
  | .is, .Is => true
  | .isN, .IsNot => true
  | .inn, .In => true
  | .notin, .NotIn => true
  | _, _ => false
theorem opB_eq {o : Op} {op : Operator} (h : opB o op = true) : op = opP o := by cases o <;> cases op <;> first | rfl | cases h
theorem cmB_eq {o : Cm} {op : CmpOp} (h : cmB o op = true) : op = cmP o := by cases o <;> cases op <;> first | rfl | cases h
def ownOf (C : CC) (vs : List Nat) : List (Str × Nat) := vs.filterMap fun i => C.N[i]?.map fun x => (x, i)
def CC.blk (C : CC) (scope : Scope) : CC := { C with sc := relS scope C.sc, fn := fun x => scope.names.lookup x == some .cell }
mutual
def tgV : Tg → List Nat
  | .nm i => [i]
  | .tup ts => tgVs ts
def tgVs : List Tg → List Nat
  | [] => []
  | t :: ts => tgV t ++ tgVs ts
end
mutual
def chkG (C : CC) : Tg → Expr → Bool
  | .nm i, e => match e with
    | .Name x _ => locB C i x
    | _ => false
  | .tup ts, e => match e with
    | .Tuple es _ _ => chkGs C ts es
    | _ => false
def chkGs (C : CC) : List Tg → List Expr → Bool
  | [], es => match es with
    | [] => true
    | _ => false
  | t :: ts, es => match es with
    | e :: es => !isStar e && chkG C t e && chkGs C ts es
    | _ => false
end
mutual
def chkE (C : CC) : E → Expr → Bool
  | .nm i, e => match e with
    | .Name x _ => visB C i x
    | _ => false
  | .int i, e => match e with
    | .Constant (.int j) _ _ => decide (i = j)
    | _ => false
  | .bl b, e => match e with
    | .Constant (.bool c) _ _ => decide (b = c)
    | _ => false
  | .non, e => match e with
    | .Constant .none _ _ => true
    | _ => false
  | .str s, e => match e with
    | .Constant (.str x) _ _ => decide (s = x)
    | _ => false
  | .glb g i, e => match e with
    | .Name x _ => glB C x && decide (C.cn[g]? = some (x, i))
    | _ => false
  | .op o a b, e => match e with
    | .BinOp l op r _ => opB o op && chkE C a l && chkE C b r
    | _ => false
  | .neg a, e => match e with
    | .UnaryOp .USub x _ => chkE C a x
    | _ => false
  | .tst t, e => chkV C t e
  | .ife t a b, e => match e with
    | .IfExp c x y _ => chkT C t c && chkE C a x && chkE C b y
    | _ => false
  | .tup es, e => match e with
    | .Tuple xs _ _ => chkEs C es xs
    | _ => false
  | .lst es, e => match e with
    | .List xs _ => chkEs C es xs
    | _ => false
  | .ix a i, e => match e with
    | .Subscript x y _ => chkE C a x && chkE C i y && plainIx y
    | _ => false
  | .bix s i, e => match e with
    | .Subscript (.Name x _) y _ => visB C s x && chkE C i y && plainIx y
    | _ => false
  | .bix2 s i j, e => match e with
    | .Subscript (.Subscript (.Name x _) y _) z _ => visB C s x && chkE C i y && plainIx y && chkE C j z && plainIx z
    | _ => false
  | .slc a lo hi, e => match e with
    | .Subscript x (.Slice l h none _) _ => chkE C a x && chkO C lo l && chkO C hi h
    | _ => false
  | .call f es, e => match e with
    | .Call (.Name x _) (y :: ys) [] _ => glB C x && decide (C.fs[f]? = some (x, (y :: ys).length, false)) && chkEs C es (y :: ys)
    | _ => false
  | .cio f s es, e => match e with
    | .Call (.Name x _) (.Name y _ :: ys) [] _ => glB C x && decide (C.fs[f]? = some (x, ys.length + 1, true)) && visB C s y && chkEs C es ys
    | _ => false
  | .b1 f a, e => match e with
    | .Call (.Name x _) [y] [] _ => decide (x = b1N f) && glB C x && !isStar y && chkE C a y
    | _ => false
  | .dnew _, e => match e with
    | .Dict [] [] _ => true
    | _ => false
  | .blen s, e => match e with
    | .Call (.Name x _) [.Name y _] [] _ => decide (x = ("len" : Str)) && glB C x && visB C s y
    | _ => false
  | .b2 f a b, e => match e with
    | .Call (.Name x _) [y, z] [] _ => decide (x = b2N f) && glB C x && !isStar y && !isStar z && chkE C a y && chkE C b z
    | _ => false
  | .isi t a, e => match e with
    | .Call (.Name x _) [y, .Name z _] [] _ => decide (x = ("isinstance" : Str)) && glB C x && decide (z = tyN t) && glB C z && !isStar y && chkE C a y
    | _ => false
  | .comp k vs tg it cs e, x => match x with
    | .ListComp elt [⟨target, iter, ifs, a⟩] scope _ => decide (a = 0) && decide ((ownOf C vs).map (·.2) = vs) && blkC C.N C.sc scope (ownOf C vs) && (tgV tg).all (fun j => decide (j ∈ vs)) &&
        chkI C it target iter && !isSetE iter && chkG (C.blk scope) tg target && chkF (C.blk scope) cs ifs && chkE (C.blk scope) e elt
    | _ => false
def chkEs (C : CC) : Es → List Expr → Bool
  | .nil, es => match es with
    | [] => true
    | _ => false
  | .cons e es, xs => match xs with
    | x :: xs => !isStar x && chkE C e x && chkEs C es xs
    | _ => false
def chkO (C : CC) : Eo → Option Expr → Bool
  | .no, e => match e with
    | none => true
    | _ => false
  | .yes e, x => match x with
    | some y => chkE C e y
    | _ => false
def chkT (C : CC) : T → Expr → Bool
  | .ex e, x => isPlainT x && chkE C e x
  | .cm c a b, x => match x with
    | .Compare l [op] [r] _ => cmB c op && chkE C a l && chkE C b r && !isSetE r
    | _ => false
  | .chn c c' a b d, x => match x with
    | .Compare l [op, op'] [r, r'] _ => cmB c op && cmB c' op' && chkE C a l && chkE C b r && chkE C d r' && !isSetE r && !isSetE r'
    | _ => false
  | .not t, x => match x with
    | .UnaryOp .Not y _ => chkT C t y
    | _ => false
  | .and ts, x => match x with
    | .BoolOp .And ys _ => chkTs C ts ys
    | _ => false
  | .or ts, x => match x with
    | .BoolOp .Or ys _ => chkTs C ts ys
    | _ => false
def chkV (C : CC) : T → Expr → Bool
  | .ex e, x => chkE C e x
  | .cm c a b, x => match x with
    | .Compare l [op] [r] _ => cmB c op && chkE C a l && chkE C b r && !isSetE r
    | _ => false
  | .chn c c' a b d, x => match x with
    | .Compare l [op, op'] [r, r'] _ => cmB c op && cmB c' op' && chkE C a l && chkE C b r && chkE C d r' && !isSetE r && !isSetE r'
    | _ => false
  | .not t, x => match x with
    | .UnaryOp .Not y _ => chkV C t y
    | _ => false
  | .and ts, x => match x with
    | .BoolOp .And ys _ => chkVs C ts ys
    | _ => false
  | .or ts, x => match x with
    | .BoolOp .Or ys _ => chkVs C ts ys
    | _ => false
/-- one or more tests -/
def chkTs (C : CC) : Ts → List Expr → Bool
  | .nil, _ => false
  | .cons t .nil, xs => match xs with
    | [x] => chkT C t x
    | _ => false
  | .cons t (.cons t2 ts), xs => match xs with
    | x :: y :: ys => chkT C t x && chkTs C (.cons t2 ts) (y :: ys)
    | _ => false
def chkVs (C : CC) : Ts → List Expr → Bool
  | .nil, _ => false
  | .cons t .nil, xs => match xs with
    | [x] => chkV C t x
    | _ => false
  | .cons t (.cons t2 ts), xs => match xs with
    | x :: y :: ys => chkV C t x && chkVs C (.cons t2 ts) (y :: ys)
    | _ => false
/-- a comprehension's tests: none or one -/
def chkF (C : CC) : Ts → List Expr → Bool
  | .nil, xs => match xs with
    | [] => true
    | _ => false
  | .cons t .nil, xs => match xs with
    | [x] => chkT C t x
    | _ => false
  | .cons _ (.cons _ _), _ => false
def chkI (C : CC) : It → Expr → Expr → Bool
  | .ex e, _, x => chkE C e x
  | .rng1 e, _, x => match x with
    | .Call (.Name f _) [y] [] _ => decide (f = ("range" : Str)) && glB C f && !isStar y && chkE C e y
    | _ => false
  | .rng2 a b, _, x => match x with
    | .Call (.Name f _) [y, z] [] _ => decide (f = ("range" : Str)) && glB C f && !isStar y && !isStar z && chkE C a y && chkE C b z
    | _ => false
  | .enm _, _, _ => false
  | .zip a b, tg, x => match tg, x with
    | .Tuple _ _ _, .Call (.Name f _) [y, z] [] _ => decide (f = ("zip" : Str)) && glB C f && !isStar y && !isStar z && chkE C a y && chkE C b z
    | _, _ => false
end

/-! ### soundness -/
structure XOk (C : CC) (k : Nat) (Γ : Gm) (X : Cx) : Prop where
  N : X.N = C.N
  nd : C.N.Nodup
  sc : X.env.scope = C.sc
  fn : ∀ x, X.fn x = C.fn x
  calm : X.calm = true
  room : Room k X.A
  df : ∀ j x np io, C.fs[j]? = some (x, np, io) → Df X k x np io (Γ j)
  bt : ∀ x ∈ bltL, X.mg x = none
  cn : ∀ (g : Nat) x i, C.cn[g]? = some (x, i) → ∃ t, X.mg x = some (.int i t)
theorem XOk.blk {C : CC} {k : Nat} {Γ : Gm} {X : Cx} (ok : XOk C k Γ X) (s : Shared) (H : Hp) (scope : Scope) (A : Addr) (cl : List (Str × Addr)) (fp : List Addr) : XOk (C.blk scope) k Γ (X.blk s H scope (compEnvC scope cl A X.env) fp) :=
  ⟨ok.N, ok.nd, by show relS scope X.env.scope = relS scope C.sc; rw [ok.sc], fun _ => rfl, ok.calm, ok.room, fun j x np io h => ⟨(ok.df j x np io h).ln, (ok.df j x np io h).ex⟩, ok.bt, ok.cn⟩
theorem XOk.hu {C : CC} {k : Nat} {Γ : Gm} {X : Cx} (ok : XOk C k Γ X) : X.A.units + 65 < cLine := by have := ok.room.un; omega
theorem ba {a b : Bool} (h : (a && b) = true) : a = true ∧ b = true := Bool.and_eq_true_iff.mp h
theorem nb {a : Bool} (h : (!a) = true) : a = false := by cases a <;> first | rfl | cases h
theorem XOk.vis {C : CC} {k : Nat} {Γ : Gm} {X : Cx} (ok : XOk C k Γ X) {i : Nat} {x : Str} (h : visB C i x = true) : X.N[i]? = some x ∧ Vis X.env.scope x ∧ (x == ("__debug__" : Str)) = false ∧ (x == ("__classdict__" : Str)) = false := by
  unfold visB at h
  obtain ⟨h, h4⟩ := ba h
  obtain ⟨h, h3⟩ := ba h
  obtain ⟨h1, h2⟩ := ba h
  refine ⟨by rw [ok.N]; exact of_decide_eq_true h1, ?_, nb h3, nb h4⟩
  unfold Vis
  rw [ok.sc]
  split at h2 <;> first | exact .inl (by assumption) | exact .inr (.inl (by assumption)) | exact .inr (.inr (by assumption)) | cases h2
theorem XOk.gl {C : CC} {k : Nat} {Γ : Gm} {X : Cx} (ok : XOk C k Γ X) {x : Str} (h : glB C x = true) : Gl X x ∧ (x == ("__debug__" : Str)) = false := by
  unfold glB at h
  obtain ⟨h1, h2⟩ := ba h
  refine ⟨?_, nb h2⟩
  show X.env.scope.names.lookup x = some .globalImplicit
  rw [ok.sc]
  split at h1 <;> first | assumption | cases h1
theorem XOk.loc {C : CC} {k : Nat} {Γ : Gm} {X : Cx} (ok : XOk C k Γ X) {i : Nat} {x : Str} (h : locB C i x = true) : X.N[i]? = some x ∧ Loc X.env.scope x ∧ (X.fn x = true ∨ X.env.scope.names.lookup x = some .local) := by
  unfold locB at h
  obtain ⟨h1, h2⟩ := ba h
  refine ⟨by rw [ok.N]; exact of_decide_eq_true h1, ?_⟩
  unfold L2.Loc
  rw [ok.sc, ok.fn]
  rcases Bool.or_eq_true_iff.mp h2 with h2 | h2
  · split at h2 <;> first | exact ⟨.inl (by assumption), .inr (by assumption)⟩ | cases h2
  · obtain ⟨h2, h3⟩ := ba h2
    split at h2 <;> first | exact ⟨.inr (by assumption), .inl h3⟩ | cases h2
theorem setOk {e : Expr} (h : isSetE e = false) (env : Env) : ∀ x, foldedSetIterable e env x = pure x := by
  intro x
  cases e <;> first | rfl | cases h
theorem behindOk {e : Expr} (h : isSetE e = false) (op : CmpOp) : behindInMarks op e = false := by
  cases e <;> first | rfl | cases h
theorem ownOf_ix {C : CC} {vs : List Nat} : ∀ p ∈ ownOf C vs, C.N[p.2]? = some p.1 := fun p hp => by
  obtain ⟨i, hi, e⟩ := List.mem_filterMap.mp hp
  obtain ⟨x, hx, e⟩ := Option.map_eq_some_iff.mp e
  subst e
  exact hx
mutual
theorem okG {C : CC} {k : Nat} {Γ : Gm} {X : Cx} (ok : XOk C k Γ X) : ∀ (t : Tg) (e : Expr), chkG C t e = true → PG X e (tG X.K C.N.length (tgV t) (bnd t))
  | .nm i, e, h => by
    unfold chkG at h
    split at h
    · obtain ⟨h1, h2, h3⟩ := ok.loc h
      exact sg_nm (by rw [ok.N]) (ok.N ▸ ok.nd) h1 h2 h3
    · cases h
  | .tup ts, e, h => by
    unfold chkG at h
    split at h
    · obtain ⟨h1, h2, h3⟩ := okGs ok ts _ h
      exact sg_tup ok.calm h1 h2 h3
    · cases h
theorem okGs {C : CC} {k : Nat} {Γ : Gm} {X : Cx} (ok : XOk C k Γ X) : ∀ (ts : List Tg) (es : List Expr), chkGs C ts es = true → PGs X es (tGs X.K C.N.length (tgVs ts) (bnds ts)) ∧ es.length = ts.length ∧ es.any isStar = false
  | [], es, h => by
    unfold chkGs at h
    split at h
    · exact ⟨sgs_nil, rfl, rfl⟩
    · cases h
  | t :: ts, es, h => by
    unfold chkGs at h
    split at h
    · obtain ⟨h, h3⟩ := ba h
      obtain ⟨h1, h2⟩ := ba h
      obtain ⟨g1, g2, g3⟩ := okGs ok ts _ h3
      exact ⟨sgs_cons (okG ok t _ h2) g1 (nb h1), by simp [g2], by rw [List.any_cons, nb h1, g3]; rfl⟩
    · cases h
end
theorem tT_mono {X : Cx} {n : Nat} {m m' : Mt} (h : ∀ ρ, m' ρ = m ρ) : m' = m := funext h
mutual
theorem okE {C : CC} {k : Nat} {Γ : Gm} {X : Cx} (ok : XOk C k Γ X) : ∀ (t : E) (e : Expr), chkE C t e = true → PE X e (tE X.K C.N.length (ev Γ t))
  | .nm i, e, h => by
    unfold chkE at h
    split at h
    · obtain ⟨h1, h2, h3, h4⟩ := ok.vis h
      exact se_nm h1 h2 h3 h4
    · cases h
  | .int i, e, h => by
    unfold chkE at h
    split at h
    · obtain rfl := of_decide_eq_true h
      exact se_c pe_int fun _ => .int _
    · cases h
  | .bl i, e, h => by
    unfold chkE at h
    split at h
    · obtain rfl := of_decide_eq_true h
      exact se_c pe_bl fun _ => .bl _
    · cases h
  | .non, e, h => by
    unfold chkE at h
    split at h
    · exact se_c pe_non fun _ => .non
    · cases h
  | .str i, e, h => by
    unfold chkE at h
    split at h
    · obtain rfl := of_decide_eq_true h
      exact se_c pe_str fun _ => .str _
    · cases h
  | .glb g i, e, h => by
    unfold chkE at h
    split at h
    · obtain ⟨h1, h2⟩ := ba h
      obtain ⟨g1, g2⟩ := ok.gl h1
      obtain ⟨t, ht⟩ := ok.cn g _ i (of_decide_eq_true h2)
      exact se_c (pe_glob (v := .int i) g1 ht ⟨t, rfl⟩ g2) fun _ => .int i
    · cases h
  | .op o a b, e, h => by
    unfold chkE at h
    split at h
    · obtain ⟨h, h3⟩ := ba h
      obtain ⟨h1, h2⟩ := ba h
      rw [opB_eq h1]
      exact bin_D (pe_op (op_D o) (okE ok a _ h2).div (okE ok b _ h3).div)
    · cases h
  | .neg a, e, h => by
    unfold chkE at h
    split at h
    · exact se_neg (okE ok a _ h)
    · cases h
  | .tst t, e, h => by
    unfold chkE at h
    exact se_tst (okV ok t _ h)
  | .ife t a b, e, h => by
    unfold chkE at h
    split at h
    · obtain ⟨h, h3⟩ := ba h
      obtain ⟨h1, h2⟩ := ba h
      exact se_ife (okT ok t _ h1) (okE ok a _ h2) (okE ok b _ h3)
    · cases h
  | .tup es, e, h => by
    unfold chkE at h
    split at h
    · exact se_tup (okEs ok es _ h)
    · cases h
  | .lst es, e, h => by
    unfold chkE at h
    split at h
    · exact se_lst (okEs ok es _ h)
    · cases h
  | .ix a i, e, h => by
    unfold chkE at h
    split at h
    · obtain ⟨h, h3⟩ := ba h
      obtain ⟨h1, h2⟩ := ba h
      exact se_ix (by have := ok.hu; omega) (okE ok a _ h1) (okE ok i _ h2) h3
    · cases h
  | .bix s i, e, h => by
    unfold chkE at h
    split at h
    · obtain ⟨h, h3⟩ := ba h
      obtain ⟨h1, h2⟩ := ba h
      obtain ⟨g1, g2, g3, g4⟩ := ok.vis h1
      exact se_bix (by have := ok.hu; omega) g1 g2 g3 g4 (okE ok i _ h2) h3
    · cases h
  | .bix2 s i j, e, h => by
    unfold chkE at h
    split at h
    · obtain ⟨h, h5⟩ := ba h
      obtain ⟨h, h4⟩ := ba h
      obtain ⟨h, h3⟩ := ba h
      obtain ⟨h1, h2⟩ := ba h
      obtain ⟨g1, g2, g3, g4⟩ := ok.vis h1
      exact se_bix2 (by have := ok.hu; omega) g1 g2 g3 g4 (okE ok i _ h2) (okE ok j _ h4) h3 h5
    · cases h
  | .slc a lo hi, e, h => by
    unfold chkE at h
    split at h
    · obtain ⟨h, h3⟩ := ba h
      obtain ⟨h1, h2⟩ := ba h
      exact se_slc (okE ok a _ h1) (okO ok lo _ h2) (okO ok hi _ h3)
    · cases h
  | .call f es, e, h => by
    unfold chkE at h
    split at h
    · obtain ⟨h, h3⟩ := ba h
      obtain ⟨h1, h2⟩ := ba h
      obtain ⟨g1, g2⟩ := ok.gl h1
      have hs := okStar es _ h3
      rw [List.any_cons, Bool.or_eq_false_iff] at hs
      exact se_call (ok.df f _ _ _ (of_decide_eq_true h2)) ok.room g1 g2 (okEs ok es _ h3) rfl hs.1 hs.2
    · cases h
  | .cio f s es, e, h => by
    unfold chkE at h
    split at h
    · obtain ⟨h, h4⟩ := ba h
      obtain ⟨h, h3⟩ := ba h
      obtain ⟨h1, h2⟩ := ba h
      obtain ⟨g1, g2⟩ := ok.gl h1
      obtain ⟨v1, v2, v3, v4⟩ := ok.vis h3
      exact se_cio (ok.df f _ _ _ (of_decide_eq_true h2)) ok.room g1 g2 v1 v2 v3 v4 (okEs ok es _ h4) (okStar es _ h4)
    · cases h
  | .b1 f a, e, h => by
    unfold chkE at h
    split at h
    · obtain ⟨h, h4⟩ := ba h
      obtain ⟨h, h3⟩ := ba h
      obtain ⟨h1, h2⟩ := ba h
      obtain rfl := of_decide_eq_true h1
      exact se_b1 ok.calm (ok.gl h2).1 (ok.bt _ (by cases f <;> decide)) (okE ok a _ h4) (nb h3)
    · cases h
  | .dnew t, e, h => by
    unfold chkE at h
    split at h
    · exact se_dnew
    · cases h
  | .blen s, e, h => by
    unfold chkE at h
    split at h
    · obtain ⟨h, h3⟩ := ba h
      obtain ⟨h1, h2⟩ := ba h
      obtain rfl := of_decide_eq_true h1
      obtain ⟨v1, v2, v3, v4⟩ := ok.vis h3
      exact se_blen ok.calm (ok.gl h2).1 (ok.bt _ (by decide)) v1 v2 v3 v4
    · cases h
  | .b2 f a b, e, h => by
    unfold chkE at h
    split at h
    · obtain ⟨h, h6⟩ := ba h
      obtain ⟨h, h5⟩ := ba h
      obtain ⟨h, h4⟩ := ba h
      obtain ⟨h, h3⟩ := ba h
      obtain ⟨h1, h2⟩ := ba h
      obtain rfl := of_decide_eq_true h1
      exact se_b2 ok.calm (ok.gl h2).1 (ok.bt _ (by cases f <;> decide)) (okE ok a _ h5) (okE ok b _ h6) (nb h3) (nb h4)
    · cases h
  | .isi t a, e, h => by
    unfold chkE at h
    split at h
    · obtain ⟨h, h6⟩ := ba h
      obtain ⟨h, h5⟩ := ba h
      obtain ⟨h, h4⟩ := ba h
      obtain ⟨h, h3⟩ := ba h
      obtain ⟨h1, h2⟩ := ba h
      obtain rfl := of_decide_eq_true h1
      obtain rfl := of_decide_eq_true h3
      exact se_isi (ok.gl h2).1 (ok.bt _ (by decide)) (ok.gl h4).1 (ok.bt _ (by cases t <;> decide)) (okE ok a _ h6) (nb h5)
    · cases h
  | .comp k' vs tg it cs e, x, h => by
    unfold chkE at h
    split at h
    · obtain ⟨h, h9⟩ := ba h
      obtain ⟨h, h8⟩ := ba h
      obtain ⟨h, h7⟩ := ba h
      obtain ⟨h, h6⟩ := ba h
      obtain ⟨h, h5⟩ := ba h
      obtain ⟨h, h4⟩ := ba h
      obtain ⟨h, h3⟩ := ba h
      obtain ⟨h1, h2⟩ := ba h
      obtain rfl := of_decide_eq_true h1
      have hb : BlkOk X.N X.env.scope _ (ownOf C vs) := blkOk_by (by rw [ok.N, ok.sc]; exact h3)
      exact se_comp ok.calm (ok.N ▸ ok.nd) (okI ok it _ _ h5) hb (of_decide_eq_true h2) (fun j hj => of_decide_eq_true (List.all_eq_true.mp h4 j hj))
        (fun s H A cl fp => okG (ok.blk s H _ A cl fp) tg _ h7) (fun s H A cl fp => okF (ok.blk s H _ A cl fp) cs _ h8) (fun s H A cl fp => okE (ok.blk s H _ A cl fp) e _ h9) (setOk (nb h6) _)
    · cases h
theorem okStar {C : CC} : ∀ (es : Es) (xs : List Expr), chkEs C es xs = true → xs.any isStar = false
  | .nil, xs, h => by
    unfold chkEs at h
    split at h
    · rfl
    · cases h
  | .cons e es, xs, h => by
    unfold chkEs at h
    split at h
    · obtain ⟨h, h3⟩ := ba h
      obtain ⟨h1, h2⟩ := ba h
      rw [List.any_cons, nb h1, okStar es _ h3]; rfl
    · cases h
theorem okEs {C : CC} {k : Nat} {Γ : Gm} {X : Cx} (ok : XOk C k Γ X) : ∀ (es : Es) (xs : List Expr), chkEs C es xs = true → PA X xs (tEs X.K C.N.length (evs Γ es))
  | .nil, xs, h => by
    unfold chkEs at h
    split at h
    · exact sa_nil
    · cases h
  | .cons e es, xs, h => by
    unfold chkEs at h
    split at h
    · obtain ⟨h, h3⟩ := ba h
      obtain ⟨h1, h2⟩ := ba h
      exact sa_cons (okE ok e _ h2) (okEs ok es _ h3) (nb h1)
    · cases h
theorem okO {C : CC} {k : Nat} {Γ : Gm} {X : Cx} (ok : XOk C k Γ X) : ∀ (t : Eo) (e : Option Expr), chkO C t e = true → PO X e (tO X.K C.N.length (evo Γ t))
  | .no, e, h => by
    unfold chkO at h
    split at h
    · exact so_no
    · cases h
  | .yes t, e, h => by
    unfold chkO at h
    split at h
    · exact so_yes (okE ok t _ h)
    · cases h
theorem okT {C : CC} {k : Nat} {Γ : Gm} {X : Cx} (ok : XOk C k Γ X) : ∀ (t : T) (e : Expr), chkT C t e = true → PT X e (tT X.K C.N.length (evT Γ t))
  | .ex t, e, h => by
    unfold chkT at h
    obtain ⟨h1, h2⟩ := ba h
    exact st_ex (okE ok t _ h2) h1
  | .cm c a b, e, h => by
    unfold chkT at h
    split at h
    · obtain ⟨h, h4⟩ := ba h
      obtain ⟨h, h3⟩ := ba h
      obtain ⟨h1, h2⟩ := ba h
      rw [cmB_eq h1]
      exact st_cm ok.hu ok.calm (okE ok a _ h2) (okE ok b _ h3) (behindOk (nb h4) _)
    · cases h
  | .chn c c' a b d, e, h => by
    unfold chkT at h
    split at h
    · obtain ⟨h, h7⟩ := ba h
      obtain ⟨h, h6⟩ := ba h
      obtain ⟨h, h5⟩ := ba h
      obtain ⟨h, h4⟩ := ba h
      obtain ⟨h, h3⟩ := ba h
      obtain ⟨h1, h2⟩ := ba h
      rw [cmB_eq h1, cmB_eq h2]
      exact st_chn ok.hu ok.calm (okE ok a _ h3) (okE ok b _ h4) (okE ok d _ h5) (behindOk (nb h7) _)
    · cases h
  | .not t, e, h => by
    unfold chkT at h
    split at h
    · exact st_not (okT ok t _ h)
    · cases h
  | .and ts, e, h => by
    unfold chkT at h
    split at h
    · exact (okA ok ts _ _ h).pt
    · cases h
  | .or ts, e, h => by
    unfold chkT at h
    split at h
    · exact (okR ok ts _ _ h).pt
    · cases h
theorem okV {C : CC} {k : Nat} {Γ : Gm} {X : Cx} (ok : XOk C k Γ X) : ∀ (t : T) (e : Expr), chkV C t e = true → PE X e (tTv X.K C.N.length (evT Γ t))
  | .ex t, e, h => by
    unfold chkV at h
    exact sv_ex (okE ok t _ h)
  | .cm c a b, e, h => by
    unfold chkV at h
    split at h
    · obtain ⟨h, h4⟩ := ba h
      obtain ⟨h, h3⟩ := ba h
      obtain ⟨h1, h2⟩ := ba h
      rw [cmB_eq h1]
      exact sv_cm ok.hu ok.calm (okE ok a _ h2) (okE ok b _ h3) (behindOk (nb h4) _)
    · cases h
  | .chn c c' a b d, e, h => by
    unfold chkV at h
    split at h
    · obtain ⟨h, h7⟩ := ba h
      obtain ⟨h, h6⟩ := ba h
      obtain ⟨h, h5⟩ := ba h
      obtain ⟨h, h4⟩ := ba h
      obtain ⟨h, h3⟩ := ba h
      obtain ⟨h1, h2⟩ := ba h
      rw [cmB_eq h1, cmB_eq h2]
      exact sv_chn ok.hu ok.calm (okE ok a _ h3) (okE ok b _ h4) (okE ok d _ h5) (behindOk (nb h7) _)
    · cases h
  | .not t, e, h => by
    unfold chkV at h
    split at h
    · exact sv_not (okV ok t _ h)
    · cases h
  | .and ts, e, h => by
    unfold chkV at h
    split at h
    · exact okAv ok ts _ _ h
    · cases h
  | .or ts, e, h => by
    unfold chkV at h
    split at h
    · exact okRv ok ts _ _ h
    · cases h
theorem okA {C : CC} {k : Nat} {Γ : Gm} {X : Cx} (ok : XOk C k Γ X) : ∀ (ts : Ts) (xs : List Expr) (pos : Pos), chkTs C ts xs = true → PW X (.BoolOp .And xs pos) (tT X.K C.N.length (evA Γ ts))
  | .nil, xs, pos, h => by unfold chkTs at h; cases h
  | .cons t .nil, xs, pos, h => by
    unfold chkTs at h
    split at h
    · exact st_and1 (okT ok t _ h)
    · cases h
  | .cons t (.cons t2 ts), xs, pos, h => by
    unfold chkTs at h
    split at h
    · obtain ⟨h1, h2⟩ := ba h
      exact st_and (okT ok t _ h1) (okA ok (.cons t2 ts) _ _ h2)
    · cases h
theorem okR {C : CC} {k : Nat} {Γ : Gm} {X : Cx} (ok : XOk C k Γ X) : ∀ (ts : Ts) (xs : List Expr) (pos : Pos), chkTs C ts xs = true → PW X (.BoolOp .Or xs pos) (tT X.K C.N.length (evR Γ ts))
  | .nil, xs, pos, h => by unfold chkTs at h; cases h
  | .cons t .nil, xs, pos, h => by
    unfold chkTs at h
    split at h
    · exact st_or1 (okT ok t _ h)
    · cases h
  | .cons t (.cons t2 ts), xs, pos, h => by
    unfold chkTs at h
    split at h
    · obtain ⟨h1, h2⟩ := ba h
      exact st_or (okT ok t _ h1) (okR ok (.cons t2 ts) _ _ h2)
    · cases h
theorem okAv {C : CC} {k : Nat} {Γ : Gm} {X : Cx} (ok : XOk C k Γ X) : ∀ (ts : Ts) (xs : List Expr) (pos : Pos), chkVs C ts xs = true → PE X (.BoolOp .And xs pos) (tTv X.K C.N.length (evA Γ ts))
  | .nil, xs, pos, h => by unfold chkVs at h; cases h
  | .cons t .nil, xs, pos, h => by
    unfold chkVs at h
    split at h
    · exact sv_and1 (okV ok t _ h)
    · cases h
  | .cons t (.cons t2 ts), xs, pos, h => by
    unfold chkVs at h
    split at h
    · obtain ⟨h1, h2⟩ := ba h
      exact sv_and (okV ok t _ h1) (okAv ok (.cons t2 ts) _ _ h2)
    · cases h
theorem okRv {C : CC} {k : Nat} {Γ : Gm} {X : Cx} (ok : XOk C k Γ X) : ∀ (ts : Ts) (xs : List Expr) (pos : Pos), chkVs C ts xs = true → PE X (.BoolOp .Or xs pos) (tTv X.K C.N.length (evR Γ ts))
  | .nil, xs, pos, h => by unfold chkVs at h; cases h
  | .cons t .nil, xs, pos, h => by
    unfold chkVs at h
    split at h
    · exact sv_or1 (okV ok t _ h)
    · cases h
  | .cons t (.cons t2 ts), xs, pos, h => by
    unfold chkVs at h
    split at h
    · obtain ⟨h1, h2⟩ := ba h
      exact sv_or (okV ok t _ h1) (okRv ok (.cons t2 ts) _ _ h2)
    · cases h
theorem okF {C : CC} {k : Nat} {Γ : Gm} {X : Cx} (ok : XOk C k Γ X) : ∀ (ts : Ts) (xs : List Expr), chkF C ts xs = true → PTs X xs (tT X.K C.N.length (evA Γ ts))
  | .nil, xs, h => by
    unfold chkF at h
    split at h
    · refine ⟨fun pins s σ H Q I h => pts_nil.run pins s σ H Q I ?_⟩
      obtain ⟨B, ρ, G, fp, hn, r, b, ρ', hm, q⟩ := h
      cases hm
      exact q H G fp (Same.refl _) r
    · cases h
  | .cons t .nil, xs, h => by
    unfold chkF at h
    split at h
    · refine ⟨fun pins s σ H Q I hh => (pts_one (okT ok t _ h)).run pins s σ H Q I ?_⟩
      obtain ⟨B, ρ, G, fp, hn, r, b, ρ', hm, q⟩ := hh
      obtain ⟨x, ρ1, h1, hm⟩ := mb_of (show mb (evT Γ t ρ) _ = _ from hm)
      cases x <;> (cases hm; exact ⟨B, ρ, G, fp, hn, r, _, ρ', h1, q⟩)
    · cases h
  | .cons _ (.cons _ _), xs, h => by unfold chkF at h; cases h
theorem okI {C : CC} {k : Nat} {Γ : Gm} {X : Cx} (ok : XOk C k Γ X) : ∀ (t : It) (tg e : Expr), chkI C t tg e = true → PI X tg e (tI X.K C.N.length (evI Γ t))
  | .ex t, tg, e, h => by
    unfold chkI at h
    exact si_ex (okE ok t _ h)
  | .rng1 t, tg, e, h => by
    unfold chkI at h
    split at h
    · obtain ⟨h, h4⟩ := ba h
      obtain ⟨h, h3⟩ := ba h
      obtain ⟨h1, h2⟩ := ba h
      obtain rfl := of_decide_eq_true h1
      exact si_rng1 (ok.gl h2).1 (ok.bt _ (by decide)) (okE ok t _ h4) (nb h3)
    · cases h
  | .rng2 a b, tg, e, h => by
    unfold chkI at h
    split at h
    · obtain ⟨h, h6⟩ := ba h
      obtain ⟨h, h5⟩ := ba h
      obtain ⟨h, h4⟩ := ba h
      obtain ⟨h, h3⟩ := ba h
      obtain ⟨h1, h2⟩ := ba h
      obtain rfl := of_decide_eq_true h1
      exact si_rng2 (ok.gl h2).1 (ok.bt _ (by decide)) (okE ok a _ h5) (okE ok b _ h6) (nb h3) (nb h4)
    · cases h
  | .enm t, tg, e, h => by unfold chkI at h; cases h
  | .zip a b, tg, e, h => by
    unfold chkI at h
    split at h
    · obtain ⟨h, h6⟩ := ba h
      obtain ⟨h, h5⟩ := ba h
      obtain ⟨h, h4⟩ := ba h
      obtain ⟨h, h3⟩ := ba h
      obtain ⟨h1, h2⟩ := ba h
      obtain rfl := of_decide_eq_true h1
      exact si_zip (ok.gl h2).1 (ok.bt _ (by decide)) (okE ok a _ h5) (okE ok b _ h6) (nb h3) (nb h4)
    · cases h
end
end DI

/-! DI9: statements against the text; a def's promise. -/
namespace DI
open PySem PySem.Spec PyProof.Rows L2 RZ
/-- whether the pair is stored without being made, by the text alone -/
def swD (sc : Scope) (ts vs : List Expr) : Option (Option (List Str)) :=
  if (!(ts.length == 2 || ts.length == 3) || vs.length != ts.length || !(decide (sc.kind = .function))) = true then some none
  else if vs.any isStar = true then some none
  else
    let names := swNames sc ((ts.head?.map (·.pos.line)).getD 0) ts
    if (names.length != ts.length || names.eraseDups.length != names.length) = true then some none
    else if vs.all (foldedForSure 8) = true then some none
    else if vs.all (constantsAlone 8) = true then none
    else some (some names)
theorem swD_ok {env : Env} {sc : Scope} {ts vs : List Expr} {k k2 : Nat} {p p2 : Pos} {r : Option (List Str)} (h : env.scope = sc) (hk : sc.kind = .function) (hr : swD sc ts vs = some r) :
    swappedStores [.Tuple ts k p] (.Tuple vs k2 p2) env = pure r := by
  have e0 : (env.blockKind != .function) = false := by
    have : env.blockKind = .function := by unfold Env.blockKind; rw [h, hk]; rfl
    rw [this]; rfl
  have e2 : (vs.any fun | .Starred .. => true | _ => false) = vs.any isStar := by
    congr 1
  have e3 := swNames_eq h ((ts.head?.map (·.pos.line)).getD 0) ts
  unfold swD at hr
  have ek : (!(decide (sc.kind = .function))) = false := by rw [hk]; rfl
  rw [ek] at hr
  unfold swappedStores
  by_cases c1 : (!(ts.length == 2 || ts.length == 3) || vs.length != ts.length || false) = true
  · rw [if_pos c1] at hr
    cases hr
    exact if_pos (by rw [e0]; exact c1)
  · rw [if_neg c1] at hr
    refine (if_neg (by rw [e0]; exact c1)).trans ?_
    by_cases c2 : vs.any isStar = true
    · rw [if_pos c2] at hr
      cases hr
      exact if_pos (e2.trans c2)
    · rw [if_neg c2] at hr
      refine (if_neg (fun z => c2 (e2.symm.trans z))).trans ?_
      generalize swNames sc ((ts.head?.map (·.pos.line)).getD 0) ts = names at e3 hr
      have e5 : ∀ l : List Str, l = names → (if (l.length != ts.length || l.eraseDups.length != l.length) = true then pure none
        else if vs.all (foldedForSure 8) = true then pure none
          else if vs.all (constantsAlone 8) = true then (do
              unsupported "assign.tuple-of-constant-expressions:order-of-the-stores"
              pure (some l)) else pure (some l) : Sem (Option (List Str))) = pure r := by
        intro l hl
        subst hl
        by_cases c3 : (l.length != ts.length || l.eraseDups.length != l.length) = true
        · rw [if_pos c3] at hr ⊢; cases hr; rfl
        · rw [if_neg c3] at hr ⊢
          by_cases c4 : vs.all (foldedForSure 8) = true
          · rw [if_pos c4] at hr ⊢; cases hr; rfl
          · rw [if_neg c4] at hr ⊢
            by_cases c5 : vs.all (constantsAlone 8) = true
            · rw [if_pos c5] at hr; cases hr
            · rw [if_neg c5] at hr ⊢; cases hr; rfl
      exact e5 _ e3
def swNo (sc : Scope) (ts : List Expr) : Expr → Bool
  | .Tuple vs _ _ => (match swD sc ts vs with | some none => true | _ => false)
  | _ => true
/-- how a name is stored that takes a comprehension -/
def swC (sc : Scope) (y : Str) (py : Pos) : Expr → Bool
  | .ListComp _ _ scope pos => decide (sc.names.lookup y = some .local) && (py.line == pos.line) && !(scope.names.any fun (n, k) => n == y && (k == .local || k == .cell))
  | _ => false
theorem swC_ok {env : Env} {sc : Scope} {y : Str} {py : Pos} {e : Expr} {l : Nat} (h : env.scope = sc) (hk : sc.kind = .function) (hl : ∃ a b c d, e = .ListComp a b c d) : swapsWith e (some (.Name y py)) l env = pure (swC sc y py e) := by
  obtain ⟨a, b, c, d, rfl⟩ := hl
  have hb : env.blockKind = .function := by unfold Env.blockKind; rw [h, hk]; rfl
  have e1 : (env.kindOf y == some .local) = decide (sc.names.lookup y = some .local) := by
    show (env.scope.names.lookup y == some .local) = _
    rw [h]
    exact (Bool.beq_eq_decide_eq _ _)
  show pure (env.blockKind == .function && env.kindOf y == some .local && py.line == d.line && !(c.names.any fun (n, k) => n == y && (k == .local || k == .cell))) = _
  rw [hb, e1]
  rfl
def isCompI : E → Bool
  | .comp .. => true
  | _ => false
def isLC : Expr → Bool
  | .ListComp .. => true
  | _ => false
mutual
def chkS (C : CC) : S → Stmt → Bool
  | .set _ i e, s => match s with
    | .Assign [.Name x p] v _ => locB C i x && chkE C e v && (!isCompE v || (isCompI e && isLC v))
    | _ => false
  | .tset tg e, s => match s with
    | .Assign [.Tuple ts k p] v _ => chkG C tg (.Tuple ts k p) && chkE C e v && swNo C.sc ts v
    | _ => false
  | .par i j a b, s => match s with
    | .Assign [.Tuple [.Name x px, .Name y py] _ _] (.Tuple [u, v] _ _) _ => decide (swD C.sc [.Name x px, .Name y py] [u, v] = some (some [x, y])) && decide (C.N[i]? = some x) && decide (C.N[j]? = some y) && decide (i ≠ j) &&
        decide (C.sc.names.lookup x = some .local) && decide (C.sc.names.lookup y = some .local) && !isStar u && !isStar v && chkE C a u && chkE C b v
    | _ => false
  | .par3 _ _ _ _ _ _, _ => false
  | .aug o i e, s => match s with
    | .AugAssign (.Name x _) op v _ => opB o op && (match o with | .add => true | .sub => true | _ => false) && locB C i x && chkE C e v
    | _ => false
  | .ixset s i e, st => match st with
    | .Assign [.Subscript (.Name x _) y _] v _ => visB C s x && chkE C i y && chkE C e v && plainIx y
    | _ => false
  | .pst e s i s' i', st => match st with
    | .Assign [.Tuple [.Subscript (.Name x k0) y k1, .Subscript (.Name x' k2) y' k3] k p] v _ => visB C s x && chkE C i y && plainIx y && visB C s' x' && chkE C i' y' && plainIx y' && chkE C e v && swNo C.sc [.Subscript (.Name x k0) y k1, .Subscript (.Name x' k2) y' k3] v
    | _ => false
  | .ixset2 s i j e, st => match st with
    | .Assign [.Subscript (.Subscript (.Name x _) y _) z _] v _ => visB C s x && chkE C i y && plainIx y && chkE C j z && plainIx z && chkE C e v
    | _ => false
  | .ixset22 s i j i' j' e, st => match st with
    | .Assign [.Subscript (.Subscript (.Name x _) y _) z _, .Subscript (.Subscript (.Name x' _) y' _) z' _] v _ => visB C s x && chkE C i y && plainIx y && chkE C j z && plainIx z &&
        visB C s x' && chkE C i' y' && plainIx y' && chkE C j' z' && plainIx z' && chkE C e v
    | _ => false
  | .app s e, st => match st with
    | .Expr (.Call (.Attribute (.Name x _) m p2) [v] [] p3) _ => decide (m = ("append" : Str)) && (p2.endLine == p3.line) && visB C s x && !isStar v && chkE C e v
    | _ => false
  | .expr e, s => match s with
    | .Expr v _ => !isCompE v && chkE C e v
    | _ => false
  | .ret _ e, s => match s with
    | .Return (some v) _ => chkE C e v
    | _ => false
  | .retN, s => match s with
    | .Return none _ => true
    | _ => false
  | .ite t a b, s => match s with
    | .If c x y _ => chkT C t c && chkSs C a x && chkSs C b y
    | _ => false
  | .for _ tg it body, s => match s with
    | .For target iter b [] _ => chkI C it target iter && !isSetE iter && chkG C tg target && chkSs C body b
    | _ => false
  | .while _ _ t body, s => match s with
    | .While c b [] _ => chkT C t c && chkSs C body b
    | _ => false
  | .brk, s => match s with
    | .Break _ => true
    | _ => false
  | .cont, s => match s with
    | .Continue _ => true
    | _ => false
  | .pass, s => match s with
    | .Pass _ => true
    | _ => false
  | .never, _ => true
def chkSs (C : CC) : Ss → List Stmt → Bool
  | .nil, ss => match ss with
    | [] => true
    | _ => false
  | .cons s ss, xs => match xs with
    | x :: xs => chkS C s x && chkSs C ss xs
    | _ => false
end
theorem never_ok {X : Cx} (h : X.xe = fun _ _ => False) : PassesOwn (model X.prog X.w) X.A X.env X.xe := by rw [h]; exact PassesOwn.never
theorem augD_lv {o : Op} {a b d : D} (h : augD o a b = some d) : lvD d = 0 := by
  unfold augD at h
  split at h
  · cases o <;> simp only [opD] at h <;> first
      | (cases h; done)
      | (cases h; rfl)
      | (obtain ⟨_, h⟩ := if_some h; subst h; rfl)
  · cases o <;> simp only [opD] at h <;> first
      | (cases h; done)
      | (cases h; rfl)
      | (obtain ⟨_, h⟩ := if_some h; subst h; rfl)
  · cases h
theorem ip_D {X : Cx} {o : Op} (ho : (match o with | .add => true | .sub => true | _ => false) = true) : PIp X (opP o) (rD X.K (augD o)) := by
  intro pins s σ H x y v u Q I rx ry h
  obtain ⟨G, d1, d2, d, sg, p1, p2, e, q⟩ := h
  cases o with
  | add =>
    cases p1 with
    | int i =>
      cases p2 with
      | int j => cases e; exact iop_add pins s σ H _ _ v u Q I rx ry ⟨i, j, rfl, rfl, q.int⟩
      | _ => cases e
    | str i =>
      cases p2 with
      | str j =>
        obtain ⟨c, rfl⟩ := if_some (show (if lenOk (i.length + j.length) then some (PyData.str (i ++ j)) else none) = some d from e)
        exact iop_add_str pins s σ H _ _ v u Q I rx ry ⟨i, j, rfl, rfl, of_decide_eq_true c, q.str⟩
      | _ => cases e
    | _ => cases p2 <;> cases e
  | sub =>
    cases p1 with
    | int i =>
      cases p2 with
      | int j => cases e; exact iop_sub pins s σ H _ _ v u Q I rx ry ⟨i, j, rfl, rfl, q.int⟩
      | _ => cases e
    | _ => cases p2 <;> cases e
  | _ => cases ho
theorem asg_one {t : Expr} {env : Env} (h : isStar t = false) : (assignEach [t] env).map (·.2) = [assign t env] := by
  cases t <;> first | rfl | cases h
theorem sub_assign {o i : Expr} {p : Pos} {env : Env} (h : plainIx i = true) : SubA env o i p := by
  intro v
  cases i <;> first | rfl | cases h
theorem swNo_ok {sc : Scope} {env : Env} {ts : List Expr} {k : Nat} {p : Pos} {v : Expr} (hs : env.scope = sc) (hk : sc.kind = .function) (h : swNo sc ts v = true) : swappedStores [.Tuple ts k p] v env = pure none := by
  unfold swNo at h
  split at h
  · split at h
    · exact swD_ok hs hk (by assumption)
    · cases h
  · refine sw_noT ?_
    cases v <;> first | rfl | (exfalso; simp_all)
theorem sw_sub {o i e : Expr} {p : Pos} {l : Nat} {env : Env} : swapsWithSole [.Subscript o i p] e l env = pure false := by
  cases e <;> rfl
theorem sw_sub1 {o i e : Expr} {p : Pos} {env : Env} : swappedStores [.Subscript o i p] e env = pure none := by
  cases e <;> rfl
theorem sw_sub2 {o i e o' i' : Expr} {p p' : Pos} {env : Env} : swappedStores [.Subscript o i p, .Subscript o' i' p'] e env = pure none := by
  cases e <;> rfl
structure SOk (C : CC) (k : Nat) (Γ : Gm) (X : Cx) : Prop extends XOk C k Γ X where
  never : X.xe = fun _ _ => False
  kind : C.sc.kind = .function
mutual
theorem okS {C : CC} {k : Nat} {Γ : Gm} {X : Cx} (ok : SOk C k Γ X) : ∀ (t : S) (s : Stmt), chkS C t s = true → PS X s (tS X.K C.N.length (ex Γ t))
  | .set keep i e, s, h => by
    unfold chkS at h
    split at h
    · rename_i x p v pos
      obtain ⟨h, h3⟩ := ba h
      obtain ⟨h1, h2⟩ := ba h
      obtain ⟨l1, l2, l3⟩ := ok.toXOk.loc h1
      have hi : i < C.N.length := by rw [← ok.N]; exact (List.getElem?_eq_some_iff.mp l1).1
      refine ss_set hi ?_
      by_cases c : isCompE v = true
      · rw [c] at h3
        obtain ⟨hci, hlc⟩ := ba (show (isCompI e && isLC v) = true from h3)
        clear h3
        have hv : ∃ a b c d, v = .ListComp a b c d := by
          cases v <;> first | exact ⟨_, _, _, _, rfl⟩ | cases hlc
        have hsw := swC_ok (l := pos.line) (py := p) (y := x) ok.sc ok.kind hv
        cases hs : swC C.sc x p v with
        | false =>
          rw [hs] at hsw
          exact ps_set (ok.N ▸ ok.nd) l1 l2 (okE ok.toXOk e _ h2) hsw l3
        | true =>
          rw [hs] at hsw
          obtain ⟨elt, gens, scope, cpos, rfl⟩ := hv
          have hlk : X.env.scope.names.lookup x = some .local := by
            rw [ok.sc]
            unfold swC at hs
            exact of_decide_eq_true (ba (ba hs).1).1
          cases e with
          | comp k' vs tg it cs e =>
            unfold chkE at h2
            split at h2
            · rename_i heq
              cases heq
              obtain ⟨h, g9⟩ := ba h2
              obtain ⟨h, g8⟩ := ba h
              obtain ⟨h, g7⟩ := ba h
              obtain ⟨h, g6⟩ := ba h
              obtain ⟨h, g5⟩ := ba h
              obtain ⟨h, g4⟩ := ba h
              obtain ⟨h, g3⟩ := ba h
              obtain ⟨g1, g2⟩ := ba h
              obtain rfl := of_decide_eq_true g1
              have hb : BlkOk X.N X.env.scope _ (ownOf C vs) := blkOk_by (by rw [ok.N, ok.sc]; exact g3)
              exact ss_setLc ok.calm (ok.N ▸ ok.nd) l1 hlk hsw (okI ok.toXOk it _ _ g5) hb (of_decide_eq_true g2) (fun j hj => of_decide_eq_true (List.all_eq_true.mp g4 j hj))
                (fun s H A cl fp => okG (ok.toXOk.blk s H _ A cl fp) tg _ g7) (fun s H A cl fp => okF (ok.toXOk.blk s H _ A cl fp) cs _ g8) (fun s H A cl fp => okE (ok.toXOk.blk s H _ A cl fp) e _ g9) (setOk (nb g6) _)
            · cases h2
          | _ => cases hci
      · have c : isCompE v = false := by cases hh : isCompE v <;> simp_all
        exact ss_set1 (ok.N ▸ ok.nd) l1 l2 l3 (okE ok.toXOk e _ h2) c
    · cases h
  | .tset tg e, s, h => by
    unfold chkS at h
    split at h
    · rename_i ts k p v pos
      obtain ⟨h, h3⟩ := ba h
      obtain ⟨h1, h2⟩ := ba h
      exact ss_tset (okG ok.toXOk tg _ h1) (okE ok.toXOk e _ h2) (swNo_ok ok.sc ok.kind h3)
    · cases h
  | .par i j a b, s, h => by
    unfold chkS at h
    split at h
    · obtain ⟨h, h10⟩ := ba h
      obtain ⟨h, h9⟩ := ba h
      obtain ⟨h, h8⟩ := ba h
      obtain ⟨h, h7⟩ := ba h
      obtain ⟨h, h6⟩ := ba h
      obtain ⟨h, h5⟩ := ba h
      obtain ⟨h, h4⟩ := ba h
      obtain ⟨h, h3⟩ := ba h
      obtain ⟨h1, h2⟩ := ba h
      exact ss_par ok.calm (by rw [ok.N]) (ok.N ▸ ok.nd) (by rw [ok.N]; exact of_decide_eq_true h2) (by rw [ok.N]; exact of_decide_eq_true h3) (of_decide_eq_true h4)
        (by rw [ok.sc]; exact of_decide_eq_true h5) (by rw [ok.sc]; exact of_decide_eq_true h6) (okE ok.toXOk a _ h9) (okE ok.toXOk b _ h10) (nb h7) (nb h8) (swD_ok ok.sc ok.kind (of_decide_eq_true h1))
    · cases h
  | .par3 _ _ _ _ _ _, s, h => by unfold chkS at h; cases h
  | .aug o i e, s, h => by
    unfold chkS at h
    split at h
    · obtain ⟨h, h4⟩ := ba h
      obtain ⟨h, h3⟩ := ba h
      obtain ⟨h1, h2⟩ := ba h
      obtain ⟨l1, l2, l3⟩ := ok.toXOk.loc h3
      rw [opB_eq h1]
      exact ss_aug (by rw [ok.N]) (ok.N ▸ ok.nd) l1 l2 l3 (okE ok.toXOk e _ h4) (fun _ _ _ => augD_lv) (ip_D h2)
    · cases h
  | .ixset s i e, st, h => by
    unfold chkS at h
    split at h
    · obtain ⟨h, h4⟩ := ba h
      obtain ⟨h, h3⟩ := ba h
      obtain ⟨h1, h2⟩ := ba h
      obtain ⟨v1, v2, v3, v4⟩ := ok.toXOk.vis h1
      exact ss_ixset (sg_set1 (by have := ok.toXOk.hu; omega) v1 v2 v3 v4 (okE ok.toXOk i _ h2) (sub_assign h4)) (okE ok.toXOk e _ h3) sw_sub sw_sub1 rfl
    · cases h
  | .pst e s i s' i', st, h => by
    unfold chkS at h
    split at h
    · obtain ⟨h, h8⟩ := ba h
      obtain ⟨h, h7⟩ := ba h
      obtain ⟨h, h6⟩ := ba h
      obtain ⟨h, h5⟩ := ba h
      obtain ⟨h, h4⟩ := ba h
      obtain ⟨h, h3⟩ := ba h
      obtain ⟨h1, h2⟩ := ba h
      obtain ⟨v1, v2, v3, v4⟩ := ok.toXOk.vis h1
      obtain ⟨w1, w2, w3, w4⟩ := ok.toXOk.vis h4
      exact ss_pst ok.calm (sg_set1 (by have := ok.toXOk.hu; omega) v1 v2 v3 v4 (okE ok.toXOk i _ h2) (sub_assign h3)) (sg_set1 (by have := ok.toXOk.hu; omega) w1 w2 w3 w4 (okE ok.toXOk i' _ h5) (sub_assign h6)) (okE ok.toXOk e _ h7) (swNo_ok ok.sc ok.kind h8)
    · cases h
  | .ixset2 s i j e, st, h => by
    unfold chkS at h
    split at h
    · obtain ⟨h, h6⟩ := ba h
      obtain ⟨h, h5⟩ := ba h
      obtain ⟨h, h4⟩ := ba h
      obtain ⟨h, h3⟩ := ba h
      obtain ⟨h1, h2⟩ := ba h
      obtain ⟨v1, v2, v3, v4⟩ := ok.toXOk.vis h1
      exact ss_ixset2 (sg_set2 (by have := ok.toXOk.hu; omega) v1 v2 v3 v4 (okE ok.toXOk i _ h2) (okE ok.toXOk j _ h4) h3 (sub_assign h5)) (okE ok.toXOk e _ h6) sw_sub sw_sub1 rfl
    · cases h
  | .ixset22 s i j i' j' e, st, h => by
    unfold chkS at h
    split at h
    · obtain ⟨h, h11⟩ := ba h
      obtain ⟨h, h10⟩ := ba h
      obtain ⟨h, h9⟩ := ba h
      obtain ⟨h, h8⟩ := ba h
      obtain ⟨h, h7⟩ := ba h
      obtain ⟨h, h6⟩ := ba h
      obtain ⟨h, h5⟩ := ba h
      obtain ⟨h, h4⟩ := ba h
      obtain ⟨h, h3⟩ := ba h
      obtain ⟨h1, h2⟩ := ba h
      obtain ⟨v1, v2, v3, v4⟩ := ok.toXOk.vis h1
      obtain ⟨w1, w2, w3, w4⟩ := ok.toXOk.vis h6
      exact ss_ixset22 (sg_set2 (by have := ok.toXOk.hu; omega) v1 v2 v3 v4 (okE ok.toXOk i _ h2) (okE ok.toXOk j _ h4) h3 (sub_assign h5)) (sg_set2 (by have := ok.toXOk.hu; omega) w1 w2 w3 w4 (okE ok.toXOk i' _ h7) (okE ok.toXOk j' _ h9) h8 (sub_assign h10)) (okE ok.toXOk e _ h11) rfl sw_sub2
    · cases h
  | .app s e, st, h => by
    unfold chkS at h
    split at h
    · obtain ⟨h, h5⟩ := ba h
      obtain ⟨h, h4⟩ := ba h
      obtain ⟨h, h3⟩ := ba h
      obtain ⟨h1, h2⟩ := ba h
      obtain rfl := of_decide_eq_true h1
      obtain ⟨v1, v2, v3, v4⟩ := ok.toXOk.vis h3
      exact ss_app v1 v2 v3 v4 (okE ok.toXOk e _ h5) (nb h4) h2
    · cases h
  | .expr e, s, h => by
    unfold chkS at h
    split at h
    · obtain ⟨h1, h2⟩ := ba h
      exact ss_expr (okE ok.toXOk e _ h2) (nb h1)
    · cases h
  | .ret keep e, s, h => by
    unfold chkS at h
    split at h
    · exact ss_ret (okE ok.toXOk e _ h)
    · cases h
  | .retN, s, h => by
    unfold chkS at h
    split at h
    · exact ss_retN
    · cases h
  | .ite t a b, s, h => by
    unfold chkS at h
    split at h
    · obtain ⟨h, h3⟩ := ba h
      obtain ⟨h1, h2⟩ := ba h
      exact ss_ite (okT ok.toXOk t _ h1) (okSs ok a _ h2) (okSs ok b _ h3)
    · cases h
  | .for kill tg it body, s, h => by
    unfold chkS at h
    split at h
    · obtain ⟨h, h4⟩ := ba h
      obtain ⟨h, h3⟩ := ba h
      obtain ⟨h1, h2⟩ := ba h
      exact ss_for (never_ok ok.never) ok.calm (okI ok.toXOk it _ _ h1) (okG ok.toXOk tg _ h3) (okSs ok body _ h4) (setOk (nb h2) _)
    · cases h
  | .while fuel kill t body, s, h => by
    unfold chkS at h
    split at h
    · obtain ⟨h1, h2⟩ := ba h
      exact ss_while (never_ok ok.never) (okT ok.toXOk t _ h1) (okSs ok body _ h2)
    · cases h
  | .brk, s, h => by
    unfold chkS at h
    split at h
    · exact ss_brk
    · cases h
  | .cont, s, h => by
    unfold chkS at h
    split at h
    · exact ss_cont
    · cases h
  | .pass, s, h => by
    unfold chkS at h
    split at h
    · exact ss_pass
    · cases h
  | .never, s, h => ss_never
theorem okSs {C : CC} {k : Nat} {Γ : Gm} {X : Cx} (ok : SOk C k Γ X) : ∀ (t : Ss) (s : List Stmt), chkSs C t s = true → PSs X s (tS X.K C.N.length (exs Γ t))
  | .nil, s, h => by
    unfold chkSs at h
    split at h
    · exact ss_nil
    · cases h
  | .cons t ts, s, h => by
    unfold chkSs at h
    split at h
    · obtain ⟨h1, h2⟩ := ba h
      exact ss_cons (okS ok t _ h1) (okSs ok ts _ h2)
    · cases h
end

/-! ### a def -/
theorem ent_len {io : Bool} {n : Nat} : ∀ {ds : List D}, ds.length ≤ n → (ent io n ds).length = n
  | [], _ => List.length_replicate ..
  | d :: ds, h => by
    unfold ent
    rw [List.length_cons, List.length_append, List.length_map, List.length_replicate]
    simp only [List.length_cons] at h
    omega
theorem gt_app {l r : Ev} {i : Nat} (h : i < l.length) : gt (l ++ r) i = gt l i := by
  induction l generalizing i with
  | nil => simp at h
  | cons a l ih => cases i with
    | zero => rfl
    | succ i => exact ih (by simpa using h)
theorem gt_app2 {l r : Ev} {i : Nat} (h : l.length ≤ i) : gt (l ++ r) i = gt r (i - l.length) := by
  induction l generalizing i with
  | nil => rfl
  | cons a l ih => cases i with
    | zero => simp at h
    | succ i =>
      rw [show (a :: l).length = l.length + 1 from rfl, Nat.add_sub_add_right]
      exact ih (by simpa using h)
theorem gt_repl {n i : Nat} : gt (List.replicate n Sl.un) i = .un := by
  induction n generalizing i with
  | zero => rfl
  | succ n ih => cases i with
    | zero => rfl
    | succ i => exact ih
theorem gt_map {ds : List D} {i : Nat} : gt (ds.map (Sl.sl 0)) i = match ds[i]? with | some d => .sl 0 d | none => .un := by
  induction ds generalizing i with
  | nil => rfl
  | cons d ds ih => cases i with
    | zero => rfl
    | succ i => exact ih
theorem start_get {N : List Str} {vs : List V} {i : Nat} : (L2.start N vs)[i]? = if i < vs.length then (vs[i]?).map some else if i < N.length then some none else none := by
  unfold L2.start
  by_cases h : i < vs.length
  · rw [if_pos h, List.getElem?_append_left (by simpa using h), List.getElem?_map]
  · rw [if_neg h, List.getElem?_append_right (by simpa using h), List.length_map, List.getElem?_replicate]
    by_cases c : i < N.length
    · rw [if_pos c, if_pos (by omega)]
    · rw [if_neg c, if_neg (by omega)]
/-- the slots at a def's entry -/
theorem rel_start {K : PySem.W.Frag} {N : List Str} {io : Bool} {vs : List V} {ds : List D} {G H : Hp} {ioA : Option Addr} (hl : vs.length ≤ N.length) (hle : ds.length = vs.length) (sg : Same G H)
    (h : ArgOk K io G H vs ds ioA) :
    Rel K ⟨fun a => if ioA = some a then none else H a, G, H, ioA, N.length⟩ (L2.start N vs) H (ent io N.length ds) G (fun i => if i = 0 then ioA.toList else []) := by
  have slen : (L2.start N vs).length = N.length := by
    unfold L2.start
    rw [List.length_append, List.length_map, List.length_replicate]; omega
  refine ⟨slen, ent_len (by omega), fun i => ?_, fun i => ?_, fun i j hij a ha hb => ?_, fun i a ha => ?_, sg, fun a o e => ?_, fun a h => .inr (.inl h), Same.refl _, fun _ h => h⟩
  · cases io with
    | false =>
      obtain ⟨rfl, p⟩ := h
      have hg : gt (ent false N.length ds) i = match ds[i]? with | some d => .sl 0 d | none => .un := by
        cases ds with
        | nil => exact gt_repl
        | cons d dr =>
          cases i with
          | zero => rfl
          | succ i =>
            show gt (dr.map (Sl.sl 0) ++ _) i = match dr[i]? with | some d => .sl 0 d | none => .un
            by_cases c : i < dr.length
            · rw [gt_app (by simpa using c), gt_map]
            · rw [gt_app2 (by simpa using c), gt_repl, List.getElem?_eq_none (by omega)]
      rw [hg]
      cases e : ds[i]? with
      | none => show (if i = 0 then [] else []) = []; split <;> rfl
      | some d =>
        obtain ⟨v, hv, pv⟩ := p.get e
        have hi : i < vs.length := (List.getElem?_eq_some_iff.mp hv).1
        exact ⟨v, by rw [start_get, if_pos hi, hv]; rfl, ⟨pv, by show (if i = 0 then [] else []) = []; split <;> rfl⟩, fun a ha => by
          have : a ∈ (if i = 0 then ([] : List Addr) else []) := ha
          split at this <;> cases this⟩
    | true =>
      obtain ⟨a, vr, d, dr, rfl, rfl, rfl, ow, hG, p⟩ := h
      cases i with
      | zero =>
        refine ⟨a, by rw [start_get, if_pos (by simp)]; rfl, rfl, rfl, ow⟩
      | succ i =>
        have hg : gt (ent true N.length (d :: dr)) (i + 1) = match dr[i]? with | some d => .sl 0 d | none => .un := by
          show gt (dr.map (Sl.sl 0) ++ _) i = match dr[i]? with | some d => .sl 0 d | none => .un
          by_cases c : i < dr.length
          · rw [gt_app (by simpa using c), gt_map]
          · rw [gt_app2 (by simpa using c), gt_repl, List.getElem?_eq_none (by omega)]
        rw [hg]
        cases e : dr[i]? with
        | none => rfl
        | some d' =>
          obtain ⟨v, hv, pv⟩ := p.get e
          have hi : i < vr.length := (List.getElem?_eq_some_iff.mp hv).1
          exact ⟨v, by rw [start_get, if_pos (by simpa using hi), List.getElem?_cons_succ, hv]; rfl, ⟨pv, rfl⟩, fun a ha => by cases ha⟩
  · show List.Nodup (if i = 0 then _ else _)
    split
    · cases ioA with
      | none => exact List.nodup_nil
      | some a => simp
    · exact List.nodup_nil
  · have ha : a ∈ (if i = 0 then ioA.toList else []) := ha
    have hb : a ∈ (if j = 0 then ioA.toList else []) := hb
    by_cases c : i = 0
    · by_cases c' : j = 0
      · exact hij (c.trans c'.symm)
      · rw [if_neg c'] at hb; cases hb
    · rw [if_neg c] at ha; cases ha
  · have ha : a ∈ (if i = 0 then ioA.toList else []) := ha
    by_cases c : i = 0
    · rw [if_pos c] at ha
      cases io with
      | false => obtain ⟨rfl, _⟩ := h; cases ha
      | true =>
        obtain ⟨a', vr, d, dr, rfl, rfl, rfl, ow, hG, p⟩ := h
        have e : a = a' := by simpa using ha
        subst e
        exact ⟨hG, if_pos rfl⟩
    · rw [if_neg c] at ha; cases ha
  · have e : (if ioA = some a then none else H a) = some o := e
    by_cases c : ioA = some a
    · rw [if_pos c] at e; cases e
    · rw [if_neg c] at e; exact e
/-- THE RULE: a def keeps its promise, by its text -/
theorem fn_ok {P : Program} {w : World} {K : PySem.W.Frag} {mg : Str → Option Value} {base : Heap} {x qual : Str} {st : Stmt} {f : Addr} {fd : FuncData} {N ps : List Str} {k : Nat} {io : Bool} {Γ : Gm} {body : Ss} {fs : List (Str × Nat × Bool)} {cn : List (Str × Int)}
    (F : Fun K x qual st f fd) (S : FnScope N ps (defScope st)) (hio : io = true → ps ≠ [])
    (df : ∀ j y np io, fs[j]? = some (y, np, io) → (∀ ds r, Γ j ds = some r → ds.length = np) ∧ ∃ f fd ps, ps.length = np ∧ mg y = some (.ref f) ∧ PySem.W.keepIn K (.ref f) = true ∧ L2.Binds K fd ps [] ∧ FnOk P w K mg base CX0 k f fd ps (spF K io np (Γ j)))
    (bt : ∀ y ∈ bltL, mg y = none) (hcn : ∀ (g : Nat) y i, cn[g]? = some (y, i) → ∃ t, mg y = some (.int i t))
    (hchk : chkSs ⟨N, defScope st, fun _ => true, fs, cn⟩ body (defBody st) = true) :
    FnOk P w K mg base CX0 (k + 1) f fd ps (spF K io ps.length (run Γ io ps.length N.length body)) := by
  refine F.ok S (fun vs H Q E h => h.1) fun cdv A outer s H vs Q E hr h => ?_
  obtain ⟨hlen, ds, r, G, ioA, hS, sg, hargs, q⟩ := h
  have hpl : ps.length ≤ N.length := by have := congrArg List.length S.pre; rw [List.length_take] at this; omega
  refine ⟨_, okSs (C := ⟨N, defScope st, fun _ => true, fs, cn⟩) (k := k) (Γ := Γ) ⟨⟨rfl, S.nd, rfl, fun _ => rfl, rfl, hr, fun j y np io h => ⟨(df j y np io h).1, (df j y np io h).2⟩, bt, hcn⟩, rfl, S.kind⟩ body _ hchk, ?_⟩
  unfold run at hS
  obtain ⟨hdl, hS⟩ : ds.length = ps.length ∧ (exs Γ body (ent io N.length ds)).bind (outF io) = some r := by
    by_cases c : ds.length = ps.length
    · rw [if_pos c] at hS; exact ⟨c, hS⟩
    · rw [if_neg c] at hS; cases hS
  cases ho : exs Γ body (ent io N.length ds) with
  | none => rw [ho] at hS; cases hS
  | some o =>
    rw [ho] at hS
    have hS : outF io o = some r := hS
    refine ⟨_, _, G, _, rfl, rel_start (K := K) (N := N) (io := io) (vs := vs) (ds := ds) (ioA := ioA) (by omega) (by omega) sg hargs, o, ho, ?_⟩
    have fin : ∀ (ρ' : Ev) (x : D) (d : D) (k' : Nat), ioOf io ρ' = some x → r = ⟨d, k', x⟩ → ∀ v σ' H' G' fp' fv, Same G G' → Rel K ⟨fun a => if ioA = some a then none else H a, G, H, ioA, N.length⟩ σ' H' ρ' G' fp' → OwN K ⟨fun a => if ioA = some a then none else H a, G, H, ioA, N.length⟩ G' H' k' v d fp' fv → Q v H' := by
      intro ρ' x d k' hx hr v σ' H' G' fp' fv s1 r1 o1
      subst hr
      refine q v H' G' fv s1 r1.gh (fun a o e c => r1.rh a o (by show (if ioA = some a then none else H a) = some o; rw [if_neg c]; exact e)) (fun a h => ?_) o1.ow o1.nd (fun a ha => ⟨(o1.own a ha).1, (o1.own a ha).2.2⟩) fun a ha => ?_
      · rcases r1.fr a h with z | z | ⟨z, _⟩
        · exact .inl z
        · exact .inr (.inl z)
        · exact .inr (.inr z)
      · subst ha
        cases io with
        | false => obtain ⟨z, _⟩ := hargs; cases z
        | true =>
          cases ρ' with
          | nil => cases hx
          | cons s0 ρr =>
            cases s0 with
            | un => cases hx
            | sl k d => cases hx
            | io d0 =>
              cases hx
              have w := r1.sl 0
              obtain ⟨a', e1, e2, e3, ow⟩ := w
              cases e2
              exact ⟨ow, (r1.own 0 _ (by rw [e3]; simp)).1⟩
    cases o with
    | nx ρ' =>
      intro σ' H' G' fp' s1 r1
      cases hx : ioOf io ρ' with
      | none => simp [outF, hx] at hS
      | some x => exact fin ρ' x .none 0 hx (by simpa [outF, hx] using hS.symm) .non σ' H' G' fp' [] s1 r1 (OwN.val .non)
    | rt d k' ρ' =>
      intro v σ' H' G' fp' fv s1 r1 o1
      cases hx : ioOf io ρ' with
      | none => simp [outF, hx] at hS
      | some x => exact fin ρ' x d k' hx (by simpa [outF, hx] using hS.symm) v σ' H' G' fp' fv s1 r1 o1
    | bk ρ' => cases hS
    | ct ρ' => cases hS
theorem run_len {Γ : Gm} {io : Bool} {np n : Nat} {body : Ss} {ds : List D} {r : FR} (h : run Γ io np n body ds = some r) : ds.length = np := by
  unfold run at h
  by_cases c : ds.length = np
  · exact c
  · rw [if_neg c] at h; cases h
end DI

/-! DI10: defs by name; a law's end. -/
namespace DI
open PySem PySem.Spec PyProof.Rows L2
/-- where a def stands -/
structure AtD (K : PySem.W.Frag) (mg : Str → Option Value) (x : Str) (st : Stmt) (f : Addr) (fd : FuncData) (ps : List Str) : Prop where
  g : mg x = some (.ref f)
  F : FunD K x x (defArgs st) (defBody st) (defScope st) [] [] f fd
  b : L2.Binds K fd ps []
/-- a def as others call it -/
def DfQ (P : Program) (w : World) (K : PySem.W.Frag) (mg : Str → Option Value) (base : Heap) (k : Nat) (y : Str) (np : Nat) (io : Bool) (S : Fn) : Prop :=
  (∀ ds r, S ds = some r → ds.length = np) ∧ ∃ f fd ps, ps.length = np ∧ mg y = some (.ref f) ∧ PySem.W.keepIn K (.ref f) = true ∧ L2.Binds K fd ps [] ∧ FnOk P w K mg base CX0 k f fd ps (spF K io np S)
section
variable {P : Program} {w : World} {K : PySem.W.Frag} {mg : Str → Option Value} {base : Heap} {k : Nat}
theorem DfQ.mono {y : Str} {np : Nat} {io : Bool} {S : Fn} {j : Nat} (h : DfQ P w K mg base j y np io S) (hj : j ≤ k) : DfQ P w K mg base k y np io S := by
  obtain ⟨h1, f, fd, ps, h2, h3, h4, h5, h6⟩ := h
  exact ⟨h1, f, fd, ps, h2, h3, h4, h5, h6.mono hj⟩
theorem df_nil {Γ : Gm} : ∀ (j : Nat) (y : Str) (np : Nat) (io : Bool), ([] : List (Str × Nat × Bool))[j]? = some (y, np, io) → DfQ P w K mg base k y np io (Γ j) := fun j y np io h => by simp at h
theorem df_cons {x : Str} {n : Nat} {b : Bool} {fs : List (Str × Nat × Bool)} {Γ : Gm} (h0 : DfQ P w K mg base k x n b (Γ 0)) (h : ∀ (j : Nat) (y : Str) (np : Nat) (io : Bool), fs[j]? = some (y, np, io) → DfQ P w K mg base k y np io (Γ (j + 1))) :
    ∀ (j : Nat) (y : Str) (np : Nat) (io : Bool), ((x, n, b) :: fs)[j]? = some (y, np, io) → DfQ P w K mg base k y np io (Γ j)
  | 0, _, _, _, e => by cases e; exact h0
  | j + 1, y, np, io, e => h j y np io e
theorem cn_nil : ∀ (g : Nat) (y : Str) (i : Int), ([] : List (Str × Int))[g]? = some (y, i) → ∃ t, mg y = some (.int i t) := fun j y i h => by simp at h
theorem cn_cons {x : Str} {n : Int} {cn : List (Str × Int)} (h0 : ∃ t, mg x = some (.int n t)) (h : ∀ (g : Nat) (y : Str) (i : Int), cn[g]? = some (y, i) → ∃ t, mg y = some (.int i t)) :
    ∀ (g : Nat) (y : Str) (i : Int), ((x, n) :: cn)[g]? = some (y, i) → ∃ t, mg y = some (.int i t)
  | 0, _, _, e => by cases e; exact h0
  | j + 1, y, i, e => h j y i e
theorem dq_ok {x : Str} {st : Stmt} {f : Addr} {fd : FuncData} {N ps : List Str} {io : Bool} {Γ : Gm} {body : Ss} {fs : List (Str × Nat × Bool)} {cn : List (Str × Int)}
    (D : AtD K mg x st f fd ps) (S : FnScope N ps (defScope st)) (hio : io = true → ps ≠ [])
    (df : ∀ j y np io, fs[j]? = some (y, np, io) → DfQ P w K mg base k y np io (Γ j))
    (bt : ∀ y ∈ bltL, mg y = none) (hcn : ∀ (g : Nat) y i, cn[g]? = some (y, i) → ∃ t, mg y = some (.int i t))
    (hchk : chkSs ⟨N, defScope st, fun _ => true, fs, cn⟩ body (defBody st) = true) :
    DfQ P w K mg base (k + 1) x ps.length io (run Γ io ps.length N.length body) :=
  ⟨fun ds r h => run_len h, f, fd, ps, rfl, D.g, D.F.kp, D.b, fn_ok (He5.fun_of D.F) S hio df bt hcn hchk⟩
/-- a def that calls itself: at no depth it is never asked -/
theorem dq_zero {x : Str} {st : Stmt} {f : Addr} {fd : FuncData} {ps : List Str} (D : AtD K mg x st f fd ps) : DfQ P w K mg base k x ps.length false (fun _ => none) :=
  ⟨(fun ds r h => by cases h), f, fd, ps, rfl, D.g, D.F.kp, D.b, ⟨fun vs H Q E h => h.1, fun A outer s H args us vs Q E _ _ _ _ h => by
    obtain ⟨_, ds, r, G, ioA, hS, _⟩ := h
    cases hS⟩⟩
end
/-- a fact, by the list alone -/
theorem factM {fa : List He.Fa} {fn : List He.DefD} {K : PySem.W.Frag} (c : He.SaysD fa fn K) {f : He.Fa} (h : f ∈ fa) : f.ok K = true := by
  obtain ⟨i, hi, e⟩ := List.mem_iff_getElem.mp h
  exact c.fact i (by rw [List.getElem?_eq_getElem hi, e])
theorem bt_of {fa : List He.Fa} {fn : List He.DefD} {K : PySem.W.Frag} {h : Heap} {mg : Str → Option Value} (X : K.In h) (G : h.Ns mainGlobals mg) (c : He.SaysD fa fn K) (hf : ∀ y ∈ bltL, He.Fa.free y ∈ fa) : ∀ y ∈ bltL, mg y = none :=
  fun y hy => He.free_ok X G (factM c (hf y hy))
/-- the law's promise, by what it reckons -/
theorem law_end {K : PySem.W.Frag} {S : Fn} {H : Hp} {a : Addr} {ns : List Int} {Q : VK} {E : XK} (hS : SqL K H a (ns.map V.int)) (hl : ns.length ≤ 63) {k : Nat} {x : D} (h : S [.dict [(.none, .list (ns.map .int))]] = some ⟨.bool true, 0, x⟩) (q : ∀ v H, v = V.bl true → Q v H) :
    spF K false 1 S [.ref a] H Q E := by
  refine ⟨rfl, [.dict [(.none, .list (ns.map .int))]], _, H, none, h, Same.refl H, ⟨rfl, .cons (.scr hS ?_ (rpA_ints ns)) .nil⟩, fun v H' G' fv _ _ _ _ ow _ _ _ => q v H' ?_⟩
  · rw [List.length_map, sizeLine_eq]; omega
  · obtain ⟨r, _⟩ := ow
    cases r
    rfl
end DI

/-! DIW: reckoning with the language: one step after the other. -/
namespace DI
open PySem
theorem mb_congr {α β : Type} {m m' : Option (α × Ev)} {f : α → Ev → Option β} (h : m = m') : mb m f = mb m' f := by rw [h]
theorem ob_congr {α β : Type} {m m' : Option α} {f : α → Option β} (h : m = m') : m.bind f = m'.bind f := by rw [h]
theorem om_congr {α β : Type} {m m' : Option α} {f : α → β} (h : m = m') : m.map f = m'.map f := by rw [h]
@[simp] theorem exs_nil (Γ : Gm) (ρ : Ev) : exs Γ .nil ρ = some (.nx ρ) := rfl
/-- what comes behind a statement -/
def nxt (Γ : Gm) (ss : Ss) (o : Out) : Option Out := match o with
    | .nx ρ => exs Γ ss ρ
    | o => some o
theorem exs_cons (Γ : Gm) (s : S) (ss : Ss) (ρ : Ev) : exs Γ (.cons s ss) ρ = (ex Γ s ρ).bind (nxt Γ ss) := id rfl
theorem nxt_nx (Γ : Gm) (ss : Ss) (ρ : Ev) : nxt Γ ss (.nx ρ) = exs Γ ss ρ := id rfl
theorem nxt_rt (Γ : Gm) (ss : Ss) (d : D) (k : Nat) (ρ : Ev) : nxt Γ ss (.rt d k ρ) = some (.rt d k ρ) := id rfl
theorem nxt_bk (Γ : Gm) (ss : Ss) (ρ : Ev) : nxt Γ ss (.bk ρ) = some (.bk ρ) := id rfl
theorem nxt_ct (Γ : Gm) (ss : Ss) (ρ : Ev) : nxt Γ ss (.ct ρ) = some (.ct ρ) := id rfl
/-! ### the rows of the evaluators (printed by eqs.py) -/
theorem ev_nm {Γ : Gm} {i : _} {ρ : Ev} : ev Γ (.nm i) ρ = (rdN i ρ) := id rfl
theorem ev_int {Γ : Gm} {i : _} {ρ : Ev} : ev Γ (.int i) ρ = (some ((.int i, 0), ρ)) := id rfl
theorem ev_bl {Γ : Gm} {b : _} {ρ : Ev} : ev Γ (.bl b) ρ = (some ((.bool b, 0), ρ)) := id rfl
theorem ev_non {Γ : Gm} {ρ : Ev} : ev Γ (.non) ρ = (some ((.none, 0), ρ)) := id rfl
theorem ev_str {Γ : Gm} {s : _} {ρ : Ev} : ev Γ (.str s) ρ = (some ((.str s, 0), ρ)) := id rfl
theorem ev_glb {Γ : Gm} {u1 : _} {i : _} {ρ : Ev} : ev Γ (.glb u1 i) ρ = (some ((.int i, 0), ρ)) := id rfl
theorem ev_op {Γ : Gm} {o : _} {a : _} {b : _} {ρ : Ev} : ev Γ (.op o a b) ρ = (mb (ev Γ a ρ) fun x ρ => mb (ev Γ b ρ) fun y ρ => (opD o x.1 y.1).map fun d => ((d, lvD d), ρ)) := id rfl
theorem ev_neg {Γ : Gm} {a : _} {ρ : Ev} : ev Γ (.neg a) ρ = (mb (ev Γ a ρ) fun x ρ => match x.1 with
    | .int i => some ((.int (-i), 0), ρ)
    | _ => none) := id rfl
theorem ev_tst {Γ : Gm} {t : _} {ρ : Ev} : ev Γ (.tst t) ρ = (mb (evT Γ t ρ) fun b ρ => some ((.bool b, 0), ρ)) := id rfl
theorem ev_ife {Γ : Gm} {t : _} {a : _} {b : _} {ρ : Ev} : ev Γ (.ife t a b) ρ = (mb (evT Γ t ρ) fun c ρ => if c then ev Γ a ρ else ev Γ b ρ) := id rfl
theorem ev_tup {Γ : Gm} {es : _} {ρ : Ev} : ev Γ (.tup es) ρ = (mb (evs Γ es ρ) fun ds ρ => if lenOk ds.length then some ((.tuple ds, 0), ρ) else none) := id rfl
theorem ev_lst {Γ : Gm} {es : _} {ρ : Ev} : ev Γ (.lst es) ρ = (mb (evs Γ es ρ) fun ds ρ => if lenOk ds.length then some ((.list ds, 1), ρ) else none) := id rfl
theorem ev_ix {Γ : Gm} {a : _} {i : _} {ρ : Ev} : ev Γ (.ix a i) ρ = (mb (ev Γ a ρ) fun x ρ => mb (ev Γ i ρ) fun y ρ => (ixD x.1 y.1).map fun d => ((d, 0), ρ)) := id rfl
theorem ev_bix {Γ : Gm} {s : _} {i : _} {ρ : Ev} : ev Γ (.bix s i) ρ = ((ow01 s ρ).bind fun _ => mb (ev Γ i ρ) fun y ρ => (ow01 s ρ).bind fun d => (ixD d y.1).map fun r => ((r, 0), ρ)) := id rfl
theorem ev_bix2 {Γ : Gm} {s : _} {i : _} {j : _} {ρ : Ev} : ev Γ (.bix2 s i j) ρ = ((ow2 s ρ).bind fun _ => mb (ev Γ i ρ) fun y ρ => (ow2 s ρ).bind fun d => (ixD d y.1).bind fun d => mb (ev Γ j (wp ρ [s])) fun z ρ' => (ixD d z.1).map fun r => ((r, 0), bk ρ [s] ρ')) := id rfl
theorem ev_slc {Γ : Gm} {a : _} {lo : _} {hi : _} {ρ : Ev} : ev Γ (.slc a lo hi) ρ = (mb (ev Γ a ρ) fun x ρ => mb (evo Γ lo ρ) fun l ρ => mb (evo Γ hi ρ) fun h ρ => (slD x.1 l h).map fun d => ((d, lvD d), ρ)) := id rfl
theorem ev_call {Γ : Gm} {f : _} {es : _} {ρ : Ev} : ev Γ (.call f es) ρ = (mb (evs Γ es ρ) fun ds ρ => (Γ f ds).map fun r => ((r.d, r.k), ρ)) := id rfl
theorem ev_cio {Γ : Gm} {f : _} {s : _} {es : _} {ρ : Ev} : ev Γ (.cio f s es) ρ = ((ow1 s ρ).bind fun _ => mb (evs Γ es ρ) fun ds ρ => match gt ρ s with
    | .sl 1 d => (Γ f (d :: ds)).map fun r => ((r.d, r.k), st ρ s (.sl 1 r.io))
    | .io d => (Γ f (d :: ds)).map fun r => ((r.d, r.k), st ρ s (.io r.io))
    | _ => none) := id rfl
theorem ev_b1 {Γ : Gm} {f : _} {a : _} {ρ : Ev} : ev Γ (.b1 f a) ρ = (mb (ev Γ a ρ) fun x ρ => (b1D f x.1).map fun d => ((d, lvD d), ρ)) := id rfl
theorem ev_dnew {Γ : Gm} {t : _} {ρ : Ev} : ev Γ (.dnew t) ρ = (some ((.dict [(.bool !t, .none)], 1), ρ)) := id rfl
theorem ev_blen {Γ : Gm} {s : _} {ρ : Ev} : ev Γ (.blen s) ρ = ((ow01 s ρ).bind fun x => (b1D .len x).map fun d => ((d, 0), ρ)) := id rfl
theorem ev_b2 {Γ : Gm} {f : _} {a : _} {b : _} {ρ : Ev} : ev Γ (.b2 f a b) ρ = (mb (ev Γ a ρ) fun x ρ => mb (ev Γ b ρ) fun y ρ => (b2D f x.1 y.1).map fun d => ((d, 0), ρ)) := id rfl
theorem ev_isi {Γ : Gm} {t : _} {a : _} {ρ : Ev} : ev Γ (.isi t a) ρ = (mb (ev Γ a ρ) fun x ρ => match x.1 with
      | .dict _ => none
      | d => some ((.bool (isiD t d), 0), ρ)) := id rfl
theorem evs_nil {Γ : Gm} {ρ : Ev} : evs Γ (.nil) ρ = (some ([], ρ)) := id rfl
theorem evs_cons {Γ : Gm} {e : _} {es : _} {ρ : Ev} : evs Γ (.cons e es) ρ = (mb (ev Γ e ρ) fun x ρ => mb (evs Γ es ρ) fun xs ρ => some (x.1 :: xs, ρ)) := id rfl
theorem evo_no {Γ : Gm} {ρ : Ev} : evo Γ (.no) ρ = (some (none, ρ)) := id rfl
theorem evo_yes {Γ : Gm} {e : _} {ρ : Ev} : evo Γ (.yes e) ρ = (mb (ev Γ e ρ) fun x ρ => match x.1 with
    | .int i => some (some i, ρ)
    | _ => none) := id rfl
theorem evT_ex {Γ : Gm} {e : _} {ρ : Ev} : evT Γ (.ex e) ρ = (mb (ev Γ e ρ) fun x ρ => match x.1 with
    | .bool b => some (b, ρ)
    | _ => none) := id rfl
theorem evT_cm {Γ : Gm} {c : _} {a : _} {b : _} {ρ : Ev} : evT Γ (.cm c a b) ρ = (mb (ev Γ a ρ) fun x ρ => mb (ev Γ b ρ) fun y ρ => (cmD c x.1 y.1).map fun b => (b, ρ)) := id rfl
theorem evT_chn {Γ : Gm} {c : _} {c' : _} {a : _} {b : _} {d : _} {ρ : Ev} : evT Γ (.chn c c' a b d) ρ = (mb (ev Γ a ρ) fun x ρ => mb (ev Γ b ρ) fun y ρ => (cmD c x.1 y.1).bind fun k =>
      if k then mb (ev Γ d ρ) fun z ρ => (cmD c' y.1 z.1).map fun b => (b, ρ) else some (false, ρ)) := id rfl
theorem evT_not {Γ : Gm} {t : _} {ρ : Ev} : evT Γ (.not t) ρ = (mb (evT Γ t ρ) fun b ρ => some (!b, ρ)) := id rfl
theorem evT_and {Γ : Gm} {ts : _} {ρ : Ev} : evT Γ (.and ts) ρ = (evA Γ ts ρ) := id rfl
theorem evT_or {Γ : Gm} {ts : _} {ρ : Ev} : evT Γ (.or ts) ρ = (evR Γ ts ρ) := id rfl
theorem evA_nil {Γ : Gm} {ρ : Ev} : evA Γ (.nil) ρ = (some (true, ρ)) := id rfl
theorem evA_cons {Γ : Gm} {t : _} {ts : _} {ρ : Ev} : evA Γ (.cons t ts) ρ = (mb (evT Γ t ρ) fun b ρ => if b then evA Γ ts ρ else some (false, ρ)) := id rfl
theorem evR_nil {Γ : Gm} {ρ : Ev} : evR Γ (.nil) ρ = (some (false, ρ)) := id rfl
theorem evR_cons {Γ : Gm} {t : _} {ts : _} {ρ : Ev} : evR Γ (.cons t ts) ρ = (mb (evT Γ t ρ) fun b ρ => if b then some (true, ρ) else evR Γ ts ρ) := id rfl
theorem evI_ex {Γ : Gm} {e : _} {ρ : Ev} : evI Γ (.ex e) ρ = (mb (ev Γ e ρ) fun x ρ => match x.1 with
    | .list xs => some (xs, ρ)
    | .tuple xs => some (xs, ρ)
    | _ => none) := id rfl
theorem evI_rng1 {Γ : Gm} {e : _} {ρ : Ev} : evI Γ (.rng1 e) ρ = (mb (ev Γ e ρ) fun x ρ => match x.1 with
    | .int n => if lenOk n.toNat && decide (-(2 ^ 62) ≤ n) then some (rngD n.toNat 0, ρ) else none
    | _ => none) := id rfl
theorem evI_rng2 {Γ : Gm} {a : _} {b : _} {ρ : Ev} : evI Γ (.rng2 a b) ρ = (mb (ev Γ a ρ) fun x ρ => mb (ev Γ b ρ) fun y ρ => match x.1, y.1 with
    | .int i, .int j => if lenOk (j - i).toNat && decide (-(2 ^ 62) ≤ i) && decide (i < 2 ^ 62) && decide (-(2 ^ 62) ≤ j) && decide (j < 2 ^ 62) then some (rngD (j - i).toNat i, ρ) else none
    | _, _ => none) := id rfl
theorem evI_enm {Γ : Gm} {e : _} {ρ : Ev} : evI Γ (.enm e) ρ = (mb (ev Γ e ρ) fun x ρ => match x.1 with
    | .list xs => some (enumD 0 xs, ρ)
    | .tuple xs => some (enumD 0 xs, ρ)
    | _ => none) := id rfl
theorem evI_zip {Γ : Gm} {a : _} {b : _} {ρ : Ev} : evI Γ (.zip a b) ρ = (mb (ev Γ a ρ) fun x ρ => mb (ev Γ b ρ) fun y ρ => match x.1, y.1 with
    | .list xs, .list ys => some (zipD xs ys, ρ)
    | .tuple xs, .tuple ys => some (zipD xs ys, ρ)
    | _, _ => none) := id rfl
theorem ex_set {Γ : Gm} {keep : _} {i : _} {e : _} {ρ : Ev} : ex Γ (.set keep i e) ρ = (mb (ev Γ e ρ) (setS keep i)) := id rfl
theorem ex_tset {Γ : Gm} {tg : _} {e : _} {ρ : Ev} : ex Γ (.tset tg e) ρ = (mb (ev Γ e ρ) fun x ρ => (bnd tg x.1 ρ).map .nx) := id rfl
theorem ex_par {Γ : Gm} {i : _} {j : _} {a : _} {b : _} {ρ : Ev} : ex Γ (.par i j a b) ρ = (mb (ev Γ a ρ) fun x ρ => mb (ev Γ b ρ) fun y ρ => if setable (gt ρ i) && setable (gt ρ j) then some (.nx (st (st ρ i (.sl 0 x.1)) j (.sl 0 y.1))) else none) := id rfl
theorem ex_par3 {Γ : Gm} {i : _} {j : _} {l : _} {a : _} {b : _} {c : _} {ρ : Ev} : ex Γ (.par3 i j l a b c) ρ = (mb (ev Γ a ρ) fun x ρ => mb (ev Γ b ρ) fun y ρ => mb (ev Γ c ρ) fun z ρ =>
      if setable (gt ρ i) && setable (gt ρ j) && setable (gt ρ l) then some (.nx (st (st (st ρ i (.sl 0 x.1)) j (.sl 0 y.1)) l (.sl 0 z.1))) else none) := id rfl
theorem ex_aug {Γ : Gm} {o : _} {i : _} {e : _} {ρ : Ev} : ex Γ (.aug o i e) ρ = ((match gt ρ i with | .sl 0 d => some d | _ => none).bind fun d => mb (ev Γ e ρ) fun y ρ => (augD o d y.1).map fun d => .nx (st ρ i (.sl 0 d))) := id rfl
theorem ex_ixset {Γ : Gm} {s : _} {i : _} {e : _} {ρ : Ev} : ex Γ (.ixset s i e) ρ = (mb (ev Γ e ρ) fun x ρ => (set1 s (ev Γ i) x.1 ρ).map .nx) := id rfl
theorem ex_pst {Γ : Gm} {e : _} {s : _} {i : _} {s' : _} {i' : _} {ρ : Ev} : ex Γ (.pst e s i s' i') ρ = (mb (ev Γ e ρ) fun x ρ => match x.1 with
    | .tuple [a, b] => (set1 s (ev Γ i) a ρ).bind fun ρ => (set1 s' (ev Γ i') b ρ).map .nx
    | _ => none) := id rfl
theorem ex_ixset2 {Γ : Gm} {s : _} {i : _} {j : _} {e : _} {ρ : Ev} : ex Γ (.ixset2 s i j e) ρ = (mb (ev Γ e ρ) fun x ρ => (set2 s (ev Γ i) (ev Γ j) x.1 ρ).map .nx) := id rfl
theorem ex_ixset22 {Γ : Gm} {s : _} {i : _} {j : _} {i' : _} {j' : _} {e : _} {ρ : Ev} : ex Γ (.ixset22 s i j i' j' e) ρ = (mb (ev Γ e ρ) fun x ρ => (set2 s (ev Γ i) (ev Γ j) x.1 ρ).bind fun ρ => (set2 s (ev Γ i') (ev Γ j') x.1 ρ).map .nx) := id rfl
theorem ex_app {Γ : Gm} {s : _} {e : _} {ρ : Ev} : ex Γ (.app s e) ρ = ((ow1 s ρ).bind fun d0 => if isL d0 then mb (ev Γ e ρ) fun x ρ => (ow1 s ρ).bind fun d => ((appD x.1 d).map fun d => .nx (up1 s d ρ)) else none) := id rfl
theorem ex_expr {Γ : Gm} {e : _} {ρ : Ev} : ex Γ (.expr e) ρ = (mb (ev Γ e ρ) fun _ ρ => some (.nx ρ)) := id rfl
theorem ex_ret {Γ : Gm} {keep : _} {e : _} {ρ : Ev} : ex Γ (.ret keep e) ρ = (mb (ev Γ e ρ) fun x ρ => some (.rt x.1 (if keep then x.2 else 0) ρ)) := id rfl
theorem ex_retN {Γ : Gm} {ρ : Ev} : ex Γ (.retN) ρ = (some (.rt .none 0 ρ)) := id rfl
theorem ex_ite {Γ : Gm} {t : _} {a : _} {b : _} {ρ : Ev} : ex Γ (.ite t a b) ρ = (mb (evT Γ t ρ) fun c ρ => if c then exs Γ a ρ else exs Γ b ρ) := id rfl
theorem ex_brk {Γ : Gm} {ρ : Ev} : ex Γ (.brk) ρ = (some (.bk ρ)) := id rfl
theorem ex_cont {Γ : Gm} {ρ : Ev} : ex Γ (.cont) ρ = (some (.ct ρ)) := id rfl
theorem ex_pass {Γ : Gm} {ρ : Ev} : ex Γ (.pass) ρ = (some (.nx ρ)) := id rfl
theorem ex_never {Γ : Gm} {ρ : Ev} : ex Γ (.never) ρ = (none) := id rfl
/-- a comprehension's turns, by its text -/
def compE (Γ : Gm) (k : Nat) (vs : List Nat) (tg : Tg) (cs : Ts) (e : E) (xs : List D) (ρ : Ev) : Option (List D × Ev) := compL k vs (bnd tg) (evA Γ cs) (ev Γ e) xs ρ
def forE (Γ : Gm) (kill : List Nat) (tg : Tg) (body : Ss) (xs : List D) (ρ : Ev) : Option Out := forL kill (bnd tg) (exs Γ body) xs ρ
def whileE (Γ : Gm) (kill : List Nat) (t : T) (body : Ss) (fuel : Nat) (ρ : Ev) : Option Out := whileL kill (evT Γ t) (exs Γ body) fuel ρ
theorem ev_comp (Γ : Gm) (k : Nat) (vs : List Nat) (tg : Tg) (it : It) (cs : Ts) (e : E) (ρ : Ev) : ev Γ (.comp k vs tg it cs e) ρ = mb (evI Γ it ρ) fun xs ρ0 => mb (compE Γ k vs tg cs e xs (wp ρ0 vs)) fun ys ρ1 => some ((.list ys, k + 1), bk ρ0 vs ρ1) := id rfl
theorem ex_for (Γ : Gm) (kill : List Nat) (tg : Tg) (it : It) (body : Ss) (ρ : Ev) : ex Γ (.for kill tg it body) ρ = mb (evI Γ it ρ) fun xs ρ => forE Γ kill tg body xs (wp ρ kill) := id rfl
theorem ex_while (Γ : Gm) (fuel : Nat) (kill : List Nat) (t : T) (body : Ss) (ρ : Ev) : ex Γ (.while fuel kill t body) ρ = whileE Γ kill t body fuel (wp ρ kill) := id rfl
theorem atI0 {α : Type} (x : α) (l : List α) : L2.atI (x :: l) 0 = some x := by
  have : L2.ixN (x :: l).length 0 = some 0 := by unfold L2.ixN; rw [if_pos (by decide), if_pos (by simp only [List.length_cons]; omega)]; rfl
  unfold L2.atI; rw [this]; rfl
theorem atI_nat {α : Type} (l : List α) (i : Nat) : L2.atI l (i : Int) = l[i]? := by
  unfold L2.atI L2.ixN
  rw [if_pos (Int.natCast_nonneg i)]
  by_cases h : i < l.length
  · rw [if_pos (Int.ofNat_lt.mpr h)]; rfl
  · rw [if_neg (fun z => h (Int.ofNat_lt.mp z)), List.getElem?_eq_none (by omega)]; rfl
theorem atI1 {α : Type} (x y : α) (l : List α) : L2.atI (x :: y :: l) 1 = some y := atI_nat _ 1
theorem atI2 {α : Type} (x y z : α) (l : List α) : L2.atI (x :: y :: z :: l) 2 = some z := atI_nat _ 2
theorem atI3 {α : Type} (x y z u : α) (l : List α) : L2.atI (x :: y :: z :: u :: l) 3 = some u := atI_nat _ 3
theorem ixN_nat {n i : Nat} (h : i < n) : L2.ixN n (i : Int) = some i := by
  unfold L2.ixN
  rw [if_pos (Int.natCast_nonneg i), if_pos (Int.ofNat_lt.mpr h)]; rfl
theorem ixN_int {n : Nat} {i : Int} (h0 : 0 ≤ i) (h : i < n) : L2.ixN n i = some i.toNat := by
  unfold L2.ixN
  rw [if_pos h0, if_pos h]
theorem atI_int {α : Type} {l : List α} {i : Int} (h0 : 0 ≤ i) : L2.atI l i = l[i.toNat]? := by
  have := atI_nat l i.toNat
  rwa [Int.toNat_of_nonneg h0] at this
theorem ixN0 (n : Nat) : L2.ixN (n + 1) 0 = some 0 := ixN_nat (i := 0) (by omega)
theorem ixN1 (n : Nat) : L2.ixN (n + 1 + 1) 1 = some 1 := ixN_nat (i := 1) (by omega)
theorem len0 : lenOk 0 = true := by decide
theorem len1 : lenOk 1 = true := by decide
theorem len2 : lenOk 2 = true := by decide
theorem len3 : lenOk 3 = true := by decide
theorem len4 : lenOk 4 = true := by decide
theorem len5 : lenOk 5 = true := by decide
theorem len6 : lenOk 6 = true := by decide
theorem len7 : lenOk 7 = true := by decide
theorem len8 : lenOk 8 = true := by decide
theorem len9 : lenOk 9 = true := by decide
theorem set0 {α : Type} (x y : α) (l : List α) : (x :: l).set 0 y = y :: l := id rfl
theorem set1' {α : Type} (x z y : α) (l : List α) : (x :: z :: l).set 1 y = x :: y :: l := id rfl
theorem opD_add (i j : Int) : opD .add (.int i) (.int j) = some (.int (i + j)) := id rfl
theorem opD_sub (i j : Int) : opD .sub (.int i) (.int j) = some (.int (i - j)) := id rfl
theorem opD_mul (i j : Int) : opD .mul (.int i) (.int j) = if mulOk i j then some (.int (i * j)) else none := id rfl
theorem opD_fdiv (i j : Int) : opD .fdiv (.int i) (.int j) = if divOk j then some (.int (i.fdiv j)) else none := id rfl
theorem opD_mod (i j : Int) : opD .mod (.int i) (.int j) = if j ≠ 0 then some (.int (i.fmod j)) else none := id rfl
theorem opD_pow (i j : Int) : opD .pow (.int i) (.int j) = if powOk i j then some (.int (i ^ j.toNat)) else none := id rfl
theorem opD_addT (i j : List D) : opD .add (.tuple i) (.tuple j) = if lenOk (i.length + j.length) then some (.tuple (i ++ j)) else none := id rfl
theorem opD_addL (i j : List D) : opD .add (.list i) (.list j) = if lenOk (i.length + j.length) then some (.list (i ++ j)) else none := id rfl
theorem opD_mulL (i : List D) (j : Int) : opD .mul (.list i) (.int j) = if repOk i.length j then some (.list (repD j.toNat i)) else none := id rfl
theorem opD_mulT (i : List D) (j : Int) : opD .mul (.tuple i) (.int j) = if repOk i.length j then some (.tuple (repD j.toNat i)) else none := id rfl
theorem lvD_int (i : Int) : lvD (.int i) = 0 := id rfl
theorem lvD_bool (i : Bool) : lvD (.bool i) = 0 := id rfl
theorem lvD_str (i : Str) : lvD (.str i) = 0 := id rfl
theorem lvD_tuple (i : List D) : lvD (.tuple i) = 0 := id rfl
theorem lvD_dict (i : List (D × D)) : lvD (.dict i) = 0 := id rfl
theorem lvD_none : lvD .none = 0 := id rfl
theorem lvD_list (i : List D) : lvD (.list i) = 1 := id rfl
theorem b1_lenL (i : List D) : b1D .len (.list i) = some (.int i.length) := id rfl
theorem b1_lenT (i : List D) : b1D .len (.tuple i) = some (.int i.length) := id rfl
theorem b1_lenD (m : D) (i : List (D × D)) : b1D .len (.dict ((.bool false, m) :: i)) = some (.int i.length) := id rfl
theorem b1_lenK (m : D) (i : List (D × D)) : b1D .len (.dict ((.bool true, m) :: i)) = some (.int i.length) := id rfl
theorem b1_abs (i : Int) : b1D .abs (.int i) = some (.int (if i < 0 then -i else i)) := id rfl
theorem b1_int (i : Int) : b1D .int (.int i) = some (.int i) := id rfl
theorem b1_tupL (i : List D) : b1D .tuple (.list i) = some (.tuple i) := id rfl
theorem b1_tupT (i : List D) : b1D .tuple (.tuple i) = some (.tuple i) := id rfl
theorem b1_lstL (i : List D) : b1D .list (.list i) = some (.list i) := id rfl
theorem b1_lstT (i : List D) : b1D .list (.tuple i) = some (.list i) := id rfl
theorem b1_lstS (i : List D) : b1D .list (.dict [(.none, .list i)]) = some (.list i) := id rfl
theorem b1_all (i : List D) : b1D .all (.list i) = (boolsOf i).map fun bs => .bool (bs.all id) := id rfl
theorem b1_any (i : List D) : b1D .any (.list i) = (boolsOf i).map fun bs => .bool (bs.any id) := id rfl
theorem b1_str (i : Str) : b1D .str (.str i) = some (.str i) := id rfl
theorem b1_srtL (i : List D) : b1D .sorted (.list i) = sortedD i := id rfl
theorem b1_srtD (m : D) (i : List (D × D)) : b1D .sorted (.dict ((.bool false, m) :: i)) = (pairsOf (i.map (·.1))).map fun ps => .list ((srtB ltP2 ps).map pairD) := id rfl
theorem b2_min (i j : Int) : b2D .min (.int i) (.int j) = some (.int (if j < i then j else i)) := id rfl
theorem b2_max (i j : Int) : b2D .max (.int i) (.int j) = some (.int (if j > i then j else i)) := id rfl
theorem cm_eq (a b : D) : cmD .eq a b = if shp a && shp b then some (PyData.eqv a b) else none := by cases a <;> exact id rfl
theorem cm_ne (a b : D) : cmD .ne a b = if shp a && shp b then some (!PyData.eqv a b) else none := by cases a <;> exact id rfl
theorem cm_lt (i j : Int) : cmD .lt (.int i) (.int j) = some (decide (i < j)) := id rfl
theorem cm_le (i j : Int) : cmD .le (.int i) (.int j) = some (decide (i ≤ j)) := id rfl
theorem cm_gt (i j : Int) : cmD .gt (.int i) (.int j) = some (decide (j < i)) := id rfl
theorem cm_ge (i j : Int) : cmD .ge (.int i) (.int j) = some (decide (j ≤ i)) := id rfl
theorem cm_ltT (i j : List D) : cmD .lt (.tuple i) (.tuple j) = (match intsOf i, intsOf j with | some ns, some ms => some (HT.lexLt ns ms) | _, _ => none) := id rfl
theorem cm_is_int (i : Int) : cmD .is (.int i) .none = some false := id rfl
theorem cm_isN_int (i : Int) : cmD .isN (.int i) .none = some true := id rfl
theorem cm_is_tuple (i : List D) : cmD .is (.tuple i) .none = some false := id rfl
theorem cm_isN_tuple (i : List D) : cmD .isN (.tuple i) .none = some true := id rfl
theorem cm_is_list (i : List D) : cmD .is (.list i) .none = some false := id rfl
theorem cm_isN_list (i : List D) : cmD .isN (.list i) .none = some true := id rfl
theorem cm_is_bool (i : Bool) : cmD .is (.bool i) .none = some false := id rfl
theorem cm_isN_bool (i : Bool) : cmD .isN (.bool i) .none = some true := id rfl
theorem cm_is_str (i : Str) : cmD .is (.str i) .none = some false := id rfl
theorem cm_isN_str (i : Str) : cmD .isN (.str i) .none = some true := id rfl
theorem cm_is_none : cmD .is (.none) .none = some true := id rfl
theorem cm_isN_none : cmD .isN (.none) .none = some false := id rfl
theorem cm_isb (a b : Bool) : cmD .is (.bool a) (.bool b) = some (a == b) := id rfl
theorem cm_isNb (a b : Bool) : cmD .isN (.bool a) (.bool b) = some (!(a == b)) := id rfl
theorem ix_L (i : List D) (j : Int) : ixD (.list i) (.int j) = L2.atI i j := id rfl
theorem ix_T (i : List D) (j : Int) : ixD (.tuple i) (.int j) = L2.atI i j := id rfl
theorem sl_L (i : List D) (a b : Option Int) : slD (.list i) a b = some (.list (cutD i a b)) := id rfl
theorem sl_T (i : List D) (a b : Option Int) : slD (.tuple i) a b = some (.tuple (cutD i a b)) := id rfl
theorem st_L (i : List D) (j : Int) (x : D) : stI (.list i) (.int j) x = (L2.ixN i.length j).map fun j => .list (i.set j x) := id rfl
/-- it comes to an end, and so -/
def W {α : Type} (m : Option α) (Q : α → Prop) : Prop := ∃ a, m = some a ∧ Q a
theorem W_some {α : Type} {a : α} {Q : α → Prop} : W (some a) Q ↔ Q a := ⟨fun ⟨_, h, q⟩ => by cases h; exact q, fun q => ⟨a, rfl, q⟩⟩
theorem W_bind {α β : Type} {m : Option α} {f : α → Option β} {Q : β → Prop} (h : W m fun a => W (f a) Q) : W (m.bind f) Q := by
  obtain ⟨a, rfl, h⟩ := h; exact h
theorem W.imp {α : Type} {m : Option α} {Q Q' : α → Prop} (h : W m Q) (i : ∀ a, Q a → Q' a) : W m Q' := let ⟨a, e, q⟩ := h; ⟨a, e, i a q⟩
theorem run1 {Γ : Gm} {io : Bool} {n : Nat} {body : Ss} {a : D} : run Γ io 1 n body [a] = (exs Γ body (ent io n [a])).bind (outF io) := id rfl
theorem run2 {Γ : Gm} {io : Bool} {n : Nat} {body : Ss} {a b : D} : run Γ io 2 n body [a, b] = (exs Γ body (ent io n [a, b])).bind (outF io) := id rfl
theorem run3 {Γ : Gm} {io : Bool} {n : Nat} {body : Ss} {a b c : D} : run Γ io 3 n body [a, b, c] = (exs Γ body (ent io n [a, b, c])).bind (outF io) := id rfl
theorem run4 {Γ : Gm} {io : Bool} {n : Nat} {body : Ss} {a b c d : D} : run Γ io 4 n body [a, b, c, d] = (exs Γ body (ent io n [a, b, c, d])).bind (outF io) := id rfl

/-! ### the cup -/
def cupD (a b : Int) : D := .list [.int a, .int b]
def CupOk (d : D) : Prop := ∃ a b : Int, d = cupD a b ∧ 0 ≤ a ∧ 0 ≤ b ∧ b < 2 ^ 32
def RollOk (S : Fn) : Prop := ∀ c m, CupOk c → 0 < m → m < 2 ^ 30 → ∃ r c', S [c, .int m] = some ⟨.int r, 0, c'⟩ ∧ 0 ≤ r ∧ r < m ∧ CupOk c'
def cRoll (a b c d e f : Int) : Ss := (.cons (.ite (.cm .gt (.bix 0 (.int 0)) (.int 0)) (.cons (.set false 3 (.op .mod (.b1 .int (.bix 0 (.int 0))) (.nm 1))) (.cons (.ixset 0 (.int 0) (.op .fdiv (.bix 0 (.int 0)) (.nm 1))) (.cons (.ret false (.nm 3)) .nil))) .nil) (.cons (.ixset 0 (.int 1) (.op .mod (.b1 .int (.op .add (.op .mul (.bix 0 (.int 1)) (.int a)) (.int b))) (.int c))) (.cons (.set false 2 (.op .mod (.b1 .int (.op .mul (.bix 0 (.int 1)) (.op .add (.bix 0 (.int 1)) (.int d)))) (.int e))) (.cons (.ret false (.op .mod (.b1 .int (.op .fdiv (.nm 2) (.int f))) (.nm 1))) .nil))))
theorem mul_ok {x y : Int} (h : -(2 ^ 64) < x) (h2 : x < 2 ^ 64) : mulOk x y = true := by unfold mulOk; rw [decide_eq_true h, decide_eq_true h2]; rfl
theorem div_ok {y : Int} (h : 0 < y) (h2 : y < 2 ^ 30) : divOk y = true := by unfold divOk; rw [decide_eq_true (by omega), decide_eq_true (by omega)]; rfl
theorem roll_ok {a b c d e f : Int} (h1 : 0 ≤ a) (h2 : 0 ≤ b) (h3 : 0 < c ∧ c < 2 ^ 32) (h4 : 0 ≤ d) (h5 : 0 < e) (h6 : 0 < f ∧ f < 2 ^ 30) {Γ : Gm} : RollOk (run Γ true 2 4 (cRoll a b c d e f)) := by
  rintro _ m ⟨x, y, rfl, hx, hy, hy2⟩ hm hm2
  rw [run2]
  unfold cRoll cupD
  simp only [ent, List.map_cons, List.map_nil, List.cons_append, List.nil_append, List.length_cons, List.length_nil, List.replicate_succ, List.replicate_zero, Nat.reduceAdd, Nat.reduceSub, if_true, if_false, ↓reduceIte, Bool.false_eq_true]
  have m0 : m ≠ 0 := by omega
  by_cases hp : 0 < x
  · simp (config := { decide := false, maxSteps := 1000000 }) only [exs_nil, exs_cons, nxt_nx, nxt_rt, nxt_bk, nxt_ct, ex_for, ex_while, ev_comp, ev_nm, ev_int, ev_bl, ev_non, ev_str, ev_glb, ev_op, ev_neg, ev_tst, ev_ife, ev_tup, ev_lst, ev_ix, ev_bix, ev_bix2, ev_slc, ev_call, ev_cio, ev_b1, ev_dnew, ev_blen, ev_b2, ev_isi, evs_nil, evs_cons, evo_no, evo_yes, evT_ex, evT_cm, evT_chn, evT_not, evT_and, evT_or, evA_nil, evA_cons, evR_nil, evR_cons, evI_ex, evI_rng1, evI_rng2, evI_enm, evI_zip, ex_set, ex_tset, ex_par, ex_par3, ex_aug, ex_ixset, ex_pst, ex_ixset2, ex_ixset22, ex_app, ex_expr, ex_ret, ex_retN, ex_ite, ex_brk, ex_cont, ex_pass, ex_never, mb_some, mb_none, gt_zero, gt_succ, st_zero, st_succ, wp, bk, rdN, ow1, ow01, ow2, setable, setS, set1, set2, up1, bnd, bnds, isiD, outF, ioOf, atI0, atI1, atI2, atI3, ixN0, ixN1, len0, len1, len2, len3, len4, len5, len6, len7, len8, len9, List.length_cons, List.length_nil, List.length_map, List.length_append, Nat.zero_add, Nat.reduceAdd, set0, set1', opD_add, opD_sub, opD_mul, opD_fdiv, opD_mod, opD_pow, opD_addT, opD_addL, opD_mulL, opD_mulT, lvD_int, lvD_bool, lvD_str, lvD_tuple, lvD_dict, lvD_none, lvD_list, b1_lenL, b1_lenT, b1_lenD, b1_lenK, b1_abs, b1_int, b1_tupL, b1_tupT, b1_lstL, b1_lstT, b1_lstS, b1_all, b1_any, b1_str, b1_srtL, b1_srtD, b2_min, b2_max, cm_eq, cm_ne, cm_lt, cm_le, cm_gt, cm_ge, cm_ltT, cm_is_int, cm_isN_int, cm_is_tuple, cm_isN_tuple, cm_is_list, cm_isN_list, cm_is_bool, cm_isN_bool, cm_is_str, cm_isN_str, cm_is_none, cm_isN_none, cm_isb, cm_isNb, ix_L, ix_T, sl_L, sl_T, st_L, Option.bind_some, Option.map_some, Option.bind_none, Option.map_none, if_true, if_false, ↓reduceIte, Bool.and_true, Bool.true_and, Bool.and_false, Bool.false_and, Bool.not_true, Bool.not_false, decide_true, decide_false, decide_not, Bool.false_eq_true, hp, m0, div_ok hm hm2, ne_eq, not_false_eq_true]
    refine ⟨_, _, rfl, ?_, ?_, _, _, rfl, ?_, hy, hy2⟩
    · rw [Int.fmod_eq_emod_of_nonneg _ (by omega)]; exact Int.emod_nonneg _ m0
    · rw [Int.fmod_eq_emod_of_nonneg _ (by omega)]; exact Int.emod_lt_of_pos _ hm
    · rw [Int.fdiv_eq_ediv_of_nonneg _ (by omega)]; exact Int.ediv_nonneg hx (by omega)
  · have c0 : c ≠ 0 := by omega
    have e0 : e ≠ 0 := by omega
    have z0 : 0 ≤ (y * a + b).fmod c := by rw [Int.fmod_eq_emod_of_nonneg _ (by omega)]; exact Int.emod_nonneg _ c0
    have z1 : (y * a + b).fmod c < c := by rw [Int.fmod_eq_emod_of_nonneg _ (by omega)]; exact Int.emod_lt_of_pos _ h3.1
    simp (config := { decide := false, maxSteps := 1000000 }) only [exs_nil, exs_cons, nxt_nx, nxt_rt, nxt_bk, nxt_ct, ex_for, ex_while, ev_comp, ev_nm, ev_int, ev_bl, ev_non, ev_str, ev_glb, ev_op, ev_neg, ev_tst, ev_ife, ev_tup, ev_lst, ev_ix, ev_bix, ev_bix2, ev_slc, ev_call, ev_cio, ev_b1, ev_dnew, ev_blen, ev_b2, ev_isi, evs_nil, evs_cons, evo_no, evo_yes, evT_ex, evT_cm, evT_chn, evT_not, evT_and, evT_or, evA_nil, evA_cons, evR_nil, evR_cons, evI_ex, evI_rng1, evI_rng2, evI_enm, evI_zip, ex_set, ex_tset, ex_par, ex_par3, ex_aug, ex_ixset, ex_pst, ex_ixset2, ex_ixset22, ex_app, ex_expr, ex_ret, ex_retN, ex_ite, ex_brk, ex_cont, ex_pass, ex_never, mb_some, mb_none, gt_zero, gt_succ, st_zero, st_succ, wp, bk, rdN, ow1, ow01, ow2, setable, setS, set1, set2, up1, bnd, bnds, isiD, outF, ioOf, atI0, atI1, atI2, atI3, ixN0, ixN1, len0, len1, len2, len3, len4, len5, len6, len7, len8, len9, List.length_cons, List.length_nil, List.length_map, List.length_append, Nat.zero_add, Nat.reduceAdd, set0, set1', opD_add, opD_sub, opD_mul, opD_fdiv, opD_mod, opD_pow, opD_addT, opD_addL, opD_mulL, opD_mulT, lvD_int, lvD_bool, lvD_str, lvD_tuple, lvD_dict, lvD_none, lvD_list, b1_lenL, b1_lenT, b1_lenD, b1_lenK, b1_abs, b1_int, b1_tupL, b1_tupT, b1_lstL, b1_lstT, b1_lstS, b1_all, b1_any, b1_str, b1_srtL, b1_srtD, b2_min, b2_max, cm_eq, cm_ne, cm_lt, cm_le, cm_gt, cm_ge, cm_ltT, cm_is_int, cm_isN_int, cm_is_tuple, cm_isN_tuple, cm_is_list, cm_isN_list, cm_is_bool, cm_isN_bool, cm_is_str, cm_isN_str, cm_is_none, cm_isN_none, cm_isb, cm_isNb, ix_L, ix_T, sl_L, sl_T, st_L, Option.bind_some, Option.map_some, Option.bind_none, Option.map_none, if_true, if_false, ↓reduceIte, Bool.and_true, Bool.true_and, Bool.and_false, Bool.false_and, Bool.not_true, Bool.not_false, decide_true, decide_false, decide_not, Bool.false_eq_true, hp, m0, c0, e0, div_ok h6.1 h6.2, ne_eq, not_false_eq_true, mul_ok (x := y) (y := a) (by omega) (by omega)]
    generalize (y * a + b).fmod c = z at z0 z1
    simp (config := { decide := false, maxSteps := 1000000 }) only [exs_nil, exs_cons, nxt_nx, nxt_rt, nxt_bk, nxt_ct, ex_for, ex_while, ev_comp, ev_nm, ev_int, ev_bl, ev_non, ev_str, ev_glb, ev_op, ev_neg, ev_tst, ev_ife, ev_tup, ev_lst, ev_ix, ev_bix, ev_bix2, ev_slc, ev_call, ev_cio, ev_b1, ev_dnew, ev_blen, ev_b2, ev_isi, evs_nil, evs_cons, evo_no, evo_yes, evT_ex, evT_cm, evT_chn, evT_not, evT_and, evT_or, evA_nil, evA_cons, evR_nil, evR_cons, evI_ex, evI_rng1, evI_rng2, evI_enm, evI_zip, ex_set, ex_tset, ex_par, ex_par3, ex_aug, ex_ixset, ex_pst, ex_ixset2, ex_ixset22, ex_app, ex_expr, ex_ret, ex_retN, ex_ite, ex_brk, ex_cont, ex_pass, ex_never, mb_some, mb_none, gt_zero, gt_succ, st_zero, st_succ, wp, bk, rdN, ow1, ow01, ow2, setable, setS, set1, set2, up1, bnd, bnds, isiD, outF, ioOf, atI0, atI1, atI2, atI3, ixN0, ixN1, len0, len1, len2, len3, len4, len5, len6, len7, len8, len9, List.length_cons, List.length_nil, List.length_map, List.length_append, Nat.zero_add, Nat.reduceAdd, set0, set1', opD_add, opD_sub, opD_mul, opD_fdiv, opD_mod, opD_pow, opD_addT, opD_addL, opD_mulL, opD_mulT, lvD_int, lvD_bool, lvD_str, lvD_tuple, lvD_dict, lvD_none, lvD_list, b1_lenL, b1_lenT, b1_lenD, b1_lenK, b1_abs, b1_int, b1_tupL, b1_tupT, b1_lstL, b1_lstT, b1_lstS, b1_all, b1_any, b1_str, b1_srtL, b1_srtD, b2_min, b2_max, cm_eq, cm_ne, cm_lt, cm_le, cm_gt, cm_ge, cm_ltT, cm_is_int, cm_isN_int, cm_is_tuple, cm_isN_tuple, cm_is_list, cm_isN_list, cm_is_bool, cm_isN_bool, cm_is_str, cm_isN_str, cm_is_none, cm_isN_none, cm_isb, cm_isNb, ix_L, ix_T, sl_L, sl_T, st_L, Option.bind_some, Option.map_some, Option.bind_none, Option.map_none, if_true, if_false, ↓reduceIte, Bool.and_true, Bool.true_and, Bool.and_false, Bool.false_and, Bool.not_true, Bool.not_false, decide_true, decide_false, decide_not, Bool.false_eq_true, hp, m0, c0, e0, div_ok h6.1 h6.2, ne_eq, not_false_eq_true, mul_ok (x := z) (y := z + d) (by omega) (by omega)]
    refine ⟨_, _, rfl, ?_, ?_, _, _, rfl, hx, z0, by omega⟩
    · rw [Int.fmod_eq_emod_of_nonneg (_) (show 0 ≤ m by omega)]; exact Int.emod_nonneg _ m0
    · rw [Int.fmod_eq_emod_of_nonneg (_) (show 0 ≤ m by omega)]; exact Int.emod_lt_of_pos _ hm
/-- one of some things -/
def SomeOk (S : Fn) : Prop := ∀ c xs, CupOk c → xs ≠ [] → xs.length < 2 ^ 24 → ∃ x c', S [c, .list xs] = some ⟨x, 0, c'⟩ ∧ x ∈ xs ∧ CupOk c'
def cSome : Ss := (.cons (.ret false (.ix (.nm 1) (.cio 0 0 (.cons (.b1 .len (.nm 1)) .nil)))) .nil)
theorem some_ok {Γ : Gm} (h : RollOk (Γ 0)) : SomeOk (run Γ true 2 2 cSome) := by
  intro c xs hc hx hl
  rw [run2]
  unfold cSome
  simp only [ent, List.map_cons, List.map_nil, List.cons_append, List.nil_append, List.length_cons, List.length_nil, List.replicate_succ, List.replicate_zero, Nat.reduceAdd, Nat.reduceSub, if_true, if_false, ↓reduceIte, Bool.false_eq_true]
  have hp : 0 < xs.length := List.length_pos_iff.mpr hx
  obtain ⟨r, c', e, r0, r1, hc'⟩ := h c xs.length hc (by omega) (by omega)
  simp (config := { decide := false, maxSteps := 1000000 }) only [exs_nil, exs_cons, nxt_nx, nxt_rt, nxt_bk, nxt_ct, ex_for, ex_while, ev_comp, ev_nm, ev_int, ev_bl, ev_non, ev_str, ev_glb, ev_op, ev_neg, ev_tst, ev_ife, ev_tup, ev_lst, ev_ix, ev_bix, ev_bix2, ev_slc, ev_call, ev_cio, ev_b1, ev_dnew, ev_blen, ev_b2, ev_isi, evs_nil, evs_cons, evo_no, evo_yes, evT_ex, evT_cm, evT_chn, evT_not, evT_and, evT_or, evA_nil, evA_cons, evR_nil, evR_cons, evI_ex, evI_rng1, evI_rng2, evI_enm, evI_zip, ex_set, ex_tset, ex_par, ex_par3, ex_aug, ex_ixset, ex_pst, ex_ixset2, ex_ixset22, ex_app, ex_expr, ex_ret, ex_retN, ex_ite, ex_brk, ex_cont, ex_pass, ex_never, mb_some, mb_none, gt_zero, gt_succ, st_zero, st_succ, wp, bk, rdN, ow1, ow01, ow2, setable, setS, set1, set2, up1, bnd, bnds, isiD, outF, ioOf, atI0, atI1, atI2, atI3, ixN0, ixN1, len0, len1, len2, len3, len4, len5, len6, len7, len8, len9, List.length_cons, List.length_nil, List.length_map, List.length_append, Nat.zero_add, Nat.reduceAdd, set0, set1', opD_add, opD_sub, opD_mul, opD_fdiv, opD_mod, opD_pow, opD_addT, opD_addL, opD_mulL, opD_mulT, lvD_int, lvD_bool, lvD_str, lvD_tuple, lvD_dict, lvD_none, lvD_list, b1_lenL, b1_lenT, b1_lenD, b1_lenK, b1_abs, b1_int, b1_tupL, b1_tupT, b1_lstL, b1_lstT, b1_lstS, b1_all, b1_any, b1_str, b1_srtL, b1_srtD, b2_min, b2_max, cm_eq, cm_ne, cm_lt, cm_le, cm_gt, cm_ge, cm_ltT, cm_is_int, cm_isN_int, cm_is_tuple, cm_isN_tuple, cm_is_list, cm_isN_list, cm_is_bool, cm_isN_bool, cm_is_str, cm_isN_str, cm_is_none, cm_isN_none, cm_isb, cm_isNb, ix_L, ix_T, sl_L, sl_T, st_L, Option.bind_some, Option.map_some, Option.bind_none, Option.map_none, if_true, if_false, ↓reduceIte, Bool.and_true, Bool.true_and, Bool.and_false, Bool.false_and, Bool.not_true, Bool.not_false, decide_true, decide_false, decide_not, Bool.false_eq_true, e, atI_int r0]
  have hr : r.toNat < xs.length := by omega
  rw [List.getElem?_eq_getElem hr]
  simp (config := { decide := false, maxSteps := 1000000 }) only [exs_nil, exs_cons, nxt_nx, nxt_rt, nxt_bk, nxt_ct, ex_for, ex_while, ev_comp, ev_nm, ev_int, ev_bl, ev_non, ev_str, ev_glb, ev_op, ev_neg, ev_tst, ev_ife, ev_tup, ev_lst, ev_ix, ev_bix, ev_bix2, ev_slc, ev_call, ev_cio, ev_b1, ev_dnew, ev_blen, ev_b2, ev_isi, evs_nil, evs_cons, evo_no, evo_yes, evT_ex, evT_cm, evT_chn, evT_not, evT_and, evT_or, evA_nil, evA_cons, evR_nil, evR_cons, evI_ex, evI_rng1, evI_rng2, evI_enm, evI_zip, ex_set, ex_tset, ex_par, ex_par3, ex_aug, ex_ixset, ex_pst, ex_ixset2, ex_ixset22, ex_app, ex_expr, ex_ret, ex_retN, ex_ite, ex_brk, ex_cont, ex_pass, ex_never, mb_some, mb_none, gt_zero, gt_succ, st_zero, st_succ, wp, bk, rdN, ow1, ow01, ow2, setable, setS, set1, set2, up1, bnd, bnds, isiD, outF, ioOf, atI0, atI1, atI2, atI3, ixN0, ixN1, len0, len1, len2, len3, len4, len5, len6, len7, len8, len9, List.length_cons, List.length_nil, List.length_map, List.length_append, Nat.zero_add, Nat.reduceAdd, set0, set1', opD_add, opD_sub, opD_mul, opD_fdiv, opD_mod, opD_pow, opD_addT, opD_addL, opD_mulL, opD_mulT, lvD_int, lvD_bool, lvD_str, lvD_tuple, lvD_dict, lvD_none, lvD_list, b1_lenL, b1_lenT, b1_lenD, b1_lenK, b1_abs, b1_int, b1_tupL, b1_tupT, b1_lstL, b1_lstT, b1_lstS, b1_all, b1_any, b1_str, b1_srtL, b1_srtD, b2_min, b2_max, cm_eq, cm_ne, cm_lt, cm_le, cm_gt, cm_ge, cm_ltT, cm_is_int, cm_isN_int, cm_is_tuple, cm_isN_tuple, cm_is_list, cm_isN_list, cm_is_bool, cm_isN_bool, cm_is_str, cm_isN_str, cm_is_none, cm_isN_none, cm_isb, cm_isNb, ix_L, ix_T, sl_L, sl_T, st_L, Option.bind_some, Option.map_some, Option.bind_none, Option.map_none, if_true, if_false, ↓reduceIte, Bool.and_true, Bool.true_and, Bool.and_false, Bool.false_and, Bool.not_true, Bool.not_false, decide_true, decide_false, decide_not, Bool.false_eq_true]
  exact ⟨_, _, rfl, List.getElem_mem hr, hc'⟩
def CupF (S : Fn) : Prop := ∀ ns : List Int, ns.length ≤ 63 → ∃ c, S [.dict [(.none, .list (ns.map .int))]] = some ⟨c, 1, .none⟩ ∧ CupOk c
def cCup (a b c d e : Int) : Ss := (.cons (.set false 1 (.b1 .abs (.ix (.op .add (.b1 .list (.nm 0)) (.lst (.cons (.int 0) .nil))) (.int 0)))) (.cons (.ret true (.lst (.cons (.ife (.cm .ge (.nm 1) (.op .pow (.int 10) (.int 18))) (.op .fdiv (.nm 1) (.int a)) (.int 0)) (.cons (.op .add (.op .mod (.b1 .int (.op .add (.op .mul (.nm 1) (.int b)) (.int c))) (.int d)) (.int e)) .nil)))) .nil))
theorem len_ok {n : Nat} (h : n ≤ 2 ^ 24) : lenOk n = true := by
  unfold lenOk
  rw [sizeLine_eq]
  exact decide_eq_true (by omega)
theorem cup_ok {a b c d e : Int} (h1 : 0 < a ∧ a < 2 ^ 30) (h2 : 0 ≤ b ∧ b < 2 ^ 32) (h3 : 0 ≤ c) (h4 : 0 < d ∧ d < 2 ^ 31) (h5 : 0 ≤ e ∧ e < 2 ^ 31) {Γ : Gm} : CupF (run Γ false 1 2 (cCup a b c d e)) := by
  intro ns hn
  rw [run1]
  unfold cCup
  simp only [ent, List.map_cons, List.map_nil, List.cons_append, List.nil_append, List.length_cons, List.length_nil, List.replicate_succ, List.replicate_zero, Nat.reduceAdd, Nat.reduceSub, if_true, if_false, ↓reduceIte, Bool.false_eq_true]
  obtain ⟨x, l, hx⟩ : ∃ x l, ns.map PyData.int ++ [PyData.int 0] = PyData.int x :: l := by
    cases ns with
    | nil => exact ⟨0, [], rfl⟩
    | cons x r => exact ⟨x, _, rfl⟩
  have hl : lenOk (ns.length + 1) = true := len_ok (by omega)
  have d0 : d ≠ 0 := by omega
  have hm : ∀ y, mulOk y b = true := fun y => by unfold mulOk; rw [decide_eq_true (show -(2 ^ 64) < b by omega), decide_eq_true (show b < 2 ^ 64 by omega)]; simp
  have hp : powOk 10 18 = true := by decide
  simp (config := { decide := false, maxSteps := 1000000 }) only [exs_nil, exs_cons, nxt_nx, nxt_rt, nxt_bk, nxt_ct, ex_for, ex_while, ev_comp, ev_nm, ev_int, ev_bl, ev_non, ev_str, ev_glb, ev_op, ev_neg, ev_tst, ev_ife, ev_tup, ev_lst, ev_ix, ev_bix, ev_bix2, ev_slc, ev_call, ev_cio, ev_b1, ev_dnew, ev_blen, ev_b2, ev_isi, evs_nil, evs_cons, evo_no, evo_yes, evT_ex, evT_cm, evT_chn, evT_not, evT_and, evT_or, evA_nil, evA_cons, evR_nil, evR_cons, evI_ex, evI_rng1, evI_rng2, evI_enm, evI_zip, ex_set, ex_tset, ex_par, ex_par3, ex_aug, ex_ixset, ex_pst, ex_ixset2, ex_ixset22, ex_app, ex_expr, ex_ret, ex_retN, ex_ite, ex_brk, ex_cont, ex_pass, ex_never, mb_some, mb_none, gt_zero, gt_succ, st_zero, st_succ, wp, bk, rdN, ow1, ow01, ow2, setable, setS, set1, set2, up1, bnd, bnds, isiD, outF, ioOf, atI0, atI1, atI2, atI3, ixN0, ixN1, len0, len1, len2, len3, len4, len5, len6, len7, len8, len9, List.length_cons, List.length_nil, List.length_map, List.length_append, Nat.zero_add, Nat.reduceAdd, set0, set1', opD_add, opD_sub, opD_mul, opD_fdiv, opD_mod, opD_pow, opD_addT, opD_addL, opD_mulL, opD_mulT, lvD_int, lvD_bool, lvD_str, lvD_tuple, lvD_dict, lvD_none, lvD_list, b1_lenL, b1_lenT, b1_lenD, b1_lenK, b1_abs, b1_int, b1_tupL, b1_tupT, b1_lstL, b1_lstT, b1_lstS, b1_all, b1_any, b1_str, b1_srtL, b1_srtD, b2_min, b2_max, cm_eq, cm_ne, cm_lt, cm_le, cm_gt, cm_ge, cm_ltT, cm_is_int, cm_isN_int, cm_is_tuple, cm_isN_tuple, cm_is_list, cm_isN_list, cm_is_bool, cm_isN_bool, cm_is_str, cm_isN_str, cm_is_none, cm_isN_none, cm_isb, cm_isNb, ix_L, ix_T, sl_L, sl_T, st_L, Option.bind_some, Option.map_some, Option.bind_none, Option.map_none, if_true, if_false, ↓reduceIte, Bool.and_true, Bool.true_and, Bool.and_false, Bool.false_and, Bool.not_true, Bool.not_false, decide_true, decide_false, decide_not, Bool.false_eq_true, hl, hx, hm, hp, d0, div_ok h1.1 h1.2, ne_eq, not_false_eq_true]
  generalize hx : (if x < 0 then -x else x) = y
  have hy : 0 ≤ y := by subst hx; split <;> omega
  have z0 : 0 ≤ (y * b + c).fmod d := by rw [Int.fmod_eq_emod_of_nonneg _ (by omega)]; exact Int.emod_nonneg _ d0
  have z1 : (y * b + c).fmod d < d := by rw [Int.fmod_eq_emod_of_nonneg _ (by omega)]; exact Int.emod_lt_of_pos _ h4.1
  by_cases hq : 10 ^ Int.toNat 18 ≤ y
  · simp (config := { decide := false, maxSteps := 1000000 }) only [exs_nil, exs_cons, nxt_nx, nxt_rt, nxt_bk, nxt_ct, ex_for, ex_while, ev_comp, ev_nm, ev_int, ev_bl, ev_non, ev_str, ev_glb, ev_op, ev_neg, ev_tst, ev_ife, ev_tup, ev_lst, ev_ix, ev_bix, ev_bix2, ev_slc, ev_call, ev_cio, ev_b1, ev_dnew, ev_blen, ev_b2, ev_isi, evs_nil, evs_cons, evo_no, evo_yes, evT_ex, evT_cm, evT_chn, evT_not, evT_and, evT_or, evA_nil, evA_cons, evR_nil, evR_cons, evI_ex, evI_rng1, evI_rng2, evI_enm, evI_zip, ex_set, ex_tset, ex_par, ex_par3, ex_aug, ex_ixset, ex_pst, ex_ixset2, ex_ixset22, ex_app, ex_expr, ex_ret, ex_retN, ex_ite, ex_brk, ex_cont, ex_pass, ex_never, mb_some, mb_none, gt_zero, gt_succ, st_zero, st_succ, wp, bk, rdN, ow1, ow01, ow2, setable, setS, set1, set2, up1, bnd, bnds, isiD, outF, ioOf, atI0, atI1, atI2, atI3, ixN0, ixN1, len0, len1, len2, len3, len4, len5, len6, len7, len8, len9, List.length_cons, List.length_nil, List.length_map, List.length_append, Nat.zero_add, Nat.reduceAdd, set0, set1', opD_add, opD_sub, opD_mul, opD_fdiv, opD_mod, opD_pow, opD_addT, opD_addL, opD_mulL, opD_mulT, lvD_int, lvD_bool, lvD_str, lvD_tuple, lvD_dict, lvD_none, lvD_list, b1_lenL, b1_lenT, b1_lenD, b1_lenK, b1_abs, b1_int, b1_tupL, b1_tupT, b1_lstL, b1_lstT, b1_lstS, b1_all, b1_any, b1_str, b1_srtL, b1_srtD, b2_min, b2_max, cm_eq, cm_ne, cm_lt, cm_le, cm_gt, cm_ge, cm_ltT, cm_is_int, cm_isN_int, cm_is_tuple, cm_isN_tuple, cm_is_list, cm_isN_list, cm_is_bool, cm_isN_bool, cm_is_str, cm_isN_str, cm_is_none, cm_isN_none, cm_isb, cm_isNb, ix_L, ix_T, sl_L, sl_T, st_L, Option.bind_some, Option.map_some, Option.bind_none, Option.map_none, if_true, if_false, ↓reduceIte, Bool.and_true, Bool.true_and, Bool.and_false, Bool.false_and, Bool.not_true, Bool.not_false, decide_true, decide_false, decide_not, Bool.false_eq_true, hq, hm, hp, d0, div_ok h1.1 h1.2, ne_eq, not_false_eq_true]
    refine ⟨_, rfl, _, _, rfl, ?_, by omega, by omega⟩
    rw [Int.fdiv_eq_ediv_of_nonneg _ (by omega)]; exact Int.ediv_nonneg hy (by omega)
  · simp (config := { decide := false, maxSteps := 1000000 }) only [exs_nil, exs_cons, nxt_nx, nxt_rt, nxt_bk, nxt_ct, ex_for, ex_while, ev_comp, ev_nm, ev_int, ev_bl, ev_non, ev_str, ev_glb, ev_op, ev_neg, ev_tst, ev_ife, ev_tup, ev_lst, ev_ix, ev_bix, ev_bix2, ev_slc, ev_call, ev_cio, ev_b1, ev_dnew, ev_blen, ev_b2, ev_isi, evs_nil, evs_cons, evo_no, evo_yes, evT_ex, evT_cm, evT_chn, evT_not, evT_and, evT_or, evA_nil, evA_cons, evR_nil, evR_cons, evI_ex, evI_rng1, evI_rng2, evI_enm, evI_zip, ex_set, ex_tset, ex_par, ex_par3, ex_aug, ex_ixset, ex_pst, ex_ixset2, ex_ixset22, ex_app, ex_expr, ex_ret, ex_retN, ex_ite, ex_brk, ex_cont, ex_pass, ex_never, mb_some, mb_none, gt_zero, gt_succ, st_zero, st_succ, wp, bk, rdN, ow1, ow01, ow2, setable, setS, set1, set2, up1, bnd, bnds, isiD, outF, ioOf, atI0, atI1, atI2, atI3, ixN0, ixN1, len0, len1, len2, len3, len4, len5, len6, len7, len8, len9, List.length_cons, List.length_nil, List.length_map, List.length_append, Nat.zero_add, Nat.reduceAdd, set0, set1', opD_add, opD_sub, opD_mul, opD_fdiv, opD_mod, opD_pow, opD_addT, opD_addL, opD_mulL, opD_mulT, lvD_int, lvD_bool, lvD_str, lvD_tuple, lvD_dict, lvD_none, lvD_list, b1_lenL, b1_lenT, b1_lenD, b1_lenK, b1_abs, b1_int, b1_tupL, b1_tupT, b1_lstL, b1_lstT, b1_lstS, b1_all, b1_any, b1_str, b1_srtL, b1_srtD, b2_min, b2_max, cm_eq, cm_ne, cm_lt, cm_le, cm_gt, cm_ge, cm_ltT, cm_is_int, cm_isN_int, cm_is_tuple, cm_isN_tuple, cm_is_list, cm_isN_list, cm_is_bool, cm_isN_bool, cm_is_str, cm_isN_str, cm_is_none, cm_isN_none, cm_isb, cm_isNb, ix_L, ix_T, sl_L, sl_T, st_L, Option.bind_some, Option.map_some, Option.bind_none, Option.map_none, if_true, if_false, ↓reduceIte, Bool.and_true, Bool.true_and, Bool.and_false, Bool.false_and, Bool.not_true, Bool.not_false, decide_true, decide_false, decide_not, Bool.false_eq_true, hq, hm, hp, d0, div_ok h1.1 h1.2, ne_eq, not_false_eq_true]
    exact ⟨_, rfl, _, _, rfl, by omega, by omega, by omega⟩
end DI

/-! C: what many laws have alike, printed by gen.py -/
namespace C
open DI PySem
def b_is_whole : Ss := (.cons (.ret false (.tst (.and (.cons (.ex (.isi .int (.nm 0))) (.cons (.not (.ex (.isi .bool (.nm 0)))) (.cons (.chn .le .le (.nm 1) (.nm 0) (.nm 2)) .nil)))))) .nil)
def b_is_tuple_of : Ss := (.cons (.ret false (.tst (.and (.cons (.ex (.isi .tuple (.nm 0))) (.cons (.chn .le .le (.nm 1) (.b1 .len (.nm 0)) (.nm 2)) .nil))))) .nil)
def b_fits_limb : Ss := (.cons (.ite (.or (.cons (.not (.ex (.call 1 (.cons (.nm 1) (.cons (.int 3) (.cons (.int 3) .nil)))))) (.cons (.not (.ex (.call 0 (.cons (.ix (.nm 1) (.int 0)) (.cons (.int 0) (.cons (.op .sub (.nm 0) (.int 1)) .nil)))))) (.cons (.not (.ex (.call 0 (.cons (.ix (.nm 1) (.int 1)) (.cons (.int 0) (.cons (.op .sub (.nm 0) (.int 1)) .nil)))))) .nil)))) (.cons (.ret false (.bl false)) .nil) .nil) (.cons (.ret false (.tst (.and (.cons (.cm .lt (.ix (.nm 1) (.int 0)) (.ix (.nm 1) (.int 1))) (.cons (.ex (.call 0 (.cons (.ix (.nm 1) (.int 2)) (.cons (.int 1) (.cons (.glb 0 9) .nil))))) .nil))))) .nil))
def b_fits_figure : Ss := (.cons (.ite (.or (.cons (.not (.ex (.call 1 (.cons (.nm 0) (.cons (.int 4) (.cons (.int 4) .nil)))))) (.cons (.not (.ex (.call 0 (.cons (.ix (.nm 0) (.int 0)) (.cons (.int 1) (.cons (.glb 1 8) .nil)))))) (.cons (.not (.ex (.call 0 (.cons (.ix (.nm 0) (.int 3)) (.cons (.int 1) (.cons (.glb 0 30) .nil)))))) .nil)))) (.cons (.ret false (.bl false)) .nil) .nil) (.cons (.tset (.tup [(.nm 1), (.nm 2), (.nm 3), (.nm 4)]) (.nm 0)) (.cons (.ite (.or (.cons (.not (.ex (.call 1 (.cons (.nm 2) (.cons (.int 0) (.cons (.glb 2 12) .nil)))))) (.cons (.not (.ex (.b1 .all (.comp 0 [6] (.nm 6) (.ex (.nm 2)) .nil (.call 2 (.cons (.nm 1) (.cons (.nm 6) .nil))))))) .nil))) (.cons (.ret false (.bl false)) .nil) .nil) (.cons (.ite (.not (.ex (.b1 .all (.comp 0 [7, 8] (.tup [(.nm 7), (.nm 8)]) (.zip (.nm 2) (.slc (.nm 2) (.yes (.int 1)) .no)) .nil (.tst (.cm .lt (.slc (.nm 7) .no (.yes (.int 2))) (.slc (.nm 8) .no (.yes (.int 2))))))))) (.cons (.ret false (.bl false)) .nil) .nil) (.cons (.ret false (.tst (.and (.cons (.ex (.call 1 (.cons (.nm 3) (.cons (.int 1) (.cons (.glb 3 6) .nil))))) (.cons (.ex (.b1 .all (.comp 0 [5] (.nm 5) (.ex (.nm 3)) .nil (.call 0 (.cons (.nm 5) (.cons (.int 0) (.cons (.op .sub (.nm 1) (.int 1)) .nil))))))) .nil))))) .nil)))))
def b_need_figure : Ss := (.cons (.ite (.not (.ex (.call 0 (.cons (.nm 0) .nil)))) (.cons .never .nil) .nil) .nil)
def b_fits_setting : Ss := (.cons (.set false 2 (.b1 .len (.ix (.nm 0) (.int 2)))) (.cons (.ret false (.tst (.and (.cons (.ex (.call 1 (.cons (.nm 1) (.cons (.nm 2) (.cons (.nm 2) .nil))))) (.cons (.ex (.b1 .all (.comp 0 [3] (.nm 3) (.ex (.nm 1)) .nil (.call 0 (.cons (.nm 3) (.cons (.int 0) (.cons (.ix (.nm 0) (.int 3)) .nil))))))) .nil))))) .nil))
def b_need_setting : Ss := (.cons (.ite (.not (.ex (.call 0 (.cons (.nm 0) (.cons (.nm 1) .nil))))) (.cons .never .nil) .nil) .nil)
def b_fits_depths : Ss := (.cons (.ret false (.tst (.and (.cons (.ex (.call 1 (.cons (.nm 1) (.cons (.ix (.nm 0) (.int 0)) (.cons (.ix (.nm 0) (.int 0)) .nil))))) (.cons (.ex (.b1 .all (.comp 0 [2] (.nm 2) (.ex (.nm 1)) .nil (.call 0 (.cons (.nm 2) (.cons (.int 0) (.cons (.ix (.nm 0) (.int 3)) .nil))))))) .nil))))) .nil)
def b_need_set : Ss := (.cons (.expr (.call 0 (.cons (.nm 0) .nil))) (.cons (.expr (.call 1 (.cons (.nm 0) (.cons (.nm 1) .nil)))) .nil))
def b_table_of : Ss := (.cons (.set false 1 (.ix (.nm 0) (.int 0))) (.cons (.set true 2 (.comp 1 [4] (.nm 4) (.rng1 (.nm 1)) .nil (.comp 0 [5] (.nm 5) (.rng1 (.nm 1)) .nil (.ife (.cm .eq (.nm 4) (.nm 5)) (.int 0) .non)))) (.cons (.for [4, 5, 6] (.tup [(.nm 4), (.nm 5), (.nm 6)]) (.ex (.ix (.nm 0) (.int 1))) (.cons (.ixset22 2 (.nm 4) (.nm 5) (.nm 5) (.nm 4) (.nm 6)) .nil)) (.cons (.for [3, 4, 5, 7] (.nm 3) (.rng1 (.nm 1)) (.cons (.for [4, 5, 7] (.nm 4) (.rng1 (.nm 1)) (.cons (.for [5, 7] (.nm 5) (.rng1 (.nm 1)) (.cons (.ite (.and (.cons (.cm .isN (.bix2 2 (.nm 4) (.nm 3)) .non) (.cons (.cm .isN (.bix2 2 (.nm 3) (.nm 5)) .non) .nil))) (.cons (.set false 7 (.op .add (.bix2 2 (.nm 4) (.nm 3)) (.bix2 2 (.nm 3) (.nm 5)))) (.cons (.ixset2 2 (.nm 4) (.nm 5) (.ife (.cm .is (.bix2 2 (.nm 4) (.nm 5)) .non) (.nm 7) (.b2 .min (.nm 7) (.bix2 2 (.nm 4) (.nm 5))))) .nil)) .nil) .nil)) .nil)) .nil)) (.cons (.ret false (.nm 2)) .nil)))))
def b_keeps_limbs : Ss := (.cons (.ret false (.b1 .all (.comp 0 [2, 3, 4] (.tup [(.nm 2), (.nm 3), (.nm 4)]) (.ex (.ix (.nm 0) (.int 1))) .nil (.tst (.cm .le (.b1 .abs (.op .sub (.ix (.nm 1) (.nm 2)) (.ix (.nm 1) (.nm 3)))) (.nm 4)))))) .nil)
def b_keeps_strings : Ss := (.cons (.ret false (.b1 .all (.comp 0 [3, 4] (.tup [(.nm 3), (.nm 4)]) (.zip (.ix (.nm 0) (.int 2)) (.nm 1)) .nil (.tst (.cm .le (.ix (.nm 2) (.nm 3)) (.nm 4)))))) .nil)
def b_is_stance : Ss := (.cons (.expr (.call 0 (.cons (.nm 0) (.cons (.nm 1) .nil)))) (.cons (.ret false (.tst (.and (.cons (.ex (.call 3 (.cons (.nm 0) (.cons (.nm 2) .nil)))) (.cons (.ex (.call 2 (.cons (.nm 0) (.cons (.nm 2) .nil)))) (.cons (.ex (.call 1 (.cons (.nm 0) (.cons (.nm 1) (.cons (.nm 2) .nil))))) .nil)))))) .nil))
def b_pose_by : Ss := (.cons (.set true 3 (.lst .nil)) (.cons (.for [4, 5] (.nm 4) (.rng1 (.ix (.nm 0) (.int 0))) (.cons (.set false 5 (.comp 0 [6, 7] (.tup [(.nm 6), (.nm 7)]) (.zip (.ix (.nm 0) (.int 2)) (.nm 1)) (.cons (.cm .isN (.ix (.ix (.nm 2) (.nm 6)) (.nm 4)) .non) .nil) (.op .add (.nm 7) (.ix (.ix (.nm 2) (.nm 6)) (.nm 4))))) (.cons (.app 3 (.b1 .min (.op .add (.nm 5) (.lst (.cons (.ix (.nm 0) (.int 3)) .nil))))) .nil))) (.cons (.ret false (.b1 .tuple (.nm 3))) .nil)))
def b_pose_in : Ss := (.cons (.ret false (.call 0 (.cons (.nm 0) (.cons (.nm 1) (.cons (.call 1 (.cons (.nm 0) .nil)) .nil))))) .nil)
def b_pose : Ss := (.cons (.expr (.call 0 (.cons (.nm 0) (.cons (.nm 1) .nil)))) (.cons (.ret false (.call 1 (.cons (.nm 0) (.cons (.nm 1) .nil)))) .nil))
def b_law_same : Ss := (.cons (.ite (.ex (.isi .tuple (.nm 1))) (.cons (.ite (.or (.cons (.not (.ex (.isi .tuple (.nm 0)))) (.cons (.cm .ne (.b1 .len (.nm 0)) (.b1 .len (.nm 1))) .nil))) (.cons (.ret false (.bl false)) .nil) .nil) (.cons (.ret false (.b1 .all (.comp 0 [2] (.nm 2) (.rng1 (.b1 .len (.nm 1))) .nil (.call 0 (.cons (.ix (.nm 0) (.nm 2)) (.cons (.ix (.nm 1) (.nm 2)) .nil)))))) .nil)) .nil) (.cons (.ite (.cm .is (.nm 1) .non) (.cons (.ret false (.tst (.cm .is (.nm 0) .non))) .nil) .nil) (.cons (.ite (.ex (.isi .bool (.nm 1))) (.cons (.ret false (.ife (.ex (.nm 1)) (.tst (.cm .is (.nm 0) (.bl true))) (.tst (.cm .is (.nm 0) (.bl false))))) .nil) .nil) (.cons (.ite (.ex (.isi .int (.nm 1))) (.cons (.ret false (.tst (.and (.cons (.ex (.isi .int (.nm 0))) (.cons (.not (.ex (.isi .bool (.nm 0)))) (.cons (.cm .eq (.b1 .int (.nm 0)) (.nm 1)) .nil)))))) .nil) .nil) (.cons (.ret false (.tst (.and (.cons (.ex (.isi .str (.nm 0))) (.cons (.cm .eq (.b1 .str (.nm 0)) (.nm 1)) .nil))))) .nil)))))
def b_law_figure : Ss := (.cons (.set false 3 (.op .add (.int 1) (.cio 0 0 (.cons (.nm 1) .nil)))) (.cons (.set true 4 (.dnew true)) (.cons (.for [5] (.nm 5) (.rng2 (.int 1) (.nm 3)) (.cons (.ite (.cm .gt (.cio 0 0 (.cons (.int 7) .nil)) (.int 0)) (.cons (.ixset 4 (.tup (.cons (.cio 0 0 (.cons (.nm 5) .nil)) (.cons (.nm 5) .nil))) (.op .add (.int 1) (.cio 0 0 (.cons (.cio 1 0 (.cons (.lst (.cons (.int 3) (.cons (.int 9) .nil))) .nil)) .nil)))) .nil) .nil) .nil)) (.cons (.for [6, 9, 10] (.nm 6) (.rng1 (.ife (.cm .gt (.nm 3) (.int 2)) (.cio 0 0 (.cons (.int 4) .nil)) (.int 0))) (.cons (.par 9 10 (.cio 0 0 (.cons (.nm 3) .nil)) (.cio 0 0 (.cons (.nm 3) .nil))) (.cons (.ite (.and (.cons (.cm .lt (.nm 9) (.nm 10)) (.cons (.cm .lt (.blen 4) (.int 12)) .nil))) (.cons (.ixset 4 (.tup (.cons (.nm 9) (.cons (.nm 10) .nil))) (.op .add (.int 1) (.cio 0 0 (.cons (.int 9) .nil)))) .nil) .nil) .nil))) (.cons (.set false 7 (.b1 .tuple (.comp 0 [11] (.nm 11) (.ex (.b1 .sorted (.nm 4))) .nil (.op .add (.nm 11) (.tup (.cons (.bix 4 (.nm 11)) .nil)))))) (.cons (.set false 8 (.b1 .tuple (.comp 0 [6] (.nm 6) (.rng1 (.op .add (.int 1) (.cio 0 0 (.cons (.nm 2) .nil)))) .nil (.cio 0 0 (.cons (.nm 3) .nil))))) (.cons (.ret false (.tup (.cons (.nm 3) (.cons (.nm 7) (.cons (.nm 8) (.cons (.cio 1 0 (.cons (.lst (.cons (.int 1) (.cons (.int 4) (.cons (.int 9) (.cons (.int 15) (.cons (.int 22) (.cons (.int 30) .nil))))))) .nil)) .nil)))))) .nil)))))))
def b_law_setting : Ss := (.cons (.set false 2 (.ix (.nm 1) (.int 3))) (.cons (.ret false (.b1 .tuple (.comp 0 [3] (.nm 3) (.ex (.ix (.nm 1) (.int 2))) .nil (.cio 0 0 (.cons (.lst (.cons (.nm 2) (.cons (.int 0) (.cons (.cio 1 0 (.cons (.op .add (.nm 2) (.int 1)) .nil)) (.cons (.cio 1 0 (.cons (.op .add (.nm 2) (.int 1)) .nil)) (.cons (.cio 1 0 (.cons (.op .add (.nm 2) (.int 1)) .nil)) .nil)))))) .nil))))) .nil))
def b_law_pose : Ss := (.cons (.set true 2 (.op .mul (.lst (.cons (.ix (.nm 0) (.int 3)) .nil)) (.ix (.nm 0) (.int 0)))) (.cons (.for [4, 5] (.tup [(.nm 4), (.nm 5)]) (.zip (.ix (.nm 0) (.int 2)) (.nm 1)) (.cons (.ixset 2 (.nm 4) (.b2 .min (.bix 2 (.nm 4)) (.nm 5))) .nil)) (.cons (.for [3, 5, 6, 7] (.nm 3) (.rng1 (.ix (.nm 0) (.int 0))) (.cons (.for [5, 6, 7] (.tup [(.nm 6), (.nm 7), (.nm 5)]) (.ex (.ix (.nm 0) (.int 1))) (.cons (.pst (.tup (.cons (.b2 .min (.bix 2 (.nm 6)) (.op .add (.bix 2 (.nm 7)) (.nm 5))) (.cons (.b2 .min (.bix 2 (.nm 7)) (.op .add (.bix 2 (.nm 6)) (.nm 5))) .nil))) 2 (.nm 6) 2 (.nm 7)) .nil)) .nil)) (.cons (.ret false (.b1 .tuple (.nm 2))) .nil))))
def b_law_deeper : Ss := (.cons (.ret false (.op .add (.op .add (.slc (.nm 1) .no (.yes (.nm 2))) (.tup (.cons (.op .add (.ix (.nm 1) (.nm 2)) (.int 1)) .nil))) (.slc (.nm 1) (.yes (.op .add (.nm 2) (.int 1))) .no))) .nil)
end C

/-! M1: loops; figures as data. -/
namespace DI
open PySem
/-! ### loops -/
/-- one turn of a for -/
def turnF (kill : List Nat) (bind : D → Ev → Option Ev) (body : Ev → Option Out) (x : D) (ρ : Ev) (P : Ev → Prop) : Prop := W ((bind x ρ).bind body) fun o => ∃ ρ', o = .nx ρ' ∧ P (wp ρ' kill)
theorem forL_inv {kill : List Nat} {bind : D → Ev → Option Ev} {body : Ev → Option Out} (I : Nat → Ev → Prop) : ∀ (xs : List D) (k : Nat) (ρ : Ev), (∀ i x ρ, xs[i]? = some x → I (k + i) ρ → turnF kill bind body x ρ (I (k + i + 1))) → I k ρ →
    ∃ ρ', forL kill bind body xs ρ = some (.nx ρ') ∧ I (k + xs.length) ρ'
  | [], k, ρ, _, h => ⟨ρ, rfl, h⟩
  | x :: xs, k, ρ, t, h => by
    obtain ⟨o, e, ρ1, rfl, h1⟩ := t 0 x ρ rfl h
    obtain ⟨ρ2, e2, h2⟩ := forL_inv I xs (k + 1) _ (fun i y ρ hy hi => by
      have := t (i + 1) y ρ hy (by rw [show k + (i + 1) = k + 1 + i by omega]; exact hi)
      rw [show k + (i + 1) + 1 = k + 1 + i + 1 by omega] at this; exact this) h1
    refine ⟨ρ2, ?_, by rw [List.length_cons, show k + (xs.length + 1) = k + 1 + xs.length by omega]; exact h2⟩
    unfold forL
    cases hb : bind x ρ with
    | none => rw [hb] at e; cases e
    | some ρ3 =>
      rw [hb] at e
      have e : body ρ3 = some (.nx ρ1) := e
      show ((body ρ3).bind _) = _
      rw [e]
      exact e2
theorem rngD_getM : ∀ (n : Nat) (lo : Int) (i : Nat) (x : D), (rngD n lo)[i]? = some x → i < n ∧ x = .int (lo + i)
  | 0, _, i, x, h => by simp [rngD] at h
  | n + 1, lo, 0, x, h => by simp [rngD] at h; exact ⟨by omega, by rw [← h]; simp⟩
  | n + 1, lo, i + 1, x, h => by
    have h : (rngD n (lo + 1))[i]? = some x := by simpa [rngD] using h
    obtain ⟨h1, h2⟩ := rngD_getM n (lo + 1) i x h
    exact ⟨by omega, by rw [h2]; congr 1; push_cast; omega⟩
theorem rngD_lenM : ∀ (n : Nat) (lo : Int), (rngD n lo).length = n
  | 0, _ => rfl
  | n + 1, lo => congrArg (· + 1) (rngD_lenM n (lo + 1))
/-- a for over range(n): the rule -/
theorem forR {kill : List Nat} {bind : D → Ev → Option Ev} {body : Ev → Option Out} {n : Nat} {lo : Int} {ρ : Ev} (I : Nat → Ev → Prop) (h0 : I 0 ρ) (t : ∀ i ρ, i < n → I i ρ → turnF kill bind body (.int (lo + i)) ρ (I (i + 1))) :
    ∃ ρ', forL kill bind body (rngD n lo) ρ = some (.nx ρ') ∧ I n ρ' := by
  obtain ⟨ρ', e, h⟩ := forL_inv I (rngD n lo) 0 ρ (fun i x ρ hx hi => by
    obtain ⟨h1, rfl⟩ := rngD_getM n lo i x hx
    rw [Nat.zero_add] at hi ⊢
    exact t i ρ h1 hi) h0
  rw [rngD_lenM, Nat.zero_add] at h
  exact ⟨ρ', e, h⟩
inductive All2 {α β : Type} (P : α → β → Prop) : List α → List β → Prop
  | nil : All2 P [] []
  | cons {a : α} {b : β} {l : List α} {m : List β} : P a b → All2 P l m → All2 P (a :: l) (b :: m)
/-- one turn of a comprehension without a test -/
theorem compL_st {k : Nat} {vs : List Nat} {bind : D → Ev → Option Ev} {elt : Ev → Option ((D × Nat) × Ev)} {Γ : Gm} (J : Ev → Prop) (P : D → D → Prop) : ∀ (xs : List D) (ρ : Ev), (∀ x ρ, x ∈ xs → J ρ → W ((bind x ρ).bind elt) fun r => (k = 0 ∨ r.1.2 = k) ∧ P x r.1.1 ∧ J (wp r.2 vs)) → J ρ →
    ∃ ys ρ', compL k vs bind (evA Γ .nil) elt xs ρ = some (ys, ρ') ∧ All2 P xs ys ∧ J ρ'
  | [], ρ, _, h => ⟨[], ρ, rfl, .nil, h⟩
  | x :: xs, ρ, t, h => by
    obtain ⟨⟨⟨d, k'⟩, ρ1⟩, e, hk, hp, h1⟩ := t x ρ (by simp) h
    obtain ⟨ys, ρ2, e2, f2, h2⟩ := compL_st (Γ := Γ) J P xs _ (fun y ρ hy hj => t y ρ (by simp [hy]) hj) h1
    refine ⟨d :: ys, ρ2, ?_, .cons hp f2, h2⟩
    unfold compL
    cases hb : bind x ρ with
    | none => rw [hb] at e; cases e
    | some ρ3 =>
      rw [hb] at e
      have e : elt ρ3 = some ((d, k'), ρ1) := e
      have hk : k = 0 ∨ k' = k := hk
      have e2 : compL k vs bind (evA Γ .nil) elt xs (wp ρ1 vs) = some (ys, ρ2) := e2
      have ht : evA Γ .nil ρ3 = some (true, ρ3) := rfl
      simp only [ht, mb_some, e, hk, if_true, e2, Option.bind_some]
/-- .. that leaves everything as it was -/
theorem compL_map {k : Nat} {vs : List Nat} {bind : D → Ev → Option Ev} {elt : Ev → Option ((D × Nat) × Ev)} {Γ : Gm} (f : D → D) {ρ : Ev} : ∀ (xs : List D), (∀ x, x ∈ xs → W ((bind x ρ).bind elt) fun r => (k = 0 ∨ r.1.2 = k) ∧ r.1.1 = f x ∧ wp r.2 vs = ρ) →
    compL k vs bind (evA Γ .nil) elt xs ρ = some (xs.map f, ρ) := fun xs h => by
  obtain ⟨ys, ρ', e, f2, rfl⟩ := compL_st (k := k) (vs := vs) (bind := bind) (elt := elt) (Γ := Γ) (fun ρ' => ρ' = ρ) (fun x y => y = f x) xs ρ (fun x ρ' hx hj => by subst hj; exact (h x hx)) rfl
  rw [e]
  congr 2
  clear e h
  induction f2 with
  | nil => rfl
  | cons h t ih => rw [List.map_cons, h, ih]
/-- .. with a test -/
theorem compL_fm {k : Nat} {vs : List Nat} {bind : D → Ev → Option Ev} {test : Ev → Option (Bool × Ev)} {elt : Ev → Option ((D × Nat) × Ev)} (f : D → Option D) {ρ : Ev} : ∀ (xs : List D),
    (∀ x, x ∈ xs → W ((bind x ρ).bind test) fun r => (r.1 = false ∧ f x = none ∧ wp r.2 vs = ρ) ∨ (r.1 = true ∧ W (elt r.2) fun r => (k = 0 ∨ r.1.2 = k) ∧ f x = some r.1.1 ∧ wp r.2 vs = ρ)) →
    compL k vs bind test elt xs ρ = some (xs.filterMap f, ρ)
  | [], _ => rfl
  | x :: xs, t => by
    have ih := compL_fm (k := k) (vs := vs) (bind := bind) (test := test) (elt := elt) f (ρ := ρ) xs fun y hy => t y (by simp [hy])
    obtain ⟨⟨b, ρ1⟩, e, h⟩ := t x (by simp)
    unfold compL
    cases hb : bind x ρ with
    | none => rw [hb] at e; cases e
    | some ρ3 =>
      rw [hb] at e
      have e : test ρ3 = some (b, ρ1) := e
      rcases h with ⟨rfl, hf, hw⟩ | ⟨rfl, ⟨⟨⟨d, k'⟩, ρ2⟩, e2, hk, hf, hw⟩⟩
      · have hw : wp ρ1 vs = ρ := hw
        simp only [Option.bind_some, e, mb_some, Bool.false_eq_true, if_false, hw, ih, List.filterMap_cons_none hf]
      · have hw : wp ρ2 vs = ρ := hw
        have hk : k = 0 ∨ k' = k := hk
        have e2 : elt ρ1 = some ((d, k'), ρ2) := e2
        simp only [Option.bind_some, e, mb_some, if_true, e2, hk, hw, ih, List.filterMap_cons_some hf]

/-! ### the same, by text -/
theorem compE_st {Γ : Gm} {k : Nat} {vs : List Nat} {tg : Tg} {e : E} (J : Ev → Prop) (P : D → D → Prop) {xs : List D} {ρ : Ev} (h : ∀ x ρ, x ∈ xs → J ρ → W ((bnd tg x ρ).bind (ev Γ e)) fun r => (k = 0 ∨ r.1.2 = k) ∧ P x r.1.1 ∧ J (wp r.2 vs)) (h0 : J ρ) :
    ∃ ys ρ', compE Γ k vs tg .nil e xs ρ = some (ys, ρ') ∧ All2 P xs ys ∧ J ρ' := compL_st (Γ := Γ) J P xs ρ h h0
theorem compE_map {Γ : Gm} {k : Nat} {vs : List Nat} {tg : Tg} {e : E} (f : D → D) {ρ : Ev} {xs : List D} (h : ∀ x, x ∈ xs → W ((bnd tg x ρ).bind (ev Γ e)) fun r => (k = 0 ∨ r.1.2 = k) ∧ r.1.1 = f x ∧ wp r.2 vs = ρ) :
    compE Γ k vs tg .nil e xs ρ = some (xs.map f, ρ) := compL_map (Γ := Γ) f xs h
theorem compE_fm {Γ : Gm} {k : Nat} {vs : List Nat} {tg : Tg} {cs : Ts} {e : E} (f : D → Option D) {ρ : Ev} {xs : List D}
    (h : ∀ x, x ∈ xs → W ((bnd tg x ρ).bind (evA Γ cs)) fun r => (r.1 = false ∧ f x = none ∧ wp r.2 vs = ρ) ∨ (r.1 = true ∧ W (ev Γ e r.2) fun r => (k = 0 ∨ r.1.2 = k) ∧ f x = some r.1.1 ∧ wp r.2 vs = ρ)) :
    compE Γ k vs tg cs e xs ρ = some (xs.filterMap f, ρ) := compL_fm f xs h
theorem forE_inv {Γ : Gm} {kill : List Nat} {tg : Tg} {body : Ss} {xs : List D} {ρ : Ev} (I : Nat → Ev → Prop) (t : ∀ i x ρ, xs[i]? = some x → I i ρ → W ((bnd tg x ρ).bind (exs Γ body)) fun o => ∃ ρ', o = .nx ρ' ∧ I (i + 1) (wp ρ' kill)) (h : I 0 ρ) :
    ∃ ρ', forE Γ kill tg body xs ρ = some (.nx ρ') ∧ I xs.length ρ' := by
  obtain ⟨ρ', e, h⟩ := forL_inv (kill := kill) (bind := bnd tg) (body := exs Γ body) I xs 0 ρ (fun i x ρ hx hi => by rw [Nat.zero_add] at hi ⊢; exact t i x ρ hx hi) h
  rw [Nat.zero_add] at h
  exact ⟨ρ', e, h⟩
theorem forE_rng {Γ : Gm} {kill : List Nat} {tg : Tg} {body : Ss} {n : Nat} {lo : Int} {ρ : Ev} (I : Nat → Ev → Prop) (t : ∀ i ρ, i < n → I i ρ → W ((bnd tg (.int (lo + i)) ρ).bind (exs Γ body)) fun o => ∃ ρ', o = .nx ρ' ∧ I (i + 1) (wp ρ' kill)) (h : I 0 ρ) :
    ∃ ρ', forE Γ kill tg body (rngD n lo) ρ = some (.nx ρ') ∧ I n ρ' := forR I h t

/-! ### shapes -/
def isWhole (d : D) (lo hi : Int) : Bool := match d with
  | .int v => decide (lo ≤ v) && decide (v ≤ hi)
  | _ => false
def isTupOf (d : D) (lo hi : Int) : Bool := match d with
  | .tuple xs => decide (lo ≤ xs.length) && decide ((xs.length : Int) ≤ hi)
  | _ => false
def noDict : D → Bool
  | .dict _ => false
  | _ => true
/-- what an ordinary def hands back -/
def rB (b : Bool) : Option FR := some ⟨.bool b, 0, .none⟩
def WholeOk (S : Fn) : Prop := ∀ d lo hi, noDict d = true → S [d, .int lo, .int hi] = rB (isWhole d lo hi)
def TupOk (S : Fn) : Prop := ∀ d lo hi, noDict d = true → S [d, .int lo, .int hi] = rB (isTupOf d lo hi)
theorem whole_ok {Γ : Gm} : WholeOk (run Γ false 3 3 C.b_is_whole) := by
  intro d lo hi hd
  rw [run3]
  unfold C.b_is_whole
  simp only [ent, List.map_cons, List.map_nil, List.cons_append, List.nil_append, List.length_cons, List.length_nil, List.replicate_succ, List.replicate_zero, Nat.reduceAdd, Nat.reduceSub, if_true, if_false, ↓reduceIte, Bool.false_eq_true]
  cases d with
  | int v =>
    simp (config := { decide := false, maxSteps := 1000000 }) only [exs_nil, exs_cons, nxt_nx, nxt_rt, nxt_bk, nxt_ct, ex_for, ex_while, ev_comp, ev_nm, ev_int, ev_bl, ev_non, ev_str, ev_glb, ev_op, ev_neg, ev_tst, ev_ife, ev_tup, ev_lst, ev_ix, ev_bix, ev_bix2, ev_slc, ev_call, ev_cio, ev_b1, ev_dnew, ev_blen, ev_b2, ev_isi, evs_nil, evs_cons, evo_no, evo_yes, evT_ex, evT_cm, evT_chn, evT_not, evT_and, evT_or, evA_nil, evA_cons, evR_nil, evR_cons, evI_ex, evI_rng1, evI_rng2, evI_enm, evI_zip, ex_set, ex_tset, ex_par, ex_par3, ex_aug, ex_ixset, ex_pst, ex_ixset2, ex_ixset22, ex_app, ex_expr, ex_ret, ex_retN, ex_ite, ex_brk, ex_cont, ex_pass, ex_never, mb_some, mb_none, gt_zero, gt_succ, st_zero, st_succ, wp, bk, rdN, ow1, ow01, ow2, setable, setS, set1, set2, up1, bnd, bnds, isiD, outF, ioOf, atI0, atI1, atI2, atI3, ixN0, ixN1, len0, len1, len2, len3, len4, len5, len6, len7, len8, len9, List.length_cons, List.length_nil, List.length_map, List.length_append, Nat.zero_add, Nat.reduceAdd, set0, set1', opD_add, opD_sub, opD_mul, opD_fdiv, opD_mod, opD_pow, opD_addT, opD_addL, opD_mulL, opD_mulT, lvD_int, lvD_bool, lvD_str, lvD_tuple, lvD_dict, lvD_none, lvD_list, b1_lenL, b1_lenT, b1_lenD, b1_lenK, b1_abs, b1_int, b1_tupL, b1_tupT, b1_lstL, b1_lstT, b1_lstS, b1_all, b1_any, b1_str, b1_srtL, b1_srtD, b2_min, b2_max, cm_eq, cm_ne, cm_lt, cm_le, cm_gt, cm_ge, cm_ltT, cm_is_int, cm_isN_int, cm_is_tuple, cm_isN_tuple, cm_is_list, cm_isN_list, cm_is_bool, cm_isN_bool, cm_is_str, cm_isN_str, cm_is_none, cm_isN_none, cm_isb, cm_isNb, ix_L, ix_T, sl_L, sl_T, st_L, Option.bind_some, Option.map_some, Option.bind_none, Option.map_none, if_true, if_false, ↓reduceIte, Bool.and_true, Bool.true_and, Bool.and_false, Bool.false_and, Bool.not_true, Bool.not_false, decide_true, decide_false, decide_not, Bool.false_eq_true]
    by_cases h : lo ≤ v <;> by_cases h2 : v ≤ hi <;> (simp (config := { decide := false, maxSteps := 1000000 }) only [exs_nil, exs_cons, nxt_nx, nxt_rt, nxt_bk, nxt_ct, ex_for, ex_while, ev_comp, ev_nm, ev_int, ev_bl, ev_non, ev_str, ev_glb, ev_op, ev_neg, ev_tst, ev_ife, ev_tup, ev_lst, ev_ix, ev_bix, ev_bix2, ev_slc, ev_call, ev_cio, ev_b1, ev_dnew, ev_blen, ev_b2, ev_isi, evs_nil, evs_cons, evo_no, evo_yes, evT_ex, evT_cm, evT_chn, evT_not, evT_and, evT_or, evA_nil, evA_cons, evR_nil, evR_cons, evI_ex, evI_rng1, evI_rng2, evI_enm, evI_zip, ex_set, ex_tset, ex_par, ex_par3, ex_aug, ex_ixset, ex_pst, ex_ixset2, ex_ixset22, ex_app, ex_expr, ex_ret, ex_retN, ex_ite, ex_brk, ex_cont, ex_pass, ex_never, mb_some, mb_none, gt_zero, gt_succ, st_zero, st_succ, wp, bk, rdN, ow1, ow01, ow2, setable, setS, set1, set2, up1, bnd, bnds, isiD, outF, ioOf, atI0, atI1, atI2, atI3, ixN0, ixN1, len0, len1, len2, len3, len4, len5, len6, len7, len8, len9, List.length_cons, List.length_nil, List.length_map, List.length_append, Nat.zero_add, Nat.reduceAdd, set0, set1', opD_add, opD_sub, opD_mul, opD_fdiv, opD_mod, opD_pow, opD_addT, opD_addL, opD_mulL, opD_mulT, lvD_int, lvD_bool, lvD_str, lvD_tuple, lvD_dict, lvD_none, lvD_list, b1_lenL, b1_lenT, b1_lenD, b1_lenK, b1_abs, b1_int, b1_tupL, b1_tupT, b1_lstL, b1_lstT, b1_lstS, b1_all, b1_any, b1_str, b1_srtL, b1_srtD, b2_min, b2_max, cm_eq, cm_ne, cm_lt, cm_le, cm_gt, cm_ge, cm_ltT, cm_is_int, cm_isN_int, cm_is_tuple, cm_isN_tuple, cm_is_list, cm_isN_list, cm_is_bool, cm_isN_bool, cm_is_str, cm_isN_str, cm_is_none, cm_isN_none, cm_isb, cm_isNb, ix_L, ix_T, sl_L, sl_T, st_L, Option.bind_some, Option.map_some, Option.bind_none, Option.map_none, if_true, if_false, ↓reduceIte, Bool.and_true, Bool.true_and, Bool.and_false, Bool.false_and, Bool.not_true, Bool.not_false, decide_true, decide_false, decide_not, Bool.false_eq_true, h, h2]; simp [isWhole, rB, h, h2])
  | dict _ => cases hd
  | _ => simp (config := { decide := false, maxSteps := 1000000 }) only [exs_nil, exs_cons, nxt_nx, nxt_rt, nxt_bk, nxt_ct, ex_for, ex_while, ev_comp, ev_nm, ev_int, ev_bl, ev_non, ev_str, ev_glb, ev_op, ev_neg, ev_tst, ev_ife, ev_tup, ev_lst, ev_ix, ev_bix, ev_bix2, ev_slc, ev_call, ev_cio, ev_b1, ev_dnew, ev_blen, ev_b2, ev_isi, evs_nil, evs_cons, evo_no, evo_yes, evT_ex, evT_cm, evT_chn, evT_not, evT_and, evT_or, evA_nil, evA_cons, evR_nil, evR_cons, evI_ex, evI_rng1, evI_rng2, evI_enm, evI_zip, ex_set, ex_tset, ex_par, ex_par3, ex_aug, ex_ixset, ex_pst, ex_ixset2, ex_ixset22, ex_app, ex_expr, ex_ret, ex_retN, ex_ite, ex_brk, ex_cont, ex_pass, ex_never, mb_some, mb_none, gt_zero, gt_succ, st_zero, st_succ, wp, bk, rdN, ow1, ow01, ow2, setable, setS, set1, set2, up1, bnd, bnds, isiD, outF, ioOf, atI0, atI1, atI2, atI3, ixN0, ixN1, len0, len1, len2, len3, len4, len5, len6, len7, len8, len9, List.length_cons, List.length_nil, List.length_map, List.length_append, Nat.zero_add, Nat.reduceAdd, set0, set1', opD_add, opD_sub, opD_mul, opD_fdiv, opD_mod, opD_pow, opD_addT, opD_addL, opD_mulL, opD_mulT, lvD_int, lvD_bool, lvD_str, lvD_tuple, lvD_dict, lvD_none, lvD_list, b1_lenL, b1_lenT, b1_lenD, b1_lenK, b1_abs, b1_int, b1_tupL, b1_tupT, b1_lstL, b1_lstT, b1_lstS, b1_all, b1_any, b1_str, b1_srtL, b1_srtD, b2_min, b2_max, cm_eq, cm_ne, cm_lt, cm_le, cm_gt, cm_ge, cm_ltT, cm_is_int, cm_isN_int, cm_is_tuple, cm_isN_tuple, cm_is_list, cm_isN_list, cm_is_bool, cm_isN_bool, cm_is_str, cm_isN_str, cm_is_none, cm_isN_none, cm_isb, cm_isNb, ix_L, ix_T, sl_L, sl_T, st_L, Option.bind_some, Option.map_some, Option.bind_none, Option.map_none, if_true, if_false, ↓reduceIte, Bool.and_true, Bool.true_and, Bool.and_false, Bool.false_and, Bool.not_true, Bool.not_false, decide_true, decide_false, decide_not, Bool.false_eq_true]; rfl
theorem tup_ok {Γ : Gm} : TupOk (run Γ false 3 3 C.b_is_tuple_of) := by
  intro d lo hi hd
  rw [run3]
  unfold C.b_is_tuple_of
  simp only [ent, List.map_cons, List.map_nil, List.cons_append, List.nil_append, List.length_cons, List.length_nil, List.replicate_succ, List.replicate_zero, Nat.reduceAdd, Nat.reduceSub, if_true, if_false, ↓reduceIte, Bool.false_eq_true]
  cases d with
  | tuple xs =>
    simp (config := { decide := false, maxSteps := 1000000 }) only [exs_nil, exs_cons, nxt_nx, nxt_rt, nxt_bk, nxt_ct, ex_for, ex_while, ev_comp, ev_nm, ev_int, ev_bl, ev_non, ev_str, ev_glb, ev_op, ev_neg, ev_tst, ev_ife, ev_tup, ev_lst, ev_ix, ev_bix, ev_bix2, ev_slc, ev_call, ev_cio, ev_b1, ev_dnew, ev_blen, ev_b2, ev_isi, evs_nil, evs_cons, evo_no, evo_yes, evT_ex, evT_cm, evT_chn, evT_not, evT_and, evT_or, evA_nil, evA_cons, evR_nil, evR_cons, evI_ex, evI_rng1, evI_rng2, evI_enm, evI_zip, ex_set, ex_tset, ex_par, ex_par3, ex_aug, ex_ixset, ex_pst, ex_ixset2, ex_ixset22, ex_app, ex_expr, ex_ret, ex_retN, ex_ite, ex_brk, ex_cont, ex_pass, ex_never, mb_some, mb_none, gt_zero, gt_succ, st_zero, st_succ, wp, bk, rdN, ow1, ow01, ow2, setable, setS, set1, set2, up1, bnd, bnds, isiD, outF, ioOf, atI0, atI1, atI2, atI3, ixN0, ixN1, len0, len1, len2, len3, len4, len5, len6, len7, len8, len9, List.length_cons, List.length_nil, List.length_map, List.length_append, Nat.zero_add, Nat.reduceAdd, set0, set1', opD_add, opD_sub, opD_mul, opD_fdiv, opD_mod, opD_pow, opD_addT, opD_addL, opD_mulL, opD_mulT, lvD_int, lvD_bool, lvD_str, lvD_tuple, lvD_dict, lvD_none, lvD_list, b1_lenL, b1_lenT, b1_lenD, b1_lenK, b1_abs, b1_int, b1_tupL, b1_tupT, b1_lstL, b1_lstT, b1_lstS, b1_all, b1_any, b1_str, b1_srtL, b1_srtD, b2_min, b2_max, cm_eq, cm_ne, cm_lt, cm_le, cm_gt, cm_ge, cm_ltT, cm_is_int, cm_isN_int, cm_is_tuple, cm_isN_tuple, cm_is_list, cm_isN_list, cm_is_bool, cm_isN_bool, cm_is_str, cm_isN_str, cm_is_none, cm_isN_none, cm_isb, cm_isNb, ix_L, ix_T, sl_L, sl_T, st_L, Option.bind_some, Option.map_some, Option.bind_none, Option.map_none, if_true, if_false, ↓reduceIte, Bool.and_true, Bool.true_and, Bool.and_false, Bool.false_and, Bool.not_true, Bool.not_false, decide_true, decide_false, decide_not, Bool.false_eq_true]
    by_cases h : lo ≤ (xs.length : Int) <;> by_cases h2 : (xs.length : Int) ≤ hi <;> (simp (config := { decide := false, maxSteps := 1000000 }) only [exs_nil, exs_cons, nxt_nx, nxt_rt, nxt_bk, nxt_ct, ex_for, ex_while, ev_comp, ev_nm, ev_int, ev_bl, ev_non, ev_str, ev_glb, ev_op, ev_neg, ev_tst, ev_ife, ev_tup, ev_lst, ev_ix, ev_bix, ev_bix2, ev_slc, ev_call, ev_cio, ev_b1, ev_dnew, ev_blen, ev_b2, ev_isi, evs_nil, evs_cons, evo_no, evo_yes, evT_ex, evT_cm, evT_chn, evT_not, evT_and, evT_or, evA_nil, evA_cons, evR_nil, evR_cons, evI_ex, evI_rng1, evI_rng2, evI_enm, evI_zip, ex_set, ex_tset, ex_par, ex_par3, ex_aug, ex_ixset, ex_pst, ex_ixset2, ex_ixset22, ex_app, ex_expr, ex_ret, ex_retN, ex_ite, ex_brk, ex_cont, ex_pass, ex_never, mb_some, mb_none, gt_zero, gt_succ, st_zero, st_succ, wp, bk, rdN, ow1, ow01, ow2, setable, setS, set1, set2, up1, bnd, bnds, isiD, outF, ioOf, atI0, atI1, atI2, atI3, ixN0, ixN1, len0, len1, len2, len3, len4, len5, len6, len7, len8, len9, List.length_cons, List.length_nil, List.length_map, List.length_append, Nat.zero_add, Nat.reduceAdd, set0, set1', opD_add, opD_sub, opD_mul, opD_fdiv, opD_mod, opD_pow, opD_addT, opD_addL, opD_mulL, opD_mulT, lvD_int, lvD_bool, lvD_str, lvD_tuple, lvD_dict, lvD_none, lvD_list, b1_lenL, b1_lenT, b1_lenD, b1_lenK, b1_abs, b1_int, b1_tupL, b1_tupT, b1_lstL, b1_lstT, b1_lstS, b1_all, b1_any, b1_str, b1_srtL, b1_srtD, b2_min, b2_max, cm_eq, cm_ne, cm_lt, cm_le, cm_gt, cm_ge, cm_ltT, cm_is_int, cm_isN_int, cm_is_tuple, cm_isN_tuple, cm_is_list, cm_isN_list, cm_is_bool, cm_isN_bool, cm_is_str, cm_isN_str, cm_is_none, cm_isN_none, cm_isb, cm_isNb, ix_L, ix_T, sl_L, sl_T, st_L, Option.bind_some, Option.map_some, Option.bind_none, Option.map_none, if_true, if_false, ↓reduceIte, Bool.and_true, Bool.true_and, Bool.and_false, Bool.false_and, Bool.not_true, Bool.not_false, decide_true, decide_false, decide_not, Bool.false_eq_true, h, h2]; simp [isTupOf, rB, h, h2])
  | dict _ => cases hd
  | _ => simp (config := { decide := false, maxSteps := 1000000 }) only [exs_nil, exs_cons, nxt_nx, nxt_rt, nxt_bk, nxt_ct, ex_for, ex_while, ev_comp, ev_nm, ev_int, ev_bl, ev_non, ev_str, ev_glb, ev_op, ev_neg, ev_tst, ev_ife, ev_tup, ev_lst, ev_ix, ev_bix, ev_bix2, ev_slc, ev_call, ev_cio, ev_b1, ev_dnew, ev_blen, ev_b2, ev_isi, evs_nil, evs_cons, evo_no, evo_yes, evT_ex, evT_cm, evT_chn, evT_not, evT_and, evT_or, evA_nil, evA_cons, evR_nil, evR_cons, evI_ex, evI_rng1, evI_rng2, evI_enm, evI_zip, ex_set, ex_tset, ex_par, ex_par3, ex_aug, ex_ixset, ex_pst, ex_ixset2, ex_ixset22, ex_app, ex_expr, ex_ret, ex_retN, ex_ite, ex_brk, ex_cont, ex_pass, ex_never, mb_some, mb_none, gt_zero, gt_succ, st_zero, st_succ, wp, bk, rdN, ow1, ow01, ow2, setable, setS, set1, set2, up1, bnd, bnds, isiD, outF, ioOf, atI0, atI1, atI2, atI3, ixN0, ixN1, len0, len1, len2, len3, len4, len5, len6, len7, len8, len9, List.length_cons, List.length_nil, List.length_map, List.length_append, Nat.zero_add, Nat.reduceAdd, set0, set1', opD_add, opD_sub, opD_mul, opD_fdiv, opD_mod, opD_pow, opD_addT, opD_addL, opD_mulL, opD_mulT, lvD_int, lvD_bool, lvD_str, lvD_tuple, lvD_dict, lvD_none, lvD_list, b1_lenL, b1_lenT, b1_lenD, b1_lenK, b1_abs, b1_int, b1_tupL, b1_tupT, b1_lstL, b1_lstT, b1_lstS, b1_all, b1_any, b1_str, b1_srtL, b1_srtD, b2_min, b2_max, cm_eq, cm_ne, cm_lt, cm_le, cm_gt, cm_ge, cm_ltT, cm_is_int, cm_isN_int, cm_is_tuple, cm_isN_tuple, cm_is_list, cm_isN_list, cm_is_bool, cm_isN_bool, cm_is_str, cm_isN_str, cm_is_none, cm_isN_none, cm_isb, cm_isNb, ix_L, ix_T, sl_L, sl_T, st_L, Option.bind_some, Option.map_some, Option.bind_none, Option.map_none, if_true, if_false, ↓reduceIte, Bool.and_true, Bool.true_and, Bool.and_false, Bool.false_and, Bool.not_true, Bool.not_false, decide_true, decide_false, decide_not, Bool.false_eq_true]; rfl
end DI

/-! M2: figures, settings: what the program takes. -/
namespace DI
open PySem
/-! ### cuts -/
theorem cut_to (xs : List D) (k : Nat) : cutD xs none (some (k : Int)) = xs.take k := by
  unfold cutD
  rw [HT.sIx_none, HT.sIx_nat, List.drop_zero, Nat.sub_zero]
  by_cases h : k ≤ xs.length
  · rw [Nat.min_eq_left h]
  · rw [Nat.min_eq_right (by omega), List.take_of_length_le (Nat.le_refl _), List.take_of_length_le (by omega)]
theorem cut_from (xs : List D) (k : Nat) : cutD xs (some (k : Int)) none = xs.drop k := by
  unfold cutD
  rw [HT.sIx_none, HT.sIx_nat]
  by_cases h : k ≤ xs.length
  · rw [Nat.min_eq_left h, List.take_of_length_le (by rw [List.length_drop]; omega)]
  · rw [Nat.min_eq_right (by omega), Nat.sub_self, List.take_zero, List.drop_of_length_le (by omega)]
theorem cut_from1 (xs : List D) : cutD xs (some 1) none = xs.drop 1 := cut_from xs 1
theorem cut_to1 (xs : List D) : cutD xs none (some 1) = xs.take 1 := cut_to xs 1
theorem cut_to2 (xs : List D) : cutD xs none (some 2) = xs.take 2 := cut_to xs 2
theorem zipD_mem : ∀ {xs ys : List D} {z : D}, z ∈ zipD xs ys → ∃ (i : Nat) (x y : D), xs[i]? = some x ∧ ys[i]? = some y ∧ z = .tuple [x, y]
  | [], _, _, h => by simp [zipD] at h
  | _ :: _, [], _, h => by simp [zipD] at h
  | x :: xs, y :: ys, z, h => by
    rcases List.mem_cons.mp (show z ∈ PyData.tuple [x, y] :: zipD xs ys from h) with e | e
    · exact ⟨0, x, y, rfl, rfl, e⟩
    · obtain ⟨i, a, b, h1, h2, h3⟩ := zipD_mem e
      exact ⟨i + 1, a, b, by simpa using h1, by simpa using h2, h3⟩
theorem bools_const : ∀ (xs : List D) (f : D → D), (∀ x ∈ xs, f x = .bool true) → (boolsOf (xs.map f)).map (fun bs => PyData.bool (bs.all id)) = some (.bool true)
  | [], _, _ => rfl
  | x :: xs, f, h => by
    have ih := bools_const xs f fun y hy => h y (by simp [hy])
    rw [List.map_cons, h x (by simp)]
    unfold boolsOf
    cases hb : boolsOf (xs.map f) with
    | none => rw [hb] at ih; cases ih
    | some bs =>
      rw [hb] at ih
      have ih : some (PyData.bool (bs.all id)) = some (.bool true) := ih
      show some (PyData.bool ((true :: bs).all id)) = _
      rw [List.all_cons]; simpa using ih
theorem bools_map {α : Type} (p : α → Bool) : ∀ xs : List α, (boolsOf (xs.map fun x => .bool (p x))).map (fun bs => PyData.bool (bs.all id)) = some (.bool (xs.all p))
  | [] => rfl
  | x :: xs => by
    have ih := bools_map p xs
    rw [List.map_cons]
    unfold boolsOf
    cases hb : boolsOf (xs.map fun x => .bool (p x)) with
    | none => rw [hb] at ih; cases ih
    | some bs =>
      rw [hb] at ih
      have ih : some (PyData.bool (bs.all id)) = some (.bool (xs.all p)) := ih
      show some (PyData.bool ((p x :: bs).all id)) = _
      rw [List.all_cons, List.all_cons]
      injection ih with ih
      injection ih with ih
      rw [ih]; rfl

/-! ### figures -/
structure Fig where
  n : Nat
  limbs : List (Nat × Nat × Int)
  ties : List Nat
  floor : Int
def limbD (l : Nat × Nat × Int) : D := .tuple [.int l.1, .int l.2.1, .int l.2.2]
def natD (t : Nat) : D := .int t
def intsD (l : List Int) : D := .tuple (l.map PyData.int)
def figD (F : Fig) : D := .tuple [.int F.n, .tuple (F.limbs.map limbD), .tuple (F.ties.map natD), .int F.floor]
def limbLt (l m : Nat × Nat × Int) : Prop := l.1 < m.1 ∨ (l.1 = m.1 ∧ l.2.1 < m.2.1)
structure FigOk (F : Fig) : Prop where
  n1 : 1 ≤ F.n
  n8 : F.n ≤ 8
  f1 : 1 ≤ F.floor
  f30 : F.floor ≤ 30
  l12 : F.limbs.length ≤ 12
  lo : ∀ l ∈ F.limbs, l.1 < l.2.1 ∧ l.2.1 < F.n ∧ 1 ≤ l.2.2 ∧ l.2.2 ≤ 9
  lt : F.limbs.Pairwise limbLt
  t1 : 1 ≤ F.ties.length
  t6 : F.ties.length ≤ 6
  to : ∀ t ∈ F.ties, t < F.n
theorem noDict_fig {F : Fig} : noDict (figD F) = true := rfl
def LimbOk (S : Fn) : Prop := ∀ (n : Nat) (l : Nat × Nat × Int), l.1 < l.2.1 → l.2.1 < n → 1 ≤ l.2.2 → l.2.2 ≤ 9 → S [.int n, limbD l] = rB true
theorem limb_ok {Γ : Gm} (h0 : WholeOk (Γ 0)) (h1 : TupOk (Γ 1)) : LimbOk (run Γ false 2 2 C.b_fits_limb) := by
  rintro n ⟨a, b, l⟩ h h2 h3 h4
  rw [run2]
  unfold C.b_fits_limb limbD
  simp only [ent, List.map_cons, List.map_nil, List.cons_append, List.nil_append, List.length_cons, List.length_nil, List.replicate_succ, List.replicate_zero, Nat.reduceAdd, Nat.reduceSub, if_true, if_false, ↓reduceIte, Bool.false_eq_true]
  simp only at h h2 h3 h4
  have e1 := h1 (.tuple [.int a, .int b, .int l]) 3 3 rfl
  have e2 := h0 (.int a) 0 (n - 1) rfl
  have e3 := h0 (.int b) 0 (n - 1) rfl
  have e4 := h0 (.int l) 1 9 rfl
  have i1 : isTupOf (.tuple [.int a, .int b, .int l]) 3 3 = true := by simp [isTupOf]
  have i2 : isWhole (.int a) 0 (n - 1) = true := by simp [isWhole]; omega
  have i3 : isWhole (.int b) 0 (n - 1) = true := by simp [isWhole]; omega
  have i4 : isWhole (.int l) 1 9 = true := by simp [isWhole]; omega
  rw [i1] at e1; rw [i2] at e2; rw [i3] at e3; rw [i4] at e4
  unfold rB at e1 e2 e3 e4
  have hab : (a : Int) < b := by omega
  simp (config := { decide := false, maxSteps := 1000000 }) only [exs_nil, exs_cons, nxt_nx, nxt_rt, nxt_bk, nxt_ct, ex_for, ex_while, ev_comp, ev_nm, ev_int, ev_bl, ev_non, ev_str, ev_glb, ev_op, ev_neg, ev_tst, ev_ife, ev_tup, ev_lst, ev_ix, ev_bix, ev_bix2, ev_slc, ev_call, ev_cio, ev_b1, ev_dnew, ev_blen, ev_b2, ev_isi, evs_nil, evs_cons, evo_no, evo_yes, evT_ex, evT_cm, evT_chn, evT_not, evT_and, evT_or, evA_nil, evA_cons, evR_nil, evR_cons, evI_ex, evI_rng1, evI_rng2, evI_enm, evI_zip, ex_set, ex_tset, ex_par, ex_par3, ex_aug, ex_ixset, ex_pst, ex_ixset2, ex_ixset22, ex_app, ex_expr, ex_ret, ex_retN, ex_ite, ex_brk, ex_cont, ex_pass, ex_never, mb_some, mb_none, gt_zero, gt_succ, st_zero, st_succ, wp, bk, rdN, ow1, ow01, ow2, setable, setS, set1, set2, up1, bnd, bnds, isiD, outF, ioOf, atI0, atI1, atI2, atI3, ixN0, ixN1, len0, len1, len2, len3, len4, len5, len6, len7, len8, len9, List.length_cons, List.length_nil, List.length_map, List.length_append, Nat.zero_add, Nat.reduceAdd, set0, set1', opD_add, opD_sub, opD_mul, opD_fdiv, opD_mod, opD_pow, opD_addT, opD_addL, opD_mulL, opD_mulT, lvD_int, lvD_bool, lvD_str, lvD_tuple, lvD_dict, lvD_none, lvD_list, b1_lenL, b1_lenT, b1_lenD, b1_lenK, b1_abs, b1_int, b1_tupL, b1_tupT, b1_lstL, b1_lstT, b1_lstS, b1_all, b1_any, b1_str, b1_srtL, b1_srtD, b2_min, b2_max, cm_eq, cm_ne, cm_lt, cm_le, cm_gt, cm_ge, cm_ltT, cm_is_int, cm_isN_int, cm_is_tuple, cm_isN_tuple, cm_is_list, cm_isN_list, cm_is_bool, cm_isN_bool, cm_is_str, cm_isN_str, cm_is_none, cm_isN_none, cm_isb, cm_isNb, ix_L, ix_T, sl_L, sl_T, st_L, Option.bind_some, Option.map_some, Option.bind_none, Option.map_none, if_true, if_false, ↓reduceIte, Bool.and_true, Bool.true_and, Bool.and_false, Bool.false_and, Bool.not_true, Bool.not_false, decide_true, decide_false, decide_not, Bool.false_eq_true, e1, e2, e3, e4, hab]
  rfl
theorem sorted_get {l : List (Nat × Nat × Int)} (h : l.Pairwise limbLt) {i : Nat} {x y : Nat × Nat × Int} (h1 : l[i]? = some x) (h2 : l[i + 1]? = some y) : limbLt x y := by
  obtain ⟨a1, rfl⟩ := List.getElem?_eq_some_iff.mp h1
  obtain ⟨a2, rfl⟩ := List.getElem?_eq_some_iff.mp h2
  exact List.pairwise_iff_getElem.mp h i (i + 1) a1 a2 (by omega)
def FitsOk (S : Fn) : Prop := ∀ F, FigOk F → S [figD F] = rB true
theorem fits_ok {Γ : Gm} (h0 : WholeOk (Γ 0)) (h1 : TupOk (Γ 1)) (h2 : LimbOk (Γ 2)) : FitsOk (run Γ false 1 9 C.b_fits_figure) := by
  rintro ⟨n, limbs, ties, floor⟩ ⟨n1, n8, f1, f30, l12, lo, lt, t1, t6, to⟩
  simp only at n1 n8 f1 f30 l12 lo lt t1 t6 to
  rw [run1]
  unfold C.b_fits_figure figD
  simp only [ent, List.map_cons, List.map_nil, List.cons_append, List.nil_append, List.length_cons, List.length_nil, List.replicate_succ, List.replicate_zero, Nat.reduceAdd, Nat.reduceSub, if_true, if_false, ↓reduceIte, Bool.false_eq_true]
  have e1 := h1 (.tuple [.int n, .tuple (limbs.map limbD), .tuple (ties.map natD), .int floor]) 4 4 rfl
  have i1 : isTupOf (.tuple [.int n, .tuple (limbs.map limbD), .tuple (ties.map natD), .int floor]) 4 4 = true := by simp [isTupOf]
  have e2 := h0 (.int n) 1 8 rfl
  have i2 : isWhole (.int n) 1 8 = true := by simp [isWhole]; omega
  have e3 := h0 (.int floor) 1 30 rfl
  have i3 : isWhole (.int floor) 1 30 = true := by simp [isWhole]; omega
  have e4 := h1 (.tuple (limbs.map limbD)) 0 12 rfl
  have i4 : isTupOf (.tuple (limbs.map limbD)) 0 12 = true := by simp [isTupOf]; omega
  have e5 := h1 (.tuple (ties.map natD)) 1 6 rfl
  have i5 : isTupOf (.tuple (ties.map natD)) 1 6 = true := by simp [isTupOf]; omega
  rw [i1] at e1; rw [i2] at e2; rw [i3] at e3; rw [i4] at e4; rw [i5] at e5
  unfold rB at e1 e2 e3 e4 e5
  simp (config := { decide := false, maxSteps := 1000000 }) only [exs_nil, exs_cons, nxt_nx, nxt_rt, nxt_bk, nxt_ct, ex_for, ex_while, ev_comp, ev_nm, ev_int, ev_bl, ev_non, ev_str, ev_glb, ev_op, ev_neg, ev_tst, ev_ife, ev_tup, ev_lst, ev_ix, ev_bix, ev_bix2, ev_slc, ev_call, ev_cio, ev_b1, ev_dnew, ev_blen, ev_b2, ev_isi, evs_nil, evs_cons, evo_no, evo_yes, evT_ex, evT_cm, evT_chn, evT_not, evT_and, evT_or, evA_nil, evA_cons, evR_nil, evR_cons, evI_ex, evI_rng1, evI_rng2, evI_enm, evI_zip, ex_set, ex_tset, ex_par, ex_par3, ex_aug, ex_ixset, ex_pst, ex_ixset2, ex_ixset22, ex_app, ex_expr, ex_ret, ex_retN, ex_ite, ex_brk, ex_cont, ex_pass, ex_never, mb_some, mb_none, gt_zero, gt_succ, st_zero, st_succ, wp, bk, rdN, ow1, ow01, ow2, setable, setS, set1, set2, up1, bnd, bnds, isiD, outF, ioOf, atI0, atI1, atI2, atI3, ixN0, ixN1, len0, len1, len2, len3, len4, len5, len6, len7, len8, len9, List.length_cons, List.length_nil, List.length_map, List.length_append, Nat.zero_add, Nat.reduceAdd, set0, set1', opD_add, opD_sub, opD_mul, opD_fdiv, opD_mod, opD_pow, opD_addT, opD_addL, opD_mulL, opD_mulT, lvD_int, lvD_bool, lvD_str, lvD_tuple, lvD_dict, lvD_none, lvD_list, b1_lenL, b1_lenT, b1_lenD, b1_lenK, b1_abs, b1_int, b1_tupL, b1_tupT, b1_lstL, b1_lstT, b1_lstS, b1_all, b1_any, b1_str, b1_srtL, b1_srtD, b2_min, b2_max, cm_eq, cm_ne, cm_lt, cm_le, cm_gt, cm_ge, cm_ltT, cm_is_int, cm_isN_int, cm_is_tuple, cm_isN_tuple, cm_is_list, cm_isN_list, cm_is_bool, cm_isN_bool, cm_is_str, cm_isN_str, cm_is_none, cm_isN_none, cm_isb, cm_isNb, ix_L, ix_T, sl_L, sl_T, st_L, Option.bind_some, Option.map_some, Option.bind_none, Option.map_none, if_true, if_false, ↓reduceIte, Bool.and_true, Bool.true_and, Bool.and_false, Bool.false_and, Bool.not_true, Bool.not_false, decide_true, decide_false, decide_not, Bool.false_eq_true, e1, e2, e3, e4, e5]
  rw [compE_map (fun _ => .bool true)]
  rotate_left
  · intro x hx
    obtain ⟨l, hl, rfl⟩ := List.mem_map.mp hx
    obtain ⟨q1, q2, q3, q4⟩ := lo l hl
    have e := h2 n l q1 q2 q3 q4
    unfold rB at e
    simp (config := { decide := false, maxSteps := 1000000 }) only [exs_nil, exs_cons, nxt_nx, nxt_rt, nxt_bk, nxt_ct, ex_for, ex_while, ev_comp, ev_nm, ev_int, ev_bl, ev_non, ev_str, ev_glb, ev_op, ev_neg, ev_tst, ev_ife, ev_tup, ev_lst, ev_ix, ev_bix, ev_bix2, ev_slc, ev_call, ev_cio, ev_b1, ev_dnew, ev_blen, ev_b2, ev_isi, evs_nil, evs_cons, evo_no, evo_yes, evT_ex, evT_cm, evT_chn, evT_not, evT_and, evT_or, evA_nil, evA_cons, evR_nil, evR_cons, evI_ex, evI_rng1, evI_rng2, evI_enm, evI_zip, ex_set, ex_tset, ex_par, ex_par3, ex_aug, ex_ixset, ex_pst, ex_ixset2, ex_ixset22, ex_app, ex_expr, ex_ret, ex_retN, ex_ite, ex_brk, ex_cont, ex_pass, ex_never, mb_some, mb_none, gt_zero, gt_succ, st_zero, st_succ, wp, bk, rdN, ow1, ow01, ow2, setable, setS, set1, set2, up1, bnd, bnds, isiD, outF, ioOf, atI0, atI1, atI2, atI3, ixN0, ixN1, len0, len1, len2, len3, len4, len5, len6, len7, len8, len9, List.length_cons, List.length_nil, List.length_map, List.length_append, Nat.zero_add, Nat.reduceAdd, set0, set1', opD_add, opD_sub, opD_mul, opD_fdiv, opD_mod, opD_pow, opD_addT, opD_addL, opD_mulL, opD_mulT, lvD_int, lvD_bool, lvD_str, lvD_tuple, lvD_dict, lvD_none, lvD_list, b1_lenL, b1_lenT, b1_lenD, b1_lenK, b1_abs, b1_int, b1_tupL, b1_tupT, b1_lstL, b1_lstT, b1_lstS, b1_all, b1_any, b1_str, b1_srtL, b1_srtD, b2_min, b2_max, cm_eq, cm_ne, cm_lt, cm_le, cm_gt, cm_ge, cm_ltT, cm_is_int, cm_isN_int, cm_is_tuple, cm_isN_tuple, cm_is_list, cm_isN_list, cm_is_bool, cm_isN_bool, cm_is_str, cm_isN_str, cm_is_none, cm_isN_none, cm_isb, cm_isNb, ix_L, ix_T, sl_L, sl_T, st_L, Option.bind_some, Option.map_some, Option.bind_none, Option.map_none, if_true, if_false, ↓reduceIte, Bool.and_true, Bool.true_and, Bool.and_false, Bool.false_and, Bool.not_true, Bool.not_false, decide_true, decide_false, decide_not, Bool.false_eq_true, e]
    first | exact W_some.mpr ⟨.inl rfl, rfl, rfl⟩ | exact W_some.mpr ⟨.inl trivial, rfl, rfl⟩ | exact W_some.mpr ⟨trivial, rfl, rfl⟩
  simp (config := { decide := false, maxSteps := 1000000 }) only [exs_nil, exs_cons, nxt_nx, nxt_rt, nxt_bk, nxt_ct, ex_for, ex_while, ev_comp, ev_nm, ev_int, ev_bl, ev_non, ev_str, ev_glb, ev_op, ev_neg, ev_tst, ev_ife, ev_tup, ev_lst, ev_ix, ev_bix, ev_bix2, ev_slc, ev_call, ev_cio, ev_b1, ev_dnew, ev_blen, ev_b2, ev_isi, evs_nil, evs_cons, evo_no, evo_yes, evT_ex, evT_cm, evT_chn, evT_not, evT_and, evT_or, evA_nil, evA_cons, evR_nil, evR_cons, evI_ex, evI_rng1, evI_rng2, evI_enm, evI_zip, ex_set, ex_tset, ex_par, ex_par3, ex_aug, ex_ixset, ex_pst, ex_ixset2, ex_ixset22, ex_app, ex_expr, ex_ret, ex_retN, ex_ite, ex_brk, ex_cont, ex_pass, ex_never, mb_some, mb_none, gt_zero, gt_succ, st_zero, st_succ, wp, bk, rdN, ow1, ow01, ow2, setable, setS, set1, set2, up1, bnd, bnds, isiD, outF, ioOf, atI0, atI1, atI2, atI3, ixN0, ixN1, len0, len1, len2, len3, len4, len5, len6, len7, len8, len9, List.length_cons, List.length_nil, List.length_map, List.length_append, Nat.zero_add, Nat.reduceAdd, set0, set1', opD_add, opD_sub, opD_mul, opD_fdiv, opD_mod, opD_pow, opD_addT, opD_addL, opD_mulL, opD_mulT, lvD_int, lvD_bool, lvD_str, lvD_tuple, lvD_dict, lvD_none, lvD_list, b1_lenL, b1_lenT, b1_lenD, b1_lenK, b1_abs, b1_int, b1_tupL, b1_tupT, b1_lstL, b1_lstT, b1_lstS, b1_all, b1_any, b1_str, b1_srtL, b1_srtD, b2_min, b2_max, cm_eq, cm_ne, cm_lt, cm_le, cm_gt, cm_ge, cm_ltT, cm_is_int, cm_isN_int, cm_is_tuple, cm_isN_tuple, cm_is_list, cm_isN_list, cm_is_bool, cm_isN_bool, cm_is_str, cm_isN_str, cm_is_none, cm_isN_none, cm_isb, cm_isNb, ix_L, ix_T, sl_L, sl_T, st_L, Option.bind_some, Option.map_some, Option.bind_none, Option.map_none, if_true, if_false, ↓reduceIte, Bool.and_true, Bool.true_and, Bool.and_false, Bool.false_and, Bool.not_true, Bool.not_false, decide_true, decide_false, decide_not, Bool.false_eq_true, e1, e2, e3, e4, e5, bools_const (limbs.map limbD) (fun _ => .bool true) (fun _ _ => rfl)]
  rw [cut_from1]
  rw [compE_map (fun _ => .bool true)]
  rotate_left
  · intro z hz
    obtain ⟨i, x, y, g1, g2, rfl⟩ := zipD_mem hz
    rw [List.getElem?_map] at g1
    rw [List.getElem?_drop, List.getElem?_map] at g2
    obtain ⟨l, hl, rfl⟩ := Option.map_eq_some_iff.mp g1
    obtain ⟨m, hm, rfl⟩ := Option.map_eq_some_iff.mp g2
    have hlt := sorted_get lt hl (by rw [Nat.add_comm] at hm; exact hm)
    unfold limbD
    simp (config := { decide := false, maxSteps := 1000000 }) only [exs_nil, exs_cons, nxt_nx, nxt_rt, nxt_bk, nxt_ct, ex_for, ex_while, ev_comp, ev_nm, ev_int, ev_bl, ev_non, ev_str, ev_glb, ev_op, ev_neg, ev_tst, ev_ife, ev_tup, ev_lst, ev_ix, ev_bix, ev_bix2, ev_slc, ev_call, ev_cio, ev_b1, ev_dnew, ev_blen, ev_b2, ev_isi, evs_nil, evs_cons, evo_no, evo_yes, evT_ex, evT_cm, evT_chn, evT_not, evT_and, evT_or, evA_nil, evA_cons, evR_nil, evR_cons, evI_ex, evI_rng1, evI_rng2, evI_enm, evI_zip, ex_set, ex_tset, ex_par, ex_par3, ex_aug, ex_ixset, ex_pst, ex_ixset2, ex_ixset22, ex_app, ex_expr, ex_ret, ex_retN, ex_ite, ex_brk, ex_cont, ex_pass, ex_never, mb_some, mb_none, gt_zero, gt_succ, st_zero, st_succ, wp, bk, rdN, ow1, ow01, ow2, setable, setS, set1, set2, up1, bnd, bnds, isiD, outF, ioOf, atI0, atI1, atI2, atI3, ixN0, ixN1, len0, len1, len2, len3, len4, len5, len6, len7, len8, len9, List.length_cons, List.length_nil, List.length_map, List.length_append, Nat.zero_add, Nat.reduceAdd, set0, set1', opD_add, opD_sub, opD_mul, opD_fdiv, opD_mod, opD_pow, opD_addT, opD_addL, opD_mulL, opD_mulT, lvD_int, lvD_bool, lvD_str, lvD_tuple, lvD_dict, lvD_none, lvD_list, b1_lenL, b1_lenT, b1_lenD, b1_lenK, b1_abs, b1_int, b1_tupL, b1_tupT, b1_lstL, b1_lstT, b1_lstS, b1_all, b1_any, b1_str, b1_srtL, b1_srtD, b2_min, b2_max, cm_eq, cm_ne, cm_lt, cm_le, cm_gt, cm_ge, cm_ltT, cm_is_int, cm_isN_int, cm_is_tuple, cm_isN_tuple, cm_is_list, cm_isN_list, cm_is_bool, cm_isN_bool, cm_is_str, cm_isN_str, cm_is_none, cm_isN_none, cm_isb, cm_isNb, ix_L, ix_T, sl_L, sl_T, st_L, Option.bind_some, Option.map_some, Option.bind_none, Option.map_none, if_true, if_false, ↓reduceIte, Bool.and_true, Bool.true_and, Bool.and_false, Bool.false_and, Bool.not_true, Bool.not_false, decide_true, decide_false, decide_not, Bool.false_eq_true]
    rw [cut_to2, cut_to2]
    have hx : HT.lexLt [(l.1 : Int), l.2.1] [(m.1 : Int), m.2.1] = true := by
      rw [HT.lexLt_cons]
      rcases hlt with h | ⟨h, h'⟩
      · rw [if_neg (by omega)]; exact decide_eq_true (by omega)
      · rw [if_pos (by omega), HT.lexLt_cons, if_neg (by omega)]; exact decide_eq_true (by omega)
    simp (config := { decide := false, maxSteps := 1000000 }) only [exs_nil, exs_cons, nxt_nx, nxt_rt, nxt_bk, nxt_ct, ex_for, ex_while, ev_comp, ev_nm, ev_int, ev_bl, ev_non, ev_str, ev_glb, ev_op, ev_neg, ev_tst, ev_ife, ev_tup, ev_lst, ev_ix, ev_bix, ev_bix2, ev_slc, ev_call, ev_cio, ev_b1, ev_dnew, ev_blen, ev_b2, ev_isi, evs_nil, evs_cons, evo_no, evo_yes, evT_ex, evT_cm, evT_chn, evT_not, evT_and, evT_or, evA_nil, evA_cons, evR_nil, evR_cons, evI_ex, evI_rng1, evI_rng2, evI_enm, evI_zip, ex_set, ex_tset, ex_par, ex_par3, ex_aug, ex_ixset, ex_pst, ex_ixset2, ex_ixset22, ex_app, ex_expr, ex_ret, ex_retN, ex_ite, ex_brk, ex_cont, ex_pass, ex_never, mb_some, mb_none, gt_zero, gt_succ, st_zero, st_succ, wp, bk, rdN, ow1, ow01, ow2, setable, setS, set1, set2, up1, bnd, bnds, isiD, outF, ioOf, atI0, atI1, atI2, atI3, ixN0, ixN1, len0, len1, len2, len3, len4, len5, len6, len7, len8, len9, List.length_cons, List.length_nil, List.length_map, List.length_append, Nat.zero_add, Nat.reduceAdd, set0, set1', opD_add, opD_sub, opD_mul, opD_fdiv, opD_mod, opD_pow, opD_addT, opD_addL, opD_mulL, opD_mulT, lvD_int, lvD_bool, lvD_str, lvD_tuple, lvD_dict, lvD_none, lvD_list, b1_lenL, b1_lenT, b1_lenD, b1_lenK, b1_abs, b1_int, b1_tupL, b1_tupT, b1_lstL, b1_lstT, b1_lstS, b1_all, b1_any, b1_str, b1_srtL, b1_srtD, b2_min, b2_max, cm_eq, cm_ne, cm_lt, cm_le, cm_gt, cm_ge, cm_ltT, cm_is_int, cm_isN_int, cm_is_tuple, cm_isN_tuple, cm_is_list, cm_isN_list, cm_is_bool, cm_isN_bool, cm_is_str, cm_isN_str, cm_is_none, cm_isN_none, cm_isb, cm_isNb, ix_L, ix_T, sl_L, sl_T, st_L, Option.bind_some, Option.map_some, Option.bind_none, Option.map_none, if_true, if_false, ↓reduceIte, Bool.and_true, Bool.true_and, Bool.and_false, Bool.false_and, Bool.not_true, Bool.not_false, decide_true, decide_false, decide_not, Bool.false_eq_true, List.take_succ_cons, List.take_zero, intsOf, Option.map_some, hx]
    first | exact W_some.mpr ⟨.inl rfl, rfl, rfl⟩ | exact W_some.mpr ⟨.inl trivial, rfl, rfl⟩ | exact W_some.mpr ⟨trivial, rfl, rfl⟩
  simp (config := { decide := false, maxSteps := 1000000 }) only [exs_nil, exs_cons, nxt_nx, nxt_rt, nxt_bk, nxt_ct, ex_for, ex_while, ev_comp, ev_nm, ev_int, ev_bl, ev_non, ev_str, ev_glb, ev_op, ev_neg, ev_tst, ev_ife, ev_tup, ev_lst, ev_ix, ev_bix, ev_bix2, ev_slc, ev_call, ev_cio, ev_b1, ev_dnew, ev_blen, ev_b2, ev_isi, evs_nil, evs_cons, evo_no, evo_yes, evT_ex, evT_cm, evT_chn, evT_not, evT_and, evT_or, evA_nil, evA_cons, evR_nil, evR_cons, evI_ex, evI_rng1, evI_rng2, evI_enm, evI_zip, ex_set, ex_tset, ex_par, ex_par3, ex_aug, ex_ixset, ex_pst, ex_ixset2, ex_ixset22, ex_app, ex_expr, ex_ret, ex_retN, ex_ite, ex_brk, ex_cont, ex_pass, ex_never, mb_some, mb_none, gt_zero, gt_succ, st_zero, st_succ, wp, bk, rdN, ow1, ow01, ow2, setable, setS, set1, set2, up1, bnd, bnds, isiD, outF, ioOf, atI0, atI1, atI2, atI3, ixN0, ixN1, len0, len1, len2, len3, len4, len5, len6, len7, len8, len9, List.length_cons, List.length_nil, List.length_map, List.length_append, Nat.zero_add, Nat.reduceAdd, set0, set1', opD_add, opD_sub, opD_mul, opD_fdiv, opD_mod, opD_pow, opD_addT, opD_addL, opD_mulL, opD_mulT, lvD_int, lvD_bool, lvD_str, lvD_tuple, lvD_dict, lvD_none, lvD_list, b1_lenL, b1_lenT, b1_lenD, b1_lenK, b1_abs, b1_int, b1_tupL, b1_tupT, b1_lstL, b1_lstT, b1_lstS, b1_all, b1_any, b1_str, b1_srtL, b1_srtD, b2_min, b2_max, cm_eq, cm_ne, cm_lt, cm_le, cm_gt, cm_ge, cm_ltT, cm_is_int, cm_isN_int, cm_is_tuple, cm_isN_tuple, cm_is_list, cm_isN_list, cm_is_bool, cm_isN_bool, cm_is_str, cm_isN_str, cm_is_none, cm_isN_none, cm_isb, cm_isNb, ix_L, ix_T, sl_L, sl_T, st_L, Option.bind_some, Option.map_some, Option.bind_none, Option.map_none, if_true, if_false, ↓reduceIte, Bool.and_true, Bool.true_and, Bool.and_false, Bool.false_and, Bool.not_true, Bool.not_false, decide_true, decide_false, decide_not, Bool.false_eq_true, e1, e2, e3, e4, e5, bools_const _ (fun _ => .bool true) (fun _ _ => rfl)]
  rw [compE_map (fun _ => .bool true)]
  rotate_left
  · intro x hx
    obtain ⟨l, hl, rfl⟩ := List.mem_map.mp hx
    have e := h0 (.int l) 0 (n - 1) rfl
    have i : isWhole (.int l) 0 (n - 1) = true := by have := to l hl; simp [isWhole]; omega
    rw [i] at e
    unfold rB at e
    unfold natD
    simp (config := { decide := false, maxSteps := 1000000 }) only [exs_nil, exs_cons, nxt_nx, nxt_rt, nxt_bk, nxt_ct, ex_for, ex_while, ev_comp, ev_nm, ev_int, ev_bl, ev_non, ev_str, ev_glb, ev_op, ev_neg, ev_tst, ev_ife, ev_tup, ev_lst, ev_ix, ev_bix, ev_bix2, ev_slc, ev_call, ev_cio, ev_b1, ev_dnew, ev_blen, ev_b2, ev_isi, evs_nil, evs_cons, evo_no, evo_yes, evT_ex, evT_cm, evT_chn, evT_not, evT_and, evT_or, evA_nil, evA_cons, evR_nil, evR_cons, evI_ex, evI_rng1, evI_rng2, evI_enm, evI_zip, ex_set, ex_tset, ex_par, ex_par3, ex_aug, ex_ixset, ex_pst, ex_ixset2, ex_ixset22, ex_app, ex_expr, ex_ret, ex_retN, ex_ite, ex_brk, ex_cont, ex_pass, ex_never, mb_some, mb_none, gt_zero, gt_succ, st_zero, st_succ, wp, bk, rdN, ow1, ow01, ow2, setable, setS, set1, set2, up1, bnd, bnds, isiD, outF, ioOf, atI0, atI1, atI2, atI3, ixN0, ixN1, len0, len1, len2, len3, len4, len5, len6, len7, len8, len9, List.length_cons, List.length_nil, List.length_map, List.length_append, Nat.zero_add, Nat.reduceAdd, set0, set1', opD_add, opD_sub, opD_mul, opD_fdiv, opD_mod, opD_pow, opD_addT, opD_addL, opD_mulL, opD_mulT, lvD_int, lvD_bool, lvD_str, lvD_tuple, lvD_dict, lvD_none, lvD_list, b1_lenL, b1_lenT, b1_lenD, b1_lenK, b1_abs, b1_int, b1_tupL, b1_tupT, b1_lstL, b1_lstT, b1_lstS, b1_all, b1_any, b1_str, b1_srtL, b1_srtD, b2_min, b2_max, cm_eq, cm_ne, cm_lt, cm_le, cm_gt, cm_ge, cm_ltT, cm_is_int, cm_isN_int, cm_is_tuple, cm_isN_tuple, cm_is_list, cm_isN_list, cm_is_bool, cm_isN_bool, cm_is_str, cm_isN_str, cm_is_none, cm_isN_none, cm_isb, cm_isNb, ix_L, ix_T, sl_L, sl_T, st_L, Option.bind_some, Option.map_some, Option.bind_none, Option.map_none, if_true, if_false, ↓reduceIte, Bool.and_true, Bool.true_and, Bool.and_false, Bool.false_and, Bool.not_true, Bool.not_false, decide_true, decide_false, decide_not, Bool.false_eq_true, e]
    first | exact W_some.mpr ⟨.inl rfl, rfl, rfl⟩ | exact W_some.mpr ⟨.inl trivial, rfl, rfl⟩ | exact W_some.mpr ⟨trivial, rfl, rfl⟩
  simp (config := { decide := false, maxSteps := 1000000 }) only [exs_nil, exs_cons, nxt_nx, nxt_rt, nxt_bk, nxt_ct, ex_for, ex_while, ev_comp, ev_nm, ev_int, ev_bl, ev_non, ev_str, ev_glb, ev_op, ev_neg, ev_tst, ev_ife, ev_tup, ev_lst, ev_ix, ev_bix, ev_bix2, ev_slc, ev_call, ev_cio, ev_b1, ev_dnew, ev_blen, ev_b2, ev_isi, evs_nil, evs_cons, evo_no, evo_yes, evT_ex, evT_cm, evT_chn, evT_not, evT_and, evT_or, evA_nil, evA_cons, evR_nil, evR_cons, evI_ex, evI_rng1, evI_rng2, evI_enm, evI_zip, ex_set, ex_tset, ex_par, ex_par3, ex_aug, ex_ixset, ex_pst, ex_ixset2, ex_ixset22, ex_app, ex_expr, ex_ret, ex_retN, ex_ite, ex_brk, ex_cont, ex_pass, ex_never, mb_some, mb_none, gt_zero, gt_succ, st_zero, st_succ, wp, bk, rdN, ow1, ow01, ow2, setable, setS, set1, set2, up1, bnd, bnds, isiD, outF, ioOf, atI0, atI1, atI2, atI3, ixN0, ixN1, len0, len1, len2, len3, len4, len5, len6, len7, len8, len9, List.length_cons, List.length_nil, List.length_map, List.length_append, Nat.zero_add, Nat.reduceAdd, set0, set1', opD_add, opD_sub, opD_mul, opD_fdiv, opD_mod, opD_pow, opD_addT, opD_addL, opD_mulL, opD_mulT, lvD_int, lvD_bool, lvD_str, lvD_tuple, lvD_dict, lvD_none, lvD_list, b1_lenL, b1_lenT, b1_lenD, b1_lenK, b1_abs, b1_int, b1_tupL, b1_tupT, b1_lstL, b1_lstT, b1_lstS, b1_all, b1_any, b1_str, b1_srtL, b1_srtD, b2_min, b2_max, cm_eq, cm_ne, cm_lt, cm_le, cm_gt, cm_ge, cm_ltT, cm_is_int, cm_isN_int, cm_is_tuple, cm_isN_tuple, cm_is_list, cm_isN_list, cm_is_bool, cm_isN_bool, cm_is_str, cm_isN_str, cm_is_none, cm_isN_none, cm_isb, cm_isNb, ix_L, ix_T, sl_L, sl_T, st_L, Option.bind_some, Option.map_some, Option.bind_none, Option.map_none, if_true, if_false, ↓reduceIte, Bool.and_true, Bool.true_and, Bool.and_false, Bool.false_and, Bool.not_true, Bool.not_false, decide_true, decide_false, decide_not, Bool.false_eq_true, e1, e2, e3, e4, e5, bools_const _ (fun _ => .bool true) (fun _ _ => rfl)]
  rfl
/-- need_figure, need_setting, need_set: nothing is raised -/
def UnitOk (S : Fn) (P : List D → Prop) : Prop := ∀ ds, P ds → S ds = some ⟨.none, 0, .none⟩
theorem needF_ok {Γ : Gm} (h : FitsOk (Γ 0)) {F : Fig} (ok : FigOk F) : run Γ false 1 1 C.b_need_figure [figD F] = some ⟨.none, 0, .none⟩ := by
  have e := h F ok
  rw [run1]
  unfold C.b_need_figure
  simp only [ent, List.map_cons, List.map_nil, List.cons_append, List.nil_append, List.length_cons, List.length_nil, List.replicate_succ, List.replicate_zero, Nat.reduceAdd, Nat.reduceSub, if_true, if_false, ↓reduceIte, Bool.false_eq_true]
  generalize figD F = d at e ⊢
  unfold rB at e
  simp (config := { decide := false, maxSteps := 1000000 }) only [exs_nil, exs_cons, nxt_nx, nxt_rt, nxt_bk, nxt_ct, ex_for, ex_while, ev_comp, ev_nm, ev_int, ev_bl, ev_non, ev_str, ev_glb, ev_op, ev_neg, ev_tst, ev_ife, ev_tup, ev_lst, ev_ix, ev_bix, ev_bix2, ev_slc, ev_call, ev_cio, ev_b1, ev_dnew, ev_blen, ev_b2, ev_isi, evs_nil, evs_cons, evo_no, evo_yes, evT_ex, evT_cm, evT_chn, evT_not, evT_and, evT_or, evA_nil, evA_cons, evR_nil, evR_cons, evI_ex, evI_rng1, evI_rng2, evI_enm, evI_zip, ex_set, ex_tset, ex_par, ex_par3, ex_aug, ex_ixset, ex_pst, ex_ixset2, ex_ixset22, ex_app, ex_expr, ex_ret, ex_retN, ex_ite, ex_brk, ex_cont, ex_pass, ex_never, mb_some, mb_none, gt_zero, gt_succ, st_zero, st_succ, wp, bk, rdN, ow1, ow01, ow2, setable, setS, set1, set2, up1, bnd, bnds, isiD, outF, ioOf, atI0, atI1, atI2, atI3, ixN0, ixN1, len0, len1, len2, len3, len4, len5, len6, len7, len8, len9, List.length_cons, List.length_nil, List.length_map, List.length_append, Nat.zero_add, Nat.reduceAdd, set0, set1', opD_add, opD_sub, opD_mul, opD_fdiv, opD_mod, opD_pow, opD_addT, opD_addL, opD_mulL, opD_mulT, lvD_int, lvD_bool, lvD_str, lvD_tuple, lvD_dict, lvD_none, lvD_list, b1_lenL, b1_lenT, b1_lenD, b1_lenK, b1_abs, b1_int, b1_tupL, b1_tupT, b1_lstL, b1_lstT, b1_lstS, b1_all, b1_any, b1_str, b1_srtL, b1_srtD, b2_min, b2_max, cm_eq, cm_ne, cm_lt, cm_le, cm_gt, cm_ge, cm_ltT, cm_is_int, cm_isN_int, cm_is_tuple, cm_isN_tuple, cm_is_list, cm_isN_list, cm_is_bool, cm_isN_bool, cm_is_str, cm_isN_str, cm_is_none, cm_isN_none, cm_isb, cm_isNb, ix_L, ix_T, sl_L, sl_T, st_L, Option.bind_some, Option.map_some, Option.bind_none, Option.map_none, if_true, if_false, ↓reduceIte, Bool.and_true, Bool.true_and, Bool.and_false, Bool.false_and, Bool.not_true, Bool.not_false, decide_true, decide_false, decide_not, Bool.false_eq_true, e]
/-- settings: as many lengths as strings -/
structure SetOk (F : Fig) (s : List Int) : Prop where
  l : s.length = F.ties.length
  b : ∀ x ∈ s, 0 ≤ x ∧ x ≤ F.floor
theorem fitsS_ok {Γ : Gm} (h0 : WholeOk (Γ 0)) (h1 : TupOk (Γ 1)) {F : Fig} {s : List Int} (ok : SetOk F s) : run Γ false 2 4 C.b_fits_setting [figD F, intsD s] = rB true := by
  obtain ⟨n, limbs, ties, floor⟩ := F
  obtain ⟨hl, hb⟩ := ok
  simp only at hl hb
  rw [run2]
  unfold C.b_fits_setting figD intsD
  simp only [ent, List.map_cons, List.map_nil, List.cons_append, List.nil_append, List.length_cons, List.length_nil, List.replicate_succ, List.replicate_zero, Nat.reduceAdd, Nat.reduceSub, if_true, if_false, ↓reduceIte, Bool.false_eq_true]
  have e1 := h1 (.tuple (s.map .int)) ties.length ties.length rfl
  have i1 : isTupOf (.tuple (s.map .int)) ties.length ties.length = true := by simp [isTupOf, hl]
  rw [i1] at e1
  unfold rB at e1
  simp (config := { decide := false, maxSteps := 1000000 }) only [exs_nil, exs_cons, nxt_nx, nxt_rt, nxt_bk, nxt_ct, ex_for, ex_while, ev_comp, ev_nm, ev_int, ev_bl, ev_non, ev_str, ev_glb, ev_op, ev_neg, ev_tst, ev_ife, ev_tup, ev_lst, ev_ix, ev_bix, ev_bix2, ev_slc, ev_call, ev_cio, ev_b1, ev_dnew, ev_blen, ev_b2, ev_isi, evs_nil, evs_cons, evo_no, evo_yes, evT_ex, evT_cm, evT_chn, evT_not, evT_and, evT_or, evA_nil, evA_cons, evR_nil, evR_cons, evI_ex, evI_rng1, evI_rng2, evI_enm, evI_zip, ex_set, ex_tset, ex_par, ex_par3, ex_aug, ex_ixset, ex_pst, ex_ixset2, ex_ixset22, ex_app, ex_expr, ex_ret, ex_retN, ex_ite, ex_brk, ex_cont, ex_pass, ex_never, mb_some, mb_none, gt_zero, gt_succ, st_zero, st_succ, wp, bk, rdN, ow1, ow01, ow2, setable, setS, set1, set2, up1, bnd, bnds, isiD, outF, ioOf, atI0, atI1, atI2, atI3, ixN0, ixN1, len0, len1, len2, len3, len4, len5, len6, len7, len8, len9, List.length_cons, List.length_nil, List.length_map, List.length_append, Nat.zero_add, Nat.reduceAdd, set0, set1', opD_add, opD_sub, opD_mul, opD_fdiv, opD_mod, opD_pow, opD_addT, opD_addL, opD_mulL, opD_mulT, lvD_int, lvD_bool, lvD_str, lvD_tuple, lvD_dict, lvD_none, lvD_list, b1_lenL, b1_lenT, b1_lenD, b1_lenK, b1_abs, b1_int, b1_tupL, b1_tupT, b1_lstL, b1_lstT, b1_lstS, b1_all, b1_any, b1_str, b1_srtL, b1_srtD, b2_min, b2_max, cm_eq, cm_ne, cm_lt, cm_le, cm_gt, cm_ge, cm_ltT, cm_is_int, cm_isN_int, cm_is_tuple, cm_isN_tuple, cm_is_list, cm_isN_list, cm_is_bool, cm_isN_bool, cm_is_str, cm_isN_str, cm_is_none, cm_isN_none, cm_isb, cm_isNb, ix_L, ix_T, sl_L, sl_T, st_L, Option.bind_some, Option.map_some, Option.bind_none, Option.map_none, if_true, if_false, ↓reduceIte, Bool.and_true, Bool.true_and, Bool.and_false, Bool.false_and, Bool.not_true, Bool.not_false, decide_true, decide_false, decide_not, Bool.false_eq_true, e1]
  rw [compE_map (fun _ => .bool true)]
  rotate_left
  · intro x hx
    obtain ⟨l, hl, rfl⟩ := List.mem_map.mp hx
    have e := h0 (.int l) 0 floor rfl
    have i : isWhole (.int l) 0 floor = true := by have := hb l hl; simp [isWhole]; omega
    rw [i] at e
    unfold rB at e
    simp (config := { decide := false, maxSteps := 1000000 }) only [exs_nil, exs_cons, nxt_nx, nxt_rt, nxt_bk, nxt_ct, ex_for, ex_while, ev_comp, ev_nm, ev_int, ev_bl, ev_non, ev_str, ev_glb, ev_op, ev_neg, ev_tst, ev_ife, ev_tup, ev_lst, ev_ix, ev_bix, ev_bix2, ev_slc, ev_call, ev_cio, ev_b1, ev_dnew, ev_blen, ev_b2, ev_isi, evs_nil, evs_cons, evo_no, evo_yes, evT_ex, evT_cm, evT_chn, evT_not, evT_and, evT_or, evA_nil, evA_cons, evR_nil, evR_cons, evI_ex, evI_rng1, evI_rng2, evI_enm, evI_zip, ex_set, ex_tset, ex_par, ex_par3, ex_aug, ex_ixset, ex_pst, ex_ixset2, ex_ixset22, ex_app, ex_expr, ex_ret, ex_retN, ex_ite, ex_brk, ex_cont, ex_pass, ex_never, mb_some, mb_none, gt_zero, gt_succ, st_zero, st_succ, wp, bk, rdN, ow1, ow01, ow2, setable, setS, set1, set2, up1, bnd, bnds, isiD, outF, ioOf, atI0, atI1, atI2, atI3, ixN0, ixN1, len0, len1, len2, len3, len4, len5, len6, len7, len8, len9, List.length_cons, List.length_nil, List.length_map, List.length_append, Nat.zero_add, Nat.reduceAdd, set0, set1', opD_add, opD_sub, opD_mul, opD_fdiv, opD_mod, opD_pow, opD_addT, opD_addL, opD_mulL, opD_mulT, lvD_int, lvD_bool, lvD_str, lvD_tuple, lvD_dict, lvD_none, lvD_list, b1_lenL, b1_lenT, b1_lenD, b1_lenK, b1_abs, b1_int, b1_tupL, b1_tupT, b1_lstL, b1_lstT, b1_lstS, b1_all, b1_any, b1_str, b1_srtL, b1_srtD, b2_min, b2_max, cm_eq, cm_ne, cm_lt, cm_le, cm_gt, cm_ge, cm_ltT, cm_is_int, cm_isN_int, cm_is_tuple, cm_isN_tuple, cm_is_list, cm_isN_list, cm_is_bool, cm_isN_bool, cm_is_str, cm_isN_str, cm_is_none, cm_isN_none, cm_isb, cm_isNb, ix_L, ix_T, sl_L, sl_T, st_L, Option.bind_some, Option.map_some, Option.bind_none, Option.map_none, if_true, if_false, ↓reduceIte, Bool.and_true, Bool.true_and, Bool.and_false, Bool.false_and, Bool.not_true, Bool.not_false, decide_true, decide_false, decide_not, Bool.false_eq_true, e]
    first | exact W_some.mpr ⟨.inl rfl, rfl, rfl⟩ | exact W_some.mpr ⟨.inl trivial, rfl, rfl⟩ | exact W_some.mpr ⟨trivial, rfl, rfl⟩
  simp (config := { decide := false, maxSteps := 1000000 }) only [exs_nil, exs_cons, nxt_nx, nxt_rt, nxt_bk, nxt_ct, ex_for, ex_while, ev_comp, ev_nm, ev_int, ev_bl, ev_non, ev_str, ev_glb, ev_op, ev_neg, ev_tst, ev_ife, ev_tup, ev_lst, ev_ix, ev_bix, ev_bix2, ev_slc, ev_call, ev_cio, ev_b1, ev_dnew, ev_blen, ev_b2, ev_isi, evs_nil, evs_cons, evo_no, evo_yes, evT_ex, evT_cm, evT_chn, evT_not, evT_and, evT_or, evA_nil, evA_cons, evR_nil, evR_cons, evI_ex, evI_rng1, evI_rng2, evI_enm, evI_zip, ex_set, ex_tset, ex_par, ex_par3, ex_aug, ex_ixset, ex_pst, ex_ixset2, ex_ixset22, ex_app, ex_expr, ex_ret, ex_retN, ex_ite, ex_brk, ex_cont, ex_pass, ex_never, mb_some, mb_none, gt_zero, gt_succ, st_zero, st_succ, wp, bk, rdN, ow1, ow01, ow2, setable, setS, set1, set2, up1, bnd, bnds, isiD, outF, ioOf, atI0, atI1, atI2, atI3, ixN0, ixN1, len0, len1, len2, len3, len4, len5, len6, len7, len8, len9, List.length_cons, List.length_nil, List.length_map, List.length_append, Nat.zero_add, Nat.reduceAdd, set0, set1', opD_add, opD_sub, opD_mul, opD_fdiv, opD_mod, opD_pow, opD_addT, opD_addL, opD_mulL, opD_mulT, lvD_int, lvD_bool, lvD_str, lvD_tuple, lvD_dict, lvD_none, lvD_list, b1_lenL, b1_lenT, b1_lenD, b1_lenK, b1_abs, b1_int, b1_tupL, b1_tupT, b1_lstL, b1_lstT, b1_lstS, b1_all, b1_any, b1_str, b1_srtL, b1_srtD, b2_min, b2_max, cm_eq, cm_ne, cm_lt, cm_le, cm_gt, cm_ge, cm_ltT, cm_is_int, cm_isN_int, cm_is_tuple, cm_isN_tuple, cm_is_list, cm_isN_list, cm_is_bool, cm_isN_bool, cm_is_str, cm_isN_str, cm_is_none, cm_isN_none, cm_isb, cm_isNb, ix_L, ix_T, sl_L, sl_T, st_L, Option.bind_some, Option.map_some, Option.bind_none, Option.map_none, if_true, if_false, ↓reduceIte, Bool.and_true, Bool.true_and, Bool.and_false, Bool.false_and, Bool.not_true, Bool.not_false, decide_true, decide_false, decide_not, Bool.false_eq_true, bools_const _ (fun _ => .bool true) (fun _ _ => rfl)]
  rfl
theorem needS_ok {Γ : Gm} {F : Fig} {s : List Int} (h : Γ 0 [figD F, intsD s] = rB true) : run Γ false 2 2 C.b_need_setting [figD F, intsD s] = some ⟨.none, 0, .none⟩ := by
  rw [run2]
  unfold C.b_need_setting
  simp only [ent, List.map_cons, List.map_nil, List.cons_append, List.nil_append, List.length_cons, List.length_nil, List.replicate_succ, List.replicate_zero, Nat.reduceAdd, Nat.reduceSub, if_true, if_false, ↓reduceIte, Bool.false_eq_true]
  generalize figD F = d at h ⊢
  generalize intsD s = d2 at h ⊢
  unfold rB at h
  simp (config := { decide := false, maxSteps := 1000000 }) only [exs_nil, exs_cons, nxt_nx, nxt_rt, nxt_bk, nxt_ct, ex_for, ex_while, ev_comp, ev_nm, ev_int, ev_bl, ev_non, ev_str, ev_glb, ev_op, ev_neg, ev_tst, ev_ife, ev_tup, ev_lst, ev_ix, ev_bix, ev_bix2, ev_slc, ev_call, ev_cio, ev_b1, ev_dnew, ev_blen, ev_b2, ev_isi, evs_nil, evs_cons, evo_no, evo_yes, evT_ex, evT_cm, evT_chn, evT_not, evT_and, evT_or, evA_nil, evA_cons, evR_nil, evR_cons, evI_ex, evI_rng1, evI_rng2, evI_enm, evI_zip, ex_set, ex_tset, ex_par, ex_par3, ex_aug, ex_ixset, ex_pst, ex_ixset2, ex_ixset22, ex_app, ex_expr, ex_ret, ex_retN, ex_ite, ex_brk, ex_cont, ex_pass, ex_never, mb_some, mb_none, gt_zero, gt_succ, st_zero, st_succ, wp, bk, rdN, ow1, ow01, ow2, setable, setS, set1, set2, up1, bnd, bnds, isiD, outF, ioOf, atI0, atI1, atI2, atI3, ixN0, ixN1, len0, len1, len2, len3, len4, len5, len6, len7, len8, len9, List.length_cons, List.length_nil, List.length_map, List.length_append, Nat.zero_add, Nat.reduceAdd, set0, set1', opD_add, opD_sub, opD_mul, opD_fdiv, opD_mod, opD_pow, opD_addT, opD_addL, opD_mulL, opD_mulT, lvD_int, lvD_bool, lvD_str, lvD_tuple, lvD_dict, lvD_none, lvD_list, b1_lenL, b1_lenT, b1_lenD, b1_lenK, b1_abs, b1_int, b1_tupL, b1_tupT, b1_lstL, b1_lstT, b1_lstS, b1_all, b1_any, b1_str, b1_srtL, b1_srtD, b2_min, b2_max, cm_eq, cm_ne, cm_lt, cm_le, cm_gt, cm_ge, cm_ltT, cm_is_int, cm_isN_int, cm_is_tuple, cm_isN_tuple, cm_is_list, cm_isN_list, cm_is_bool, cm_isN_bool, cm_is_str, cm_isN_str, cm_is_none, cm_isN_none, cm_isb, cm_isNb, ix_L, ix_T, sl_L, sl_T, st_L, Option.bind_some, Option.map_some, Option.bind_none, Option.map_none, if_true, if_false, ↓reduceIte, Bool.and_true, Bool.true_and, Bool.and_false, Bool.false_and, Bool.not_true, Bool.not_false, decide_true, decide_false, decide_not, Bool.false_eq_true, h]
theorem needB_ok {Γ : Gm} {F : Fig} {s : List Int} (h : Γ 0 [figD F] = some ⟨.none, 0, .none⟩) (h2 : Γ 1 [figD F, intsD s] = some ⟨.none, 0, .none⟩) : run Γ false 2 2 C.b_need_set [figD F, intsD s] = some ⟨.none, 0, .none⟩ := by
  rw [run2]
  unfold C.b_need_set
  simp only [ent, List.map_cons, List.map_nil, List.cons_append, List.nil_append, List.length_cons, List.length_nil, List.replicate_succ, List.replicate_zero, Nat.reduceAdd, Nat.reduceSub, if_true, if_false, ↓reduceIte, Bool.false_eq_true]
  generalize figD F = d at h h2 ⊢
  generalize intsD s = d2 at h2 ⊢
  simp (config := { decide := false, maxSteps := 1000000 }) only [exs_nil, exs_cons, nxt_nx, nxt_rt, nxt_bk, nxt_ct, ex_for, ex_while, ev_comp, ev_nm, ev_int, ev_bl, ev_non, ev_str, ev_glb, ev_op, ev_neg, ev_tst, ev_ife, ev_tup, ev_lst, ev_ix, ev_bix, ev_bix2, ev_slc, ev_call, ev_cio, ev_b1, ev_dnew, ev_blen, ev_b2, ev_isi, evs_nil, evs_cons, evo_no, evo_yes, evT_ex, evT_cm, evT_chn, evT_not, evT_and, evT_or, evA_nil, evA_cons, evR_nil, evR_cons, evI_ex, evI_rng1, evI_rng2, evI_enm, evI_zip, ex_set, ex_tset, ex_par, ex_par3, ex_aug, ex_ixset, ex_pst, ex_ixset2, ex_ixset22, ex_app, ex_expr, ex_ret, ex_retN, ex_ite, ex_brk, ex_cont, ex_pass, ex_never, mb_some, mb_none, gt_zero, gt_succ, st_zero, st_succ, wp, bk, rdN, ow1, ow01, ow2, setable, setS, set1, set2, up1, bnd, bnds, isiD, outF, ioOf, atI0, atI1, atI2, atI3, ixN0, ixN1, len0, len1, len2, len3, len4, len5, len6, len7, len8, len9, List.length_cons, List.length_nil, List.length_map, List.length_append, Nat.zero_add, Nat.reduceAdd, set0, set1', opD_add, opD_sub, opD_mul, opD_fdiv, opD_mod, opD_pow, opD_addT, opD_addL, opD_mulL, opD_mulT, lvD_int, lvD_bool, lvD_str, lvD_tuple, lvD_dict, lvD_none, lvD_list, b1_lenL, b1_lenT, b1_lenD, b1_lenK, b1_abs, b1_int, b1_tupL, b1_tupT, b1_lstL, b1_lstT, b1_lstS, b1_all, b1_any, b1_str, b1_srtL, b1_srtD, b2_min, b2_max, cm_eq, cm_ne, cm_lt, cm_le, cm_gt, cm_ge, cm_ltT, cm_is_int, cm_isN_int, cm_is_tuple, cm_isN_tuple, cm_is_list, cm_isN_list, cm_is_bool, cm_isN_bool, cm_is_str, cm_isN_str, cm_is_none, cm_isN_none, cm_isb, cm_isNb, ix_L, ix_T, sl_L, sl_T, st_L, Option.bind_some, Option.map_some, Option.bind_none, Option.map_none, if_true, if_false, ↓reduceIte, Bool.and_true, Bool.true_and, Bool.and_false, Bool.false_and, Bool.not_true, Bool.not_false, decide_true, decide_false, decide_not, Bool.false_eq_true, h, h2]
end DI

/-! M3: tables of distances. -/
namespace DI
open PySem
/-! ### rows by functions -/
def rowD (n : Nat) (f : Nat → D) : List D := (List.range n).map f
theorem rowD_len (n : Nat) (f : Nat → D) : (rowD n f).length = n := by unfold rowD; rw [List.length_map, List.length_range]
theorem rowD_get {n : Nat} {f : Nat → D} {i : Nat} (h : i < n) : (rowD n f)[i]? = some (f i) := by
  unfold rowD; rw [List.getElem?_map, List.getElem?_range h]; rfl
theorem rowD_congr {n : Nat} {f g : Nat → D} (h : ∀ i, i < n → f i = g i) : rowD n f = rowD n g := by
  unfold rowD
  exact List.map_congr_left fun i hi => h i (List.mem_range.mp hi)
def updF {α : Type} (f : Nat → α) (i : Nat) (x : α) : Nat → α := fun j => if j = i then x else f j
theorem rowD_set {n : Nat} {f : Nat → D} {i : Nat} {x : D} (h : i < n) : (rowD n f).set i x = rowD n (updF f i x) := by
  apply List.ext_getElem?
  intro j
  by_cases hj : j = i
  · subst hj
    rw [List.getElem?_set_self (by rw [rowD_len]; exact h), rowD_get h]
    unfold updF; rw [if_pos rfl]
  · rw [List.getElem?_set_ne (Ne.symm hj)]
    by_cases c : j < n
    · rw [rowD_get c, rowD_get c]; unfold updF; rw [if_neg hj]
    · rw [List.getElem?_eq_none (by rw [rowD_len]; omega), List.getElem?_eq_none (by rw [rowD_len]; omega)]
theorem atI_row {n : Nat} {f : Nat → D} {i : Nat} (h : i < n) : L2.atI (rowD n f) (i : Int) = some (f i) := by rw [atI_nat, rowD_get h]
theorem ix_rowL {n : Nat} {f : Nat → D} {i : Nat} (h : i < n) : ixD (.list (rowD n f)) (.int i) = some (f i) := by rw [ix_L, atI_row h]
theorem ix_rowT {n : Nat} {f : Nat → D} {i : Nat} (h : i < n) : ixD (.tuple (rowD n f)) (.int i) = some (f i) := by rw [ix_T, atI_row h]
theorem st_row {n : Nat} {f : Nat → D} {i : Nat} {x : D} (h : i < n) : stI (.list (rowD n f)) (.int i) x = some (.list (rowD n (updF f i x))) := by
  rw [st_L, rowD_len, ixN_nat h, Option.map_some, rowD_set h]
theorem rngD_row : ∀ (n : Nat) (lo : Int), rngD n lo = (List.range n).map fun i : Nat => PyData.int (lo + (i : Int))
  | 0, _ => rfl
  | n + 1, lo => by
    unfold rngD
    rw [rngD_row n (lo + 1), List.range_succ_eq_map, List.map_cons, List.map_map]
    congr 1
    · simp
    · refine List.map_congr_left fun i _ => ?_
      show PyData.int (lo + 1 + (i : Int)) = .int (lo + ((i + 1 : Nat) : Int))
      congr 1; push_cast; omega
theorem compE_rng {Γ : Gm} {k : Nat} {vs : List Nat} {tg : Tg} {e : E} (g : Nat → D) {ρ : Ev} {n : Nat} (h : ∀ i, i < n → W ((bnd tg (.int (i : Int)) ρ).bind (ev Γ e)) fun r => (k = 0 ∨ r.1.2 = k) ∧ r.1.1 = g i ∧ wp r.2 vs = ρ) :
    compE Γ k vs tg .nil e (rngD n 0) ρ = some (rowD n g, ρ) := by
  rw [compE_map (f := fun d => match d with | .int i => g i.toNat | _ => .none)]
  · rw [rngD_row, List.map_map]
    congr 2
    refine List.map_congr_left fun i _ => ?_
    show g ((0 + (i : Int)).toNat) = g i
    congr 1; omega
  · intro x hx
    rw [rngD_row] at hx
    obtain ⟨i, hi, rfl⟩ := List.mem_map.mp hx
    have := h i (List.mem_range.mp hi)
    rw [Int.zero_add]
    exact this
/-! ### tables -/
abbrev Tbl := Nat → Nat → Option Int
def optD : Option Int → D
  | none => .none
  | some v => .int v
def tabD (n : Nat) (f : Tbl) : D := .list (rowD n fun i => .list (rowD n fun j => optD (f i j)))
def upd2 (f : Tbl) (i j : Nat) (x : Option Int) : Tbl := fun a b => if a = i ∧ b = j then x else f a b
theorem tabD_congr {n : Nat} {f g : Tbl} (h : ∀ i j, i < n → j < n → f i j = g i j) : tabD n f = tabD n g := by
  unfold tabD
  congr 1
  exact rowD_congr fun i hi => by congr 1; exact rowD_congr fun j hj => by rw [h i j hi hj]
theorem ix_tab {n : Nat} {f : Tbl} {i : Nat} (h : i < n) : ixD (tabD n f) (.int i) = some (.list (rowD n fun j => optD (f i j))) := ix_rowL h
theorem st2_tab {n : Nat} {f : Tbl} {i j : Nat} (hi : i < n) (hj : j < n) (x : Option Int) : stI2 (optD x) (.int i) (.int j) (tabD n f) = some (tabD n (upd2 f i j x)) := by
  unfold stI2
  rw [ix_tab hi, Option.bind_some, st_row hj, Option.bind_some]
  unfold tabD
  rw [st_row hi]
  congr 2
  refine rowD_congr fun a ha => ?_
  unfold updF
  by_cases c : a = i
  · rw [if_pos c]
    congr 1
    refine rowD_congr fun b hb => ?_
    unfold upd2
    by_cases c2 : b = j
    · rw [if_pos c2, if_pos ⟨c, c2⟩]
    · rw [if_neg c2, if_neg (fun z => c2 z.2), c]
  · rw [if_neg c]
    show PyData.list (rowD n fun j => optD (f a j)) = _
    congr 1
    refine rowD_congr fun b hb => ?_
    unfold upd2
    rw [if_neg (fun z => c z.1)]
theorem st2_int {n : Nat} {f : Tbl} {i j : Nat} (hi : i < n) (hj : j < n) (x : Int) : stI2 (.int x) (.int i) (.int j) (tabD n f) = some (tabD n (upd2 f i j (some x))) := st2_tab hi hj (some x)
/-- one stage: by way of k -/
def cellT (k : Nat) (f : Tbl) (i j : Nat) : Option Int := match f i k, f k j with
  | some a, some b => (match f i j with | none => some (a + b) | some d => some (if d < a + b then d else a + b))
  | _, _ => f i j
def mixT (k : Nat) (f : Tbl) (i j : Nat) : Tbl := fun a b => if a < i ∨ (a = i ∧ b < j) then cellT k f a b else f a b
theorem mix_col {k : Nat} {f : Tbl} (h : f k k = some 0) (i j a : Nat) : mixT k f i j a k = f a k := by
  unfold mixT cellT
  split
  · rw [h]
    cases f a k with
    | none => rfl
    | some x => simp
  · rfl
theorem mix_row {k : Nat} {f : Tbl} (h : f k k = some 0) (i j b : Nat) : mixT k f i j k b = f k b := by
  unfold mixT cellT
  split
  · rw [h]
    cases f k b with
    | none => rfl
    | some x => simp
  · rfl
theorem mix_here (k : Nat) (f : Tbl) (i j : Nat) : mixT k f i j i j = f i j := by
  unfold mixT; rw [if_neg (by omega)]
theorem mix_step (k : Nat) (f : Tbl) (i j : Nat) : upd2 (mixT k f i j) i j (cellT k f i j) = mixT k f i (j + 1) := by
  funext a b
  unfold upd2 mixT
  by_cases c : a = i ∧ b = j
  · rw [if_pos c, if_pos (by omega), c.1, c.2]
  · rw [if_neg c]
    by_cases c2 : a < i ∨ (a = i ∧ b < j)
    · rw [if_pos c2, if_pos (by omega)]
    · rw [if_neg c2, if_neg (by omega)]
/-- what a table tells of limbs: sums of lengths, no less than differences -/
structure TabOk (n : Nat) (limbs : List (Nat × Nat × Int)) (f : Tbl) : Prop where
  diag : ∀ i, i < n → f i i = some 0
  nn : ∀ i j d, f i j = some d → 0 ≤ d
  so : ∀ v : Nat → Int, (∀ l ∈ limbs, v l.1 - v l.2.1 ≤ l.2.2 ∧ v l.2.1 - v l.1 ≤ l.2.2) → ∀ i j d, f i j = some d → v i - v j ≤ d
def Tri (n : Nat) (f : Tbl) (m : Nat) : Prop := ∀ i j a b, i < n → j < n → f i m = some a → f m j = some b → ∃ d, f i j = some d ∧ d ≤ a + b
def LimbsIn (limbs : List (Nat × Nat × Int)) (f : Tbl) : Prop := ∀ l ∈ limbs, (∃ d, f l.1 l.2.1 = some d ∧ d ≤ l.2.2) ∧ ∃ d, f l.2.1 l.1 = some d ∧ d ≤ l.2.2
theorem cell_le {k : Nat} {f : Tbl} {i j : Nat} {d : Int} (h : f i j = some d) : ∃ e, cellT k f i j = some e ∧ e ≤ d := by
  unfold cellT
  cases h1 : f i k with
  | none => exact ⟨d, h, Int.le_refl _⟩
  | some a =>
    cases h2 : f k j with
    | none => exact ⟨d, h, Int.le_refl _⟩
    | some b =>
      rw [h]
      refine ⟨_, rfl, ?_⟩
      split <;> omega
theorem cell_via {k : Nat} {f : Tbl} {i j : Nat} {a b : Int} (h1 : f i k = some a) (h2 : f k j = some b) : ∃ e, cellT k f i j = some e ∧ e ≤ a + b := by
  unfold cellT
  rw [h1, h2]
  cases f i j with
  | none => exact ⟨_, rfl, Int.le_refl _⟩
  | some d => refine ⟨_, rfl, ?_⟩; split <;> omega
theorem cell_of {k : Nat} {f : Tbl} {i j : Nat} {e : Int} (h : cellT k f i j = some e) : f i j = some e ∨ ∃ a b, f i k = some a ∧ f k j = some b ∧ e = a + b := by
  unfold cellT at h
  cases h1 : f i k with
  | none => rw [h1] at h; exact .inl h
  | some a =>
    cases h2 : f k j with
    | none => rw [h1, h2] at h; exact .inl h
    | some b =>
      rw [h1, h2] at h
      cases h3 : f i j with
      | none => rw [h3] at h; cases h; exact .inr ⟨a, b, rfl, rfl, rfl⟩
      | some d =>
        rw [h3] at h
        have h : some (if d < a + b then d else a + b) = some e := h
        cases h
        split
        · exact .inl rfl
        · exact .inr ⟨a, b, rfl, rfl, rfl⟩
theorem cell_tab {n k : Nat} {limbs : List (Nat × Nat × Int)} {f : Tbl} (hk : k < n) (ok : TabOk n limbs f) : TabOk n limbs (cellT k f) := by
  refine ⟨fun i hi => ?_, fun i j d h => ?_, fun v hv i j d h => ?_⟩
  · obtain ⟨e, h1, h2⟩ := cell_le (k := k) (ok.diag i hi)
    have h3 : 0 ≤ e := by
      rcases cell_of h1 with h | ⟨a, b, ha, hb, rfl⟩
      · exact ok.nn _ _ _ h
      · have := ok.nn _ _ _ ha; have := ok.nn _ _ _ hb; omega
    rw [h1]; congr 1; omega
  · rcases cell_of h with h | ⟨a, b, ha, hb, rfl⟩
    · exact ok.nn _ _ _ h
    · have := ok.nn _ _ _ ha; have := ok.nn _ _ _ hb; omega
  · rcases cell_of h with h | ⟨a, b, ha, hb, rfl⟩
    · exact ok.so v hv _ _ _ h
    · have := ok.so v hv _ _ _ ha; have := ok.so v hv _ _ _ hb; omega
theorem cell_tri {n k : Nat} {limbs : List (Nat × Nat × Int)} {f : Tbl} (hk : k < n) (ok : TabOk n limbs f) {m : Nat} (hm : m < k → Tri n f m) (hmk : m ≤ k) : Tri n (cellT k f) m := by
  intro i j x y hi hj hx hy
  have le : ∀ {a b : Int}, f i k = some a → f k j = some b → a + b ≤ x + y → ∃ d, cellT k f i j = some d ∧ d ≤ x + y := fun ha hb h => by
    obtain ⟨e, h1, h2⟩ := cell_via ha hb
    exact ⟨e, h1, by omega⟩
  have kk := ok.diag k hk
  by_cases hmk' : m = k
  · subst hmk'
    have hx' : f i m = some x := by
      rcases cell_of hx with h | ⟨a, b, ha, hb, rfl⟩
      · exact h
      · rw [kk] at hb; cases hb; rw [ha]; simp
    have hy' : f m j = some y := by
      rcases cell_of hy with h | ⟨a, b, ha, hb, rfl⟩
      · exact h
      · rw [kk] at ha; cases ha; rw [hb]; simp
    exact le hx' hy' (Int.le_refl _)
  · have T := hm (by omega)
    have hmn : m < n := by omega
    rcases cell_of hx with h1 | ⟨a, b, ha, hb, rfl⟩
    · rcases cell_of hy with h2 | ⟨a, b, ha, hb, rfl⟩
      · obtain ⟨d, h3, h4⟩ := T i j x y hi hj h1 h2
        obtain ⟨e, h5, h6⟩ := cell_le (k := k) h3
        exact ⟨e, h5, by omega⟩
      · obtain ⟨d, h3, h4⟩ := T i k x a hi hk h1 ha
        exact le h3 hb (by omega)
    · rcases cell_of hy with h2 | ⟨a', b', ha', hb', rfl⟩
      · obtain ⟨d, h3, h4⟩ := T k j b y hk hj hb h2
        exact le ha h3 (by omega)
      · have := ok.nn _ _ _ hb; have := ok.nn _ _ _ ha'
        exact le ha hb' (by omega)
theorem cell_limbs {k : Nat} {limbs : List (Nat × Nat × Int)} {f : Tbl} (h : LimbsIn limbs f) : LimbsIn limbs (cellT k f) := fun l hl => by
  obtain ⟨⟨d, h1, h2⟩, e, h3, h4⟩ := h l hl
  obtain ⟨d', h5, h6⟩ := cell_le (k := k) h1
  obtain ⟨e', h7, h8⟩ := cell_le (k := k) h3
  exact ⟨⟨d', h5, by omega⟩, e', h7, by omega⟩
end DI

/-! M4: table_of. -/
namespace DI
open PySem
def cellB : Ss := (.cons (.ite (.and (.cons (.cm .isN (.bix2 2 (.nm 4) (.nm 3)) .non) (.cons (.cm .isN (.bix2 2 (.nm 3) (.nm 5)) .non) .nil))) (.cons (.set false 7 (.op .add (.bix2 2 (.nm 4) (.nm 3)) (.bix2 2 (.nm 3) (.nm 5)))) (.cons (.ixset2 2 (.nm 4) (.nm 5) (.ife (.cm .is (.bix2 2 (.nm 4) (.nm 5)) .non) (.nm 7) (.b2 .min (.nm 7) (.bix2 2 (.nm 4) (.nm 5))))) .nil)) .nil) .nil)
theorem cell_ev {Γ : Gm} {d : D} {n k i j : Nat} {g f : Tbl} {u v : Sl} (hk : k < n) (hi : i < n) (hj : j < n) (h1 : g i k = f i k) (h2 : g k j = f k j) (h3 : g i j = f i j) (hu : setable v = true) :
    W (exs Γ cellB [.sl 0 d, .sl 0 (.int n), .sl 2 (tabD n g), .sl 0 (.int k), .sl 0 (.int i), .sl 0 (.int j), u, v]) fun o => ∃ ρ', o = .nx ρ' ∧ ∃ v', wp ρ' [5, 7] = [.sl 0 d, .sl 0 (.int n), .sl 2 (tabD n (upd2 g i j (cellT k f i j))), .sl 0 (.int k), .sl 0 (.int i), .un, u, .un] ∧ v' = v := by
  unfold cellB
  have x1 : ∀ {ρ : Nat}, ρ < n → ixD (tabD n g) (.int ρ) = some (.list (rowD n fun j => optD (g ρ j))) := fun h => ix_tab h
  have same : cellT k f i j = g i j → upd2 g i j (cellT k f i j) = g := fun h => by
    rw [h]; funext a b; unfold upd2; split
    · rename_i c; rw [c.1, c.2]
    · rfl
  simp (config := { decide := false, maxSteps := 1000000 }) only [exs_nil, exs_cons, nxt_nx, nxt_rt, nxt_bk, nxt_ct, ex_for, ex_while, ev_comp, ev_nm, ev_int, ev_bl, ev_non, ev_str, ev_glb, ev_op, ev_neg, ev_tst, ev_ife, ev_tup, ev_lst, ev_ix, ev_bix, ev_bix2, ev_slc, ev_call, ev_cio, ev_b1, ev_dnew, ev_blen, ev_b2, ev_isi, evs_nil, evs_cons, evo_no, evo_yes, evT_ex, evT_cm, evT_chn, evT_not, evT_and, evT_or, evA_nil, evA_cons, evR_nil, evR_cons, evI_ex, evI_rng1, evI_rng2, evI_enm, evI_zip, ex_set, ex_tset, ex_par, ex_par3, ex_aug, ex_ixset, ex_pst, ex_ixset2, ex_ixset22, ex_app, ex_expr, ex_ret, ex_retN, ex_ite, ex_brk, ex_cont, ex_pass, ex_never, mb_some, mb_none, gt_zero, gt_succ, st_zero, st_succ, wp, bk, rdN, ow1, ow01, ow2, setable, setS, set1, set2, up1, bnd, bnds, isiD, outF, ioOf, atI0, atI1, atI2, atI3, ixN0, ixN1, len0, len1, len2, len3, len4, len5, len6, len7, len8, len9, List.length_cons, List.length_nil, List.length_map, List.length_append, Nat.zero_add, Nat.reduceAdd, set0, set1', opD_add, opD_sub, opD_mul, opD_fdiv, opD_mod, opD_pow, opD_addT, opD_addL, opD_mulL, opD_mulT, lvD_int, lvD_bool, lvD_str, lvD_tuple, lvD_dict, lvD_none, lvD_list, b1_lenL, b1_lenT, b1_lenD, b1_lenK, b1_abs, b1_int, b1_tupL, b1_tupT, b1_lstL, b1_lstT, b1_lstS, b1_all, b1_any, b1_str, b1_srtL, b1_srtD, b2_min, b2_max, cm_eq, cm_ne, cm_lt, cm_le, cm_gt, cm_ge, cm_ltT, cm_is_int, cm_isN_int, cm_is_tuple, cm_isN_tuple, cm_is_list, cm_isN_list, cm_is_bool, cm_isN_bool, cm_is_str, cm_isN_str, cm_is_none, cm_isN_none, cm_isb, cm_isNb, ix_L, ix_T, sl_L, sl_T, st_L, Option.bind_some, Option.map_some, Option.bind_none, Option.map_none, if_true, if_false, ↓reduceIte, Bool.and_true, Bool.true_and, Bool.and_false, Bool.false_and, Bool.not_true, Bool.not_false, decide_true, decide_false, decide_not, Bool.false_eq_true, x1 hi, x1 hk, ix_rowL hi, ix_rowL hk, ix_rowL hj, h1, h2, h3]
  cases e1 : f i k with
  | none =>
    simp (config := { decide := false, maxSteps := 1000000 }) only [exs_nil, exs_cons, nxt_nx, nxt_rt, nxt_bk, nxt_ct, ex_for, ex_while, ev_comp, ev_nm, ev_int, ev_bl, ev_non, ev_str, ev_glb, ev_op, ev_neg, ev_tst, ev_ife, ev_tup, ev_lst, ev_ix, ev_bix, ev_bix2, ev_slc, ev_call, ev_cio, ev_b1, ev_dnew, ev_blen, ev_b2, ev_isi, evs_nil, evs_cons, evo_no, evo_yes, evT_ex, evT_cm, evT_chn, evT_not, evT_and, evT_or, evA_nil, evA_cons, evR_nil, evR_cons, evI_ex, evI_rng1, evI_rng2, evI_enm, evI_zip, ex_set, ex_tset, ex_par, ex_par3, ex_aug, ex_ixset, ex_pst, ex_ixset2, ex_ixset22, ex_app, ex_expr, ex_ret, ex_retN, ex_ite, ex_brk, ex_cont, ex_pass, ex_never, mb_some, mb_none, gt_zero, gt_succ, st_zero, st_succ, wp, bk, rdN, ow1, ow01, ow2, setable, setS, set1, set2, up1, bnd, bnds, isiD, outF, ioOf, atI0, atI1, atI2, atI3, ixN0, ixN1, len0, len1, len2, len3, len4, len5, len6, len7, len8, len9, List.length_cons, List.length_nil, List.length_map, List.length_append, Nat.zero_add, Nat.reduceAdd, set0, set1', opD_add, opD_sub, opD_mul, opD_fdiv, opD_mod, opD_pow, opD_addT, opD_addL, opD_mulL, opD_mulT, lvD_int, lvD_bool, lvD_str, lvD_tuple, lvD_dict, lvD_none, lvD_list, b1_lenL, b1_lenT, b1_lenD, b1_lenK, b1_abs, b1_int, b1_tupL, b1_tupT, b1_lstL, b1_lstT, b1_lstS, b1_all, b1_any, b1_str, b1_srtL, b1_srtD, b2_min, b2_max, cm_eq, cm_ne, cm_lt, cm_le, cm_gt, cm_ge, cm_ltT, cm_is_int, cm_isN_int, cm_is_tuple, cm_isN_tuple, cm_is_list, cm_isN_list, cm_is_bool, cm_isN_bool, cm_is_str, cm_isN_str, cm_is_none, cm_isN_none, cm_isb, cm_isNb, ix_L, ix_T, sl_L, sl_T, st_L, Option.bind_some, Option.map_some, Option.bind_none, Option.map_none, if_true, if_false, ↓reduceIte, Bool.and_true, Bool.true_and, Bool.and_false, Bool.false_and, Bool.not_true, Bool.not_false, decide_true, decide_false, decide_not, Bool.false_eq_true, optD]
    refine W_some.mpr ⟨_, rfl, v, ?_, rfl⟩
    rw [same (by unfold cellT; rw [e1, h3])]
    rfl
  | some a =>
    cases e2 : f k j with
    | none =>
      simp (config := { decide := false, maxSteps := 1000000 }) only [exs_nil, exs_cons, nxt_nx, nxt_rt, nxt_bk, nxt_ct, ex_for, ex_while, ev_comp, ev_nm, ev_int, ev_bl, ev_non, ev_str, ev_glb, ev_op, ev_neg, ev_tst, ev_ife, ev_tup, ev_lst, ev_ix, ev_bix, ev_bix2, ev_slc, ev_call, ev_cio, ev_b1, ev_dnew, ev_blen, ev_b2, ev_isi, evs_nil, evs_cons, evo_no, evo_yes, evT_ex, evT_cm, evT_chn, evT_not, evT_and, evT_or, evA_nil, evA_cons, evR_nil, evR_cons, evI_ex, evI_rng1, evI_rng2, evI_enm, evI_zip, ex_set, ex_tset, ex_par, ex_par3, ex_aug, ex_ixset, ex_pst, ex_ixset2, ex_ixset22, ex_app, ex_expr, ex_ret, ex_retN, ex_ite, ex_brk, ex_cont, ex_pass, ex_never, mb_some, mb_none, gt_zero, gt_succ, st_zero, st_succ, wp, bk, rdN, ow1, ow01, ow2, setable, setS, set1, set2, up1, bnd, bnds, isiD, outF, ioOf, atI0, atI1, atI2, atI3, ixN0, ixN1, len0, len1, len2, len3, len4, len5, len6, len7, len8, len9, List.length_cons, List.length_nil, List.length_map, List.length_append, Nat.zero_add, Nat.reduceAdd, set0, set1', opD_add, opD_sub, opD_mul, opD_fdiv, opD_mod, opD_pow, opD_addT, opD_addL, opD_mulL, opD_mulT, lvD_int, lvD_bool, lvD_str, lvD_tuple, lvD_dict, lvD_none, lvD_list, b1_lenL, b1_lenT, b1_lenD, b1_lenK, b1_abs, b1_int, b1_tupL, b1_tupT, b1_lstL, b1_lstT, b1_lstS, b1_all, b1_any, b1_str, b1_srtL, b1_srtD, b2_min, b2_max, cm_eq, cm_ne, cm_lt, cm_le, cm_gt, cm_ge, cm_ltT, cm_is_int, cm_isN_int, cm_is_tuple, cm_isN_tuple, cm_is_list, cm_isN_list, cm_is_bool, cm_isN_bool, cm_is_str, cm_isN_str, cm_is_none, cm_isN_none, cm_isb, cm_isNb, ix_L, ix_T, sl_L, sl_T, st_L, Option.bind_some, Option.map_some, Option.bind_none, Option.map_none, if_true, if_false, ↓reduceIte, Bool.and_true, Bool.true_and, Bool.and_false, Bool.false_and, Bool.not_true, Bool.not_false, decide_true, decide_false, decide_not, Bool.false_eq_true, optD, x1 hi, x1 hk, ix_rowL hi, ix_rowL hk, ix_rowL hj, h1, h2, h3, e1, e2]
      refine W_some.mpr ⟨_, rfl, v, ?_, rfl⟩
      rw [same (by unfold cellT; rw [e1, e2, h3])]
      rfl
    | some b =>
      have hv : setable v = true := hu
      cases e3 : f i j with
      | none =>
        have ec : cellT k f i j = some (a + b) := by unfold cellT; rw [e1, e2, e3]
        cases v with
        | io _ => cases hu
        | _ =>
          simp (config := { decide := false, maxSteps := 1000000 }) only [exs_nil, exs_cons, nxt_nx, nxt_rt, nxt_bk, nxt_ct, ex_for, ex_while, ev_comp, ev_nm, ev_int, ev_bl, ev_non, ev_str, ev_glb, ev_op, ev_neg, ev_tst, ev_ife, ev_tup, ev_lst, ev_ix, ev_bix, ev_bix2, ev_slc, ev_call, ev_cio, ev_b1, ev_dnew, ev_blen, ev_b2, ev_isi, evs_nil, evs_cons, evo_no, evo_yes, evT_ex, evT_cm, evT_chn, evT_not, evT_and, evT_or, evA_nil, evA_cons, evR_nil, evR_cons, evI_ex, evI_rng1, evI_rng2, evI_enm, evI_zip, ex_set, ex_tset, ex_par, ex_par3, ex_aug, ex_ixset, ex_pst, ex_ixset2, ex_ixset22, ex_app, ex_expr, ex_ret, ex_retN, ex_ite, ex_brk, ex_cont, ex_pass, ex_never, mb_some, mb_none, gt_zero, gt_succ, st_zero, st_succ, wp, bk, rdN, ow1, ow01, ow2, setable, setS, set1, set2, up1, bnd, bnds, isiD, outF, ioOf, atI0, atI1, atI2, atI3, ixN0, ixN1, len0, len1, len2, len3, len4, len5, len6, len7, len8, len9, List.length_cons, List.length_nil, List.length_map, List.length_append, Nat.zero_add, Nat.reduceAdd, set0, set1', opD_add, opD_sub, opD_mul, opD_fdiv, opD_mod, opD_pow, opD_addT, opD_addL, opD_mulL, opD_mulT, lvD_int, lvD_bool, lvD_str, lvD_tuple, lvD_dict, lvD_none, lvD_list, b1_lenL, b1_lenT, b1_lenD, b1_lenK, b1_abs, b1_int, b1_tupL, b1_tupT, b1_lstL, b1_lstT, b1_lstS, b1_all, b1_any, b1_str, b1_srtL, b1_srtD, b2_min, b2_max, cm_eq, cm_ne, cm_lt, cm_le, cm_gt, cm_ge, cm_ltT, cm_is_int, cm_isN_int, cm_is_tuple, cm_isN_tuple, cm_is_list, cm_isN_list, cm_is_bool, cm_isN_bool, cm_is_str, cm_isN_str, cm_is_none, cm_isN_none, cm_isb, cm_isNb, ix_L, ix_T, sl_L, sl_T, st_L, Option.bind_some, Option.map_some, Option.bind_none, Option.map_none, if_true, if_false, ↓reduceIte, Bool.and_true, Bool.true_and, Bool.and_false, Bool.false_and, Bool.not_true, Bool.not_false, decide_true, decide_false, decide_not, Bool.false_eq_true, optD, x1 hi, x1 hk, ix_rowL hi, ix_rowL hk, ix_rowL hj, h1, h2, h3, e1, e2, e3, st2_int hi hj]
          refine W_some.mpr ⟨_, rfl, _, ?_, rfl⟩
          rw [ec]; rfl
      | some c =>
        have ec : cellT k f i j = some (if c < a + b then c else a + b) := by unfold cellT; rw [e1, e2, e3]
        cases v with
        | io _ => cases hu
        | _ =>
          simp (config := { decide := false, maxSteps := 1000000 }) only [exs_nil, exs_cons, nxt_nx, nxt_rt, nxt_bk, nxt_ct, ex_for, ex_while, ev_comp, ev_nm, ev_int, ev_bl, ev_non, ev_str, ev_glb, ev_op, ev_neg, ev_tst, ev_ife, ev_tup, ev_lst, ev_ix, ev_bix, ev_bix2, ev_slc, ev_call, ev_cio, ev_b1, ev_dnew, ev_blen, ev_b2, ev_isi, evs_nil, evs_cons, evo_no, evo_yes, evT_ex, evT_cm, evT_chn, evT_not, evT_and, evT_or, evA_nil, evA_cons, evR_nil, evR_cons, evI_ex, evI_rng1, evI_rng2, evI_enm, evI_zip, ex_set, ex_tset, ex_par, ex_par3, ex_aug, ex_ixset, ex_pst, ex_ixset2, ex_ixset22, ex_app, ex_expr, ex_ret, ex_retN, ex_ite, ex_brk, ex_cont, ex_pass, ex_never, mb_some, mb_none, gt_zero, gt_succ, st_zero, st_succ, wp, bk, rdN, ow1, ow01, ow2, setable, setS, set1, set2, up1, bnd, bnds, isiD, outF, ioOf, atI0, atI1, atI2, atI3, ixN0, ixN1, len0, len1, len2, len3, len4, len5, len6, len7, len8, len9, List.length_cons, List.length_nil, List.length_map, List.length_append, Nat.zero_add, Nat.reduceAdd, set0, set1', opD_add, opD_sub, opD_mul, opD_fdiv, opD_mod, opD_pow, opD_addT, opD_addL, opD_mulL, opD_mulT, lvD_int, lvD_bool, lvD_str, lvD_tuple, lvD_dict, lvD_none, lvD_list, b1_lenL, b1_lenT, b1_lenD, b1_lenK, b1_abs, b1_int, b1_tupL, b1_tupT, b1_lstL, b1_lstT, b1_lstS, b1_all, b1_any, b1_str, b1_srtL, b1_srtD, b2_min, b2_max, cm_eq, cm_ne, cm_lt, cm_le, cm_gt, cm_ge, cm_ltT, cm_is_int, cm_isN_int, cm_is_tuple, cm_isN_tuple, cm_is_list, cm_isN_list, cm_is_bool, cm_isN_bool, cm_is_str, cm_isN_str, cm_is_none, cm_isN_none, cm_isb, cm_isNb, ix_L, ix_T, sl_L, sl_T, st_L, Option.bind_some, Option.map_some, Option.bind_none, Option.map_none, if_true, if_false, ↓reduceIte, Bool.and_true, Bool.true_and, Bool.and_false, Bool.false_and, Bool.not_true, Bool.not_false, decide_true, decide_false, decide_not, Bool.false_eq_true, optD, x1 hi, x1 hk, ix_rowL hi, ix_rowL hk, ix_rowL hj, h1, h2, h3, e1, e2, e3, st2_int hi hj]
          refine W_some.mpr ⟨_, rfl, _, ?_, rfl⟩
          rw [ec]; rfl

theorem cell_loop {Γ : Gm} {d : D} {n k i : Nat} {f : Tbl} {s : Sl} (hk : k < n) (hi : i < n) (h0 : f k k = some 0) :
    ∃ ρ', forE Γ [5, 7] (.nm 5) cellB (rngD n 0) [.sl 0 d, .sl 0 (.int n), .sl 2 (tabD n (mixT k f i 0)), .sl 0 (.int k), .sl 0 (.int i), .un, s, .un] = some (.nx ρ') ∧
      ρ' = [.sl 0 d, .sl 0 (.int n), .sl 2 (tabD n (mixT k f i n)), .sl 0 (.int k), .sl 0 (.int i), .un, s, .un] := by
  refine forE_rng (fun j ρ => ρ = [.sl 0 d, .sl 0 (.int n), .sl 2 (tabD n (mixT k f i j)), .sl 0 (.int k), .sl 0 (.int i), .un, s, .un]) (fun j ρ hj e => ?_) rfl
  subst e
  rw [Int.zero_add]
  simp (config := { decide := false, maxSteps := 1000000 }) only [exs_nil, exs_cons, nxt_nx, nxt_rt, nxt_bk, nxt_ct, ex_for, ex_while, ev_comp, ev_nm, ev_int, ev_bl, ev_non, ev_str, ev_glb, ev_op, ev_neg, ev_tst, ev_ife, ev_tup, ev_lst, ev_ix, ev_bix, ev_bix2, ev_slc, ev_call, ev_cio, ev_b1, ev_dnew, ev_blen, ev_b2, ev_isi, evs_nil, evs_cons, evo_no, evo_yes, evT_ex, evT_cm, evT_chn, evT_not, evT_and, evT_or, evA_nil, evA_cons, evR_nil, evR_cons, evI_ex, evI_rng1, evI_rng2, evI_enm, evI_zip, ex_set, ex_tset, ex_par, ex_par3, ex_aug, ex_ixset, ex_pst, ex_ixset2, ex_ixset22, ex_app, ex_expr, ex_ret, ex_retN, ex_ite, ex_brk, ex_cont, ex_pass, ex_never, mb_some, mb_none, gt_zero, gt_succ, st_zero, st_succ, wp, bk, rdN, ow1, ow01, ow2, setable, setS, set1, set2, up1, bnd, bnds, isiD, outF, ioOf, atI0, atI1, atI2, atI3, ixN0, ixN1, len0, len1, len2, len3, len4, len5, len6, len7, len8, len9, List.length_cons, List.length_nil, List.length_map, List.length_append, Nat.zero_add, Nat.reduceAdd, set0, set1', opD_add, opD_sub, opD_mul, opD_fdiv, opD_mod, opD_pow, opD_addT, opD_addL, opD_mulL, opD_mulT, lvD_int, lvD_bool, lvD_str, lvD_tuple, lvD_dict, lvD_none, lvD_list, b1_lenL, b1_lenT, b1_lenD, b1_lenK, b1_abs, b1_int, b1_tupL, b1_tupT, b1_lstL, b1_lstT, b1_lstS, b1_all, b1_any, b1_str, b1_srtL, b1_srtD, b2_min, b2_max, cm_eq, cm_ne, cm_lt, cm_le, cm_gt, cm_ge, cm_ltT, cm_is_int, cm_isN_int, cm_is_tuple, cm_isN_tuple, cm_is_list, cm_isN_list, cm_is_bool, cm_isN_bool, cm_is_str, cm_isN_str, cm_is_none, cm_isN_none, cm_isb, cm_isNb, ix_L, ix_T, sl_L, sl_T, st_L, Option.bind_some, Option.map_some, Option.bind_none, Option.map_none, if_true, if_false, ↓reduceIte, Bool.and_true, Bool.true_and, Bool.and_false, Bool.false_and, Bool.not_true, Bool.not_false, decide_true, decide_false, decide_not, Bool.false_eq_true]
  refine (cell_ev (u := s) (v := .un) hk hi hj (mix_col h0 i j i) (mix_row h0 i j j) (mix_here k f i j) rfl).imp ?_
  rintro _ ⟨ρ', rfl, v', e, _⟩
  exact ⟨ρ', rfl, by show wp ρ' [5, 7] = _; rw [e, mix_step]⟩
theorem mix_done {n k : Nat} {f : Tbl} {i : Nat} : tabD n (mixT k f i n) = tabD n (mixT k f (i + 1) 0) := tabD_congr fun a b _ hb => by
  unfold mixT
  by_cases c : a < i ∨ (a = i ∧ b < n)
  · rw [if_pos c, if_pos (by omega)]
  · rw [if_neg c, if_neg (by omega)]
theorem mix_zero {k : Nat} {f : Tbl} : mixT k f 0 0 = f := by
  funext a b; unfold mixT; rw [if_neg (by omega)]
theorem mix_all {n k : Nat} {f : Tbl} : tabD n (mixT k f n 0) = tabD n (cellT k f) := tabD_congr fun a b ha _ => by
  unfold mixT; rw [if_pos (by omega)]
def rowB : Ss := .cons (.for [5, 7] (.nm 5) (.rng1 (.nm 1)) cellB) .nil
theorem rng_lenOk {n : Nat} (h : n ≤ 2 ^ 24) : (lenOk n && decide (-(2 ^ 62) ≤ (n : Int))) = true := by
  rw [len_ok h, decide_eq_true (by omega)]; rfl
theorem row_loop {Γ : Gm} {d : D} {n k : Nat} {f : Tbl} {s : Sl} (hn : n ≤ 2 ^ 24) (hk : k < n) (h0 : f k k = some 0) :
    ∃ ρ', forE Γ [4, 5, 7] (.nm 4) rowB (rngD n 0) [.sl 0 d, .sl 0 (.int n), .sl 2 (tabD n f), .sl 0 (.int k), .un, .un, s, .un] = some (.nx ρ') ∧
      ρ' = [.sl 0 d, .sl 0 (.int n), .sl 2 (tabD n (cellT k f)), .sl 0 (.int k), .un, .un, s, .un] := by
  obtain ⟨ρ', e, h⟩ := forE_rng (Γ := Γ) (kill := [4, 5, 7]) (tg := .nm 4) (body := rowB) (n := n) (lo := 0) (ρ := [.sl 0 d, .sl 0 (.int n), .sl 2 (tabD n f), .sl 0 (.int k), .un, .un, s, .un])
    (fun i ρ => ρ = [.sl 0 d, .sl 0 (.int n), .sl 2 (tabD n (mixT k f i 0)), .sl 0 (.int k), .un, .un, s, .un]) (fun i ρ hi e => by
      subst e
      rw [Int.zero_add]
      obtain ⟨ρ', e, rfl⟩ := cell_loop (Γ := Γ) (d := d) (s := s) hk hi h0
      unfold rowB
      simp (config := { decide := false, maxSteps := 1000000 }) only [exs_nil, exs_cons, nxt_nx, nxt_rt, nxt_bk, nxt_ct, ex_for, ex_while, ev_comp, ev_nm, ev_int, ev_bl, ev_non, ev_str, ev_glb, ev_op, ev_neg, ev_tst, ev_ife, ev_tup, ev_lst, ev_ix, ev_bix, ev_bix2, ev_slc, ev_call, ev_cio, ev_b1, ev_dnew, ev_blen, ev_b2, ev_isi, evs_nil, evs_cons, evo_no, evo_yes, evT_ex, evT_cm, evT_chn, evT_not, evT_and, evT_or, evA_nil, evA_cons, evR_nil, evR_cons, evI_ex, evI_rng1, evI_rng2, evI_enm, evI_zip, ex_set, ex_tset, ex_par, ex_par3, ex_aug, ex_ixset, ex_pst, ex_ixset2, ex_ixset22, ex_app, ex_expr, ex_ret, ex_retN, ex_ite, ex_brk, ex_cont, ex_pass, ex_never, mb_some, mb_none, gt_zero, gt_succ, st_zero, st_succ, wp, bk, rdN, ow1, ow01, ow2, setable, setS, set1, set2, up1, bnd, bnds, isiD, outF, ioOf, atI0, atI1, atI2, atI3, ixN0, ixN1, len0, len1, len2, len3, len4, len5, len6, len7, len8, len9, List.length_cons, List.length_nil, List.length_map, List.length_append, Nat.zero_add, Nat.reduceAdd, set0, set1', opD_add, opD_sub, opD_mul, opD_fdiv, opD_mod, opD_pow, opD_addT, opD_addL, opD_mulL, opD_mulT, lvD_int, lvD_bool, lvD_str, lvD_tuple, lvD_dict, lvD_none, lvD_list, b1_lenL, b1_lenT, b1_lenD, b1_lenK, b1_abs, b1_int, b1_tupL, b1_tupT, b1_lstL, b1_lstT, b1_lstS, b1_all, b1_any, b1_str, b1_srtL, b1_srtD, b2_min, b2_max, cm_eq, cm_ne, cm_lt, cm_le, cm_gt, cm_ge, cm_ltT, cm_is_int, cm_isN_int, cm_is_tuple, cm_isN_tuple, cm_is_list, cm_isN_list, cm_is_bool, cm_isN_bool, cm_is_str, cm_isN_str, cm_is_none, cm_isN_none, cm_isb, cm_isNb, ix_L, ix_T, sl_L, sl_T, st_L, Option.bind_some, Option.map_some, Option.bind_none, Option.map_none, if_true, if_false, ↓reduceIte, Bool.and_true, Bool.true_and, Bool.and_false, Bool.false_and, Bool.not_true, Bool.not_false, decide_true, decide_false, decide_not, Bool.false_eq_true, rng_lenOk hn, Int.toNat_natCast, e]
      refine W_some.mpr ?_
      refine ⟨_, rfl, ?_⟩
      rw [← mix_done]; rfl) (by rw [mix_zero])
  exact ⟨ρ', e, by rw [h, mix_all]⟩
def byB : Ss := .cons (.for [4, 5, 7] (.nm 4) (.rng1 (.nm 1)) rowB) .nil
theorem by_loop {Γ : Gm} {d : D} {n : Nat} {limbs : List (Nat × Nat × Int)} {f : Tbl} {s : Sl} (hn : n ≤ 2 ^ 24) (ok : TabOk n limbs f) (hl : LimbsIn limbs f) :
    ∃ ρ', forE Γ [3, 4, 5, 7] (.nm 3) byB (rngD n 0) [.sl 0 d, .sl 0 (.int n), .sl 2 (tabD n f), .un, .un, .un, s, .un] = some (.nx ρ') ∧
      ∃ g, ρ' = [.sl 0 d, .sl 0 (.int n), .sl 2 (tabD n g), .un, .un, .un, s, .un] ∧ TabOk n limbs g ∧ LimbsIn limbs g ∧ ∀ m, m < n → Tri n g m := by
  refine forE_rng (fun k ρ => ∃ g, ρ = [.sl 0 d, .sl 0 (.int n), .sl 2 (tabD n g), .un, .un, .un, s, .un] ∧ TabOk n limbs g ∧ LimbsIn limbs g ∧ ∀ m, m < k → Tri n g m) (fun k ρ hk e => ?_) ⟨f, rfl, ok, hl, fun m h => absurd h (by omega)⟩
  obtain ⟨g, rfl, gok, gl, gt⟩ := e
  rw [Int.zero_add]
  obtain ⟨ρ', e, rfl⟩ := row_loop (Γ := Γ) (d := d) (s := s) hn hk (gok.diag k hk)
  unfold byB
  simp (config := { decide := false, maxSteps := 1000000 }) only [exs_nil, exs_cons, nxt_nx, nxt_rt, nxt_bk, nxt_ct, ex_for, ex_while, ev_comp, ev_nm, ev_int, ev_bl, ev_non, ev_str, ev_glb, ev_op, ev_neg, ev_tst, ev_ife, ev_tup, ev_lst, ev_ix, ev_bix, ev_bix2, ev_slc, ev_call, ev_cio, ev_b1, ev_dnew, ev_blen, ev_b2, ev_isi, evs_nil, evs_cons, evo_no, evo_yes, evT_ex, evT_cm, evT_chn, evT_not, evT_and, evT_or, evA_nil, evA_cons, evR_nil, evR_cons, evI_ex, evI_rng1, evI_rng2, evI_enm, evI_zip, ex_set, ex_tset, ex_par, ex_par3, ex_aug, ex_ixset, ex_pst, ex_ixset2, ex_ixset22, ex_app, ex_expr, ex_ret, ex_retN, ex_ite, ex_brk, ex_cont, ex_pass, ex_never, mb_some, mb_none, gt_zero, gt_succ, st_zero, st_succ, wp, bk, rdN, ow1, ow01, ow2, setable, setS, set1, set2, up1, bnd, bnds, isiD, outF, ioOf, atI0, atI1, atI2, atI3, ixN0, ixN1, len0, len1, len2, len3, len4, len5, len6, len7, len8, len9, List.length_cons, List.length_nil, List.length_map, List.length_append, Nat.zero_add, Nat.reduceAdd, set0, set1', opD_add, opD_sub, opD_mul, opD_fdiv, opD_mod, opD_pow, opD_addT, opD_addL, opD_mulL, opD_mulT, lvD_int, lvD_bool, lvD_str, lvD_tuple, lvD_dict, lvD_none, lvD_list, b1_lenL, b1_lenT, b1_lenD, b1_lenK, b1_abs, b1_int, b1_tupL, b1_tupT, b1_lstL, b1_lstT, b1_lstS, b1_all, b1_any, b1_str, b1_srtL, b1_srtD, b2_min, b2_max, cm_eq, cm_ne, cm_lt, cm_le, cm_gt, cm_ge, cm_ltT, cm_is_int, cm_isN_int, cm_is_tuple, cm_isN_tuple, cm_is_list, cm_isN_list, cm_is_bool, cm_isN_bool, cm_is_str, cm_isN_str, cm_is_none, cm_isN_none, cm_isb, cm_isNb, ix_L, ix_T, sl_L, sl_T, st_L, Option.bind_some, Option.map_some, Option.bind_none, Option.map_none, if_true, if_false, ↓reduceIte, Bool.and_true, Bool.true_and, Bool.and_false, Bool.false_and, Bool.not_true, Bool.not_false, decide_true, decide_false, decide_not, Bool.false_eq_true, rng_lenOk hn, Int.toNat_natCast, e]
  refine W_some.mpr ?_
  exact ⟨_, rfl, cellT k g, rfl, cell_tab hk gok, cell_limbs gl, fun m hm => cell_tri hk gok (fun h => gt m h) (by omega)⟩
def limbB : Ss := (.cons (.ixset22 2 (.nm 4) (.nm 5) (.nm 5) (.nm 4) (.nm 6)) .nil)
theorem limb_loop {Γ : Gm} {d : D} {n : Nat} {limbs : List (Nat × Nat × Int)} {f : Tbl} (lo : ∀ l ∈ limbs, l.1 < l.2.1 ∧ l.2.1 < n ∧ 1 ≤ l.2.2 ∧ l.2.2 ≤ 9) (lt : limbs.Pairwise limbLt) (ok : TabOk n limbs f) :
    ∃ ρ', forE Γ [4, 5, 6] (.tup [.nm 4, .nm 5, .nm 6]) limbB (limbs.map limbD) [.sl 0 d, .sl 0 (.int n), .sl 2 (tabD n f), .un, .un, .un, .un, .un] = some (.nx ρ') ∧
      ∃ g, ρ' = [.sl 0 d, .sl 0 (.int n), .sl 2 (tabD n g), .un, .un, .un, .un, .un] ∧ TabOk n limbs g ∧ LimbsIn limbs g := by
  obtain ⟨ρ', e, g, h1, h2, h3⟩ := forE_inv (Γ := Γ) (kill := [4, 5, 6]) (tg := .tup [.nm 4, .nm 5, .nm 6]) (body := limbB) (xs := limbs.map limbD) (ρ := [.sl 0 d, .sl 0 (.int n), .sl 2 (tabD n f), .un, .un, .un, .un, .un])
    (fun i ρ => ∃ g, ρ = [.sl 0 d, .sl 0 (.int n), .sl 2 (tabD n g), .un, .un, .un, .un, .un] ∧ TabOk n limbs g ∧ LimbsIn (limbs.take i) g) (fun i x ρ hx e => by
    obtain ⟨g, rfl, gok, gl⟩ := e
    rw [List.getElem?_map] at hx
    obtain ⟨⟨a, b, l⟩, hl, rfl⟩ := Option.map_eq_some_iff.mp hx
    have hm : (a, b, l) ∈ limbs := List.mem_of_getElem? hl
    obtain ⟨q1, q2, q3, q4⟩ := lo _ hm
    simp only at q1 q2 q3 q4
    have ha : a < n := by omega
    unfold limbB limbD
    simp (config := { decide := false, maxSteps := 1000000 }) only [exs_nil, exs_cons, nxt_nx, nxt_rt, nxt_bk, nxt_ct, ex_for, ex_while, ev_comp, ev_nm, ev_int, ev_bl, ev_non, ev_str, ev_glb, ev_op, ev_neg, ev_tst, ev_ife, ev_tup, ev_lst, ev_ix, ev_bix, ev_bix2, ev_slc, ev_call, ev_cio, ev_b1, ev_dnew, ev_blen, ev_b2, ev_isi, evs_nil, evs_cons, evo_no, evo_yes, evT_ex, evT_cm, evT_chn, evT_not, evT_and, evT_or, evA_nil, evA_cons, evR_nil, evR_cons, evI_ex, evI_rng1, evI_rng2, evI_enm, evI_zip, ex_set, ex_tset, ex_par, ex_par3, ex_aug, ex_ixset, ex_pst, ex_ixset2, ex_ixset22, ex_app, ex_expr, ex_ret, ex_retN, ex_ite, ex_brk, ex_cont, ex_pass, ex_never, mb_some, mb_none, gt_zero, gt_succ, st_zero, st_succ, wp, bk, rdN, ow1, ow01, ow2, setable, setS, set1, set2, up1, bnd, bnds, isiD, outF, ioOf, atI0, atI1, atI2, atI3, ixN0, ixN1, len0, len1, len2, len3, len4, len5, len6, len7, len8, len9, List.length_cons, List.length_nil, List.length_map, List.length_append, Nat.zero_add, Nat.reduceAdd, set0, set1', opD_add, opD_sub, opD_mul, opD_fdiv, opD_mod, opD_pow, opD_addT, opD_addL, opD_mulL, opD_mulT, lvD_int, lvD_bool, lvD_str, lvD_tuple, lvD_dict, lvD_none, lvD_list, b1_lenL, b1_lenT, b1_lenD, b1_lenK, b1_abs, b1_int, b1_tupL, b1_tupT, b1_lstL, b1_lstT, b1_lstS, b1_all, b1_any, b1_str, b1_srtL, b1_srtD, b2_min, b2_max, cm_eq, cm_ne, cm_lt, cm_le, cm_gt, cm_ge, cm_ltT, cm_is_int, cm_isN_int, cm_is_tuple, cm_isN_tuple, cm_is_list, cm_isN_list, cm_is_bool, cm_isN_bool, cm_is_str, cm_isN_str, cm_is_none, cm_isN_none, cm_isb, cm_isNb, ix_L, ix_T, sl_L, sl_T, st_L, Option.bind_some, Option.map_some, Option.bind_none, Option.map_none, if_true, if_false, ↓reduceIte, Bool.and_true, Bool.true_and, Bool.and_false, Bool.false_and, Bool.not_true, Bool.not_false, decide_true, decide_false, decide_not, Bool.false_eq_true, ix_tab ha, ix_tab q2, st2_int ha q2, st2_int q2 ha]
    refine W_some.mpr ?_
    refine ⟨_, rfl, upd2 (upd2 g a b (some l)) b a (some l), rfl, ⟨fun c hc => ?_, fun c e x h => ?_, fun v hv c e x h => ?_⟩, fun m hmm => ?_⟩
    · unfold upd2
      rw [if_neg (by omega), if_neg (by omega)]
      exact gok.diag c hc
    · unfold upd2 at h
      split at h
      · cases h; omega
      · split at h
        · cases h; omega
        · exact gok.nn c e x h
    · have hq := hv _ hm
      simp only at hq
      unfold upd2 at h
      split at h
      · rename_i z; cases h; rw [z.1, z.2]; omega
      · split at h
        · rename_i z; cases h; rw [z.1, z.2]; omega
        · exact gok.so v hv c e x h
    · rw [List.take_succ, hl] at hmm
      rcases List.mem_append.mp hmm with h | h
      · obtain ⟨j, hj, e⟩ := List.mem_iff_getElem.mp h
        rw [List.length_take] at hj
        rw [List.getElem_take] at e
        have hji : limbLt m (a, b, l) := by
          obtain ⟨hi, hle⟩ := List.getElem?_eq_some_iff.mp hl
          have := List.pairwise_iff_getElem.mp lt j i (by omega) hi (by omega)
          rw [e, hle] at this; exact this
        have hml := lo m (List.mem_of_mem_take h)
        have n1 : ¬ (m.1 = b ∧ m.2.1 = a) := by rintro ⟨z1, z2⟩; omega
        have n2 : ¬ (m.1 = a ∧ m.2.1 = b) := by
          rintro ⟨z1, z2⟩
          rcases hji with h | ⟨_, h⟩
          · simp only at h; omega
          · simp only at h; omega
        have n3 : ¬ (m.2.1 = b ∧ m.1 = a) := by rintro ⟨z1, z2⟩; exact n2 ⟨z2, z1⟩
        have n4 : ¬ (m.2.1 = a ∧ m.1 = b) := by rintro ⟨z1, z2⟩; omega
        obtain ⟨g1, g2⟩ := gl m h
        unfold upd2
        rw [if_neg n1, if_neg n2, if_neg n3, if_neg n4]
        exact ⟨g1, g2⟩
      · have e : m = (a, b, l) := by simpa using h
        subst e
        unfold upd2
        simp only
        refine ⟨⟨l, ?_, Int.le_refl _⟩, l, ?_, Int.le_refl _⟩
        · rw [if_neg (by omega)]; simp
        · simp) ⟨f, rfl, ok, (fun l hl => by simp at hl)⟩
  refine ⟨ρ', e, g, h1, h2, ?_⟩
  rw [List.length_map, List.take_of_length_le (Nat.le_refl _)] at h3
  exact h3
def TableOk (S : Fn) : Prop := ∀ F, FigOk F → ∃ f, S [figD F] = some ⟨tabD F.n f, 0, .none⟩ ∧ TabOk F.n F.limbs f ∧ LimbsIn F.limbs f ∧ ∀ m, m < F.n → Tri F.n f m
theorem table_ok {Γ : Gm} : TableOk (run Γ false 1 8 C.b_table_of) := by
  rintro ⟨n, limbs, ties, floor⟩ ⟨n1, n8, f1, f30, l12, lo, lt, t1, t6, to⟩
  simp only at n1 n8 f1 f30 l12 lo lt t1 t6 to
  rw [run1]
  unfold C.b_table_of figD
  simp only [ent, List.map_cons, List.map_nil, List.cons_append, List.nil_append, List.length_cons, List.length_nil, List.replicate_succ, List.replicate_zero, Nat.reduceAdd, Nat.reduceSub, if_true, if_false, ↓reduceIte, Bool.false_eq_true]
  have hn : n ≤ 2 ^ 24 := by omega
  generalize hd : PyData.tuple [.int n, .tuple (limbs.map limbD), .tuple (ties.map natD), .int floor] = d
  have d0 : ixD d (.int 0) = some (.int n) := by rw [← hd]; exact ix_T _ _ |>.trans (atI0 _ _)
  have d1 : ixD d (.int 1) = some (.tuple (limbs.map limbD)) := by rw [← hd]; exact ix_T _ _ |>.trans (atI1 _ _ _)
  let f0 : Tbl := fun i j => if i = j then some 0 else none
  have ok0 : TabOk n limbs f0 := by
    refine ⟨fun i _ => if_pos rfl, fun i j x h => ?_, fun v hv i j x h => ?_⟩
    · have h : (if i = j then some (0 : Int) else none) = some x := h
      split at h
      · cases h; exact Int.le_refl _
      · cases h
    · have h : (if i = j then some (0 : Int) else none) = some x := h
      split at h
      · rename_i e; cases h; rw [e]; omega
      · cases h
  obtain ⟨ρ1, e1, g1, rfl, ok1, li1⟩ := limb_loop (Γ := Γ) (d := d) lo lt ok0
  obtain ⟨ρ2, e2, g2, rfl, ok2, li2, tr2⟩ := by_loop (Γ := Γ) (d := d) (s := .un) hn ok1 li1
  unfold limbB at e1
  unfold byB rowB cellB at e2
  have inner : ∀ i, i < n → compE Γ 0 [5] (.nm 5) .nil (.ife (.cm .eq (.nm 4) (.nm 5)) (.int 0) .non) (rngD n 0) [.sl 0 d, .sl 0 (.int n), .un, .un, .sl 0 (.int i), .un, .un, .un] = some (rowD n fun j => optD (f0 i j), [.sl 0 d, .sl 0 (.int n), .un, .un, .sl 0 (.int i), .un, .un, .un]) := by
    intro i hi
    refine compE_rng _ fun j hj => ?_
    by_cases c : i = j
    · subst c
      simp (config := { decide := false, maxSteps := 1000000 }) only [exs_nil, exs_cons, nxt_nx, nxt_rt, nxt_bk, nxt_ct, ex_for, ex_while, ev_comp, ev_nm, ev_int, ev_bl, ev_non, ev_str, ev_glb, ev_op, ev_neg, ev_tst, ev_ife, ev_tup, ev_lst, ev_ix, ev_bix, ev_bix2, ev_slc, ev_call, ev_cio, ev_b1, ev_dnew, ev_blen, ev_b2, ev_isi, evs_nil, evs_cons, evo_no, evo_yes, evT_ex, evT_cm, evT_chn, evT_not, evT_and, evT_or, evA_nil, evA_cons, evR_nil, evR_cons, evI_ex, evI_rng1, evI_rng2, evI_enm, evI_zip, ex_set, ex_tset, ex_par, ex_par3, ex_aug, ex_ixset, ex_pst, ex_ixset2, ex_ixset22, ex_app, ex_expr, ex_ret, ex_retN, ex_ite, ex_brk, ex_cont, ex_pass, ex_never, mb_some, mb_none, gt_zero, gt_succ, st_zero, st_succ, wp, bk, rdN, ow1, ow01, ow2, setable, setS, set1, set2, up1, bnd, bnds, isiD, outF, ioOf, atI0, atI1, atI2, atI3, ixN0, ixN1, len0, len1, len2, len3, len4, len5, len6, len7, len8, len9, List.length_cons, List.length_nil, List.length_map, List.length_append, Nat.zero_add, Nat.reduceAdd, set0, set1', opD_add, opD_sub, opD_mul, opD_fdiv, opD_mod, opD_pow, opD_addT, opD_addL, opD_mulL, opD_mulT, lvD_int, lvD_bool, lvD_str, lvD_tuple, lvD_dict, lvD_none, lvD_list, b1_lenL, b1_lenT, b1_lenD, b1_lenK, b1_abs, b1_int, b1_tupL, b1_tupT, b1_lstL, b1_lstT, b1_lstS, b1_all, b1_any, b1_str, b1_srtL, b1_srtD, b2_min, b2_max, cm_eq, cm_ne, cm_lt, cm_le, cm_gt, cm_ge, cm_ltT, cm_is_int, cm_isN_int, cm_is_tuple, cm_isN_tuple, cm_is_list, cm_isN_list, cm_is_bool, cm_isN_bool, cm_is_str, cm_isN_str, cm_is_none, cm_isN_none, cm_isb, cm_isNb, ix_L, ix_T, sl_L, sl_T, st_L, Option.bind_some, Option.map_some, Option.bind_none, Option.map_none, if_true, if_false, ↓reduceIte, Bool.and_true, Bool.true_and, Bool.and_false, Bool.false_and, Bool.not_true, Bool.not_false, decide_true, decide_false, decide_not, Bool.false_eq_true, show (shp (.int (i : Int)) && shp (.int (i : Int))) = true from rfl, show PyData.eqv (.int (i : Int)) (.int (i : Int)) = true from by simp [PyData.eqv]]
      refine W_some.mpr ⟨.inl trivial, ?_, rfl⟩
      show PyData.int 0 = optD (if i = i then some 0 else none)
      rw [if_pos rfl]; rfl
    · simp (config := { decide := false, maxSteps := 1000000 }) only [exs_nil, exs_cons, nxt_nx, nxt_rt, nxt_bk, nxt_ct, ex_for, ex_while, ev_comp, ev_nm, ev_int, ev_bl, ev_non, ev_str, ev_glb, ev_op, ev_neg, ev_tst, ev_ife, ev_tup, ev_lst, ev_ix, ev_bix, ev_bix2, ev_slc, ev_call, ev_cio, ev_b1, ev_dnew, ev_blen, ev_b2, ev_isi, evs_nil, evs_cons, evo_no, evo_yes, evT_ex, evT_cm, evT_chn, evT_not, evT_and, evT_or, evA_nil, evA_cons, evR_nil, evR_cons, evI_ex, evI_rng1, evI_rng2, evI_enm, evI_zip, ex_set, ex_tset, ex_par, ex_par3, ex_aug, ex_ixset, ex_pst, ex_ixset2, ex_ixset22, ex_app, ex_expr, ex_ret, ex_retN, ex_ite, ex_brk, ex_cont, ex_pass, ex_never, mb_some, mb_none, gt_zero, gt_succ, st_zero, st_succ, wp, bk, rdN, ow1, ow01, ow2, setable, setS, set1, set2, up1, bnd, bnds, isiD, outF, ioOf, atI0, atI1, atI2, atI3, ixN0, ixN1, len0, len1, len2, len3, len4, len5, len6, len7, len8, len9, List.length_cons, List.length_nil, List.length_map, List.length_append, Nat.zero_add, Nat.reduceAdd, set0, set1', opD_add, opD_sub, opD_mul, opD_fdiv, opD_mod, opD_pow, opD_addT, opD_addL, opD_mulL, opD_mulT, lvD_int, lvD_bool, lvD_str, lvD_tuple, lvD_dict, lvD_none, lvD_list, b1_lenL, b1_lenT, b1_lenD, b1_lenK, b1_abs, b1_int, b1_tupL, b1_tupT, b1_lstL, b1_lstT, b1_lstS, b1_all, b1_any, b1_str, b1_srtL, b1_srtD, b2_min, b2_max, cm_eq, cm_ne, cm_lt, cm_le, cm_gt, cm_ge, cm_ltT, cm_is_int, cm_isN_int, cm_is_tuple, cm_isN_tuple, cm_is_list, cm_isN_list, cm_is_bool, cm_isN_bool, cm_is_str, cm_isN_str, cm_is_none, cm_isN_none, cm_isb, cm_isNb, ix_L, ix_T, sl_L, sl_T, st_L, Option.bind_some, Option.map_some, Option.bind_none, Option.map_none, if_true, if_false, ↓reduceIte, Bool.and_true, Bool.true_and, Bool.and_false, Bool.false_and, Bool.not_true, Bool.not_false, decide_true, decide_false, decide_not, Bool.false_eq_true, show (shp (.int (i : Int)) && shp (.int (j : Int))) = true from rfl, show PyData.eqv (.int (i : Int)) (.int (j : Int)) = false from by simp [PyData.eqv]; omega]
      refine W_some.mpr ⟨.inl trivial, ?_, rfl⟩
      show PyData.none = optD (if i = j then some 0 else none)
      rw [if_neg c]; rfl
  have outer : compE Γ 1 [4] (.nm 4) .nil (.comp 0 [5] (.nm 5) (.rng1 (.nm 1)) .nil (.ife (.cm .eq (.nm 4) (.nm 5)) (.int 0) .non)) (rngD n 0) [.sl 0 d, .sl 0 (.int n), .un, .un, .un, .un, .un, .un] = some (rowD n fun i => .list (rowD n fun j => optD (f0 i j)), [.sl 0 d, .sl 0 (.int n), .un, .un, .un, .un, .un, .un]) := by
    refine compE_rng _ fun i hi => ?_
    simp (config := { decide := false, maxSteps := 1000000 }) only [exs_nil, exs_cons, nxt_nx, nxt_rt, nxt_bk, nxt_ct, ex_for, ex_while, ev_comp, ev_nm, ev_int, ev_bl, ev_non, ev_str, ev_glb, ev_op, ev_neg, ev_tst, ev_ife, ev_tup, ev_lst, ev_ix, ev_bix, ev_bix2, ev_slc, ev_call, ev_cio, ev_b1, ev_dnew, ev_blen, ev_b2, ev_isi, evs_nil, evs_cons, evo_no, evo_yes, evT_ex, evT_cm, evT_chn, evT_not, evT_and, evT_or, evA_nil, evA_cons, evR_nil, evR_cons, evI_ex, evI_rng1, evI_rng2, evI_enm, evI_zip, ex_set, ex_tset, ex_par, ex_par3, ex_aug, ex_ixset, ex_pst, ex_ixset2, ex_ixset22, ex_app, ex_expr, ex_ret, ex_retN, ex_ite, ex_brk, ex_cont, ex_pass, ex_never, mb_some, mb_none, gt_zero, gt_succ, st_zero, st_succ, wp, bk, rdN, ow1, ow01, ow2, setable, setS, set1, set2, up1, bnd, bnds, isiD, outF, ioOf, atI0, atI1, atI2, atI3, ixN0, ixN1, len0, len1, len2, len3, len4, len5, len6, len7, len8, len9, List.length_cons, List.length_nil, List.length_map, List.length_append, Nat.zero_add, Nat.reduceAdd, set0, set1', opD_add, opD_sub, opD_mul, opD_fdiv, opD_mod, opD_pow, opD_addT, opD_addL, opD_mulL, opD_mulT, lvD_int, lvD_bool, lvD_str, lvD_tuple, lvD_dict, lvD_none, lvD_list, b1_lenL, b1_lenT, b1_lenD, b1_lenK, b1_abs, b1_int, b1_tupL, b1_tupT, b1_lstL, b1_lstT, b1_lstS, b1_all, b1_any, b1_str, b1_srtL, b1_srtD, b2_min, b2_max, cm_eq, cm_ne, cm_lt, cm_le, cm_gt, cm_ge, cm_ltT, cm_is_int, cm_isN_int, cm_is_tuple, cm_isN_tuple, cm_is_list, cm_isN_list, cm_is_bool, cm_isN_bool, cm_is_str, cm_isN_str, cm_is_none, cm_isN_none, cm_isb, cm_isNb, ix_L, ix_T, sl_L, sl_T, st_L, Option.bind_some, Option.map_some, Option.bind_none, Option.map_none, if_true, if_false, ↓reduceIte, Bool.and_true, Bool.true_and, Bool.and_false, Bool.false_and, Bool.not_true, Bool.not_false, decide_true, decide_false, decide_not, Bool.false_eq_true, rng_lenOk hn, Int.toNat_natCast, inner i hi]
    refine W_some.mpr ?_
    exact ⟨.inr rfl, rfl, rfl⟩
  simp (config := { decide := false, maxSteps := 1000000 }) only [exs_nil, exs_cons, nxt_nx, nxt_rt, nxt_bk, nxt_ct, ex_for, ex_while, ev_comp, ev_nm, ev_int, ev_bl, ev_non, ev_str, ev_glb, ev_op, ev_neg, ev_tst, ev_ife, ev_tup, ev_lst, ev_ix, ev_bix, ev_bix2, ev_slc, ev_call, ev_cio, ev_b1, ev_dnew, ev_blen, ev_b2, ev_isi, evs_nil, evs_cons, evo_no, evo_yes, evT_ex, evT_cm, evT_chn, evT_not, evT_and, evT_or, evA_nil, evA_cons, evR_nil, evR_cons, evI_ex, evI_rng1, evI_rng2, evI_enm, evI_zip, ex_set, ex_tset, ex_par, ex_par3, ex_aug, ex_ixset, ex_pst, ex_ixset2, ex_ixset22, ex_app, ex_expr, ex_ret, ex_retN, ex_ite, ex_brk, ex_cont, ex_pass, ex_never, mb_some, mb_none, gt_zero, gt_succ, st_zero, st_succ, wp, bk, rdN, ow1, ow01, ow2, setable, setS, set1, set2, up1, bnd, bnds, isiD, outF, ioOf, atI0, atI1, atI2, atI3, ixN0, ixN1, len0, len1, len2, len3, len4, len5, len6, len7, len8, len9, List.length_cons, List.length_nil, List.length_map, List.length_append, Nat.zero_add, Nat.reduceAdd, set0, set1', opD_add, opD_sub, opD_mul, opD_fdiv, opD_mod, opD_pow, opD_addT, opD_addL, opD_mulL, opD_mulT, lvD_int, lvD_bool, lvD_str, lvD_tuple, lvD_dict, lvD_none, lvD_list, b1_lenL, b1_lenT, b1_lenD, b1_lenK, b1_abs, b1_int, b1_tupL, b1_tupT, b1_lstL, b1_lstT, b1_lstS, b1_all, b1_any, b1_str, b1_srtL, b1_srtD, b2_min, b2_max, cm_eq, cm_ne, cm_lt, cm_le, cm_gt, cm_ge, cm_ltT, cm_is_int, cm_isN_int, cm_is_tuple, cm_isN_tuple, cm_is_list, cm_isN_list, cm_is_bool, cm_isN_bool, cm_is_str, cm_isN_str, cm_is_none, cm_isN_none, cm_isb, cm_isNb, ix_L, ix_T, sl_L, sl_T, st_L, Option.bind_some, Option.map_some, Option.bind_none, Option.map_none, if_true, if_false, ↓reduceIte, Bool.and_true, Bool.true_and, Bool.and_false, Bool.false_and, Bool.not_true, Bool.not_false, decide_true, decide_false, decide_not, Bool.false_eq_true, d0, d1, rng_lenOk hn, Int.toNat_natCast, outer]
  have e1' : forE Γ [4, 5, 6] (.tup [.nm 4, .nm 5, .nm 6]) (.cons (.ixset22 2 (.nm 4) (.nm 5) (.nm 5) (.nm 4) (.nm 6)) .nil) (limbs.map limbD) [.sl 0 d, .sl 0 (.int n), .sl 2 (.list (rowD n fun i => .list (rowD n fun j => optD (f0 i j)))), .un, .un, .un, .un, .un] = _ := e1
  simp (config := { decide := false, maxSteps := 1000000 }) only [exs_nil, exs_cons, nxt_nx, nxt_rt, nxt_bk, nxt_ct, ex_for, ex_while, ev_comp, ev_nm, ev_int, ev_bl, ev_non, ev_str, ev_glb, ev_op, ev_neg, ev_tst, ev_ife, ev_tup, ev_lst, ev_ix, ev_bix, ev_bix2, ev_slc, ev_call, ev_cio, ev_b1, ev_dnew, ev_blen, ev_b2, ev_isi, evs_nil, evs_cons, evo_no, evo_yes, evT_ex, evT_cm, evT_chn, evT_not, evT_and, evT_or, evA_nil, evA_cons, evR_nil, evR_cons, evI_ex, evI_rng1, evI_rng2, evI_enm, evI_zip, ex_set, ex_tset, ex_par, ex_par3, ex_aug, ex_ixset, ex_pst, ex_ixset2, ex_ixset22, ex_app, ex_expr, ex_ret, ex_retN, ex_ite, ex_brk, ex_cont, ex_pass, ex_never, mb_some, mb_none, gt_zero, gt_succ, st_zero, st_succ, wp, bk, rdN, ow1, ow01, ow2, setable, setS, set1, set2, up1, bnd, bnds, isiD, outF, ioOf, atI0, atI1, atI2, atI3, ixN0, ixN1, len0, len1, len2, len3, len4, len5, len6, len7, len8, len9, List.length_cons, List.length_nil, List.length_map, List.length_append, Nat.zero_add, Nat.reduceAdd, set0, set1', opD_add, opD_sub, opD_mul, opD_fdiv, opD_mod, opD_pow, opD_addT, opD_addL, opD_mulL, opD_mulT, lvD_int, lvD_bool, lvD_str, lvD_tuple, lvD_dict, lvD_none, lvD_list, b1_lenL, b1_lenT, b1_lenD, b1_lenK, b1_abs, b1_int, b1_tupL, b1_tupT, b1_lstL, b1_lstT, b1_lstS, b1_all, b1_any, b1_str, b1_srtL, b1_srtD, b2_min, b2_max, cm_eq, cm_ne, cm_lt, cm_le, cm_gt, cm_ge, cm_ltT, cm_is_int, cm_isN_int, cm_is_tuple, cm_isN_tuple, cm_is_list, cm_isN_list, cm_is_bool, cm_isN_bool, cm_is_str, cm_isN_str, cm_is_none, cm_isN_none, cm_isb, cm_isNb, ix_L, ix_T, sl_L, sl_T, st_L, Option.bind_some, Option.map_some, Option.bind_none, Option.map_none, if_true, if_false, ↓reduceIte, Bool.and_true, Bool.true_and, Bool.and_false, Bool.false_and, Bool.not_true, Bool.not_false, decide_true, decide_false, decide_not, Bool.false_eq_true, d0, d1, rng_lenOk hn, Int.toNat_natCast, e1', e2]
  exact ⟨g2, rfl, ok2, li2, tr2⟩
end DI

/-! M5: poses are greatest stances. -/
namespace DI
open PySem
theorem compE_fmA {α : Type} {Γ : Gm} {k : Nat} {vs : List Nat} {tg : Tg} {cs : Ts} {e : E} (g : α → D) (f : α → Option D) {ρ : Ev} : ∀ {l : List α},
    (∀ x, x ∈ l → W ((bnd tg (g x) ρ).bind (evA Γ cs)) fun r => (r.1 = false ∧ f x = none ∧ wp r.2 vs = ρ) ∨ (r.1 = true ∧ W (ev Γ e r.2) fun r => (k = 0 ∨ r.1.2 = k) ∧ f x = some r.1.1 ∧ wp r.2 vs = ρ)) →
    compE Γ k vs tg cs e (l.map g) ρ = some (l.filterMap f, ρ)
  | [], _ => rfl
  | x :: xs, t => by
    have ih := compE_fmA (Γ := Γ) (k := k) (vs := vs) (tg := tg) (cs := cs) (e := e) g f (ρ := ρ) (l := xs) fun y hy => t y (by simp [hy])
    obtain ⟨⟨b, ρ1⟩, e1, h⟩ := t x (by simp)
    unfold compE at ih ⊢
    rw [List.map_cons]
    unfold compL
    cases hb : bnd tg (g x) ρ with
    | none => rw [hb] at e1; cases e1
    | some ρ3 =>
      rw [hb] at e1
      have e1 : evA Γ cs ρ3 = some (b, ρ1) := e1
      rcases h with ⟨rfl, hf, hw⟩ | ⟨rfl, ⟨⟨⟨d, k'⟩, ρ2⟩, e2, hk, hf, hw⟩⟩
      · have hw : wp ρ1 vs = ρ := hw
        simp only [Option.bind_some, e1, mb_some, Bool.false_eq_true, if_false, hw, ih, List.filterMap_cons_none hf]
      · have hw : wp ρ2 vs = ρ := hw
        have hk : k = 0 ∨ k' = k := hk
        have e2 : ev Γ e ρ1 = some ((d, k'), ρ2) := e2
        simp only [Option.bind_some, e1, mb_some, if_true, e2, hk, hw, ih, List.filterMap_cons_some hf]
theorem fm_some {α β : Type} (f : α → β) : ∀ l : List α, l.filterMap (fun x => some (f x)) = l.map f
  | [] => rfl
  | x :: l => by
    have := fm_some f l
    simp only [List.filterMap_cons, List.map_cons, this]
theorem compE_mapA {α : Type} {Γ : Gm} {k : Nat} {vs : List Nat} {tg : Tg} {e : E} (g f : α → D) {ρ : Ev} {l : List α} (h : ∀ x, x ∈ l → W ((bnd tg (g x) ρ).bind (ev Γ e)) fun r => (k = 0 ∨ r.1.2 = k) ∧ r.1.1 = f x ∧ wp r.2 vs = ρ) :
    compE Γ k vs tg .nil e (l.map g) ρ = some (l.map f, ρ) := by
  have := compE_fmA (Γ := Γ) (k := k) (vs := vs) (tg := tg) (cs := .nil) (e := e) g (fun x => some (f x)) (ρ := ρ) (l := l) fun x hx => by
    obtain ⟨⟨⟨d, k'⟩, ρ2⟩, e2, hk, hf, hw⟩ := h x hx
    cases hb : bnd tg (g x) ρ with
    | none => rw [hb] at e2; cases e2
    | some ρ3 =>
      rw [hb] at e2
      exact ⟨(true, ρ3), rfl, Or.inr ⟨rfl, ((d, k'), ρ2), e2, hk, by rw [← hf], hw⟩⟩
  rw [this, fm_some]
theorem zipD_map {α β : Type} (g : α → D) (h : β → D) : ∀ (l : List α) (m : List β), zipD (l.map g) (m.map h) = (l.zip m).map fun p => .tuple [g p.1, h p.2]
  | [], _ => rfl
  | _ :: _, [] => rfl
  | a :: l, b :: m => by
    show PyData.tuple [g a, h b] :: zipD (l.map g) (m.map h) = _
    rw [zipD_map g h l m]; rfl
/-! ### stances -/
structure IsSt (F : Fig) (s : List Int) (v : Nat → Int) : Prop where
  b : ∀ j, j < F.n → 0 ≤ v j ∧ v j ≤ F.floor
  l : ∀ l ∈ F.limbs, v l.1 - v l.2.1 ≤ l.2.2 ∧ v l.2.1 - v l.1 ≤ l.2.2
  t : ∀ p ∈ F.ties.zip s, v p.1 ≤ p.2
structure IsPose (F : Fig) (s : List Int) (p : Nat → Int) : Prop where
  st : IsSt F s p
  g : ∀ v, IsSt F s v → ∀ j, j < F.n → v j ≤ p j
def depD (n : Nat) (p : Nat → Int) : D := .tuple (rowD n fun j => .int (p j))
theorem IsPose.uniq {F : Fig} {s : List Int} {p q : Nat → Int} (h : IsPose F s p) (h2 : IsPose F s q) : depD F.n p = depD F.n q := by
  unfold depD
  congr 1
  exact rowD_congr fun j hj => by congr 1; exact Int.le_antisymm (h2.g p h.st j hj) (h.g q h2.st j hj)
theorem fold_mn : ∀ (ns : List Int) (n : Int), (ns.foldl (fun a b => if b < a then b else a) n) ∈ n :: ns ∧ ∀ y ∈ n :: ns, ns.foldl (fun a b => if b < a then b else a) n ≤ y
  | [], n => by simp
  | m :: r, n => by
    obtain ⟨h1, h2⟩ := fold_mn r (if m < n then m else n)
    have h0 := h2 _ (List.mem_cons_self)
    rw [List.foldl_cons]
    refine ⟨?_, fun y hy => ?_⟩
    · rcases List.mem_cons.mp h1 with e | e
      · rw [e]; split
        · simp
        · simp
      · simp [e]
    · rcases List.mem_cons.mp hy with e | e
      · subst e; split at h0 <;> split <;> omega
      · rcases List.mem_cons.mp e with e | e
        · subst e; split at h0 <;> split <;> omega
        · exact h2 y (by simp [e])
theorem intsOf_of : ∀ ns : List Int, intsOf (ns.map PyData.int) = some ns
  | [] => rfl
  | n :: r => by
    rw [List.map_cons]
    show (intsOf (r.map PyData.int)).map (n :: ·) = _
    rw [intsOf_of r]; rfl
theorem min_of (ns : List Int) (h : ns ≠ []) : ∃ m, b1D .min (.list (ns.map PyData.int)) = some (.int m) ∧ m ∈ ns ∧ ∀ y ∈ ns, m ≤ y := by
  cases ns with
  | nil => exact absurd rfl h
  | cons n r =>
    obtain ⟨h1, h2⟩ := fold_mn r n
    refine ⟨_, ?_, h1, h2⟩
    show (match intsOf ((n :: r).map PyData.int) with | some (n :: ns) => some (PyData.int (ns.foldl (fun a b => if b < a then b else a) n)) | _ => none) = _
    rw [intsOf_of]
/-- what pose_by gives, by a table -/
structure PoseT (F : Fig) (s : List Int) (f : Tbl) (j : Nat) (x : Int) : Prop where
  le : x ≤ F.floor
  lt : ∀ p ∈ F.ties.zip s, ∀ d, f p.1 j = some d → x ≤ p.2 + d
  of : x = F.floor ∨ ∃ p ∈ F.ties.zip s, ∃ d, f p.1 j = some d ∧ x = p.2 + d
theorem zip_in {F : Fig} {s : List Int} (ok : FigOk F) (so : SetOk F s) : ∀ p ∈ F.ties.zip s, p.1 < F.n ∧ 0 ≤ p.2 ∧ p.2 ≤ F.floor := fun p hp => by
  obtain ⟨h1, h2⟩ := List.of_mem_zip (a := p.1) (b := p.2) hp
  exact ⟨ok.to _ h1, so.b _ h2⟩
theorem poseT_pose {F : Fig} {s : List Int} {f : Tbl} {p : Nat → Int} (ok : FigOk F) (so : SetOk F s) (tb : TabOk F.n F.limbs f) (li : LimbsIn F.limbs f) (tr : ∀ m, m < F.n → Tri F.n f m) (h : ∀ j, j < F.n → PoseT F s f j (p j)) : IsPose F s p := by
  have side : ∀ a b l : Nat, a < F.n → b < F.n → ∀ e, f b a = some e → e ≤ l → p a - p b ≤ l := fun a b l ha hb e he hl => by
    rcases (h b hb).of with z | ⟨q, hq, d, hd, z⟩
    · have := (h a ha).le; have := tb.nn _ _ _ he; omega
    · obtain ⟨d', h1, h2⟩ := tr b hb q.1 a d e (zip_in ok so q hq).1 ha hd he
      have := (h a ha).lt q hq d' h1
      omega
  refine ⟨⟨fun j hj => ⟨?_, (h j hj).le⟩, fun l hl => ?_, fun q hq => ?_⟩, fun v hv j hj => ?_⟩
  · rcases (h j hj).of with z | ⟨q, hq, d, hd, z⟩
    · have := ok.f1; omega
    · have := (zip_in ok so q hq).2.1; have := tb.nn _ _ _ hd; omega
  · obtain ⟨q1, q2, q3, q4⟩ := ok.lo l hl
    obtain ⟨⟨d, h1, h2⟩, e, h3, h4⟩ := li l hl
    have hl0 : ((l.2.2.toNat : Nat) : Int) = l.2.2 := Int.toNat_of_nonneg (by omega)
    have s1 := side l.1 l.2.1 l.2.2.toNat (by omega) q2 e h3 (by omega)
    have s2 := side l.2.1 l.1 l.2.2.toNat q2 (by omega) d h1 (by omega)
    omega
  · have hn := (zip_in ok so q hq).1
    have := (h q.1 hn).lt q hq 0 (tb.diag _ hn)
    omega
  · rcases (h j hj).of with z | ⟨q, hq, d, hd, z⟩
    · have := (hv.b j hj).2; omega
    · have h1 := hv.t q hq
      have h2 := tb.so (fun i => - v i) (fun l hl => by have := hv.l l hl; show -v l.1 - -v l.2.1 ≤ l.2.2 ∧ -v l.2.1 - -v l.1 ≤ l.2.2; omega) _ _ _ hd
      have h2 : -v q.1 - -v j ≤ d := h2
      omega
def PoseByOk (S : Fn) : Prop := ∀ F s f, FigOk F → SetOk F s → ∃ p, S [figD F, intsD s, tabD F.n f] = some ⟨depD F.n p, 0, .none⟩ ∧ ∀ j, j < F.n → PoseT F s f j (p j)
def poseB : Ss := (.cons (.set false 5 (.comp 0 [6, 7] (.tup [(.nm 6), (.nm 7)]) (.zip (.ix (.nm 0) (.int 2)) (.nm 1)) (.cons (.cm .isN (.ix (.ix (.nm 2) (.nm 6)) (.nm 4)) .non) .nil) (.op .add (.nm 7) (.ix (.ix (.nm 2) (.nm 6)) (.nm 4))))) (.cons (.app 3 (.b1 .min (.op .add (.nm 5) (.lst (.cons (.ix (.nm 0) (.int 3)) .nil))))) .nil))
theorem poseBy_ok {Γ : Gm} : PoseByOk (run Γ false 3 8 C.b_pose_by) := by
  intro F s f ok so
  have hz := zip_in ok so
  obtain ⟨n, limbs, ties, floor⟩ := F
  have hn8 : n ≤ 8 := ok.n8
  have ht6 : ties.length ≤ 6 := ok.t6
  simp only at hz
  rw [run3]
  unfold C.b_pose_by
  simp only [ent, List.map_cons, List.map_nil, List.cons_append, List.nil_append, List.length_cons, List.length_nil, List.replicate_succ, List.replicate_zero, Nat.reduceAdd, Nat.reduceSub, if_true, if_false, ↓reduceIte, Bool.false_eq_true]
  have d0 : ixD (figD ⟨n, limbs, ties, floor⟩) (.int 0) = some (.int n) := ix_T _ _ |>.trans (atI0 _ _)
  have d2 : ixD (figD ⟨n, limbs, ties, floor⟩) (.int 2) = some (.tuple (ties.map natD)) := ix_T _ _ |>.trans (atI2 _ _ _ _)
  have d3 : ixD (figD ⟨n, limbs, ties, floor⟩) (.int 3) = some (.int floor) := ix_T _ _ |>.trans (atI3 _ _ _ _ _)
  generalize figD ⟨n, limbs, ties, floor⟩ = d at d0 d2 d3 ⊢
  have loop : ∃ ρ', forE Γ [4, 5] (.nm 4) poseB (rngD n 0) [.sl 0 d, .sl 0 (intsD s), .sl 0 (tabD n f), .sl 1 (.list []), .un, .un, .un, .un] = some (.nx ρ') ∧
      ∃ p : Nat → Int, ρ' = [.sl 0 d, .sl 0 (intsD s), .sl 0 (tabD n f), .sl 1 (.list (rowD n fun j => .int (p j))), .un, .un, .un, .un] ∧ ∀ j, j < n → PoseT ⟨n, limbs, ties, floor⟩ s f j (p j) := by
    refine forE_rng (fun i ρ => ∃ p : Nat → Int, ρ = [.sl 0 d, .sl 0 (intsD s), .sl 0 (tabD n f), .sl 1 (.list (rowD i fun j => .int (p j))), .un, .un, .un, .un] ∧ ∀ j, j < i → PoseT ⟨n, limbs, ties, floor⟩ s f j (p j)) (fun i ρ hi e => ?_) ⟨fun _ => 0, rfl, fun j hj => absurd hj (by omega)⟩
    obtain ⟨p, rfl, hp⟩ := e
    rw [Int.zero_add]
    let g : Nat × Int → Option D := fun q => (f q.1 i).map fun x => PyData.int (q.2 + x)
    have cp : compE Γ 0 [6, 7] (.tup [.nm 6, .nm 7]) (.cons (.cm .isN (.ix (.ix (.nm 2) (.nm 6)) (.nm 4)) .non) .nil) (.op .add (.nm 7) (.ix (.ix (.nm 2) (.nm 6)) (.nm 4))) ((ties.zip s).map fun q => PyData.tuple [natD q.1, PyData.int q.2])
        [.sl 0 d, .sl 0 (.tuple (s.map .int)), .sl 0 (tabD n f), .sl 1 (.list (rowD i fun j => .int (p j))), .sl 0 (.int i), .un, .un, .un] = some ((ties.zip s).filterMap g, [.sl 0 d, .sl 0 (.tuple (s.map .int)), .sl 0 (tabD n f), .sl 1 (.list (rowD i fun j => .int (p j))), .sl 0 (.int i), .un, .un, .un]) := by
      refine compE_fmA _ g fun q hq => ?_
      have hq1 := (hz q hq).1
      unfold natD
      simp (config := { decide := false, maxSteps := 1000000 }) only [exs_nil, exs_cons, nxt_nx, nxt_rt, nxt_bk, nxt_ct, ex_for, ex_while, ev_comp, ev_nm, ev_int, ev_bl, ev_non, ev_str, ev_glb, ev_op, ev_neg, ev_tst, ev_ife, ev_tup, ev_lst, ev_ix, ev_bix, ev_bix2, ev_slc, ev_call, ev_cio, ev_b1, ev_dnew, ev_blen, ev_b2, ev_isi, evs_nil, evs_cons, evo_no, evo_yes, evT_ex, evT_cm, evT_chn, evT_not, evT_and, evT_or, evA_nil, evA_cons, evR_nil, evR_cons, evI_ex, evI_rng1, evI_rng2, evI_enm, evI_zip, ex_set, ex_tset, ex_par, ex_par3, ex_aug, ex_ixset, ex_pst, ex_ixset2, ex_ixset22, ex_app, ex_expr, ex_ret, ex_retN, ex_ite, ex_brk, ex_cont, ex_pass, ex_never, mb_some, mb_none, gt_zero, gt_succ, st_zero, st_succ, wp, bk, rdN, ow1, ow01, ow2, setable, setS, set1, set2, up1, bnd, bnds, isiD, outF, ioOf, atI0, atI1, atI2, atI3, ixN0, ixN1, len0, len1, len2, len3, len4, len5, len6, len7, len8, len9, List.length_cons, List.length_nil, List.length_map, List.length_append, Nat.zero_add, Nat.reduceAdd, set0, set1', opD_add, opD_sub, opD_mul, opD_fdiv, opD_mod, opD_pow, opD_addT, opD_addL, opD_mulL, opD_mulT, lvD_int, lvD_bool, lvD_str, lvD_tuple, lvD_dict, lvD_none, lvD_list, b1_lenL, b1_lenT, b1_lenD, b1_lenK, b1_abs, b1_int, b1_tupL, b1_tupT, b1_lstL, b1_lstT, b1_lstS, b1_all, b1_any, b1_str, b1_srtL, b1_srtD, b2_min, b2_max, cm_eq, cm_ne, cm_lt, cm_le, cm_gt, cm_ge, cm_ltT, cm_is_int, cm_isN_int, cm_is_tuple, cm_isN_tuple, cm_is_list, cm_isN_list, cm_is_bool, cm_isN_bool, cm_is_str, cm_isN_str, cm_is_none, cm_isN_none, cm_isb, cm_isNb, ix_L, ix_T, sl_L, sl_T, st_L, Option.bind_some, Option.map_some, Option.bind_none, Option.map_none, if_true, if_false, ↓reduceIte, Bool.and_true, Bool.true_and, Bool.and_false, Bool.false_and, Bool.not_true, Bool.not_false, decide_true, decide_false, decide_not, Bool.false_eq_true, ix_tab hq1, ix_rowL hi]
      cases hf : f q.1 i with
      | none =>
        simp (config := { decide := false, maxSteps := 1000000 }) only [exs_nil, exs_cons, nxt_nx, nxt_rt, nxt_bk, nxt_ct, ex_for, ex_while, ev_comp, ev_nm, ev_int, ev_bl, ev_non, ev_str, ev_glb, ev_op, ev_neg, ev_tst, ev_ife, ev_tup, ev_lst, ev_ix, ev_bix, ev_bix2, ev_slc, ev_call, ev_cio, ev_b1, ev_dnew, ev_blen, ev_b2, ev_isi, evs_nil, evs_cons, evo_no, evo_yes, evT_ex, evT_cm, evT_chn, evT_not, evT_and, evT_or, evA_nil, evA_cons, evR_nil, evR_cons, evI_ex, evI_rng1, evI_rng2, evI_enm, evI_zip, ex_set, ex_tset, ex_par, ex_par3, ex_aug, ex_ixset, ex_pst, ex_ixset2, ex_ixset22, ex_app, ex_expr, ex_ret, ex_retN, ex_ite, ex_brk, ex_cont, ex_pass, ex_never, mb_some, mb_none, gt_zero, gt_succ, st_zero, st_succ, wp, bk, rdN, ow1, ow01, ow2, setable, setS, set1, set2, up1, bnd, bnds, isiD, outF, ioOf, atI0, atI1, atI2, atI3, ixN0, ixN1, len0, len1, len2, len3, len4, len5, len6, len7, len8, len9, List.length_cons, List.length_nil, List.length_map, List.length_append, Nat.zero_add, Nat.reduceAdd, set0, set1', opD_add, opD_sub, opD_mul, opD_fdiv, opD_mod, opD_pow, opD_addT, opD_addL, opD_mulL, opD_mulT, lvD_int, lvD_bool, lvD_str, lvD_tuple, lvD_dict, lvD_none, lvD_list, b1_lenL, b1_lenT, b1_lenD, b1_lenK, b1_abs, b1_int, b1_tupL, b1_tupT, b1_lstL, b1_lstT, b1_lstS, b1_all, b1_any, b1_str, b1_srtL, b1_srtD, b2_min, b2_max, cm_eq, cm_ne, cm_lt, cm_le, cm_gt, cm_ge, cm_ltT, cm_is_int, cm_isN_int, cm_is_tuple, cm_isN_tuple, cm_is_list, cm_isN_list, cm_is_bool, cm_isN_bool, cm_is_str, cm_isN_str, cm_is_none, cm_isN_none, cm_isb, cm_isNb, ix_L, ix_T, sl_L, sl_T, st_L, Option.bind_some, Option.map_some, Option.bind_none, Option.map_none, if_true, if_false, ↓reduceIte, Bool.and_true, Bool.true_and, Bool.and_false, Bool.false_and, Bool.not_true, Bool.not_false, decide_true, decide_false, decide_not, Bool.false_eq_true, optD]
        refine W_some.mpr (.inl ⟨rfl, ?_, rfl⟩)
        show (f q.1 i).map _ = none
        rw [hf]; rfl
      | some x =>
        simp (config := { decide := false, maxSteps := 1000000 }) only [exs_nil, exs_cons, nxt_nx, nxt_rt, nxt_bk, nxt_ct, ex_for, ex_while, ev_comp, ev_nm, ev_int, ev_bl, ev_non, ev_str, ev_glb, ev_op, ev_neg, ev_tst, ev_ife, ev_tup, ev_lst, ev_ix, ev_bix, ev_bix2, ev_slc, ev_call, ev_cio, ev_b1, ev_dnew, ev_blen, ev_b2, ev_isi, evs_nil, evs_cons, evo_no, evo_yes, evT_ex, evT_cm, evT_chn, evT_not, evT_and, evT_or, evA_nil, evA_cons, evR_nil, evR_cons, evI_ex, evI_rng1, evI_rng2, evI_enm, evI_zip, ex_set, ex_tset, ex_par, ex_par3, ex_aug, ex_ixset, ex_pst, ex_ixset2, ex_ixset22, ex_app, ex_expr, ex_ret, ex_retN, ex_ite, ex_brk, ex_cont, ex_pass, ex_never, mb_some, mb_none, gt_zero, gt_succ, st_zero, st_succ, wp, bk, rdN, ow1, ow01, ow2, setable, setS, set1, set2, up1, bnd, bnds, isiD, outF, ioOf, atI0, atI1, atI2, atI3, ixN0, ixN1, len0, len1, len2, len3, len4, len5, len6, len7, len8, len9, List.length_cons, List.length_nil, List.length_map, List.length_append, Nat.zero_add, Nat.reduceAdd, set0, set1', opD_add, opD_sub, opD_mul, opD_fdiv, opD_mod, opD_pow, opD_addT, opD_addL, opD_mulL, opD_mulT, lvD_int, lvD_bool, lvD_str, lvD_tuple, lvD_dict, lvD_none, lvD_list, b1_lenL, b1_lenT, b1_lenD, b1_lenK, b1_abs, b1_int, b1_tupL, b1_tupT, b1_lstL, b1_lstT, b1_lstS, b1_all, b1_any, b1_str, b1_srtL, b1_srtD, b2_min, b2_max, cm_eq, cm_ne, cm_lt, cm_le, cm_gt, cm_ge, cm_ltT, cm_is_int, cm_isN_int, cm_is_tuple, cm_isN_tuple, cm_is_list, cm_isN_list, cm_is_bool, cm_isN_bool, cm_is_str, cm_isN_str, cm_is_none, cm_isN_none, cm_isb, cm_isNb, ix_L, ix_T, sl_L, sl_T, st_L, Option.bind_some, Option.map_some, Option.bind_none, Option.map_none, if_true, if_false, ↓reduceIte, Bool.and_true, Bool.true_and, Bool.and_false, Bool.false_and, Bool.not_true, Bool.not_false, decide_true, decide_false, decide_not, Bool.false_eq_true, optD]
        refine W_some.mpr (.inr ⟨rfl, ?_⟩)
        simp (config := { decide := false, maxSteps := 1000000 }) only [exs_nil, exs_cons, nxt_nx, nxt_rt, nxt_bk, nxt_ct, ex_for, ex_while, ev_comp, ev_nm, ev_int, ev_bl, ev_non, ev_str, ev_glb, ev_op, ev_neg, ev_tst, ev_ife, ev_tup, ev_lst, ev_ix, ev_bix, ev_bix2, ev_slc, ev_call, ev_cio, ev_b1, ev_dnew, ev_blen, ev_b2, ev_isi, evs_nil, evs_cons, evo_no, evo_yes, evT_ex, evT_cm, evT_chn, evT_not, evT_and, evT_or, evA_nil, evA_cons, evR_nil, evR_cons, evI_ex, evI_rng1, evI_rng2, evI_enm, evI_zip, ex_set, ex_tset, ex_par, ex_par3, ex_aug, ex_ixset, ex_pst, ex_ixset2, ex_ixset22, ex_app, ex_expr, ex_ret, ex_retN, ex_ite, ex_brk, ex_cont, ex_pass, ex_never, mb_some, mb_none, gt_zero, gt_succ, st_zero, st_succ, wp, bk, rdN, ow1, ow01, ow2, setable, setS, set1, set2, up1, bnd, bnds, isiD, outF, ioOf, atI0, atI1, atI2, atI3, ixN0, ixN1, len0, len1, len2, len3, len4, len5, len6, len7, len8, len9, List.length_cons, List.length_nil, List.length_map, List.length_append, Nat.zero_add, Nat.reduceAdd, set0, set1', opD_add, opD_sub, opD_mul, opD_fdiv, opD_mod, opD_pow, opD_addT, opD_addL, opD_mulL, opD_mulT, lvD_int, lvD_bool, lvD_str, lvD_tuple, lvD_dict, lvD_none, lvD_list, b1_lenL, b1_lenT, b1_lenD, b1_lenK, b1_abs, b1_int, b1_tupL, b1_tupT, b1_lstL, b1_lstT, b1_lstS, b1_all, b1_any, b1_str, b1_srtL, b1_srtD, b2_min, b2_max, cm_eq, cm_ne, cm_lt, cm_le, cm_gt, cm_ge, cm_ltT, cm_is_int, cm_isN_int, cm_is_tuple, cm_isN_tuple, cm_is_list, cm_isN_list, cm_is_bool, cm_isN_bool, cm_is_str, cm_isN_str, cm_is_none, cm_isN_none, cm_isb, cm_isNb, ix_L, ix_T, sl_L, sl_T, st_L, Option.bind_some, Option.map_some, Option.bind_none, Option.map_none, if_true, if_false, ↓reduceIte, Bool.and_true, Bool.true_and, Bool.and_false, Bool.false_and, Bool.not_true, Bool.not_false, decide_true, decide_false, decide_not, Bool.false_eq_true, ix_tab hq1, ix_rowL hi, hf, optD]
        refine W_some.mpr ⟨.inl trivial, ?_, rfl⟩
        show (f q.1 i).map _ = _
        rw [hf]; rfl
    obtain ⟨ns, hns, hmem⟩ : ∃ ns : List Int, (ties.zip s).filterMap g = ns.map PyData.int ∧ ∀ y, y ∈ ns ↔ ∃ q ∈ ties.zip s, ∃ x, f q.1 i = some x ∧ y = q.2 + x := by
      refine ⟨(ties.zip s).filterMap fun q => (f q.1 i).map fun x => q.2 + x, ?_, fun y => ?_⟩
      · rw [List.map_filterMap]
        congr 1
        funext q
        show (f q.1 i).map _ = Option.map _ ((f q.1 i).map _)
        rw [Option.map_map]; rfl
      · rw [List.mem_filterMap]
        constructor
        · rintro ⟨q, hq, e⟩
          obtain ⟨x, hx, rfl⟩ := Option.map_eq_some_iff.mp e
          exact ⟨q, hq, x, hx, rfl⟩
        · rintro ⟨q, hq, x, hx, rfl⟩
          exact ⟨q, hq, by rw [hx]; rfl⟩
    have hlen : ns.length ≤ 6 := by
      have e := congrArg List.length hns
      rw [List.length_map] at e
      have h1 := List.length_filterMap_le g (ties.zip s)
      rw [List.length_zip] at h1
      omega
    obtain ⟨m, em, m1, m2⟩ := min_of (ns ++ [floor]) (by simp)
    rw [List.map_append] at em
    have em : b1D .min (.list (ns.map PyData.int ++ [PyData.int floor])) = some (.int m) := em
    have hl : lenOk (ns.length + 1) = true := len_ok (by omega)
    have ha : appD (.int m) (.list (rowD i fun j => .int (p j))) = some (.list (rowD (i + 1) fun j => .int (updF p i m j))) := by
      show (if decide ((rowD i fun j => PyData.int (p j)).length < sizeLine) = true then some (PyData.list ((rowD i fun j => PyData.int (p j)) ++ [PyData.int m])) else none) = _
      rw [rowD_len, decide_eq_true (by rw [sizeLine_eq]; omega), if_pos rfl]
      congr 2
      unfold rowD
      rw [List.range_succ, List.map_append]
      congr 1
      · refine List.map_congr_left fun j hj => ?_
        have := List.mem_range.mp hj
        unfold updF; rw [if_neg (by omega)]
      · show [PyData.int m] = [PyData.int (updF p i m i)]
        unfold updF; rw [if_pos rfl]
    unfold poseB intsD
    simp (config := { decide := false, maxSteps := 1000000 }) only [exs_nil, exs_cons, nxt_nx, nxt_rt, nxt_bk, nxt_ct, ex_for, ex_while, ev_comp, ev_nm, ev_int, ev_bl, ev_non, ev_str, ev_glb, ev_op, ev_neg, ev_tst, ev_ife, ev_tup, ev_lst, ev_ix, ev_bix, ev_bix2, ev_slc, ev_call, ev_cio, ev_b1, ev_dnew, ev_blen, ev_b2, ev_isi, evs_nil, evs_cons, evo_no, evo_yes, evT_ex, evT_cm, evT_chn, evT_not, evT_and, evT_or, evA_nil, evA_cons, evR_nil, evR_cons, evI_ex, evI_rng1, evI_rng2, evI_enm, evI_zip, ex_set, ex_tset, ex_par, ex_par3, ex_aug, ex_ixset, ex_pst, ex_ixset2, ex_ixset22, ex_app, ex_expr, ex_ret, ex_retN, ex_ite, ex_brk, ex_cont, ex_pass, ex_never, mb_some, mb_none, gt_zero, gt_succ, st_zero, st_succ, wp, bk, rdN, ow1, ow01, ow2, setable, setS, set1, set2, up1, bnd, bnds, isiD, outF, ioOf, atI0, atI1, atI2, atI3, ixN0, ixN1, len0, len1, len2, len3, len4, len5, len6, len7, len8, len9, List.length_cons, List.length_nil, List.length_map, List.length_append, Nat.zero_add, Nat.reduceAdd, set0, set1', opD_add, opD_sub, opD_mul, opD_fdiv, opD_mod, opD_pow, opD_addT, opD_addL, opD_mulL, opD_mulT, lvD_int, lvD_bool, lvD_str, lvD_tuple, lvD_dict, lvD_none, lvD_list, b1_lenL, b1_lenT, b1_lenD, b1_lenK, b1_abs, b1_int, b1_tupL, b1_tupT, b1_lstL, b1_lstT, b1_lstS, b1_all, b1_any, b1_str, b1_srtL, b1_srtD, b2_min, b2_max, cm_eq, cm_ne, cm_lt, cm_le, cm_gt, cm_ge, cm_ltT, cm_is_int, cm_isN_int, cm_is_tuple, cm_isN_tuple, cm_is_list, cm_isN_list, cm_is_bool, cm_isN_bool, cm_is_str, cm_isN_str, cm_is_none, cm_isN_none, cm_isb, cm_isNb, ix_L, ix_T, sl_L, sl_T, st_L, Option.bind_some, Option.map_some, Option.bind_none, Option.map_none, if_true, if_false, ↓reduceIte, Bool.and_true, Bool.true_and, Bool.and_false, Bool.false_and, Bool.not_true, Bool.not_false, decide_true, decide_false, decide_not, Bool.false_eq_true, d2, d3, zipD_map, cp, hns, hl, em, isL, ha]
    refine W_some.mpr ?_
    refine ⟨_, rfl, updF p i m, rfl, fun j hj => ?_⟩
    by_cases c : j = i
    · subst c
      unfold updF
      rw [if_pos rfl]
      refine ⟨m2 floor (by simp), fun q hq x hx => m2 _ (List.mem_append_left _ ((hmem _).mpr ⟨q, hq, x, hx, rfl⟩)), ?_⟩
      rcases List.mem_append.mp m1 with h | h
      · obtain ⟨q, hq, x, hx, e⟩ := (hmem m).mp h
        exact .inr ⟨q, hq, x, hx, e⟩
      · exact .inl (by simpa using h)
    · unfold updF
      rw [if_neg c]
      exact hp j (by omega)
  obtain ⟨ρ', e, p, rfl, hp⟩ := loop
  unfold poseB at e
  simp (config := { decide := false, maxSteps := 1000000 }) only [exs_nil, exs_cons, nxt_nx, nxt_rt, nxt_bk, nxt_ct, ex_for, ex_while, ev_comp, ev_nm, ev_int, ev_bl, ev_non, ev_str, ev_glb, ev_op, ev_neg, ev_tst, ev_ife, ev_tup, ev_lst, ev_ix, ev_bix, ev_bix2, ev_slc, ev_call, ev_cio, ev_b1, ev_dnew, ev_blen, ev_b2, ev_isi, evs_nil, evs_cons, evo_no, evo_yes, evT_ex, evT_cm, evT_chn, evT_not, evT_and, evT_or, evA_nil, evA_cons, evR_nil, evR_cons, evI_ex, evI_rng1, evI_rng2, evI_enm, evI_zip, ex_set, ex_tset, ex_par, ex_par3, ex_aug, ex_ixset, ex_pst, ex_ixset2, ex_ixset22, ex_app, ex_expr, ex_ret, ex_retN, ex_ite, ex_brk, ex_cont, ex_pass, ex_never, mb_some, mb_none, gt_zero, gt_succ, st_zero, st_succ, wp, bk, rdN, ow1, ow01, ow2, setable, setS, set1, set2, up1, bnd, bnds, isiD, outF, ioOf, atI0, atI1, atI2, atI3, ixN0, ixN1, len0, len1, len2, len3, len4, len5, len6, len7, len8, len9, List.length_cons, List.length_nil, List.length_map, List.length_append, Nat.zero_add, Nat.reduceAdd, set0, set1', opD_add, opD_sub, opD_mul, opD_fdiv, opD_mod, opD_pow, opD_addT, opD_addL, opD_mulL, opD_mulT, lvD_int, lvD_bool, lvD_str, lvD_tuple, lvD_dict, lvD_none, lvD_list, b1_lenL, b1_lenT, b1_lenD, b1_lenK, b1_abs, b1_int, b1_tupL, b1_tupT, b1_lstL, b1_lstT, b1_lstS, b1_all, b1_any, b1_str, b1_srtL, b1_srtD, b2_min, b2_max, cm_eq, cm_ne, cm_lt, cm_le, cm_gt, cm_ge, cm_ltT, cm_is_int, cm_isN_int, cm_is_tuple, cm_isN_tuple, cm_is_list, cm_isN_list, cm_is_bool, cm_isN_bool, cm_is_str, cm_isN_str, cm_is_none, cm_isN_none, cm_isb, cm_isNb, ix_L, ix_T, sl_L, sl_T, st_L, Option.bind_some, Option.map_some, Option.bind_none, Option.map_none, if_true, if_false, ↓reduceIte, Bool.and_true, Bool.true_and, Bool.and_false, Bool.false_and, Bool.not_true, Bool.not_false, decide_true, decide_false, decide_not, Bool.false_eq_true, d0, rng_lenOk (n := n) (by omega), Int.toNat_natCast, e]
  exact ⟨p, rfl, hp⟩
end DI

/-! M6: pose, is_stance. -/
namespace DI
open PySem
def PoseOk (S : Fn) : Prop := ∀ F s, FigOk F → SetOk F s → ∃ p, S [figD F, intsD s] = some ⟨depD F.n p, 0, .none⟩ ∧ IsPose F s p
def NeedOk (S : Fn) : Prop := ∀ F s, FigOk F → SetOk F s → S [figD F, intsD s] = some ⟨.none, 0, .none⟩
theorem poseIn_ok {Γ : Gm} (h0 : PoseByOk (Γ 0)) (h1 : TableOk (Γ 1)) : PoseOk (run Γ false 2 2 C.b_pose_in) := by
  intro F s ok so
  obtain ⟨f, e1, t1, t2, t3⟩ := h1 F ok
  obtain ⟨p, e2, t4⟩ := h0 F s f ok so
  refine ⟨p, ?_, poseT_pose ok so t1 t2 t3 t4⟩
  rw [run2]
  unfold C.b_pose_in
  simp only [ent, List.map_cons, List.map_nil, List.cons_append, List.nil_append, List.length_cons, List.length_nil, List.replicate_succ, List.replicate_zero, Nat.reduceAdd, Nat.reduceSub, if_true, if_false, ↓reduceIte, Bool.false_eq_true]
  generalize figD F = d at e1 e2 ⊢
  generalize intsD s = d' at e2 ⊢
  simp (config := { decide := false, maxSteps := 1000000 }) only [exs_nil, exs_cons, nxt_nx, nxt_rt, nxt_bk, nxt_ct, ex_for, ex_while, ev_comp, ev_nm, ev_int, ev_bl, ev_non, ev_str, ev_glb, ev_op, ev_neg, ev_tst, ev_ife, ev_tup, ev_lst, ev_ix, ev_bix, ev_bix2, ev_slc, ev_call, ev_cio, ev_b1, ev_dnew, ev_blen, ev_b2, ev_isi, evs_nil, evs_cons, evo_no, evo_yes, evT_ex, evT_cm, evT_chn, evT_not, evT_and, evT_or, evA_nil, evA_cons, evR_nil, evR_cons, evI_ex, evI_rng1, evI_rng2, evI_enm, evI_zip, ex_set, ex_tset, ex_par, ex_par3, ex_aug, ex_ixset, ex_pst, ex_ixset2, ex_ixset22, ex_app, ex_expr, ex_ret, ex_retN, ex_ite, ex_brk, ex_cont, ex_pass, ex_never, mb_some, mb_none, gt_zero, gt_succ, st_zero, st_succ, wp, bk, rdN, ow1, ow01, ow2, setable, setS, set1, set2, up1, bnd, bnds, isiD, outF, ioOf, atI0, atI1, atI2, atI3, ixN0, ixN1, len0, len1, len2, len3, len4, len5, len6, len7, len8, len9, List.length_cons, List.length_nil, List.length_map, List.length_append, Nat.zero_add, Nat.reduceAdd, set0, set1', opD_add, opD_sub, opD_mul, opD_fdiv, opD_mod, opD_pow, opD_addT, opD_addL, opD_mulL, opD_mulT, lvD_int, lvD_bool, lvD_str, lvD_tuple, lvD_dict, lvD_none, lvD_list, b1_lenL, b1_lenT, b1_lenD, b1_lenK, b1_abs, b1_int, b1_tupL, b1_tupT, b1_lstL, b1_lstT, b1_lstS, b1_all, b1_any, b1_str, b1_srtL, b1_srtD, b2_min, b2_max, cm_eq, cm_ne, cm_lt, cm_le, cm_gt, cm_ge, cm_ltT, cm_is_int, cm_isN_int, cm_is_tuple, cm_isN_tuple, cm_is_list, cm_isN_list, cm_is_bool, cm_isN_bool, cm_is_str, cm_isN_str, cm_is_none, cm_isN_none, cm_isb, cm_isNb, ix_L, ix_T, sl_L, sl_T, st_L, Option.bind_some, Option.map_some, Option.bind_none, Option.map_none, if_true, if_false, ↓reduceIte, Bool.and_true, Bool.true_and, Bool.and_false, Bool.false_and, Bool.not_true, Bool.not_false, decide_true, decide_false, decide_not, Bool.false_eq_true, e1, e2]
theorem pose_ok {Γ : Gm} (h0 : NeedOk (Γ 0)) (h1 : PoseOk (Γ 1)) : PoseOk (run Γ false 2 2 C.b_pose) := by
  intro F s ok so
  have e1 := h0 F s ok so
  obtain ⟨p, e2, t⟩ := h1 F s ok so
  refine ⟨p, ?_, t⟩
  rw [run2]
  unfold C.b_pose
  simp only [ent, List.map_cons, List.map_nil, List.cons_append, List.nil_append, List.length_cons, List.length_nil, List.replicate_succ, List.replicate_zero, Nat.reduceAdd, Nat.reduceSub, if_true, if_false, ↓reduceIte, Bool.false_eq_true]
  generalize figD F = d at e1 e2 ⊢
  generalize intsD s = d' at e1 e2 ⊢
  simp (config := { decide := false, maxSteps := 1000000 }) only [exs_nil, exs_cons, nxt_nx, nxt_rt, nxt_bk, nxt_ct, ex_for, ex_while, ev_comp, ev_nm, ev_int, ev_bl, ev_non, ev_str, ev_glb, ev_op, ev_neg, ev_tst, ev_ife, ev_tup, ev_lst, ev_ix, ev_bix, ev_bix2, ev_slc, ev_call, ev_cio, ev_b1, ev_dnew, ev_blen, ev_b2, ev_isi, evs_nil, evs_cons, evo_no, evo_yes, evT_ex, evT_cm, evT_chn, evT_not, evT_and, evT_or, evA_nil, evA_cons, evR_nil, evR_cons, evI_ex, evI_rng1, evI_rng2, evI_enm, evI_zip, ex_set, ex_tset, ex_par, ex_par3, ex_aug, ex_ixset, ex_pst, ex_ixset2, ex_ixset22, ex_app, ex_expr, ex_ret, ex_retN, ex_ite, ex_brk, ex_cont, ex_pass, ex_never, mb_some, mb_none, gt_zero, gt_succ, st_zero, st_succ, wp, bk, rdN, ow1, ow01, ow2, setable, setS, set1, set2, up1, bnd, bnds, isiD, outF, ioOf, atI0, atI1, atI2, atI3, ixN0, ixN1, len0, len1, len2, len3, len4, len5, len6, len7, len8, len9, List.length_cons, List.length_nil, List.length_map, List.length_append, Nat.zero_add, Nat.reduceAdd, set0, set1', opD_add, opD_sub, opD_mul, opD_fdiv, opD_mod, opD_pow, opD_addT, opD_addL, opD_mulL, opD_mulT, lvD_int, lvD_bool, lvD_str, lvD_tuple, lvD_dict, lvD_none, lvD_list, b1_lenL, b1_lenT, b1_lenD, b1_lenK, b1_abs, b1_int, b1_tupL, b1_tupT, b1_lstL, b1_lstT, b1_lstS, b1_all, b1_any, b1_str, b1_srtL, b1_srtD, b2_min, b2_max, cm_eq, cm_ne, cm_lt, cm_le, cm_gt, cm_ge, cm_ltT, cm_is_int, cm_isN_int, cm_is_tuple, cm_isN_tuple, cm_is_list, cm_isN_list, cm_is_bool, cm_isN_bool, cm_is_str, cm_isN_str, cm_is_none, cm_isN_none, cm_isb, cm_isNb, ix_L, ix_T, sl_L, sl_T, st_L, Option.bind_some, Option.map_some, Option.bind_none, Option.map_none, if_true, if_false, ↓reduceIte, Bool.and_true, Bool.true_and, Bool.and_false, Bool.false_and, Bool.not_true, Bool.not_false, decide_true, decide_false, decide_not, Bool.false_eq_true, e1, e2]
theorem needSet_ok {Γ : Gm} (h0 : ∀ F, FigOk F → Γ 0 [figD F] = some ⟨.none, 0, .none⟩) (h1 : ∀ F s, SetOk F s → Γ 1 [figD F, intsD s] = some ⟨.none, 0, .none⟩) : NeedOk (run Γ false 2 2 C.b_need_set) :=
  fun F s ok so => needB_ok (h0 F ok) (h1 F s so)
/-! ### is_stance -/
def TellsOk (S : Fn) (args : Fig → List Int → (Nat → Int) → List D) (P : Fig → List Int → (Nat → Int) → Prop) : Prop := ∀ F s v, FigOk F → SetOk F s → ∃ b, S (args F s v) = rB b ∧ (b = true ↔ P F s v)
theorem d0_fig (F : Fig) : ixD (figD F) (.int 0) = some (.int F.n) := ix_T _ _ |>.trans (atI0 _ _)
theorem d1_fig (F : Fig) : ixD (figD F) (.int 1) = some (.tuple (F.limbs.map limbD)) := ix_T _ _ |>.trans (atI1 _ _ _)
theorem d2_fig (F : Fig) : ixD (figD F) (.int 2) = some (.tuple (F.ties.map natD)) := ix_T _ _ |>.trans (atI2 _ _ _ _)
theorem d3_fig (F : Fig) : ixD (figD F) (.int 3) = some (.int F.floor) := ix_T _ _ |>.trans (atI3 _ _ _ _ _)
def FitsD (F : Fig) (_ : List Int) (v : Nat → Int) : Prop := ∀ j, j < F.n → 0 ≤ v j ∧ v j ≤ F.floor
theorem fitsD_ok {Γ : Gm} (h0 : WholeOk (Γ 0)) (h1 : TupOk (Γ 1)) : TellsOk (run Γ false 2 3 C.b_fits_depths) (fun F s v => [figD F, depD F.n v]) FitsD := by
  intro F s v ok so
  refine ⟨(List.range F.n).all fun j => isWhole (.int (v j)) 0 F.floor, ?_, ?_⟩
  · rw [run2]
    unfold C.b_fits_depths depD
    simp only [ent, List.map_cons, List.map_nil, List.cons_append, List.nil_append, List.length_cons, List.length_nil, List.replicate_succ, List.replicate_zero, Nat.reduceAdd, Nat.reduceSub, if_true, if_false, ↓reduceIte, Bool.false_eq_true]
    have e1 := h1 (.tuple (rowD F.n fun j => .int (v j))) F.n F.n rfl
    have i1 : isTupOf (.tuple (rowD F.n fun j => .int (v j))) F.n F.n = true := by simp [isTupOf, rowD_len]
    rw [i1] at e1
    unfold rB at e1
    have d0 := d0_fig F
    have d3 := d3_fig F
    generalize figD F = d at d0 d3 ⊢
    unfold rowD at e1 ⊢
    simp (config := { decide := false, maxSteps := 1000000 }) only [exs_nil, exs_cons, nxt_nx, nxt_rt, nxt_bk, nxt_ct, ex_for, ex_while, ev_comp, ev_nm, ev_int, ev_bl, ev_non, ev_str, ev_glb, ev_op, ev_neg, ev_tst, ev_ife, ev_tup, ev_lst, ev_ix, ev_bix, ev_bix2, ev_slc, ev_call, ev_cio, ev_b1, ev_dnew, ev_blen, ev_b2, ev_isi, evs_nil, evs_cons, evo_no, evo_yes, evT_ex, evT_cm, evT_chn, evT_not, evT_and, evT_or, evA_nil, evA_cons, evR_nil, evR_cons, evI_ex, evI_rng1, evI_rng2, evI_enm, evI_zip, ex_set, ex_tset, ex_par, ex_par3, ex_aug, ex_ixset, ex_pst, ex_ixset2, ex_ixset22, ex_app, ex_expr, ex_ret, ex_retN, ex_ite, ex_brk, ex_cont, ex_pass, ex_never, mb_some, mb_none, gt_zero, gt_succ, st_zero, st_succ, wp, bk, rdN, ow1, ow01, ow2, setable, setS, set1, set2, up1, bnd, bnds, isiD, outF, ioOf, atI0, atI1, atI2, atI3, ixN0, ixN1, len0, len1, len2, len3, len4, len5, len6, len7, len8, len9, List.length_cons, List.length_nil, List.length_map, List.length_append, Nat.zero_add, Nat.reduceAdd, set0, set1', opD_add, opD_sub, opD_mul, opD_fdiv, opD_mod, opD_pow, opD_addT, opD_addL, opD_mulL, opD_mulT, lvD_int, lvD_bool, lvD_str, lvD_tuple, lvD_dict, lvD_none, lvD_list, b1_lenL, b1_lenT, b1_lenD, b1_lenK, b1_abs, b1_int, b1_tupL, b1_tupT, b1_lstL, b1_lstT, b1_lstS, b1_all, b1_any, b1_str, b1_srtL, b1_srtD, b2_min, b2_max, cm_eq, cm_ne, cm_lt, cm_le, cm_gt, cm_ge, cm_ltT, cm_is_int, cm_isN_int, cm_is_tuple, cm_isN_tuple, cm_is_list, cm_isN_list, cm_is_bool, cm_isN_bool, cm_is_str, cm_isN_str, cm_is_none, cm_isN_none, cm_isb, cm_isNb, ix_L, ix_T, sl_L, sl_T, st_L, Option.bind_some, Option.map_some, Option.bind_none, Option.map_none, if_true, if_false, ↓reduceIte, Bool.and_true, Bool.true_and, Bool.and_false, Bool.false_and, Bool.not_true, Bool.not_false, decide_true, decide_false, decide_not, Bool.false_eq_true, d0, d3, e1]
    rw [compE_mapA (fun j => PyData.int (v j)) (fun j => PyData.bool (isWhole (.int (v j)) 0 F.floor))]
    · simp (config := { decide := false, maxSteps := 1000000 }) only [exs_nil, exs_cons, nxt_nx, nxt_rt, nxt_bk, nxt_ct, ex_for, ex_while, ev_comp, ev_nm, ev_int, ev_bl, ev_non, ev_str, ev_glb, ev_op, ev_neg, ev_tst, ev_ife, ev_tup, ev_lst, ev_ix, ev_bix, ev_bix2, ev_slc, ev_call, ev_cio, ev_b1, ev_dnew, ev_blen, ev_b2, ev_isi, evs_nil, evs_cons, evo_no, evo_yes, evT_ex, evT_cm, evT_chn, evT_not, evT_and, evT_or, evA_nil, evA_cons, evR_nil, evR_cons, evI_ex, evI_rng1, evI_rng2, evI_enm, evI_zip, ex_set, ex_tset, ex_par, ex_par3, ex_aug, ex_ixset, ex_pst, ex_ixset2, ex_ixset22, ex_app, ex_expr, ex_ret, ex_retN, ex_ite, ex_brk, ex_cont, ex_pass, ex_never, mb_some, mb_none, gt_zero, gt_succ, st_zero, st_succ, wp, bk, rdN, ow1, ow01, ow2, setable, setS, set1, set2, up1, bnd, bnds, isiD, outF, ioOf, atI0, atI1, atI2, atI3, ixN0, ixN1, len0, len1, len2, len3, len4, len5, len6, len7, len8, len9, List.length_cons, List.length_nil, List.length_map, List.length_append, Nat.zero_add, Nat.reduceAdd, set0, set1', opD_add, opD_sub, opD_mul, opD_fdiv, opD_mod, opD_pow, opD_addT, opD_addL, opD_mulL, opD_mulT, lvD_int, lvD_bool, lvD_str, lvD_tuple, lvD_dict, lvD_none, lvD_list, b1_lenL, b1_lenT, b1_lenD, b1_lenK, b1_abs, b1_int, b1_tupL, b1_tupT, b1_lstL, b1_lstT, b1_lstS, b1_all, b1_any, b1_str, b1_srtL, b1_srtD, b2_min, b2_max, cm_eq, cm_ne, cm_lt, cm_le, cm_gt, cm_ge, cm_ltT, cm_is_int, cm_isN_int, cm_is_tuple, cm_isN_tuple, cm_is_list, cm_isN_list, cm_is_bool, cm_isN_bool, cm_is_str, cm_isN_str, cm_is_none, cm_isN_none, cm_isb, cm_isNb, ix_L, ix_T, sl_L, sl_T, st_L, Option.bind_some, Option.map_some, Option.bind_none, Option.map_none, if_true, if_false, ↓reduceIte, Bool.and_true, Bool.true_and, Bool.and_false, Bool.false_and, Bool.not_true, Bool.not_false, decide_true, decide_false, decide_not, Bool.false_eq_true, bools_map]
      generalize ((List.range F.n).all fun j => isWhole (.int (v j)) 0 F.floor) = b
      cases b <;> (simp (config := { decide := false, maxSteps := 1000000 }) only [exs_nil, exs_cons, nxt_nx, nxt_rt, nxt_bk, nxt_ct, ex_for, ex_while, ev_comp, ev_nm, ev_int, ev_bl, ev_non, ev_str, ev_glb, ev_op, ev_neg, ev_tst, ev_ife, ev_tup, ev_lst, ev_ix, ev_bix, ev_bix2, ev_slc, ev_call, ev_cio, ev_b1, ev_dnew, ev_blen, ev_b2, ev_isi, evs_nil, evs_cons, evo_no, evo_yes, evT_ex, evT_cm, evT_chn, evT_not, evT_and, evT_or, evA_nil, evA_cons, evR_nil, evR_cons, evI_ex, evI_rng1, evI_rng2, evI_enm, evI_zip, ex_set, ex_tset, ex_par, ex_par3, ex_aug, ex_ixset, ex_pst, ex_ixset2, ex_ixset22, ex_app, ex_expr, ex_ret, ex_retN, ex_ite, ex_brk, ex_cont, ex_pass, ex_never, mb_some, mb_none, gt_zero, gt_succ, st_zero, st_succ, wp, bk, rdN, ow1, ow01, ow2, setable, setS, set1, set2, up1, bnd, bnds, isiD, outF, ioOf, atI0, atI1, atI2, atI3, ixN0, ixN1, len0, len1, len2, len3, len4, len5, len6, len7, len8, len9, List.length_cons, List.length_nil, List.length_map, List.length_append, Nat.zero_add, Nat.reduceAdd, set0, set1', opD_add, opD_sub, opD_mul, opD_fdiv, opD_mod, opD_pow, opD_addT, opD_addL, opD_mulL, opD_mulT, lvD_int, lvD_bool, lvD_str, lvD_tuple, lvD_dict, lvD_none, lvD_list, b1_lenL, b1_lenT, b1_lenD, b1_lenK, b1_abs, b1_int, b1_tupL, b1_tupT, b1_lstL, b1_lstT, b1_lstS, b1_all, b1_any, b1_str, b1_srtL, b1_srtD, b2_min, b2_max, cm_eq, cm_ne, cm_lt, cm_le, cm_gt, cm_ge, cm_ltT, cm_is_int, cm_isN_int, cm_is_tuple, cm_isN_tuple, cm_is_list, cm_isN_list, cm_is_bool, cm_isN_bool, cm_is_str, cm_isN_str, cm_is_none, cm_isN_none, cm_isb, cm_isNb, ix_L, ix_T, sl_L, sl_T, st_L, Option.bind_some, Option.map_some, Option.bind_none, Option.map_none, if_true, if_false, ↓reduceIte, Bool.and_true, Bool.true_and, Bool.and_false, Bool.false_and, Bool.not_true, Bool.not_false, decide_true, decide_false, decide_not, Bool.false_eq_true]; rfl)
    · intro j _
      have e := h0 (.int (v j)) 0 F.floor rfl
      unfold rB at e
      simp (config := { decide := false, maxSteps := 1000000 }) only [exs_nil, exs_cons, nxt_nx, nxt_rt, nxt_bk, nxt_ct, ex_for, ex_while, ev_comp, ev_nm, ev_int, ev_bl, ev_non, ev_str, ev_glb, ev_op, ev_neg, ev_tst, ev_ife, ev_tup, ev_lst, ev_ix, ev_bix, ev_bix2, ev_slc, ev_call, ev_cio, ev_b1, ev_dnew, ev_blen, ev_b2, ev_isi, evs_nil, evs_cons, evo_no, evo_yes, evT_ex, evT_cm, evT_chn, evT_not, evT_and, evT_or, evA_nil, evA_cons, evR_nil, evR_cons, evI_ex, evI_rng1, evI_rng2, evI_enm, evI_zip, ex_set, ex_tset, ex_par, ex_par3, ex_aug, ex_ixset, ex_pst, ex_ixset2, ex_ixset22, ex_app, ex_expr, ex_ret, ex_retN, ex_ite, ex_brk, ex_cont, ex_pass, ex_never, mb_some, mb_none, gt_zero, gt_succ, st_zero, st_succ, wp, bk, rdN, ow1, ow01, ow2, setable, setS, set1, set2, up1, bnd, bnds, isiD, outF, ioOf, atI0, atI1, atI2, atI3, ixN0, ixN1, len0, len1, len2, len3, len4, len5, len6, len7, len8, len9, List.length_cons, List.length_nil, List.length_map, List.length_append, Nat.zero_add, Nat.reduceAdd, set0, set1', opD_add, opD_sub, opD_mul, opD_fdiv, opD_mod, opD_pow, opD_addT, opD_addL, opD_mulL, opD_mulT, lvD_int, lvD_bool, lvD_str, lvD_tuple, lvD_dict, lvD_none, lvD_list, b1_lenL, b1_lenT, b1_lenD, b1_lenK, b1_abs, b1_int, b1_tupL, b1_tupT, b1_lstL, b1_lstT, b1_lstS, b1_all, b1_any, b1_str, b1_srtL, b1_srtD, b2_min, b2_max, cm_eq, cm_ne, cm_lt, cm_le, cm_gt, cm_ge, cm_ltT, cm_is_int, cm_isN_int, cm_is_tuple, cm_isN_tuple, cm_is_list, cm_isN_list, cm_is_bool, cm_isN_bool, cm_is_str, cm_isN_str, cm_is_none, cm_isN_none, cm_isb, cm_isNb, ix_L, ix_T, sl_L, sl_T, st_L, Option.bind_some, Option.map_some, Option.bind_none, Option.map_none, if_true, if_false, ↓reduceIte, Bool.and_true, Bool.true_and, Bool.and_false, Bool.false_and, Bool.not_true, Bool.not_false, decide_true, decide_false, decide_not, Bool.false_eq_true, d3, e]
      exact W_some.mpr ⟨.inl trivial, rfl, rfl⟩
  · rw [List.all_eq_true]
    constructor
    · intro h j hj
      have := h j (List.mem_range.mpr hj)
      simpa [isWhole] using this
    · intro h j hj
      have := h j (List.mem_range.mp hj)
      simpa [isWhole] using this
def KeepsL (F : Fig) (_ : List Int) (v : Nat → Int) : Prop := ∀ l ∈ F.limbs, v l.1 - v l.2.1 ≤ l.2.2 ∧ v l.2.1 - v l.1 ≤ l.2.2
theorem keepsL_ok {Γ : Gm} : TellsOk (run Γ false 2 5 C.b_keeps_limbs) (fun F s v => [figD F, depD F.n v]) KeepsL := by
  intro F s v ok so
  refine ⟨F.limbs.all fun l => decide ((if v l.1 - v l.2.1 < 0 then -(v l.1 - v l.2.1) else v l.1 - v l.2.1) ≤ l.2.2), ?_, ?_⟩
  · rw [run2]
    unfold C.b_keeps_limbs depD
    simp only [ent, List.map_cons, List.map_nil, List.cons_append, List.nil_append, List.length_cons, List.length_nil, List.replicate_succ, List.replicate_zero, Nat.reduceAdd, Nat.reduceSub, if_true, if_false, ↓reduceIte, Bool.false_eq_true]
    have d1 := d1_fig F
    generalize figD F = d at d1 ⊢
    simp (config := { decide := false, maxSteps := 1000000 }) only [exs_nil, exs_cons, nxt_nx, nxt_rt, nxt_bk, nxt_ct, ex_for, ex_while, ev_comp, ev_nm, ev_int, ev_bl, ev_non, ev_str, ev_glb, ev_op, ev_neg, ev_tst, ev_ife, ev_tup, ev_lst, ev_ix, ev_bix, ev_bix2, ev_slc, ev_call, ev_cio, ev_b1, ev_dnew, ev_blen, ev_b2, ev_isi, evs_nil, evs_cons, evo_no, evo_yes, evT_ex, evT_cm, evT_chn, evT_not, evT_and, evT_or, evA_nil, evA_cons, evR_nil, evR_cons, evI_ex, evI_rng1, evI_rng2, evI_enm, evI_zip, ex_set, ex_tset, ex_par, ex_par3, ex_aug, ex_ixset, ex_pst, ex_ixset2, ex_ixset22, ex_app, ex_expr, ex_ret, ex_retN, ex_ite, ex_brk, ex_cont, ex_pass, ex_never, mb_some, mb_none, gt_zero, gt_succ, st_zero, st_succ, wp, bk, rdN, ow1, ow01, ow2, setable, setS, set1, set2, up1, bnd, bnds, isiD, outF, ioOf, atI0, atI1, atI2, atI3, ixN0, ixN1, len0, len1, len2, len3, len4, len5, len6, len7, len8, len9, List.length_cons, List.length_nil, List.length_map, List.length_append, Nat.zero_add, Nat.reduceAdd, set0, set1', opD_add, opD_sub, opD_mul, opD_fdiv, opD_mod, opD_pow, opD_addT, opD_addL, opD_mulL, opD_mulT, lvD_int, lvD_bool, lvD_str, lvD_tuple, lvD_dict, lvD_none, lvD_list, b1_lenL, b1_lenT, b1_lenD, b1_lenK, b1_abs, b1_int, b1_tupL, b1_tupT, b1_lstL, b1_lstT, b1_lstS, b1_all, b1_any, b1_str, b1_srtL, b1_srtD, b2_min, b2_max, cm_eq, cm_ne, cm_lt, cm_le, cm_gt, cm_ge, cm_ltT, cm_is_int, cm_isN_int, cm_is_tuple, cm_isN_tuple, cm_is_list, cm_isN_list, cm_is_bool, cm_isN_bool, cm_is_str, cm_isN_str, cm_is_none, cm_isN_none, cm_isb, cm_isNb, ix_L, ix_T, sl_L, sl_T, st_L, Option.bind_some, Option.map_some, Option.bind_none, Option.map_none, if_true, if_false, ↓reduceIte, Bool.and_true, Bool.true_and, Bool.and_false, Bool.false_and, Bool.not_true, Bool.not_false, decide_true, decide_false, decide_not, Bool.false_eq_true, d1]
    rw [compE_mapA limbD (fun l => PyData.bool (decide ((if v l.1 - v l.2.1 < 0 then -(v l.1 - v l.2.1) else v l.1 - v l.2.1) ≤ l.2.2)))]
    · simp (config := { decide := false, maxSteps := 1000000 }) only [exs_nil, exs_cons, nxt_nx, nxt_rt, nxt_bk, nxt_ct, ex_for, ex_while, ev_comp, ev_nm, ev_int, ev_bl, ev_non, ev_str, ev_glb, ev_op, ev_neg, ev_tst, ev_ife, ev_tup, ev_lst, ev_ix, ev_bix, ev_bix2, ev_slc, ev_call, ev_cio, ev_b1, ev_dnew, ev_blen, ev_b2, ev_isi, evs_nil, evs_cons, evo_no, evo_yes, evT_ex, evT_cm, evT_chn, evT_not, evT_and, evT_or, evA_nil, evA_cons, evR_nil, evR_cons, evI_ex, evI_rng1, evI_rng2, evI_enm, evI_zip, ex_set, ex_tset, ex_par, ex_par3, ex_aug, ex_ixset, ex_pst, ex_ixset2, ex_ixset22, ex_app, ex_expr, ex_ret, ex_retN, ex_ite, ex_brk, ex_cont, ex_pass, ex_never, mb_some, mb_none, gt_zero, gt_succ, st_zero, st_succ, wp, bk, rdN, ow1, ow01, ow2, setable, setS, set1, set2, up1, bnd, bnds, isiD, outF, ioOf, atI0, atI1, atI2, atI3, ixN0, ixN1, len0, len1, len2, len3, len4, len5, len6, len7, len8, len9, List.length_cons, List.length_nil, List.length_map, List.length_append, Nat.zero_add, Nat.reduceAdd, set0, set1', opD_add, opD_sub, opD_mul, opD_fdiv, opD_mod, opD_pow, opD_addT, opD_addL, opD_mulL, opD_mulT, lvD_int, lvD_bool, lvD_str, lvD_tuple, lvD_dict, lvD_none, lvD_list, b1_lenL, b1_lenT, b1_lenD, b1_lenK, b1_abs, b1_int, b1_tupL, b1_tupT, b1_lstL, b1_lstT, b1_lstS, b1_all, b1_any, b1_str, b1_srtL, b1_srtD, b2_min, b2_max, cm_eq, cm_ne, cm_lt, cm_le, cm_gt, cm_ge, cm_ltT, cm_is_int, cm_isN_int, cm_is_tuple, cm_isN_tuple, cm_is_list, cm_isN_list, cm_is_bool, cm_isN_bool, cm_is_str, cm_isN_str, cm_is_none, cm_isN_none, cm_isb, cm_isNb, ix_L, ix_T, sl_L, sl_T, st_L, Option.bind_some, Option.map_some, Option.bind_none, Option.map_none, if_true, if_false, ↓reduceIte, Bool.and_true, Bool.true_and, Bool.and_false, Bool.false_and, Bool.not_true, Bool.not_false, decide_true, decide_false, decide_not, Bool.false_eq_true, bools_map]
      rfl
    · intro l hl
      obtain ⟨q1, q2, q3, q4⟩ := ok.lo l hl
      have q0 : l.1 < F.n := by omega
      unfold limbD
      simp (config := { decide := false, maxSteps := 1000000 }) only [exs_nil, exs_cons, nxt_nx, nxt_rt, nxt_bk, nxt_ct, ex_for, ex_while, ev_comp, ev_nm, ev_int, ev_bl, ev_non, ev_str, ev_glb, ev_op, ev_neg, ev_tst, ev_ife, ev_tup, ev_lst, ev_ix, ev_bix, ev_bix2, ev_slc, ev_call, ev_cio, ev_b1, ev_dnew, ev_blen, ev_b2, ev_isi, evs_nil, evs_cons, evo_no, evo_yes, evT_ex, evT_cm, evT_chn, evT_not, evT_and, evT_or, evA_nil, evA_cons, evR_nil, evR_cons, evI_ex, evI_rng1, evI_rng2, evI_enm, evI_zip, ex_set, ex_tset, ex_par, ex_par3, ex_aug, ex_ixset, ex_pst, ex_ixset2, ex_ixset22, ex_app, ex_expr, ex_ret, ex_retN, ex_ite, ex_brk, ex_cont, ex_pass, ex_never, mb_some, mb_none, gt_zero, gt_succ, st_zero, st_succ, wp, bk, rdN, ow1, ow01, ow2, setable, setS, set1, set2, up1, bnd, bnds, isiD, outF, ioOf, atI0, atI1, atI2, atI3, ixN0, ixN1, len0, len1, len2, len3, len4, len5, len6, len7, len8, len9, List.length_cons, List.length_nil, List.length_map, List.length_append, Nat.zero_add, Nat.reduceAdd, set0, set1', opD_add, opD_sub, opD_mul, opD_fdiv, opD_mod, opD_pow, opD_addT, opD_addL, opD_mulL, opD_mulT, lvD_int, lvD_bool, lvD_str, lvD_tuple, lvD_dict, lvD_none, lvD_list, b1_lenL, b1_lenT, b1_lenD, b1_lenK, b1_abs, b1_int, b1_tupL, b1_tupT, b1_lstL, b1_lstT, b1_lstS, b1_all, b1_any, b1_str, b1_srtL, b1_srtD, b2_min, b2_max, cm_eq, cm_ne, cm_lt, cm_le, cm_gt, cm_ge, cm_ltT, cm_is_int, cm_isN_int, cm_is_tuple, cm_isN_tuple, cm_is_list, cm_isN_list, cm_is_bool, cm_isN_bool, cm_is_str, cm_isN_str, cm_is_none, cm_isN_none, cm_isb, cm_isNb, ix_L, ix_T, sl_L, sl_T, st_L, Option.bind_some, Option.map_some, Option.bind_none, Option.map_none, if_true, if_false, ↓reduceIte, Bool.and_true, Bool.true_and, Bool.and_false, Bool.false_and, Bool.not_true, Bool.not_false, decide_true, decide_false, decide_not, Bool.false_eq_true, ix_rowT q0, ix_rowT q2]
      exact W_some.mpr ⟨.inl trivial, rfl, rfl⟩
  · rw [List.all_eq_true]
    constructor
    · intro h l hl
      have := of_decide_eq_true (h l hl)
      split at this <;> omega
    · intro h l hl
      have := h l hl
      refine decide_eq_true ?_
      split <;> omega
def KeepsS (F : Fig) (s : List Int) (v : Nat → Int) : Prop := ∀ p ∈ F.ties.zip s, v p.1 ≤ p.2
theorem keepsS_ok {Γ : Gm} : TellsOk (run Γ false 3 5 C.b_keeps_strings) (fun F s v => [figD F, intsD s, depD F.n v]) KeepsS := by
  intro F s v ok so
  have hz := zip_in ok so
  refine ⟨(F.ties.zip s).all fun p => decide (v p.1 ≤ p.2), ?_, ?_⟩
  · rw [run3]
    unfold C.b_keeps_strings depD intsD
    simp only [ent, List.map_cons, List.map_nil, List.cons_append, List.nil_append, List.length_cons, List.length_nil, List.replicate_succ, List.replicate_zero, Nat.reduceAdd, Nat.reduceSub, if_true, if_false, ↓reduceIte, Bool.false_eq_true]
    have d2 := d2_fig F
    generalize figD F = d at d2 ⊢
    simp (config := { decide := false, maxSteps := 1000000 }) only [exs_nil, exs_cons, nxt_nx, nxt_rt, nxt_bk, nxt_ct, ex_for, ex_while, ev_comp, ev_nm, ev_int, ev_bl, ev_non, ev_str, ev_glb, ev_op, ev_neg, ev_tst, ev_ife, ev_tup, ev_lst, ev_ix, ev_bix, ev_bix2, ev_slc, ev_call, ev_cio, ev_b1, ev_dnew, ev_blen, ev_b2, ev_isi, evs_nil, evs_cons, evo_no, evo_yes, evT_ex, evT_cm, evT_chn, evT_not, evT_and, evT_or, evA_nil, evA_cons, evR_nil, evR_cons, evI_ex, evI_rng1, evI_rng2, evI_enm, evI_zip, ex_set, ex_tset, ex_par, ex_par3, ex_aug, ex_ixset, ex_pst, ex_ixset2, ex_ixset22, ex_app, ex_expr, ex_ret, ex_retN, ex_ite, ex_brk, ex_cont, ex_pass, ex_never, mb_some, mb_none, gt_zero, gt_succ, st_zero, st_succ, wp, bk, rdN, ow1, ow01, ow2, setable, setS, set1, set2, up1, bnd, bnds, isiD, outF, ioOf, atI0, atI1, atI2, atI3, ixN0, ixN1, len0, len1, len2, len3, len4, len5, len6, len7, len8, len9, List.length_cons, List.length_nil, List.length_map, List.length_append, Nat.zero_add, Nat.reduceAdd, set0, set1', opD_add, opD_sub, opD_mul, opD_fdiv, opD_mod, opD_pow, opD_addT, opD_addL, opD_mulL, opD_mulT, lvD_int, lvD_bool, lvD_str, lvD_tuple, lvD_dict, lvD_none, lvD_list, b1_lenL, b1_lenT, b1_lenD, b1_lenK, b1_abs, b1_int, b1_tupL, b1_tupT, b1_lstL, b1_lstT, b1_lstS, b1_all, b1_any, b1_str, b1_srtL, b1_srtD, b2_min, b2_max, cm_eq, cm_ne, cm_lt, cm_le, cm_gt, cm_ge, cm_ltT, cm_is_int, cm_isN_int, cm_is_tuple, cm_isN_tuple, cm_is_list, cm_isN_list, cm_is_bool, cm_isN_bool, cm_is_str, cm_isN_str, cm_is_none, cm_isN_none, cm_isb, cm_isNb, ix_L, ix_T, sl_L, sl_T, st_L, Option.bind_some, Option.map_some, Option.bind_none, Option.map_none, if_true, if_false, ↓reduceIte, Bool.and_true, Bool.true_and, Bool.and_false, Bool.false_and, Bool.not_true, Bool.not_false, decide_true, decide_false, decide_not, Bool.false_eq_true, d2, zipD_map]
    rw [compE_mapA (fun p : Nat × Int => PyData.tuple [natD p.1, PyData.int p.2]) (fun p => PyData.bool (decide (v p.1 ≤ p.2)))]
    · simp (config := { decide := false, maxSteps := 1000000 }) only [exs_nil, exs_cons, nxt_nx, nxt_rt, nxt_bk, nxt_ct, ex_for, ex_while, ev_comp, ev_nm, ev_int, ev_bl, ev_non, ev_str, ev_glb, ev_op, ev_neg, ev_tst, ev_ife, ev_tup, ev_lst, ev_ix, ev_bix, ev_bix2, ev_slc, ev_call, ev_cio, ev_b1, ev_dnew, ev_blen, ev_b2, ev_isi, evs_nil, evs_cons, evo_no, evo_yes, evT_ex, evT_cm, evT_chn, evT_not, evT_and, evT_or, evA_nil, evA_cons, evR_nil, evR_cons, evI_ex, evI_rng1, evI_rng2, evI_enm, evI_zip, ex_set, ex_tset, ex_par, ex_par3, ex_aug, ex_ixset, ex_pst, ex_ixset2, ex_ixset22, ex_app, ex_expr, ex_ret, ex_retN, ex_ite, ex_brk, ex_cont, ex_pass, ex_never, mb_some, mb_none, gt_zero, gt_succ, st_zero, st_succ, wp, bk, rdN, ow1, ow01, ow2, setable, setS, set1, set2, up1, bnd, bnds, isiD, outF, ioOf, atI0, atI1, atI2, atI3, ixN0, ixN1, len0, len1, len2, len3, len4, len5, len6, len7, len8, len9, List.length_cons, List.length_nil, List.length_map, List.length_append, Nat.zero_add, Nat.reduceAdd, set0, set1', opD_add, opD_sub, opD_mul, opD_fdiv, opD_mod, opD_pow, opD_addT, opD_addL, opD_mulL, opD_mulT, lvD_int, lvD_bool, lvD_str, lvD_tuple, lvD_dict, lvD_none, lvD_list, b1_lenL, b1_lenT, b1_lenD, b1_lenK, b1_abs, b1_int, b1_tupL, b1_tupT, b1_lstL, b1_lstT, b1_lstS, b1_all, b1_any, b1_str, b1_srtL, b1_srtD, b2_min, b2_max, cm_eq, cm_ne, cm_lt, cm_le, cm_gt, cm_ge, cm_ltT, cm_is_int, cm_isN_int, cm_is_tuple, cm_isN_tuple, cm_is_list, cm_isN_list, cm_is_bool, cm_isN_bool, cm_is_str, cm_isN_str, cm_is_none, cm_isN_none, cm_isb, cm_isNb, ix_L, ix_T, sl_L, sl_T, st_L, Option.bind_some, Option.map_some, Option.bind_none, Option.map_none, if_true, if_false, ↓reduceIte, Bool.and_true, Bool.true_and, Bool.and_false, Bool.false_and, Bool.not_true, Bool.not_false, decide_true, decide_false, decide_not, Bool.false_eq_true, bools_map]
      rfl
    · intro p hp
      have q0 := (hz p hp).1
      unfold natD
      simp (config := { decide := false, maxSteps := 1000000 }) only [exs_nil, exs_cons, nxt_nx, nxt_rt, nxt_bk, nxt_ct, ex_for, ex_while, ev_comp, ev_nm, ev_int, ev_bl, ev_non, ev_str, ev_glb, ev_op, ev_neg, ev_tst, ev_ife, ev_tup, ev_lst, ev_ix, ev_bix, ev_bix2, ev_slc, ev_call, ev_cio, ev_b1, ev_dnew, ev_blen, ev_b2, ev_isi, evs_nil, evs_cons, evo_no, evo_yes, evT_ex, evT_cm, evT_chn, evT_not, evT_and, evT_or, evA_nil, evA_cons, evR_nil, evR_cons, evI_ex, evI_rng1, evI_rng2, evI_enm, evI_zip, ex_set, ex_tset, ex_par, ex_par3, ex_aug, ex_ixset, ex_pst, ex_ixset2, ex_ixset22, ex_app, ex_expr, ex_ret, ex_retN, ex_ite, ex_brk, ex_cont, ex_pass, ex_never, mb_some, mb_none, gt_zero, gt_succ, st_zero, st_succ, wp, bk, rdN, ow1, ow01, ow2, setable, setS, set1, set2, up1, bnd, bnds, isiD, outF, ioOf, atI0, atI1, atI2, atI3, ixN0, ixN1, len0, len1, len2, len3, len4, len5, len6, len7, len8, len9, List.length_cons, List.length_nil, List.length_map, List.length_append, Nat.zero_add, Nat.reduceAdd, set0, set1', opD_add, opD_sub, opD_mul, opD_fdiv, opD_mod, opD_pow, opD_addT, opD_addL, opD_mulL, opD_mulT, lvD_int, lvD_bool, lvD_str, lvD_tuple, lvD_dict, lvD_none, lvD_list, b1_lenL, b1_lenT, b1_lenD, b1_lenK, b1_abs, b1_int, b1_tupL, b1_tupT, b1_lstL, b1_lstT, b1_lstS, b1_all, b1_any, b1_str, b1_srtL, b1_srtD, b2_min, b2_max, cm_eq, cm_ne, cm_lt, cm_le, cm_gt, cm_ge, cm_ltT, cm_is_int, cm_isN_int, cm_is_tuple, cm_isN_tuple, cm_is_list, cm_isN_list, cm_is_bool, cm_isN_bool, cm_is_str, cm_isN_str, cm_is_none, cm_isN_none, cm_isb, cm_isNb, ix_L, ix_T, sl_L, sl_T, st_L, Option.bind_some, Option.map_some, Option.bind_none, Option.map_none, if_true, if_false, ↓reduceIte, Bool.and_true, Bool.true_and, Bool.and_false, Bool.false_and, Bool.not_true, Bool.not_false, decide_true, decide_false, decide_not, Bool.false_eq_true, ix_rowT q0]
      exact W_some.mpr ⟨.inl trivial, rfl, rfl⟩
  · rw [List.all_eq_true]
    exact ⟨fun h p hp => of_decide_eq_true (h p hp), fun h p hp => decide_eq_true (h p hp)⟩
def StanceOk (S : Fn) : Prop := TellsOk S (fun F s v => [figD F, intsD s, depD F.n v]) IsSt
theorem stance_ok {Γ : Gm} (h0 : NeedOk (Γ 0)) (h1 : TellsOk (Γ 1) (fun F s v => [figD F, intsD s, depD F.n v]) KeepsS) (h2 : TellsOk (Γ 2) (fun F s v => [figD F, depD F.n v]) KeepsL) (h3 : TellsOk (Γ 3) (fun F s v => [figD F, depD F.n v]) FitsD) :
    StanceOk (run Γ false 3 3 C.b_is_stance) := by
  intro F s v ok so
  have e0 := h0 F s ok so
  obtain ⟨b1, e1, t1⟩ := h1 F s v ok so
  obtain ⟨b2, e2, t2⟩ := h2 F s v ok so
  obtain ⟨b3, e3, t3⟩ := h3 F s v ok so
  refine ⟨b3 && (b2 && b1), ?_, ?_⟩
  · show run Γ false 3 3 C.b_is_stance [figD F, intsD s, depD F.n v] = _
    rw [run3]
    unfold C.b_is_stance
    simp only [ent, List.map_cons, List.map_nil, List.cons_append, List.nil_append, List.length_cons, List.length_nil, List.replicate_succ, List.replicate_zero, Nat.reduceAdd, Nat.reduceSub, if_true, if_false, ↓reduceIte, Bool.false_eq_true]
    have e1 : Γ 1 [figD F, intsD s, depD F.n v] = rB b1 := e1
    have e2 : Γ 2 [figD F, depD F.n v] = rB b2 := e2
    have e3 : Γ 3 [figD F, depD F.n v] = rB b3 := e3
    generalize figD F = d at e0 e1 e2 e3 ⊢
    generalize intsD s = d' at e0 e1 e2 e3 ⊢
    generalize depD F.n v = d'' at e1 e2 e3 ⊢
    unfold rB at *
    cases b3 <;> cases b2 <;> cases b1 <;> simp (config := { decide := false, maxSteps := 1000000 }) only [exs_nil, exs_cons, nxt_nx, nxt_rt, nxt_bk, nxt_ct, ex_for, ex_while, ev_comp, ev_nm, ev_int, ev_bl, ev_non, ev_str, ev_glb, ev_op, ev_neg, ev_tst, ev_ife, ev_tup, ev_lst, ev_ix, ev_bix, ev_bix2, ev_slc, ev_call, ev_cio, ev_b1, ev_dnew, ev_blen, ev_b2, ev_isi, evs_nil, evs_cons, evo_no, evo_yes, evT_ex, evT_cm, evT_chn, evT_not, evT_and, evT_or, evA_nil, evA_cons, evR_nil, evR_cons, evI_ex, evI_rng1, evI_rng2, evI_enm, evI_zip, ex_set, ex_tset, ex_par, ex_par3, ex_aug, ex_ixset, ex_pst, ex_ixset2, ex_ixset22, ex_app, ex_expr, ex_ret, ex_retN, ex_ite, ex_brk, ex_cont, ex_pass, ex_never, mb_some, mb_none, gt_zero, gt_succ, st_zero, st_succ, wp, bk, rdN, ow1, ow01, ow2, setable, setS, set1, set2, up1, bnd, bnds, isiD, outF, ioOf, atI0, atI1, atI2, atI3, ixN0, ixN1, len0, len1, len2, len3, len4, len5, len6, len7, len8, len9, List.length_cons, List.length_nil, List.length_map, List.length_append, Nat.zero_add, Nat.reduceAdd, set0, set1', opD_add, opD_sub, opD_mul, opD_fdiv, opD_mod, opD_pow, opD_addT, opD_addL, opD_mulL, opD_mulT, lvD_int, lvD_bool, lvD_str, lvD_tuple, lvD_dict, lvD_none, lvD_list, b1_lenL, b1_lenT, b1_lenD, b1_lenK, b1_abs, b1_int, b1_tupL, b1_tupT, b1_lstL, b1_lstT, b1_lstS, b1_all, b1_any, b1_str, b1_srtL, b1_srtD, b2_min, b2_max, cm_eq, cm_ne, cm_lt, cm_le, cm_gt, cm_ge, cm_ltT, cm_is_int, cm_isN_int, cm_is_tuple, cm_isN_tuple, cm_is_list, cm_isN_list, cm_is_bool, cm_isN_bool, cm_is_str, cm_isN_str, cm_is_none, cm_isN_none, cm_isb, cm_isNb, ix_L, ix_T, sl_L, sl_T, st_L, Option.bind_some, Option.map_some, Option.bind_none, Option.map_none, if_true, if_false, ↓reduceIte, Bool.and_true, Bool.true_and, Bool.and_false, Bool.false_and, Bool.not_true, Bool.not_false, decide_true, decide_false, decide_not, Bool.false_eq_true, e0, e1, e2, e3]
  · rw [Bool.and_eq_true, Bool.and_eq_true, t1, t2, t3]
    exact ⟨fun h => ⟨h.1, h.2.1, h.2.2⟩, fun h => ⟨h.b, h.l, h.t⟩⟩
end DI

/-! M7: the law's own pose: rounds of lowering. -/
namespace DI
open PySem
/-! ### rounds -/
structure Rnd (F : Fig) (q p p' : Nat → Int) : Prop where
  lo : ∀ j, j < F.n → q j ≤ p' j
  hi : ∀ j, j < F.n → p' j ≤ p j
  l : ∀ l ∈ F.limbs, p' l.1 ≤ p l.2.1 + l.2.2 ∧ p' l.2.1 ≤ p l.1 + l.2.2
structure Up (F : Fig) (s : List Int) (q p : Nat → Int) : Prop where
  lo : ∀ j, j < F.n → q j ≤ p j
  f : ∀ j, j < F.n → p j ≤ F.floor
  t : ∀ x ∈ F.ties.zip s, p x.1 ≤ x.2
theorem tight {F : Fig} {s : List Int} {q p : Nat → Int} (ok : FigOk F) (so : SetOk F s) (h : IsPose F s q) (u : Up F s q p) {j : Nat} (hj : j < F.n) (hne : p j ≠ q j) : ∃ l ∈ F.limbs, (l.1 = j ∧ q j = q l.2.1 + l.2.2) ∨ (l.2.1 = j ∧ q j = q l.1 + l.2.2) := by
  have hlt : q j < p j := by have := u.lo j hj; omega
  rcases Classical.em (∃ l ∈ F.limbs, (l.1 = j ∧ q j = q l.2.1 + l.2.2) ∨ (l.2.1 = j ∧ q j = q l.1 + l.2.2)) with c | c
  · exact c
  · exfalso
    have st : IsSt F s (updF q j (q j + 1)) := by
      refine ⟨fun i hi => ?_, fun l hl => ?_, fun x hx => ?_⟩
      · unfold updF
        have := h.st.b i hi
        split
        · rename_i e; subst e; have := u.f i hi; omega
        · exact this
      · have b := h.st.l l hl
        have n1 : ¬ (l.1 = j ∧ q j = q l.2.1 + l.2.2) := fun z => c ⟨l, hl, .inl z⟩
        have n2 : ¬ (l.2.1 = j ∧ q j = q l.1 + l.2.2) := fun z => c ⟨l, hl, .inr z⟩
        obtain ⟨q1, q2, q3, q4⟩ := ok.lo l hl
        unfold updF
        by_cases e1 : l.1 = j
        · have e2 : l.2.1 ≠ j := by omega
          rw [if_pos e1, if_neg e2]
          rw [e1] at b
          have : q j ≠ q l.2.1 + l.2.2 := fun z => n1 ⟨e1, z⟩
          omega
        · rw [if_neg e1]
          by_cases e2 : l.2.1 = j
          · rw [if_pos e2]
            rw [e2] at b
            have : q j ≠ q l.1 + l.2.2 := fun z => n2 ⟨e2, z⟩
            omega
          · rw [if_neg e2]; exact b
      · unfold updF
        have a := h.st.t x hx
        have b := u.t x hx
        split
        · rename_i e; rw [e] at a b; omega
        · exact a
    have := h.g _ st j hj
    unfold updF at this
    rw [if_pos rfl] at this
    omega
theorem settles {F : Fig} {s : List Int} {q p p' : Nat → Int} (ok : FigOk F) (so : SetOk F s) (h : IsPose F s q) (u : Up F s q p) (r : Rnd F q p p') : ∀ (k : Nat) (j : Nat), j < F.n → (q j).toNat = k → p j ≠ q j → ∃ i, i < F.n ∧ p i ≠ q i ∧ p' i = q i := by
  intro k
  induction k using Nat.strongRecOn with
  | ind k ih =>
    intro j hj hk hne
    obtain ⟨l, hl, z⟩ := tight ok so h u hj hne
    obtain ⟨q1, q2, q3, q4⟩ := ok.lo l hl
    have step : ∀ i, i < F.n → q j = q i + l.2.2 → p' j ≤ p i + l.2.2 → ∃ i, i < F.n ∧ p i ≠ q i ∧ p' i = q i := fun i hi e hp => by
      by_cases c : p i = q i
      · have := r.lo j hj
        exact ⟨j, hj, hne, by omega⟩
      · have b := (h.st.b i hi).1
        exact ih (q i).toNat (by omega) i hi rfl c
    have rl := r.l l hl
    rcases z with ⟨e, z⟩ | ⟨e, z⟩
    · subst e; exact step l.2.1 q2 z rl.1
    · subst e; exact step l.1 (by omega) z rl.2
def cntP (n : Nat) (q p : Nat → Int) : Nat := ((List.range n).filter fun j => decide (p j = q j)).length
theorem filt_le {α : Type} {P P' : α → Bool} : ∀ {l : List α}, (∀ x ∈ l, P x = true → P' x = true) → (l.filter P).length ≤ (l.filter P').length
  | [], _ => Nat.le_refl _
  | x :: l, h => by
    have ih := filt_le (l := l) fun y hy => h y (by simp [hy])
    have hx := h x (by simp)
    rw [List.filter_cons, List.filter_cons]
    split
    · rw [if_pos (hx (by assumption))]; simpa using ih
    · split
      · simp; omega
      · exact ih
theorem filt_lt {α : Type} {P P' : α → Bool} : ∀ {l : List α}, (∀ x ∈ l, P x = true → P' x = true) → (∃ x ∈ l, P x = false ∧ P' x = true) → (l.filter P).length < (l.filter P').length
  | [], _, h => by obtain ⟨x, hx, _⟩ := h; cases hx
  | x :: l, h, e => by
    have hx := h x (by simp)
    have h' : ∀ y ∈ l, P y = true → P' y = true := fun y hy => h y (by simp [hy])
    obtain ⟨y, hy, e1, e2⟩ := e
    rw [List.filter_cons, List.filter_cons]
    rcases List.mem_cons.mp hy with z | z
    · subst z
      have := filt_le h'
      rw [if_neg (by rw [e1]; decide), if_pos e2]
      simp; omega
    · have ih := filt_lt h' ⟨y, z, e1, e2⟩
      split
      · rw [if_pos (hx (by assumption))]; simpa using ih
      · split
        · simp; omega
        · exact ih
theorem cnt_all {n : Nat} {q p : Nat → Int} (h : n ≤ cntP n q p) : ∀ j, j < n → p j = q j := by
  intro j hj
  unfold cntP at h
  rcases Classical.em (p j = q j) with c | c
  · exact c
  · exfalso
    have := filt_lt (P := fun j => decide (p j = q j)) (P' := fun _ => true) (l := List.range n) (fun _ _ _ => rfl) ⟨j, List.mem_range.mpr hj, decide_eq_false c, rfl⟩
    rw [List.filter_eq_self.mpr (fun _ _ => rfl), List.length_range] at this
    omega
theorem cnt_step {F : Fig} {s : List Int} {q p p' : Nat → Int} (ok : FigOk F) (so : SetOk F s) (h : IsPose F s q) (u : Up F s q p) (r : Rnd F q p p') {k : Nat} (hk : (∀ j, j < F.n → p j = q j) ∨ k ≤ cntP F.n q p) :
    (∀ j, j < F.n → p' j = q j) ∨ k + 1 ≤ cntP F.n q p' := by
  have keep : ∀ j, j < F.n → p j = q j → p' j = q j := fun j hj e => by have := r.lo j hj; have := r.hi j hj; omega
  rcases Classical.em (∀ j, j < F.n → p j = q j) with c | c
  · exact .inl fun j hj => keep j hj (c j hj)
  · right
    obtain ⟨j, hj⟩ := Classical.not_forall.mp c
    obtain ⟨hj, hne⟩ := Classical.not_imp.mp hj
    obtain ⟨i, hi, e1, e2⟩ := settles ok so h u r _ j hj rfl hne
    have hk : k ≤ cntP F.n q p := hk.resolve_left c
    have := filt_lt (P := fun j => decide (p j = q j)) (P' := fun j => decide (p' j = q j)) (l := List.range F.n) (fun x hx z => decide_eq_true (keep x (List.mem_range.mp hx) (of_decide_eq_true z))) ⟨i, List.mem_range.mpr hi, decide_eq_false e1, decide_eq_true e2⟩
    unfold cntP at hk ⊢
    omega
theorem Up.rnd {F : Fig} {s : List Int} {q p p' : Nat → Int} (ok : FigOk F) (so : SetOk F s) (u : Up F s q p) (r : Rnd F q p p') : Up F s q p' :=
  ⟨r.lo, fun j hj => Int.le_trans (r.hi j hj) (u.f j hj), fun x hx => Int.le_trans (r.hi x.1 (zip_in ok so x hx).1) (u.t x hx)⟩
end DI

/-! M8: the law's own pose, reckoned. -/
namespace DI
open PySem
def mnI (a b : Int) : Int := if b < a then b else a
theorem mn_le (a b : Int) : mnI a b ≤ a ∧ mnI a b ≤ b := by unfold mnI; split <;> omega
theorem mn_of (a b c : Int) (h1 : c ≤ a) (h2 : c ≤ b) : c ≤ mnI a b := by unfold mnI; split <;> omega
def relB : Ss := (.cons (.pst (.tup (.cons (.b2 .min (.bix 2 (.nm 6)) (.op .add (.bix 2 (.nm 7)) (.nm 5))) (.cons (.b2 .min (.bix 2 (.nm 7)) (.op .add (.bix 2 (.nm 6)) (.nm 5))) .nil))) 2 (.nm 6) 2 (.nm 7)) .nil)
theorem row_upd {n : Nat} {p : Nat → Int} {i : Nat} {x : Int} : rowD n (updF (fun j => PyData.int (p j)) i (.int x)) = rowD n fun j => .int (updF p i x j) := rowD_congr fun j _ => by
  unfold updF; split <;> rfl
theorem rel_loop {Γ : Gm} {d d' : D} {F : Fig} {s : List Int} {q p : Nat → Int} {u : Sl} (ok : FigOk F) (h : IsPose F s q) (lo : ∀ j, j < F.n → q j ≤ p j) :
    ∃ ρ', forE Γ [5, 6, 7] (.tup [.nm 6, .nm 7, .nm 5]) relB (F.limbs.map limbD) [.sl 0 d, .sl 0 d', .sl 1 (.list (rowD F.n fun j => .int (p j))), u, .un, .un, .un, .un] = some (.nx ρ') ∧
      ∃ p', ρ' = [.sl 0 d, .sl 0 d', .sl 1 (.list (rowD F.n fun j => .int (p' j))), u, .un, .un, .un, .un] ∧ Rnd F q p p' := by
  obtain ⟨ρ', e, p', h1, h2, h3, h4⟩ := forE_inv (Γ := Γ) (kill := [5, 6, 7]) (tg := .tup [.nm 6, .nm 7, .nm 5]) (body := relB) (xs := F.limbs.map limbD) (ρ := [.sl 0 d, .sl 0 d', .sl 1 (.list (rowD F.n fun j => .int (p j))), u, .un, .un, .un, .un])
    (fun i ρ => ∃ p', ρ = [.sl 0 d, .sl 0 d', .sl 1 (.list (rowD F.n fun j => .int (p' j))), u, .un, .un, .un, .un] ∧ (∀ j, j < F.n → q j ≤ p' j) ∧ (∀ j, j < F.n → p' j ≤ p j) ∧ ∀ l ∈ F.limbs.take i, p' l.1 ≤ p l.2.1 + l.2.2 ∧ p' l.2.1 ≤ p l.1 + l.2.2) (fun i x ρ hx e => by
    obtain ⟨g, rfl, g1, g2, g3⟩ := e
    rw [List.getElem?_map] at hx
    obtain ⟨⟨a, b, l⟩, hl, rfl⟩ := Option.map_eq_some_iff.mp hx
    have hm : (a, b, l) ∈ F.limbs := List.mem_of_getElem? hl
    obtain ⟨q1, q2, q3, q4⟩ := ok.lo _ hm
    have hs := h.st.l _ hm
    simp only at q1 q2 q3 q4 hs
    have ha : a < F.n := by omega
    unfold relB limbD
    simp (config := { decide := false, maxSteps := 1000000 }) only [exs_nil, exs_cons, nxt_nx, nxt_rt, nxt_bk, nxt_ct, ex_for, ex_while, ev_comp, ev_nm, ev_int, ev_bl, ev_non, ev_str, ev_glb, ev_op, ev_neg, ev_tst, ev_ife, ev_tup, ev_lst, ev_ix, ev_bix, ev_bix2, ev_slc, ev_call, ev_cio, ev_b1, ev_dnew, ev_blen, ev_b2, ev_isi, evs_nil, evs_cons, evo_no, evo_yes, evT_ex, evT_cm, evT_chn, evT_not, evT_and, evT_or, evA_nil, evA_cons, evR_nil, evR_cons, evI_ex, evI_rng1, evI_rng2, evI_enm, evI_zip, ex_set, ex_tset, ex_par, ex_par3, ex_aug, ex_ixset, ex_pst, ex_ixset2, ex_ixset22, ex_app, ex_expr, ex_ret, ex_retN, ex_ite, ex_brk, ex_cont, ex_pass, ex_never, mb_some, mb_none, gt_zero, gt_succ, st_zero, st_succ, wp, bk, rdN, ow1, ow01, ow2, setable, setS, set1, set2, up1, bnd, bnds, isiD, outF, ioOf, atI0, atI1, atI2, atI3, ixN0, ixN1, len0, len1, len2, len3, len4, len5, len6, len7, len8, len9, List.length_cons, List.length_nil, List.length_map, List.length_append, Nat.zero_add, Nat.reduceAdd, set0, set1', opD_add, opD_sub, opD_mul, opD_fdiv, opD_mod, opD_pow, opD_addT, opD_addL, opD_mulL, opD_mulT, lvD_int, lvD_bool, lvD_str, lvD_tuple, lvD_dict, lvD_none, lvD_list, b1_lenL, b1_lenT, b1_lenD, b1_lenK, b1_abs, b1_int, b1_tupL, b1_tupT, b1_lstL, b1_lstT, b1_lstS, b1_all, b1_any, b1_str, b1_srtL, b1_srtD, b2_min, b2_max, cm_eq, cm_ne, cm_lt, cm_le, cm_gt, cm_ge, cm_ltT, cm_is_int, cm_isN_int, cm_is_tuple, cm_isN_tuple, cm_is_list, cm_isN_list, cm_is_bool, cm_isN_bool, cm_is_str, cm_isN_str, cm_is_none, cm_isN_none, cm_isb, cm_isNb, ix_L, ix_T, sl_L, sl_T, st_L, Option.bind_some, Option.map_some, Option.bind_none, Option.map_none, if_true, if_false, ↓reduceIte, Bool.and_true, Bool.true_and, Bool.and_false, Bool.false_and, Bool.not_true, Bool.not_false, decide_true, decide_false, decide_not, Bool.false_eq_true, atI_row ha, atI_row q2, rowD_len, ixN_nat ha, ixN_nat q2, rowD_set ha, rowD_set q2, row_upd]
    refine W_some.mpr ?_
    refine ⟨_, rfl, updF (updF g a (mnI (g a) (g b + l))) b (mnI (g b) (g a + l)), rfl, ?_⟩
    have m1 := mn_le (g a) (g b + l)
    have m2 := mn_le (g b) (g a + l)
    have ga := g1 a ha
    have gb := g1 b q2
    have pa := g2 a ha
    have pb := g2 b q2
    have hab : a ≠ b := by omega
    have va : updF (updF g a (mnI (g a) (g b + l))) b (mnI (g b) (g a + l)) a = mnI (g a) (g b + l) := by unfold updF; rw [if_neg hab, if_pos rfl]
    have vb : updF (updF g a (mnI (g a) (g b + l))) b (mnI (g b) (g a + l)) b = mnI (g b) (g a + l) := by unfold updF; rw [if_pos rfl]
    have vo : ∀ j, j ≠ a → j ≠ b → updF (updF g a (mnI (g a) (g b + l))) b (mnI (g b) (g a + l)) j = g j := fun j h1 h2 => by unfold updF; rw [if_neg h2, if_neg h1]
    have le : ∀ j, j < F.n → updF (updF g a (mnI (g a) (g b + l))) b (mnI (g b) (g a + l)) j ≤ g j := fun j hj => by
      by_cases c : j = a
      · subst c; rw [va]; exact m1.1
      · by_cases c2 : j = b
        · subst c2; rw [vb]; exact m2.1
        · rw [vo j c c2]; exact Int.le_refl _
    refine ⟨fun j hj => ?_, fun j hj => Int.le_trans (le j hj) (g2 j hj), fun m hmm => ?_⟩
    · by_cases c : j = a
      · subst c; rw [va]; exact mn_of _ _ _ ga (by omega)
      · by_cases c2 : j = b
        · subst c2; rw [vb]; exact mn_of _ _ _ gb (by omega)
        · rw [vo j c c2]; exact g1 j hj
    · rw [List.take_succ, hl] at hmm
      rcases List.mem_append.mp hmm with hh | hh
      · obtain ⟨z1, z2⟩ := g3 m hh
        obtain ⟨w1, w2, w3, w4⟩ := ok.lo m (List.mem_of_mem_take hh)
        exact ⟨Int.le_trans (le _ (by omega)) z1, Int.le_trans (le _ w2) z2⟩
      · have e : m = (a, b, l) := by simpa using hh
        subst e
        simp only
        rw [va, vb]
        omega) ⟨p, rfl, lo, fun j _ => Int.le_refl _, (fun l hl => by simp at hl)⟩
  refine ⟨ρ', e, p', h1, h2, h3, ?_⟩
  rw [List.length_map, List.take_of_length_le (Nat.le_refl _)] at h4
  exact h4
def rndB : Ss := (.cons (.for [5, 6, 7] (.tup [(.nm 6), (.nm 7), (.nm 5)]) (.ex (.ix (.nm 0) (.int 1))) relB) .nil)
theorem rnd_loop {Γ : Gm} {d' : D} {F : Fig} {s : List Int} {q p : Nat → Int} (ok : FigOk F) (so : SetOk F s) (h : IsPose F s q) (u : Up F s q p) :
    ∃ ρ', forE Γ [3, 5, 6, 7] (.nm 3) rndB (rngD F.n 0) [.sl 0 (figD F), .sl 0 d', .sl 1 (.list (rowD F.n fun j => .int (p j))), .un, .un, .un, .un, .un] = some (.nx ρ') ∧
      ρ' = [.sl 0 (figD F), .sl 0 d', .sl 1 (.list (rowD F.n fun j => .int (q j))), .un, .un, .un, .un, .un] := by
  obtain ⟨ρ', e, p', rfl, u', h'⟩ := forE_rng (Γ := Γ) (kill := [3, 5, 6, 7]) (tg := .nm 3) (body := rndB) (n := F.n) (lo := 0) (ρ := [.sl 0 (figD F), .sl 0 d', .sl 1 (.list (rowD F.n fun j => .int (p j))), .un, .un, .un, .un, .un])
    (fun k ρ => ∃ p', ρ = [.sl 0 (figD F), .sl 0 d', .sl 1 (.list (rowD F.n fun j => .int (p' j))), .un, .un, .un, .un, .un] ∧ Up F s q p' ∧ ((∀ j, j < F.n → p' j = q j) ∨ k ≤ cntP F.n q p')) (fun k ρ hk e => by
      obtain ⟨g, rfl, gu, gk⟩ := e
      obtain ⟨ρ', e, p', rfl, r⟩ := rel_loop (Γ := Γ) (d := figD F) (d' := d') (u := .sl 0 (.int (0 + (k : Int)))) ok h gu.lo
      unfold rndB
      have d1 := d1_fig F
      generalize figD F = d at d1 e ⊢
      simp (config := { decide := false, maxSteps := 1000000 }) only [exs_nil, exs_cons, nxt_nx, nxt_rt, nxt_bk, nxt_ct, ex_for, ex_while, ev_comp, ev_nm, ev_int, ev_bl, ev_non, ev_str, ev_glb, ev_op, ev_neg, ev_tst, ev_ife, ev_tup, ev_lst, ev_ix, ev_bix, ev_bix2, ev_slc, ev_call, ev_cio, ev_b1, ev_dnew, ev_blen, ev_b2, ev_isi, evs_nil, evs_cons, evo_no, evo_yes, evT_ex, evT_cm, evT_chn, evT_not, evT_and, evT_or, evA_nil, evA_cons, evR_nil, evR_cons, evI_ex, evI_rng1, evI_rng2, evI_enm, evI_zip, ex_set, ex_tset, ex_par, ex_par3, ex_aug, ex_ixset, ex_pst, ex_ixset2, ex_ixset22, ex_app, ex_expr, ex_ret, ex_retN, ex_ite, ex_brk, ex_cont, ex_pass, ex_never, mb_some, mb_none, gt_zero, gt_succ, st_zero, st_succ, wp, bk, rdN, ow1, ow01, ow2, setable, setS, set1, set2, up1, bnd, bnds, isiD, outF, ioOf, atI0, atI1, atI2, atI3, ixN0, ixN1, len0, len1, len2, len3, len4, len5, len6, len7, len8, len9, List.length_cons, List.length_nil, List.length_map, List.length_append, Nat.zero_add, Nat.reduceAdd, set0, set1', opD_add, opD_sub, opD_mul, opD_fdiv, opD_mod, opD_pow, opD_addT, opD_addL, opD_mulL, opD_mulT, lvD_int, lvD_bool, lvD_str, lvD_tuple, lvD_dict, lvD_none, lvD_list, b1_lenL, b1_lenT, b1_lenD, b1_lenK, b1_abs, b1_int, b1_tupL, b1_tupT, b1_lstL, b1_lstT, b1_lstS, b1_all, b1_any, b1_str, b1_srtL, b1_srtD, b2_min, b2_max, cm_eq, cm_ne, cm_lt, cm_le, cm_gt, cm_ge, cm_ltT, cm_is_int, cm_isN_int, cm_is_tuple, cm_isN_tuple, cm_is_list, cm_isN_list, cm_is_bool, cm_isN_bool, cm_is_str, cm_isN_str, cm_is_none, cm_isN_none, cm_isb, cm_isNb, ix_L, ix_T, sl_L, sl_T, st_L, Option.bind_some, Option.map_some, Option.bind_none, Option.map_none, if_true, if_false, ↓reduceIte, Bool.and_true, Bool.true_and, Bool.and_false, Bool.false_and, Bool.not_true, Bool.not_false, decide_true, decide_false, decide_not, Bool.false_eq_true, d1, e]
      refine W_some.mpr ?_
      exact ⟨_, rfl, p', rfl, gu.rnd ok so r, cnt_step ok so h gu r gk⟩) ⟨p, rfl, u, .inr (Nat.zero_le _)⟩
  refine ⟨_, e, ?_⟩
  have all : ∀ j, j < F.n → p' j = q j := h'.elim id fun z => cnt_all z
  rw [show (rowD F.n fun j => PyData.int (p' j)) = rowD F.n fun j => .int (q j) from rowD_congr fun j hj => by rw [all j hj]]
def tieB : Ss := (.cons (.ixset 2 (.nm 4) (.b2 .min (.bix 2 (.nm 4)) (.nm 5))) .nil)
theorem tie_loop {Γ : Gm} {d d' : D} {F : Fig} {s : List Int} {q : Nat → Int} (ok : FigOk F) (so : SetOk F s) (h : IsPose F s q) :
    ∃ ρ', forE Γ [4, 5] (.tup [.nm 4, .nm 5]) tieB ((F.ties.zip s).map fun p => PyData.tuple [natD p.1, .int p.2]) [.sl 0 d, .sl 0 d', .sl 1 (.list (rowD F.n fun j => .int F.floor)), .un, .un, .un, .un, .un] = some (.nx ρ') ∧
      ∃ p, ρ' = [.sl 0 d, .sl 0 d', .sl 1 (.list (rowD F.n fun j => .int (p j))), .un, .un, .un, .un, .un] ∧ Up F s q p := by
  obtain ⟨ρ', e, p', h1, h2, h3, h4⟩ := forE_inv (Γ := Γ) (kill := [4, 5]) (tg := .tup [.nm 4, .nm 5]) (body := tieB) (xs := (F.ties.zip s).map fun p => PyData.tuple [natD p.1, .int p.2]) (ρ := [.sl 0 d, .sl 0 d', .sl 1 (.list (rowD F.n fun j => .int F.floor)), .un, .un, .un, .un, .un])
    (fun i ρ => ∃ p, ρ = [.sl 0 d, .sl 0 d', .sl 1 (.list (rowD F.n fun j => .int (p j))), .un, .un, .un, .un, .un] ∧ (∀ j, j < F.n → q j ≤ p j) ∧ (∀ j, j < F.n → p j ≤ F.floor) ∧ ∀ x ∈ (F.ties.zip s).take i, p x.1 ≤ x.2) (fun i x ρ hx e => by
    obtain ⟨g, rfl, g1, g2, g3⟩ := e
    rw [List.getElem?_map] at hx
    obtain ⟨⟨t, v⟩, hl, rfl⟩ := Option.map_eq_some_iff.mp hx
    have hm : (t, v) ∈ F.ties.zip s := List.mem_of_getElem? hl
    obtain ⟨z1, z2, z3⟩ := zip_in ok so _ hm
    have hs := h.st.t _ hm
    simp only at z1 z2 z3 hs
    unfold tieB natD
    simp (config := { decide := false, maxSteps := 1000000 }) only [exs_nil, exs_cons, nxt_nx, nxt_rt, nxt_bk, nxt_ct, ex_for, ex_while, ev_comp, ev_nm, ev_int, ev_bl, ev_non, ev_str, ev_glb, ev_op, ev_neg, ev_tst, ev_ife, ev_tup, ev_lst, ev_ix, ev_bix, ev_bix2, ev_slc, ev_call, ev_cio, ev_b1, ev_dnew, ev_blen, ev_b2, ev_isi, evs_nil, evs_cons, evo_no, evo_yes, evT_ex, evT_cm, evT_chn, evT_not, evT_and, evT_or, evA_nil, evA_cons, evR_nil, evR_cons, evI_ex, evI_rng1, evI_rng2, evI_enm, evI_zip, ex_set, ex_tset, ex_par, ex_par3, ex_aug, ex_ixset, ex_pst, ex_ixset2, ex_ixset22, ex_app, ex_expr, ex_ret, ex_retN, ex_ite, ex_brk, ex_cont, ex_pass, ex_never, mb_some, mb_none, gt_zero, gt_succ, st_zero, st_succ, wp, bk, rdN, ow1, ow01, ow2, setable, setS, set1, set2, up1, bnd, bnds, isiD, outF, ioOf, atI0, atI1, atI2, atI3, ixN0, ixN1, len0, len1, len2, len3, len4, len5, len6, len7, len8, len9, List.length_cons, List.length_nil, List.length_map, List.length_append, Nat.zero_add, Nat.reduceAdd, set0, set1', opD_add, opD_sub, opD_mul, opD_fdiv, opD_mod, opD_pow, opD_addT, opD_addL, opD_mulL, opD_mulT, lvD_int, lvD_bool, lvD_str, lvD_tuple, lvD_dict, lvD_none, lvD_list, b1_lenL, b1_lenT, b1_lenD, b1_lenK, b1_abs, b1_int, b1_tupL, b1_tupT, b1_lstL, b1_lstT, b1_lstS, b1_all, b1_any, b1_str, b1_srtL, b1_srtD, b2_min, b2_max, cm_eq, cm_ne, cm_lt, cm_le, cm_gt, cm_ge, cm_ltT, cm_is_int, cm_isN_int, cm_is_tuple, cm_isN_tuple, cm_is_list, cm_isN_list, cm_is_bool, cm_isN_bool, cm_is_str, cm_isN_str, cm_is_none, cm_isN_none, cm_isb, cm_isNb, ix_L, ix_T, sl_L, sl_T, st_L, Option.bind_some, Option.map_some, Option.bind_none, Option.map_none, if_true, if_false, ↓reduceIte, Bool.and_true, Bool.true_and, Bool.and_false, Bool.false_and, Bool.not_true, Bool.not_false, decide_true, decide_false, decide_not, Bool.false_eq_true, atI_row z1, rowD_len, ixN_nat z1, rowD_set z1, row_upd]
    refine W_some.mpr ?_
    refine ⟨_, rfl, updF g t (mnI (g t) v), rfl, ?_⟩
    have m1 := mn_le (g t) v
    have vt : updF g t (mnI (g t) v) t = mnI (g t) v := by unfold updF; rw [if_pos rfl]
    have vo : ∀ j, j ≠ t → updF g t (mnI (g t) v) j = g j := fun j h1 => by unfold updF; rw [if_neg h1]
    refine ⟨fun j hj => ?_, fun j hj => ?_, fun m hmm => ?_⟩
    · by_cases c : j = t
      · subst c; rw [vt]; exact mn_of _ _ _ (g1 j hj) hs
      · rw [vo j c]; exact g1 j hj
    · by_cases c : j = t
      · subst c; rw [vt]; have := g2 j hj; omega
      · rw [vo j c]; exact g2 j hj
    · rw [List.take_succ, hl] at hmm
      rcases List.mem_append.mp hmm with hh | hh
      · have := g3 m hh
        by_cases c : m.1 = t
        · rw [c, vt]; rw [c] at this; omega
        · rw [vo _ c]; exact this
      · have e : m = (t, v) := by simpa using hh
        subst e
        simp only
        rw [vt]; exact m1.2) ⟨fun _ => F.floor, rfl, (fun j hj => (h.st.b j hj).2), (fun j _ => Int.le_refl _), (fun l hl => by simp at hl)⟩
  refine ⟨ρ', e, p', h1, h2, h3, ?_⟩
  rw [List.length_map, List.take_of_length_le (Nat.le_refl _)] at h4
  exact h4
theorem rep_row (n : Nat) (x : D) : repD n [x] = rowD n fun _ => x := by
  unfold repD rowD
  induction n with
  | zero => rfl
  | succ n ih => rw [List.replicate_succ, List.flatten_cons, ih, List.range_succ_eq_map, List.map_cons, List.map_map]; rfl
theorem rep_ok {l n : Nat} (h : l * n ≤ 2 ^ 24) (hn : n ≤ 2 ^ 24) : repOk l (n : Int) = true := by
  have h1 : decide (-(2 ^ 63) ≤ (n : Int)) = true := decide_eq_true (by omega)
  have h2 : decide ((n : Int) < 2 ^ 63) = true := decide_eq_true (by omega)
  have h3 : lenOk (l * (n : Int).toNat) = true := by rw [Int.toNat_natCast]; exact len_ok h
  unfold repOk
  rw [h1, h2, h3]
  exact rfl
theorem rep_ev {Γ : Gm} {d : D} {n : Nat} {x : Int} {r : Ev} (d0 : ixD d (.int 0) = some (.int n)) (d3 : ixD d (.int 3) = some (.int x)) (hn : n ≤ 8) :
    ev Γ (.op .mul (.lst (.cons (.ix (.nm 0) (.int 3)) .nil)) (.ix (.nm 0) (.int 0))) (.sl 0 d :: r) = some ((.list (rowD n fun _ => .int x), 1), .sl 0 d :: r) := by
  have h1 : ev Γ (.lst (.cons (.ix (.nm 0) (.int 3)) .nil)) (.sl 0 d :: r) = some ((.list [.int x], 1), .sl 0 d :: r) := by simp (config := { decide := false, maxSteps := 1000000 }) only [exs_nil, exs_cons, nxt_nx, nxt_rt, nxt_bk, nxt_ct, ex_for, ex_while, ev_comp, ev_nm, ev_int, ev_bl, ev_non, ev_str, ev_glb, ev_op, ev_neg, ev_tst, ev_ife, ev_tup, ev_lst, ev_ix, ev_bix, ev_bix2, ev_slc, ev_call, ev_cio, ev_b1, ev_dnew, ev_blen, ev_b2, ev_isi, evs_nil, evs_cons, evo_no, evo_yes, evT_ex, evT_cm, evT_chn, evT_not, evT_and, evT_or, evA_nil, evA_cons, evR_nil, evR_cons, evI_ex, evI_rng1, evI_rng2, evI_enm, evI_zip, ex_set, ex_tset, ex_par, ex_par3, ex_aug, ex_ixset, ex_pst, ex_ixset2, ex_ixset22, ex_app, ex_expr, ex_ret, ex_retN, ex_ite, ex_brk, ex_cont, ex_pass, ex_never, mb_some, mb_none, gt_zero, gt_succ, st_zero, st_succ, wp, bk, rdN, ow1, ow01, ow2, setable, setS, set1, set2, up1, bnd, bnds, isiD, outF, ioOf, atI0, atI1, atI2, atI3, ixN0, ixN1, len0, len1, len2, len3, len4, len5, len6, len7, len8, len9, List.length_cons, List.length_nil, List.length_map, List.length_append, Nat.zero_add, Nat.reduceAdd, set0, set1', opD_add, opD_sub, opD_mul, opD_fdiv, opD_mod, opD_pow, opD_addT, opD_addL, opD_mulL, opD_mulT, lvD_int, lvD_bool, lvD_str, lvD_tuple, lvD_dict, lvD_none, lvD_list, b1_lenL, b1_lenT, b1_lenD, b1_lenK, b1_abs, b1_int, b1_tupL, b1_tupT, b1_lstL, b1_lstT, b1_lstS, b1_all, b1_any, b1_str, b1_srtL, b1_srtD, b2_min, b2_max, cm_eq, cm_ne, cm_lt, cm_le, cm_gt, cm_ge, cm_ltT, cm_is_int, cm_isN_int, cm_is_tuple, cm_isN_tuple, cm_is_list, cm_isN_list, cm_is_bool, cm_isN_bool, cm_is_str, cm_isN_str, cm_is_none, cm_isN_none, cm_isb, cm_isNb, ix_L, ix_T, sl_L, sl_T, st_L, Option.bind_some, Option.map_some, Option.bind_none, Option.map_none, if_true, if_false, ↓reduceIte, Bool.and_true, Bool.true_and, Bool.and_false, Bool.false_and, Bool.not_true, Bool.not_false, decide_true, decide_false, decide_not, Bool.false_eq_true, d3]
  have h2 : ev Γ (.ix (.nm 0) (.int 0)) (.sl 0 d :: r) = some ((.int n, 0), .sl 0 d :: r) := by simp (config := { decide := false, maxSteps := 1000000 }) only [exs_nil, exs_cons, nxt_nx, nxt_rt, nxt_bk, nxt_ct, ex_for, ex_while, ev_comp, ev_nm, ev_int, ev_bl, ev_non, ev_str, ev_glb, ev_op, ev_neg, ev_tst, ev_ife, ev_tup, ev_lst, ev_ix, ev_bix, ev_bix2, ev_slc, ev_call, ev_cio, ev_b1, ev_dnew, ev_blen, ev_b2, ev_isi, evs_nil, evs_cons, evo_no, evo_yes, evT_ex, evT_cm, evT_chn, evT_not, evT_and, evT_or, evA_nil, evA_cons, evR_nil, evR_cons, evI_ex, evI_rng1, evI_rng2, evI_enm, evI_zip, ex_set, ex_tset, ex_par, ex_par3, ex_aug, ex_ixset, ex_pst, ex_ixset2, ex_ixset22, ex_app, ex_expr, ex_ret, ex_retN, ex_ite, ex_brk, ex_cont, ex_pass, ex_never, mb_some, mb_none, gt_zero, gt_succ, st_zero, st_succ, wp, bk, rdN, ow1, ow01, ow2, setable, setS, set1, set2, up1, bnd, bnds, isiD, outF, ioOf, atI0, atI1, atI2, atI3, ixN0, ixN1, len0, len1, len2, len3, len4, len5, len6, len7, len8, len9, List.length_cons, List.length_nil, List.length_map, List.length_append, Nat.zero_add, Nat.reduceAdd, set0, set1', opD_add, opD_sub, opD_mul, opD_fdiv, opD_mod, opD_pow, opD_addT, opD_addL, opD_mulL, opD_mulT, lvD_int, lvD_bool, lvD_str, lvD_tuple, lvD_dict, lvD_none, lvD_list, b1_lenL, b1_lenT, b1_lenD, b1_lenK, b1_abs, b1_int, b1_tupL, b1_tupT, b1_lstL, b1_lstT, b1_lstS, b1_all, b1_any, b1_str, b1_srtL, b1_srtD, b2_min, b2_max, cm_eq, cm_ne, cm_lt, cm_le, cm_gt, cm_ge, cm_ltT, cm_is_int, cm_isN_int, cm_is_tuple, cm_isN_tuple, cm_is_list, cm_isN_list, cm_is_bool, cm_isN_bool, cm_is_str, cm_isN_str, cm_is_none, cm_isN_none, cm_isb, cm_isNb, ix_L, ix_T, sl_L, sl_T, st_L, Option.bind_some, Option.map_some, Option.bind_none, Option.map_none, if_true, if_false, ↓reduceIte, Bool.and_true, Bool.true_and, Bool.and_false, Bool.false_and, Bool.not_true, Bool.not_false, decide_true, decide_false, decide_not, Bool.false_eq_true, d0]
  have h3 : opD .mul (.list [.int x]) (.int n) = some (.list (rowD n fun _ => .int x)) := by
    have hr := rep_ok (l := 1) (n := n) (by omega) (by omega)
    rw [opD_mulL, show List.length [PyData.int x] = 1 from rfl, if_pos hr, Int.toNat_natCast, rep_row]
  rw [ev_op, h1, mb_some, h2, mb_some, h3, Option.map_some, lvD_list]
def LawPoseOk (S : Fn) : Prop := ∀ F s q, FigOk F → SetOk F s → IsPose F s q → S [figD F, intsD s] = some ⟨depD F.n q, 0, .none⟩
theorem lawPose_ok {Γ : Gm} : LawPoseOk (run Γ false 2 8 C.b_law_pose) := by
  intro F s q ok so h
  obtain ⟨ρ1, e1, p, rfl, u⟩ := tie_loop (Γ := Γ) (d := figD F) (d' := intsD s) ok so h
  obtain ⟨ρ2, e2, rfl⟩ := rnd_loop (Γ := Γ) (d' := intsD s) ok so h u
  rw [run2]
  unfold C.b_law_pose depD
  simp only [ent, List.map_cons, List.map_nil, List.cons_append, List.nil_append, List.length_cons, List.length_nil, List.replicate_succ, List.replicate_zero, Nat.reduceAdd, Nat.reduceSub, if_true, if_false, ↓reduceIte, Bool.false_eq_true]
  have d0 := d0_fig F
  have d2 := d2_fig F
  have d3 := d3_fig F
  have hn := ok.n8
  unfold tieB at e1
  unfold rndB relB at e2
  unfold intsD at e1 e2 ⊢
  generalize figD F = d at d0 d2 d3 e1 e2 ⊢
  rw [exs_cons, ex_set, rep_ev d0 d3 hn]
  simp (config := { decide := false, maxSteps := 1000000 }) only [exs_nil, exs_cons, nxt_nx, nxt_rt, nxt_bk, nxt_ct, ex_for, ex_while, ev_comp, ev_nm, ev_int, ev_bl, ev_non, ev_str, ev_glb, ev_op, ev_neg, ev_tst, ev_ife, ev_tup, ev_lst, ev_ix, ev_bix, ev_bix2, ev_slc, ev_call, ev_cio, ev_b1, ev_dnew, ev_blen, ev_b2, ev_isi, evs_nil, evs_cons, evo_no, evo_yes, evT_ex, evT_cm, evT_chn, evT_not, evT_and, evT_or, evA_nil, evA_cons, evR_nil, evR_cons, evI_ex, evI_rng1, evI_rng2, evI_enm, evI_zip, ex_set, ex_tset, ex_par, ex_par3, ex_aug, ex_ixset, ex_pst, ex_ixset2, ex_ixset22, ex_app, ex_expr, ex_ret, ex_retN, ex_ite, ex_brk, ex_cont, ex_pass, ex_never, mb_some, mb_none, gt_zero, gt_succ, st_zero, st_succ, wp, bk, rdN, ow1, ow01, ow2, setable, setS, set1, set2, up1, bnd, bnds, isiD, outF, ioOf, atI0, atI1, atI2, atI3, ixN0, ixN1, len0, len1, len2, len3, len4, len5, len6, len7, len8, len9, List.length_cons, List.length_nil, List.length_map, List.length_append, Nat.zero_add, Nat.reduceAdd, set0, set1', opD_add, opD_sub, opD_mul, opD_fdiv, opD_mod, opD_pow, opD_addT, opD_addL, opD_mulL, opD_mulT, lvD_int, lvD_bool, lvD_str, lvD_tuple, lvD_dict, lvD_none, lvD_list, b1_lenL, b1_lenT, b1_lenD, b1_lenK, b1_abs, b1_int, b1_tupL, b1_tupT, b1_lstL, b1_lstT, b1_lstS, b1_all, b1_any, b1_str, b1_srtL, b1_srtD, b2_min, b2_max, cm_eq, cm_ne, cm_lt, cm_le, cm_gt, cm_ge, cm_ltT, cm_is_int, cm_isN_int, cm_is_tuple, cm_isN_tuple, cm_is_list, cm_isN_list, cm_is_bool, cm_isN_bool, cm_is_str, cm_isN_str, cm_is_none, cm_isN_none, cm_isb, cm_isNb, ix_L, ix_T, sl_L, sl_T, st_L, Option.bind_some, Option.map_some, Option.bind_none, Option.map_none, if_true, if_false, ↓reduceIte, Bool.and_true, Bool.true_and, Bool.and_false, Bool.false_and, Bool.not_true, Bool.not_false, decide_true, decide_false, decide_not, Bool.false_eq_true, d0, d2, zipD_map, e1, rng_lenOk (n := F.n) (by omega), Int.toNat_natCast, e2]
end DI

/-! M9: _law_same at equal data; settings drawn. -/
namespace DI
open PySem
def cSame : Nat → Fn
  | 0 => fun _ => none
  | n + 1 => run (fun j => match j with | 0 => cSame n | _ => fun _ => none) false 2 3 C.b_law_same
def plainD : Nat → D → Prop
  | 0, _ => False
  | k + 1, d => match d with
    | .int _ => True
    | .bool _ => True
    | .none => True
    | .tuple xs => xs.length ≤ 2 ^ 24 ∧ ∀ x ∈ xs, plainD k x
    | _ => False
theorem eqv_int (i j : Int) : PyData.eqv (.int i) (.int j) = (i == j) := rfl
theorem shp_int (i : Int) : shp (.int i) = true := rfl
theorem same_refl : ∀ (k : Nat) (d : D), plainD k d → cSame k [d, d] = rB true
  | 0, _, h => h.elim
  | k + 1, d, h => by
    show run _ false 2 3 C.b_law_same [d, d] = _
    rw [run2]
    unfold C.b_law_same
    simp only [ent, List.map_cons, List.map_nil, List.cons_append, List.nil_append, List.length_cons, List.length_nil, List.replicate_succ, List.replicate_zero, Nat.reduceAdd, Nat.reduceSub, if_true, if_false, ↓reduceIte, Bool.false_eq_true]
    cases d with
    | int i =>
      simp (config := { decide := false, maxSteps := 1000000 }) only [exs_nil, exs_cons, nxt_nx, nxt_rt, nxt_bk, nxt_ct, ex_for, ex_while, ev_comp, ev_nm, ev_int, ev_bl, ev_non, ev_str, ev_glb, ev_op, ev_neg, ev_tst, ev_ife, ev_tup, ev_lst, ev_ix, ev_bix, ev_bix2, ev_slc, ev_call, ev_cio, ev_b1, ev_dnew, ev_blen, ev_b2, ev_isi, evs_nil, evs_cons, evo_no, evo_yes, evT_ex, evT_cm, evT_chn, evT_not, evT_and, evT_or, evA_nil, evA_cons, evR_nil, evR_cons, evI_ex, evI_rng1, evI_rng2, evI_enm, evI_zip, ex_set, ex_tset, ex_par, ex_par3, ex_aug, ex_ixset, ex_pst, ex_ixset2, ex_ixset22, ex_app, ex_expr, ex_ret, ex_retN, ex_ite, ex_brk, ex_cont, ex_pass, ex_never, mb_some, mb_none, gt_zero, gt_succ, st_zero, st_succ, wp, bk, rdN, ow1, ow01, ow2, setable, setS, set1, set2, up1, bnd, bnds, isiD, outF, ioOf, atI0, atI1, atI2, atI3, ixN0, ixN1, len0, len1, len2, len3, len4, len5, len6, len7, len8, len9, List.length_cons, List.length_nil, List.length_map, List.length_append, Nat.zero_add, Nat.reduceAdd, set0, set1', opD_add, opD_sub, opD_mul, opD_fdiv, opD_mod, opD_pow, opD_addT, opD_addL, opD_mulL, opD_mulT, lvD_int, lvD_bool, lvD_str, lvD_tuple, lvD_dict, lvD_none, lvD_list, b1_lenL, b1_lenT, b1_lenD, b1_lenK, b1_abs, b1_int, b1_tupL, b1_tupT, b1_lstL, b1_lstT, b1_lstS, b1_all, b1_any, b1_str, b1_srtL, b1_srtD, b2_min, b2_max, cm_eq, cm_ne, cm_lt, cm_le, cm_gt, cm_ge, cm_ltT, cm_is_int, cm_isN_int, cm_is_tuple, cm_isN_tuple, cm_is_list, cm_isN_list, cm_is_bool, cm_isN_bool, cm_is_str, cm_isN_str, cm_is_none, cm_isN_none, cm_isb, cm_isNb, ix_L, ix_T, sl_L, sl_T, st_L, Option.bind_some, Option.map_some, Option.bind_none, Option.map_none, if_true, if_false, ↓reduceIte, Bool.and_true, Bool.true_and, Bool.and_false, Bool.false_and, Bool.not_true, Bool.not_false, decide_true, decide_false, decide_not, Bool.false_eq_true, eqv_int, shp_int, BEq.rfl]
      rfl
    | bool b => cases b <;> (simp (config := { decide := false, maxSteps := 1000000 }) only [exs_nil, exs_cons, nxt_nx, nxt_rt, nxt_bk, nxt_ct, ex_for, ex_while, ev_comp, ev_nm, ev_int, ev_bl, ev_non, ev_str, ev_glb, ev_op, ev_neg, ev_tst, ev_ife, ev_tup, ev_lst, ev_ix, ev_bix, ev_bix2, ev_slc, ev_call, ev_cio, ev_b1, ev_dnew, ev_blen, ev_b2, ev_isi, evs_nil, evs_cons, evo_no, evo_yes, evT_ex, evT_cm, evT_chn, evT_not, evT_and, evT_or, evA_nil, evA_cons, evR_nil, evR_cons, evI_ex, evI_rng1, evI_rng2, evI_enm, evI_zip, ex_set, ex_tset, ex_par, ex_par3, ex_aug, ex_ixset, ex_pst, ex_ixset2, ex_ixset22, ex_app, ex_expr, ex_ret, ex_retN, ex_ite, ex_brk, ex_cont, ex_pass, ex_never, mb_some, mb_none, gt_zero, gt_succ, st_zero, st_succ, wp, bk, rdN, ow1, ow01, ow2, setable, setS, set1, set2, up1, bnd, bnds, isiD, outF, ioOf, atI0, atI1, atI2, atI3, ixN0, ixN1, len0, len1, len2, len3, len4, len5, len6, len7, len8, len9, List.length_cons, List.length_nil, List.length_map, List.length_append, Nat.zero_add, Nat.reduceAdd, set0, set1', opD_add, opD_sub, opD_mul, opD_fdiv, opD_mod, opD_pow, opD_addT, opD_addL, opD_mulL, opD_mulT, lvD_int, lvD_bool, lvD_str, lvD_tuple, lvD_dict, lvD_none, lvD_list, b1_lenL, b1_lenT, b1_lenD, b1_lenK, b1_abs, b1_int, b1_tupL, b1_tupT, b1_lstL, b1_lstT, b1_lstS, b1_all, b1_any, b1_str, b1_srtL, b1_srtD, b2_min, b2_max, cm_eq, cm_ne, cm_lt, cm_le, cm_gt, cm_ge, cm_ltT, cm_is_int, cm_isN_int, cm_is_tuple, cm_isN_tuple, cm_is_list, cm_isN_list, cm_is_bool, cm_isN_bool, cm_is_str, cm_isN_str, cm_is_none, cm_isN_none, cm_isb, cm_isNb, ix_L, ix_T, sl_L, sl_T, st_L, Option.bind_some, Option.map_some, Option.bind_none, Option.map_none, if_true, if_false, ↓reduceIte, Bool.and_true, Bool.true_and, Bool.and_false, Bool.false_and, Bool.not_true, Bool.not_false, decide_true, decide_false, decide_not, Bool.false_eq_true, BEq.rfl]; rfl)
    | none => simp (config := { decide := false, maxSteps := 1000000 }) only [exs_nil, exs_cons, nxt_nx, nxt_rt, nxt_bk, nxt_ct, ex_for, ex_while, ev_comp, ev_nm, ev_int, ev_bl, ev_non, ev_str, ev_glb, ev_op, ev_neg, ev_tst, ev_ife, ev_tup, ev_lst, ev_ix, ev_bix, ev_bix2, ev_slc, ev_call, ev_cio, ev_b1, ev_dnew, ev_blen, ev_b2, ev_isi, evs_nil, evs_cons, evo_no, evo_yes, evT_ex, evT_cm, evT_chn, evT_not, evT_and, evT_or, evA_nil, evA_cons, evR_nil, evR_cons, evI_ex, evI_rng1, evI_rng2, evI_enm, evI_zip, ex_set, ex_tset, ex_par, ex_par3, ex_aug, ex_ixset, ex_pst, ex_ixset2, ex_ixset22, ex_app, ex_expr, ex_ret, ex_retN, ex_ite, ex_brk, ex_cont, ex_pass, ex_never, mb_some, mb_none, gt_zero, gt_succ, st_zero, st_succ, wp, bk, rdN, ow1, ow01, ow2, setable, setS, set1, set2, up1, bnd, bnds, isiD, outF, ioOf, atI0, atI1, atI2, atI3, ixN0, ixN1, len0, len1, len2, len3, len4, len5, len6, len7, len8, len9, List.length_cons, List.length_nil, List.length_map, List.length_append, Nat.zero_add, Nat.reduceAdd, set0, set1', opD_add, opD_sub, opD_mul, opD_fdiv, opD_mod, opD_pow, opD_addT, opD_addL, opD_mulL, opD_mulT, lvD_int, lvD_bool, lvD_str, lvD_tuple, lvD_dict, lvD_none, lvD_list, b1_lenL, b1_lenT, b1_lenD, b1_lenK, b1_abs, b1_int, b1_tupL, b1_tupT, b1_lstL, b1_lstT, b1_lstS, b1_all, b1_any, b1_str, b1_srtL, b1_srtD, b2_min, b2_max, cm_eq, cm_ne, cm_lt, cm_le, cm_gt, cm_ge, cm_ltT, cm_is_int, cm_isN_int, cm_is_tuple, cm_isN_tuple, cm_is_list, cm_isN_list, cm_is_bool, cm_isN_bool, cm_is_str, cm_isN_str, cm_is_none, cm_isN_none, cm_isb, cm_isNb, ix_L, ix_T, sl_L, sl_T, st_L, Option.bind_some, Option.map_some, Option.bind_none, Option.map_none, if_true, if_false, ↓reduceIte, Bool.and_true, Bool.true_and, Bool.and_false, Bool.false_and, Bool.not_true, Bool.not_false, decide_true, decide_false, decide_not, Bool.false_eq_true]; rfl
    | tuple xs =>
      obtain ⟨hl, hx⟩ := h
      simp (config := { decide := false, maxSteps := 1000000 }) only [exs_nil, exs_cons, nxt_nx, nxt_rt, nxt_bk, nxt_ct, ex_for, ex_while, ev_comp, ev_nm, ev_int, ev_bl, ev_non, ev_str, ev_glb, ev_op, ev_neg, ev_tst, ev_ife, ev_tup, ev_lst, ev_ix, ev_bix, ev_bix2, ev_slc, ev_call, ev_cio, ev_b1, ev_dnew, ev_blen, ev_b2, ev_isi, evs_nil, evs_cons, evo_no, evo_yes, evT_ex, evT_cm, evT_chn, evT_not, evT_and, evT_or, evA_nil, evA_cons, evR_nil, evR_cons, evI_ex, evI_rng1, evI_rng2, evI_enm, evI_zip, ex_set, ex_tset, ex_par, ex_par3, ex_aug, ex_ixset, ex_pst, ex_ixset2, ex_ixset22, ex_app, ex_expr, ex_ret, ex_retN, ex_ite, ex_brk, ex_cont, ex_pass, ex_never, mb_some, mb_none, gt_zero, gt_succ, st_zero, st_succ, wp, bk, rdN, ow1, ow01, ow2, setable, setS, set1, set2, up1, bnd, bnds, isiD, outF, ioOf, atI0, atI1, atI2, atI3, ixN0, ixN1, len0, len1, len2, len3, len4, len5, len6, len7, len8, len9, List.length_cons, List.length_nil, List.length_map, List.length_append, Nat.zero_add, Nat.reduceAdd, set0, set1', opD_add, opD_sub, opD_mul, opD_fdiv, opD_mod, opD_pow, opD_addT, opD_addL, opD_mulL, opD_mulT, lvD_int, lvD_bool, lvD_str, lvD_tuple, lvD_dict, lvD_none, lvD_list, b1_lenL, b1_lenT, b1_lenD, b1_lenK, b1_abs, b1_int, b1_tupL, b1_tupT, b1_lstL, b1_lstT, b1_lstS, b1_all, b1_any, b1_str, b1_srtL, b1_srtD, b2_min, b2_max, cm_eq, cm_ne, cm_lt, cm_le, cm_gt, cm_ge, cm_ltT, cm_is_int, cm_isN_int, cm_is_tuple, cm_isN_tuple, cm_is_list, cm_isN_list, cm_is_bool, cm_isN_bool, cm_is_str, cm_isN_str, cm_is_none, cm_isN_none, cm_isb, cm_isNb, ix_L, ix_T, sl_L, sl_T, st_L, Option.bind_some, Option.map_some, Option.bind_none, Option.map_none, if_true, if_false, ↓reduceIte, Bool.and_true, Bool.true_and, Bool.and_false, Bool.false_and, Bool.not_true, Bool.not_false, decide_true, decide_false, decide_not, Bool.false_eq_true, eqv_int, shp_int, BEq.rfl, rng_lenOk hl, Int.toNat_natCast]
      rw [compE_map (fun _ => .bool true)]
      rotate_left
      · intro x hx'
        rw [rngD_row] at hx'
        obtain ⟨i, hi, rfl⟩ := List.mem_map.mp hx'
        have hi := List.mem_range.mp hi
        rw [Int.zero_add]
        have e := same_refl k xs[i] (hx _ (List.getElem_mem hi))
        unfold rB at e
        simp (config := { decide := false, maxSteps := 1000000 }) only [exs_nil, exs_cons, nxt_nx, nxt_rt, nxt_bk, nxt_ct, ex_for, ex_while, ev_comp, ev_nm, ev_int, ev_bl, ev_non, ev_str, ev_glb, ev_op, ev_neg, ev_tst, ev_ife, ev_tup, ev_lst, ev_ix, ev_bix, ev_bix2, ev_slc, ev_call, ev_cio, ev_b1, ev_dnew, ev_blen, ev_b2, ev_isi, evs_nil, evs_cons, evo_no, evo_yes, evT_ex, evT_cm, evT_chn, evT_not, evT_and, evT_or, evA_nil, evA_cons, evR_nil, evR_cons, evI_ex, evI_rng1, evI_rng2, evI_enm, evI_zip, ex_set, ex_tset, ex_par, ex_par3, ex_aug, ex_ixset, ex_pst, ex_ixset2, ex_ixset22, ex_app, ex_expr, ex_ret, ex_retN, ex_ite, ex_brk, ex_cont, ex_pass, ex_never, mb_some, mb_none, gt_zero, gt_succ, st_zero, st_succ, wp, bk, rdN, ow1, ow01, ow2, setable, setS, set1, set2, up1, bnd, bnds, isiD, outF, ioOf, atI0, atI1, atI2, atI3, ixN0, ixN1, len0, len1, len2, len3, len4, len5, len6, len7, len8, len9, List.length_cons, List.length_nil, List.length_map, List.length_append, Nat.zero_add, Nat.reduceAdd, set0, set1', opD_add, opD_sub, opD_mul, opD_fdiv, opD_mod, opD_pow, opD_addT, opD_addL, opD_mulL, opD_mulT, lvD_int, lvD_bool, lvD_str, lvD_tuple, lvD_dict, lvD_none, lvD_list, b1_lenL, b1_lenT, b1_lenD, b1_lenK, b1_abs, b1_int, b1_tupL, b1_tupT, b1_lstL, b1_lstT, b1_lstS, b1_all, b1_any, b1_str, b1_srtL, b1_srtD, b2_min, b2_max, cm_eq, cm_ne, cm_lt, cm_le, cm_gt, cm_ge, cm_ltT, cm_is_int, cm_isN_int, cm_is_tuple, cm_isN_tuple, cm_is_list, cm_isN_list, cm_is_bool, cm_isN_bool, cm_is_str, cm_isN_str, cm_is_none, cm_isN_none, cm_isb, cm_isNb, ix_L, ix_T, sl_L, sl_T, st_L, Option.bind_some, Option.map_some, Option.bind_none, Option.map_none, if_true, if_false, ↓reduceIte, Bool.and_true, Bool.true_and, Bool.and_false, Bool.false_and, Bool.not_true, Bool.not_false, decide_true, decide_false, decide_not, Bool.false_eq_true, atI_nat, List.getElem?_eq_getElem hi, e]
        exact W_some.mpr ⟨.inl trivial, rfl, rfl⟩
      simp (config := { decide := false, maxSteps := 1000000 }) only [exs_nil, exs_cons, nxt_nx, nxt_rt, nxt_bk, nxt_ct, ex_for, ex_while, ev_comp, ev_nm, ev_int, ev_bl, ev_non, ev_str, ev_glb, ev_op, ev_neg, ev_tst, ev_ife, ev_tup, ev_lst, ev_ix, ev_bix, ev_bix2, ev_slc, ev_call, ev_cio, ev_b1, ev_dnew, ev_blen, ev_b2, ev_isi, evs_nil, evs_cons, evo_no, evo_yes, evT_ex, evT_cm, evT_chn, evT_not, evT_and, evT_or, evA_nil, evA_cons, evR_nil, evR_cons, evI_ex, evI_rng1, evI_rng2, evI_enm, evI_zip, ex_set, ex_tset, ex_par, ex_par3, ex_aug, ex_ixset, ex_pst, ex_ixset2, ex_ixset22, ex_app, ex_expr, ex_ret, ex_retN, ex_ite, ex_brk, ex_cont, ex_pass, ex_never, mb_some, mb_none, gt_zero, gt_succ, st_zero, st_succ, wp, bk, rdN, ow1, ow01, ow2, setable, setS, set1, set2, up1, bnd, bnds, isiD, outF, ioOf, atI0, atI1, atI2, atI3, ixN0, ixN1, len0, len1, len2, len3, len4, len5, len6, len7, len8, len9, List.length_cons, List.length_nil, List.length_map, List.length_append, Nat.zero_add, Nat.reduceAdd, set0, set1', opD_add, opD_sub, opD_mul, opD_fdiv, opD_mod, opD_pow, opD_addT, opD_addL, opD_mulL, opD_mulT, lvD_int, lvD_bool, lvD_str, lvD_tuple, lvD_dict, lvD_none, lvD_list, b1_lenL, b1_lenT, b1_lenD, b1_lenK, b1_abs, b1_int, b1_tupL, b1_tupT, b1_lstL, b1_lstT, b1_lstS, b1_all, b1_any, b1_str, b1_srtL, b1_srtD, b2_min, b2_max, cm_eq, cm_ne, cm_lt, cm_le, cm_gt, cm_ge, cm_ltT, cm_is_int, cm_isN_int, cm_is_tuple, cm_isN_tuple, cm_is_list, cm_isN_list, cm_is_bool, cm_isN_bool, cm_is_str, cm_isN_str, cm_is_none, cm_isN_none, cm_isb, cm_isNb, ix_L, ix_T, sl_L, sl_T, st_L, Option.bind_some, Option.map_some, Option.bind_none, Option.map_none, if_true, if_false, ↓reduceIte, Bool.and_true, Bool.true_and, Bool.and_false, Bool.false_and, Bool.not_true, Bool.not_false, decide_true, decide_false, decide_not, Bool.false_eq_true, bools_const _ (fun _ => .bool true) (fun _ _ => rfl)]
      rfl
    | _ => exact h.elim
def SameOk (S : Fn) : Prop := ∀ d, plainD 8 d → S [d, d] = rB true
theorem same_ok : SameOk (cSame 8) := fun d h => same_refl 8 d h
theorem plain_row {k n : Nat} (hn : n ≤ 2 ^ 24) (f : Nat → Int) : plainD (k + 2) (.tuple (rowD n fun j => .int (f j))) := by
  refine ⟨by rw [rowD_len]; exact hn, fun x hx => ?_⟩
  unfold rowD at hx
  obtain ⟨i, _, rfl⟩ := List.mem_map.mp hx
  exact trivial
/-! ### settings -/
def SettingOk (S : Fn) : Prop := ∀ c F, CupOk c → FigOk F → ∃ s c', S [c, figD F] = some ⟨intsD s, 0, c'⟩ ∧ SetOk F s ∧ CupOk c'
theorem setting_ok {Γ : Gm} (h0 : SomeOk (Γ 0)) (h1 : RollOk (Γ 1)) : SettingOk (run Γ true 2 4 C.b_law_setting) := by
  intro c F hc ok
  rw [run2]
  unfold C.b_law_setting
  simp only [ent, List.map_cons, List.map_nil, List.cons_append, List.nil_append, List.length_cons, List.length_nil, List.replicate_succ, List.replicate_zero, Nat.reduceAdd, Nat.reduceSub, if_true, if_false, ↓reduceIte, Bool.false_eq_true]
  have d2 := d2_fig F
  have d3 := d3_fig F
  have f1 := ok.f1
  have f30 := ok.f30
  generalize figD F = d at d2 d3 ⊢
  simp (config := { decide := false, maxSteps := 1000000 }) only [exs_nil, exs_cons, nxt_nx, nxt_rt, nxt_bk, nxt_ct, ex_for, ex_while, ev_comp, ev_nm, ev_int, ev_bl, ev_non, ev_str, ev_glb, ev_op, ev_neg, ev_tst, ev_ife, ev_tup, ev_lst, ev_ix, ev_bix, ev_bix2, ev_slc, ev_call, ev_cio, ev_b1, ev_dnew, ev_blen, ev_b2, ev_isi, evs_nil, evs_cons, evo_no, evo_yes, evT_ex, evT_cm, evT_chn, evT_not, evT_and, evT_or, evA_nil, evA_cons, evR_nil, evR_cons, evI_ex, evI_rng1, evI_rng2, evI_enm, evI_zip, ex_set, ex_tset, ex_par, ex_par3, ex_aug, ex_ixset, ex_pst, ex_ixset2, ex_ixset22, ex_app, ex_expr, ex_ret, ex_retN, ex_ite, ex_brk, ex_cont, ex_pass, ex_never, mb_some, mb_none, gt_zero, gt_succ, st_zero, st_succ, wp, bk, rdN, ow1, ow01, ow2, setable, setS, set1, set2, up1, bnd, bnds, isiD, outF, ioOf, atI0, atI1, atI2, atI3, ixN0, ixN1, len0, len1, len2, len3, len4, len5, len6, len7, len8, len9, List.length_cons, List.length_nil, List.length_map, List.length_append, Nat.zero_add, Nat.reduceAdd, set0, set1', opD_add, opD_sub, opD_mul, opD_fdiv, opD_mod, opD_pow, opD_addT, opD_addL, opD_mulL, opD_mulT, lvD_int, lvD_bool, lvD_str, lvD_tuple, lvD_dict, lvD_none, lvD_list, b1_lenL, b1_lenT, b1_lenD, b1_lenK, b1_abs, b1_int, b1_tupL, b1_tupT, b1_lstL, b1_lstT, b1_lstS, b1_all, b1_any, b1_str, b1_srtL, b1_srtD, b2_min, b2_max, cm_eq, cm_ne, cm_lt, cm_le, cm_gt, cm_ge, cm_ltT, cm_is_int, cm_isN_int, cm_is_tuple, cm_isN_tuple, cm_is_list, cm_isN_list, cm_is_bool, cm_isN_bool, cm_is_str, cm_isN_str, cm_is_none, cm_isN_none, cm_isb, cm_isNb, ix_L, ix_T, sl_L, sl_T, st_L, Option.bind_some, Option.map_some, Option.bind_none, Option.map_none, if_true, if_false, ↓reduceIte, Bool.and_true, Bool.true_and, Bool.and_false, Bool.false_and, Bool.not_true, Bool.not_false, decide_true, decide_false, decide_not, Bool.false_eq_true, d2, d3]
  obtain ⟨ys, ρ', e, al, c', rfl, hc'⟩ := compE_st (Γ := Γ) (k := 0) (vs := [3]) (tg := .nm 3) (e := .cio 0 0 (.cons (.lst (.cons (.nm 2) (.cons (.int 0) (.cons (.cio 1 0 (.cons (.op .add (.nm 2) (.int 1)) .nil)) (.cons (.cio 1 0 (.cons (.op .add (.nm 2) (.int 1)) .nil)) (.cons (.cio 1 0 (.cons (.op .add (.nm 2) (.int 1)) .nil)) .nil)))))) .nil))
    (fun ρ => ∃ c', ρ = [.io c', .sl 0 d, .sl 0 (.int F.floor), .un] ∧ CupOk c') (fun _ y => ∃ i, y = .int i ∧ 0 ≤ i ∧ i ≤ F.floor) (xs := F.ties.map natD) (ρ := [.io c, .sl 0 d, .sl 0 (.int F.floor), .un])
    (fun x ρ hx hJ => by
      obtain ⟨c1, rfl, hc1⟩ := hJ
      obtain ⟨r1, c2, e1, a1, b1, hc2⟩ := h1 c1 (F.floor + 1) hc1 (by omega) (by omega)
      obtain ⟨r2, c3, e2, a2, b2, hc3⟩ := h1 c2 (F.floor + 1) hc2 (by omega) (by omega)
      obtain ⟨r3, c4, e3, a3, b3, hc4⟩ := h1 c3 (F.floor + 1) hc3 (by omega) (by omega)
      obtain ⟨y, c5, e4, hy, hc5⟩ := h0 c4 [.int F.floor, .int 0, .int r1, .int r2, .int r3] hc4 (by simp) (by simp)
      simp (config := { decide := false, maxSteps := 1000000 }) only [exs_nil, exs_cons, nxt_nx, nxt_rt, nxt_bk, nxt_ct, ex_for, ex_while, ev_comp, ev_nm, ev_int, ev_bl, ev_non, ev_str, ev_glb, ev_op, ev_neg, ev_tst, ev_ife, ev_tup, ev_lst, ev_ix, ev_bix, ev_bix2, ev_slc, ev_call, ev_cio, ev_b1, ev_dnew, ev_blen, ev_b2, ev_isi, evs_nil, evs_cons, evo_no, evo_yes, evT_ex, evT_cm, evT_chn, evT_not, evT_and, evT_or, evA_nil, evA_cons, evR_nil, evR_cons, evI_ex, evI_rng1, evI_rng2, evI_enm, evI_zip, ex_set, ex_tset, ex_par, ex_par3, ex_aug, ex_ixset, ex_pst, ex_ixset2, ex_ixset22, ex_app, ex_expr, ex_ret, ex_retN, ex_ite, ex_brk, ex_cont, ex_pass, ex_never, mb_some, mb_none, gt_zero, gt_succ, st_zero, st_succ, wp, bk, rdN, ow1, ow01, ow2, setable, setS, set1, set2, up1, bnd, bnds, isiD, outF, ioOf, atI0, atI1, atI2, atI3, ixN0, ixN1, len0, len1, len2, len3, len4, len5, len6, len7, len8, len9, List.length_cons, List.length_nil, List.length_map, List.length_append, Nat.zero_add, Nat.reduceAdd, set0, set1', opD_add, opD_sub, opD_mul, opD_fdiv, opD_mod, opD_pow, opD_addT, opD_addL, opD_mulL, opD_mulT, lvD_int, lvD_bool, lvD_str, lvD_tuple, lvD_dict, lvD_none, lvD_list, b1_lenL, b1_lenT, b1_lenD, b1_lenK, b1_abs, b1_int, b1_tupL, b1_tupT, b1_lstL, b1_lstT, b1_lstS, b1_all, b1_any, b1_str, b1_srtL, b1_srtD, b2_min, b2_max, cm_eq, cm_ne, cm_lt, cm_le, cm_gt, cm_ge, cm_ltT, cm_is_int, cm_isN_int, cm_is_tuple, cm_isN_tuple, cm_is_list, cm_isN_list, cm_is_bool, cm_isN_bool, cm_is_str, cm_isN_str, cm_is_none, cm_isN_none, cm_isb, cm_isNb, ix_L, ix_T, sl_L, sl_T, st_L, Option.bind_some, Option.map_some, Option.bind_none, Option.map_none, if_true, if_false, ↓reduceIte, Bool.and_true, Bool.true_and, Bool.and_false, Bool.false_and, Bool.not_true, Bool.not_false, decide_true, decide_false, decide_not, Bool.false_eq_true, e1, e2, e3, e4]
      refine W_some.mpr ?_
      refine ⟨.inl trivial, ?_, c5, rfl, hc5⟩
      simp only [List.mem_cons, List.not_mem_nil, or_false] at hy
      rcases hy with e | e | e | e | e <;> subst e <;> exact ⟨_, rfl, by omega, by omega⟩) ⟨c, rfl, hc⟩
  simp (config := { decide := false, maxSteps := 1000000 }) only [exs_nil, exs_cons, nxt_nx, nxt_rt, nxt_bk, nxt_ct, ex_for, ex_while, ev_comp, ev_nm, ev_int, ev_bl, ev_non, ev_str, ev_glb, ev_op, ev_neg, ev_tst, ev_ife, ev_tup, ev_lst, ev_ix, ev_bix, ev_bix2, ev_slc, ev_call, ev_cio, ev_b1, ev_dnew, ev_blen, ev_b2, ev_isi, evs_nil, evs_cons, evo_no, evo_yes, evT_ex, evT_cm, evT_chn, evT_not, evT_and, evT_or, evA_nil, evA_cons, evR_nil, evR_cons, evI_ex, evI_rng1, evI_rng2, evI_enm, evI_zip, ex_set, ex_tset, ex_par, ex_par3, ex_aug, ex_ixset, ex_pst, ex_ixset2, ex_ixset22, ex_app, ex_expr, ex_ret, ex_retN, ex_ite, ex_brk, ex_cont, ex_pass, ex_never, mb_some, mb_none, gt_zero, gt_succ, st_zero, st_succ, wp, bk, rdN, ow1, ow01, ow2, setable, setS, set1, set2, up1, bnd, bnds, isiD, outF, ioOf, atI0, atI1, atI2, atI3, ixN0, ixN1, len0, len1, len2, len3, len4, len5, len6, len7, len8, len9, List.length_cons, List.length_nil, List.length_map, List.length_append, Nat.zero_add, Nat.reduceAdd, set0, set1', opD_add, opD_sub, opD_mul, opD_fdiv, opD_mod, opD_pow, opD_addT, opD_addL, opD_mulL, opD_mulT, lvD_int, lvD_bool, lvD_str, lvD_tuple, lvD_dict, lvD_none, lvD_list, b1_lenL, b1_lenT, b1_lenD, b1_lenK, b1_abs, b1_int, b1_tupL, b1_tupT, b1_lstL, b1_lstT, b1_lstS, b1_all, b1_any, b1_str, b1_srtL, b1_srtD, b2_min, b2_max, cm_eq, cm_ne, cm_lt, cm_le, cm_gt, cm_ge, cm_ltT, cm_is_int, cm_isN_int, cm_is_tuple, cm_isN_tuple, cm_is_list, cm_isN_list, cm_is_bool, cm_isN_bool, cm_is_str, cm_isN_str, cm_is_none, cm_isN_none, cm_isb, cm_isNb, ix_L, ix_T, sl_L, sl_T, st_L, Option.bind_some, Option.map_some, Option.bind_none, Option.map_none, if_true, if_false, ↓reduceIte, Bool.and_true, Bool.true_and, Bool.and_false, Bool.false_and, Bool.not_true, Bool.not_false, decide_true, decide_false, decide_not, Bool.false_eq_true, e]
  obtain ⟨s, rfl, hl, hb⟩ : ∃ s : List Int, ys = s.map PyData.int ∧ s.length = F.ties.length ∧ ∀ x ∈ s, 0 ≤ x ∧ x ≤ F.floor := by
    clear e
    generalize F.ties = ts at al
    induction ts generalizing ys with
    | nil => cases al; exact ⟨[], rfl, rfl, fun _ h => by cases h⟩
    | cons t ts ih =>
      cases al with
      | cons hp tl =>
        obtain ⟨i, rfl, h1, h2⟩ := hp
        obtain ⟨s, rfl, h3, h4⟩ := ih _ tl
        refine ⟨i :: s, rfl, by simp [h3], fun x hx => ?_⟩
        rcases List.mem_cons.mp hx with e | e
        · subst e; exact ⟨h1, h2⟩
        · exact h4 x e
  exact ⟨s, _, rfl, ⟨hl, hb⟩, hc'⟩
end DI

/-! M10: figures drawn. -/
namespace DI
open PySem
abbrev KV3 := List ((Int × Int) × Int)
def kvD (kv : KV3) : List (D × D) := kv.map fun q => (pairD q.1, .int q.2)
def kdD (kv : KV3) : D := .dict ((.bool false, .none) :: kvD kv)
def putP (kv : KV3) (k : Int × Int) (v : Int) : KV3 := if kv.any (fun q => decide (q.1 = k)) then kv.map (fun q => if q.1 = k then (q.1, v) else q) else kv ++ [(k, v)]
theorem eqv_pair (a b : Int × Int) : PyData.eqv (pairD a) (pairD b) = decide (a = b) := by
  show (PyData.eqv (.int a.1) (.int b.1) && (PyData.eqv (.int a.2) (.int b.2) && true)) = _
  rw [eqv_int, eqv_int, Bool.and_true]
  by_cases h1 : a.1 = b.1
  · by_cases h2 : a.2 = b.2
    · have : a = b := Prod.ext h1 h2
      subst this; simp
    · have : ¬ a = b := fun e => h2 (by rw [e])
      rw [decide_eq_false this]; simp [h2]
  · have : ¬ a = b := fun e => h1 (by rw [e])
    rw [decide_eq_false this]; simp [h1]
theorem dput_kv (kv : KV3) (k : Int × Int) (v : Int) : dput (pairD k) (.int v) (kvD kv) = kvD (putP kv k v) := by
  have h1 : (kvD kv).any (fun p => PyData.eqv p.1 (pairD k)) = kv.any (fun q => decide (q.1 = k)) := by
    unfold kvD
    rw [List.any_map]
    congr 1
    funext q
    exact eqv_pair q.1 k
  unfold dput putP
  rw [h1]
  split
  · unfold kvD
    rw [List.map_map, List.map_map]
    refine List.map_congr_left fun q _ => ?_
    show (if PyData.eqv (pairD q.1) (pairD k) = true then (pairD q.1, PyData.int v) else (pairD q.1, .int q.2)) = _
    rw [eqv_pair]
    show _ = (pairD (if q.1 = k then (q.1, v) else q).1, PyData.int (if q.1 = k then (q.1, v) else q).2)
    by_cases e : q.1 = k
    · rw [if_pos e, decide_eq_true e, if_pos rfl]
    · rw [if_neg e, decide_eq_false e, if_neg (by decide)]
  · unfold kvD; rw [List.map_append]; rfl
theorem st_kv {kv : KV3} {k : Int × Int} {v : Int} (h : kv.length < 2 ^ 24) : stI (kdD kv) (.tuple [.int k.1, .int k.2]) (.int v) = some (kdD (putP kv k v)) := by
  show dset (.dict ((.bool false, .none) :: kvD kv)) (.tuple [.int k.1, .int k.2]) (.int v) = _
  have hl : decide ((kvD kv).length < sizeLine) = true := decide_eq_true (by rw [sizeLine_eq]; unfold kvD; rw [List.length_map]; omega)
  show (if decide ((kvD kv).length < sizeLine) = true then (toKeys [.int k.1, .int k.2]).map (fun _ => PyData.dict ((.bool false, .none) :: dput (.tuple [.int k.1, .int k.2]) (.int v) (kvD kv))) else none) = _
  rw [hl, if_pos rfl]
  show some (PyData.dict ((.bool false, .none) :: dput (pairD k) (.int v) (kvD kv))) = _
  rw [dput_kv]; rfl
structure KvOk (n : Nat) (kv : KV3) : Prop where
  nd : (kv.map (·.1)).Nodup
  b : ∀ q ∈ kv, 0 ≤ q.1.1 ∧ q.1.1 < q.1.2 ∧ q.1.2 < n ∧ 1 ≤ q.2 ∧ q.2 ≤ 9
theorem put_ok {n : Nat} {kv : KV3} {k : Int × Int} {v : Int} (ok : KvOk n kv) (h : 0 ≤ k.1 ∧ k.1 < k.2 ∧ k.2 < n) (hv : 1 ≤ v ∧ v ≤ 9) : KvOk n (putP kv k v) ∧ (putP kv k v).length ≤ kv.length + 1 := by
  unfold putP
  split
  · refine ⟨⟨?_, fun q hq => ?_⟩, by rw [List.length_map]; omega⟩
    · rw [List.map_map]
      have : (fun q : (Int × Int) × Int => q.1) ∘ (fun q => if q.1 = k then (q.1, v) else q) = fun q => q.1 := by
        funext q
        show (if q.1 = k then (q.1, v) else q).1 = q.1
        split <;> rfl
      rw [this]; exact ok.nd
    · obtain ⟨q', h', rfl⟩ := List.mem_map.mp hq
      have := ok.b q' h'
      split
      · exact ⟨this.1, this.2.1, this.2.2.1, hv.1, hv.2⟩
      · exact this
  · rename_i c
    refine ⟨⟨?_, fun q hq => ?_⟩, by rw [List.length_append]; simp⟩
    · rw [List.map_append, List.nodup_append]
      refine ⟨ok.nd, by simp, fun a ha b hb e => ?_⟩
      have hb : b = k := by simpa using hb
      subst hb e
      obtain ⟨q, hq, rfl⟩ := List.mem_map.mp ha
      exact c (List.any_eq_true.mpr ⟨q, hq, decide_eq_true rfl⟩)
    · rcases List.mem_append.mp hq with e | e
      · exact ok.b q e
      · have e : q = (k, v) := by simpa using e
        subst e
        exact ⟨h.1, h.2.1, h.2.2, hv.1, hv.2⟩
theorem find_kv : ∀ {kv : KV3} {q : (Int × Int) × Int}, (kv.map (·.1)).Nodup → q ∈ kv → dfind (pairD q.1) (kvD kv) = some (.int q.2)
  | [], _, _, h => by cases h
  | p :: r, q, nd, h => by
    rw [List.map_cons, List.nodup_cons] at nd
    show (if PyData.eqv (pairD p.1) (pairD q.1) = true then some (PyData.int p.2) else dfind (pairD q.1) (kvD r)) = _
    rw [eqv_pair]
    rcases List.mem_cons.mp h with e | e
    · subst e; rw [decide_eq_true rfl, if_pos rfl]
    · have hne : ¬ p.1 = q.1 := fun z => nd.1 (by rw [z]; exact List.mem_map.mpr ⟨q, e, rfl⟩)
      rw [decide_eq_false hne, if_neg (by decide)]
      exact find_kv nd.2 e
theorem pairsOf_map : ∀ ps : List (Int × Int), pairsOf (ps.map pairD) = some ps
  | [] => rfl
  | p :: r => by
    rw [List.map_cons]
    show (pairsOf (r.map pairD)).map ((p.1, p.2) :: ·) = _
    rw [pairsOf_map r]; rfl
/-- the limbs of a dict, sorted -/
def valK (kv : KV3) (k : Int × Int) : Int := ((kv.find? fun q => decide (q.1 = k)).map (·.2)).getD 1
theorem val_of : ∀ {kv : KV3} {q : (Int × Int) × Int}, (kv.map (·.1)).Nodup → q ∈ kv → valK kv q.1 = q.2
  | [], _, _, h => by cases h
  | p :: r, q, nd, h => by
    rw [List.map_cons, List.nodup_cons] at nd
    unfold valK
    rcases List.mem_cons.mp h with e | e
    · subst e; rw [List.find?_cons_of_pos (by simp)]; rfl
    · have hne : ¬ p.1 = q.1 := fun z => nd.1 (by rw [z]; exact List.mem_map.mpr ⟨q, e, rfl⟩)
      rw [List.find?_cons_of_neg (by simp [hne])]
      exact val_of nd.2 e
def limbsK (kv : KV3) : List (Nat × Nat × Int) := (srtB ltP2 (kv.map (·.1))).map fun k => (k.1.toNat, k.2.toNat, valK kv k)
theorem limbsK_ok {n : Nat} {kv : KV3} (ok : KvOk n kv) : (∀ l ∈ limbsK kv, l.1 < l.2.1 ∧ l.2.1 < n ∧ 1 ≤ l.2.2 ∧ l.2.2 ≤ 9) ∧ (limbsK kv).Pairwise limbLt ∧ (limbsK kv).length = kv.length := by
  have pm := srtB_perm ltP2 (kv.map (·.1))
  refine ⟨fun l hl => ?_, ?_, ?_⟩
  · obtain ⟨k, hk, rfl⟩ := List.mem_map.mp hl
    obtain ⟨q, hq, rfl⟩ := List.mem_map.mp (pm.mem_iff.mp hk)
    have := ok.b q hq
    rw [val_of ok.nd hq]
    show q.1.1.toNat < q.1.2.toNat ∧ q.1.2.toNat < n ∧ 1 ≤ q.2 ∧ q.2 ≤ 9
    exact ⟨by omega, by omega, this.2.2.2.1, this.2.2.2.2⟩
  · unfold limbsK
    rw [List.pairwise_map]
    have nd : (srtB ltP2 (kv.map (·.1))).Nodup := pm.nodup_iff.mpr ok.nd
    have pw := srtP_pw (kv.map (·.1))
    refine (List.pairwise_iff_getElem.mpr fun i j hi hj hij => ?_)
    have h1 := List.pairwise_iff_getElem.mp pw i j hi hj hij
    have h2 := List.pairwise_iff_getElem.mp nd i j hi hj hij
    obtain ⟨q, hq, e1⟩ := List.mem_map.mp (pm.mem_iff.mp (List.getElem_mem hi))
    obtain ⟨q', hq', e2⟩ := List.mem_map.mp (pm.mem_iff.mp (List.getElem_mem hj))
    generalize (srtB ltP2 (kv.map (·.1)))[i] = a at *
    generalize (srtB ltP2 (kv.map (·.1)))[j] = b at *
    have b1 := ok.b q hq
    have b2 := ok.b q' hq'
    rw [e1] at b1
    rw [e2] at b2
    rw [ltP2_no] at h1
    unfold limbLt
    simp only
    have h3 : ¬ (a.1 = b.1 ∧ a.2 = b.2) := fun z => h2 (Prod.ext z.1 z.2)
    omega
  · unfold limbsK
    rw [List.length_map, pm.length_eq, List.length_map]
theorem limbs_D {n : Nat} {kv : KV3} (ok : KvOk n kv) : (limbsK kv).map limbD = (srtB ltP2 (kv.map (·.1))).map fun k => PyData.tuple [.int k.1, .int k.2, .int (valK kv k)] := by
  unfold limbsK
  rw [List.map_map]
  refine List.map_congr_left fun k hk => ?_
  obtain ⟨q, hq, rfl⟩ := List.mem_map.mp ((srtB_perm ltP2 (kv.map (·.1))).mem_iff.mp hk)
  have := ok.b q hq
  show PyData.tuple [.int ((q.1.1.toNat : Nat) : Int), .int ((q.1.2.toNat : Nat) : Int), _] = _
  rw [Int.toNat_of_nonneg this.1, Int.toNat_of_nonneg (by omega)]
end DI

/-! M11: figures drawn, reckoned. -/
namespace DI
open PySem
def FigureOk (S : Fn) : Prop := ∀ c most strings, CupOk c → 1 ≤ most → most ≤ 8 → 1 ≤ strings → strings ≤ 6 → ∃ F c', S [c, .int most, .int strings] = some ⟨figD F, 0, c'⟩ ∧ FigOk F ∧ CupOk c' ∧ (F.n : Int) ≤ most
def fig1B : Ss := (.cons (.ite (.cm .gt (.cio 0 0 (.cons (.int 7) .nil)) (.int 0)) (.cons (.ixset 4 (.tup (.cons (.cio 0 0 (.cons (.nm 5) .nil)) (.cons (.nm 5) .nil))) (.op .add (.int 1) (.cio 0 0 (.cons (.cio 1 0 (.cons (.lst (.cons (.int 3) (.cons (.int 9) .nil))) .nil)) .nil)))) .nil) .nil) .nil)
theorem fig1_loop {Γ : Gm} (h0 : RollOk (Γ 0)) (h1 : SomeOk (Γ 1)) {c : D} (hc : CupOk c) {n : Nat} (hn : n ≤ 8) {a b : Sl} :
    ∃ ρ', forE Γ [5] (.nm 5) fig1B (rngD (n - 1) 1) [.io c, a, b, .sl 0 (.int n), .sl 1 (kdD []), .un, .un, .un, .un, .un, .un, .un] = some (.nx ρ') ∧
      ∃ c' kv, ρ' = [.io c', a, b, .sl 0 (.int n), .sl 1 (kdD kv), .un, .un, .un, .un, .un, .un, .un] ∧ CupOk c' ∧ KvOk n kv ∧ kv.length ≤ n - 1 := by
  refine forE_rng (fun i ρ => ∃ c' kv, ρ = [.io c', a, b, .sl 0 (.int n), .sl 1 (kdD kv), .un, .un, .un, .un, .un, .un, .un] ∧ CupOk c' ∧ KvOk n kv ∧ kv.length ≤ i) (fun i ρ hi e => ?_) ⟨c, [], rfl, hc, ⟨by simp, fun _ h => by cases h⟩, Nat.le_refl _⟩
  obtain ⟨c1, kv, rfl, hc1, kok, kl⟩ := e
  obtain ⟨r1, c2, e1, a1, b1, hc2⟩ := h0 c1 7 hc1 (by omega) (by omega)
  unfold fig1B
  by_cases hp : 0 < r1
  · obtain ⟨y, c3, e2, hy, hc3⟩ := h1 c2 [.int 3, .int 9] hc2 (by simp) (by simp)
    obtain ⟨m, rfl, hm1, hm2⟩ : ∃ m : Int, y = .int m ∧ 0 < m ∧ m ≤ 9 := by
      simp only [List.mem_cons, List.not_mem_nil, or_false] at hy
      rcases hy with e | e <;> subst e <;> exact ⟨_, rfl, by omega, by omega⟩
    obtain ⟨r2, c4, e3, a2, b2, hc4⟩ := h0 c3 m hc3 hm1 (by omega)
    obtain ⟨r3, c5, e4, a3, b3, hc5⟩ := h0 c4 (1 + (i : Int)) hc4 (by omega) (by omega)
    obtain ⟨k1, k2⟩ := put_ok (k := (r3, 1 + (i : Int))) (v := 1 + r2) kok (by simp only; omega) (by omega)
    have st := st_kv (kv := kv) (k := (r3, 1 + (i : Int))) (v := 1 + r2) (by omega)
    simp only at st
    simp (config := { decide := false, maxSteps := 1000000 }) only [exs_nil, exs_cons, nxt_nx, nxt_rt, nxt_bk, nxt_ct, ex_for, ex_while, ev_comp, ev_nm, ev_int, ev_bl, ev_non, ev_str, ev_glb, ev_op, ev_neg, ev_tst, ev_ife, ev_tup, ev_lst, ev_ix, ev_bix, ev_bix2, ev_slc, ev_call, ev_cio, ev_b1, ev_dnew, ev_blen, ev_b2, ev_isi, evs_nil, evs_cons, evo_no, evo_yes, evT_ex, evT_cm, evT_chn, evT_not, evT_and, evT_or, evA_nil, evA_cons, evR_nil, evR_cons, evI_ex, evI_rng1, evI_rng2, evI_enm, evI_zip, ex_set, ex_tset, ex_par, ex_par3, ex_aug, ex_ixset, ex_pst, ex_ixset2, ex_ixset22, ex_app, ex_expr, ex_ret, ex_retN, ex_ite, ex_brk, ex_cont, ex_pass, ex_never, mb_some, mb_none, gt_zero, gt_succ, st_zero, st_succ, wp, bk, rdN, ow1, ow01, ow2, setable, setS, set1, set2, up1, bnd, bnds, isiD, outF, ioOf, atI0, atI1, atI2, atI3, ixN0, ixN1, len0, len1, len2, len3, len4, len5, len6, len7, len8, len9, List.length_cons, List.length_nil, List.length_map, List.length_append, Nat.zero_add, Nat.reduceAdd, set0, set1', opD_add, opD_sub, opD_mul, opD_fdiv, opD_mod, opD_pow, opD_addT, opD_addL, opD_mulL, opD_mulT, lvD_int, lvD_bool, lvD_str, lvD_tuple, lvD_dict, lvD_none, lvD_list, b1_lenL, b1_lenT, b1_lenD, b1_lenK, b1_abs, b1_int, b1_tupL, b1_tupT, b1_lstL, b1_lstT, b1_lstS, b1_all, b1_any, b1_str, b1_srtL, b1_srtD, b2_min, b2_max, cm_eq, cm_ne, cm_lt, cm_le, cm_gt, cm_ge, cm_ltT, cm_is_int, cm_isN_int, cm_is_tuple, cm_isN_tuple, cm_is_list, cm_isN_list, cm_is_bool, cm_isN_bool, cm_is_str, cm_isN_str, cm_is_none, cm_isN_none, cm_isb, cm_isNb, ix_L, ix_T, sl_L, sl_T, st_L, Option.bind_some, Option.map_some, Option.bind_none, Option.map_none, if_true, if_false, ↓reduceIte, Bool.and_true, Bool.true_and, Bool.and_false, Bool.false_and, Bool.not_true, Bool.not_false, decide_true, decide_false, decide_not, Bool.false_eq_true, e1, hp, e2, e3, e4, st]
    refine W_some.mpr ?_
    exact ⟨_, rfl, c5, _, rfl, hc5, k1, by omega⟩
  · simp (config := { decide := false, maxSteps := 1000000 }) only [exs_nil, exs_cons, nxt_nx, nxt_rt, nxt_bk, nxt_ct, ex_for, ex_while, ev_comp, ev_nm, ev_int, ev_bl, ev_non, ev_str, ev_glb, ev_op, ev_neg, ev_tst, ev_ife, ev_tup, ev_lst, ev_ix, ev_bix, ev_bix2, ev_slc, ev_call, ev_cio, ev_b1, ev_dnew, ev_blen, ev_b2, ev_isi, evs_nil, evs_cons, evo_no, evo_yes, evT_ex, evT_cm, evT_chn, evT_not, evT_and, evT_or, evA_nil, evA_cons, evR_nil, evR_cons, evI_ex, evI_rng1, evI_rng2, evI_enm, evI_zip, ex_set, ex_tset, ex_par, ex_par3, ex_aug, ex_ixset, ex_pst, ex_ixset2, ex_ixset22, ex_app, ex_expr, ex_ret, ex_retN, ex_ite, ex_brk, ex_cont, ex_pass, ex_never, mb_some, mb_none, gt_zero, gt_succ, st_zero, st_succ, wp, bk, rdN, ow1, ow01, ow2, setable, setS, set1, set2, up1, bnd, bnds, isiD, outF, ioOf, atI0, atI1, atI2, atI3, ixN0, ixN1, len0, len1, len2, len3, len4, len5, len6, len7, len8, len9, List.length_cons, List.length_nil, List.length_map, List.length_append, Nat.zero_add, Nat.reduceAdd, set0, set1', opD_add, opD_sub, opD_mul, opD_fdiv, opD_mod, opD_pow, opD_addT, opD_addL, opD_mulL, opD_mulT, lvD_int, lvD_bool, lvD_str, lvD_tuple, lvD_dict, lvD_none, lvD_list, b1_lenL, b1_lenT, b1_lenD, b1_lenK, b1_abs, b1_int, b1_tupL, b1_tupT, b1_lstL, b1_lstT, b1_lstS, b1_all, b1_any, b1_str, b1_srtL, b1_srtD, b2_min, b2_max, cm_eq, cm_ne, cm_lt, cm_le, cm_gt, cm_ge, cm_ltT, cm_is_int, cm_isN_int, cm_is_tuple, cm_isN_tuple, cm_is_list, cm_isN_list, cm_is_bool, cm_isN_bool, cm_is_str, cm_isN_str, cm_is_none, cm_isN_none, cm_isb, cm_isNb, ix_L, ix_T, sl_L, sl_T, st_L, Option.bind_some, Option.map_some, Option.bind_none, Option.map_none, if_true, if_false, ↓reduceIte, Bool.and_true, Bool.true_and, Bool.and_false, Bool.false_and, Bool.not_true, Bool.not_false, decide_true, decide_false, decide_not, Bool.false_eq_true, e1, hp]
    refine W_some.mpr ?_
    exact ⟨_, rfl, c2, kv, rfl, hc2, kok, by omega⟩
def fig2B : Ss := (.cons (.par 9 10 (.cio 0 0 (.cons (.nm 3) .nil)) (.cio 0 0 (.cons (.nm 3) .nil))) (.cons (.ite (.and (.cons (.cm .lt (.nm 9) (.nm 10)) (.cons (.cm .lt (.blen 4) (.int 12)) .nil))) (.cons (.ixset 4 (.tup (.cons (.nm 9) (.cons (.nm 10) .nil))) (.op .add (.int 1) (.cio 0 0 (.cons (.int 9) .nil)))) .nil) .nil) .nil))
theorem fig2_loop {Γ : Gm} (h0 : RollOk (Γ 0)) {c : D} (hc : CupOk c) {n m : Nat} (hn : n ≤ 8) (hn1 : 1 ≤ n) {a b : Sl} {kv : KV3} (kok : KvOk n kv) (kl : kv.length ≤ 12) :
    ∃ ρ', forE Γ [6, 9, 10] (.nm 6) fig2B (rngD m 0) [.io c, a, b, .sl 0 (.int n), .sl 1 (kdD kv), .un, .un, .un, .un, .un, .un, .un] = some (.nx ρ') ∧
      ∃ c' kv, ρ' = [.io c', a, b, .sl 0 (.int n), .sl 1 (kdD kv), .un, .un, .un, .un, .un, .un, .un] ∧ CupOk c' ∧ KvOk n kv ∧ kv.length ≤ 12 := by
  refine forE_rng (fun i ρ => ∃ c' kv, ρ = [.io c', a, b, .sl 0 (.int n), .sl 1 (kdD kv), .un, .un, .un, .un, .un, .un, .un] ∧ CupOk c' ∧ KvOk n kv ∧ kv.length ≤ 12) (fun i ρ hi e => ?_) ⟨c, kv, rfl, hc, kok, kl⟩
  obtain ⟨c1, kv, rfl, hc1, kok, kl⟩ := e
  obtain ⟨r1, c2, e1, a1, b1, hc2⟩ := h0 c1 n hc1 (by omega) (by omega)
  obtain ⟨r2, c3, e2, a2, b2, hc3⟩ := h0 c2 n hc2 (by omega) (by omega)
  unfold fig2B
  by_cases hp : r1 < r2
  · have hl : (kvD kv).length = kv.length := by unfold kvD; rw [List.length_map]
    by_cases hq : (kv.length : Int) < 12
    · obtain ⟨r3, c4, e3, a3, b3, hc4⟩ := h0 c3 9 hc3 (by omega) (by omega)
      obtain ⟨k1, k2⟩ := put_ok (k := (r1, r2)) (v := 1 + r3) kok (by simp only; omega) (by omega)
      have st := st_kv (kv := kv) (k := (r1, r2)) (v := 1 + r3) (by omega)
      simp only at st
      unfold kdD at st ⊢
      simp (config := { decide := false, maxSteps := 1000000 }) only [exs_nil, exs_cons, nxt_nx, nxt_rt, nxt_bk, nxt_ct, ex_for, ex_while, ev_comp, ev_nm, ev_int, ev_bl, ev_non, ev_str, ev_glb, ev_op, ev_neg, ev_tst, ev_ife, ev_tup, ev_lst, ev_ix, ev_bix, ev_bix2, ev_slc, ev_call, ev_cio, ev_b1, ev_dnew, ev_blen, ev_b2, ev_isi, evs_nil, evs_cons, evo_no, evo_yes, evT_ex, evT_cm, evT_chn, evT_not, evT_and, evT_or, evA_nil, evA_cons, evR_nil, evR_cons, evI_ex, evI_rng1, evI_rng2, evI_enm, evI_zip, ex_set, ex_tset, ex_par, ex_par3, ex_aug, ex_ixset, ex_pst, ex_ixset2, ex_ixset22, ex_app, ex_expr, ex_ret, ex_retN, ex_ite, ex_brk, ex_cont, ex_pass, ex_never, mb_some, mb_none, gt_zero, gt_succ, st_zero, st_succ, wp, bk, rdN, ow1, ow01, ow2, setable, setS, set1, set2, up1, bnd, bnds, isiD, outF, ioOf, atI0, atI1, atI2, atI3, ixN0, ixN1, len0, len1, len2, len3, len4, len5, len6, len7, len8, len9, List.length_cons, List.length_nil, List.length_map, List.length_append, Nat.zero_add, Nat.reduceAdd, set0, set1', opD_add, opD_sub, opD_mul, opD_fdiv, opD_mod, opD_pow, opD_addT, opD_addL, opD_mulL, opD_mulT, lvD_int, lvD_bool, lvD_str, lvD_tuple, lvD_dict, lvD_none, lvD_list, b1_lenL, b1_lenT, b1_lenD, b1_lenK, b1_abs, b1_int, b1_tupL, b1_tupT, b1_lstL, b1_lstT, b1_lstS, b1_all, b1_any, b1_str, b1_srtL, b1_srtD, b2_min, b2_max, cm_eq, cm_ne, cm_lt, cm_le, cm_gt, cm_ge, cm_ltT, cm_is_int, cm_isN_int, cm_is_tuple, cm_isN_tuple, cm_is_list, cm_isN_list, cm_is_bool, cm_isN_bool, cm_is_str, cm_isN_str, cm_is_none, cm_isN_none, cm_isb, cm_isNb, ix_L, ix_T, sl_L, sl_T, st_L, Option.bind_some, Option.map_some, Option.bind_none, Option.map_none, if_true, if_false, ↓reduceIte, Bool.and_true, Bool.true_and, Bool.and_false, Bool.false_and, Bool.not_true, Bool.not_false, decide_true, decide_false, decide_not, Bool.false_eq_true, e1, hp, e2, e3, hl, hq, st]
      refine W_some.mpr ?_
      exact ⟨_, rfl, c4, _, rfl, hc4, k1, by omega⟩
    · unfold kdD
      simp (config := { decide := false, maxSteps := 1000000 }) only [exs_nil, exs_cons, nxt_nx, nxt_rt, nxt_bk, nxt_ct, ex_for, ex_while, ev_comp, ev_nm, ev_int, ev_bl, ev_non, ev_str, ev_glb, ev_op, ev_neg, ev_tst, ev_ife, ev_tup, ev_lst, ev_ix, ev_bix, ev_bix2, ev_slc, ev_call, ev_cio, ev_b1, ev_dnew, ev_blen, ev_b2, ev_isi, evs_nil, evs_cons, evo_no, evo_yes, evT_ex, evT_cm, evT_chn, evT_not, evT_and, evT_or, evA_nil, evA_cons, evR_nil, evR_cons, evI_ex, evI_rng1, evI_rng2, evI_enm, evI_zip, ex_set, ex_tset, ex_par, ex_par3, ex_aug, ex_ixset, ex_pst, ex_ixset2, ex_ixset22, ex_app, ex_expr, ex_ret, ex_retN, ex_ite, ex_brk, ex_cont, ex_pass, ex_never, mb_some, mb_none, gt_zero, gt_succ, st_zero, st_succ, wp, bk, rdN, ow1, ow01, ow2, setable, setS, set1, set2, up1, bnd, bnds, isiD, outF, ioOf, atI0, atI1, atI2, atI3, ixN0, ixN1, len0, len1, len2, len3, len4, len5, len6, len7, len8, len9, List.length_cons, List.length_nil, List.length_map, List.length_append, Nat.zero_add, Nat.reduceAdd, set0, set1', opD_add, opD_sub, opD_mul, opD_fdiv, opD_mod, opD_pow, opD_addT, opD_addL, opD_mulL, opD_mulT, lvD_int, lvD_bool, lvD_str, lvD_tuple, lvD_dict, lvD_none, lvD_list, b1_lenL, b1_lenT, b1_lenD, b1_lenK, b1_abs, b1_int, b1_tupL, b1_tupT, b1_lstL, b1_lstT, b1_lstS, b1_all, b1_any, b1_str, b1_srtL, b1_srtD, b2_min, b2_max, cm_eq, cm_ne, cm_lt, cm_le, cm_gt, cm_ge, cm_ltT, cm_is_int, cm_isN_int, cm_is_tuple, cm_isN_tuple, cm_is_list, cm_isN_list, cm_is_bool, cm_isN_bool, cm_is_str, cm_isN_str, cm_is_none, cm_isN_none, cm_isb, cm_isNb, ix_L, ix_T, sl_L, sl_T, st_L, Option.bind_some, Option.map_some, Option.bind_none, Option.map_none, if_true, if_false, ↓reduceIte, Bool.and_true, Bool.true_and, Bool.and_false, Bool.false_and, Bool.not_true, Bool.not_false, decide_true, decide_false, decide_not, Bool.false_eq_true, e1, hp, e2, hl, hq]
      refine W_some.mpr ?_
      exact ⟨_, rfl, c3, kv, rfl, hc3, kok, kl⟩
  · simp (config := { decide := false, maxSteps := 1000000 }) only [exs_nil, exs_cons, nxt_nx, nxt_rt, nxt_bk, nxt_ct, ex_for, ex_while, ev_comp, ev_nm, ev_int, ev_bl, ev_non, ev_str, ev_glb, ev_op, ev_neg, ev_tst, ev_ife, ev_tup, ev_lst, ev_ix, ev_bix, ev_bix2, ev_slc, ev_call, ev_cio, ev_b1, ev_dnew, ev_blen, ev_b2, ev_isi, evs_nil, evs_cons, evo_no, evo_yes, evT_ex, evT_cm, evT_chn, evT_not, evT_and, evT_or, evA_nil, evA_cons, evR_nil, evR_cons, evI_ex, evI_rng1, evI_rng2, evI_enm, evI_zip, ex_set, ex_tset, ex_par, ex_par3, ex_aug, ex_ixset, ex_pst, ex_ixset2, ex_ixset22, ex_app, ex_expr, ex_ret, ex_retN, ex_ite, ex_brk, ex_cont, ex_pass, ex_never, mb_some, mb_none, gt_zero, gt_succ, st_zero, st_succ, wp, bk, rdN, ow1, ow01, ow2, setable, setS, set1, set2, up1, bnd, bnds, isiD, outF, ioOf, atI0, atI1, atI2, atI3, ixN0, ixN1, len0, len1, len2, len3, len4, len5, len6, len7, len8, len9, List.length_cons, List.length_nil, List.length_map, List.length_append, Nat.zero_add, Nat.reduceAdd, set0, set1', opD_add, opD_sub, opD_mul, opD_fdiv, opD_mod, opD_pow, opD_addT, opD_addL, opD_mulL, opD_mulT, lvD_int, lvD_bool, lvD_str, lvD_tuple, lvD_dict, lvD_none, lvD_list, b1_lenL, b1_lenT, b1_lenD, b1_lenK, b1_abs, b1_int, b1_tupL, b1_tupT, b1_lstL, b1_lstT, b1_lstS, b1_all, b1_any, b1_str, b1_srtL, b1_srtD, b2_min, b2_max, cm_eq, cm_ne, cm_lt, cm_le, cm_gt, cm_ge, cm_ltT, cm_is_int, cm_isN_int, cm_is_tuple, cm_isN_tuple, cm_is_list, cm_isN_list, cm_is_bool, cm_isN_bool, cm_is_str, cm_isN_str, cm_is_none, cm_isN_none, cm_isb, cm_isNb, ix_L, ix_T, sl_L, sl_T, st_L, Option.bind_some, Option.map_some, Option.bind_none, Option.map_none, if_true, if_false, ↓reduceIte, Bool.and_true, Bool.true_and, Bool.and_false, Bool.false_and, Bool.not_true, Bool.not_false, decide_true, decide_false, decide_not, Bool.false_eq_true, e1, hp, e2]
    refine W_some.mpr ?_
    exact ⟨_, rfl, c3, kv, rfl, hc3, kok, kl⟩
theorem figure_ok {Γ : Gm} (h0 : RollOk (Γ 0)) (h1 : SomeOk (Γ 1)) : FigureOk (run Γ true 3 12 C.b_law_figure) := by
  intro c most strings hc m1 m8 s1 s6
  rw [run3]
  unfold C.b_law_figure
  simp only [ent, List.map_cons, List.map_nil, List.cons_append, List.nil_append, List.length_cons, List.length_nil, List.replicate_succ, List.replicate_zero, Nat.reduceAdd, Nat.reduceSub, if_true, if_false, ↓reduceIte, Bool.false_eq_true]
  obtain ⟨r0, c1, e0, a0, b0, hc1⟩ := h0 c most hc (by omega) (by omega)
  obtain ⟨n, hn⟩ : ∃ n : Nat, (n : Int) = 1 + r0 := ⟨(1 + r0).toNat, Int.toNat_of_nonneg (by omega)⟩
  have hn8 : n ≤ 8 := by omega
  have hn1 : 1 ≤ n := by omega
  obtain ⟨ρ1, e1, c2, kv, rfl, hc2, kok, kl⟩ := fig1_loop (Γ := Γ) h0 h1 hc1 hn8 (a := .sl 0 (.int most)) (b := .sl 0 (.int strings))
  -- how many more limbs
  obtain ⟨r3, c3, e3, m3, g3, hc3⟩ : ∃ (r : Int) (c3 : D), ev Γ (.ife (.cm .gt (.nm 3) (.int 2)) (.cio 0 0 (.cons (.int 4) .nil)) (.int 0)) [.io c2, .sl 0 (.int most), .sl 0 (.int strings), .sl 0 (.int n), .sl 1 (kdD kv), .un, .un, .un, .un, .un, .un, .un] =
      some ((.int r, 0), [.io c3, .sl 0 (.int most), .sl 0 (.int strings), .sl 0 (.int n), .sl 1 (kdD kv), .un, .un, .un, .un, .un, .un, .un]) ∧ 0 ≤ r ∧ r < 4 ∧ CupOk c3 := by
    by_cases hp : (2 : Int) < n
    · obtain ⟨r, c3, e, a, b, hc3⟩ := h0 c2 4 hc2 (by omega) (by omega)
      exact ⟨r, c3, by simp (config := { decide := false, maxSteps := 1000000 }) only [exs_nil, exs_cons, nxt_nx, nxt_rt, nxt_bk, nxt_ct, ex_for, ex_while, ev_comp, ev_nm, ev_int, ev_bl, ev_non, ev_str, ev_glb, ev_op, ev_neg, ev_tst, ev_ife, ev_tup, ev_lst, ev_ix, ev_bix, ev_bix2, ev_slc, ev_call, ev_cio, ev_b1, ev_dnew, ev_blen, ev_b2, ev_isi, evs_nil, evs_cons, evo_no, evo_yes, evT_ex, evT_cm, evT_chn, evT_not, evT_and, evT_or, evA_nil, evA_cons, evR_nil, evR_cons, evI_ex, evI_rng1, evI_rng2, evI_enm, evI_zip, ex_set, ex_tset, ex_par, ex_par3, ex_aug, ex_ixset, ex_pst, ex_ixset2, ex_ixset22, ex_app, ex_expr, ex_ret, ex_retN, ex_ite, ex_brk, ex_cont, ex_pass, ex_never, mb_some, mb_none, gt_zero, gt_succ, st_zero, st_succ, wp, bk, rdN, ow1, ow01, ow2, setable, setS, set1, set2, up1, bnd, bnds, isiD, outF, ioOf, atI0, atI1, atI2, atI3, ixN0, ixN1, len0, len1, len2, len3, len4, len5, len6, len7, len8, len9, List.length_cons, List.length_nil, List.length_map, List.length_append, Nat.zero_add, Nat.reduceAdd, set0, set1', opD_add, opD_sub, opD_mul, opD_fdiv, opD_mod, opD_pow, opD_addT, opD_addL, opD_mulL, opD_mulT, lvD_int, lvD_bool, lvD_str, lvD_tuple, lvD_dict, lvD_none, lvD_list, b1_lenL, b1_lenT, b1_lenD, b1_lenK, b1_abs, b1_int, b1_tupL, b1_tupT, b1_lstL, b1_lstT, b1_lstS, b1_all, b1_any, b1_str, b1_srtL, b1_srtD, b2_min, b2_max, cm_eq, cm_ne, cm_lt, cm_le, cm_gt, cm_ge, cm_ltT, cm_is_int, cm_isN_int, cm_is_tuple, cm_isN_tuple, cm_is_list, cm_isN_list, cm_is_bool, cm_isN_bool, cm_is_str, cm_isN_str, cm_is_none, cm_isN_none, cm_isb, cm_isNb, ix_L, ix_T, sl_L, sl_T, st_L, Option.bind_some, Option.map_some, Option.bind_none, Option.map_none, if_true, if_false, ↓reduceIte, Bool.and_true, Bool.true_and, Bool.and_false, Bool.false_and, Bool.not_true, Bool.not_false, decide_true, decide_false, decide_not, Bool.false_eq_true, hp, e], a, b, hc3⟩
    · exact ⟨0, c2, by simp (config := { decide := false, maxSteps := 1000000 }) only [exs_nil, exs_cons, nxt_nx, nxt_rt, nxt_bk, nxt_ct, ex_for, ex_while, ev_comp, ev_nm, ev_int, ev_bl, ev_non, ev_str, ev_glb, ev_op, ev_neg, ev_tst, ev_ife, ev_tup, ev_lst, ev_ix, ev_bix, ev_bix2, ev_slc, ev_call, ev_cio, ev_b1, ev_dnew, ev_blen, ev_b2, ev_isi, evs_nil, evs_cons, evo_no, evo_yes, evT_ex, evT_cm, evT_chn, evT_not, evT_and, evT_or, evA_nil, evA_cons, evR_nil, evR_cons, evI_ex, evI_rng1, evI_rng2, evI_enm, evI_zip, ex_set, ex_tset, ex_par, ex_par3, ex_aug, ex_ixset, ex_pst, ex_ixset2, ex_ixset22, ex_app, ex_expr, ex_ret, ex_retN, ex_ite, ex_brk, ex_cont, ex_pass, ex_never, mb_some, mb_none, gt_zero, gt_succ, st_zero, st_succ, wp, bk, rdN, ow1, ow01, ow2, setable, setS, set1, set2, up1, bnd, bnds, isiD, outF, ioOf, atI0, atI1, atI2, atI3, ixN0, ixN1, len0, len1, len2, len3, len4, len5, len6, len7, len8, len9, List.length_cons, List.length_nil, List.length_map, List.length_append, Nat.zero_add, Nat.reduceAdd, set0, set1', opD_add, opD_sub, opD_mul, opD_fdiv, opD_mod, opD_pow, opD_addT, opD_addL, opD_mulL, opD_mulT, lvD_int, lvD_bool, lvD_str, lvD_tuple, lvD_dict, lvD_none, lvD_list, b1_lenL, b1_lenT, b1_lenD, b1_lenK, b1_abs, b1_int, b1_tupL, b1_tupT, b1_lstL, b1_lstT, b1_lstS, b1_all, b1_any, b1_str, b1_srtL, b1_srtD, b2_min, b2_max, cm_eq, cm_ne, cm_lt, cm_le, cm_gt, cm_ge, cm_ltT, cm_is_int, cm_isN_int, cm_is_tuple, cm_isN_tuple, cm_is_list, cm_isN_list, cm_is_bool, cm_isN_bool, cm_is_str, cm_isN_str, cm_is_none, cm_isN_none, cm_isb, cm_isNb, ix_L, ix_T, sl_L, sl_T, st_L, Option.bind_some, Option.map_some, Option.bind_none, Option.map_none, if_true, if_false, ↓reduceIte, Bool.and_true, Bool.true_and, Bool.and_false, Bool.false_and, Bool.not_true, Bool.not_false, decide_true, decide_false, decide_not, Bool.false_eq_true, hp], by omega, by omega, hc2⟩
  obtain ⟨m, hm⟩ : ∃ m : Nat, (m : Int) = r3 := ⟨r3.toNat, Int.toNat_of_nonneg m3⟩
  subst hm
  obtain ⟨ρ2, e2, c4, kv2, rfl, hc4, kok2, kl2⟩ := fig2_loop (Γ := Γ) h0 hc3 (m := m) hn8 hn1 (a := .sl 0 (.int most)) (b := .sl 0 (.int strings)) kok (by omega)
  obtain ⟨l1, l2, l3⟩ := limbsK_ok kok2
  -- the limbs
  have cl : compE Γ 0 [11] (.nm 11) .nil (.op .add (.nm 11) (.tup (.cons (.bix 4 (.nm 11)) .nil))) ((srtB ltP2 (kv2.map (·.1))).map pairD) [.io c4, .sl 0 (.int most), .sl 0 (.int strings), .sl 0 (.int n), .sl 0 (kdD kv2), .un, .un, .un, .un, .un, .un, .un] =
      some ((limbsK kv2).map limbD, [.io c4, .sl 0 (.int most), .sl 0 (.int strings), .sl 0 (.int n), .sl 0 (kdD kv2), .un, .un, .un, .un, .un, .un, .un]) := by
    rw [limbs_D kok2]
    refine compE_mapA pairD _ fun k hk => ?_
    obtain ⟨q, hq, rfl⟩ := List.mem_map.mp ((srtB_perm ltP2 (kv2.map (·.1))).mem_iff.mp hk)
    have hi : ixD (kdD kv2) (pairD q.1) = some (.int (valK kv2 q.1)) := by
      have h1 := find_kv kok2.nd hq
      rw [val_of kok2.nd hq]
      show ((toKeys [.int q.1.1, .int q.1.2]).map (fun _ => dfind (pairD q.1) (kvD kv2))).bind id = _
      show dfind (pairD q.1) (kvD kv2) = _
      exact h1
    unfold pairD at hi ⊢
    simp (config := { decide := false, maxSteps := 1000000 }) only [exs_nil, exs_cons, nxt_nx, nxt_rt, nxt_bk, nxt_ct, ex_for, ex_while, ev_comp, ev_nm, ev_int, ev_bl, ev_non, ev_str, ev_glb, ev_op, ev_neg, ev_tst, ev_ife, ev_tup, ev_lst, ev_ix, ev_bix, ev_bix2, ev_slc, ev_call, ev_cio, ev_b1, ev_dnew, ev_blen, ev_b2, ev_isi, evs_nil, evs_cons, evo_no, evo_yes, evT_ex, evT_cm, evT_chn, evT_not, evT_and, evT_or, evA_nil, evA_cons, evR_nil, evR_cons, evI_ex, evI_rng1, evI_rng2, evI_enm, evI_zip, ex_set, ex_tset, ex_par, ex_par3, ex_aug, ex_ixset, ex_pst, ex_ixset2, ex_ixset22, ex_app, ex_expr, ex_ret, ex_retN, ex_ite, ex_brk, ex_cont, ex_pass, ex_never, mb_some, mb_none, gt_zero, gt_succ, st_zero, st_succ, wp, bk, rdN, ow1, ow01, ow2, setable, setS, set1, set2, up1, bnd, bnds, isiD, outF, ioOf, atI0, atI1, atI2, atI3, ixN0, ixN1, len0, len1, len2, len3, len4, len5, len6, len7, len8, len9, List.length_cons, List.length_nil, List.length_map, List.length_append, Nat.zero_add, Nat.reduceAdd, set0, set1', opD_add, opD_sub, opD_mul, opD_fdiv, opD_mod, opD_pow, opD_addT, opD_addL, opD_mulL, opD_mulT, lvD_int, lvD_bool, lvD_str, lvD_tuple, lvD_dict, lvD_none, lvD_list, b1_lenL, b1_lenT, b1_lenD, b1_lenK, b1_abs, b1_int, b1_tupL, b1_tupT, b1_lstL, b1_lstT, b1_lstS, b1_all, b1_any, b1_str, b1_srtL, b1_srtD, b2_min, b2_max, cm_eq, cm_ne, cm_lt, cm_le, cm_gt, cm_ge, cm_ltT, cm_is_int, cm_isN_int, cm_is_tuple, cm_isN_tuple, cm_is_list, cm_isN_list, cm_is_bool, cm_isN_bool, cm_is_str, cm_isN_str, cm_is_none, cm_isN_none, cm_isb, cm_isNb, ix_L, ix_T, sl_L, sl_T, st_L, Option.bind_some, Option.map_some, Option.bind_none, Option.map_none, if_true, if_false, ↓reduceIte, Bool.and_true, Bool.true_and, Bool.and_false, Bool.false_and, Bool.not_true, Bool.not_false, decide_true, decide_false, decide_not, Bool.false_eq_true, hi]
    exact W_some.mpr ⟨.inl trivial, rfl, rfl⟩
  -- the strings
  obtain ⟨r5, c5, e5, a5, b5, hc5⟩ := h0 c4 strings hc4 (by omega) (by omega)
  obtain ⟨k, hk⟩ : ∃ k : Nat, (k : Int) = 1 + r5 := ⟨(1 + r5).toNat, Int.toNat_of_nonneg (by omega)⟩
  obtain ⟨ys, ρ3, e6, al, c6, rfl, hc6⟩ := compE_st (Γ := Γ) (k := 0) (vs := [6]) (tg := .nm 6) (e := .cio 0 0 (.cons (.nm 3) .nil))
    (fun ρ => ∃ c', ρ = [.io c', .sl 0 (.int most), .sl 0 (.int strings), .sl 0 (.int n), .sl 0 (kdD kv2), .un, .un, .sl 0 (.tuple ((limbsK kv2).map limbD)), .un, .un, .un, .un] ∧ CupOk c') (fun _ y => ∃ t : Nat, y = natD t ∧ t < n) (xs := rngD k 0)
    (ρ := [.io c5, .sl 0 (.int most), .sl 0 (.int strings), .sl 0 (.int n), .sl 0 (kdD kv2), .un, .un, .sl 0 (.tuple ((limbsK kv2).map limbD)), .un, .un, .un, .un])
    (fun x ρ hx hJ => by
      obtain ⟨c', rfl, hc'⟩ := hJ
      obtain ⟨r, c'', e, a, b, hc''⟩ := h0 c' n hc' (by omega) (by omega)
      simp (config := { decide := false, maxSteps := 1000000 }) only [exs_nil, exs_cons, nxt_nx, nxt_rt, nxt_bk, nxt_ct, ex_for, ex_while, ev_comp, ev_nm, ev_int, ev_bl, ev_non, ev_str, ev_glb, ev_op, ev_neg, ev_tst, ev_ife, ev_tup, ev_lst, ev_ix, ev_bix, ev_bix2, ev_slc, ev_call, ev_cio, ev_b1, ev_dnew, ev_blen, ev_b2, ev_isi, evs_nil, evs_cons, evo_no, evo_yes, evT_ex, evT_cm, evT_chn, evT_not, evT_and, evT_or, evA_nil, evA_cons, evR_nil, evR_cons, evI_ex, evI_rng1, evI_rng2, evI_enm, evI_zip, ex_set, ex_tset, ex_par, ex_par3, ex_aug, ex_ixset, ex_pst, ex_ixset2, ex_ixset22, ex_app, ex_expr, ex_ret, ex_retN, ex_ite, ex_brk, ex_cont, ex_pass, ex_never, mb_some, mb_none, gt_zero, gt_succ, st_zero, st_succ, wp, bk, rdN, ow1, ow01, ow2, setable, setS, set1, set2, up1, bnd, bnds, isiD, outF, ioOf, atI0, atI1, atI2, atI3, ixN0, ixN1, len0, len1, len2, len3, len4, len5, len6, len7, len8, len9, List.length_cons, List.length_nil, List.length_map, List.length_append, Nat.zero_add, Nat.reduceAdd, set0, set1', opD_add, opD_sub, opD_mul, opD_fdiv, opD_mod, opD_pow, opD_addT, opD_addL, opD_mulL, opD_mulT, lvD_int, lvD_bool, lvD_str, lvD_tuple, lvD_dict, lvD_none, lvD_list, b1_lenL, b1_lenT, b1_lenD, b1_lenK, b1_abs, b1_int, b1_tupL, b1_tupT, b1_lstL, b1_lstT, b1_lstS, b1_all, b1_any, b1_str, b1_srtL, b1_srtD, b2_min, b2_max, cm_eq, cm_ne, cm_lt, cm_le, cm_gt, cm_ge, cm_ltT, cm_is_int, cm_isN_int, cm_is_tuple, cm_isN_tuple, cm_is_list, cm_isN_list, cm_is_bool, cm_isN_bool, cm_is_str, cm_isN_str, cm_is_none, cm_isN_none, cm_isb, cm_isNb, ix_L, ix_T, sl_L, sl_T, st_L, Option.bind_some, Option.map_some, Option.bind_none, Option.map_none, if_true, if_false, ↓reduceIte, Bool.and_true, Bool.true_and, Bool.and_false, Bool.false_and, Bool.not_true, Bool.not_false, decide_true, decide_false, decide_not, Bool.false_eq_true, e]
      refine W_some.mpr ?_
      exact ⟨.inl trivial, ⟨r.toNat, by unfold natD; rw [Int.toNat_of_nonneg a], by omega⟩, c'', rfl, hc''⟩) ⟨c5, rfl, hc5⟩
  obtain ⟨ts, rfl, hl, hb⟩ : ∃ ts : List Nat, ys = ts.map natD ∧ ts.length = k ∧ ∀ x ∈ ts, x < n := by
    have hlen := rngD_lenM k 0
    clear e6
    generalize rngD k 0 = xs at al hlen
    subst hlen
    clear hk
    induction xs generalizing ys with
    | nil => cases al; exact ⟨[], rfl, rfl, fun _ h => by cases h⟩
    | cons t ts ih =>
      cases al with
      | cons hp tl =>
        obtain ⟨i, rfl, h1⟩ := hp
        obtain ⟨s, rfl, h3, h4⟩ := ih _ tl
        refine ⟨i :: s, rfl, by simp [h3], fun x hx => ?_⟩
        rcases List.mem_cons.mp hx with e | e
        · subst e; exact h1
        · exact h4 x e
  obtain ⟨y, c7, e7, hy, hc7⟩ := h1 c6 [.int 1, .int 4, .int 9, .int 15, .int 22, .int 30] hc6 (by simp) (by simp)
  obtain ⟨fl, rfl, f1, f30⟩ : ∃ m : Int, y = .int m ∧ 1 ≤ m ∧ m ≤ 30 := by
    simp only [List.mem_cons, List.not_mem_nil, or_false] at hy
    rcases hy with e | e | e | e | e | e <;> subst e <;> exact ⟨_, rfl, by omega, by omega⟩
  refine ⟨⟨n, limbsK kv2, ts, fl⟩, c7, ?_, ⟨hn1, hn8, f1, f30, by rw [show (Fig.mk n (limbsK kv2) ts fl).limbs = limbsK kv2 from rfl, l3]; exact kl2, l1, l2, by show 1 ≤ ts.length; omega, by show ts.length ≤ 6; omega, hb⟩, hc7, by show (n : Int) ≤ most; omega⟩
  unfold fig1B at e1
  unfold fig2B at e2
  have hr2 : (lenOk (n - 1) && decide (-(2 ^ 62) ≤ (1 : Int)) && decide ((1 : Int) < 2 ^ 62) && decide (-(2 ^ 62) ≤ (n : Int)) && decide ((n : Int) < 2 ^ 62)) = true := by
    have q1 : lenOk (n - 1) = true := len_ok (by omega)
    have q2 : decide (-(2 ^ 62) ≤ (n : Int)) = true := decide_eq_true (by omega)
    have q3 : decide ((n : Int) < 2 ^ 62) = true := decide_eq_true (by omega)
    rw [q1, q2, q3]; exact rfl
  have hr3 : ((n : Int) - 1).toNat = n - 1 := by omega
  have hkv : (PyData.dict [(.bool false, .none)]) = kdD [] := rfl
  have srt : b1D .sorted (kdD kv2) = some (.list ((srtB ltP2 (kv2.map (·.1))).map pairD)) := by
    show (pairsOf ((kvD kv2).map (·.1))).map (fun ps => PyData.list ((srtB ltP2 ps).map pairD)) = _
    have : (kvD kv2).map (·.1) = (kv2.map (·.1)).map pairD := by unfold kvD; rw [List.map_map, List.map_map]; rfl
    rw [this, pairsOf_map]; rfl
  rw [show kdD [] = PyData.dict [(.bool false, .none)] from rfl] at e1
  simp (config := { decide := false, maxSteps := 1000000 }) only [exs_nil, exs_cons, nxt_nx, nxt_rt, nxt_bk, nxt_ct, ex_for, ex_while, ev_comp, ev_nm, ev_int, ev_bl, ev_non, ev_str, ev_glb, ev_op, ev_neg, ev_tst, ev_ife, ev_tup, ev_lst, ev_ix, ev_bix, ev_bix2, ev_slc, ev_call, ev_cio, ev_b1, ev_dnew, ev_blen, ev_b2, ev_isi, evs_nil, evs_cons, evo_no, evo_yes, evT_ex, evT_cm, evT_chn, evT_not, evT_and, evT_or, evA_nil, evA_cons, evR_nil, evR_cons, evI_ex, evI_rng1, evI_rng2, evI_enm, evI_zip, ex_set, ex_tset, ex_par, ex_par3, ex_aug, ex_ixset, ex_pst, ex_ixset2, ex_ixset22, ex_app, ex_expr, ex_ret, ex_retN, ex_ite, ex_brk, ex_cont, ex_pass, ex_never, mb_some, mb_none, gt_zero, gt_succ, st_zero, st_succ, wp, bk, rdN, ow1, ow01, ow2, setable, setS, set1, set2, up1, bnd, bnds, isiD, outF, ioOf, atI0, atI1, atI2, atI3, ixN0, ixN1, len0, len1, len2, len3, len4, len5, len6, len7, len8, len9, List.length_cons, List.length_nil, List.length_map, List.length_append, Nat.zero_add, Nat.reduceAdd, set0, set1', opD_add, opD_sub, opD_mul, opD_fdiv, opD_mod, opD_pow, opD_addT, opD_addL, opD_mulL, opD_mulT, lvD_int, lvD_bool, lvD_str, lvD_tuple, lvD_dict, lvD_none, lvD_list, b1_lenL, b1_lenT, b1_lenD, b1_lenK, b1_abs, b1_int, b1_tupL, b1_tupT, b1_lstL, b1_lstT, b1_lstS, b1_all, b1_any, b1_str, b1_srtL, b1_srtD, b2_min, b2_max, cm_eq, cm_ne, cm_lt, cm_le, cm_gt, cm_ge, cm_ltT, cm_is_int, cm_isN_int, cm_is_tuple, cm_isN_tuple, cm_is_list, cm_isN_list, cm_is_bool, cm_isN_bool, cm_is_str, cm_isN_str, cm_is_none, cm_isN_none, cm_isb, cm_isNb, ix_L, ix_T, sl_L, sl_T, st_L, Option.bind_some, Option.map_some, Option.bind_none, Option.map_none, if_true, if_false, ↓reduceIte, Bool.and_true, Bool.true_and, Bool.and_false, Bool.false_and, Bool.not_true, Bool.not_false, decide_true, decide_false, decide_not, Bool.false_eq_true, e0, ← hn, hr2, hr3]
  rw [e1]
  simp only [Option.bind_some, nxt_nx]
  rw [exs_cons, ex_for, evI_rng1, e3]
  have hk6 : k ≤ 2 ^ 24 := by omega
  simp (config := { decide := false, maxSteps := 1000000 }) only [exs_nil, exs_cons, nxt_nx, nxt_rt, nxt_bk, nxt_ct, ex_for, ex_while, ev_comp, ev_nm, ev_int, ev_bl, ev_non, ev_str, ev_glb, ev_op, ev_neg, ev_tst, ev_ife, ev_tup, ev_lst, ev_ix, ev_bix, ev_bix2, ev_slc, ev_call, ev_cio, ev_b1, ev_dnew, ev_blen, ev_b2, ev_isi, evs_nil, evs_cons, evo_no, evo_yes, evT_ex, evT_cm, evT_chn, evT_not, evT_and, evT_or, evA_nil, evA_cons, evR_nil, evR_cons, evI_ex, evI_rng1, evI_rng2, evI_enm, evI_zip, ex_set, ex_tset, ex_par, ex_par3, ex_aug, ex_ixset, ex_pst, ex_ixset2, ex_ixset22, ex_app, ex_expr, ex_ret, ex_retN, ex_ite, ex_brk, ex_cont, ex_pass, ex_never, mb_some, mb_none, gt_zero, gt_succ, st_zero, st_succ, wp, bk, rdN, ow1, ow01, ow2, setable, setS, set1, set2, up1, bnd, bnds, isiD, outF, ioOf, atI0, atI1, atI2, atI3, ixN0, ixN1, len0, len1, len2, len3, len4, len5, len6, len7, len8, len9, List.length_cons, List.length_nil, List.length_map, List.length_append, Nat.zero_add, Nat.reduceAdd, set0, set1', opD_add, opD_sub, opD_mul, opD_fdiv, opD_mod, opD_pow, opD_addT, opD_addL, opD_mulL, opD_mulT, lvD_int, lvD_bool, lvD_str, lvD_tuple, lvD_dict, lvD_none, lvD_list, b1_lenL, b1_lenT, b1_lenD, b1_lenK, b1_abs, b1_int, b1_tupL, b1_tupT, b1_lstL, b1_lstT, b1_lstS, b1_all, b1_any, b1_str, b1_srtL, b1_srtD, b2_min, b2_max, cm_eq, cm_ne, cm_lt, cm_le, cm_gt, cm_ge, cm_ltT, cm_is_int, cm_isN_int, cm_is_tuple, cm_isN_tuple, cm_is_list, cm_isN_list, cm_is_bool, cm_isN_bool, cm_is_str, cm_isN_str, cm_is_none, cm_isN_none, cm_isb, cm_isNb, ix_L, ix_T, sl_L, sl_T, st_L, Option.bind_some, Option.map_some, Option.bind_none, Option.map_none, if_true, if_false, ↓reduceIte, Bool.and_true, Bool.true_and, Bool.and_false, Bool.false_and, Bool.not_true, Bool.not_false, decide_true, decide_false, decide_not, Bool.false_eq_true, rng_lenOk (n := m) (by omega), Int.toNat_natCast, e2, srt, cl, e5, ← hk, rng_lenOk hk6, e6, e7]
  rfl
end DI

/-! M12: k04, one turn. -/
namespace DI
open PySem
theorem mk_int : ∀ l : List Int, PyData.canLayAll0 (l.map PyData.int) = true
  | [] => rfl
  | _ :: r => by
    show (PyData.canLay0 (.int _) && PyData.canLayAll0 (r.map PyData.int)) = true
    rw [mk_int r]; rfl
theorem dep_int : ∀ l : List Int, PyData.depthAll (l.map PyData.int) ≤ 2
  | [] => by decide
  | i :: r => by
    have ih := dep_int r
    show max (PyData.depth (.int i)) (PyData.depthAll (r.map PyData.int)) ≤ 2
    have h : PyData.depth (.int i) ≤ 2 := show (0 : Nat) ≤ 2 from by decide
    exact Nat.max_le.mpr ⟨h, ih⟩
theorem shp_ints (l : List Int) : shp (intsD l) = true := by
  show (PyData.canLayAll0 (l.map PyData.int) && decide (PyData.depthAll (l.map PyData.int) + 1 ≤ 64)) = true
  rw [mk_int, decide_eq_true (by have := dep_int l; omega)]; rfl
theorem row_ints (n : Nat) (p : Nat → Int) : (rowD n fun j => PyData.int (p j)) = ((List.range n).map p).map PyData.int := by
  unfold rowD; rw [List.map_map]; rfl
theorem shp_row (n : Nat) (p : Nat → Int) : shp (depD n p) = true := by
  unfold depD; rw [row_ints]; exact shp_ints _
theorem eqv_ints : ∀ l m : List Int, PyData.eqvAll (l.map PyData.int) (m.map PyData.int) = decide (l = m)
  | [], [] => rfl
  | [], _ :: _ => rfl
  | _ :: _, [] => rfl
  | a :: l, b :: m => by
    show (PyData.eqv (.int a) (.int b) && PyData.eqvAll (l.map PyData.int) (m.map PyData.int)) = _
    rw [eqv_int, eqv_ints l m]
    by_cases h : a = b <;> by_cases h2 : l = m <;> simp [h, h2]
theorem eqv_row (n : Nat) (p q : Nat → Int) : PyData.eqv (depD n p) (depD n q) = true ↔ ∀ j, j < n → p j = q j := by
  unfold depD
  rw [row_ints, row_ints]
  show PyData.eqvAll (((List.range n).map p).map PyData.int) (((List.range n).map q).map PyData.int) = true ↔ _
  rw [eqv_ints, decide_eq_true_iff]
  constructor
  · intro h j hj
    have := congrArg (·[j]?) h
    simpa [List.getElem?_range hj] using this
  · intro h
    exact List.map_congr_left fun j hj => h j (List.mem_range.mp hj)
def moreF (fl : Int) (p : Nat → Int) (j : Nat) : Int := if p j + 1 < fl then p j + 1 else fl
theorem st_congr {F : Fig} {s : List Int} {p q : Nat → Int} (ok : FigOk F) (so : SetOk F s) (h : ∀ j, j < F.n → p j = q j) (st : IsSt F s p) : IsSt F s q := by
  refine ⟨fun j hj => by rw [← h j hj]; exact st.b j hj, fun l hl => ?_, fun x hx => by rw [← h _ (zip_in ok so x hx).1]; exact st.t x hx⟩
  obtain ⟨q1, q2, q3, q4⟩ := ok.lo l hl
  rw [← h _ q2, ← h l.1 (by omega)]
  exact st.l l hl
theorem more_st {F : Fig} {s : List Int} {p : Nat → Int} (ok : FigOk F) (so : SetOk F s) (h : IsPose F s p) : IsSt F s (moreF F.floor p) ↔ ∀ j, j < F.n → moreF F.floor p j = p j := by
  constructor
  · intro st j hj
    have h1 := h.g _ st j hj
    have h2 := (h.st.b j hj).2
    unfold moreF at h1 ⊢
    split at h1 <;> split <;> omega
  · intro e
    exact st_congr ok so (fun j hj => (e j hj).symm) h.st
theorem deep_no {F : Fig} {s : List Int} {p : Nat → Int} (h : IsPose F s p) {a : Nat} (ha : a < F.n) : ¬ IsSt F s (updF p a (p a + 1)) := fun st => by
  have := h.g _ st a ha
  unfold updF at this
  rw [if_pos rfl] at this
  omega
def DeeperOk (S : Fn) : Prop := ∀ (d : D) (n a : Nat) (p : Nat → Int), n ≤ 8 → a < n → S [d, depD n p, .int a] = some ⟨depD n (updF p a (p a + 1)), 0, .none⟩
theorem deeper_ok {Γ : Gm} : DeeperOk (run Γ false 3 3 C.b_law_deeper) := by
  intro d n a p hn ha
  rw [run3]
  unfold C.b_law_deeper depD
  simp only [ent, List.map_cons, List.map_nil, List.cons_append, List.nil_append, List.length_cons, List.length_nil, List.replicate_succ, List.replicate_zero, Nat.reduceAdd, Nat.reduceSub, if_true, if_false, ↓reduceIte, Bool.false_eq_true]
  have hl1 : ((rowD n fun j => PyData.int (p j)).take a).length = a := by rw [List.length_take, rowD_len]; omega
  have hl2 : ((rowD n fun j => PyData.int (p j)).drop (a + 1)).length = n - (a + 1) := by rw [List.length_drop, rowD_len]
  have c1 := cut_to (rowD n fun j => PyData.int (p j)) a
  have c2 := cut_from (rowD n fun j => PyData.int (p j)) (a + 1)
  rw [show (((a + 1 : Nat)) : Int) = (a : Int) + 1 from by push_cast; rfl] at c2
  have h1 : lenOk (a + 1) = true := len_ok (by omega)
  have h2 : lenOk (a + 1 + (n - (a + 1))) = true := len_ok (by omega)
  have e : (rowD n fun j => PyData.int (p j)).take a ++ [PyData.int (p a + 1)] ++ (rowD n fun j => PyData.int (p j)).drop (a + 1) = rowD n fun j => .int (updF p a (p a + 1) j) := by
    rw [← row_upd, ← rowD_set ha, List.set_eq_take_append_cons_drop, if_pos (by rw [rowD_len]; exact ha)]
    simp
  simp (config := { decide := false, maxSteps := 1000000 }) only [exs_nil, exs_cons, nxt_nx, nxt_rt, nxt_bk, nxt_ct, ex_for, ex_while, ev_comp, ev_nm, ev_int, ev_bl, ev_non, ev_str, ev_glb, ev_op, ev_neg, ev_tst, ev_ife, ev_tup, ev_lst, ev_ix, ev_bix, ev_bix2, ev_slc, ev_call, ev_cio, ev_b1, ev_dnew, ev_blen, ev_b2, ev_isi, evs_nil, evs_cons, evo_no, evo_yes, evT_ex, evT_cm, evT_chn, evT_not, evT_and, evT_or, evA_nil, evA_cons, evR_nil, evR_cons, evI_ex, evI_rng1, evI_rng2, evI_enm, evI_zip, ex_set, ex_tset, ex_par, ex_par3, ex_aug, ex_ixset, ex_pst, ex_ixset2, ex_ixset22, ex_app, ex_expr, ex_ret, ex_retN, ex_ite, ex_brk, ex_cont, ex_pass, ex_never, mb_some, mb_none, gt_zero, gt_succ, st_zero, st_succ, wp, bk, rdN, ow1, ow01, ow2, setable, setS, set1, set2, up1, bnd, bnds, isiD, outF, ioOf, atI0, atI1, atI2, atI3, ixN0, ixN1, len0, len1, len2, len3, len4, len5, len6, len7, len8, len9, List.length_cons, List.length_nil, List.length_map, List.length_append, Nat.zero_add, Nat.reduceAdd, set0, set1', opD_add, opD_sub, opD_mul, opD_fdiv, opD_mod, opD_pow, opD_addT, opD_addL, opD_mulL, opD_mulT, lvD_int, lvD_bool, lvD_str, lvD_tuple, lvD_dict, lvD_none, lvD_list, b1_lenL, b1_lenT, b1_lenD, b1_lenK, b1_abs, b1_int, b1_tupL, b1_tupT, b1_lstL, b1_lstT, b1_lstS, b1_all, b1_any, b1_str, b1_srtL, b1_srtD, b2_min, b2_max, cm_eq, cm_ne, cm_lt, cm_le, cm_gt, cm_ge, cm_ltT, cm_is_int, cm_isN_int, cm_is_tuple, cm_isN_tuple, cm_is_list, cm_isN_list, cm_is_bool, cm_isN_bool, cm_is_str, cm_isN_str, cm_is_none, cm_isN_none, cm_isb, cm_isNb, ix_L, ix_T, sl_L, sl_T, st_L, Option.bind_some, Option.map_some, Option.bind_none, Option.map_none, if_true, if_false, ↓reduceIte, Bool.and_true, Bool.true_and, Bool.and_false, Bool.false_and, Bool.not_true, Bool.not_false, decide_true, decide_false, decide_not, Bool.false_eq_true, c1, c2, atI_row ha, hl1, hl2, h1, h2]
  rw [e]
end DI

/-! M13: k04, one turn reckoned. -/
namespace DI
open PySem
def t4B : Ss := (.cons (.set false 6 (.cio 1 1 (.cons (.int 8) (.cons (.int 6) .nil)))) (.cons (.set false 7 (.cio 2 1 (.cons (.nm 6) .nil))) (.cons (.set false 4 (.call 3 (.cons (.nm 6) (.cons (.nm 7) .nil)))) (.cons (.ite (.or (.cons (.not (.ex (.call 5 (.cons (.call 6 (.cons (.nm 6) (.cons (.nm 7) .nil))) (.cons (.nm 4) .nil))))) (.cons (.cm .isN (.call 4 (.cons (.nm 6) (.cons (.nm 7) (.cons (.nm 4) .nil)))) (.bl true)) .nil))) (.cons (.ret false (.bl false)) .nil) .nil) (.cons (.set false 8 (.b1 .tuple (.comp 0 [16] (.nm 16) (.ex (.nm 4)) .nil (.b2 .min (.ix (.nm 6) (.int 3)) (.op .add (.nm 16) (.int 1)))))) (.cons (.ite (.not (.ex (.call 5 (.cons (.call 4 (.cons (.nm 6) (.cons (.nm 7) (.cons (.nm 8) .nil)))) (.cons (.tst (.cm .eq (.nm 8) (.nm 4))) .nil))))) (.cons (.ret false (.bl false)) .nil) .nil) (.cons (.set false 9 (.cio 7 1 (.cons (.ix (.nm 6) (.int 0)) .nil))) (.cons (.ite (.and (.cons (.cm .lt (.ix (.nm 4) (.nm 9)) (.ix (.nm 6) (.int 3))) (.cons (.cm .isN (.call 4 (.cons (.nm 6) (.cons (.nm 7) (.cons (.call 8 (.cons (.nm 6) (.cons (.nm 4) (.cons (.nm 9) .nil)))) .nil)))) (.bl false)) .nil))) (.cons (.ret false (.bl false)) .nil) .nil) .nil))))))))
structure Env4 (Γ : Gm) : Prop where
  cup : CupF (Γ 0)
  fig : FigureOk (Γ 1)
  set : SettingOk (Γ 2)
  lp : LawPoseOk (Γ 3)
  st : StanceOk (Γ 4)
  same : SameOk (Γ 5)
  pose : PoseOk (Γ 6)
  roll : RollOk (Γ 7)
  deep : DeeperOk (Γ 8)
  some_ : SomeOk (Γ 9)
theorem turn4 {Γ : Gm} (G : Env4 Γ) {c d : D} {x : Sl} (hc : CupOk c) :
    W (exs Γ t4B [.sl 0 d, .sl 1 c, x, .un, .un, .un, .un, .un, .un, .un, .un, .un, .un, .un, .un, .un, .un]) fun o => ∃ ρ', o = .nx ρ' ∧ ∃ c', wp ρ' [2, 4, 6, 7, 8, 9] = [.sl 0 d, .sl 1 c', .un, .un, .un, .un, .un, .un, .un, .un, .un, .un, .un, .un, .un, .un, .un] ∧ CupOk c' := by
  obtain ⟨F, c1, e1, ok, hc1, _⟩ := G.fig c 8 6 hc (by omega) (by omega) (by omega) (by omega)
  obtain ⟨s, c2, e2, so, hc2⟩ := G.set c1 F hc1 ok
  obtain ⟨p, e3, hp⟩ := G.pose F s ok so
  have e4 := G.lp F s p ok so hp
  have n8 := ok.n8
  have n1 := ok.n1
  have pl : plainD 8 (depD F.n p) := plain_row (k := 6) (by omega) p
  have e5 := G.same _ pl
  obtain ⟨b6, e6, t6⟩ := G.st F s p ok so
  have hb6 : b6 = true := t6.mpr hp.st
  subst hb6
  obtain ⟨b7, e7, t7⟩ := G.st F s (moreF F.floor p) ok so
  have hb7 : PyData.eqv (depD F.n (moreF F.floor p)) (depD F.n p) = b7 := by
    rw [Bool.eq_iff_iff, eqv_row, t7]
    exact (more_st ok so hp).symm
  have e8 := G.same (.bool b7) trivial
  obtain ⟨a, c3, e9, a0, a1, hc3⟩ := G.roll c2 F.n hc2 (by omega) (by omega)
  obtain ⟨k, rfl⟩ : ∃ k : Nat, (k : Int) = a := ⟨a.toNat, Int.toNat_of_nonneg a0⟩
  have hk : k < F.n := by omega
  have e10 := G.deep (figD F) F.n k p n8 hk
  obtain ⟨b11, e11, t11⟩ := G.st F s (updF p k (p k + 1)) ok so
  have hb11 : b11 = false := by
    cases b11 with
    | false => rfl
    | true => exact absurd (t11.mp rfl) (deep_no hp hk)
  subst hb11
  have d0 := d0_fig F
  have d3 := d3_fig F
  have s1 := shp_row F.n (moreF F.floor p)
  have s2 := shp_row F.n p
  have cm : ∀ (c : D) (x : Sl), compE Γ 0 [16] (.nm 16) .nil (.b2 .min (.ix (.nm 6) (.int 3)) (.op .add (.nm 16) (.int 1))) (rowD F.n fun j => .int (p j)) [.sl 0 d, .sl 1 c, x, .un, .sl 0 (depD F.n p), .un, .sl 0 (figD F), .sl 0 (intsD s), .un, .un, .un, .un, .un, .un, .un, .un, .un] =
      some (rowD F.n fun j => .int (moreF F.floor p j), [.sl 0 d, .sl 1 c, x, .un, .sl 0 (depD F.n p), .un, .sl 0 (figD F), .sl 0 (intsD s), .un, .un, .un, .un, .un, .un, .un, .un, .un]) := by
    intro c x
    refine compE_mapA (fun j => PyData.int (p j)) (fun j => PyData.int (moreF F.floor p j)) fun j _ => ?_
    simp (config := { decide := false, maxSteps := 1000000 }) only [exs_nil, exs_cons, nxt_nx, nxt_rt, nxt_bk, nxt_ct, ex_for, ex_while, ev_comp, ev_nm, ev_int, ev_bl, ev_non, ev_str, ev_glb, ev_op, ev_neg, ev_tst, ev_ife, ev_tup, ev_lst, ev_ix, ev_bix, ev_bix2, ev_slc, ev_call, ev_cio, ev_b1, ev_dnew, ev_blen, ev_b2, ev_isi, evs_nil, evs_cons, evo_no, evo_yes, evT_ex, evT_cm, evT_chn, evT_not, evT_and, evT_or, evA_nil, evA_cons, evR_nil, evR_cons, evI_ex, evI_rng1, evI_rng2, evI_enm, evI_zip, ex_set, ex_tset, ex_par, ex_par3, ex_aug, ex_ixset, ex_pst, ex_ixset2, ex_ixset22, ex_app, ex_expr, ex_ret, ex_retN, ex_ite, ex_brk, ex_cont, ex_pass, ex_never, mb_some, mb_none, gt_zero, gt_succ, st_zero, st_succ, wp, bk, rdN, ow1, ow01, ow2, setable, setS, set1, set2, up1, bnd, bnds, isiD, outF, ioOf, atI0, atI1, atI2, atI3, ixN0, ixN1, len0, len1, len2, len3, len4, len5, len6, len7, len8, len9, List.length_cons, List.length_nil, List.length_map, List.length_append, Nat.zero_add, Nat.reduceAdd, set0, set1', opD_add, opD_sub, opD_mul, opD_fdiv, opD_mod, opD_pow, opD_addT, opD_addL, opD_mulL, opD_mulT, lvD_int, lvD_bool, lvD_str, lvD_tuple, lvD_dict, lvD_none, lvD_list, b1_lenL, b1_lenT, b1_lenD, b1_lenK, b1_abs, b1_int, b1_tupL, b1_tupT, b1_lstL, b1_lstT, b1_lstS, b1_all, b1_any, b1_str, b1_srtL, b1_srtD, b2_min, b2_max, cm_eq, cm_ne, cm_lt, cm_le, cm_gt, cm_ge, cm_ltT, cm_is_int, cm_isN_int, cm_is_tuple, cm_isN_tuple, cm_is_list, cm_isN_list, cm_is_bool, cm_isN_bool, cm_is_str, cm_isN_str, cm_is_none, cm_isN_none, cm_isb, cm_isNb, ix_L, ix_T, sl_L, sl_T, st_L, Option.bind_some, Option.map_some, Option.bind_none, Option.map_none, if_true, if_false, ↓reduceIte, Bool.and_true, Bool.true_and, Bool.and_false, Bool.false_and, Bool.not_true, Bool.not_false, decide_true, decide_false, decide_not, Bool.false_eq_true, d3]
    exact W_some.mpr ⟨.inl trivial, rfl, rfl⟩
  have e6 : Γ 4 [figD F, intsD s, depD F.n p] = rB true := e6
  have e7 : Γ 4 [figD F, intsD s, depD F.n (moreF F.floor p)] = rB b7 := e7
  have e11 : Γ 4 [figD F, intsD s, depD F.n (updF p k (p k + 1))] = rB false := e11
  unfold rB at e5 e6 e7 e8 e11
  have s1' : shp (PyData.tuple (rowD F.n fun j => .int (moreF F.floor p j))) = true := s1
  have s2' : shp (PyData.tuple (rowD F.n fun j => .int (p j))) = true := s2
  have q7 : PyData.eqv (PyData.tuple (rowD F.n fun j => .int (moreF F.floor p j))) (PyData.tuple (rowD F.n fun j => .int (p j))) = b7 := hb7
  clear s1 s2 hb7 pl t6 t7 t11
  unfold depD at e3 e4 e5 e6 e7 e10 e11 cm
  unfold t4B
  generalize figD F = fd at *
  generalize intsD s = sd at *
  by_cases hlt : p k < F.floor
  · simp (config := { decide := false, maxSteps := 1000000 }) only [exs_nil, exs_cons, nxt_nx, nxt_rt, nxt_bk, nxt_ct, ex_for, ex_while, ev_comp, ev_nm, ev_int, ev_bl, ev_non, ev_str, ev_glb, ev_op, ev_neg, ev_tst, ev_ife, ev_tup, ev_lst, ev_ix, ev_bix, ev_bix2, ev_slc, ev_call, ev_cio, ev_b1, ev_dnew, ev_blen, ev_b2, ev_isi, evs_nil, evs_cons, evo_no, evo_yes, evT_ex, evT_cm, evT_chn, evT_not, evT_and, evT_or, evA_nil, evA_cons, evR_nil, evR_cons, evI_ex, evI_rng1, evI_rng2, evI_enm, evI_zip, ex_set, ex_tset, ex_par, ex_par3, ex_aug, ex_ixset, ex_pst, ex_ixset2, ex_ixset22, ex_app, ex_expr, ex_ret, ex_retN, ex_ite, ex_brk, ex_cont, ex_pass, ex_never, mb_some, mb_none, gt_zero, gt_succ, st_zero, st_succ, wp, bk, rdN, ow1, ow01, ow2, setable, setS, set1, set2, up1, bnd, bnds, isiD, outF, ioOf, atI0, atI1, atI2, atI3, ixN0, ixN1, len0, len1, len2, len3, len4, len5, len6, len7, len8, len9, List.length_cons, List.length_nil, List.length_map, List.length_append, Nat.zero_add, Nat.reduceAdd, set0, set1', opD_add, opD_sub, opD_mul, opD_fdiv, opD_mod, opD_pow, opD_addT, opD_addL, opD_mulL, opD_mulT, lvD_int, lvD_bool, lvD_str, lvD_tuple, lvD_dict, lvD_none, lvD_list, b1_lenL, b1_lenT, b1_lenD, b1_lenK, b1_abs, b1_int, b1_tupL, b1_tupT, b1_lstL, b1_lstT, b1_lstS, b1_all, b1_any, b1_str, b1_srtL, b1_srtD, b2_min, b2_max, cm_eq, cm_ne, cm_lt, cm_le, cm_gt, cm_ge, cm_ltT, cm_is_int, cm_isN_int, cm_is_tuple, cm_isN_tuple, cm_is_list, cm_isN_list, cm_is_bool, cm_isN_bool, cm_is_str, cm_isN_str, cm_is_none, cm_isN_none, cm_isb, cm_isNb, ix_L, ix_T, sl_L, sl_T, st_L, Option.bind_some, Option.map_some, Option.bind_none, Option.map_none, if_true, if_false, ↓reduceIte, Bool.and_true, Bool.true_and, Bool.and_false, Bool.false_and, Bool.not_true, Bool.not_false, decide_true, decide_false, decide_not, Bool.false_eq_true, e1, e2, e3, e4, e5, e6, e7, e8, e9, e10, e11, d0, d3, cm, s1', s2', q7, atI_row hk, hlt, cm_isNb, cm_isb, BEq.rfl]
    refine W_some.mpr ?_
    exact ⟨_, rfl, c3, rfl, hc3⟩
  · simp (config := { decide := false, maxSteps := 1000000 }) only [exs_nil, exs_cons, nxt_nx, nxt_rt, nxt_bk, nxt_ct, ex_for, ex_while, ev_comp, ev_nm, ev_int, ev_bl, ev_non, ev_str, ev_glb, ev_op, ev_neg, ev_tst, ev_ife, ev_tup, ev_lst, ev_ix, ev_bix, ev_bix2, ev_slc, ev_call, ev_cio, ev_b1, ev_dnew, ev_blen, ev_b2, ev_isi, evs_nil, evs_cons, evo_no, evo_yes, evT_ex, evT_cm, evT_chn, evT_not, evT_and, evT_or, evA_nil, evA_cons, evR_nil, evR_cons, evI_ex, evI_rng1, evI_rng2, evI_enm, evI_zip, ex_set, ex_tset, ex_par, ex_par3, ex_aug, ex_ixset, ex_pst, ex_ixset2, ex_ixset22, ex_app, ex_expr, ex_ret, ex_retN, ex_ite, ex_brk, ex_cont, ex_pass, ex_never, mb_some, mb_none, gt_zero, gt_succ, st_zero, st_succ, wp, bk, rdN, ow1, ow01, ow2, setable, setS, set1, set2, up1, bnd, bnds, isiD, outF, ioOf, atI0, atI1, atI2, atI3, ixN0, ixN1, len0, len1, len2, len3, len4, len5, len6, len7, len8, len9, List.length_cons, List.length_nil, List.length_map, List.length_append, Nat.zero_add, Nat.reduceAdd, set0, set1', opD_add, opD_sub, opD_mul, opD_fdiv, opD_mod, opD_pow, opD_addT, opD_addL, opD_mulL, opD_mulT, lvD_int, lvD_bool, lvD_str, lvD_tuple, lvD_dict, lvD_none, lvD_list, b1_lenL, b1_lenT, b1_lenD, b1_lenK, b1_abs, b1_int, b1_tupL, b1_tupT, b1_lstL, b1_lstT, b1_lstS, b1_all, b1_any, b1_str, b1_srtL, b1_srtD, b2_min, b2_max, cm_eq, cm_ne, cm_lt, cm_le, cm_gt, cm_ge, cm_ltT, cm_is_int, cm_isN_int, cm_is_tuple, cm_isN_tuple, cm_is_list, cm_isN_list, cm_is_bool, cm_isN_bool, cm_is_str, cm_isN_str, cm_is_none, cm_isN_none, cm_isb, cm_isNb, ix_L, ix_T, sl_L, sl_T, st_L, Option.bind_some, Option.map_some, Option.bind_none, Option.map_none, if_true, if_false, ↓reduceIte, Bool.and_true, Bool.true_and, Bool.and_false, Bool.false_and, Bool.not_true, Bool.not_false, decide_true, decide_false, decide_not, Bool.false_eq_true, e1, e2, e3, e4, e5, e6, e7, e8, e9, e10, e11, d0, d3, cm, s1', s2', q7, atI_row hk, hlt, cm_isNb, cm_isb, BEq.rfl]
    refine W_some.mpr ?_
    exact ⟨_, rfl, c3, rfl, hc3⟩
end DI

/-! M14: poses by formulas. -/
namespace DI
open PySem
def chain (m : Nat) (len : Int) : List (Nat × Nat × Int) := (List.range (m - 1)).map fun a => (a, a + 1, len)
theorem chain_mem {m : Nat} {len : Int} {l : Nat × Nat × Int} (h : l ∈ chain m len) : ∃ a, a + 1 < m ∧ l = (a, a + 1, len) := by
  obtain ⟨a, ha, rfl⟩ := List.mem_map.mp h
  have := List.mem_range.mp ha
  exact ⟨a, by omega, rfl⟩
theorem chain_has {m : Nat} {len : Int} {a : Nat} (h : a + 1 < m) : (a, a + 1, len) ∈ chain m len := List.mem_map.mpr ⟨a, List.mem_range.mpr (by omega), rfl⟩
theorem chain_fig {n m : Nat} {len fl : Int} {ts : List Nat} (hm : m ≤ n) (hm2 : m ≤ 13) (n1 : 1 ≤ n) (n8 : n ≤ 8) (l1 : 1 ≤ len) (l9 : len ≤ 9) (f1 : 1 ≤ fl) (f30 : fl ≤ 30) (t1 : 1 ≤ ts.length) (t6 : ts.length ≤ 6) (to : ∀ t ∈ ts, t < n) : FigOk ⟨n, chain m len, ts, fl⟩ := by
  refine ⟨n1, n8, f1, f30, ?_, fun l hl => ?_, ?_, t1, t6, to⟩
  · show ((List.range (m - 1)).map _).length ≤ 12
    rw [List.length_map, List.length_range]; omega
  · obtain ⟨a, ha, rfl⟩ := chain_mem hl
    exact ⟨by simp, by show a + 1 < n; omega, l1, l9⟩
  · show ((List.range (m - 1)).map _).Pairwise limbLt
    rw [List.pairwise_map]
    exact List.pairwise_lt_range.imp fun {a b} h => .inl h
theorem noLimb_fig {n : Nat} {fl : Int} {ts : List Nat} (n1 : 1 ≤ n) (n8 : n ≤ 8) (f1 : 1 ≤ fl) (f30 : fl ≤ 30) (t1 : 1 ≤ ts.length) (t6 : ts.length ≤ 6) (to : ∀ t ∈ ts, t < n) : FigOk ⟨n, [], ts, fl⟩ :=
  ⟨n1, n8, f1, f30, Nat.zero_le _, (fun l hl => by cases hl), .nil, t1, t6, to⟩
theorem chain_up {m : Nat} {len : Int} {w : Nat → Int} (h : ∀ l ∈ chain m len, w l.1 - w l.2.1 ≤ l.2.2 ∧ w l.2.1 - w l.1 ≤ l.2.2) : ∀ j : Nat, j < m → w j ≤ w 0 + j * len
  | 0, _ => by simp
  | j + 1, hj => by
    have ih := chain_up h j (by omega)
    have := (h _ (chain_has (len := len) hj)).2
    simp only at this
    have e : ((j + 1 : Nat) : Int) * len = j * len + len := by push_cast; rw [Int.add_mul, Int.one_mul]
    rw [e]; omega
theorem chain_down {m : Nat} {len : Int} {w : Nat → Int} (h : ∀ l ∈ chain m len, w l.1 - w l.2.1 ≤ l.2.2 ∧ w l.2.1 - w l.1 ≤ l.2.2) : ∀ k j : Nat, j + k + 1 = m → w j ≤ w (m - 1) + k * len
  | 0, j, hj => by
    have : j = m - 1 := by omega
    subst this; simp
  | k + 1, j, hj => by
    have ih := chain_down h k (j + 1) (by omega)
    have := (h _ (chain_has (len := len) (a := j) (by omega))).1
    simp only at this
    have e : ((k + 1 : Nat) : Int) * len = k * len + len := by push_cast; rw [Int.add_mul, Int.one_mul]
    rw [e]; omega
theorem near_mul {x y len : Int} (h1 : x - y ≤ 1) (h2 : y - x ≤ 1) (h : 0 ≤ len) : x * len - y * len ≤ len ∧ y * len - x * len ≤ len := by
  have : x = y ∨ x = y + 1 ∨ y = x + 1 := by omega
  rcases this with e | e | e
  · subst e; omega
  · subst e; rw [Int.add_mul, Int.one_mul]; omega
  · subst e; rw [Int.add_mul, Int.one_mul]; omega
theorem mn_near {f x y len : Int} (h1 : x - y ≤ len) (h2 : y - x ≤ len) (h : 0 ≤ len) : mnI f x - mnI f y ≤ len ∧ mnI f y - mnI f x ≤ len := by
  unfold mnI; split <;> split <;> omega
/-- a chain with one more joint, hung at its head -/
theorem pose1 {m : Nat} {len deep fl : Int} (hm : 1 ≤ m) (l1 : 1 ≤ len) (d0 : 0 ≤ deep) (df : deep ≤ fl) : IsPose ⟨m + 1, chain m len, [0], fl⟩ [deep] (fun j => if j < m then mnI fl (deep + j * len) else fl) := by
  have pos : ∀ j : Nat, 0 ≤ (j : Int) * len := fun j => Int.mul_nonneg (by omega) (by omega)
  refine ⟨⟨fun j hj => ?_, fun l hl => ?_, fun x hx => ?_⟩, fun w hw j hj => ?_⟩
  · simp only
    have := pos j
    split
    · exact ⟨mn_of _ _ _ (by omega) (by omega), (mn_le _ _).1⟩
    · omega
  · obtain ⟨a, ha, rfl⟩ := chain_mem hl
    simp only
    rw [if_pos (by omega), if_pos ha]
    have := near_mul (x := (a : Int)) (y := ((a + 1 : Nat) : Int)) (len := len) (by push_cast; omega) (by push_cast; omega) (by omega)
    exact mn_near (by omega) (by omega) (by omega)
  · have e : x = (0, deep) := by simpa using hx
    subst e
    simp only
    rw [if_pos (by omega)]
    have := (mn_le fl (deep + ((0 : Nat) : Int) * len)).2
    simpa using this
  · have hb := (hw.b j hj).2
    split
    · have h1 := chain_up hw.l j (by assumption)
      have h2 := hw.t (0, deep) (by simp)
      have h2 : w 0 ≤ deep := h2
      exact mn_of _ _ _ hb (by omega)
    · exact hb
/-- .. hung at both ends -/
theorem pose2 {m : Nat} {len deep fl : Int} (hm : 2 ≤ m) (l1 : 1 ≤ len) (d0 : 0 ≤ deep) (df : deep ≤ fl) : IsPose ⟨m, chain m len, [0, m - 1], fl⟩ [deep, deep] (fun j => mnI fl (deep + mnI j ((m : Int) - 1 - j) * len)) := by
  refine ⟨⟨fun j hj => ?_, fun l hl => ?_, fun x hx => ?_⟩, fun w hw j hj => ?_⟩
  · have hj : j < m := hj
    have h0 : 0 ≤ mnI j ((m : Int) - 1 - j) := mn_of _ _ _ (by omega) (by omega)
    have := Int.mul_nonneg h0 (show 0 ≤ len by omega)
    exact ⟨mn_of _ _ _ (by show 0 ≤ fl; omega) (by omega), (mn_le _ _).1⟩
  · obtain ⟨a, ha, rfl⟩ := chain_mem hl
    simp only
    have e := near_mul (x := mnI (a : Int) ((m : Int) - 1 - a)) (y := mnI ((a + 1 : Nat) : Int) ((m : Int) - 1 - ((a + 1 : Nat) : Int))) (len := len) (by unfold mnI; push_cast; split <;> split <;> omega) (by unfold mnI; push_cast; split <;> split <;> omega) (by omega)
    exact mn_near (by omega) (by omega) (by omega)
  · have e : x = (0, deep) ∨ x = (m - 1, deep) := by simpa using hx
    have z : ∀ j : Nat, (mnI (j : Int) ((m : Int) - 1 - j)) = 0 → mnI fl (deep + mnI j ((m : Int) - 1 - j) * len) ≤ deep := fun j hj => by
      rw [hj, Int.zero_mul, Int.add_zero]; exact (mn_le _ _).2
    rcases e with e | e <;> subst e
    · exact z 0 (by unfold mnI; split <;> omega)
    · exact z (m - 1) (by unfold mnI; split <;> omega)
  · have hj : j < m := hj
    have hb : w j ≤ fl := (hw.b j hj).2
    have h1 := chain_up hw.l j hj
    have h2 : w 0 ≤ deep := hw.t (0, deep) (by simp)
    have h3 := chain_down hw.l (m - 1 - j) j (by omega)
    have h4 : w (m - 1) ≤ deep := hw.t (m - 1, deep) (by simp)
    have e : ((m - 1 - j : Nat) : Int) = (m : Int) - 1 - j := by omega
    rw [e] at h3
    refine mn_of _ _ _ hb ?_
    unfold mnI
    split
    · omega
    · omega
theorem pose3 {one other fl : Int} (h1 : 0 ≤ one) (h2 : one ≤ fl) (h3 : 0 ≤ other) (h4 : other ≤ fl) : IsPose ⟨1, [], [0, 0], fl⟩ [one, other] (fun _ => mnI one other) := by
  refine ⟨⟨fun j _ => ⟨mn_of _ _ _ h1 h3, Int.le_trans (mn_le _ _).1 h2⟩, fun l hl => (by cases hl), fun x hx => ?_⟩, fun w hw j hj => ?_⟩
  · have e : x = (0, one) ∨ x = (0, other) := by simpa using hx
    rcases e with e | e <;> subst e
    · exact (mn_le _ _).1
    · exact (mn_le _ _).2
  · have hj : j < 1 := hj
    have : j = 0 := by omega
    subst this
    exact mn_of _ _ _ (hw.t (0, one) (by simp)) (hw.t (0, other) (by simp))
theorem pose4 {n : Nat} {len fl : Int} {ts : List Nat} {s : List Int} (f0 : 0 ≤ fl) (l1 : 1 ≤ len) (hs : ∀ x ∈ s, x = fl) : IsPose ⟨n, chain n len, ts, fl⟩ s (fun _ => fl) := by
  refine ⟨⟨fun j _ => ⟨f0, Int.le_refl _⟩, fun l hl => ?_, fun x hx => ?_⟩, fun w hw j hj => (hw.b j hj).2⟩
  · obtain ⟨a, ha, rfl⟩ := chain_mem hl
    simp only; omega
  · have := hs x.2 (List.of_mem_zip (a := x.1) (b := x.2) hx).2
    show fl ≤ x.2
    omega
theorem pose5 {n : Nat} {one fl : Int} (h1 : 0 ≤ one) (h2 : one ≤ fl) : IsPose ⟨n, [], [0, 0], fl⟩ [0, one] (fun j => if j = 0 then 0 else fl) := by
  refine ⟨⟨fun j _ => ?_, fun l hl => (by cases hl), fun x hx => ?_⟩, fun w hw j hj => ?_⟩
  · show 0 ≤ (if j = 0 then (0 : Int) else fl) ∧ (if j = 0 then (0 : Int) else fl) ≤ fl
    split <;> omega
  · have e : x = (0, 0) ∨ x = (0, one) := by simpa using hx
    rcases e with e | e <;> subst e
    · show (if (0 : Nat) = 0 then (0 : Int) else fl) ≤ 0; rw [if_pos rfl]; exact Int.le_refl _
    · show (if (0 : Nat) = 0 then (0 : Int) else fl) ≤ one; rw [if_pos rfl]; exact h1
  · split
    · rename_i e; subst e; exact hw.t (0, 0) (by simp)
    · exact (hw.b j hj).2
end DI

/-! M15: k04, the whole law. -/
namespace DI
open PySem
def l4B : Ss := (.cons (.set true 1 (.call 0 (.cons (.nm 0) .nil))) (.cons (.for [2, 4, 6, 7, 8, 9] (.nm 2) (.rng1 (.int 8)) t4B) (.cons (.tset (.tup [(.nm 10), (.nm 11), (.nm 12), (.nm 13)]) (.tup (.cons (.op .add (.int 2) (.cio 7 1 (.cons (.int 6) .nil))) (.cons (.op .add (.int 1) (.cio 7 1 (.cons (.int 4) .nil))) (.cons (.cio 7 1 (.cons (.int 12) .nil)) (.cons (.cio 9 1 (.cons (.lst (.cons (.int 12) (.cons (.int 20) (.cons (.int 30) .nil)))) .nil)) .nil)))))) (.cons (.set false 3 (.b1 .tuple (.comp 0 [9] (.nm 9) (.rng1 (.op .sub (.nm 10) (.int 1))) .nil (.tup (.cons (.nm 9) (.cons (.op .add (.nm 9) (.int 1)) (.cons (.nm 11) .nil))))))) (.cons (.set false 4 (.b1 .tuple (.op .add (.comp 0 [9] (.nm 9) (.rng1 (.nm 10)) .nil (.b2 .min (.nm 13) (.op .add (.nm 12) (.op .mul (.nm 9) (.nm 11))))) (.lst (.cons (.nm 13) .nil))))) (.cons (.ite (.not (.ex (.call 5 (.cons (.call 6 (.cons (.tup (.cons (.op .add (.nm 10) (.int 1)) (.cons (.nm 3) (.cons (.tup (.cons (.int 0) .nil)) (.cons (.nm 13) .nil))))) (.cons (.tup (.cons (.nm 12) .nil)) .nil))) (.cons (.nm 4) .nil))))) (.cons (.ret false (.bl false)) .nil) .nil) (.cons (.set false 4 (.b1 .tuple (.comp 0 [9] (.nm 9) (.rng1 (.nm 10)) .nil (.b2 .min (.nm 13) (.op .add (.nm 12) (.op .mul (.b2 .min (.nm 9) (.op .sub (.op .sub (.nm 10) (.int 1)) (.nm 9))) (.nm 11))))))) (.cons (.ite (.not (.ex (.call 5 (.cons (.call 6 (.cons (.tup (.cons (.nm 10) (.cons (.nm 3) (.cons (.tup (.cons (.int 0) (.cons (.op .sub (.nm 10) (.int 1)) .nil))) (.cons (.nm 13) .nil))))) (.cons (.tup (.cons (.nm 12) (.cons (.nm 12) .nil))) .nil))) (.cons (.nm 4) .nil))))) (.cons (.ret false (.bl false)) .nil) .nil) (.cons (.par 14 15 (.cio 7 1 (.cons (.op .add (.nm 13) (.int 1)) .nil)) (.cio 7 1 (.cons (.op .add (.nm 13) (.int 1)) .nil))) (.cons (.set false 5 (.tup (.cons (.call 6 (.cons (.tup (.cons (.int 1) (.cons (.tup .nil) (.cons (.tup (.cons (.int 0) (.cons (.int 0) .nil))) (.cons (.nm 13) .nil))))) (.cons (.tup (.cons (.nm 14) (.cons (.nm 15) .nil))) .nil))) (.cons (.call 6 (.cons (.tup (.cons (.nm 10) (.cons (.nm 3) (.cons (.tup (.cons (.int 0) (.cons (.int 0) (.cons (.op .sub (.nm 10) (.int 1)) .nil)))) (.cons (.nm 13) .nil))))) (.cons (.op .mul (.tup (.cons (.nm 13) .nil)) (.int 3)) .nil))) (.cons (.call 6 (.cons (.tup (.cons (.nm 10) (.cons (.tup .nil) (.cons (.tup (.cons (.int 0) (.cons (.int 0) .nil))) (.cons (.nm 13) .nil))))) (.cons (.tup (.cons (.int 0) (.cons (.nm 14) .nil))) .nil))) .nil))))) (.cons (.ret false (.call 5 (.cons (.nm 5) (.cons (.tup (.cons (.tup (.cons (.b2 .min (.nm 14) (.nm 15)) .nil)) (.cons (.op .mul (.tup (.cons (.nm 13) .nil)) (.nm 10)) (.cons (.op .add (.tup (.cons (.int 0) .nil)) (.op .mul (.tup (.cons (.nm 13) .nil)) (.op .sub (.nm 10) (.int 1)))) .nil)))) .nil)))) .nil)))))))))))
theorem exs_step {Γ : Gm} {s : S} {ss : Ss} {ρ ρ' : Ev} {f : Out → Option FR} {R : Option FR} (h : ex Γ s ρ = some (.nx ρ')) (h2 : (exs Γ ss ρ').bind f = R) : (exs Γ (.cons s ss) ρ).bind f = R := by
  rw [exs_cons, h, Option.bind_some, nxt_nx]; exact h2
theorem exs_last {Γ : Gm} {s : S} {ss : Ss} {ρ ρ' : Ev} {d : D} {k : Nat} {f : Out → Option FR} {R : Option FR} (h : ex Γ s ρ = some (.rt d k ρ')) (h2 : f (.rt d k ρ') = R) : (exs Γ (.cons s ss) ρ).bind f = R := by
  rw [exs_cons, h, Option.bind_some, nxt_rt, Option.bind_some]; exact h2
theorem four4 {Γ : Gm} {d c1 c2 c3 c4 c5 : D} {r1 r2 m len deep fl : Int} (g1 : Γ 7 [c1, .int 6] = some ⟨.int r1, 0, c2⟩) (g2 : Γ 7 [c2, .int 4] = some ⟨.int r2, 0, c3⟩) (g3 : Γ 7 [c3, .int 12] = some ⟨.int deep, 0, c4⟩) (g4 : Γ 9 [c4, .list [.int 12, .int 20, .int 30]] = some ⟨.int fl, 0, c5⟩) (hm : 2 + r1 = m) (hlen : 1 + r2 = len) :
    ex Γ (.tset (.tup [(.nm 10), (.nm 11), (.nm 12), (.nm 13)]) (.tup (.cons (.op .add (.int 2) (.cio 7 1 (.cons (.int 6) .nil))) (.cons (.op .add (.int 1) (.cio 7 1 (.cons (.int 4) .nil))) (.cons (.cio 7 1 (.cons (.int 12) .nil)) (.cons (.cio 9 1 (.cons (.lst (.cons (.int 12) (.cons (.int 20) (.cons (.int 30) .nil)))) .nil)) .nil)))))) [.sl 0 d, .sl 1 c1, .un, .un, .un, .un, .un, .un, .un, .un, .un, .un, .un, .un, .un, .un, .un] = some (.nx [.sl 0 d, .sl 1 c5, .un, .un, .un, .un, .un, .un, .un, .un, .sl 0 (.int m), .sl 0 (.int len), .sl 0 (.int deep), .sl 0 (.int fl), .un, .un, .un]) := by
  have a1 : ev Γ (.op .add (.int 2) (.cio 7 1 (.cons (.int 6) .nil))) [.sl 0 d, .sl 1 c1, .un, .un, .un, .un, .un, .un, .un, .un, .un, .un, .un, .un, .un, .un, .un] = some ((.int m, 0), [.sl 0 d, .sl 1 c2, .un, .un, .un, .un, .un, .un, .un, .un, .un, .un, .un, .un, .un, .un, .un]) := by simp (config := { decide := false, maxSteps := 1000000 }) only [exs_nil, exs_cons, nxt_nx, nxt_rt, nxt_bk, nxt_ct, ex_for, ex_while, ev_comp, ev_nm, ev_int, ev_bl, ev_non, ev_str, ev_glb, ev_op, ev_neg, ev_tst, ev_ife, ev_tup, ev_lst, ev_ix, ev_bix, ev_bix2, ev_slc, ev_call, ev_cio, ev_b1, ev_dnew, ev_blen, ev_b2, ev_isi, evs_nil, evs_cons, evo_no, evo_yes, evT_ex, evT_cm, evT_chn, evT_not, evT_and, evT_or, evA_nil, evA_cons, evR_nil, evR_cons, evI_ex, evI_rng1, evI_rng2, evI_enm, evI_zip, ex_set, ex_tset, ex_par, ex_par3, ex_aug, ex_ixset, ex_pst, ex_ixset2, ex_ixset22, ex_app, ex_expr, ex_ret, ex_retN, ex_ite, ex_brk, ex_cont, ex_pass, ex_never, mb_some, mb_none, gt_zero, gt_succ, st_zero, st_succ, wp, bk, rdN, ow1, ow01, ow2, setable, setS, set1, set2, up1, bnd, bnds, isiD, outF, ioOf, atI0, atI1, atI2, atI3, ixN0, ixN1, len0, len1, len2, len3, len4, len5, len6, len7, len8, len9, List.length_cons, List.length_nil, List.length_map, List.length_append, Nat.zero_add, Nat.reduceAdd, set0, set1', opD_add, opD_sub, opD_mul, opD_fdiv, opD_mod, opD_pow, opD_addT, opD_addL, opD_mulL, opD_mulT, lvD_int, lvD_bool, lvD_str, lvD_tuple, lvD_dict, lvD_none, lvD_list, b1_lenL, b1_lenT, b1_lenD, b1_lenK, b1_abs, b1_int, b1_tupL, b1_tupT, b1_lstL, b1_lstT, b1_lstS, b1_all, b1_any, b1_str, b1_srtL, b1_srtD, b2_min, b2_max, cm_eq, cm_ne, cm_lt, cm_le, cm_gt, cm_ge, cm_ltT, cm_is_int, cm_isN_int, cm_is_tuple, cm_isN_tuple, cm_is_list, cm_isN_list, cm_is_bool, cm_isN_bool, cm_is_str, cm_isN_str, cm_is_none, cm_isN_none, cm_isb, cm_isNb, ix_L, ix_T, sl_L, sl_T, st_L, Option.bind_some, Option.map_some, Option.bind_none, Option.map_none, if_true, if_false, ↓reduceIte, Bool.and_true, Bool.true_and, Bool.and_false, Bool.false_and, Bool.not_true, Bool.not_false, decide_true, decide_false, decide_not, Bool.false_eq_true, g1, hm]
  have a2 : ev Γ (.op .add (.int 1) (.cio 7 1 (.cons (.int 4) .nil))) [.sl 0 d, .sl 1 c2, .un, .un, .un, .un, .un, .un, .un, .un, .un, .un, .un, .un, .un, .un, .un] = some ((.int len, 0), [.sl 0 d, .sl 1 c3, .un, .un, .un, .un, .un, .un, .un, .un, .un, .un, .un, .un, .un, .un, .un]) := by simp (config := { decide := false, maxSteps := 1000000 }) only [exs_nil, exs_cons, nxt_nx, nxt_rt, nxt_bk, nxt_ct, ex_for, ex_while, ev_comp, ev_nm, ev_int, ev_bl, ev_non, ev_str, ev_glb, ev_op, ev_neg, ev_tst, ev_ife, ev_tup, ev_lst, ev_ix, ev_bix, ev_bix2, ev_slc, ev_call, ev_cio, ev_b1, ev_dnew, ev_blen, ev_b2, ev_isi, evs_nil, evs_cons, evo_no, evo_yes, evT_ex, evT_cm, evT_chn, evT_not, evT_and, evT_or, evA_nil, evA_cons, evR_nil, evR_cons, evI_ex, evI_rng1, evI_rng2, evI_enm, evI_zip, ex_set, ex_tset, ex_par, ex_par3, ex_aug, ex_ixset, ex_pst, ex_ixset2, ex_ixset22, ex_app, ex_expr, ex_ret, ex_retN, ex_ite, ex_brk, ex_cont, ex_pass, ex_never, mb_some, mb_none, gt_zero, gt_succ, st_zero, st_succ, wp, bk, rdN, ow1, ow01, ow2, setable, setS, set1, set2, up1, bnd, bnds, isiD, outF, ioOf, atI0, atI1, atI2, atI3, ixN0, ixN1, len0, len1, len2, len3, len4, len5, len6, len7, len8, len9, List.length_cons, List.length_nil, List.length_map, List.length_append, Nat.zero_add, Nat.reduceAdd, set0, set1', opD_add, opD_sub, opD_mul, opD_fdiv, opD_mod, opD_pow, opD_addT, opD_addL, opD_mulL, opD_mulT, lvD_int, lvD_bool, lvD_str, lvD_tuple, lvD_dict, lvD_none, lvD_list, b1_lenL, b1_lenT, b1_lenD, b1_lenK, b1_abs, b1_int, b1_tupL, b1_tupT, b1_lstL, b1_lstT, b1_lstS, b1_all, b1_any, b1_str, b1_srtL, b1_srtD, b2_min, b2_max, cm_eq, cm_ne, cm_lt, cm_le, cm_gt, cm_ge, cm_ltT, cm_is_int, cm_isN_int, cm_is_tuple, cm_isN_tuple, cm_is_list, cm_isN_list, cm_is_bool, cm_isN_bool, cm_is_str, cm_isN_str, cm_is_none, cm_isN_none, cm_isb, cm_isNb, ix_L, ix_T, sl_L, sl_T, st_L, Option.bind_some, Option.map_some, Option.bind_none, Option.map_none, if_true, if_false, ↓reduceIte, Bool.and_true, Bool.true_and, Bool.and_false, Bool.false_and, Bool.not_true, Bool.not_false, decide_true, decide_false, decide_not, Bool.false_eq_true, g2, hlen]
  have a3 : ev Γ (.cio 7 1 (.cons (.int 12) .nil)) [.sl 0 d, .sl 1 c3, .un, .un, .un, .un, .un, .un, .un, .un, .un, .un, .un, .un, .un, .un, .un] = some ((.int deep, 0), [.sl 0 d, .sl 1 c4, .un, .un, .un, .un, .un, .un, .un, .un, .un, .un, .un, .un, .un, .un, .un]) := by simp (config := { decide := false, maxSteps := 1000000 }) only [exs_nil, exs_cons, nxt_nx, nxt_rt, nxt_bk, nxt_ct, ex_for, ex_while, ev_comp, ev_nm, ev_int, ev_bl, ev_non, ev_str, ev_glb, ev_op, ev_neg, ev_tst, ev_ife, ev_tup, ev_lst, ev_ix, ev_bix, ev_bix2, ev_slc, ev_call, ev_cio, ev_b1, ev_dnew, ev_blen, ev_b2, ev_isi, evs_nil, evs_cons, evo_no, evo_yes, evT_ex, evT_cm, evT_chn, evT_not, evT_and, evT_or, evA_nil, evA_cons, evR_nil, evR_cons, evI_ex, evI_rng1, evI_rng2, evI_enm, evI_zip, ex_set, ex_tset, ex_par, ex_par3, ex_aug, ex_ixset, ex_pst, ex_ixset2, ex_ixset22, ex_app, ex_expr, ex_ret, ex_retN, ex_ite, ex_brk, ex_cont, ex_pass, ex_never, mb_some, mb_none, gt_zero, gt_succ, st_zero, st_succ, wp, bk, rdN, ow1, ow01, ow2, setable, setS, set1, set2, up1, bnd, bnds, isiD, outF, ioOf, atI0, atI1, atI2, atI3, ixN0, ixN1, len0, len1, len2, len3, len4, len5, len6, len7, len8, len9, List.length_cons, List.length_nil, List.length_map, List.length_append, Nat.zero_add, Nat.reduceAdd, set0, set1', opD_add, opD_sub, opD_mul, opD_fdiv, opD_mod, opD_pow, opD_addT, opD_addL, opD_mulL, opD_mulT, lvD_int, lvD_bool, lvD_str, lvD_tuple, lvD_dict, lvD_none, lvD_list, b1_lenL, b1_lenT, b1_lenD, b1_lenK, b1_abs, b1_int, b1_tupL, b1_tupT, b1_lstL, b1_lstT, b1_lstS, b1_all, b1_any, b1_str, b1_srtL, b1_srtD, b2_min, b2_max, cm_eq, cm_ne, cm_lt, cm_le, cm_gt, cm_ge, cm_ltT, cm_is_int, cm_isN_int, cm_is_tuple, cm_isN_tuple, cm_is_list, cm_isN_list, cm_is_bool, cm_isN_bool, cm_is_str, cm_isN_str, cm_is_none, cm_isN_none, cm_isb, cm_isNb, ix_L, ix_T, sl_L, sl_T, st_L, Option.bind_some, Option.map_some, Option.bind_none, Option.map_none, if_true, if_false, ↓reduceIte, Bool.and_true, Bool.true_and, Bool.and_false, Bool.false_and, Bool.not_true, Bool.not_false, decide_true, decide_false, decide_not, Bool.false_eq_true, g3]
  have a4 : ev Γ (.cio 9 1 (.cons (.lst (.cons (.int 12) (.cons (.int 20) (.cons (.int 30) .nil)))) .nil)) [.sl 0 d, .sl 1 c4, .un, .un, .un, .un, .un, .un, .un, .un, .un, .un, .un, .un, .un, .un, .un] = some ((.int fl, 0), [.sl 0 d, .sl 1 c5, .un, .un, .un, .un, .un, .un, .un, .un, .un, .un, .un, .un, .un, .un, .un]) := by simp (config := { decide := false, maxSteps := 1000000 }) only [exs_nil, exs_cons, nxt_nx, nxt_rt, nxt_bk, nxt_ct, ex_for, ex_while, ev_comp, ev_nm, ev_int, ev_bl, ev_non, ev_str, ev_glb, ev_op, ev_neg, ev_tst, ev_ife, ev_tup, ev_lst, ev_ix, ev_bix, ev_bix2, ev_slc, ev_call, ev_cio, ev_b1, ev_dnew, ev_blen, ev_b2, ev_isi, evs_nil, evs_cons, evo_no, evo_yes, evT_ex, evT_cm, evT_chn, evT_not, evT_and, evT_or, evA_nil, evA_cons, evR_nil, evR_cons, evI_ex, evI_rng1, evI_rng2, evI_enm, evI_zip, ex_set, ex_tset, ex_par, ex_par3, ex_aug, ex_ixset, ex_pst, ex_ixset2, ex_ixset22, ex_app, ex_expr, ex_ret, ex_retN, ex_ite, ex_brk, ex_cont, ex_pass, ex_never, mb_some, mb_none, gt_zero, gt_succ, st_zero, st_succ, wp, bk, rdN, ow1, ow01, ow2, setable, setS, set1, set2, up1, bnd, bnds, isiD, outF, ioOf, atI0, atI1, atI2, atI3, ixN0, ixN1, len0, len1, len2, len3, len4, len5, len6, len7, len8, len9, List.length_cons, List.length_nil, List.length_map, List.length_append, Nat.zero_add, Nat.reduceAdd, set0, set1', opD_add, opD_sub, opD_mul, opD_fdiv, opD_mod, opD_pow, opD_addT, opD_addL, opD_mulL, opD_mulT, lvD_int, lvD_bool, lvD_str, lvD_tuple, lvD_dict, lvD_none, lvD_list, b1_lenL, b1_lenT, b1_lenD, b1_lenK, b1_abs, b1_int, b1_tupL, b1_tupT, b1_lstL, b1_lstT, b1_lstS, b1_all, b1_any, b1_str, b1_srtL, b1_srtD, b2_min, b2_max, cm_eq, cm_ne, cm_lt, cm_le, cm_gt, cm_ge, cm_ltT, cm_is_int, cm_isN_int, cm_is_tuple, cm_isN_tuple, cm_is_list, cm_isN_list, cm_is_bool, cm_isN_bool, cm_is_str, cm_isN_str, cm_is_none, cm_isN_none, cm_isb, cm_isNb, ix_L, ix_T, sl_L, sl_T, st_L, Option.bind_some, Option.map_some, Option.bind_none, Option.map_none, if_true, if_false, ↓reduceIte, Bool.and_true, Bool.true_and, Bool.and_false, Bool.false_and, Bool.not_true, Bool.not_false, decide_true, decide_false, decide_not, Bool.false_eq_true, g4]
  rw [ex_tset, ev_tup, evs_cons, a1, mb_some, evs_cons, a2, mb_some, evs_cons, a3, mb_some, evs_cons, a4, mb_some, evs_nil, mb_some, mb_some, mb_some, mb_some, mb_some]
  simp (config := { decide := false, maxSteps := 1000000 }) only [exs_nil, exs_cons, nxt_nx, nxt_rt, nxt_bk, nxt_ct, ex_for, ex_while, ev_comp, ev_nm, ev_int, ev_bl, ev_non, ev_str, ev_glb, ev_op, ev_neg, ev_tst, ev_ife, ev_tup, ev_lst, ev_ix, ev_bix, ev_bix2, ev_slc, ev_call, ev_cio, ev_b1, ev_dnew, ev_blen, ev_b2, ev_isi, evs_nil, evs_cons, evo_no, evo_yes, evT_ex, evT_cm, evT_chn, evT_not, evT_and, evT_or, evA_nil, evA_cons, evR_nil, evR_cons, evI_ex, evI_rng1, evI_rng2, evI_enm, evI_zip, ex_set, ex_tset, ex_par, ex_par3, ex_aug, ex_ixset, ex_pst, ex_ixset2, ex_ixset22, ex_app, ex_expr, ex_ret, ex_retN, ex_ite, ex_brk, ex_cont, ex_pass, ex_never, mb_some, mb_none, gt_zero, gt_succ, st_zero, st_succ, wp, bk, rdN, ow1, ow01, ow2, setable, setS, set1, set2, up1, bnd, bnds, isiD, outF, ioOf, atI0, atI1, atI2, atI3, ixN0, ixN1, len0, len1, len2, len3, len4, len5, len6, len7, len8, len9, List.length_cons, List.length_nil, List.length_map, List.length_append, Nat.zero_add, Nat.reduceAdd, set0, set1', opD_add, opD_sub, opD_mul, opD_fdiv, opD_mod, opD_pow, opD_addT, opD_addL, opD_mulL, opD_mulT, lvD_int, lvD_bool, lvD_str, lvD_tuple, lvD_dict, lvD_none, lvD_list, b1_lenL, b1_lenT, b1_lenD, b1_lenK, b1_abs, b1_int, b1_tupL, b1_tupT, b1_lstL, b1_lstT, b1_lstS, b1_all, b1_any, b1_str, b1_srtL, b1_srtD, b2_min, b2_max, cm_eq, cm_ne, cm_lt, cm_le, cm_gt, cm_ge, cm_ltT, cm_is_int, cm_isN_int, cm_is_tuple, cm_isN_tuple, cm_is_list, cm_isN_list, cm_is_bool, cm_isN_bool, cm_is_str, cm_isN_str, cm_is_none, cm_isN_none, cm_isb, cm_isNb, ix_L, ix_T, sl_L, sl_T, st_L, Option.bind_some, Option.map_some, Option.bind_none, Option.map_none, if_true, if_false, ↓reduceIte, Bool.and_true, Bool.true_and, Bool.and_false, Bool.false_and, Bool.not_true, Bool.not_false, decide_true, decide_false, decide_not, Bool.false_eq_true]
theorem U2 {Γ : Gm} {x m len deep fl : Int} {d c5 L : D} (hml : ∀ j : Int, mulOk j len = true) : ev Γ (.b2 .min (.nm 13) (.op .add (.nm 12) (.op .mul (.nm 9) (.nm 11)))) [.sl 0 d, .sl 1 c5, .un, .sl 0 L, .un, .un, .un, .un, .un, .sl 0 (.int x), .sl 0 (.int m), .sl 0 (.int len), .sl 0 (.int deep), .sl 0 (.int fl), .un, .un, .un] = some ((.int (if deep + x * len < fl then deep + x * len else fl), 0), [.sl 0 d, .sl 1 c5, .un, .sl 0 L, .un, .un, .un, .un, .un, .sl 0 (.int x), .sl 0 (.int m), .sl 0 (.int len), .sl 0 (.int deep), .sl 0 (.int fl), .un, .un, .un]) := by
  simp (config := { decide := false, maxSteps := 1000000 }) only [exs_nil, exs_cons, nxt_nx, nxt_rt, nxt_bk, nxt_ct, ex_for, ex_while, ev_comp, ev_nm, ev_int, ev_bl, ev_non, ev_str, ev_glb, ev_op, ev_neg, ev_tst, ev_ife, ev_tup, ev_lst, ev_ix, ev_bix, ev_bix2, ev_slc, ev_call, ev_cio, ev_b1, ev_dnew, ev_blen, ev_b2, ev_isi, evs_nil, evs_cons, evo_no, evo_yes, evT_ex, evT_cm, evT_chn, evT_not, evT_and, evT_or, evA_nil, evA_cons, evR_nil, evR_cons, evI_ex, evI_rng1, evI_rng2, evI_enm, evI_zip, ex_set, ex_tset, ex_par, ex_par3, ex_aug, ex_ixset, ex_pst, ex_ixset2, ex_ixset22, ex_app, ex_expr, ex_ret, ex_retN, ex_ite, ex_brk, ex_cont, ex_pass, ex_never, mb_some, mb_none, gt_zero, gt_succ, st_zero, st_succ, wp, bk, rdN, ow1, ow01, ow2, setable, setS, set1, set2, up1, bnd, bnds, isiD, outF, ioOf, atI0, atI1, atI2, atI3, ixN0, ixN1, len0, len1, len2, len3, len4, len5, len6, len7, len8, len9, List.length_cons, List.length_nil, List.length_map, List.length_append, Nat.zero_add, Nat.reduceAdd, set0, set1', opD_add, opD_sub, opD_mul, opD_fdiv, opD_mod, opD_pow, opD_addT, opD_addL, opD_mulL, opD_mulT, lvD_int, lvD_bool, lvD_str, lvD_tuple, lvD_dict, lvD_none, lvD_list, b1_lenL, b1_lenT, b1_lenD, b1_lenK, b1_abs, b1_int, b1_tupL, b1_tupT, b1_lstL, b1_lstT, b1_lstS, b1_all, b1_any, b1_str, b1_srtL, b1_srtD, b2_min, b2_max, cm_eq, cm_ne, cm_lt, cm_le, cm_gt, cm_ge, cm_ltT, cm_is_int, cm_isN_int, cm_is_tuple, cm_isN_tuple, cm_is_list, cm_isN_list, cm_is_bool, cm_isN_bool, cm_is_str, cm_isN_str, cm_is_none, cm_isN_none, cm_isb, cm_isNb, ix_L, ix_T, sl_L, sl_T, st_L, Option.bind_some, Option.map_some, Option.bind_none, Option.map_none, if_true, if_false, ↓reduceIte, Bool.and_true, Bool.true_and, Bool.and_false, Bool.false_and, Bool.not_true, Bool.not_false, decide_true, decide_false, decide_not, Bool.false_eq_true, hml]
theorem last4 {Γ : Gm} {m len deep fl one other : Int} {d c7 L M T : D} {eB eC : E} {Bs Cs : List D} (hB : ev Γ eB [.sl 0 d, .sl 1 c7, .un, .sl 0 L, .sl 0 M, .sl 0 T, .un, .un, .un, .un, .sl 0 (.int m), .sl 0 (.int len), .sl 0 (.int deep), .sl 0 (.int fl), .sl 0 (.int one), .sl 0 (.int other), .un] = some ((.tuple Bs, 0), [.sl 0 d, .sl 1 c7, .un, .sl 0 L, .sl 0 M, .sl 0 T, .un, .un, .un, .un, .sl 0 (.int m), .sl 0 (.int len), .sl 0 (.int deep), .sl 0 (.int fl), .sl 0 (.int one), .sl 0 (.int other), .un])) (hC : ev Γ eC [.sl 0 d, .sl 1 c7, .un, .sl 0 L, .sl 0 M, .sl 0 T, .un, .un, .un, .un, .sl 0 (.int m), .sl 0 (.int len), .sl 0 (.int deep), .sl 0 (.int fl), .sl 0 (.int one), .sl 0 (.int other), .un] = some ((.tuple Cs, 0), [.sl 0 d, .sl 1 c7, .un, .sl 0 L, .sl 0 M, .sl 0 T, .un, .un, .un, .un, .sl 0 (.int m), .sl 0 (.int len), .sl 0 (.int deep), .sl 0 (.int fl), .sl 0 (.int one), .sl 0 (.int other), .un])) (hl : lenOk (1 + Cs.length) = true)
    (s3 : Γ 5 [T, .tuple [.tuple [.int (if other < one then other else one)], .tuple Bs, .tuple ([.int 0] ++ Cs)]] = some ⟨.bool true, 0, .none⟩) :
    ex Γ (.ret false (.call 5 (.cons (.nm 5) (.cons (.tup (.cons (.tup (.cons (.b2 .min (.nm 14) (.nm 15)) .nil)) (.cons eB (.cons (.op .add (.tup (.cons (.int 0) .nil)) eC) .nil)))) .nil)))) [.sl 0 d, .sl 1 c7, .un, .sl 0 L, .sl 0 M, .sl 0 T, .un, .un, .un, .un, .sl 0 (.int m), .sl 0 (.int len), .sl 0 (.int deep), .sl 0 (.int fl), .sl 0 (.int one), .sl 0 (.int other), .un] = some (.rt (.bool true) 0 [.sl 0 d, .sl 1 c7, .un, .sl 0 L, .sl 0 M, .sl 0 T, .un, .un, .un, .un, .sl 0 (.int m), .sl 0 (.int len), .sl 0 (.int deep), .sl 0 (.int fl), .sl 0 (.int one), .sl 0 (.int other), .un]) := by
  simp (config := { decide := false, maxSteps := 1000000 }) only [exs_nil, exs_cons, nxt_nx, nxt_rt, nxt_bk, nxt_ct, ex_for, ex_while, ev_comp, ev_nm, ev_int, ev_bl, ev_non, ev_str, ev_glb, ev_op, ev_neg, ev_tst, ev_ife, ev_tup, ev_lst, ev_ix, ev_bix, ev_bix2, ev_slc, ev_call, ev_cio, ev_b1, ev_dnew, ev_blen, ev_b2, ev_isi, evs_nil, evs_cons, evo_no, evo_yes, evT_ex, evT_cm, evT_chn, evT_not, evT_and, evT_or, evA_nil, evA_cons, evR_nil, evR_cons, evI_ex, evI_rng1, evI_rng2, evI_enm, evI_zip, ex_set, ex_tset, ex_par, ex_par3, ex_aug, ex_ixset, ex_pst, ex_ixset2, ex_ixset22, ex_app, ex_expr, ex_ret, ex_retN, ex_ite, ex_brk, ex_cont, ex_pass, ex_never, mb_some, mb_none, gt_zero, gt_succ, st_zero, st_succ, wp, bk, rdN, ow1, ow01, ow2, setable, setS, set1, set2, up1, bnd, bnds, isiD, outF, ioOf, atI0, atI1, atI2, atI3, ixN0, ixN1, len0, len1, len2, len3, len4, len5, len6, len7, len8, len9, List.length_cons, List.length_nil, List.length_map, List.length_append, Nat.zero_add, Nat.reduceAdd, set0, set1', opD_add, opD_sub, opD_mul, opD_fdiv, opD_mod, opD_pow, opD_addT, opD_addL, opD_mulL, opD_mulT, lvD_int, lvD_bool, lvD_str, lvD_tuple, lvD_dict, lvD_none, lvD_list, b1_lenL, b1_lenT, b1_lenD, b1_lenK, b1_abs, b1_int, b1_tupL, b1_tupT, b1_lstL, b1_lstT, b1_lstS, b1_all, b1_any, b1_str, b1_srtL, b1_srtD, b2_min, b2_max, cm_eq, cm_ne, cm_lt, cm_le, cm_gt, cm_ge, cm_ltT, cm_is_int, cm_isN_int, cm_is_tuple, cm_isN_tuple, cm_is_list, cm_isN_list, cm_is_bool, cm_isN_bool, cm_is_str, cm_isN_str, cm_is_none, cm_isN_none, cm_isb, cm_isNb, ix_L, ix_T, sl_L, sl_T, st_L, Option.bind_some, Option.map_some, Option.bind_none, Option.map_none, if_true, if_false, ↓reduceIte, Bool.and_true, Bool.true_and, Bool.and_false, Bool.false_and, Bool.not_true, Bool.not_false, decide_true, decide_false, decide_not, Bool.false_eq_true, hB, hC, hl, s3]
theorem pose_D {S : Fn} (h : PoseOk S) {F : Fig} {s : List Int} {v : Nat → Int} (ok : FigOk F) (so : SetOk F s) (hv : IsPose F s v) : S [figD F, intsD s] = some ⟨depD F.n v, 0, .none⟩ := by
  obtain ⟨p, e, hp⟩ := h F s ok so
  rw [e, hp.uniq hv]
theorem mulT_ev {Γ : Gm} {ρ ρ' : Ev} {e : E} {x : Int} {n : Nat} (h13 : gt ρ 13 = .sl 0 (.int x)) (h : ev Γ e ρ = some ((.int n, 0), ρ')) (hn : n ≤ 8) : ev Γ (.op .mul (.tup (.cons (.nm 13) .nil)) e) ρ = some ((.tuple (rowD n fun _ => .int x), 0), ρ') := by
  have h1 : ev Γ (.tup (.cons (.nm 13) .nil)) ρ = some ((.tuple [.int x], 0), ρ) := by
    rw [ev_tup, evs_cons, ev_nm]
    unfold rdN
    rw [h13]
    rfl
  have h3 : opD .mul (.tuple [.int x]) (.int n) = some (.tuple (rowD n fun _ => .int x)) := by
    have hr := rep_ok (l := 1) (n := n) (by omega) (by omega)
    rw [opD_mulT, show List.length [PyData.int x] = 1 from rfl, if_pos hr, Int.toNat_natCast, rep_row]
  rw [ev_op, h1, mb_some, h, mb_some, h3, Option.map_some, lvD_tuple]
theorem law4 {Γ : Gm} (G : Env4 Γ) (ns : List Int) (hn : ns.length ≤ 63) : ∃ x, run Γ false 1 17 l4B [.dict [(.none, .list (ns.map .int))]] = some ⟨.bool true, 0, x⟩ := by
  obtain ⟨c, e0, hc⟩ := G.cup ns hn
  generalize PyData.dict [(.none, .list (ns.map .int))] = d at e0 ⊢
  obtain ⟨ρ1, e1, c1, rfl, hc1⟩ := forE_rng (Γ := Γ) (kill := [2, 4, 6, 7, 8, 9]) (tg := .nm 2) (body := t4B) (n := 8) (lo := 0) (ρ := [.sl 0 d, .sl 1 c, .un, .un, .un, .un, .un, .un, .un, .un, .un, .un, .un, .un, .un, .un, .un])
    (fun _ ρ => ∃ c', ρ = [.sl 0 d, .sl 1 c', .un, .un, .un, .un, .un, .un, .un, .un, .un, .un, .un, .un, .un, .un, .un] ∧ CupOk c') (fun i ρ _ h => by
      obtain ⟨c', rfl, hc'⟩ := h
      exact turn4 (x := .sl 0 (.int (0 + (i : Int)))) G hc') ⟨c, rfl, hc⟩
  obtain ⟨r1, c2, g1, a1, b1, hc2⟩ := G.roll c1 6 hc1 (by omega) (by omega)
  obtain ⟨r2, c3, g2, a2, b2, hc3⟩ := G.roll c2 4 hc2 (by omega) (by omega)
  obtain ⟨deep, c4, g3, a3, b3, hc4⟩ := G.roll c3 12 hc3 (by omega) (by omega)
  obtain ⟨y, c5, g4, hy, hc5⟩ := G.some_ c4 [.int 12, .int 20, .int 30] hc4 (by simp) (by simp)
  obtain ⟨fl, rfl, f12, f30⟩ : ∃ m : Int, y = .int m ∧ 12 ≤ m ∧ m ≤ 30 := by
    simp only [List.mem_cons, List.not_mem_nil, or_false] at hy
    rcases hy with e | e | e <;> subst e <;> exact ⟨_, rfl, by omega, by omega⟩
  obtain ⟨m, hm⟩ : ∃ m : Nat, 2 + r1 = (m : Int) := ⟨(2 + r1).toNat, (Int.toNat_of_nonneg (by omega)).symm⟩
  obtain ⟨len, hlen⟩ : ∃ len : Int, 1 + r2 = len := ⟨_, rfl⟩
  have m2 : 2 ≤ m := by omega
  have m7 : m ≤ 7 := by omega
  obtain ⟨one, c6, g5, a5, b5, hc6⟩ := G.roll c5 (fl + 1) hc5 (by omega) (by omega)
  obtain ⟨other, c7, g6, a6, b6, hc7⟩ := G.roll c6 (fl + 1) hc6 (by omega) (by omega)
  have hm1 : (m : Int) - 1 = ((m - 1 : Nat) : Int) := by omega
  -- the poses
  have p1 : Γ 6 [figD ⟨m + 1, chain m len, [0], fl⟩, intsD [deep]] = some ⟨depD (m + 1) (fun j => if j < m then mnI fl (deep + j * len) else fl), 0, .none⟩ := by
    refine pose_D G.pose (chain_fig (by omega) (by omega) (by omega) (by omega) (by omega) (by omega) (by omega) (by omega) (by simp) (by simp) (by simp)) ⟨rfl, ?_⟩ (pose1 (m := m) (len := len) (deep := deep) (fl := fl) (by omega) (by omega) a3 (by omega))
    intro x hx
    have e : x = deep := by simpa using hx
    show 0 ≤ x ∧ x ≤ fl
    omega
  have p2 : Γ 6 [figD ⟨m, chain m len, [0, m - 1], fl⟩, intsD [deep, deep]] = some ⟨depD m (fun j => mnI fl (deep + mnI j ((m : Int) - 1 - j) * len)), 0, .none⟩ := by
    refine pose_D G.pose (chain_fig (by omega) (by omega) (by omega) (by omega) (by omega) (by omega) (by omega) (by omega) (by simp) (by simp) ?_) ⟨rfl, ?_⟩ (pose2 (m := m) (len := len) (deep := deep) (fl := fl) m2 (by omega) a3 (by omega))
    · intro t ht
      have e : t = 0 ∨ t = m - 1 := by simpa using ht
      omega
    · intro x hx
      have e : x = deep := by simpa using hx
      show 0 ≤ x ∧ x ≤ fl
      omega
  have p3 : Γ 6 [figD ⟨1, [], [0, 0], fl⟩, intsD [one, other]] = some ⟨depD 1 (fun _ => mnI one other), 0, .none⟩ := by
    refine pose_D G.pose (noLimb_fig (by omega) (by omega) (by omega) (by omega) (by simp) (by simp) (by simp)) ⟨rfl, ?_⟩ (pose3 (one := one) (other := other) (fl := fl) a5 (by omega) a6 (by omega))
    intro x hx
    have e : x = one ∨ x = other := by simpa using hx
    show 0 ≤ x ∧ x ≤ fl
    omega
  have p4 : Γ 6 [figD ⟨m, chain m len, [0, 0, m - 1], fl⟩, intsD [fl, fl, fl]] = some ⟨depD m (fun _ => fl), 0, .none⟩ := by
    refine pose_D G.pose (chain_fig (by omega) (by omega) (by omega) (by omega) (by omega) (by omega) (by omega) (by omega) (by simp) (by simp) ?_) ⟨rfl, ?_⟩ (pose4 (n := m) (len := len) (fl := fl) (ts := [0, 0, m - 1]) (s := [fl, fl, fl]) (by omega) (by omega) (fun x hx => by simpa using hx))
    · intro t ht
      have e : t = 0 ∨ t = m - 1 := by simpa using ht
      omega
    · intro x hx
      have e : x = fl := by simpa using hx
      show 0 ≤ x ∧ x ≤ fl
      omega
  have p5 : Γ 6 [figD ⟨m, [], [0, 0], fl⟩, intsD [0, one]] = some ⟨depD m (fun j => if j = 0 then 0 else fl), 0, .none⟩ := by
    refine pose_D G.pose (noLimb_fig (by omega) (by omega) (by omega) (by omega) (by simp) (by simp) ?_) ⟨rfl, ?_⟩ (pose5 (n := m) (one := one) (fl := fl) a5 (by omega))
    · intro t ht
      have e : t = 0 := by simpa using ht
      omega
    · intro x hx
      have e : x = 0 ∨ x = one := by simpa using hx
      show 0 ≤ x ∧ x ≤ fl
      omega
  -- as they are asked
  have lim : rowD (m - 1) (fun a => PyData.tuple [.int a, .int ((a : Int) + 1), .int len]) = (chain m len).map limbD := by
    unfold rowD chain
    rw [List.map_map]; rfl
  let v1 : Nat → Int := fun j => if j < m then mnI fl (deep + j * len) else fl
  let v2 : Nat → Int := fun j => mnI fl (deep + mnI j ((m : Int) - 1 - j) * len)
  have D1 : PyData.tuple (rowD m (fun j => PyData.int (if deep + (j : Int) * len < fl then deep + (j : Int) * len else fl)) ++ [.int fl]) = depD (m + 1) v1 := by
    unfold depD rowD
    rw [List.range_succ, List.map_append]
    congr 2
    · refine List.map_congr_left fun j hj => ?_
      have := List.mem_range.mp hj
      show _ = PyData.int (if j < m then mnI fl (deep + j * len) else fl)
      rw [if_pos this]; rfl
    · show [PyData.int fl] = [PyData.int (if m < m then mnI fl (deep + m * len) else fl)]
      rw [if_neg (by omega)]
  have D2 : PyData.tuple (rowD m fun j => PyData.int (if deep + (if ((m - 1 : Nat) : Int) - j < (j : Int) then ((m - 1 : Nat) : Int) - j else (j : Int)) * len < fl then deep + (if ((m - 1 : Nat) : Int) - j < (j : Int) then ((m - 1 : Nat) : Int) - j else (j : Int)) * len else fl)) = depD m v2 := by
    unfold depD
    congr 1
    refine rowD_congr fun j hj => ?_
    show _ = PyData.int (mnI fl (deep + mnI j ((m : Int) - 1 - j) * len))
    rw [hm1]; rfl
  have q1 : Γ 6 [.tuple [.int ((m : Int) + 1), .tuple ((chain m len).map limbD), .tuple [.int 0], .int fl], .tuple [.int deep]] = some ⟨depD (m + 1) v1, 0, .none⟩ := p1
  have q2 : Γ 6 [.tuple [.int (m : Int), .tuple ((chain m len).map limbD), .tuple [.int 0, .int ((m - 1 : Nat) : Int)], .int fl], .tuple [.int deep, .int deep]] = some ⟨depD m v2, 0, .none⟩ := p2
  have q3 : Γ 6 [.tuple [.int 1, .tuple [], .tuple [.int 0, .int 0], .int fl], .tuple [.int one, .int other]] = some ⟨.tuple [.int (if other < one then other else one)], 0, .none⟩ := p3
  have q4 : Γ 6 [.tuple [.int (m : Int), .tuple ((chain m len).map limbD), .tuple [.int 0, .int 0, .int ((m - 1 : Nat) : Int)], .int fl], .tuple (rowD 3 fun _ => .int fl)] = some ⟨.tuple (rowD m fun _ => .int fl), 0, .none⟩ := p4
  have D5 : PyData.tuple ([.int 0] ++ rowD (m - 1) fun _ => .int fl) = depD m (fun j => if j = 0 then 0 else fl) := by
    obtain ⟨k, rfl⟩ : ∃ k, m = k + 1 := ⟨m - 1, by omega⟩
    unfold depD rowD
    rw [List.range_succ_eq_map, List.map_cons, List.map_map]
    congr 1
  have q5 : Γ 6 [.tuple [.int (m : Int), .tuple [], .tuple [.int 0, .int 0], .int fl], .tuple [.int 0, .int one]] = some ⟨.tuple ([.int 0] ++ rowD (m - 1) fun _ => .int fl), 0, .none⟩ := by rw [D5]; exact p5
  have s1 := G.same (depD (m + 1) v1) (plain_row (k := 6) (by omega) v1)
  have s2 := G.same (depD m v2) (plain_row (k := 6) (by omega) v2)
  have s3 : Γ 5 [.tuple [.tuple [.int (if other < one then other else one)], .tuple (rowD m fun _ => .int fl), .tuple ([.int 0] ++ rowD (m - 1) fun _ => .int fl)], .tuple [.tuple [.int (if other < one then other else one)], .tuple (rowD m fun _ => .int fl), .tuple ([.int 0] ++ rowD (m - 1) fun _ => .int fl)]] = rB true := by
    refine G.same _ ⟨by show 3 ≤ 2 ^ 24; decide, fun x hx => ?_⟩
    simp only [List.mem_cons, List.not_mem_nil, or_false] at hx
    rcases hx with e | e | e
    · rw [e]; exact plain_row (k := 5) (n := 1) (by omega) (fun _ => if other < one then other else one)
    · rw [e]; exact plain_row (k := 5) (by omega) (fun _ => fl)
    · rw [e, D5]; exact plain_row (k := 5) (by omega) _
  unfold rB at s1 s2 s3
  rw [run1]
  unfold l4B
  simp only [ent, List.map_cons, List.map_nil, List.cons_append, List.nil_append, List.length_cons, List.length_nil, List.replicate_succ, List.replicate_zero, Nat.reduceAdd, Nat.reduceSub, if_true, if_false, ↓reduceIte, Bool.false_eq_true]
  have hml : ∀ j : Int, mulOk j len = true := fun j => by
    unfold mulOk
    rw [decide_eq_true (show -(2 ^ 64) < len by omega), decide_eq_true (show len < 2 ^ 64 by omega)]; simp
  have ht8 : Int.toNat 8 = 8 := rfl
  have h8 : (lenOk 8 && decide (-(2 ^ 62) ≤ (8 : Int))) = true := by rw [len8]; exact rfl
  have hr1 := rng_lenOk (n := m - 1) (by omega)
  have hr2 := rng_lenOk (n := m) (by omega)
  have hl1 : lenOk (m + 1) = true := len_ok (by omega)
  have hl5 : lenOk (1 + (m - 1)) = true := len_ok (by omega)
  generalize hA : E.op .mul (E.tup (.cons (.nm 13) .nil)) (.int 3) = eA
  generalize hB : E.op .mul (E.tup (.cons (.nm 13) .nil)) (.nm 10) = eB
  generalize hC : E.op .mul (E.tup (.cons (.nm 13) .nil)) (.op .sub (.nm 10) (.int 1)) = eC
  have evA : ∀ ρ : Ev, gt ρ 13 = .sl 0 (.int fl) → ev Γ eA ρ = some ((.tuple (rowD 3 fun _ => .int fl), 0), ρ) := fun ρ h => by
    rw [← hA]; exact mulT_ev (n := 3) h rfl (by omega)
  have evB : ∀ ρ : Ev, gt ρ 13 = .sl 0 (.int fl) → gt ρ 10 = .sl 0 (.int m) → ev Γ eB ρ = some ((.tuple (rowD m fun _ => .int fl), 0), ρ) := fun ρ h h2 => by
    rw [← hB]; refine mulT_ev (n := m) h ?_ (by omega)
    rw [ev_nm]; unfold rdN; rw [h2]
  have evC : ∀ ρ : Ev, gt ρ 13 = .sl 0 (.int fl) → gt ρ 10 = .sl 0 (.int m) → ev Γ eC ρ = some ((.tuple (rowD (m - 1) fun _ => .int fl), 0), ρ) := fun ρ h h2 => by
    rw [← hC]; refine mulT_ev (n := m - 1) h ?_ (by omega)
    have h3 : ev Γ (.nm 10) ρ = some ((.int (m : Int), 0), ρ) := by rw [ev_nm]; unfold rdN; rw [h2]
    rw [ev_op, h3, mb_some, ev_int, mb_some, opD_sub, Option.map_some, hm1]; rfl
  clear hA hB hC
  have cl : ∀ L : D, compE Γ 0 [9] (.nm 9) .nil (.tup (.cons (.nm 9) (.cons (.op .add (.nm 9) (.int 1)) (.cons (.nm 11) .nil)))) (rngD (m - 1) 0) [.sl 0 d, .sl 1 c5, .un, .un, .un, .un, .un, .un, .un, .un, .sl 0 (.int m), .sl 0 (.int len), .sl 0 (.int deep), .sl 0 (.int fl), .un, .un, .un] =
      some ((chain m len).map limbD, [.sl 0 d, .sl 1 c5, .un, .un, .un, .un, .un, .un, .un, .un, .sl 0 (.int m), .sl 0 (.int len), .sl 0 (.int deep), .sl 0 (.int fl), .un, .un, .un]) := by
    intro _
    rw [← lim]
    refine compE_rng _ fun i hi => ?_
    simp (config := { decide := false, maxSteps := 1000000 }) only [exs_nil, exs_cons, nxt_nx, nxt_rt, nxt_bk, nxt_ct, ex_for, ex_while, ev_comp, ev_nm, ev_int, ev_bl, ev_non, ev_str, ev_glb, ev_op, ev_neg, ev_tst, ev_ife, ev_tup, ev_lst, ev_ix, ev_bix, ev_bix2, ev_slc, ev_call, ev_cio, ev_b1, ev_dnew, ev_blen, ev_b2, ev_isi, evs_nil, evs_cons, evo_no, evo_yes, evT_ex, evT_cm, evT_chn, evT_not, evT_and, evT_or, evA_nil, evA_cons, evR_nil, evR_cons, evI_ex, evI_rng1, evI_rng2, evI_enm, evI_zip, ex_set, ex_tset, ex_par, ex_par3, ex_aug, ex_ixset, ex_pst, ex_ixset2, ex_ixset22, ex_app, ex_expr, ex_ret, ex_retN, ex_ite, ex_brk, ex_cont, ex_pass, ex_never, mb_some, mb_none, gt_zero, gt_succ, st_zero, st_succ, wp, bk, rdN, ow1, ow01, ow2, setable, setS, set1, set2, up1, bnd, bnds, isiD, outF, ioOf, atI0, atI1, atI2, atI3, ixN0, ixN1, len0, len1, len2, len3, len4, len5, len6, len7, len8, len9, List.length_cons, List.length_nil, List.length_map, List.length_append, Nat.zero_add, Nat.reduceAdd, set0, set1', opD_add, opD_sub, opD_mul, opD_fdiv, opD_mod, opD_pow, opD_addT, opD_addL, opD_mulL, opD_mulT, lvD_int, lvD_bool, lvD_str, lvD_tuple, lvD_dict, lvD_none, lvD_list, b1_lenL, b1_lenT, b1_lenD, b1_lenK, b1_abs, b1_int, b1_tupL, b1_tupT, b1_lstL, b1_lstT, b1_lstS, b1_all, b1_any, b1_str, b1_srtL, b1_srtD, b2_min, b2_max, cm_eq, cm_ne, cm_lt, cm_le, cm_gt, cm_ge, cm_ltT, cm_is_int, cm_isN_int, cm_is_tuple, cm_isN_tuple, cm_is_list, cm_isN_list, cm_is_bool, cm_isN_bool, cm_is_str, cm_isN_str, cm_is_none, cm_isN_none, cm_isb, cm_isNb, ix_L, ix_T, sl_L, sl_T, st_L, Option.bind_some, Option.map_some, Option.bind_none, Option.map_none, if_true, if_false, ↓reduceIte, Bool.and_true, Bool.true_and, Bool.and_false, Bool.false_and, Bool.not_true, Bool.not_false, decide_true, decide_false, decide_not, Bool.false_eq_true]
    exact W_some.mpr ⟨.inl trivial, rfl, rfl⟩
  have cd1 : ∀ L : D, compE Γ 0 [9] (.nm 9) .nil (.b2 .min (.nm 13) (.op .add (.nm 12) (.op .mul (.nm 9) (.nm 11)))) (rngD m 0) [.sl 0 d, .sl 1 c5, .un, .sl 0 L, .un, .un, .un, .un, .un, .un, .sl 0 (.int m), .sl 0 (.int len), .sl 0 (.int deep), .sl 0 (.int fl), .un, .un, .un] =
      some (rowD m (fun j => PyData.int (if deep + (j : Int) * len < fl then deep + (j : Int) * len else fl)), [.sl 0 d, .sl 1 c5, .un, .sl 0 L, .un, .un, .un, .un, .un, .un, .sl 0 (.int m), .sl 0 (.int len), .sl 0 (.int deep), .sl 0 (.int fl), .un, .un, .un]) := by
    intro L
    refine compE_rng _ fun i hi => ?_
    have hb : bnd (.nm 9) (.int (i : Int)) [.sl 0 d, .sl 1 c5, .un, .sl 0 L, .un, .un, .un, .un, .un, .un, .sl 0 (.int m), .sl 0 (.int len), .sl 0 (.int deep), .sl 0 (.int fl), .un, .un, .un] = some [.sl 0 d, .sl 1 c5, .un, .sl 0 L, .un, .un, .un, .un, .un, .sl 0 (.int (i : Int)), .sl 0 (.int m), .sl 0 (.int len), .sl 0 (.int deep), .sl 0 (.int fl), .un, .un, .un] := by simp (config := { decide := false, maxSteps := 1000000 }) only [exs_nil, exs_cons, nxt_nx, nxt_rt, nxt_bk, nxt_ct, ex_for, ex_while, ev_comp, ev_nm, ev_int, ev_bl, ev_non, ev_str, ev_glb, ev_op, ev_neg, ev_tst, ev_ife, ev_tup, ev_lst, ev_ix, ev_bix, ev_bix2, ev_slc, ev_call, ev_cio, ev_b1, ev_dnew, ev_blen, ev_b2, ev_isi, evs_nil, evs_cons, evo_no, evo_yes, evT_ex, evT_cm, evT_chn, evT_not, evT_and, evT_or, evA_nil, evA_cons, evR_nil, evR_cons, evI_ex, evI_rng1, evI_rng2, evI_enm, evI_zip, ex_set, ex_tset, ex_par, ex_par3, ex_aug, ex_ixset, ex_pst, ex_ixset2, ex_ixset22, ex_app, ex_expr, ex_ret, ex_retN, ex_ite, ex_brk, ex_cont, ex_pass, ex_never, mb_some, mb_none, gt_zero, gt_succ, st_zero, st_succ, wp, bk, rdN, ow1, ow01, ow2, setable, setS, set1, set2, up1, bnd, bnds, isiD, outF, ioOf, atI0, atI1, atI2, atI3, ixN0, ixN1, len0, len1, len2, len3, len4, len5, len6, len7, len8, len9, List.length_cons, List.length_nil, List.length_map, List.length_append, Nat.zero_add, Nat.reduceAdd, set0, set1', opD_add, opD_sub, opD_mul, opD_fdiv, opD_mod, opD_pow, opD_addT, opD_addL, opD_mulL, opD_mulT, lvD_int, lvD_bool, lvD_str, lvD_tuple, lvD_dict, lvD_none, lvD_list, b1_lenL, b1_lenT, b1_lenD, b1_lenK, b1_abs, b1_int, b1_tupL, b1_tupT, b1_lstL, b1_lstT, b1_lstS, b1_all, b1_any, b1_str, b1_srtL, b1_srtD, b2_min, b2_max, cm_eq, cm_ne, cm_lt, cm_le, cm_gt, cm_ge, cm_ltT, cm_is_int, cm_isN_int, cm_is_tuple, cm_isN_tuple, cm_is_list, cm_isN_list, cm_is_bool, cm_isN_bool, cm_is_str, cm_isN_str, cm_is_none, cm_isN_none, cm_isb, cm_isNb, ix_L, ix_T, sl_L, sl_T, st_L, Option.bind_some, Option.map_some, Option.bind_none, Option.map_none, if_true, if_false, ↓reduceIte, Bool.and_true, Bool.true_and, Bool.and_false, Bool.false_and, Bool.not_true, Bool.not_false, decide_true, decide_false, decide_not, Bool.false_eq_true]
    rw [hb, Option.bind_some, U2 hml]
    exact W_some.mpr ⟨.inl rfl, rfl, rfl⟩
  have cd2 : ∀ L M : D, compE Γ 0 [9] (.nm 9) .nil (.b2 .min (.nm 13) (.op .add (.nm 12) (.op .mul (.b2 .min (.nm 9) (.op .sub (.op .sub (.nm 10) (.int 1)) (.nm 9))) (.nm 11)))) (rngD m 0) [.sl 0 d, .sl 1 c5, .un, .sl 0 L, .sl 0 M, .un, .un, .un, .un, .un, .sl 0 (.int m), .sl 0 (.int len), .sl 0 (.int deep), .sl 0 (.int fl), .un, .un, .un] =
      some (rowD m (fun j => PyData.int (if deep + (if ((m - 1 : Nat) : Int) - j < (j : Int) then ((m - 1 : Nat) : Int) - j else (j : Int)) * len < fl then deep + (if ((m - 1 : Nat) : Int) - j < (j : Int) then ((m - 1 : Nat) : Int) - j else (j : Int)) * len else fl)), [.sl 0 d, .sl 1 c5, .un, .sl 0 L, .sl 0 M, .un, .un, .un, .un, .un, .sl 0 (.int m), .sl 0 (.int len), .sl 0 (.int deep), .sl 0 (.int fl), .un, .un, .un]) := by
    intro L M
    refine compE_rng _ fun i hi => ?_
    simp (config := { decide := false, maxSteps := 1000000 }) only [exs_nil, exs_cons, nxt_nx, nxt_rt, nxt_bk, nxt_ct, ex_for, ex_while, ev_comp, ev_nm, ev_int, ev_bl, ev_non, ev_str, ev_glb, ev_op, ev_neg, ev_tst, ev_ife, ev_tup, ev_lst, ev_ix, ev_bix, ev_bix2, ev_slc, ev_call, ev_cio, ev_b1, ev_dnew, ev_blen, ev_b2, ev_isi, evs_nil, evs_cons, evo_no, evo_yes, evT_ex, evT_cm, evT_chn, evT_not, evT_and, evT_or, evA_nil, evA_cons, evR_nil, evR_cons, evI_ex, evI_rng1, evI_rng2, evI_enm, evI_zip, ex_set, ex_tset, ex_par, ex_par3, ex_aug, ex_ixset, ex_pst, ex_ixset2, ex_ixset22, ex_app, ex_expr, ex_ret, ex_retN, ex_ite, ex_brk, ex_cont, ex_pass, ex_never, mb_some, mb_none, gt_zero, gt_succ, st_zero, st_succ, wp, bk, rdN, ow1, ow01, ow2, setable, setS, set1, set2, up1, bnd, bnds, isiD, outF, ioOf, atI0, atI1, atI2, atI3, ixN0, ixN1, len0, len1, len2, len3, len4, len5, len6, len7, len8, len9, List.length_cons, List.length_nil, List.length_map, List.length_append, Nat.zero_add, Nat.reduceAdd, set0, set1', opD_add, opD_sub, opD_mul, opD_fdiv, opD_mod, opD_pow, opD_addT, opD_addL, opD_mulL, opD_mulT, lvD_int, lvD_bool, lvD_str, lvD_tuple, lvD_dict, lvD_none, lvD_list, b1_lenL, b1_lenT, b1_lenD, b1_lenK, b1_abs, b1_int, b1_tupL, b1_tupT, b1_lstL, b1_lstT, b1_lstS, b1_all, b1_any, b1_str, b1_srtL, b1_srtD, b2_min, b2_max, cm_eq, cm_ne, cm_lt, cm_le, cm_gt, cm_ge, cm_ltT, cm_is_int, cm_isN_int, cm_is_tuple, cm_isN_tuple, cm_is_list, cm_isN_list, cm_is_bool, cm_isN_bool, cm_is_str, cm_isN_str, cm_is_none, cm_isN_none, cm_isb, cm_isNb, ix_L, ix_T, sl_L, sl_T, st_L, Option.bind_some, Option.map_some, Option.bind_none, Option.map_none, if_true, if_false, ↓reduceIte, Bool.and_true, Bool.true_and, Bool.and_false, Bool.false_and, Bool.not_true, Bool.not_false, decide_true, decide_false, decide_not, Bool.false_eq_true, hml, hm1]
    exact W_some.mpr ⟨.inl trivial, rfl, rfl⟩
  refine ⟨.none, ?_⟩
  refine exs_step (ρ' := [.sl 0 d, .sl 1 c, .un, .un, .un, .un, .un, .un, .un, .un, .un, .un, .un, .un, .un, .un, .un]) (by simp (config := { decide := false, maxSteps := 1000000 }) only [exs_nil, exs_cons, nxt_nx, nxt_rt, nxt_bk, nxt_ct, ex_for, ex_while, ev_comp, ev_nm, ev_int, ev_bl, ev_non, ev_str, ev_glb, ev_op, ev_neg, ev_tst, ev_ife, ev_tup, ev_lst, ev_ix, ev_bix, ev_bix2, ev_slc, ev_call, ev_cio, ev_b1, ev_dnew, ev_blen, ev_b2, ev_isi, evs_nil, evs_cons, evo_no, evo_yes, evT_ex, evT_cm, evT_chn, evT_not, evT_and, evT_or, evA_nil, evA_cons, evR_nil, evR_cons, evI_ex, evI_rng1, evI_rng2, evI_enm, evI_zip, ex_set, ex_tset, ex_par, ex_par3, ex_aug, ex_ixset, ex_pst, ex_ixset2, ex_ixset22, ex_app, ex_expr, ex_ret, ex_retN, ex_ite, ex_brk, ex_cont, ex_pass, ex_never, mb_some, mb_none, gt_zero, gt_succ, st_zero, st_succ, wp, bk, rdN, ow1, ow01, ow2, setable, setS, set1, set2, up1, bnd, bnds, isiD, outF, ioOf, atI0, atI1, atI2, atI3, ixN0, ixN1, len0, len1, len2, len3, len4, len5, len6, len7, len8, len9, List.length_cons, List.length_nil, List.length_map, List.length_append, Nat.zero_add, Nat.reduceAdd, set0, set1', opD_add, opD_sub, opD_mul, opD_fdiv, opD_mod, opD_pow, opD_addT, opD_addL, opD_mulL, opD_mulT, lvD_int, lvD_bool, lvD_str, lvD_tuple, lvD_dict, lvD_none, lvD_list, b1_lenL, b1_lenT, b1_lenD, b1_lenK, b1_abs, b1_int, b1_tupL, b1_tupT, b1_lstL, b1_lstT, b1_lstS, b1_all, b1_any, b1_str, b1_srtL, b1_srtD, b2_min, b2_max, cm_eq, cm_ne, cm_lt, cm_le, cm_gt, cm_ge, cm_ltT, cm_is_int, cm_isN_int, cm_is_tuple, cm_isN_tuple, cm_is_list, cm_isN_list, cm_is_bool, cm_isN_bool, cm_is_str, cm_isN_str, cm_is_none, cm_isN_none, cm_isb, cm_isNb, ix_L, ix_T, sl_L, sl_T, st_L, Option.bind_some, Option.map_some, Option.bind_none, Option.map_none, if_true, if_false, ↓reduceIte, Bool.and_true, Bool.true_and, Bool.and_false, Bool.false_and, Bool.not_true, Bool.not_false, decide_true, decide_false, decide_not, Bool.false_eq_true, e0]) ?_
  refine exs_step (ρ' := [.sl 0 d, .sl 1 c1, .un, .un, .un, .un, .un, .un, .un, .un, .un, .un, .un, .un, .un, .un, .un]) ?_ ?_
  · rw [ex_for, evI_rng1, ev_int, mb_some]
    show mb (if (lenOk 8 && decide (-(2 ^ 62) ≤ (8 : Int))) = true then some (rngD 8 0, [.sl 0 d, .sl 1 c, .un, .un, .un, .un, .un, .un, .un, .un, .un, .un, .un, .un, .un, .un, .un]) else none) _ = _
    rw [if_pos h8, mb_some]
    exact e1
  refine exs_step (ρ' := [.sl 0 d, .sl 1 c5, .un, .un, .un, .un, .un, .un, .un, .un, .sl 0 (.int m), .sl 0 (.int len), .sl 0 (.int deep), .sl 0 (.int fl), .un, .un, .un]) (four4 g1 g2 g3 g4 hm hlen) ?_
  refine exs_step (ρ' := [.sl 0 d, .sl 1 c5, .un, .sl 0 (.tuple ((chain m len).map limbD)), .un, .un, .un, .un, .un, .un, .sl 0 (.int m), .sl 0 (.int len), .sl 0 (.int deep), .sl 0 (.int fl), .un, .un, .un]) (by simp (config := { decide := false, maxSteps := 1000000 }) only [exs_nil, exs_cons, nxt_nx, nxt_rt, nxt_bk, nxt_ct, ex_for, ex_while, ev_comp, ev_nm, ev_int, ev_bl, ev_non, ev_str, ev_glb, ev_op, ev_neg, ev_tst, ev_ife, ev_tup, ev_lst, ev_ix, ev_bix, ev_bix2, ev_slc, ev_call, ev_cio, ev_b1, ev_dnew, ev_blen, ev_b2, ev_isi, evs_nil, evs_cons, evo_no, evo_yes, evT_ex, evT_cm, evT_chn, evT_not, evT_and, evT_or, evA_nil, evA_cons, evR_nil, evR_cons, evI_ex, evI_rng1, evI_rng2, evI_enm, evI_zip, ex_set, ex_tset, ex_par, ex_par3, ex_aug, ex_ixset, ex_pst, ex_ixset2, ex_ixset22, ex_app, ex_expr, ex_ret, ex_retN, ex_ite, ex_brk, ex_cont, ex_pass, ex_never, mb_some, mb_none, gt_zero, gt_succ, st_zero, st_succ, wp, bk, rdN, ow1, ow01, ow2, setable, setS, set1, set2, up1, bnd, bnds, isiD, outF, ioOf, atI0, atI1, atI2, atI3, ixN0, ixN1, len0, len1, len2, len3, len4, len5, len6, len7, len8, len9, List.length_cons, List.length_nil, List.length_map, List.length_append, Nat.zero_add, Nat.reduceAdd, set0, set1', opD_add, opD_sub, opD_mul, opD_fdiv, opD_mod, opD_pow, opD_addT, opD_addL, opD_mulL, opD_mulT, lvD_int, lvD_bool, lvD_str, lvD_tuple, lvD_dict, lvD_none, lvD_list, b1_lenL, b1_lenT, b1_lenD, b1_lenK, b1_abs, b1_int, b1_tupL, b1_tupT, b1_lstL, b1_lstT, b1_lstS, b1_all, b1_any, b1_str, b1_srtL, b1_srtD, b2_min, b2_max, cm_eq, cm_ne, cm_lt, cm_le, cm_gt, cm_ge, cm_ltT, cm_is_int, cm_isN_int, cm_is_tuple, cm_isN_tuple, cm_is_list, cm_isN_list, cm_is_bool, cm_isN_bool, cm_is_str, cm_isN_str, cm_is_none, cm_isN_none, cm_isb, cm_isNb, ix_L, ix_T, sl_L, sl_T, st_L, Option.bind_some, Option.map_some, Option.bind_none, Option.map_none, if_true, if_false, ↓reduceIte, Bool.and_true, Bool.true_and, Bool.and_false, Bool.false_and, Bool.not_true, Bool.not_false, decide_true, decide_false, decide_not, Bool.false_eq_true, hm1, hr1, Int.toNat_natCast, cl d]) ?_
  refine exs_step (ρ' := [.sl 0 d, .sl 1 c5, .un, .sl 0 (.tuple ((chain m len).map limbD)), .sl 0 (depD (m + 1) v1), .un, .un, .un, .un, .un, .sl 0 (.int m), .sl 0 (.int len), .sl 0 (.int deep), .sl 0 (.int fl), .un, .un, .un]) (by simp (config := { decide := false, maxSteps := 1000000 }) only [exs_nil, exs_cons, nxt_nx, nxt_rt, nxt_bk, nxt_ct, ex_for, ex_while, ev_comp, ev_nm, ev_int, ev_bl, ev_non, ev_str, ev_glb, ev_op, ev_neg, ev_tst, ev_ife, ev_tup, ev_lst, ev_ix, ev_bix, ev_bix2, ev_slc, ev_call, ev_cio, ev_b1, ev_dnew, ev_blen, ev_b2, ev_isi, evs_nil, evs_cons, evo_no, evo_yes, evT_ex, evT_cm, evT_chn, evT_not, evT_and, evT_or, evA_nil, evA_cons, evR_nil, evR_cons, evI_ex, evI_rng1, evI_rng2, evI_enm, evI_zip, ex_set, ex_tset, ex_par, ex_par3, ex_aug, ex_ixset, ex_pst, ex_ixset2, ex_ixset22, ex_app, ex_expr, ex_ret, ex_retN, ex_ite, ex_brk, ex_cont, ex_pass, ex_never, mb_some, mb_none, gt_zero, gt_succ, st_zero, st_succ, wp, bk, rdN, ow1, ow01, ow2, setable, setS, set1, set2, up1, bnd, bnds, isiD, outF, ioOf, atI0, atI1, atI2, atI3, ixN0, ixN1, len0, len1, len2, len3, len4, len5, len6, len7, len8, len9, List.length_cons, List.length_nil, List.length_map, List.length_append, Nat.zero_add, Nat.reduceAdd, set0, set1', opD_add, opD_sub, opD_mul, opD_fdiv, opD_mod, opD_pow, opD_addT, opD_addL, opD_mulL, opD_mulT, lvD_int, lvD_bool, lvD_str, lvD_tuple, lvD_dict, lvD_none, lvD_list, b1_lenL, b1_lenT, b1_lenD, b1_lenK, b1_abs, b1_int, b1_tupL, b1_tupT, b1_lstL, b1_lstT, b1_lstS, b1_all, b1_any, b1_str, b1_srtL, b1_srtD, b2_min, b2_max, cm_eq, cm_ne, cm_lt, cm_le, cm_gt, cm_ge, cm_ltT, cm_is_int, cm_isN_int, cm_is_tuple, cm_isN_tuple, cm_is_list, cm_isN_list, cm_is_bool, cm_isN_bool, cm_is_str, cm_isN_str, cm_is_none, cm_isN_none, cm_isb, cm_isNb, ix_L, ix_T, sl_L, sl_T, st_L, Option.bind_some, Option.map_some, Option.bind_none, Option.map_none, if_true, if_false, ↓reduceIte, Bool.and_true, Bool.true_and, Bool.and_false, Bool.false_and, Bool.not_true, Bool.not_false, decide_true, decide_false, decide_not, Bool.false_eq_true, hr2, Int.toNat_natCast, cd1, rowD_len, hl1, D1]) ?_
  refine exs_step (ρ' := [.sl 0 d, .sl 1 c5, .un, .sl 0 (.tuple ((chain m len).map limbD)), .sl 0 (depD (m + 1) v1), .un, .un, .un, .un, .un, .sl 0 (.int m), .sl 0 (.int len), .sl 0 (.int deep), .sl 0 (.int fl), .un, .un, .un]) (by simp (config := { decide := false, maxSteps := 1000000 }) only [exs_nil, exs_cons, nxt_nx, nxt_rt, nxt_bk, nxt_ct, ex_for, ex_while, ev_comp, ev_nm, ev_int, ev_bl, ev_non, ev_str, ev_glb, ev_op, ev_neg, ev_tst, ev_ife, ev_tup, ev_lst, ev_ix, ev_bix, ev_bix2, ev_slc, ev_call, ev_cio, ev_b1, ev_dnew, ev_blen, ev_b2, ev_isi, evs_nil, evs_cons, evo_no, evo_yes, evT_ex, evT_cm, evT_chn, evT_not, evT_and, evT_or, evA_nil, evA_cons, evR_nil, evR_cons, evI_ex, evI_rng1, evI_rng2, evI_enm, evI_zip, ex_set, ex_tset, ex_par, ex_par3, ex_aug, ex_ixset, ex_pst, ex_ixset2, ex_ixset22, ex_app, ex_expr, ex_ret, ex_retN, ex_ite, ex_brk, ex_cont, ex_pass, ex_never, mb_some, mb_none, gt_zero, gt_succ, st_zero, st_succ, wp, bk, rdN, ow1, ow01, ow2, setable, setS, set1, set2, up1, bnd, bnds, isiD, outF, ioOf, atI0, atI1, atI2, atI3, ixN0, ixN1, len0, len1, len2, len3, len4, len5, len6, len7, len8, len9, List.length_cons, List.length_nil, List.length_map, List.length_append, Nat.zero_add, Nat.reduceAdd, set0, set1', opD_add, opD_sub, opD_mul, opD_fdiv, opD_mod, opD_pow, opD_addT, opD_addL, opD_mulL, opD_mulT, lvD_int, lvD_bool, lvD_str, lvD_tuple, lvD_dict, lvD_none, lvD_list, b1_lenL, b1_lenT, b1_lenD, b1_lenK, b1_abs, b1_int, b1_tupL, b1_tupT, b1_lstL, b1_lstT, b1_lstS, b1_all, b1_any, b1_str, b1_srtL, b1_srtD, b2_min, b2_max, cm_eq, cm_ne, cm_lt, cm_le, cm_gt, cm_ge, cm_ltT, cm_is_int, cm_isN_int, cm_is_tuple, cm_isN_tuple, cm_is_list, cm_isN_list, cm_is_bool, cm_isN_bool, cm_is_str, cm_isN_str, cm_is_none, cm_isN_none, cm_isb, cm_isNb, ix_L, ix_T, sl_L, sl_T, st_L, Option.bind_some, Option.map_some, Option.bind_none, Option.map_none, if_true, if_false, ↓reduceIte, Bool.and_true, Bool.true_and, Bool.and_false, Bool.false_and, Bool.not_true, Bool.not_false, decide_true, decide_false, decide_not, Bool.false_eq_true, q1, s1]) ?_
  refine exs_step (ρ' := [.sl 0 d, .sl 1 c5, .un, .sl 0 (.tuple ((chain m len).map limbD)), .sl 0 (depD m v2), .un, .un, .un, .un, .un, .sl 0 (.int m), .sl 0 (.int len), .sl 0 (.int deep), .sl 0 (.int fl), .un, .un, .un]) (by simp (config := { decide := false, maxSteps := 1000000 }) only [exs_nil, exs_cons, nxt_nx, nxt_rt, nxt_bk, nxt_ct, ex_for, ex_while, ev_comp, ev_nm, ev_int, ev_bl, ev_non, ev_str, ev_glb, ev_op, ev_neg, ev_tst, ev_ife, ev_tup, ev_lst, ev_ix, ev_bix, ev_bix2, ev_slc, ev_call, ev_cio, ev_b1, ev_dnew, ev_blen, ev_b2, ev_isi, evs_nil, evs_cons, evo_no, evo_yes, evT_ex, evT_cm, evT_chn, evT_not, evT_and, evT_or, evA_nil, evA_cons, evR_nil, evR_cons, evI_ex, evI_rng1, evI_rng2, evI_enm, evI_zip, ex_set, ex_tset, ex_par, ex_par3, ex_aug, ex_ixset, ex_pst, ex_ixset2, ex_ixset22, ex_app, ex_expr, ex_ret, ex_retN, ex_ite, ex_brk, ex_cont, ex_pass, ex_never, mb_some, mb_none, gt_zero, gt_succ, st_zero, st_succ, wp, bk, rdN, ow1, ow01, ow2, setable, setS, set1, set2, up1, bnd, bnds, isiD, outF, ioOf, atI0, atI1, atI2, atI3, ixN0, ixN1, len0, len1, len2, len3, len4, len5, len6, len7, len8, len9, List.length_cons, List.length_nil, List.length_map, List.length_append, Nat.zero_add, Nat.reduceAdd, set0, set1', opD_add, opD_sub, opD_mul, opD_fdiv, opD_mod, opD_pow, opD_addT, opD_addL, opD_mulL, opD_mulT, lvD_int, lvD_bool, lvD_str, lvD_tuple, lvD_dict, lvD_none, lvD_list, b1_lenL, b1_lenT, b1_lenD, b1_lenK, b1_abs, b1_int, b1_tupL, b1_tupT, b1_lstL, b1_lstT, b1_lstS, b1_all, b1_any, b1_str, b1_srtL, b1_srtD, b2_min, b2_max, cm_eq, cm_ne, cm_lt, cm_le, cm_gt, cm_ge, cm_ltT, cm_is_int, cm_isN_int, cm_is_tuple, cm_isN_tuple, cm_is_list, cm_isN_list, cm_is_bool, cm_isN_bool, cm_is_str, cm_isN_str, cm_is_none, cm_isN_none, cm_isb, cm_isNb, ix_L, ix_T, sl_L, sl_T, st_L, Option.bind_some, Option.map_some, Option.bind_none, Option.map_none, if_true, if_false, ↓reduceIte, Bool.and_true, Bool.true_and, Bool.and_false, Bool.false_and, Bool.not_true, Bool.not_false, decide_true, decide_false, decide_not, Bool.false_eq_true, hr2, Int.toNat_natCast, cd2, D2]) ?_
  refine exs_step (ρ' := [.sl 0 d, .sl 1 c5, .un, .sl 0 (.tuple ((chain m len).map limbD)), .sl 0 (depD m v2), .un, .un, .un, .un, .un, .sl 0 (.int m), .sl 0 (.int len), .sl 0 (.int deep), .sl 0 (.int fl), .un, .un, .un]) (by simp (config := { decide := false, maxSteps := 1000000 }) only [exs_nil, exs_cons, nxt_nx, nxt_rt, nxt_bk, nxt_ct, ex_for, ex_while, ev_comp, ev_nm, ev_int, ev_bl, ev_non, ev_str, ev_glb, ev_op, ev_neg, ev_tst, ev_ife, ev_tup, ev_lst, ev_ix, ev_bix, ev_bix2, ev_slc, ev_call, ev_cio, ev_b1, ev_dnew, ev_blen, ev_b2, ev_isi, evs_nil, evs_cons, evo_no, evo_yes, evT_ex, evT_cm, evT_chn, evT_not, evT_and, evT_or, evA_nil, evA_cons, evR_nil, evR_cons, evI_ex, evI_rng1, evI_rng2, evI_enm, evI_zip, ex_set, ex_tset, ex_par, ex_par3, ex_aug, ex_ixset, ex_pst, ex_ixset2, ex_ixset22, ex_app, ex_expr, ex_ret, ex_retN, ex_ite, ex_brk, ex_cont, ex_pass, ex_never, mb_some, mb_none, gt_zero, gt_succ, st_zero, st_succ, wp, bk, rdN, ow1, ow01, ow2, setable, setS, set1, set2, up1, bnd, bnds, isiD, outF, ioOf, atI0, atI1, atI2, atI3, ixN0, ixN1, len0, len1, len2, len3, len4, len5, len6, len7, len8, len9, List.length_cons, List.length_nil, List.length_map, List.length_append, Nat.zero_add, Nat.reduceAdd, set0, set1', opD_add, opD_sub, opD_mul, opD_fdiv, opD_mod, opD_pow, opD_addT, opD_addL, opD_mulL, opD_mulT, lvD_int, lvD_bool, lvD_str, lvD_tuple, lvD_dict, lvD_none, lvD_list, b1_lenL, b1_lenT, b1_lenD, b1_lenK, b1_abs, b1_int, b1_tupL, b1_tupT, b1_lstL, b1_lstT, b1_lstS, b1_all, b1_any, b1_str, b1_srtL, b1_srtD, b2_min, b2_max, cm_eq, cm_ne, cm_lt, cm_le, cm_gt, cm_ge, cm_ltT, cm_is_int, cm_isN_int, cm_is_tuple, cm_isN_tuple, cm_is_list, cm_isN_list, cm_is_bool, cm_isN_bool, cm_is_str, cm_isN_str, cm_is_none, cm_isN_none, cm_isb, cm_isNb, ix_L, ix_T, sl_L, sl_T, st_L, Option.bind_some, Option.map_some, Option.bind_none, Option.map_none, if_true, if_false, ↓reduceIte, Bool.and_true, Bool.true_and, Bool.and_false, Bool.false_and, Bool.not_true, Bool.not_false, decide_true, decide_false, decide_not, Bool.false_eq_true, hm1, q2, s2]) ?_
  refine exs_step (ρ' := [.sl 0 d, .sl 1 c7, .un, .sl 0 (.tuple ((chain m len).map limbD)), .sl 0 (depD m v2), .un, .un, .un, .un, .un, .sl 0 (.int m), .sl 0 (.int len), .sl 0 (.int deep), .sl 0 (.int fl), .sl 0 (.int one), .sl 0 (.int other), .un]) (by simp (config := { decide := false, maxSteps := 1000000 }) only [exs_nil, exs_cons, nxt_nx, nxt_rt, nxt_bk, nxt_ct, ex_for, ex_while, ev_comp, ev_nm, ev_int, ev_bl, ev_non, ev_str, ev_glb, ev_op, ev_neg, ev_tst, ev_ife, ev_tup, ev_lst, ev_ix, ev_bix, ev_bix2, ev_slc, ev_call, ev_cio, ev_b1, ev_dnew, ev_blen, ev_b2, ev_isi, evs_nil, evs_cons, evo_no, evo_yes, evT_ex, evT_cm, evT_chn, evT_not, evT_and, evT_or, evA_nil, evA_cons, evR_nil, evR_cons, evI_ex, evI_rng1, evI_rng2, evI_enm, evI_zip, ex_set, ex_tset, ex_par, ex_par3, ex_aug, ex_ixset, ex_pst, ex_ixset2, ex_ixset22, ex_app, ex_expr, ex_ret, ex_retN, ex_ite, ex_brk, ex_cont, ex_pass, ex_never, mb_some, mb_none, gt_zero, gt_succ, st_zero, st_succ, wp, bk, rdN, ow1, ow01, ow2, setable, setS, set1, set2, up1, bnd, bnds, isiD, outF, ioOf, atI0, atI1, atI2, atI3, ixN0, ixN1, len0, len1, len2, len3, len4, len5, len6, len7, len8, len9, List.length_cons, List.length_nil, List.length_map, List.length_append, Nat.zero_add, Nat.reduceAdd, set0, set1', opD_add, opD_sub, opD_mul, opD_fdiv, opD_mod, opD_pow, opD_addT, opD_addL, opD_mulL, opD_mulT, lvD_int, lvD_bool, lvD_str, lvD_tuple, lvD_dict, lvD_none, lvD_list, b1_lenL, b1_lenT, b1_lenD, b1_lenK, b1_abs, b1_int, b1_tupL, b1_tupT, b1_lstL, b1_lstT, b1_lstS, b1_all, b1_any, b1_str, b1_srtL, b1_srtD, b2_min, b2_max, cm_eq, cm_ne, cm_lt, cm_le, cm_gt, cm_ge, cm_ltT, cm_is_int, cm_isN_int, cm_is_tuple, cm_isN_tuple, cm_is_list, cm_isN_list, cm_is_bool, cm_isN_bool, cm_is_str, cm_isN_str, cm_is_none, cm_isN_none, cm_isb, cm_isNb, ix_L, ix_T, sl_L, sl_T, st_L, Option.bind_some, Option.map_some, Option.bind_none, Option.map_none, if_true, if_false, ↓reduceIte, Bool.and_true, Bool.true_and, Bool.and_false, Bool.false_and, Bool.not_true, Bool.not_false, decide_true, decide_false, decide_not, Bool.false_eq_true, g5, g6]) ?_
  refine exs_step (ρ' := [.sl 0 d, .sl 1 c7, .un, .sl 0 (.tuple ((chain m len).map limbD)), .sl 0 (depD m v2), .sl 0 (.tuple [.tuple [.int (if other < one then other else one)], .tuple (rowD m fun _ => .int fl), .tuple ([.int 0] ++ rowD (m - 1) fun _ => .int fl)]), .un, .un, .un, .un, .sl 0 (.int m), .sl 0 (.int len), .sl 0 (.int deep), .sl 0 (.int fl), .sl 0 (.int one), .sl 0 (.int other), .un]) (by simp (config := { decide := false, maxSteps := 1000000 }) only [exs_nil, exs_cons, nxt_nx, nxt_rt, nxt_bk, nxt_ct, ex_for, ex_while, ev_comp, ev_nm, ev_int, ev_bl, ev_non, ev_str, ev_glb, ev_op, ev_neg, ev_tst, ev_ife, ev_tup, ev_lst, ev_ix, ev_bix, ev_bix2, ev_slc, ev_call, ev_cio, ev_b1, ev_dnew, ev_blen, ev_b2, ev_isi, evs_nil, evs_cons, evo_no, evo_yes, evT_ex, evT_cm, evT_chn, evT_not, evT_and, evT_or, evA_nil, evA_cons, evR_nil, evR_cons, evI_ex, evI_rng1, evI_rng2, evI_enm, evI_zip, ex_set, ex_tset, ex_par, ex_par3, ex_aug, ex_ixset, ex_pst, ex_ixset2, ex_ixset22, ex_app, ex_expr, ex_ret, ex_retN, ex_ite, ex_brk, ex_cont, ex_pass, ex_never, mb_some, mb_none, gt_zero, gt_succ, st_zero, st_succ, wp, bk, rdN, ow1, ow01, ow2, setable, setS, set1, set2, up1, bnd, bnds, isiD, outF, ioOf, atI0, atI1, atI2, atI3, ixN0, ixN1, len0, len1, len2, len3, len4, len5, len6, len7, len8, len9, List.length_cons, List.length_nil, List.length_map, List.length_append, Nat.zero_add, Nat.reduceAdd, set0, set1', opD_add, opD_sub, opD_mul, opD_fdiv, opD_mod, opD_pow, opD_addT, opD_addL, opD_mulL, opD_mulT, lvD_int, lvD_bool, lvD_str, lvD_tuple, lvD_dict, lvD_none, lvD_list, b1_lenL, b1_lenT, b1_lenD, b1_lenK, b1_abs, b1_int, b1_tupL, b1_tupT, b1_lstL, b1_lstT, b1_lstS, b1_all, b1_any, b1_str, b1_srtL, b1_srtD, b2_min, b2_max, cm_eq, cm_ne, cm_lt, cm_le, cm_gt, cm_ge, cm_ltT, cm_is_int, cm_isN_int, cm_is_tuple, cm_isN_tuple, cm_is_list, cm_isN_list, cm_is_bool, cm_isN_bool, cm_is_str, cm_isN_str, cm_is_none, cm_isN_none, cm_isb, cm_isNb, ix_L, ix_T, sl_L, sl_T, st_L, Option.bind_some, Option.map_some, Option.bind_none, Option.map_none, if_true, if_false, ↓reduceIte, Bool.and_true, Bool.true_and, Bool.and_false, Bool.false_and, Bool.not_true, Bool.not_false, decide_true, decide_false, decide_not, Bool.false_eq_true, hm1, q3, q4, q5, evA [.sl 0 d, .sl 1 c7, .un, .sl 0 (.tuple ((chain m len).map limbD)), .sl 0 (depD m v2), .un, .un, .un, .un, .un, .sl 0 (.int m), .sl 0 (.int len), .sl 0 (.int deep), .sl 0 (.int fl), .sl 0 (.int one), .sl 0 (.int other), .un] rfl]) ?_
  refine exs_last (d := .bool true) (k := 0) (ρ' := [.sl 0 d, .sl 1 c7, .un, .sl 0 (.tuple ((chain m len).map limbD)), .sl 0 (depD m v2), .sl 0 (.tuple [.tuple [.int (if other < one then other else one)], .tuple (rowD m fun _ => .int fl), .tuple ([.int 0] ++ rowD (m - 1) fun _ => .int fl)]), .un, .un, .un, .un, .sl 0 (.int m), .sl 0 (.int len), .sl 0 (.int deep), .sl 0 (.int fl), .sl 0 (.int one), .sl 0 (.int other), .un]) (last4 (evB _ rfl rfl) (evC _ rfl rfl) (by rw [rowD_len]; exact hl5) s3) ?_
  rfl
end DI

namespace K04
open DI PySem
def b_is_whole : Ss := C.b_is_whole
def G_is_whole : Gm := fun _ _ => none
def S_is_whole : Fn := run G_is_whole false 3 3 b_is_whole
def b_is_tuple_of : Ss := C.b_is_tuple_of
def G_is_tuple_of : Gm := fun _ _ => none
def S_is_tuple_of : Fn := run G_is_tuple_of false 3 3 b_is_tuple_of
def b_fits_limb : Ss := C.b_fits_limb
def G_fits_limb : Gm := fun j => match j with | 0 => S_is_whole | 1 => S_is_tuple_of | _ => fun _ => none
def S_fits_limb : Fn := run G_fits_limb false 2 2 b_fits_limb
def b_fits_figure : Ss := C.b_fits_figure
def G_fits_figure : Gm := fun j => match j with | 0 => S_is_whole | 1 => S_is_tuple_of | 2 => S_fits_limb | _ => fun _ => none
def S_fits_figure : Fn := run G_fits_figure false 1 9 b_fits_figure
def b_need_figure : Ss := C.b_need_figure
def G_need_figure : Gm := fun j => match j with | 0 => S_fits_figure | _ => fun _ => none
def S_need_figure : Fn := run G_need_figure false 1 1 b_need_figure
def b_fits_setting : Ss := C.b_fits_setting
def G_fits_setting : Gm := fun j => match j with | 0 => S_is_whole | 1 => S_is_tuple_of | _ => fun _ => none
def S_fits_setting : Fn := run G_fits_setting false 2 4 b_fits_setting
def b_need_setting : Ss := C.b_need_setting
def G_need_setting : Gm := fun j => match j with | 0 => S_fits_setting | _ => fun _ => none
def S_need_setting : Fn := run G_need_setting false 2 2 b_need_setting
def b_fits_depths : Ss := C.b_fits_depths
def G_fits_depths : Gm := fun j => match j with | 0 => S_is_whole | 1 => S_is_tuple_of | _ => fun _ => none
def S_fits_depths : Fn := run G_fits_depths false 2 3 b_fits_depths
def b_need_set : Ss := C.b_need_set
def G_need_set : Gm := fun j => match j with | 0 => S_need_figure | 1 => S_need_setting | _ => fun _ => none
def S_need_set : Fn := run G_need_set false 2 2 b_need_set
def b_table_of : Ss := C.b_table_of
def G_table_of : Gm := fun _ _ => none
def S_table_of : Fn := run G_table_of false 1 8 b_table_of
def b_keeps_limbs : Ss := C.b_keeps_limbs
def G_keeps_limbs : Gm := fun _ _ => none
def S_keeps_limbs : Fn := run G_keeps_limbs false 2 5 b_keeps_limbs
def b_keeps_strings : Ss := C.b_keeps_strings
def G_keeps_strings : Gm := fun _ _ => none
def S_keeps_strings : Fn := run G_keeps_strings false 3 5 b_keeps_strings
def b_is_stance : Ss := C.b_is_stance
def G_is_stance : Gm := fun j => match j with | 0 => S_need_set | 1 => S_keeps_strings | 2 => S_keeps_limbs | 3 => S_fits_depths | _ => fun _ => none
def S_is_stance : Fn := run G_is_stance false 3 3 b_is_stance
def b_pose_by : Ss := C.b_pose_by
def G_pose_by : Gm := fun _ _ => none
def S_pose_by : Fn := run G_pose_by false 3 8 b_pose_by
def b_pose_in : Ss := C.b_pose_in
def G_pose_in : Gm := fun j => match j with | 0 => S_pose_by | 1 => S_table_of | _ => fun _ => none
def S_pose_in : Fn := run G_pose_in false 2 2 b_pose_in
def b_pose : Ss := C.b_pose
def G_pose : Gm := fun j => match j with | 0 => S_need_set | 1 => S_pose_in | _ => fun _ => none
def S_pose : Fn := run G_pose false 2 2 b_pose
def b_law_cup : Ss := cCup 73 311 4019 2077502485 157
def G_law_cup : Gm := fun _ _ => none
def S_law_cup : Fn := run G_law_cup false 1 2 b_law_cup
def b_law_roll : Ss := cRoll 30871 7877 2147483399 229 2147483563 811
def G_law_roll : Gm := fun _ _ => none
def S_law_roll : Fn := run G_law_roll true 2 4 b_law_roll
def b_law_some : Ss := cSome
def G_law_some : Gm := fun j => match j with | 0 => S_law_roll | _ => fun _ => none
def S_law_some : Fn := run G_law_some true 2 2 b_law_some
def b_law_same : Ss := C.b_law_same
def R_law_same : Nat → Fn
  | 0 => fun _ => none
  | n + 1 => run (fun j => match j with | 0 => R_law_same n | _ => fun _ => none) false 2 3 b_law_same
def S_law_same : Fn := R_law_same 8
def b_law_figure : Ss := C.b_law_figure
def G_law_figure : Gm := fun j => match j with | 0 => S_law_roll | 1 => S_law_some | _ => fun _ => none
def S_law_figure : Fn := run G_law_figure true 3 12 b_law_figure
def b_law_setting : Ss := C.b_law_setting
def G_law_setting : Gm := fun j => match j with | 0 => S_law_some | 1 => S_law_roll | _ => fun _ => none
def S_law_setting : Fn := run G_law_setting true 2 4 b_law_setting
def b_law_pose : Ss := C.b_law_pose
def G_law_pose : Gm := fun _ _ => none
def S_law_pose : Fn := run G_law_pose false 2 8 b_law_pose
def b_law_deeper : Ss := C.b_law_deeper
def G_law_deeper : Gm := fun _ _ => none
def S_law_deeper : Fn := run G_law_deeper false 3 3 b_law_deeper
def b_law : Ss := (.cons (.set true 1 (.call 0 (.cons (.nm 0) .nil))) (.cons (.for [2, 4, 6, 7, 8, 9] (.nm 2) (.rng1 (.int 8)) (.cons (.set false 6 (.cio 1 1 (.cons (.int 8) (.cons (.int 6) .nil)))) (.cons (.set false 7 (.cio 2 1 (.cons (.nm 6) .nil))) (.cons (.set false 4 (.call 3 (.cons (.nm 6) (.cons (.nm 7) .nil)))) (.cons (.ite (.or (.cons (.not (.ex (.call 5 (.cons (.call 6 (.cons (.nm 6) (.cons (.nm 7) .nil))) (.cons (.nm 4) .nil))))) (.cons (.cm .isN (.call 4 (.cons (.nm 6) (.cons (.nm 7) (.cons (.nm 4) .nil)))) (.bl true)) .nil))) (.cons (.ret false (.bl false)) .nil) .nil) (.cons (.set false 8 (.b1 .tuple (.comp 0 [16] (.nm 16) (.ex (.nm 4)) .nil (.b2 .min (.ix (.nm 6) (.int 3)) (.op .add (.nm 16) (.int 1)))))) (.cons (.ite (.not (.ex (.call 5 (.cons (.call 4 (.cons (.nm 6) (.cons (.nm 7) (.cons (.nm 8) .nil)))) (.cons (.tst (.cm .eq (.nm 8) (.nm 4))) .nil))))) (.cons (.ret false (.bl false)) .nil) .nil) (.cons (.set false 9 (.cio 7 1 (.cons (.ix (.nm 6) (.int 0)) .nil))) (.cons (.ite (.and (.cons (.cm .lt (.ix (.nm 4) (.nm 9)) (.ix (.nm 6) (.int 3))) (.cons (.cm .isN (.call 4 (.cons (.nm 6) (.cons (.nm 7) (.cons (.call 8 (.cons (.nm 6) (.cons (.nm 4) (.cons (.nm 9) .nil)))) .nil)))) (.bl false)) .nil))) (.cons (.ret false (.bl false)) .nil) .nil) .nil))))))))) (.cons (.tset (.tup [(.nm 10), (.nm 11), (.nm 12), (.nm 13)]) (.tup (.cons (.op .add (.int 2) (.cio 7 1 (.cons (.int 6) .nil))) (.cons (.op .add (.int 1) (.cio 7 1 (.cons (.int 4) .nil))) (.cons (.cio 7 1 (.cons (.int 12) .nil)) (.cons (.cio 9 1 (.cons (.lst (.cons (.int 12) (.cons (.int 20) (.cons (.int 30) .nil)))) .nil)) .nil)))))) (.cons (.set false 3 (.b1 .tuple (.comp 0 [9] (.nm 9) (.rng1 (.op .sub (.nm 10) (.int 1))) .nil (.tup (.cons (.nm 9) (.cons (.op .add (.nm 9) (.int 1)) (.cons (.nm 11) .nil))))))) (.cons (.set false 4 (.b1 .tuple (.op .add (.comp 0 [9] (.nm 9) (.rng1 (.nm 10)) .nil (.b2 .min (.nm 13) (.op .add (.nm 12) (.op .mul (.nm 9) (.nm 11))))) (.lst (.cons (.nm 13) .nil))))) (.cons (.ite (.not (.ex (.call 5 (.cons (.call 6 (.cons (.tup (.cons (.op .add (.nm 10) (.int 1)) (.cons (.nm 3) (.cons (.tup (.cons (.int 0) .nil)) (.cons (.nm 13) .nil))))) (.cons (.tup (.cons (.nm 12) .nil)) .nil))) (.cons (.nm 4) .nil))))) (.cons (.ret false (.bl false)) .nil) .nil) (.cons (.set false 4 (.b1 .tuple (.comp 0 [9] (.nm 9) (.rng1 (.nm 10)) .nil (.b2 .min (.nm 13) (.op .add (.nm 12) (.op .mul (.b2 .min (.nm 9) (.op .sub (.op .sub (.nm 10) (.int 1)) (.nm 9))) (.nm 11))))))) (.cons (.ite (.not (.ex (.call 5 (.cons (.call 6 (.cons (.tup (.cons (.nm 10) (.cons (.nm 3) (.cons (.tup (.cons (.int 0) (.cons (.op .sub (.nm 10) (.int 1)) .nil))) (.cons (.nm 13) .nil))))) (.cons (.tup (.cons (.nm 12) (.cons (.nm 12) .nil))) .nil))) (.cons (.nm 4) .nil))))) (.cons (.ret false (.bl false)) .nil) .nil) (.cons (.par 14 15 (.cio 7 1 (.cons (.op .add (.nm 13) (.int 1)) .nil)) (.cio 7 1 (.cons (.op .add (.nm 13) (.int 1)) .nil))) (.cons (.set false 5 (.tup (.cons (.call 6 (.cons (.tup (.cons (.int 1) (.cons (.tup .nil) (.cons (.tup (.cons (.int 0) (.cons (.int 0) .nil))) (.cons (.nm 13) .nil))))) (.cons (.tup (.cons (.nm 14) (.cons (.nm 15) .nil))) .nil))) (.cons (.call 6 (.cons (.tup (.cons (.nm 10) (.cons (.nm 3) (.cons (.tup (.cons (.int 0) (.cons (.int 0) (.cons (.op .sub (.nm 10) (.int 1)) .nil)))) (.cons (.nm 13) .nil))))) (.cons (.op .mul (.tup (.cons (.nm 13) .nil)) (.int 3)) .nil))) (.cons (.call 6 (.cons (.tup (.cons (.nm 10) (.cons (.tup .nil) (.cons (.tup (.cons (.int 0) (.cons (.int 0) .nil))) (.cons (.nm 13) .nil))))) (.cons (.tup (.cons (.int 0) (.cons (.nm 14) .nil))) .nil))) .nil))))) (.cons (.ret false (.call 5 (.cons (.nm 5) (.cons (.tup (.cons (.tup (.cons (.b2 .min (.nm 14) (.nm 15)) .nil)) (.cons (.op .mul (.tup (.cons (.nm 13) .nil)) (.nm 10)) (.cons (.op .add (.tup (.cons (.int 0) .nil)) (.op .mul (.tup (.cons (.nm 13) .nil)) (.op .sub (.nm 10) (.int 1)))) .nil)))) .nil)))) .nil)))))))))))
def G_law : Gm := fun j => match j with | 0 => S_law_cup | 1 => S_law_figure | 2 => S_law_setting | 3 => S_law_pose | 4 => S_is_stance | 5 => S_law_same | 6 => S_pose | 7 => S_law_roll | 8 => S_law_deeper | 9 => S_law_some | _ => fun _ => none
def S_law : Fn := run G_law false 1 17 b_law
end K04

namespace K04
open DI PySem
theorem same_eq : ∀ n : Nat, R_law_same n = cSame n
  | 0 => rfl
  | n + 1 => by
    show run (fun j => match j with | 0 => R_law_same n | _ => fun _ => none) false 2 3 C.b_law_same = run (fun j => match j with | 0 => cSame n | _ => fun _ => none) false 2 3 C.b_law_same
    rw [same_eq n]
theorem roll : RollOk S_law_roll := roll_ok (by decide) (by decide) (by decide) (by decide) (by decide) (by decide)
theorem some_ : SomeOk S_law_some := some_ok roll
theorem whole : WholeOk S_is_whole := whole_ok
theorem tup : TupOk S_is_tuple_of := tup_ok
theorem fits : FitsOk S_fits_figure := fits_ok whole tup (limb_ok whole tup)
theorem need : NeedOk S_need_set := needSet_ok (fun _ ok => needF_ok fits ok) (fun _ _ so => needS_ok (fitsS_ok whole tup so))
theorem env4 : Env4 G_law where
  cup := cup_ok (by decide) (by decide) (by decide) (by decide) (by decide)
  fig := figure_ok roll some_
  set := setting_ok some_ roll
  lp := lawPose_ok
  st := stance_ok need keepsS_ok keepsL_ok (fitsD_ok whole tup)
  same := by show SameOk (R_law_same 8); rw [same_eq]; exact same_ok
  pose := pose_ok need (poseIn_ok poseBy_ok table_ok)
  roll := roll
  deep := deeper_ok
  some_ := some_
theorem law_true : ∀ ns : List Int, ns.length ≤ 63 → ∃ x, S_law [.dict [(.none, .list (ns.map PyData.int))]] = some ⟨.bool true, 0, x⟩ := fun ns hn => law4 env4 ns hn
end K04

namespace K04
open DI PySem PySem.Spec PyProof.Rows L2
def top (i : Nat) : Stmt := PySem.Challenge.pw_strunglimbs_k04_whole_poses.main.body.getD i (.Pass ⟨0, 0, 0, 0⟩)
theorem sc_is_whole : FnScope ["value", "least", "most"] ["value", "least", "most"] (defScope (top 10)) := ⟨rfl, rfl, rfl, by decide +kernel, rfl, by decide +kernel, by decide +kernel⟩
theorem ck_is_whole : chkSs ⟨["value", "least", "most"], defScope (top 10), fun _ => true, [], []⟩ b_is_whole (defBody (top 10)) = true := by decide +kernel
def d_is_whole : He.DefD := ⟨("is_whole", none), "is_whole", "is_whole", defArgs (top 10), defBody (top 10), defScope (top 10), [], []⟩
theorem sc_is_tuple_of : FnScope ["value", "least", "most"] ["value", "least", "most"] (defScope (top 11)) := ⟨rfl, rfl, rfl, by decide +kernel, rfl, by decide +kernel, by decide +kernel⟩
theorem ck_is_tuple_of : chkSs ⟨["value", "least", "most"], defScope (top 11), fun _ => true, [], []⟩ b_is_tuple_of (defBody (top 11)) = true := by decide +kernel
def d_is_tuple_of : He.DefD := ⟨("is_tuple_of", none), "is_tuple_of", "is_tuple_of", defArgs (top 11), defBody (top 11), defScope (top 11), [], []⟩
theorem sc_fits_limb : FnScope ["joints", "value"] ["joints", "value"] (defScope (top 12)) := ⟨rfl, rfl, rfl, by decide +kernel, rfl, by decide +kernel, by decide +kernel⟩
theorem ck_fits_limb : chkSs ⟨["joints", "value"], defScope (top 12), fun _ => true, [("is_whole", 3, false), ("is_tuple_of", 3, false)], [("LENGTH", 9)]⟩ b_fits_limb (defBody (top 12)) = true := by decide +kernel
def d_fits_limb : He.DefD := ⟨("fits_limb", none), "fits_limb", "fits_limb", defArgs (top 12), defBody (top 12), defScope (top 12), [], []⟩
theorem sc_fits_figure : FnScope ["value", "joints", "limbs", "ties", "floor", "joint", "limb", "one", "other"] ["value"] (defScope (top 13)) := ⟨rfl, rfl, rfl, by decide +kernel, rfl, by decide +kernel, by decide +kernel⟩
theorem ck_fits_figure : chkSs ⟨["value", "joints", "limbs", "ties", "floor", "joint", "limb", "one", "other"], defScope (top 13), fun _ => true, [("is_whole", 3, false), ("is_tuple_of", 3, false), ("fits_limb", 2, false)], [("FLOOR", 30), ("JOINTS", 8), ("LIMBS", 12), ("STRINGS", 6)]⟩ b_fits_figure (defBody (top 13)) = true := by decide +kernel
def d_fits_figure : He.DefD := ⟨("fits_figure", none), "fits_figure", "fits_figure", defArgs (top 13), defBody (top 13), defScope (top 13), [], []⟩
theorem sc_need_figure : FnScope ["figure"] ["figure"] (defScope (top 14)) := ⟨rfl, rfl, rfl, by decide +kernel, rfl, by decide +kernel, by decide +kernel⟩
theorem ck_need_figure : chkSs ⟨["figure"], defScope (top 14), fun _ => true, [("fits_figure", 1, false)], []⟩ b_need_figure (defBody (top 14)) = true := by decide +kernel
def d_need_figure : He.DefD := ⟨("need_figure", none), "need_figure", "need_figure", defArgs (top 14), defBody (top 14), defScope (top 14), [], []⟩
theorem sc_fits_setting : FnScope ["figure", "value", "many", "one"] ["figure", "value"] (defScope (top 15)) := ⟨rfl, rfl, rfl, by decide +kernel, rfl, by decide +kernel, by decide +kernel⟩
theorem ck_fits_setting : chkSs ⟨["figure", "value", "many", "one"], defScope (top 15), fun _ => true, [("is_whole", 3, false), ("is_tuple_of", 3, false)], []⟩ b_fits_setting (defBody (top 15)) = true := by decide +kernel
def d_fits_setting : He.DefD := ⟨("fits_setting", none), "fits_setting", "fits_setting", defArgs (top 15), defBody (top 15), defScope (top 15), [], []⟩
theorem sc_need_setting : FnScope ["figure", "setting"] ["figure", "setting"] (defScope (top 16)) := ⟨rfl, rfl, rfl, by decide +kernel, rfl, by decide +kernel, by decide +kernel⟩
theorem ck_need_setting : chkSs ⟨["figure", "setting"], defScope (top 16), fun _ => true, [("fits_setting", 2, false)], []⟩ b_need_setting (defBody (top 16)) = true := by decide +kernel
def d_need_setting : He.DefD := ⟨("need_setting", none), "need_setting", "need_setting", defArgs (top 16), defBody (top 16), defScope (top 16), [], []⟩
theorem sc_fits_depths : FnScope ["figure", "value", "one"] ["figure", "value"] (defScope (top 17)) := ⟨rfl, rfl, rfl, by decide +kernel, rfl, by decide +kernel, by decide +kernel⟩
theorem ck_fits_depths : chkSs ⟨["figure", "value", "one"], defScope (top 17), fun _ => true, [("is_whole", 3, false), ("is_tuple_of", 3, false)], []⟩ b_fits_depths (defBody (top 17)) = true := by decide +kernel
def d_fits_depths : He.DefD := ⟨("fits_depths", none), "fits_depths", "fits_depths", defArgs (top 17), defBody (top 17), defScope (top 17), [], []⟩
theorem sc_need_set : FnScope ["figure", "setting"] ["figure", "setting"] (defScope (top 18)) := ⟨rfl, rfl, rfl, by decide +kernel, rfl, by decide +kernel, by decide +kernel⟩
theorem ck_need_set : chkSs ⟨["figure", "setting"], defScope (top 18), fun _ => true, [("need_figure", 1, false), ("need_setting", 2, false)], []⟩ b_need_set (defBody (top 18)) = true := by decide +kernel
def d_need_set : He.DefD := ⟨("need_set", none), "need_set", "need_set", defArgs (top 18), defBody (top 18), defScope (top 18), [], []⟩
theorem sc_table_of : FnScope ["figure", "many", "rows", "by", "one", "other", "length", "far"] ["figure"] (defScope (top 19)) := ⟨rfl, rfl, rfl, by decide +kernel, rfl, by decide +kernel, by decide +kernel⟩
theorem ck_table_of : chkSs ⟨["figure", "many", "rows", "by", "one", "other", "length", "far"], defScope (top 19), fun _ => true, [], []⟩ b_table_of (defBody (top 19)) = true := by decide +kernel
def d_table_of : He.DefD := ⟨("table_of", none), "table_of", "table_of", defArgs (top 19), defBody (top 19), defScope (top 19), [], []⟩
theorem sc_keeps_limbs : FnScope ["figure", "depths", "one", "other", "length"] ["figure", "depths"] (defScope (top 20)) := ⟨rfl, rfl, rfl, by decide +kernel, rfl, by decide +kernel, by decide +kernel⟩
theorem ck_keeps_limbs : chkSs ⟨["figure", "depths", "one", "other", "length"], defScope (top 20), fun _ => true, [], []⟩ b_keeps_limbs (defBody (top 20)) = true := by decide +kernel
def d_keeps_limbs : He.DefD := ⟨("keeps_limbs", none), "keeps_limbs", "keeps_limbs", defArgs (top 20), defBody (top 20), defScope (top 20), [], []⟩
theorem sc_keeps_strings : FnScope ["figure", "setting", "depths", "joint", "length"] ["figure", "setting", "depths"] (defScope (top 21)) := ⟨rfl, rfl, rfl, by decide +kernel, rfl, by decide +kernel, by decide +kernel⟩
theorem ck_keeps_strings : chkSs ⟨["figure", "setting", "depths", "joint", "length"], defScope (top 21), fun _ => true, [], []⟩ b_keeps_strings (defBody (top 21)) = true := by decide +kernel
def d_keeps_strings : He.DefD := ⟨("keeps_strings", none), "keeps_strings", "keeps_strings", defArgs (top 21), defBody (top 21), defScope (top 21), [], []⟩
theorem sc_is_stance : FnScope ["figure", "setting", "value"] ["figure", "setting", "value"] (defScope (top 22)) := ⟨rfl, rfl, rfl, by decide +kernel, rfl, by decide +kernel, by decide +kernel⟩
theorem ck_is_stance : chkSs ⟨["figure", "setting", "value"], defScope (top 22), fun _ => true, [("need_set", 2, false), ("keeps_strings", 3, false), ("keeps_limbs", 2, false), ("fits_depths", 2, false)], []⟩ b_is_stance (defBody (top 22)) = true := by decide +kernel
def d_is_stance : He.DefD := ⟨("is_stance", none), "is_stance", "is_stance", defArgs (top 22), defBody (top 22), defScope (top 22), [], []⟩
theorem sc_pose_by : FnScope ["figure", "setting", "rows", "found", "joint", "some", "tie", "length"] ["figure", "setting", "rows"] (defScope (top 24)) := ⟨rfl, rfl, rfl, by decide +kernel, rfl, by decide +kernel, by decide +kernel⟩
theorem ck_pose_by : chkSs ⟨["figure", "setting", "rows", "found", "joint", "some", "tie", "length"], defScope (top 24), fun _ => true, [], []⟩ b_pose_by (defBody (top 24)) = true := by decide +kernel
def d_pose_by : He.DefD := ⟨("pose_by", none), "pose_by", "pose_by", defArgs (top 24), defBody (top 24), defScope (top 24), [], []⟩
theorem sc_pose_in : FnScope ["figure", "setting"] ["figure", "setting"] (defScope (top 25)) := ⟨rfl, rfl, rfl, by decide +kernel, rfl, by decide +kernel, by decide +kernel⟩
theorem ck_pose_in : chkSs ⟨["figure", "setting"], defScope (top 25), fun _ => true, [("pose_by", 3, false), ("table_of", 1, false)], []⟩ b_pose_in (defBody (top 25)) = true := by decide +kernel
def d_pose_in : He.DefD := ⟨("pose_in", none), "pose_in", "pose_in", defArgs (top 25), defBody (top 25), defScope (top 25), [], []⟩
theorem sc_pose : FnScope ["figure", "setting"] ["figure", "setting"] (defScope (top 26)) := ⟨rfl, rfl, rfl, by decide +kernel, rfl, by decide +kernel, by decide +kernel⟩
theorem ck_pose : chkSs ⟨["figure", "setting"], defScope (top 26), fun _ => true, [("need_set", 2, false), ("pose_in", 2, false)], []⟩ b_pose (defBody (top 26)) = true := by decide +kernel
def d_pose : He.DefD := ⟨("pose", none), "pose", "pose", defArgs (top 26), defBody (top 26), defScope (top 26), [], []⟩
theorem sc_law_cup : FnScope ["script", "cell"] ["script"] (defScope (top 28)) := ⟨rfl, rfl, rfl, by decide +kernel, rfl, by decide +kernel, by decide +kernel⟩
theorem ck_law_cup : chkSs ⟨["script", "cell"], defScope (top 28), fun _ => true, [], []⟩ b_law_cup (defBody (top 28)) = true := by decide +kernel
def d_law_cup : He.DefD := ⟨("_law_cup", none), "_law_cup", "_law_cup", defArgs (top 28), defBody (top 28), defScope (top 28), [], []⟩
theorem sc_law_roll : FnScope ["cup", "many", "deep", "found"] ["cup", "many"] (defScope (top 29)) := ⟨rfl, rfl, rfl, by decide +kernel, rfl, by decide +kernel, by decide +kernel⟩
theorem ck_law_roll : chkSs ⟨["cup", "many", "deep", "found"], defScope (top 29), fun _ => true, [], []⟩ b_law_roll (defBody (top 29)) = true := by decide +kernel
def d_law_roll : He.DefD := ⟨("_law_roll", none), "_law_roll", "_law_roll", defArgs (top 29), defBody (top 29), defScope (top 29), [], []⟩
theorem sc_law_some : FnScope ["cup", "things"] ["cup", "things"] (defScope (top 30)) := ⟨rfl, rfl, rfl, by decide +kernel, rfl, by decide +kernel, by decide +kernel⟩
theorem ck_law_some : chkSs ⟨["cup", "things"], defScope (top 30), fun _ => true, [("_law_roll", 2, true)], []⟩ b_law_some (defBody (top 30)) = true := by decide +kernel
def d_law_some : He.DefD := ⟨("_law_some", none), "_law_some", "_law_some", defArgs (top 30), defBody (top 30), defScope (top 30), [], []⟩
theorem sc_law_same : FnScope ["told", "due", "at"] ["told", "due"] (defScope (top 31)) := ⟨rfl, rfl, rfl, by decide +kernel, rfl, by decide +kernel, by decide +kernel⟩
theorem ck_law_same : chkSs ⟨["told", "due", "at"], defScope (top 31), fun _ => true, [("_law_same", 2, false)], []⟩ b_law_same (defBody (top 31)) = true := by decide +kernel
def d_law_same : He.DefD := ⟨("_law_same", none), "_law_same", "_law_same", defArgs (top 31), defBody (top 31), defScope (top 31), [], []⟩
theorem sc_law_figure : FnScope ["cup", "most", "strings", "joints", "known", "joint", "turn", "limbs", "ties", "one", "other", "pair"] ["cup", "most", "strings"] (defScope (top 32)) := ⟨rfl, rfl, rfl, by decide +kernel, rfl, by decide +kernel, by decide +kernel⟩
theorem ck_law_figure : chkSs ⟨["cup", "most", "strings", "joints", "known", "joint", "turn", "limbs", "ties", "one", "other", "pair"], defScope (top 32), fun _ => true, [("_law_roll", 2, true), ("_law_some", 2, true)], []⟩ b_law_figure (defBody (top 32)) = true := by decide +kernel
def d_law_figure : He.DefD := ⟨("_law_figure", none), "_law_figure", "_law_figure", defArgs (top 32), defBody (top 32), defScope (top 32), [], []⟩
theorem sc_law_setting : FnScope ["cup", "figure", "floor", "tie"] ["cup", "figure"] (defScope (top 33)) := ⟨rfl, rfl, rfl, by decide +kernel, rfl, by decide +kernel, by decide +kernel⟩
theorem ck_law_setting : chkSs ⟨["cup", "figure", "floor", "tie"], defScope (top 33), fun _ => true, [("_law_some", 2, true), ("_law_roll", 2, true)], []⟩ b_law_setting (defBody (top 33)) = true := by decide +kernel
def d_law_setting : He.DefD := ⟨("_law_setting", none), "_law_setting", "_law_setting", defArgs (top 33), defBody (top 33), defScope (top 33), [], []⟩
theorem sc_law_pose : FnScope ["figure", "setting", "depths", "turn", "tie", "length", "one", "other"] ["figure", "setting"] (defScope (top 34)) := ⟨rfl, rfl, rfl, by decide +kernel, rfl, by decide +kernel, by decide +kernel⟩
theorem ck_law_pose : chkSs ⟨["figure", "setting", "depths", "turn", "tie", "length", "one", "other"], defScope (top 34), fun _ => true, [], []⟩ b_law_pose (defBody (top 34)) = true := by decide +kernel
def d_law_pose : He.DefD := ⟨("_law_pose", none), "_law_pose", "_law_pose", defArgs (top 34), defBody (top 34), defScope (top 34), [], []⟩
theorem sc_law_deeper : FnScope ["figure", "depths", "at"] ["figure", "depths", "at"] (defScope (top 35)) := ⟨rfl, rfl, rfl, by decide +kernel, rfl, by decide +kernel, by decide +kernel⟩
theorem ck_law_deeper : chkSs ⟨["figure", "depths", "at"], defScope (top 35), fun _ => true, [], []⟩ b_law_deeper (defBody (top 35)) = true := by decide +kernel
def d_law_deeper : He.DefD := ⟨("_law_deeper", none), "_law_deeper", "_law_deeper", defArgs (top 35), defBody (top 35), defScope (top 35), [], []⟩
theorem sc_law : FnScope ["script", "cup", "turn", "limbs", "due", "told", "figure", "setting", "more", "at", "many", "length", "deep", "floor", "one", "other", "depth"] ["script"] (defScope (top 36)) := ⟨rfl, rfl, rfl, by decide +kernel, rfl, by decide +kernel, by decide +kernel⟩
theorem ck_law : chkSs ⟨["script", "cup", "turn", "limbs", "due", "told", "figure", "setting", "more", "at", "many", "length", "deep", "floor", "one", "other", "depth"], defScope (top 36), fun _ => true, [("_law_cup", 1, false), ("_law_figure", 3, true), ("_law_setting", 2, true), ("_law_pose", 2, false), ("is_stance", 3, false), ("_law_same", 2, false), ("pose", 2, false), ("_law_roll", 2, true), ("_law_deeper", 3, false), ("_law_some", 2, true)], []⟩ b_law (defBody (top 36)) = true := by decide +kernel
def d_law : He.DefD := ⟨("law", none), "law", "law", defArgs (top 36), defBody (top 36), defScope (top 36), [], []⟩
def fn : List He.DefD := [d_is_whole, d_is_tuple_of, d_fits_limb, d_fits_figure, d_need_figure, d_fits_setting, d_need_setting, d_fits_depths, d_need_set, d_table_of, d_keeps_limbs, d_keeps_strings, d_is_stance, d_pose_by, d_pose_in, d_pose, d_law_cup, d_law_roll, d_law_some, d_law_same, d_law_figure, d_law_setting, d_law_pose, d_law_deeper, d_law]
def fa : List He.Fa := [.glo "is_whole", .glo "is_tuple_of", .glo "fits_limb", .glo "fits_figure", .glo "need_figure", .glo "fits_setting", .glo "need_setting", .glo "fits_depths", .glo "need_set", .glo "table_of", .glo "keeps_limbs", .glo "keeps_strings", .glo "is_stance", .glo "pose_by", .glo "pose_in", .glo "pose", .glo "_law_cup", .glo "_law_roll", .glo "_law_some", .glo "_law_same", .glo "_law_figure", .glo "_law_setting", .glo "_law_pose", .glo "_law_deeper", .glo "law"] ++ [.int "JOINTS" 8, .int "LIMBS" 12, .int "STRINGS" 6, .int "LENGTH" 9, .int "FLOOR" 30] ++ bltL.map .free
abbrev R : PySem.W.OpenRow := PySem.W.OpenLaw.row PySem.Challenge.rw_strunglimbs_k04_whole_poses
abbrev hk : PySem.W.Hook := He.hookD 4 fa fn
def ob (s : PySem.W.SharedT) : He.AlD := He.obsDG 4 fa fn (HandSHeadRun.getT s)
theorem ob_eq (s : PySem.W.SharedT) : ob s = hk.obs s.abs := He.obsDG_eq (HandSHeadRun.getT_eq s)
def loose0 : List Str := ["LimbError", "InvalidFigure", "InvalidSetting", "JOINTS", "LIMBS", "STRINGS", "LENGTH", "FLOOR", "is_whole", "is_tuple_of", "fits_limb", "fits_figure", "need_figure", "fits_setting", "need_setting", "fits_depths"]
def loose1 : List Str := ["need_set", "table_of", "keeps_limbs", "keeps_strings", "is_stance", "pose_by", "pose_in", "pose", "_law_cup", "_law_roll", "_law_some", "_law_same", "_law_figure", "_law_setting", "_law_pose", "_law_deeper"]
def loose2 : List Str := ["__name__"]
def loose : List Str := loose0 ++ loose1 ++ loose2
theorem run (w : World) : HandSHeadRun.RunEq R (PySem.W.view R.prog [36]) hk ob 4000 loose w := by
  intro os
  kernel_rfl
section
variable {P : Program} {w : World} {K : PySem.W.Frag} {h base : Heap} {mg : Str → Option Value}
theorem at_is_whole (X : K.In h) (G : h.Ns mainGlobals mg) (c : He.SaysD fa fn K) : ∃ fd, AtD K mg "is_whole" (top 10) (He.ga K "is_whole") fd ["value", "least", "most"] := by
  obtain ⟨fd, F⟩ := c.def_ 0 (d := d_is_whole) rfl
  exact ⟨fd, He.glo_ok X G (c.fact 0 (f := .glo "is_whole") rfl), F, FunD.bindsN F fun _ _ _ _ _ _ us hl => match us, hl with | [_, _, _], _ => rfl⟩
theorem at_is_tuple_of (X : K.In h) (G : h.Ns mainGlobals mg) (c : He.SaysD fa fn K) : ∃ fd, AtD K mg "is_tuple_of" (top 11) (He.ga K "is_tuple_of") fd ["value", "least", "most"] := by
  obtain ⟨fd, F⟩ := c.def_ 1 (d := d_is_tuple_of) rfl
  exact ⟨fd, He.glo_ok X G (c.fact 1 (f := .glo "is_tuple_of") rfl), F, FunD.bindsN F fun _ _ _ _ _ _ us hl => match us, hl with | [_, _, _], _ => rfl⟩
theorem at_fits_limb (X : K.In h) (G : h.Ns mainGlobals mg) (c : He.SaysD fa fn K) : ∃ fd, AtD K mg "fits_limb" (top 12) (He.ga K "fits_limb") fd ["joints", "value"] := by
  obtain ⟨fd, F⟩ := c.def_ 2 (d := d_fits_limb) rfl
  exact ⟨fd, He.glo_ok X G (c.fact 2 (f := .glo "fits_limb") rfl), F, FunD.bindsN F fun _ _ _ _ _ _ us hl => match us, hl with | [_, _], _ => rfl⟩
theorem at_fits_figure (X : K.In h) (G : h.Ns mainGlobals mg) (c : He.SaysD fa fn K) : ∃ fd, AtD K mg "fits_figure" (top 13) (He.ga K "fits_figure") fd ["value"] := by
  obtain ⟨fd, F⟩ := c.def_ 3 (d := d_fits_figure) rfl
  exact ⟨fd, He.glo_ok X G (c.fact 3 (f := .glo "fits_figure") rfl), F, FunD.bindsN F fun _ _ _ _ _ _ us hl => match us, hl with | [_], _ => rfl⟩
theorem at_need_figure (X : K.In h) (G : h.Ns mainGlobals mg) (c : He.SaysD fa fn K) : ∃ fd, AtD K mg "need_figure" (top 14) (He.ga K "need_figure") fd ["figure"] := by
  obtain ⟨fd, F⟩ := c.def_ 4 (d := d_need_figure) rfl
  exact ⟨fd, He.glo_ok X G (c.fact 4 (f := .glo "need_figure") rfl), F, FunD.bindsN F fun _ _ _ _ _ _ us hl => match us, hl with | [_], _ => rfl⟩
theorem at_fits_setting (X : K.In h) (G : h.Ns mainGlobals mg) (c : He.SaysD fa fn K) : ∃ fd, AtD K mg "fits_setting" (top 15) (He.ga K "fits_setting") fd ["figure", "value"] := by
  obtain ⟨fd, F⟩ := c.def_ 5 (d := d_fits_setting) rfl
  exact ⟨fd, He.glo_ok X G (c.fact 5 (f := .glo "fits_setting") rfl), F, FunD.bindsN F fun _ _ _ _ _ _ us hl => match us, hl with | [_, _], _ => rfl⟩
theorem at_need_setting (X : K.In h) (G : h.Ns mainGlobals mg) (c : He.SaysD fa fn K) : ∃ fd, AtD K mg "need_setting" (top 16) (He.ga K "need_setting") fd ["figure", "setting"] := by
  obtain ⟨fd, F⟩ := c.def_ 6 (d := d_need_setting) rfl
  exact ⟨fd, He.glo_ok X G (c.fact 6 (f := .glo "need_setting") rfl), F, FunD.bindsN F fun _ _ _ _ _ _ us hl => match us, hl with | [_, _], _ => rfl⟩
theorem at_fits_depths (X : K.In h) (G : h.Ns mainGlobals mg) (c : He.SaysD fa fn K) : ∃ fd, AtD K mg "fits_depths" (top 17) (He.ga K "fits_depths") fd ["figure", "value"] := by
  obtain ⟨fd, F⟩ := c.def_ 7 (d := d_fits_depths) rfl
  exact ⟨fd, He.glo_ok X G (c.fact 7 (f := .glo "fits_depths") rfl), F, FunD.bindsN F fun _ _ _ _ _ _ us hl => match us, hl with | [_, _], _ => rfl⟩
theorem at_need_set (X : K.In h) (G : h.Ns mainGlobals mg) (c : He.SaysD fa fn K) : ∃ fd, AtD K mg "need_set" (top 18) (He.ga K "need_set") fd ["figure", "setting"] := by
  obtain ⟨fd, F⟩ := c.def_ 8 (d := d_need_set) rfl
  exact ⟨fd, He.glo_ok X G (c.fact 8 (f := .glo "need_set") rfl), F, FunD.bindsN F fun _ _ _ _ _ _ us hl => match us, hl with | [_, _], _ => rfl⟩
theorem at_table_of (X : K.In h) (G : h.Ns mainGlobals mg) (c : He.SaysD fa fn K) : ∃ fd, AtD K mg "table_of" (top 19) (He.ga K "table_of") fd ["figure"] := by
  obtain ⟨fd, F⟩ := c.def_ 9 (d := d_table_of) rfl
  exact ⟨fd, He.glo_ok X G (c.fact 9 (f := .glo "table_of") rfl), F, FunD.bindsN F fun _ _ _ _ _ _ us hl => match us, hl with | [_], _ => rfl⟩
theorem at_keeps_limbs (X : K.In h) (G : h.Ns mainGlobals mg) (c : He.SaysD fa fn K) : ∃ fd, AtD K mg "keeps_limbs" (top 20) (He.ga K "keeps_limbs") fd ["figure", "depths"] := by
  obtain ⟨fd, F⟩ := c.def_ 10 (d := d_keeps_limbs) rfl
  exact ⟨fd, He.glo_ok X G (c.fact 10 (f := .glo "keeps_limbs") rfl), F, FunD.bindsN F fun _ _ _ _ _ _ us hl => match us, hl with | [_, _], _ => rfl⟩
theorem at_keeps_strings (X : K.In h) (G : h.Ns mainGlobals mg) (c : He.SaysD fa fn K) : ∃ fd, AtD K mg "keeps_strings" (top 21) (He.ga K "keeps_strings") fd ["figure", "setting", "depths"] := by
  obtain ⟨fd, F⟩ := c.def_ 11 (d := d_keeps_strings) rfl
  exact ⟨fd, He.glo_ok X G (c.fact 11 (f := .glo "keeps_strings") rfl), F, FunD.bindsN F fun _ _ _ _ _ _ us hl => match us, hl with | [_, _, _], _ => rfl⟩
theorem at_is_stance (X : K.In h) (G : h.Ns mainGlobals mg) (c : He.SaysD fa fn K) : ∃ fd, AtD K mg "is_stance" (top 22) (He.ga K "is_stance") fd ["figure", "setting", "value"] := by
  obtain ⟨fd, F⟩ := c.def_ 12 (d := d_is_stance) rfl
  exact ⟨fd, He.glo_ok X G (c.fact 12 (f := .glo "is_stance") rfl), F, FunD.bindsN F fun _ _ _ _ _ _ us hl => match us, hl with | [_, _, _], _ => rfl⟩
theorem at_pose_by (X : K.In h) (G : h.Ns mainGlobals mg) (c : He.SaysD fa fn K) : ∃ fd, AtD K mg "pose_by" (top 24) (He.ga K "pose_by") fd ["figure", "setting", "rows"] := by
  obtain ⟨fd, F⟩ := c.def_ 13 (d := d_pose_by) rfl
  exact ⟨fd, He.glo_ok X G (c.fact 13 (f := .glo "pose_by") rfl), F, FunD.bindsN F fun _ _ _ _ _ _ us hl => match us, hl with | [_, _, _], _ => rfl⟩
theorem at_pose_in (X : K.In h) (G : h.Ns mainGlobals mg) (c : He.SaysD fa fn K) : ∃ fd, AtD K mg "pose_in" (top 25) (He.ga K "pose_in") fd ["figure", "setting"] := by
  obtain ⟨fd, F⟩ := c.def_ 14 (d := d_pose_in) rfl
  exact ⟨fd, He.glo_ok X G (c.fact 14 (f := .glo "pose_in") rfl), F, FunD.bindsN F fun _ _ _ _ _ _ us hl => match us, hl with | [_, _], _ => rfl⟩
theorem at_pose (X : K.In h) (G : h.Ns mainGlobals mg) (c : He.SaysD fa fn K) : ∃ fd, AtD K mg "pose" (top 26) (He.ga K "pose") fd ["figure", "setting"] := by
  obtain ⟨fd, F⟩ := c.def_ 15 (d := d_pose) rfl
  exact ⟨fd, He.glo_ok X G (c.fact 15 (f := .glo "pose") rfl), F, FunD.bindsN F fun _ _ _ _ _ _ us hl => match us, hl with | [_, _], _ => rfl⟩
theorem at_law_cup (X : K.In h) (G : h.Ns mainGlobals mg) (c : He.SaysD fa fn K) : ∃ fd, AtD K mg "_law_cup" (top 28) (He.ga K "_law_cup") fd ["script"] := by
  obtain ⟨fd, F⟩ := c.def_ 16 (d := d_law_cup) rfl
  exact ⟨fd, He.glo_ok X G (c.fact 16 (f := .glo "_law_cup") rfl), F, FunD.bindsN F fun _ _ _ _ _ _ us hl => match us, hl with | [_], _ => rfl⟩
theorem at_law_roll (X : K.In h) (G : h.Ns mainGlobals mg) (c : He.SaysD fa fn K) : ∃ fd, AtD K mg "_law_roll" (top 29) (He.ga K "_law_roll") fd ["cup", "many"] := by
  obtain ⟨fd, F⟩ := c.def_ 17 (d := d_law_roll) rfl
  exact ⟨fd, He.glo_ok X G (c.fact 17 (f := .glo "_law_roll") rfl), F, FunD.bindsN F fun _ _ _ _ _ _ us hl => match us, hl with | [_, _], _ => rfl⟩
theorem at_law_some (X : K.In h) (G : h.Ns mainGlobals mg) (c : He.SaysD fa fn K) : ∃ fd, AtD K mg "_law_some" (top 30) (He.ga K "_law_some") fd ["cup", "things"] := by
  obtain ⟨fd, F⟩ := c.def_ 18 (d := d_law_some) rfl
  exact ⟨fd, He.glo_ok X G (c.fact 18 (f := .glo "_law_some") rfl), F, FunD.bindsN F fun _ _ _ _ _ _ us hl => match us, hl with | [_, _], _ => rfl⟩
theorem at_law_same (X : K.In h) (G : h.Ns mainGlobals mg) (c : He.SaysD fa fn K) : ∃ fd, AtD K mg "_law_same" (top 31) (He.ga K "_law_same") fd ["told", "due"] := by
  obtain ⟨fd, F⟩ := c.def_ 19 (d := d_law_same) rfl
  exact ⟨fd, He.glo_ok X G (c.fact 19 (f := .glo "_law_same") rfl), F, FunD.bindsN F fun _ _ _ _ _ _ us hl => match us, hl with | [_, _], _ => rfl⟩
theorem at_law_figure (X : K.In h) (G : h.Ns mainGlobals mg) (c : He.SaysD fa fn K) : ∃ fd, AtD K mg "_law_figure" (top 32) (He.ga K "_law_figure") fd ["cup", "most", "strings"] := by
  obtain ⟨fd, F⟩ := c.def_ 20 (d := d_law_figure) rfl
  exact ⟨fd, He.glo_ok X G (c.fact 20 (f := .glo "_law_figure") rfl), F, FunD.bindsN F fun _ _ _ _ _ _ us hl => match us, hl with | [_, _, _], _ => rfl⟩
theorem at_law_setting (X : K.In h) (G : h.Ns mainGlobals mg) (c : He.SaysD fa fn K) : ∃ fd, AtD K mg "_law_setting" (top 33) (He.ga K "_law_setting") fd ["cup", "figure"] := by
  obtain ⟨fd, F⟩ := c.def_ 21 (d := d_law_setting) rfl
  exact ⟨fd, He.glo_ok X G (c.fact 21 (f := .glo "_law_setting") rfl), F, FunD.bindsN F fun _ _ _ _ _ _ us hl => match us, hl with | [_, _], _ => rfl⟩
theorem at_law_pose (X : K.In h) (G : h.Ns mainGlobals mg) (c : He.SaysD fa fn K) : ∃ fd, AtD K mg "_law_pose" (top 34) (He.ga K "_law_pose") fd ["figure", "setting"] := by
  obtain ⟨fd, F⟩ := c.def_ 22 (d := d_law_pose) rfl
  exact ⟨fd, He.glo_ok X G (c.fact 22 (f := .glo "_law_pose") rfl), F, FunD.bindsN F fun _ _ _ _ _ _ us hl => match us, hl with | [_, _], _ => rfl⟩
theorem at_law_deeper (X : K.In h) (G : h.Ns mainGlobals mg) (c : He.SaysD fa fn K) : ∃ fd, AtD K mg "_law_deeper" (top 35) (He.ga K "_law_deeper") fd ["figure", "depths", "at"] := by
  obtain ⟨fd, F⟩ := c.def_ 23 (d := d_law_deeper) rfl
  exact ⟨fd, He.glo_ok X G (c.fact 23 (f := .glo "_law_deeper") rfl), F, FunD.bindsN F fun _ _ _ _ _ _ us hl => match us, hl with | [_, _, _], _ => rfl⟩
theorem at_law (X : K.In h) (G : h.Ns mainGlobals mg) (c : He.SaysD fa fn K) : ∃ fd, AtD K mg "law" (top 36) (He.ga K "law") fd ["script"] := by
  obtain ⟨fd, F⟩ := c.def_ 24 (d := d_law) rfl
  exact ⟨fd, He.glo_ok X G (c.fact 24 (f := .glo "law") rfl), F, FunD.bindsN F fun _ _ _ _ _ _ us hl => match us, hl with | [_], _ => rfl⟩
theorem df_is_whole (X : K.In h) (G : h.Ns mainGlobals mg) (c : He.SaysD fa fn K) : DfQ P w K mg base 1 "is_whole" 3 false S_is_whole :=
  dq_ok (at_is_whole X G c).choose_spec sc_is_whole (fun h => by cases h) df_nil (bt_of X G c fun y hy => List.mem_append_right _ (List.mem_map.mpr ⟨y, hy, rfl⟩)) cn_nil ck_is_whole
theorem df_is_tuple_of (X : K.In h) (G : h.Ns mainGlobals mg) (c : He.SaysD fa fn K) : DfQ P w K mg base 1 "is_tuple_of" 3 false S_is_tuple_of :=
  dq_ok (at_is_tuple_of X G c).choose_spec sc_is_tuple_of (fun h => by cases h) df_nil (bt_of X G c fun y hy => List.mem_append_right _ (List.mem_map.mpr ⟨y, hy, rfl⟩)) cn_nil ck_is_tuple_of
theorem df_fits_limb (X : K.In h) (G : h.Ns mainGlobals mg) (c : He.SaysD fa fn K) : DfQ P w K mg base 2 "fits_limb" 2 false S_fits_limb :=
  dq_ok (at_fits_limb X G c).choose_spec sc_fits_limb (fun h => by cases h) (df_cons ((df_is_whole X G c).mono (by decide)) (df_cons ((df_is_tuple_of X G c).mono (by decide)) df_nil)) (bt_of X G c fun y hy => List.mem_append_right _ (List.mem_map.mpr ⟨y, hy, rfl⟩)) (cn_cons (He.int_ok X G (factM c (f := .int "LENGTH" 9) (by simp [fa]))) cn_nil) ck_fits_limb
theorem df_fits_figure (X : K.In h) (G : h.Ns mainGlobals mg) (c : He.SaysD fa fn K) : DfQ P w K mg base 3 "fits_figure" 1 false S_fits_figure :=
  dq_ok (at_fits_figure X G c).choose_spec sc_fits_figure (fun h => by cases h) (df_cons ((df_is_whole X G c).mono (by decide)) (df_cons ((df_is_tuple_of X G c).mono (by decide)) (df_cons ((df_fits_limb X G c).mono (by decide)) df_nil))) (bt_of X G c fun y hy => List.mem_append_right _ (List.mem_map.mpr ⟨y, hy, rfl⟩)) (cn_cons (He.int_ok X G (factM c (f := .int "FLOOR" 30) (by simp [fa]))) (cn_cons (He.int_ok X G (factM c (f := .int "JOINTS" 8) (by simp [fa]))) (cn_cons (He.int_ok X G (factM c (f := .int "LIMBS" 12) (by simp [fa]))) (cn_cons (He.int_ok X G (factM c (f := .int "STRINGS" 6) (by simp [fa]))) cn_nil)))) ck_fits_figure
theorem df_need_figure (X : K.In h) (G : h.Ns mainGlobals mg) (c : He.SaysD fa fn K) : DfQ P w K mg base 4 "need_figure" 1 false S_need_figure :=
  dq_ok (at_need_figure X G c).choose_spec sc_need_figure (fun h => by cases h) (df_cons ((df_fits_figure X G c).mono (by decide)) df_nil) (bt_of X G c fun y hy => List.mem_append_right _ (List.mem_map.mpr ⟨y, hy, rfl⟩)) cn_nil ck_need_figure
theorem df_fits_setting (X : K.In h) (G : h.Ns mainGlobals mg) (c : He.SaysD fa fn K) : DfQ P w K mg base 2 "fits_setting" 2 false S_fits_setting :=
  dq_ok (at_fits_setting X G c).choose_spec sc_fits_setting (fun h => by cases h) (df_cons ((df_is_whole X G c).mono (by decide)) (df_cons ((df_is_tuple_of X G c).mono (by decide)) df_nil)) (bt_of X G c fun y hy => List.mem_append_right _ (List.mem_map.mpr ⟨y, hy, rfl⟩)) cn_nil ck_fits_setting
theorem df_need_setting (X : K.In h) (G : h.Ns mainGlobals mg) (c : He.SaysD fa fn K) : DfQ P w K mg base 3 "need_setting" 2 false S_need_setting :=
  dq_ok (at_need_setting X G c).choose_spec sc_need_setting (fun h => by cases h) (df_cons ((df_fits_setting X G c).mono (by decide)) df_nil) (bt_of X G c fun y hy => List.mem_append_right _ (List.mem_map.mpr ⟨y, hy, rfl⟩)) cn_nil ck_need_setting
theorem df_fits_depths (X : K.In h) (G : h.Ns mainGlobals mg) (c : He.SaysD fa fn K) : DfQ P w K mg base 2 "fits_depths" 2 false S_fits_depths :=
  dq_ok (at_fits_depths X G c).choose_spec sc_fits_depths (fun h => by cases h) (df_cons ((df_is_whole X G c).mono (by decide)) (df_cons ((df_is_tuple_of X G c).mono (by decide)) df_nil)) (bt_of X G c fun y hy => List.mem_append_right _ (List.mem_map.mpr ⟨y, hy, rfl⟩)) cn_nil ck_fits_depths
theorem df_need_set (X : K.In h) (G : h.Ns mainGlobals mg) (c : He.SaysD fa fn K) : DfQ P w K mg base 5 "need_set" 2 false S_need_set :=
  dq_ok (at_need_set X G c).choose_spec sc_need_set (fun h => by cases h) (df_cons ((df_need_figure X G c).mono (by decide)) (df_cons ((df_need_setting X G c).mono (by decide)) df_nil)) (bt_of X G c fun y hy => List.mem_append_right _ (List.mem_map.mpr ⟨y, hy, rfl⟩)) cn_nil ck_need_set
theorem df_table_of (X : K.In h) (G : h.Ns mainGlobals mg) (c : He.SaysD fa fn K) : DfQ P w K mg base 1 "table_of" 1 false S_table_of :=
  dq_ok (at_table_of X G c).choose_spec sc_table_of (fun h => by cases h) df_nil (bt_of X G c fun y hy => List.mem_append_right _ (List.mem_map.mpr ⟨y, hy, rfl⟩)) cn_nil ck_table_of
theorem df_keeps_limbs (X : K.In h) (G : h.Ns mainGlobals mg) (c : He.SaysD fa fn K) : DfQ P w K mg base 1 "keeps_limbs" 2 false S_keeps_limbs :=
  dq_ok (at_keeps_limbs X G c).choose_spec sc_keeps_limbs (fun h => by cases h) df_nil (bt_of X G c fun y hy => List.mem_append_right _ (List.mem_map.mpr ⟨y, hy, rfl⟩)) cn_nil ck_keeps_limbs
theorem df_keeps_strings (X : K.In h) (G : h.Ns mainGlobals mg) (c : He.SaysD fa fn K) : DfQ P w K mg base 1 "keeps_strings" 3 false S_keeps_strings :=
  dq_ok (at_keeps_strings X G c).choose_spec sc_keeps_strings (fun h => by cases h) df_nil (bt_of X G c fun y hy => List.mem_append_right _ (List.mem_map.mpr ⟨y, hy, rfl⟩)) cn_nil ck_keeps_strings
theorem df_is_stance (X : K.In h) (G : h.Ns mainGlobals mg) (c : He.SaysD fa fn K) : DfQ P w K mg base 6 "is_stance" 3 false S_is_stance :=
  dq_ok (at_is_stance X G c).choose_spec sc_is_stance (fun h => by cases h) (df_cons ((df_need_set X G c).mono (by decide)) (df_cons ((df_keeps_strings X G c).mono (by decide)) (df_cons ((df_keeps_limbs X G c).mono (by decide)) (df_cons ((df_fits_depths X G c).mono (by decide)) df_nil)))) (bt_of X G c fun y hy => List.mem_append_right _ (List.mem_map.mpr ⟨y, hy, rfl⟩)) cn_nil ck_is_stance
theorem df_pose_by (X : K.In h) (G : h.Ns mainGlobals mg) (c : He.SaysD fa fn K) : DfQ P w K mg base 1 "pose_by" 3 false S_pose_by :=
  dq_ok (at_pose_by X G c).choose_spec sc_pose_by (fun h => by cases h) df_nil (bt_of X G c fun y hy => List.mem_append_right _ (List.mem_map.mpr ⟨y, hy, rfl⟩)) cn_nil ck_pose_by
theorem df_pose_in (X : K.In h) (G : h.Ns mainGlobals mg) (c : He.SaysD fa fn K) : DfQ P w K mg base 2 "pose_in" 2 false S_pose_in :=
  dq_ok (at_pose_in X G c).choose_spec sc_pose_in (fun h => by cases h) (df_cons ((df_pose_by X G c).mono (by decide)) (df_cons ((df_table_of X G c).mono (by decide)) df_nil)) (bt_of X G c fun y hy => List.mem_append_right _ (List.mem_map.mpr ⟨y, hy, rfl⟩)) cn_nil ck_pose_in
theorem df_pose (X : K.In h) (G : h.Ns mainGlobals mg) (c : He.SaysD fa fn K) : DfQ P w K mg base 6 "pose" 2 false S_pose :=
  dq_ok (at_pose X G c).choose_spec sc_pose (fun h => by cases h) (df_cons ((df_need_set X G c).mono (by decide)) (df_cons ((df_pose_in X G c).mono (by decide)) df_nil)) (bt_of X G c fun y hy => List.mem_append_right _ (List.mem_map.mpr ⟨y, hy, rfl⟩)) cn_nil ck_pose
theorem df_law_cup (X : K.In h) (G : h.Ns mainGlobals mg) (c : He.SaysD fa fn K) : DfQ P w K mg base 1 "_law_cup" 1 false S_law_cup :=
  dq_ok (at_law_cup X G c).choose_spec sc_law_cup (fun h => by cases h) df_nil (bt_of X G c fun y hy => List.mem_append_right _ (List.mem_map.mpr ⟨y, hy, rfl⟩)) cn_nil ck_law_cup
theorem df_law_roll (X : K.In h) (G : h.Ns mainGlobals mg) (c : He.SaysD fa fn K) : DfQ P w K mg base 1 "_law_roll" 2 true S_law_roll :=
  dq_ok (at_law_roll X G c).choose_spec sc_law_roll (fun _ z => by cases z) df_nil (bt_of X G c fun y hy => List.mem_append_right _ (List.mem_map.mpr ⟨y, hy, rfl⟩)) cn_nil ck_law_roll
theorem df_law_some (X : K.In h) (G : h.Ns mainGlobals mg) (c : He.SaysD fa fn K) : DfQ P w K mg base 2 "_law_some" 2 true S_law_some :=
  dq_ok (at_law_some X G c).choose_spec sc_law_some (fun _ z => by cases z) (df_cons ((df_law_roll X G c).mono (by decide)) df_nil) (bt_of X G c fun y hy => List.mem_append_right _ (List.mem_map.mpr ⟨y, hy, rfl⟩)) cn_nil ck_law_some
theorem dr_law_same (X : K.In h) (G : h.Ns mainGlobals mg) (c : He.SaysD fa fn K) : ∀ m, m ≤ 8 → DfQ P w K mg base (0 + m) "_law_same" 2 false (R_law_same m)
  | 0, _ => dq_zero (at_law_same X G c).choose_spec
  | m + 1, hm => dq_ok (at_law_same X G c).choose_spec sc_law_same (fun h => by cases h) ((df_cons (dr_law_same X G c m (by omega)) df_nil)) (bt_of X G c fun y hy => List.mem_append_right _ (List.mem_map.mpr ⟨y, hy, rfl⟩)) cn_nil ck_law_same
theorem df_law_same (X : K.In h) (G : h.Ns mainGlobals mg) (c : He.SaysD fa fn K) : DfQ P w K mg base 8 "_law_same" 2 false S_law_same := dr_law_same X G c 8 (by decide)
theorem df_law_figure (X : K.In h) (G : h.Ns mainGlobals mg) (c : He.SaysD fa fn K) : DfQ P w K mg base 3 "_law_figure" 3 true S_law_figure :=
  dq_ok (at_law_figure X G c).choose_spec sc_law_figure (fun _ z => by cases z) (df_cons ((df_law_roll X G c).mono (by decide)) (df_cons ((df_law_some X G c).mono (by decide)) df_nil)) (bt_of X G c fun y hy => List.mem_append_right _ (List.mem_map.mpr ⟨y, hy, rfl⟩)) cn_nil ck_law_figure
theorem df_law_setting (X : K.In h) (G : h.Ns mainGlobals mg) (c : He.SaysD fa fn K) : DfQ P w K mg base 3 "_law_setting" 2 true S_law_setting :=
  dq_ok (at_law_setting X G c).choose_spec sc_law_setting (fun _ z => by cases z) (df_cons ((df_law_some X G c).mono (by decide)) (df_cons ((df_law_roll X G c).mono (by decide)) df_nil)) (bt_of X G c fun y hy => List.mem_append_right _ (List.mem_map.mpr ⟨y, hy, rfl⟩)) cn_nil ck_law_setting
theorem df_law_pose (X : K.In h) (G : h.Ns mainGlobals mg) (c : He.SaysD fa fn K) : DfQ P w K mg base 1 "_law_pose" 2 false S_law_pose :=
  dq_ok (at_law_pose X G c).choose_spec sc_law_pose (fun h => by cases h) df_nil (bt_of X G c fun y hy => List.mem_append_right _ (List.mem_map.mpr ⟨y, hy, rfl⟩)) cn_nil ck_law_pose
theorem df_law_deeper (X : K.In h) (G : h.Ns mainGlobals mg) (c : He.SaysD fa fn K) : DfQ P w K mg base 1 "_law_deeper" 3 false S_law_deeper :=
  dq_ok (at_law_deeper X G c).choose_spec sc_law_deeper (fun h => by cases h) df_nil (bt_of X G c fun y hy => List.mem_append_right _ (List.mem_map.mpr ⟨y, hy, rfl⟩)) cn_nil ck_law_deeper
theorem df_law (X : K.In h) (G : h.Ns mainGlobals mg) (c : He.SaysD fa fn K) : DfQ P w K mg base 9 "law" 1 false S_law :=
  dq_ok (at_law X G c).choose_spec sc_law (fun h => by cases h) (df_cons ((df_law_cup X G c).mono (by decide)) (df_cons ((df_law_figure X G c).mono (by decide)) (df_cons ((df_law_setting X G c).mono (by decide)) (df_cons ((df_law_pose X G c).mono (by decide)) (df_cons ((df_is_stance X G c).mono (by decide)) (df_cons ((df_law_same X G c).mono (by decide)) (df_cons ((df_pose X G c).mono (by decide)) (df_cons ((df_law_roll X G c).mono (by decide)) (df_cons ((df_law_deeper X G c).mono (by decide)) (df_cons ((df_law_some X G c).mono (by decide)) df_nil)))))))))) (bt_of X G c fun y hy => List.mem_append_right _ (List.mem_map.mpr ⟨y, hy, rfl⟩)) cn_nil ck_law
theorem fk_law (X : K.In h) (G : h.Ns mainGlobals mg) (c : He.SaysD fa fn K) {f : Addr} {fd : FuncData} (F : FunD K "law" "law" (defArgs (top 36)) (defBody (top 36)) (defScope (top 36)) [] [] f fd) : FnOk P w K mg base CX0 9 f fd ["script"] (spF K false 1 S_law) :=
  fn_ok (He5.fun_of F) sc_law (fun h => by cases h) (df_cons ((df_law_cup X G c).mono (by decide)) (df_cons ((df_law_figure X G c).mono (by decide)) (df_cons ((df_law_setting X G c).mono (by decide)) (df_cons ((df_law_pose X G c).mono (by decide)) (df_cons ((df_is_stance X G c).mono (by decide)) (df_cons ((df_law_same X G c).mono (by decide)) (df_cons ((df_pose X G c).mono (by decide)) (df_cons ((df_law_roll X G c).mono (by decide)) (df_cons ((df_law_deeper X G c).mono (by decide)) (df_cons ((df_law_some X G c).mono (by decide)) df_nil)))))))))) (bt_of X G c fun y hy => List.mem_append_right _ (List.mem_map.mpr ⟨y, hy, rfl⟩)) cn_nil ck_law
end
end K04
open PySem PySem.W PySem.Calls PyProof.Rows
theorem PySem.Challenge.cw_strunglimbs_k04_whole_poses_holds : PySem.Challenge.rw_strunglimbs_k04_whole_poses.Holds := by
  w_on; o_law
  refine HandSHeadRun.head_any (r := OpenLaw.row PySem.Challenge.rw_strunglimbs_k04_whole_poses) (q := view (OpenLaw.row PySem.Challenge.rw_strunglimbs_k04_whole_poses).prog [36]) (H := K04.hk) (ob := K04.ob) (M := 4000) (loose := K04.loose) (d := HandSHeadRun.topDef (OpenLaw.row PySem.Challenge.rw_strunglimbs_k04_whole_poses).prog 36) (kwd := []) K04.ob_eq
    (by kernel_rfl) (fun s => by kernel_rfl) K04.run (by kernel_rfl) (by kernel_rfl) (by kernel_rfl) (by rfl) (by first | assumption | decide +kernel) (by decide +kernel) ⟨rfl, rfl, rfl, rfl, rfl, by decide +kernel⟩ ?hw ?hc
  case hw => w_witness2
  case hc =>
    refine L2.walk_ofE (l := PySem.Challenge.rw_strunglimbs_k04_whole_poses) (n := 63) (k := 9) (x := "script") (CX := L2.CX0) rfl (by decide) (by kernel_rfl) ⟨rfl, by decide, by decide⟩ ?F (fun _ _ _ _ z => z)
    intro w mg fa h Y G hmg0
    obtain ⟨K, KX, c⟩ := Y
    have hmg : mg ("law" : PySem.Str) = some (.ref fa) := by
      have e : (HandSHeadRun.topDef (OpenLaw.row PySem.Challenge.rw_strunglimbs_k04_whole_poses).prog 36).name = ("law" : PySem.Str) := by kernel_rfl
      rw [← e]
      exact hmg0
    obtain ⟨fd, F⟩ := c.def_ 24 (d := K04.d_law) rfl
    have e := hmg.symm.trans (He.glo_ok KX G (c.fact 24 (f := .glo "law") rfl))
    cases e
    have b := L2.FunD.bindsA (ps := ["script"]) F fun _ _ _ _ _ _ us hl => match us, hl with | [_], _ => rfl
    refine ⟨K, fd, DI.spF K false 1 K04.S_law, KX, fun s v => b s [v] rfl, fun H a ns hl _ hS => ?_, fun base _ _ => ?_⟩
    · obtain ⟨x, hx⟩ := K04.law_true ns hl
      exact DI.law_end hS hl (k := 0) hx fun v H e => e
    · exact K04.fk_law KX G c F


