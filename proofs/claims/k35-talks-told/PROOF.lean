import PyProof.Rows.All
import HandS.TupMul
import HandS.SetFor
import HandS.Strs
import HandS.Deep
import HandS.ForMost
import HandS.Conv
import HandS.TupAny
import HandS.Zip
import HandS.SortInts
import HandS.Text
import PyProof.ReprReads
import KE.SortData
import PyProof.MaxThree
import PyProof.ReprRoads
import PyProof.CallFns
import HandS.IsInst
import HandS.ReCall
import HandS.Style
import HandS.Head0
import HandS.Head1
import HandS.Head2
import HandS.HeadEnd
import HandS.HeadHook1
import HandS.HeadHook2
import HandS.HeadHook4
import HandS.HeadNt
import PyProof.ReprLen
import PySem.Challenge.RW_wishgames_k35_talks_told_and_led
set_option Elab.async false
set_option linter.all false
set_option maxRecDepth 100000
set_option maxHeartbeats 4000000
/-! DL0: rules that the hand layer lacks: t * k told, t.index by data, set(t) of ints. -/
namespace DL
open PySem PySem.Spec PyProof.Rows L2
section
variable {X : Cx}
theorem tup_mul1 (l : Addr) (its : Array Value) (n : Nat) (dd : Option Addr) (sl : Array (Option Value)) (u : Tok) :
    Meets (Builtin.«tuple.__mul__» ⟨[.ref l, .int 1 u], []⟩) (fun _ R s => s.heap.get? l = some { cls := .type "tuple", dict := dd, data := .seq its n, slots := sl } ∧ R (.ok (.ret (.ref l))) s) := .of_wp fun prog w A R s h => by
  obtain ⟨hp, g, d, tk, os⟩ := s
  obtain ⟨hl, h⟩ := h
  have f1 := AutoSeq1.idx_int
  wp_walk using wpAny_loadPart' hl
  exact ⟨_, rfl, h⟩
/-- t * k with k from 1 on: what is made is told -/
theorem op_repF : OpR X (binaryOp .Mult) (fun x y H Q => ∃ a k xs, x = .ref a ∧ y = .int k ∧ SqT X.K H a xs ∧ xs ≠ [] ∧ 1 ≤ k ∧ k ≤ 1000 ∧ xs.length ≤ 1000 ∧ (k = 1 → Q (.ref a) H) ∧
    ∀ p o, H p = none → o.dict = none → Q (.ref p) (upd H p (.frz o (.tup (List.replicate k.toNat xs).flatten)))) := by
  intro pins s σ H x y v u Q I rx ry hh
  obtain ⟨a, k, xs, rfl, rfl, ht, hne, k1, k2, hxl, q1, q2⟩ := hh
  cases rx
  obtain ⟨tk, rfl⟩ := ry
  obtain ⟨us, ru, ⟨⟨cl0, d0, dt0, s0⟩, hget, hcl, m, hdt⟩, _⟩ := I.tuple ht
  dsimp only at hcl hdt
  subst hcl hdt
  have hlen : us.length = xs.length := ru.length.symm
  have hpos : 0 < us.length := by rw [hlen]; exact List.length_pos_iff.mpr hne
  by_cases e1 : k = 1
  · subst e1
    exact wpAny_binaryOp_repeat_ref (T := "tuple") (U := "int") (by decide) ⟨_, hget, rfl⟩ (fun z => typeIs_int z 1 tk) noFill_tuple_mul F.fills_int_mul F.slot_int_rmul repeat_tuple F.slot_int_index.lookup
      (call_meets F.slot_int_rmul (typeIs_int s 1 tk) F.entry_int_rmul (F.args_int_rmul_2 _ _) (int_rmul_tuple 1 tk a us.toArray m d0 s0)
        ⟨hget, rfl, ⟨_, hget, rfl⟩, call_meets F.slot_tuple_mul ⟨_, hget, rfl⟩ F.entry_tuple_mul (F.args_tuple_mul_2 _ _) (tup_mul1 a us.toArray m d0 s0 tk) ⟨hget, .ref a, H, I, rfl, q1 rfl⟩⟩)
  · have hflat : (List.replicate k.toNat us).flatten.length ≤ 1000000 := by
      rw [PyProof.Rows.lm_len_rep_flat, hlen]
      have := Nat.mul_le_mul (show k.toNat ≤ 1000 by omega) hxl
      omega
    have hflat2 : (List.replicate k.toNat xs).flatten.length ≤ sizeLine := by
      rw [PyProof.Rows.lm_len_rep_flat] at hflat ⊢
      rw [sizeLine_eq, ← hlen]
      omega
    have hprod : ((us.toArray.size : Nat) : Int) * k ≤ 1000000 := by
      rw [List.size_toArray]
      exact Int.le_trans (Int.mul_le_mul_of_nonneg_right (show ((us.length : Nat) : Int) ≤ 1000 by omega) (by omega)) (by omega)
    have hemp : us.toArray.isEmpty = false := by
      cases us with
      | nil => exact absurd hpos (Nat.lt_irrefl 0)
      | cons z w => rfl
    have g0 : (decide (k < -(2 ^ 63)) || decide (k ≥ 2 ^ 63)) = false := by
      rw [Bool.or_eq_false_iff]
      exact ⟨decide_eq_false (by omega), decide_eq_false (by omega)⟩
    have g1 : (us.toArray.isEmpty || k == 1) = false := by rw [hemp, Bool.false_or, beq_eq_false_iff_ne]; exact e1
    have g2 : (decide (k ≤ 0) || us.toArray.isEmpty) = false := by rw [hemp, Bool.or_false]; exact decide_eq_false (by omega)
    have g4 : Builtin.Tuple.tupleTooMany (((us.toArray.size : Nat) : Int) * k) = false := by
      unfold Builtin.Tuple.tupleTooMany
      exact decide_eq_false (by rw [sizeLine_eq]; omega)
    refine wpAny_binaryOp_repeat_ref (T := "tuple") (U := "int") (by decide) ⟨_, hget, rfl⟩ (fun z => typeIs_int z k tk) noFill_tuple_mul F.fills_int_mul F.slot_int_rmul repeat_tuple F.slot_int_index.lookup
      (call_meets F.slot_int_rmul (typeIs_int s k tk) F.entry_int_rmul (F.args_int_rmul_2 _ _) (int_rmul_tuple k tk a us.toArray m d0 s0)
        ⟨hget, rfl, ⟨_, hget, rfl⟩, call_meets F.slot_tuple_mul ⟨_, hget, rfl⟩ F.entry_tuple_mul (F.args_tuple_mul_2 _ _) (tuple_mulW a us.toArray m d0 s0 k tk g0 g1 g2 (by omega) g4 (by rw [size_rep, List.size_toArray, sizeLine_eq]; omega)) ⟨hget, ?_⟩⟩)
    rw [size_rep]
    refine ⟨.ref s.heap.objs.size, _, I.laid (t' := s.toks) (o := .frz _ (.tup (List.replicate k.toNat xs).flatten)) (fun b ob q => Heap.get?_push_of_some _ q) (Nat.le_refl _) ⟨Heap.get?_push_size _ rfl, ?_⟩, rfl, q2 _ _ (I.hok.fresh (Nat.le_refl _)) rfl⟩
    exact ⟨hflat2, _, ru.rep k.toNat, IsTup.new _ _⟩
/-- t.index(x), by data -/
def rTIndex (K : PySem.W.Frag) : V → List V → Hp → VK → Prop := fun x xs H Q => ∃ (a : Addr) (vs : List V) (y : V) (d : PyData) (ds : List PyData) (j : Nat) (z : PyData), x = V.ref a ∧ xs = [y] ∧ SqT K H a vs ∧ DpAll K H vs ds ∧ Dp K H y d ∧
  SeqAt.shaped (.tuple ds) = true ∧ SeqAt.shaped d = true ∧ ds[j]? = some z ∧ PyData.eqv z d = true ∧ (∀ (m : Nat) (z' : PyData), m < j → ds[m]? = some z' → PyData.eqv z' d = false) ∧ Q (.int (j : Nat)) H
theorem mt_tindexD (hu : X.A.units + 65 < cLine) : MtR X "tuple.index" (rTIndex X.K) := by
  intro pins s σ H x xs v us Q I rx rxs hh
  obtain ⟨a, vs, y, d, ds, j, z, rfl, rfl, ht, ha, hy, sl, sd, hz, hzj, hno, q⟩ := hh
  cases rx
  cases rxs with
  | cons ry rt =>
    rename_i uy ut
    cases rt
    obtain ⟨bs, r1⟩ := Dp.reads I d y uy hy ry
    have hlay : PyData.canLayAll0 ds = true := SeqAt.canLay_of_shaped sl
    obtain ⟨its, rv, ⟨⟨cl0, d0, dt0, s0⟩, hget, hcl, m0, hdt⟩, _⟩ := I.tuple ht
    dsimp only at hcl hdt
    subst hcl hdt
    obtain ⟨as, h4⟩ := Dp.readsAll I ds vs its ha rv
    have hmap : its.map (SeqAt.readOf s.heap) = ds := SeqAt.readsAll_map ds its as hlay h4
    have rd : ∀ (m : Nat) (hm : m < its.toArray.size) (z' : PyData), ds[m]? = some z' → SeqAt.readOf s.heap its.toArray[m] = z' := by
      intro m hm z' hz'
      rw [← hmap, List.getElem?_map, List.getElem?_eq_getElem (show m < its.length by simpa using hm)] at hz'
      simpa using Option.some.inj hz'
    have hj : j < its.toArray.size := by
      have := (List.getElem?_eq_some_iff.mp hz).1
      rw [← hmap, List.length_map] at this
      simpa using this
    refine call_meets PySem.F.slot_tuple_index ⟨_, hget, rfl⟩ PySem.F.entry_tuple_index (PySem.F.args_tuple_index_2 _ _)
      (TI.tuple_indexAt a its.toArray m0 d0 s0 uy (fun u => PyData.eqv (SeqAt.readOf s.heap u) d) j hj ?_ ?_) ⟨hget, SeqAt.items_eqAt (vs := its.toArray) (show ReadsAll s.heap its.toArray.toList ds as from h4) r1 hlay (SeqAt.canLay_of_shaped sd) (room_in_shaped sd hu), .int (j : Nat), H, I.tok _, ⟨_, rfl⟩, q⟩
    · show PyData.eqv (SeqAt.readOf s.heap its.toArray[j]) d = true
      rw [rd j hj z hz]; exact hzj
    · intro m hm hmj
      have hmd : m < ds.length := by rw [← hmap, List.length_map]; simpa using hm
      show PyData.eqv (SeqAt.readOf s.heap its.toArray[m]) d = false
      rw [rd m hm _ (List.getElem?_eq_getElem hmd)]
      exact hno m _ hmj (List.getElem?_eq_getElem hmd)
/-- set(t), t a tuple of ints -/
def rSetTI (K : PySem.W.Frag) (w : World) : List V → Hp → VK → Prop := fun vs H Q => ∃ (a : Addr) (ns : List Int), vs = [.ref a] ∧ SqT K H a (ns.map V.int) ∧ ns.length ≤ 60 ∧
  ∀ p c, H p = none → c ≤ ns.length → Q (.ref p) (upd H p (SetO w p (fun j => decide (j ∈ ns)) c))
theorem cr_setTI (hc : X.calm = true) : CallR X (.type "set") (rSetTI X.K X.w) := by
  intro pins s σ H xs us Q I r hh
  obtain ⟨a, ns, rfl, ht, hn, q⟩ := hh
  rw [Vals.ref1 r]
  obtain ⟨its, rv, pt, _⟩ := I.tuple ht
  refine call_set_tupI ns (I.ok.hd hc) (show s.heap.IsTuple a its.toArray from pt) (ints_of_vals rv) (by unfold scanBound; omega) fun h' tk c R1 hcn k => ?_
  exact ⟨.ref s.heap.objs.size, upd H s.heap.objs.size (SetO X.w s.heap.objs.size (fun j => decide (j ∈ ns)) c), I.laid (t' := tk) k (Nat.le_refl _) (setO_new R1), rfl, q _ c (I.hok.fresh (Nat.le_refl _)) hcn⟩
/-- the object that set() makes -/
abbrev nSet (w : World) : Obj := ⟨.type "set", none, .set #[] 0 (.fresh 0 0 (!w.params.followText "set-order")), #[]⟩
/-- set(l), l a list of ints: what L2 tells of a tuple -/
theorem set_lstI {P : Program} {w : World} {A : Around} {E : Value → Shared → Prop} {s : Shared} {l : Addr} {vs : Array Value} (ns : List Int) {Q : Value → Shared → Prop}
    (h0 : A.handled = none) (h1 : s.heap.IsList l vs) (h2 : PyProof.Rows.IntsAre vs.toList ns) (h3 : ns.length + 1 < scanBound)
    (k : ∀ (h' : Heap) (tk c : Nat), SetR w h' s.heap.objs.size (fun j => decide (j ∈ ns)) c → c ≤ ns.length → (∀ b o, s.heap.get? b = some o → h'.get? b = some o) → Q (.ref s.heap.objs.size) { s with heap := h', toks := tk }) :
    wpAny (model P w) A (call (.type "set") [.ref l]) Q E s := by
  have sz : vs.size = ns.length := by have := PyProof.Rows.IntsAre.length h2; rwa [Array.length_toList] at this
  obtain ⟨c0, tl, m1⟩ := PySem.F.called_set.mro
  have m2 := PySem.F.called_set.made; have m3 := PySem.F.called_set.sub
  refine wpAny_call (codeAny_of_tree ?_); show wpAny _ _ (callAny (.type "set") _) _ _ _
  refine wpAny_pure ⟨Code.quiet_builtin _ (by decide +kernel), codeAny_builtin PySem.F.entry_type_call ?_⟩; rw [Around.under_plain (weight_type_call_type "set" [.ref l] []) rfl]
  have m4 := PySem.F.called_set.notType; have m5 := PySem.F.called_set.canCreate; have m6 := PySem.F.typeCall_set_1 (.ref l)
  repeat any_goals first | assumption | wp_step
  have g0 : (s.heap.push (nSet w)).get? s.heap.objs.size = some (nSet w) := Heap.get?_push_size _ rfl
  refine codeAny_mono (code_set_led1 (.ref l) (E := E) (Q₁ := fun v s1 => v = .ref s.heap.objs.size ∧ s1 = { s with heap := s.heap.push (nSet w) }) ⟨rfl, rfl⟩) fun r s1 hr => ?_
  rcases r with e | fl
  · exact hr
  rcases fl with _ | _ | _ | obj
  all_goals first | exact hr | skip
  obtain ⟨rfl, rfl⟩ := hr
  have tS : Shared.TypeIs { s with heap := s.heap.push (nSet w) } (.ref s.heap.objs.size) "set" := ⟨_, g0, rfl⟩
  have m7 := PySem.F.called_set.init.lookup; have m8 := PySem.F.called_set.init.bind (.ref s.heap.objs.size)
  repeat any_goals first | assumption | wp_step
  refine codeAny_mono (codeAny_call_builtin (R := wants (fun v s2 => v = .none ∧ ∃ h' tk c, s2 = { s with heap := h', toks := tk } ∧ SetR w h' s.heap.objs.size (fun j => decide (j ∈ ns)) c ∧ c ≤ ns.length ∧ ∀ b o, s.heap.get? b = some o → h'.get? b = some o) E)
    PySem.F.called_set.init.plain PySem.F.entry_set_init (check_set_init_1 tS ?run)) fun r2 s2 h2' => ?fin
  case fin =>
    rcases r2 with e | fl2
    · exact h2'
    rcases fl2 with _ | _ | _ | v2
    all_goals first | exact h2'.elim | skip
    obtain ⟨rfl, h', tk, c', rfl, q1, q2, q3⟩ := h2'
    repeat any_goals first | assumption | wp_step
    exact k _ _ _ q1 q2 q3
  case run =>
    obtain ⟨ob, hob, hcl, nl, hdl⟩ := h1
    obtain ⟨oc, od, oda, osl⟩ := ob
    simp only at hcl hdl
    subst hcl; subst hdl
    have lt : l < s.heap.objs.size := Heap.lt_size hob
    have hob2 : (s.heap.push (nSet w)).get? l = some ⟨.type "list", od, .seq vs nl, osl⟩ := Heap.get?_push_of_some _ hob
    have f1 := PySem.F.sub_list_set; have f2 := PySem.F.sub_list_frozenset
    have nd : (Value.type "list" == Value.type "dict") = false := by decide
    have il : (s.heap.push (nSet w)).IsList l vs := ⟨_, hob2, rfl, nl, rfl⟩
    unfold Builtin.«set.__init__» noKeywords Builtin.Frozenset.updateFrom
    generalize hit : pyIter = IT
    wp_walk
    subst hit
    refine wpAny_pyIter_list il (wpAny_bind (wpAny_runValue ?_))
    have z1 : (s.heap.push (nSet w)).objs.size = s.heap.objs.size + 1 := Heap.size_push ..
    have n1 : l ≠ (s.heap.push (nSet w)).objs.size := by rw [z1]; exact Nat.ne_of_lt (Nat.lt_succ_of_lt lt)
    have hd : A.in1.in1.in1.handled = none := by simp [h0]
    have nf : s.heap.objs.size ∉ [(s.heap.push (nSet w)).objs.size, l] := by
      rw [z1]
      intro hm; rcases List.mem_cons.mp hm with e | e
      · exact absurd e (Nat.ne_of_lt (Nat.lt_succ_self _))
      · exact absurd (List.mem_singleton.mp e) (Nat.ne_of_gt lt)
    refine set_update_ints ((Walks.list hd _ l n1 vs).toS) s.heap.objs.size nf ns sz h3 (fun i v hv => ?_) (vs.size - 0) 0 _ (by omega) (Nat.zero_le _) ⟨⟨_, Heap.get?_push_size _ rfl, rfl, rfl⟩, il.push _⟩ ⟨0, Nat.le_refl 0, setR_new_at (Heap.get?_push_of_some _ g0)⟩ fun s' c' hm hc' hS' => ?_
    · have hi : i < ns.length := by rw [← sz]; exact (Array.getElem?_eq_some_iff.mp hv).1
      obtain ⟨t, e⟩ := PyProof.Rows.IntsAre.int_at h2 i v (by rw [Array.getElem?_toList]; exact hv)
      exact ⟨ns[i], t, List.getElem?_eq_getElem hi, by rw [e, List.getD_eq_getElem?_getD, List.getElem?_eq_getElem hi]; rfl⟩
    · obtain ⟨h', gg, dd, tk', oo⟩ := s'
      obtain rfl : gg = s.gens := hm.gens
      obtain rfl : dd = s.drawn := hm.drawn
      obtain rfl : oo = s.os := hm.os
      show wpAny _ _ _ _ _ _
      refine wpAny_pure ?_
      show wpAny _ _ (ret Value.none) _ _ _
      refine wpAny_pure ⟨rfl, h', tk', c', rfl, hS', by rw [← sz]; exact hc', fun b o e => hm.heap b o ?_ (Heap.get?_push_of_some _ (Heap.get?_push_of_some _ e))⟩
      have hb0 := Heap.lt_size e
      rw [z1]
      intro hm; rcases List.mem_cons.mp hm with e | e
      · exact absurd e (Nat.ne_of_lt hb0)
      · exact absurd (List.mem_singleton.mp e) (Nat.ne_of_lt (Nat.lt_succ_of_lt hb0))
/-- set(l), l a list of ints -/
def rSetLI (K : PySem.W.Frag) (w : World) : List V → Hp → VK → Prop := fun vs H Q => ∃ (a : Addr) (ns : List Int), vs = [.ref a] ∧ SqL K H a (ns.map V.int) ∧ ns.length ≤ 60 ∧
  ∀ p c, H p = none → c ≤ ns.length → Q (.ref p) (upd H p (SetO w p (fun j => decide (j ∈ ns)) c))
theorem cr_setLI (hc : X.calm = true) : CallR X (.type "set") (rSetLI X.K X.w) := by
  intro pins s σ H xs us Q I r hh
  obtain ⟨a, ns, rfl, ht, hn, q⟩ := hh
  rw [Vals.ref1 r]
  obtain ⟨its, rv, ⟨o, n, w1, w2, w3, w4⟩, _⟩ := I.list ht
  refine set_lstI ns (I.ok.hd hc) (show s.heap.IsList a its.toArray from ⟨o, w1, w2, n, w4⟩) (ints_of_vals rv) (by unfold scanBound; omega) fun h' tk c R1 hcn k => ?_
  exact ⟨.ref s.heap.objs.size, upd H s.heap.objs.size (SetO X.w s.heap.objs.size (fun j => decide (j ∈ ns)) c), I.laid (t' := tk) k (Nat.le_refl _) (setO_new R1), rfl, q _ c (I.hok.fresh (Nat.le_refl _)) hcn⟩
theorem cr_setXI (hc : X.calm = true) : CallR X (.type "set") (fun vs H Q => rSetTI X.K X.w vs H Q ∨ rSetLI X.K X.w vs H Q) := by
  intro pins s σ H xs us Q I r hh
  rcases hh with hh | hh
  · exact cr_setTI hc pins s σ H xs us Q I r hh
  · exact cr_setLI hc pins s σ H xs us Q I r hh
end
end DL
/-! DL1: data, the IR, its evaluator. -/
namespace DL
open PySem PySem.Spec PyProof.Rows L2

abbrev D := PyData

/-- a run's result: a value, an own error, stuck -/
inductive R (α : Type) where
  | ok (a : α)
  | exc (c : Str)
  | no
@[simp] def R.bind {α β : Type} : R α → (α → R β) → R β
  | .ok a, f => f a
  | .exc c, _ => .exc c
  | .no, _ => .no
def R.opt {α : Type} : Option α → R α
  | some a => .ok a
  | none => .no
@[simp] theorem R.opt_some {α : Type} (a : α) : R.opt (some a) = .ok a := rfl
@[simp] theorem R.opt_none {α : Type} : R.opt (none : Option α) = .no := rfl
theorem R.bind_ok {α β : Type} {r : R α} {f : α → R β} {b : β} (h : r.bind f = .ok b) : ∃ a, r = .ok a ∧ f a = .ok b := by
  cases r with
  | ok a => exact ⟨a, rfl, h⟩
  | exc c => cases h
  | no => cases h
theorem R.opt_ok {α : Type} {o : Option α} {a : α} (h : R.opt o = .ok a) : o = some a := by
  cases o with
  | none => cases h
  | some b => cases h; rfl

/-- a local: not known; data that nobody changes; a list that this frame alone holds (p: it is a caller's, by a parameter) -/
inductive Slot where
  | emp
  | imm (d : D)
  | own (p : Bool) (d : D)
abbrev DS := List Slot
/-- an expression's value: data (fresh: a new list that nobody else holds), or what slot i holds -/
inductive RV where
  | val (f : Bool) (d : D)
  | bor (i : Nat)
/-- an argument: data, or the list of slot i to be changed -/
inductive AV where
  | v (d : D)
  | m (i : Nat)
inductive Out where
  | nx
  | bk
  | ct
  | rt (r : RV)

inductive O2 where
  | add | sub | mul | fdiv | mod | eq | ne | lt | le | gt | ge | isin | notin
  deriving DecidableEq, Repr
inductive O1 where
  | neg | isN | notN | not
  deriving DecidableEq, Repr
inductive B1 where
  | len | list | tuple | sorted | max | min | abs | sum | any | all | int | sset | repr
  deriving DecidableEq, Repr
inductive M1 where
  | index | count
  deriving DecidableEq, Repr
/-- isinstance's classes -/
inductive Ty where
  | tuple | list | int | bool | str
  deriving DecidableEq, Repr

inductive I where
  | var (i : Nat)
  | marg (i : Nat)
  | cn | cb (b : Bool) | ci (z : Int) | cs (s : List Nat)
  | gc (n : Nat)
  | op2 (o : O2) (a b : I)
  | chain (o o' : O2) (a b c : I)
  | op1 (o : O1) (a : I)
  | land (a b : I) | lor (a b : I)
  | ifE (t a b : I)
  | idx (a b : I)
  | sli (a lo hi : I)
  | rev (a : I)
  | tup (as : I) | lst (as : I)
  | nil | cons (a b : I)
  | call (g : Nat) (as : I)
  | callv (gs : List Nat) (i : Nat) (as : I)
  | bi (f : B1) (as : I)
  | meth (m : M1) (a : I) (as : I)
  | tupR (r : I) | lstR (r : I)
  | comp (ow : List Nat) (p it tt el : I)
  | pop (i : Nat)
  | isI (a : I) (t : Ty)
  | dnew | dget (i : Nat) (ks : I)
  -- what is walked
  | rng (a b : I) | itR (r : I) | itZ (as : I) | itE (a : I)
  -- statements
  | set (ow : Bool) (i : Nat) (e : I)
  | setp (p e : I)
  | app (i : Nat) (e : I) | ext (i : Nat) (e : I)
  | seti (i : Nat) (k e : I)
  | dput (i : Nat) (ks e : I)
  | aug (i : Nat) (o : O2) (e : I)
  | drop (e : I)
  | ret (e : I) | ife (c a b : I) | whl (c b : I) | for_ (p it b : I) | brk | cnt | pas
  deriving DecidableEq, Repr

/-! ### values -/
def slotD : Slot → Option D
  | .imm x => some x
  | .own _ x => some x
  | .emp => none
def opd (d : DS) : RV → Option D
  | .val _ x => some x
  | .bor i => (d[i]?).bind slotD
def fz (d : DS) : RV → Option (D × DS)
  | .val _ x => some (x, d)
  | .bor i => match d[i]? with
    | some (.own false x) => some (x, d.set i (.imm x))
    | some (.imm x) => some (x, d)
    | _ => none
def items : D → Option (List D)
  | .list xs => some xs
  | .tuple xs => some xs
  | _ => none
def isLst : D → Bool
  | .list _ => true
  | .dict ((.none, .bool _) :: _) => true
  | _ => false

mutual
/-- no dict inside -/
def nd : D → Bool
  | .list xs => ndAll xs
  | .tuple xs => ndAll xs
  | .dict _ => false
  | _ => true
def ndAll : List D → Bool
  | [] => true
  | x :: xs => nd x && ndAll xs
end
def shp (d : D) : Bool := nd d && SeqAt.shaped d
/-- the script, a list that nobody may change -/
def scrD (xs : List D) : D := .dict [(.none, .list xs)]

/-- a def as a value: its address -/
def fnD (a : Nat) : D := .dict [(.bool true, .int (a : Int))]
def fnA : D → Option Int
  | .dict [(.bool true, .int a)] => some a
  | _ => none
def sliceD {α : Type} (xs : List α) (lo hi : Option Int) : List α := (xs.drop (HT.sIx xs.length 0 lo)).take (HT.sIx xs.length xs.length hi - HT.sIx xs.length 0 lo)
def ofInt : D → Option Int
  | .int i => some i
  | _ => none
def ofBool : D → Option Bool
  | .bool b => some b
  | _ => none
def allInts : List D → Option (List Int)
  | [] => some []
  | .int i :: r => (allInts r).map (i :: ·)
  | _ :: _ => none
def allBools : List D → Option (List Bool)
  | [] => some []
  | .bool i :: r => (allBools r).map (i :: ·)
  | _ :: _ => none
def small (i : Int) : Bool := decide (-(2 ^ 64) < i) && decide (i < 2 ^ 64)

/-- two texts -/
def bothS : D → D → Bool
  | .str _, .str _ => true
  | _, _ => false
def O2.run : O2 → D → D → Option D
  | .add, .int a, .int b => some (.int (a + b))
  | .add, .str a, .str b => if a.length + b.length ≤ sizeLine then some (.str (a ++ b)) else none
  | .add, .list a, .list b => if a.length + b.length ≤ sizeLine then some (.list (a ++ b)) else none
  | .add, .tuple a, .tuple b => if a.length + b.length ≤ sizeLine then some (.tuple (a ++ b)) else none
  | .sub, .int a, .int b => some (.int (a - b))
  | .mul, .int a, .int b => if small a || small b then some (.int (a * b)) else none
  | .mul, .list a, .int k => if 1 ≤ k ∧ k ≤ 1000 ∧ a ≠ [] ∧ a.length ≤ 1000 then some (.list (List.replicate k.toNat a).flatten) else none
  | .mul, .tuple a, .int k => if 1 ≤ k ∧ k ≤ 1000 ∧ a ≠ [] ∧ a.length ≤ 1000 then some (.tuple (List.replicate k.toNat a).flatten) else none
  | .fdiv, .int a, .int b => if b ≠ 0 ∧ b.natAbs < 1073741824 then some (.int (a.fdiv b)) else none
  | .mod, .int a, .int b => if b ≠ 0 then some (.int (a.fmod b)) else none
  | .eq, a, b => if (bothS a b || (shp a && shp b)) = true then some (.bool (PyData.eqv a b)) else none
  | .ne, a, b => if (bothS a b || (shp a && shp b)) = true then some (.bool (!PyData.eqv a b)) else none
  | .lt, .int a, .int b => some (.bool (decide (a < b)))
  | .le, .int a, .int b => some (.bool (decide (a ≤ b)))
  | .gt, .int a, .int b => some (.bool (decide (b < a)))
  | .ge, .int a, .int b => some (.bool (decide (b ≤ a)))
  | .isin, a, .list xs => if shp a && shp (.list xs) then some (.bool (xs.any fun z => PyData.eqv z a)) else none
  | .isin, a, .tuple xs => if shp a && shp (.tuple xs) then some (.bool (xs.any fun z => PyData.eqv z a)) else none
  | .notin, a, .list xs => if shp a && shp (.list xs) then some (.bool (!xs.any fun z => PyData.eqv z a)) else none
  | .notin, a, .tuple xs => if shp a && shp (.tuple xs) then some (.bool (!xs.any fun z => PyData.eqv z a)) else none
  | _, _, _ => none
def isNone : D → Bool
  | .none => true
  | _ => false
def O1.run : O1 → D → Option D
  | .neg, .int a => some (.int (-a))
  | .isN, a => some (.bool (isNone a))
  | .notN, a => some (.bool (!isNone a))
  | .not, .bool b => some (.bool (!b))
  | _, _ => none
def idxD : D → D → Option D
  | .list xs, .int i => atI xs i
  | .tuple xs, .int i => atI xs i
  | _, _ => none
def sliD : D → Option Int → Option Int → Option D
  | .dict [(.none, .list xs)], lo, hi => some (.list (sliceD xs lo hi))
  | .list xs, lo, hi => some (.list (sliceD xs lo hi))
  | .tuple xs, lo, hi => some (.tuple (sliceD xs lo hi))
  | .str z, lo, hi => if z.length ≤ sizeLine then some (.str (cutS z lo hi)) else none
  | _, _, _ => none
def isTup1 : D → Bool
  | .tuple (_ :: _) => true
  | _ => false
def isFlat1 : D → Bool
  | .none => false
  | .tuple _ => false
  | _ => true
def sortOk (xs : List D) : Bool := (xs.all fun x => xs.all fun y => PySem.W.alike x y) && (xs.all isTup1 || xs.all isFlat1) && xs.all (fun x => decide (x.depth ≤ 64)) && ndAll xs
def sortD (xs : List D) : List D := xs.mergeSort (PySem.W.dataLe false id)
def maxI : List Int → Option Int
  | [] => none
  | x :: xs => some (xs.foldl (fun a b => if b > a then b else a) x)
def minI : List Int → Option Int
  | [] => none
  | x :: xs => some (xs.foldl (fun a b => if b < a then b else a) x)
/-- the different numbers, ascending -/
def insI (a : Int) : List Int → List Int
  | [] => [a]
  | b :: r => if a < b then a :: b :: r else if a = b then b :: r else b :: insI a r
def sortSet (ns : List Int) : List Int := ns.foldr insI []
def B1.run : B1 → List D → Option D
  | .len, [.list xs] => some (.int xs.length)
  | .len, [.tuple xs] => some (.int xs.length)
  | .list, [.dict [(.none, .list xs)]] => some (.list xs)
  | .list, [.list xs] => some (.list xs)
  | .list, [.tuple xs] => some (.list xs)
  | .tuple, [.list xs] => some (.tuple xs)
  | .tuple, [.tuple xs] => some (.tuple xs)
  | .sorted, [.list xs] => if sortOk xs then some (.list (sortD xs)) else none
  | .sorted, [.tuple xs] => if sortOk xs then some (.list (sortD xs)) else none
  | .max, [.int a, .int b] => some (.int (if b > a then b else a))
  | .min, [.int a, .int b] => some (.int (if b < a then b else a))
  | .max, [.int a, .int b, .int c] => some (.int (if b > a then (if c > b then c else b) else (if c > a then c else a)))
  | .max, [.list xs] => (allInts xs).bind fun ns => (maxI ns).map .int
  | .min, [.list xs] => (allInts xs).bind fun ns => (minI ns).map .int
  | .abs, [.int a] => some (.int (if a < 0 then -a else a))
  | .sum, [.list xs] => (allInts xs).map fun ns => .int ns.sum
  | .any, [.list xs] => (allBools xs).map fun bs => .bool (bs.any id)
  | .all, [.list xs] => (allBools xs).map fun bs => .bool (bs.all id)
  | .sset, [.list xs] => (allInts xs).bind fun ns => if ns.length ≤ 60 then some (.list ((sortSet ns).map .int)) else none
  | .sset, [.tuple xs] => (allInts xs).bind fun ns => if ns.length ≤ 60 then some (.list ((sortSet ns).map .int)) else none
  | .repr, [x] => if (shp x && x.showable && decide (x.shown.length ≤ sizeLine)) = true then some (.str x.shown) else none
  | .int, [.int a] => some (.int a)
  | .int, [.bool b] => some (.int (if b then 1 else 0))
  | _, _ => none
def firstAt (x : D) : List D → Option Nat
  | [] => none
  | y :: r => if PyData.eqv y x then some 0 else (firstAt x r).map (· + 1)
def M1.run : M1 → D → List D → Option D
  | .index, .list xs, [x] => if shp x && shp (.list xs) then (firstAt x xs).map fun (j : Nat) => PyData.int (j : Int) else none
  | .index, .tuple xs, [x] => if shp x && shp (.tuple xs) then (firstAt x xs).map fun (j : Nat) => PyData.int (j : Int) else none
  | _, _, _ => none
def seqK : D → Nat
  | .list _ => 1
  | .tuple _ => 2
  | _ => 0
def Ty.has : Ty → D → Bool
  | .tuple, .tuple _ => true
  | .list, .list _ => true
  | .int, .int _ => true
  | .int, .bool _ => true
  | .bool, .bool _ => true
  | .str, .str _ => true
  | _, _ => false
def isDct : D → Bool
  | .dict _ => true
  | _ => false
def inR (a : Int) : Bool := decide (-(2 ^ 62) ≤ a) && decide (a < 2 ^ 62)
def rangeD (a b : Int) : List D := (List.range (b - a).toNat).map fun i => .int (a + (i : Nat))
def inRg (a b : Int) : Bool := inR a && inR b && decide ((b - a).toNat ≤ 2 ^ 24)
def zipD : List D → List D → List D
  | x :: xs, y :: ys => .tuple [x, y] :: zipD xs ys
  | _, _ => []

/-! ### dicts whose keys are tuples of ints: a dict's head, its entries (a key told as a list) -/
def dctT (es : List (D × D)) : D := .dict ((.none, .bool true) :: es)
def keyI : D → Option (List Int)
  | .list xs => allInts xs
  | _ => none
def getI (k : List Int) : List (D × D) → Option D
  | [] => none
  | (a, v) :: r => if keyI a = some k then some v else getI k r
def putI (k : List Int) (v : D) (es : List (D × D)) : List (D × D) :=
  if (getI k es).isSome then es.map fun p => if keyI p.1 = some k then (p.1, v) else p else es ++ [(.list (k.map .int), v)]
def dctG : D → List Int → Option D
  | .dict ((.none, .bool true) :: es), k => getI k es
  | _, _ => none
def isVal (d : List Slot) (i : Nat) : Bool := match d[i]? with
  | some (.own _ _) => true
  | some (.imm _) => true
  | _ => false

/-! ### targets -/
mutual
def bindP : I → D → DS → R DS
  | .var i, x, d => if i < d.length then .ok (d.set i (.imm x)) else .no
  | .tup ps, .tuple xs, d => bindPs ps xs d
  | _, _, _ => .no
def bindPs : I → List D → DS → R DS
  | .nil, [], d => .ok d
  | .cons p ps, x :: xs, d => (bindP p x d).bind fun d1 => bindPs ps xs d1
  | _, _, _ => .no
end
def wipeD (d : DS) : List Nat → DS
  | [] => d
  | v :: vs => (wipeD d vs).set v .emp
def backD (d d' : DS) : List Nat → DS
  | [] => d'
  | v :: vs => (backD d d' vs).set v ((d[v]?).getD .emp)

def noOwn (d : DS) (ow : List Nat) : Bool := ow.all fun v => match d[v]? with
  | some (.own _ _) => false
  | _ => true

def augD : O2 → D → D → Option D
  | .add, .int a, .int b => some (.int (a + b))
  | .sub, .int a, .int b => some (.int (a - b))
  | _, _, _ => none
def isOwn (d : DS) (i : Nat) : Bool := match d[i]? with
  | some (.own _ (.list _)) => true
  | _ => false
def isOwnD (d : DS) (i : Nat) : Bool := match d[i]? with
  | some (.own _ (.dict _)) => true
  | _ => false

/-! ### loops -/
/-- a comprehension's loop: el gives what is kept -/
def loopC (el : D → DS → R (Option D × DS)) : List D → DS → List D → R (List D × DS)
  | [], d, acc => .ok (acc, d)
  | x :: xs, d, acc => (el x d).bind fun r => match r.1 with
    | some y => if acc.length < sizeLine then loopC el xs r.2 (acc ++ [y]) else .no
    | none => loopC el xs r.2 acc
/-- a for loop -/
def loopF (b : D → DS → R (Out × DS)) : List D → DS → R (Out × DS)
  | [], d => .ok (.nx, d)
  | x :: xs, d => (b x d).bind fun r => match r.1 with
    | .nx => loopF b xs r.2
    | .ct => loopF b xs r.2
    | .bk => .ok (.nx, r.2)
    | .rt v => .ok (.rt v, r.2)
def loopW (c : DS → R (Bool × DS)) (b : DS → R (Out × DS)) : Nat → DS → R (Out × DS)
  | 0, _ => .no
  | n + 1, d => (c d).bind fun r => match r.1 with
    | false => .ok (.nx, r.2)
    | true => (b r.2).bind fun q => match q.1 with
      | .nx => loopW c b n q.2
      | .ct => loopW c b n q.2
      | .bk => .ok (.nx, q.2)
      | .rt v => .ok (.rt v, q.2)
open Classical in
noncomputable def whileR (c : DS → R (Bool × DS)) (b : DS → R (Out × DS)) (d : DS) : R (Out × DS) :=
  if h : ∃ n r, loopW c b n d = .ok r then .ok (Classical.choose (Classical.choose_spec h)) else .no

theorem whileR_ok {c : DS → R (Bool × DS)} {b : DS → R (Out × DS)} {d : DS} {r : Out × DS} (h : whileR c b d = .ok r) : ∃ n, loopW c b n d = .ok r := by
  unfold whileR at h
  split at h
  · rename_i hex
    have hr := Classical.choose_spec (Classical.choose_spec hex)
    injection h with h
    rw [h] at hr
    exact ⟨_, hr⟩
  · cases h
theorem loopW_mono {c : DS → R (Bool × DS)} {b : DS → R (Out × DS)} : ∀ {n : Nat} {d : DS} {r : Out × DS}, loopW c b n d = .ok r → loopW c b (n + 1) d = .ok r
  | 0, _, _, h => by cases h
  | n + 1, d, r, h => by
    rw [loopW] at h ⊢
    obtain ⟨⟨k, d1⟩, e1, h⟩ := R.bind_ok h
    rw [e1]
    cases k with
    | false => exact h
    | true =>
      dsimp only at h ⊢
      obtain ⟨⟨o, d2⟩, e2, h⟩ := R.bind_ok h
      show ((b d1).bind _) = _
      rw [e2]
      cases o with
      | nx => exact loopW_mono h
      | ct => exact loopW_mono h
      | bk => exact h
      | rt v => exact h
theorem loopW_le {c : DS → R (Bool × DS)} {b : DS → R (Out × DS)} {n m : Nat} {d : DS} {r : Out × DS} (h : loopW c b n d = .ok r) (hm : n ≤ m) : loopW c b m d = .ok r := by
  induction hm with
  | refl => exact h
  | step _ ih => exact loopW_mono ih
theorem whileR_of {c : DS → R (Bool × DS)} {b : DS → R (Out × DS)} {n : Nat} {d : DS} {r : Out × DS} (h : loopW c b n d = .ok r) : whileR c b d = .ok r := by
  unfold whileR
  have hex : ∃ n r, loopW c b n d = .ok r := ⟨n, r, h⟩
  rw [dif_pos hex]
  have hr := Classical.choose_spec (Classical.choose_spec hex)
  have h1 := loopW_le hr (Nat.le_max_left (Classical.choose hex) n)
  have h2 := loopW_le h (Nat.le_max_right (Classical.choose hex) n)
  rw [h1] at h2
  exact h2
abbrev CallSem := Nat → List (Bool × D) → R (List D × Bool × D)

def argOf (d : DS) : AV → Option (Bool × D)
  | .v x => some (false, x)
  | .m i => match d[i]? with
    | some (.own _ x) => some (true, x)
    | _ => none
def argsOf (d : DS) : List AV → Option (List (Bool × D))
  | [] => some []
  | a :: r => (argOf d a).bind fun x => (argsOf d r).map (x :: ·)
def margs : List AV → List Nat
  | [] => []
  | .v _ :: r => margs r
  | .m i :: r => i :: margs r
def putBack : DS → List Nat → List D → Option DS
  | d, [], [] => some d
  | d, i :: is, x :: xs => match d[i]? with
    | some (.own p _) => putBack (d.set i (.own p x)) is xs
    | _ => none
  | _, _, _ => none

/-! ### the evaluator -/
variable (gcs : Nat → Option D) (cd : CallSem)
mutual
noncomputable def evE : I → DS → R (RV × DS)
  | .var i, d => match d[i]? with
    | some (.imm x) => .ok (.val false x, d)
    | some (.own _ _) => .ok (.bor i, d)
    | _ => .no
  | .cn, d => .ok (.val true .none, d)
  | .cb b, d => .ok (.val true (.bool b), d)
  | .ci z, d => .ok (.val true (.int z), d)
  | .cs s, d => .ok (.val true (.str ⟨s.toArray⟩), d)
  | .gc n, d => (R.opt (gcs n)).bind fun x => .ok (.val true x, d)
  | .op2 o a b, d => (evE a d).bind fun ra => (evE b ra.2).bind fun rb =>
      (R.opt (opd rb.2 ra.1)).bind fun x => (R.opt (opd rb.2 rb.1)).bind fun y => (R.opt (o.run x y)).bind fun r => .ok (.val true r, rb.2)
  | .chain o o' a b c, d => (evE a d).bind fun ra => (evE b ra.2).bind fun rb =>
      (R.opt (opd rb.2 ra.1)).bind fun x => (R.opt (opd rb.2 rb.1)).bind fun y => (R.opt (o.run x y)).bind fun r => (R.opt (ofBool r)).bind fun k =>
        match k with
        | false => .ok (.val true (.bool false), rb.2)
        | true => (evE c rb.2).bind fun rc => (R.opt (opd rc.2 rb.1)).bind fun y => (R.opt (opd rc.2 rc.1)).bind fun z => (R.opt (o'.run y z)).bind fun r => .ok (.val true r, rc.2)
  | .op1 o a, d => (evE a d).bind fun ra => (R.opt (opd ra.2 ra.1)).bind fun x => (R.opt (o.run x)).bind fun r => .ok (.val true r, ra.2)
  | .land a b, d => (evE a d).bind fun ra => (R.opt (opd ra.2 ra.1)).bind fun x => (R.opt (ofBool x)).bind fun k =>
      match k with
      | false => .ok (.val true (.bool false), ra.2)
      | true => evE b ra.2
  | .lor a b, d => (evE a d).bind fun ra => (R.opt (opd ra.2 ra.1)).bind fun x => (R.opt (ofBool x)).bind fun k =>
      match k with
      | true => .ok (.val true (.bool true), ra.2)
      | false => evE b ra.2
  | .ifE t a b, d => (evE t d).bind fun rt => (R.opt (opd rt.2 rt.1)).bind fun x => (R.opt (ofBool x)).bind fun k =>
      match k with
      | true => evE a rt.2
      | false => evE b rt.2
  | .idx a b, d => (evE a d).bind fun ra => (evE b ra.2).bind fun rb =>
      (R.opt (opd rb.2 ra.1)).bind fun x => (R.opt (opd rb.2 rb.1)).bind fun y => (R.opt (idxD x y)).bind fun r => .ok (.val false r, rb.2)
  | .sli a lo hi, d => (evE a d).bind fun ra => (evO lo ra.2).bind fun rl => (evO hi rl.2).bind fun rh =>
      (R.opt (opd rh.2 ra.1)).bind fun x => (R.opt (sliD x rl.1 rh.1)).bind fun r => .ok (.val true r, rh.2)
  | .tup as, d => (evL as d).bind fun r => if r.1.length ≤ sizeLine then .ok (.val true (.tuple r.1), r.2) else .no
  | .lst as, d => (evL as d).bind fun r => if r.1.length ≤ sizeLine then .ok (.val true (.list r.1), r.2) else .no
  | .call g as, d => (evA as d).bind fun r => (R.opt (argsOf r.2 r.1)).bind fun xs =>
      if (margs r.1).Nodup then (cd g xs).bind fun q => (R.opt (putBack r.2 (margs r.1) q.1)).bind fun d' => .ok (.val q.2.1 q.2.2, d') else .no
  | .callv gs i as, d => (R.opt (match d[i]? with
      | some (.imm x) => fnA x
      | _ => none)).bind fun a => (R.opt (gs.find? fun g => decide ((gcs g).bind fnA = some a))).bind fun g => (evA as d).bind fun r => (R.opt (argsOf r.2 r.1)).bind fun xs =>
      if (margs r.1).Nodup then (cd g xs).bind fun q => (R.opt (putBack r.2 (margs r.1) q.1)).bind fun d' => .ok (.val q.2.1 q.2.2, d') else .no
  | .bi f as, d => (evB as d).bind fun r => (R.opt (r.1.mapM (opd r.2))).bind fun xs => (R.opt (f.run xs)).bind fun y => .ok (.val true y, r.2)
  | .meth m a as, d => (evE a d).bind fun ra => (R.opt (opd ra.2 ra.1)).bind fun x0 => (evB as ra.2).bind fun r => (R.opt (opd r.2 ra.1)).bind fun x => (R.opt (r.1.mapM (opd r.2))).bind fun xs =>
      if seqK x0 = seqK x then (R.opt (m.run x xs)).bind fun y => .ok (.val true y, r.2) else .no
  | .tupR a, d => (evR a d).bind fun r => if inRg r.1.1 r.1.2 then .ok (.val true (.tuple (rangeD r.1.1 r.1.2)), r.2) else .no
  | .lstR a, d => (evR a d).bind fun r => if inRg r.1.1 r.1.2 then .ok (.val true (.list (rangeD r.1.1 r.1.2)), r.2) else .no
  | .comp ow p it tt el, d => (evI it d).bind fun r =>
      (loopC (fun x d1 => if noOwn d1 ow then (bindP p x (wipeD d1 ow)).bind fun d2 => (evE tt d2).bind fun rt => (R.opt ((opd rt.2 rt.1).bind ofBool)).bind fun k =>
        match k with
        | true => (evE el rt.2).bind fun re => (R.opt (fz re.2 re.1)).bind fun q => .ok (some q.1, backD d1 q.2 ow)
        | false => .ok (none, backD d1 rt.2 ow) else .no) r.1 r.2 []).bind fun q => .ok (.val true (.list q.1), q.2)
  | .pop i, d => match d[i]? with
    | some (.own p (.list xs)) => match xs.getLast? with
      | some x => .ok (.val false x, d.set i (.own p (.list xs.dropLast)))
      | none => .no
    | _ => .no
  | .isI a t, d => (evE a d).bind fun ra => (R.opt (opd ra.2 ra.1)).bind fun x => if isDct x then .no else .ok (.val true (.bool (t.has x)), ra.2)
  | .dnew, d => .ok (.val true (dctT []), d)
  | .dget i ks, d => if isVal d i then (evB ks d).bind fun r => (R.opt (r.1.mapM (opd r.2))).bind fun xs => (R.opt (allInts xs)).bind fun k =>
      if k.length ≤ sizeLine then (R.opt ((r.2[i]?).bind slotD)).bind fun x => (R.opt (dctG x k)).bind fun y => .ok (.val false y, r.2) else .no else .no
  | _, _ => .no
/-- an optional int -/
noncomputable def evO : I → DS → R (Option Int × DS)
  | .nil, d => .ok (none, d)
  | .cons a _, d => (evE a d).bind fun ra => (R.opt (opd ra.2 ra.1)).bind fun x => (R.opt (ofInt x)).bind fun k => .ok (some k, ra.2)
  | _, _ => .no
noncomputable def evR : I → DS → R ((Int × Int) × DS)
  | .rng .nil b, d => (evE b d).bind fun rb => (R.opt (opd rb.2 rb.1)).bind fun y => (R.opt (ofInt y)).bind fun j => .ok ((0, j), rb.2)
  | .rng (.cons a _) b, d => (evE a d).bind fun ra => (evE b ra.2).bind fun rb => (R.opt (opd rb.2 ra.1)).bind fun x => (R.opt (ofInt x)).bind fun i =>
      (R.opt (opd rb.2 rb.1)).bind fun y => (R.opt (ofInt y)).bind fun j => .ok ((i, j), rb.2)
  | _, _ => .no
/-- items to be kept -/
noncomputable def evL : I → DS → R (List D × DS)
  | .nil, d => .ok ([], d)
  | .cons a as, d => (evE a d).bind fun ra => (R.opt (fz ra.2 ra.1)).bind fun q => (evL as q.2).bind fun r => .ok (q.1 :: r.1, r.2)
  | _, _ => .no
/-- operands -/
noncomputable def evB : I → DS → R (List RV × DS)
  | .nil, d => .ok ([], d)
  | .cons a as, d => (evE a d).bind fun ra => (evB as ra.2).bind fun r => .ok (ra.1 :: r.1, r.2)
  | _, _ => .no
/-- a def's arguments -/
noncomputable def evA : I → DS → R (List AV × DS)
  | .nil, d => .ok ([], d)
  | .cons (.marg i) as, d => match d[i]? with
    | some (.own _ _) => (evA as d).bind fun r => .ok (.m i :: r.1, r.2)
    | _ => .no
  | .cons a as, d => (evE a d).bind fun ra => (R.opt (fz ra.2 ra.1)).bind fun q => (evA as q.2).bind fun r => .ok (.v q.1 :: r.1, r.2)
  | _, _ => .no
/-- what is walked -/
noncomputable def evI : I → DS → R (List D × DS)
  | .itE a, d => (evE a d).bind fun ra => (R.opt (fz ra.2 ra.1)).bind fun q => (R.opt (items q.1)).bind fun xs => .ok (xs, q.2)
  | .itR a, d => (evR a d).bind fun r => if inR r.1.1 && inR r.1.2 then .ok (rangeD r.1.1 r.1.2, r.2) else .no
  | .itZ as, d => (evL as d).bind fun r =>
      match r.1 with
      | [.list xs, .list ys] => .ok (zipD xs ys, r.2)
      | [.tuple xs, .tuple ys] => .ok (zipD xs ys, r.2)
      | _ => .no
  | _, _ => .no
end
mutual
noncomputable def evS : I → DS → R (Out × DS)
  | .nil, d => .ok (.nx, d)
  | .cons s r, d => (evS s d).bind fun q => match q.1 with
    | .nx => evS r q.2
    | o => .ok (o, q.2)
  | .set ow i e, d => (evE gcs cd e d).bind fun re => match ow with
    | true => match re.1 with
      | .val true (.list xs) => if i < re.2.length then .ok (.nx, re.2.set i (.own false (.list xs))) else .no
      | .val true (.dict ((.none, .bool true) :: es)) => if i < re.2.length then .ok (.nx, re.2.set i (.own false (dctT es))) else .no
      | _ => .no
    | false => (R.opt (fz re.2 re.1)).bind fun q => if i < q.2.length then .ok (.nx, q.2.set i (.imm q.1)) else .no
  | .setp p e, d => (evE gcs cd e d).bind fun re => (R.opt (fz re.2 re.1)).bind fun q => (bindP p q.1 q.2).bind fun d' => .ok (.nx, d')
  | .app i e, d => if isOwn d i then (evE gcs cd e d).bind fun re => (R.opt (fz re.2 re.1)).bind fun q => match q.2[i]? with
    | some (.own p (.list xs)) => if xs.length < sizeLine then .ok (.nx, q.2.set i (.own p (.list (xs ++ [q.1])))) else .no
    | _ => .no
    else .no
  | .ext i e, d => if isOwn d i then (evE gcs cd e d).bind fun re => (R.opt (fz re.2 re.1)).bind fun q => match q.2[i]?, q.1 with
    | some (.own p (.list xs)), .list ys => if xs.length + ys.length ≤ sizeLine then .ok (.nx, q.2.set i (.own p (.list (xs ++ ys)))) else .no
    | _, _ => .no
    else .no
  | .seti i k e, d => (evE gcs cd e d).bind fun re => (R.opt (fz re.2 re.1)).bind fun q => if isOwn q.2 i then (evE gcs cd k q.2).bind fun rk => (R.opt (opd rk.2 rk.1)).bind fun y => (R.opt (ofInt y)).bind fun j =>
      match rk.2[i]? with
      | some (.own p (.list xs)) => match ixN xs.length j with
        | some n => .ok (.nx, rk.2.set i (.own p (.list (xs.set n q.1))))
        | none => .no
      | _ => .no
    else .no
  | .dput i ks e, d => (evE gcs cd e d).bind fun re => (R.opt (fz re.2 re.1)).bind fun q => if isOwnD q.2 i then (evB gcs cd ks q.2).bind fun r => (R.opt (r.1.mapM (opd r.2))).bind fun xs => (R.opt (allInts xs)).bind fun k =>
      if k.length ≤ sizeLine then match r.2[i]? with
      | some (.own p (.dict ((.none, .bool true) :: es))) => if es.length < sizeLine then .ok (.nx, r.2.set i (.own p (dctT (putI k q.1 es)))) else .no
      | _ => .no
      else .no
    else .no
  | .aug i o e, d => match d[i]? with
    | some (.imm x) => (evE gcs cd e d).bind fun re => (R.opt (opd re.2 re.1)).bind fun y => (R.opt (augD o x y)).bind fun r => if i < re.2.length then .ok (.nx, re.2.set i (.imm r)) else .no
    | _ => .no
  | .drop e, d => (evE gcs cd e d).bind fun re => .ok (.nx, re.2)
  | .ret e, d => (evE gcs cd e d).bind fun re => .ok (.rt re.1, re.2)
  | .ife c a b, d => (evE gcs cd c d).bind fun rc => (R.opt ((opd rc.2 rc.1).bind ofBool)).bind fun k =>
      match k with
      | true => evS a rc.2
      | false => evS b rc.2
  | .whl c b, d => whileR (fun d => (evE gcs cd c d).bind fun rc => (R.opt ((opd rc.2 rc.1).bind ofBool)).bind fun k => .ok (k, rc.2)) (fun d => evS b d) d
  | .for_ p it b, d => (evI gcs cd it d).bind fun r => loopF (fun x d1 => (bindP p x d1).bind fun d2 => evS b d2) r.1 r.2
  | .brk, d => .ok (.bk, d)
  | .cnt, d => .ok (.ct, d)
  | .pas, d => .ok (.nx, d)
  | _, _ => .no
end

/-! ### defs -/
structure Fn where
  np : Nat
  nl : Nat
  body : I
def slotOf : Bool × D → Slot
  | (true, x) => .own true x
  | (false, x) => .imm x
/-- what the changed parameters hold at the end -/
def outs : List (Bool × D) → DS → Option (List D)
  | [], _ => some []
  | (false, _) :: r, _ :: d => outs r d
  | (true, _) :: r, .own true x :: d => (outs r d).map (x :: ·)
  | _, _ => none
/-- the value that is handed back -/
def retD (d : DS) : RV → Option (Bool × D)
  | .val f x => some (f, x)
  | .bor i => match d[i]? with
    | some (.own false x) => some (true, x)
    | some (.imm x) => some (false, x)
    | _ => none
noncomputable def runFn (f : Fn) (args : List (Bool × D)) : R (List D × Bool × D) :=
  if args.length = f.np then
    (evS gcs cd f.body (args.map slotOf ++ List.replicate f.nl .emp)).bind fun q =>
      (R.opt (outs args q.2)).bind fun os => match q.1 with
        | .rt r => (R.opt (retD q.2 r)).bind fun v => .ok (os, v)
        | .nx => .ok (os, true, .none)
        | _ => .no
  else .no
noncomputable def callD (T : Nat → Option Fn) : Nat → CallSem
  | 0, _, _ => .no
  | k + 1, g, args => match T g with
    | some f => runFn gcs (callD T k) f args
    | none => .no
end DL
/-! DL2: how data lies in a heap; states; what grows. -/
namespace DL
open PySem PySem.Spec PyProof.Rows L2

/-- a tuple with nothing of its own beside its items -/
def TupS (K : PySem.W.Frag) (H : Hp) (a : Addr) (xs : List V) : Prop :=
  (∃ o, H a = some (.frz o (.tup xs)) ∧ o.dict = none) ∨
    ∃ (o : Obj) (its : Array Value) (n : Nat), K.lookup a = some o ∧ o.cls = .type "tuple" ∧ o.dict = none ∧ o.data = .seq its n ∧ its.size ≤ sizeLine ∧ Vals xs its.toList
theorem TupS.sq {K : PySem.W.Frag} {H : Hp} {a : Addr} {xs : List V} (h : TupS K H a xs) : SqT K H a xs := by
  rcases h with ⟨o, h, _⟩ | ⟨o, its, n, h1, h2, _, h3⟩
  · exact .inl (.inr ⟨o, h⟩)
  · exact .inr ⟨o, its, n, h1, h2, h3⟩
/-- the script -/
def ScrL (K : PySem.W.Frag) (H : Hp) (a : Addr) (xs : List V) : Prop :=
  (∃ o, H a = some (.frz o (.lst xs))) ∨
    ∃ (o : Obj) (its : Array Value) (n : Nat), K.lookup a = some o ∧ o.cls = .type "list" ∧ o.dict = none ∧ o.data = .seq its n ∧ its.size ≤ sizeLine ∧ Vals xs its.toList
theorem ScrL.sq {K : PySem.W.Frag} {H : Hp} {a : Addr} {xs : List V} (h : ScrL K H a xs) : SqL K H a xs := by
  rcases h with ⟨o, h⟩ | h
  · exact .inl (.inr ⟨o, h⟩)
  · exact .inr h
mutual
inductive Rp (K : PySem.W.Frag) (H : Hp) (F : Addr → Prop) : V → D → Prop
  | non : Rp K H F .non .none
  | bl (b : Bool) : Rp K H F (.bl b) (.bool b)
  | int (i : Int) : Rp K H F (.int i) (.int i)
  | str (x : Str) : Rp K H F (.str x) (.str x)
  | lst {a : Addr} {xs : List V} {ds : List D} : F a → H a = some (.lst xs) → RpAll K H F xs ds → Rp K H F (.ref a) (.list ds)
  | tup {a : Addr} {xs : List V} {ds : List D} : TupS K H a xs → RpAll K H F xs ds → Rp K H F (.ref a) (.tuple ds)
  | scr {a : Addr} {xs : List V} {ds : List D} : ScrL K H a xs → RpAll K H F xs ds → Rp K H F (.ref a) (.dict [(.none, .list ds)])
  | fnv (a : Addr) : Rp K H F (.ref a) (.dict [(.bool true, .int (a : Int))])
  | dct {a : Addr} {ks : List (List L2.Key × V)} {es : List (D × D)} : F a → H a = some (.dT ks) → DAll K H F ks es → Rp K H F (.ref a) (.dict ((.none, .bool true) :: es))
inductive RpAll (K : PySem.W.Frag) (H : Hp) (F : Addr → Prop) : List V → List D → Prop
  | nil : RpAll K H F [] []
  | cons {v : V} {vs : List V} {d : D} {ds : List D} : Rp K H F v d → RpAll K H F vs ds → RpAll K H F (v :: vs) (d :: ds)
/-- a dict's entries -/
inductive DAll (K : PySem.W.Frag) (H : Hp) (F : Addr → Prop) : List (List L2.Key × V) → List (D × D) → Prop
  | nil : DAll K H F [] []
  | cons {k : List Int} {v : V} {d : D} {ks : List (List L2.Key × V)} {es : List (D × D)} : Rp K H F v d → DAll K H F ks es → DAll K H F ((k.map Sum.inl, v) :: ks) ((.list (k.map .int), d) :: es)
end

/-- what is frozen and what never changes is kept -/
structure SX (H : Hp) (F : Addr → Prop) (H' : Hp) (F' : Addr → Prop) : Prop where
  keep : ∀ a o, F a → H a = some o → H' a = some o
  tup : ∀ a xs, H a = some (.tup xs) → H' a = some (.tup xs)
  frz : ∀ a o u, H a = some (.frz o u) → H' a = some (.frz o u)
  sub : ∀ a, F a → F' a
theorem SX.refl {H : Hp} {F : Addr → Prop} : SX H F H F := ⟨fun _ _ _ h => h, fun _ _ h => h, fun _ _ _ h => h, fun _ h => h⟩
theorem SX.trans {H H1 H2 : Hp} {F F1 F2 : Addr → Prop} (x : SX H F H1 F1) (y : SX H1 F1 H2 F2) : SX H F H2 F2 :=
  ⟨fun a o f h => y.keep a o (x.sub a f) (x.keep a o f h), fun a xs h => y.tup a xs (x.tup a xs h), fun a o u h => y.frz a o u (x.frz a o u h), fun a f => y.sub a (x.sub a f)⟩

section
variable {K : PySem.W.Frag} {H H' : Hp} {F F' : Addr → Prop}
theorem SX.sqT (x : SX H F H' F') {a : Addr} {xs : List V} (h : SqT K H a xs) : SqT K H' a xs := by
  rcases h with (h | ⟨o, h⟩) | h
  · exact .inl (.inl (x.tup a xs h))
  · exact .inl (.inr ⟨o, x.frz _ _ _ h⟩)
  · exact .inr h
theorem SX.scrL (x : SX H F H' F') {a : Addr} {xs : List V} (h : ScrL K H a xs) : ScrL K H' a xs := by
  rcases h with ⟨o, h⟩ | h
  · exact .inl ⟨o, x.frz _ _ _ h⟩
  · exact .inr h
theorem SX.tupS (x : SX H F H' F') {a : Addr} {xs : List V} (h : TupS K H a xs) : TupS K H' a xs := by
  rcases h with ⟨o, h, q⟩ | h
  · exact .inl ⟨o, x.frz _ _ _ h, q⟩
  · exact .inr h
mutual
theorem Rp.mono' (x : SX H F H' F') : ∀ {d : D} {v : V}, Rp K H F v d → Rp K H' F' v d
  | _, _, .non => .non
  | _, _, .bl b => .bl b
  | _, _, .int i => .int i
  | _, _, .str s => .str s
  | _, _, .lst f r a => .lst (x.sub _ f) (x.keep _ _ f r) (RpAll.mono' x a)
  | _, _, .tup r a => .tup (x.tupS r) (RpAll.mono' x a)
  | _, _, .scr r a => .scr (x.scrL r) (RpAll.mono' x a)
  | _, _, .fnv a => .fnv a
  | _, _, .dct f r a => .dct (x.sub _ f) (x.keep _ _ f r) (DAll.mono x a)
theorem RpAll.mono' (x : SX H F H' F') : ∀ {ds : List D} {vs : List V}, RpAll K H F vs ds → RpAll K H' F' vs ds
  | _, _, .nil => .nil
  | _, _, .cons a b => .cons (Rp.mono' x a) (RpAll.mono' x b)
theorem DAll.mono (x : SX H F H' F') : ∀ {es : List (D × D)} {ks : List (List L2.Key × V)}, DAll K H F ks es → DAll K H' F' ks es
  | _, _, .nil => .nil
  | _, _, .cons a b => .cons (Rp.mono' x a) (DAll.mono x b)
end
theorem Rp.mono (x : SX H F H' F') (d : D) (v : V) (h : Rp K H F v d) : Rp K H' F' v d := Rp.mono' x h
theorem RpAll.mono (x : SX H F H' F') (ds : List D) (vs : List V) (h : RpAll K H F vs ds) : RpAll K H' F' vs ds := RpAll.mono' x h
theorem RpAll.length : ∀ {vs : List V} {ds : List D}, RpAll K H F vs ds → vs.length = ds.length
  | _, _, .nil => rfl
  | _, _, .cons _ t => by rw [List.length_cons, List.length_cons, RpAll.length t]
theorem RpAll.get : ∀ {vs : List V} {ds : List D} {i : Nat} {d : D}, RpAll K H F vs ds → ds[i]? = some d → ∃ v, vs[i]? = some v ∧ Rp K H F v d
  | _, _, _, _, .nil, e => by simp at e
  | _, _, 0, _, .cons r _, e => by simp at e; subst e; exact ⟨_, rfl, r⟩
  | _, _, i + 1, d, .cons _ t, e => by
    obtain ⟨v, h1, h2⟩ := RpAll.get (i := i) (d := d) t (by simpa using e)
    exact ⟨v, by simpa using h1, h2⟩
theorem RpAll.at_ {vs : List V} {ds : List D} {i : Nat} {v : V} (h : RpAll K H F vs ds) (e : vs[i]? = some v) : ∃ d, ds[i]? = some d ∧ Rp K H F v d := by
  have hl := h.length
  have hi : i < vs.length := (List.getElem?_eq_some_iff.mp e).1
  obtain ⟨w, h1, h2⟩ := h.get (i := i) (d := ds[i]'(by omega)) (List.getElem?_eq_getElem (by omega))
  rw [e] at h1; cases h1
  exact ⟨_, List.getElem?_eq_getElem (by omega), h2⟩
theorem RpAll.append : ∀ {vs ws : List V} {ds es : List D}, RpAll K H F vs ds → RpAll K H F ws es → RpAll K H F (vs ++ ws) (ds ++ es)
  | _, _, _, _, .nil, s => s
  | _, _, _, _, .cons r t, s => .cons r (RpAll.append t s)
theorem RpAll.take : ∀ {vs : List V} {ds : List D} (n : Nat), RpAll K H F vs ds → RpAll K H F (vs.take n) (ds.take n)
  | _, _, 0, _ => .nil
  | _, _, _ + 1, .nil => .nil
  | _, _, n + 1, .cons r t => .cons r (RpAll.take n t)
theorem RpAll.drop : ∀ {vs : List V} {ds : List D} (n : Nat), RpAll K H F vs ds → RpAll K H F (vs.drop n) (ds.drop n)
  | _, _, 0, r => r
  | _, _, _ + 1, .nil => .nil
  | _, _, n + 1, .cons _ t => RpAll.drop n t
theorem RpAll.set {v : V} {d : D} (r : Rp K H F v d) : ∀ {vs : List V} {ds : List D} (i : Nat), RpAll K H F vs ds → RpAll K H F (vs.set i v) (ds.set i d)
  | _, _, _, .nil => .nil
  | _, _, 0, .cons _ t => .cons r t
  | _, _, i + 1, .cons q t => .cons q (RpAll.set r i t)
theorem RpAll.dropLast : ∀ {vs : List V} {ds : List D}, RpAll K H F vs ds → RpAll K H F vs.dropLast ds.dropLast := by
  intro vs ds h
  rw [List.dropLast_eq_take, List.dropLast_eq_take, h.length]
  exact h.take _
end

/-- a list or a dict: its data -/
inductive ObR (K : PySem.W.Frag) (H : Hp) (F : Addr → Prop) : HO → D → Prop
  | lst {vs : List V} {ds : List D} (r : RpAll K H F vs ds) : ObR K H F (.lst vs) (.list ds)
  | dct {ks : List (List L2.Key × V)} {es : List (D × D)} (r : DAll K H F ks es) : ObR K H F (.dT ks) (.dict ((.none, .bool true) :: es))
section
variable {K : PySem.W.Frag} {H H' : Hp} {F F' : Addr → Prop} {o : HO} {x : D}
theorem ObR.mono (sx : SX H F H' F') (h : ObR K H F o x) : ObR K H' F' o x := by
  cases h with
  | lst r => exact .lst (RpAll.mono' sx r)
  | dct r => exact .dct (DAll.mono sx r)
theorem ObR.rp {a : Addr} (f : F a) (e : H a = some o) (h : ObR K H F o x) : Rp K H F (.ref a) x := by
  cases h with
  | lst r => exact .lst f e r
  | dct r => exact .dct f e r
theorem ObR.noTup {xs : List V} (h : ObR K H F o x) : o ≠ .tup xs := by cases h <;> intro e <;> cases e
theorem ObR.noFrz {b : Obj} {u : HO} (h : ObR K H F o x) : o ≠ .frz b u := by cases h <;> intro e <;> cases e
theorem ObR.list {ds : List D} (h : ObR K H F o (.list ds)) : ∃ vs, o = .lst vs ∧ RpAll K H F vs ds := by
  cases h with
  | lst r => exact ⟨_, rfl, r⟩
end
/-- an operand: its top may be a list that changes -/
def RpO (K : PySem.W.Frag) (H : Hp) (F : Addr → Prop) (v : V) (d : D) : Prop :=
  Rp K H F v d ∨ ∃ a o, v = .ref a ∧ H a = some o ∧ ObR K H F o d

/-- a def's frame: the heap at its entry, the addresses of the parameters that it changes, what was frozen then -/
structure Fc where
  H0 : Hp
  M : Nat → Addr → Prop
  F0 : Addr → Prop
def Own (σ : L2.St) (d : DS) (a : Addr) : Prop := ∃ (i : Nat) (p : Bool) (x : D), d[i]? = some (Slot.own p x) ∧ σ[i]? = some (some (.ref a))
def OwnAt (K : PySem.W.Frag) (H : Hp) (F : Addr → Prop) (a : Addr) (x : D) : Prop := ¬ F a ∧ ∃ o, H a = some o ∧ ObR K H F o x
structure SRel (K : PySem.W.Frag) (C : Fc) (H : Hp) (F : Addr → Prop) (σ : L2.St) (d : DS) : Prop where
  len : d.length = σ.length
  imm : ∀ (i : Nat) (x : D), d[i]? = some (.imm x) → ∃ v, σ[i]? = some (some v) ∧ Rp K H F v x
  own : ∀ (i : Nat) (p : Bool) (x : D), d[i]? = some (.own p x) → ∃ a, σ[i]? = some (some (.ref a)) ∧ OwnAt K H F a x ∧ (if p = true then C.M i a else C.H0 a = none)
  inj : ∀ (i j : Nat) (p q : Bool) (x y : D) (a : Addr), d[i]? = some (.own p x) → d[j]? = some (.own q y) → σ[i]? = some (some (.ref a)) → σ[j]? = some (some (.ref a)) → i = j
  fdom : ∀ a, F a → H a ≠ none
  fnew : ∀ a, F a → C.F0 a ∨ C.H0 a = none
  fsub : ∀ a, C.F0 a → F a
  frame : ∀ a o, C.H0 a = some o → (∀ i, ¬ C.M i a) → H a = some o
  dom : ∀ a, H a = none → C.H0 a = none
/-- behind an expression: the slots' own lists may have changed, some may be frozen -/
structure Ext (H : Hp) (F : Addr → Prop) (σ : L2.St) (d : DS) (H' : Hp) (F' : Addr → Prop) (d' : DS) : Prop where
  keep : ∀ a o, H a = some o → ¬ Own σ d a → H' a = some o
  sub : ∀ a, F a → F' a
  new : ∀ a, F' a → F a ∨ H a = none ∨ Own σ d a
  dom : ∀ a, H' a = none → H a = none
  own : ∀ (i : Nat) (p : Bool) (x : D), d'[i]? = some (.own p x) → ∃ y, d[i]? = some (.own p y)
  imm : ∀ (i : Nat) (x : D), d[i]? = some (.imm x) → d'[i]? = some (.imm x)
  emp : ∀ (i : Nat), d[i]? = some .emp → d'[i]? = some .emp
  len : d'.length = d.length

section
variable {K : PySem.W.Frag} {C : Fc} {H H1 H2 : Hp} {F F1 F2 : Addr → Prop} {σ : L2.St} {d d1 d2 : DS}
theorem Ext.refl : Ext H F σ d H F d := ⟨fun _ _ h _ => h, fun _ h => h, fun _ h => .inl h, fun _ h => h, fun _ _ x h => ⟨x, h⟩, fun _ _ h => h, fun _ h => h, rfl⟩
theorem Ext.ownSub (x : Ext H F σ d H1 F1 d1) {a : Addr} (h : Own σ d1 a) : Own σ d a := by
  obtain ⟨i, p, y, e, f⟩ := h
  obtain ⟨z, e'⟩ := x.own i p y e
  exact ⟨i, p, z, e', f⟩
theorem Ext.trans (x : Ext H F σ d H1 F1 d1) (y : Ext H1 F1 σ d1 H2 F2 d2) : Ext H F σ d H2 F2 d2 where
  keep := fun a o h n => y.keep a o (x.keep a o h n) fun q => n (x.ownSub q)
  sub := fun a h => y.sub a (x.sub a h)
  new := fun a h => by
    rcases y.new a h with h | h | h
    · exact x.new a h
    · exact .inr (.inl (x.dom a h))
    · exact .inr (.inr (x.ownSub h))
  dom := fun a h => x.dom a (y.dom a h)
  own := fun i p z h => by
    obtain ⟨w, e⟩ := y.own i p z h
    exact x.own i p w e
  imm := fun i z h => y.imm i z (x.imm i z h)
  emp := fun i h => y.emp i (x.emp i h)
  len := y.len.trans x.len
theorem SRel.ownOb (S : SRel K C H F σ d) {a : Addr} (h : Own σ d a) : ¬ F a ∧ ∃ o x, H a = some o ∧ ObR K H F o x := by
  obtain ⟨i, p, x, e, f⟩ := h
  obtain ⟨b, g, ⟨nf, o, hb, r⟩, _⟩ := S.own i p x e
  rw [f] at g; cases g
  exact ⟨nf, o, x, hb, r⟩
theorem SRel.ownTup (S : SRel K C H F σ d) {a : Addr} (h : Own σ d a) {xs : List V} (e : H a = some (.tup xs)) : False := by
  obtain ⟨_, o, x, e2, r⟩ := S.ownOb h
  rw [e] at e2; cases e2
  exact r.noTup rfl
theorem SRel.ownFrz (S : SRel K C H F σ d) {a : Addr} (h : Own σ d a) {b : Obj} {u : HO} (e : H a = some (.frz b u)) : False := by
  obtain ⟨_, o, x, e2, r⟩ := S.ownOb h
  rw [e] at e2; cases e2
  exact r.noFrz rfl
theorem SRel.ownNone (S : SRel K C H F σ d) {a : Addr} (h : Own σ d a) (e : H a = none) : False := by
  obtain ⟨_, o, x, e2, r⟩ := S.ownOb h
  rw [e] at e2; cases e2
theorem Ext.sx (x : Ext H F σ d H1 F1 d1) (S : SRel K C H F σ d) : SX H F H1 F1 :=
  ⟨fun a o f h => x.keep a o h fun q => (S.ownOb q).1 f, fun a xs h => x.keep a _ h (fun q => S.ownTup q h),
   fun a o u h => x.keep a _ h (fun q => S.ownFrz q h), x.sub⟩
theorem Ext.pure (hH : ∀ a o, H a = some o → H1 a = some o) : Ext H F σ d H1 F d :=
  ⟨fun a o h _ => hH a o h, fun _ h => h, fun _ h => .inl h, (fun a h => by
    cases e : H a with
    | none => rfl
    | some o => rw [hH a o e] at h; cases h), fun _ _ x h => ⟨x, h⟩, fun _ _ h => h, fun _ h => h, rfl⟩
theorem SX.grow (hH : ∀ a o, H a = some o → H1 a = some o) : SX H F H1 F := ⟨fun a o _ h => hH a o h, fun a xs h => hH a _ h, fun a o u h => hH a _ h, fun _ h => h⟩
/-- new objects alone -/
theorem SRel.grow (S : SRel K C H F σ d) (hH : ∀ a o, H a = some o → H1 a = some o) : SRel K C H1 F σ d := by
  have hn : ∀ a, H1 a = none → H a = none := fun a h => by
    cases e : H a with
    | none => rfl
    | some o => rw [hH a o e] at h; cases h
  refine ⟨S.len, fun i x e => ?_, fun i p x e => ?_, S.inj, fun a f => ?_, S.fnew, S.fsub, fun a o h n => hH a o (S.frame a o h n), fun a h => S.dom a (hn a h)⟩
  · obtain ⟨v, h1, h2⟩ := S.imm i x e
    exact ⟨v, h1, h2.mono (SX.grow hH) _ _⟩
  · obtain ⟨a, h1, ⟨nf, o, h2, h3⟩, h4⟩ := S.own i p x e
    exact ⟨a, h1, ⟨nf, o, hH _ _ h2, h3.mono (SX.grow hH)⟩, h4⟩
  · intro h
    exact S.fdom a f (hn a h)

/-- an expression's value; Hs: the heap ahead of the expression -/
def RelRV (K : PySem.W.Frag) (Hs H : Hp) (F : Addr → Prop) (σ : L2.St) (d : DS) (v : V) : RV → Prop
  | .val false x => Rp K H F v x
  | .val true x => (isLst x = false ∧ Rp K H F v x) ∨ ∃ a o, v = .ref a ∧ H a = some o ∧ ObR K H F o x ∧ ¬ F a ∧ ¬ Own σ d a ∧ Hs a = none
  | .bor i => σ[i]? = some (some v)
theorem RelRV.mono {Hs : Hp} {v : V} {rv : RV} (R : RelRV K Hs H F σ d v rv) (S : SRel K C H F σ d) (x : Ext H F σ d H1 F1 d1) : RelRV K Hs H1 F1 σ d1 v rv := by
  have sx := x.sx S
  match rv, R with
  | .val false y, R => exact Rp.mono sx _ _ R
  | .val true y, .inl ⟨h1, h2⟩ => exact .inl ⟨h1, Rp.mono sx _ _ h2⟩
  | .val true y, .inr ⟨a, o, e1, h, r, nf, no, h0⟩ =>
    refine .inr ⟨a, o, e1, x.keep _ _ h no, r.mono sx, fun f => ?_, fun q => no (x.ownSub q), h0⟩
    rcases x.new a f with q | q | q
    · exact nf q
    · rw [h] at q; cases q
    · exact no q
  | .bor i, R => exact R
theorem RelRV.hs {Hs Hs' : Hp} {v : V} {rv : RV} (R : RelRV K Hs H F σ d v rv) (h : ∀ a, Hs a = none → Hs' a = none) : RelRV K Hs' H F σ d v rv := by
  match rv, R with
  | .val false y, R => exact R
  | .val true y, .inl q => exact .inl q
  | .val true y, .inr ⟨a, o, e1, h1, r, nf, no, h0⟩ => exact .inr ⟨a, o, e1, h1, r, nf, no, h a h0⟩
  | .bor i, R => exact R
/-- .. as an operand -/
theorem RelRV.opd {Hs : Hp} {v : V} {rv : RV} {x : D} (R : RelRV K Hs H F σ d v rv) (S : SRel K C H F σ d) (e : opd d rv = some x) : RpO K H F v x := by
  match rv, R with
  | .val false y, R => cases e; exact .inl R
  | .val true y, .inl ⟨_, R⟩ => cases e; exact .inl R
  | .val true y, .inr ⟨a, o, e1, h, r, _⟩ => cases e; exact .inr ⟨a, o, e1, h, r⟩
  | .bor i, R =>
    have R' : σ[i]? = some (some v) := R
    dsimp only [DL.opd] at e
    cases q : d[i]? with
    | none => rw [q] at e; cases e
    | some sl =>
      rw [q] at e
      cases sl with
      | emp => cases e
      | imm y =>
        cases e
        obtain ⟨w, h1, h2⟩ := S.imm i _ q
        rw [R'] at h1; cases h1
        exact .inl h2
      | own p y =>
        cases e
        obtain ⟨a, h1, ⟨_, o, h2, h3⟩, _⟩ := S.own i p _ q
        rw [R'] at h1; cases h1
        exact .inr ⟨a, o, rfl, h2, h3⟩
theorem get_set {α : Type} {l : List α} {i j : Nat} {x y : α} (h : (l.set i x)[j]? = some y) : (i = j ∧ y = x ∧ i < l.length) ∨ (i ≠ j ∧ l[j]? = some y) := by
  by_cases e : i = j
  · subst e
    have hi : i < l.length := by
      have := (List.getElem?_eq_some_iff.mp h).1
      simpa using this
    rw [List.getElem?_set_self hi] at h
    cases h
    exact .inl ⟨rfl, rfl, hi⟩
  · rw [List.getElem?_set_ne e] at h
    exact .inr ⟨e, h⟩
/-- an address is frozen that nobody changes -/
theorem frz_sx {a : Addr} : SX H F H (fun b => F b ∨ b = a) := ⟨fun _ _ _ h => h, fun _ _ h => h, fun _ _ _ h => h, fun _ h => .inl h⟩
theorem SRel.freeze (S : SRel K C H F σ d) {a : Addr} {u : HO} (h : H a = some u) (h0 : C.H0 a = none) (no : ¬ Own σ d a) : SRel K C H (fun b => F b ∨ b = a) σ d := by
  refine ⟨S.len, fun i z q => ?_, fun i p z q => ?_, S.inj, fun b f => ?_, fun b f => ?_, fun b f => .inl (S.fsub b f), S.frame, S.dom⟩
  · obtain ⟨w, h1, h2⟩ := S.imm i z q
    exact ⟨w, h1, h2.mono frz_sx _ _⟩
  · obtain ⟨b, h1, ⟨nf', o, h2, h3⟩, h4⟩ := S.own i p z q
    refine ⟨b, h1, ⟨fun f => ?_, o, h2, h3.mono frz_sx⟩, h4⟩
    rcases f with f | f
    · exact nf' f
    · subst f; exact no ⟨i, p, z, q, h1⟩
  · rcases f with f | f
    · exact S.fdom b f
    · subst f; rw [h]; intro z; cases z
  · rcases f with f | f
    · exact S.fnew b f
    · subst f; exact .inr h0
/-- .. to be kept: F grows -/
theorem RelRV.fz {v : V} {rv : RV} {x : D} (S : SRel K C H F σ d) (X : Ext H F σ d H1 F1 d1) (S1 : SRel K C H1 F1 σ d1) (R : RelRV K H H1 F1 σ d1 v rv) (e : fz d1 rv = some (x, d2)) :
    ∃ F2, Ext H F σ d H1 F2 d2 ∧ SRel K C H1 F2 σ d2 ∧ Rp K H1 F2 v x := by
  match rv, R with
  | .val false y, R => cases e; exact ⟨F1, X, S1, R⟩
  | .val true y, .inl ⟨_, R⟩ => cases e; exact ⟨F1, X, S1, R⟩
  | .val true y, .inr ⟨a, o, e1, h, r, nf, no, h0⟩ =>
    cases e
    refine ⟨fun b => F1 b ∨ b = a, ⟨X.keep, fun b f => .inl (X.sub b f), fun b f => ?_, X.dom, X.own, X.imm, X.emp, X.len⟩, S1.freeze h (S.dom a h0) no, ?_⟩
    · rcases f with f | f
      · exact X.new b f
      · subst f; exact .inr (.inl h0)
    · subst e1
      exact (r.mono frz_sx).rp (.inr rfl) h
  | .bor i, R =>
    have R' : σ[i]? = some (some v) := R
    dsimp only [DL.fz] at e
    cases q : d1[i]? with
    | none => rw [q] at e; cases e
    | some sl =>
      rw [q] at e
      cases sl with
      | emp => cases e
      | imm y =>
        cases e
        obtain ⟨w, h1, h2⟩ := S1.imm i _ q
        rw [R'] at h1; cases h1
        exact ⟨F1, X, S1, h2⟩
      | own p y =>
        cases p with
        | true => cases e
        | false =>
          cases e
          obtain ⟨a, h1, ⟨nf, o, h2, h3⟩, h4⟩ := S1.own i _ _ q
          rw [R'] at h1; cases h1
          have hi : i < d1.length := (List.getElem?_eq_some_iff.mp q).1
          have h4' : C.H0 a = none := h4
          have oth : ∀ (j : Nat) (p : Bool) (z : D), (d1.set i (.imm x))[j]? = some (.own p z) → i ≠ j ∧ d1[j]? = some (.own p z) := fun j p z g => by
            rcases get_set g with ⟨_, g, _⟩ | g
            · cases g
            · exact g
          refine ⟨fun b => F1 b ∨ b = a, ⟨X.keep, fun b f => .inl (X.sub b f), fun b f => ?_, X.dom, fun j p z g => X.own j p z (oth j p z g).2, fun j z g => ?_, fun j g => ?_, by rw [List.length_set]; exact X.len⟩,
            ⟨by rw [List.length_set]; exact S1.len, fun j z g => ?_, fun j p z g => ?_, fun j k p p' z z' b g1 g2 => S1.inj j k p p' z z' b (oth _ _ _ g1).2 (oth _ _ _ g2).2, fun b f => ?_, fun b f => ?_, fun b f => .inl (S1.fsub b f), S1.frame, S1.dom⟩, ?_⟩
          · rcases f with f | f
            · exact X.new b f
            · subst f
              obtain ⟨z, ez⟩ := X.own i _ _ q
              exact .inr (.inr ⟨i, _, z, ez, R'⟩)
          · have g' := X.imm j z g
            by_cases ej : i = j
            · subst ej; rw [q] at g'; cases g'
            · rw [List.getElem?_set_ne ej]; exact g'
          · have g' := X.emp j g
            by_cases ej : i = j
            · subst ej; rw [q] at g'; cases g'
            · rw [List.getElem?_set_ne ej]; exact g'
          · rcases get_set g with ⟨ge, g2, _⟩ | ⟨_, g⟩
            · cases g2; subst ge
              exact ⟨_, R', (h3.mono frz_sx).rp (.inr rfl) h2⟩
            · obtain ⟨w, h5, h6⟩ := S1.imm j z g
              exact ⟨w, h5, h6.mono frz_sx _ _⟩
          · obtain ⟨ne, g⟩ := oth j p z g
            obtain ⟨b, h5, ⟨nf', o', h6, h7⟩, h8⟩ := S1.own j p z g
            refine ⟨b, h5, ⟨fun f => ?_, o', h6, h7.mono frz_sx⟩, h8⟩
            rcases f with f | f
            · exact nf' f
            · subst f; exact ne (S1.inj i j _ _ _ _ _ q g R' h5)
          · rcases f with f | f
            · exact S1.fdom b f
            · subst f; rw [h2]; intro z; cases z
          · rcases f with f | f
            · exact S1.fnew b f
            · subst f; exact .inr h4'
          · exact (h3.mono frz_sx).rp (.inr rfl) h2

/-! ### a result that is new -/
def New (K : PySem.W.Frag) (H : Hp) (F : Addr → Prop) (H' : Hp) (v : V) (res : D) : Prop :=
  (∀ a o, H a = some o → H' a = some o) ∧ ((isLst res = false ∧ Rp K H' F v res) ∨ ∃ p o, v = .ref p ∧ H p = none ∧ H' p = some o ∧ ObR K H' F o res)
theorem New.fin {Hs : Hp} {v : V} {res : D} (S : SRel K C H F σ d) (hs : ∀ a, H a = none → Hs a = none) (n : New K H F H1 v res) : Ext H F σ d H1 F d ∧ SRel K C H1 F σ d ∧ RelRV K Hs H1 F σ d v (.val true res) := by
  obtain ⟨hH, r⟩ := n
  refine ⟨Ext.pure hH, S.grow hH, ?_⟩
  rcases r with r | ⟨p, o, e1, h, h', r⟩
  · exact .inl r
  · exact .inr ⟨p, o, e1, h', r, fun f => S.fdom p f h, fun q => S.ownNone q h, hs p h⟩
theorem New.same {v : V} {res : D} (h : isLst res = false) (r : Rp K H F v res) : New K H F H v res := ⟨fun _ _ h => h, .inl ⟨h, r⟩⟩
theorem grow_upd {p : Addr} {o : HO} (h : H p = none) : ∀ a u, H a = some u → upd H p o a = some u := fun a u e => by
  rw [upd_ne (ne_of_none e h)]; exact e
theorem New.lst {p : Addr} {vs : List V} {ds : List D} (h : H p = none) (r : RpAll K H F vs ds) : New K H F (upd H p (.lst vs)) (.ref p) (.list ds) :=
  ⟨grow_upd h, .inr ⟨p, _, rfl, h, upd_same, .lst (r.mono (SX.grow (grow_upd h)) _ _)⟩⟩
theorem New.dct {p : Addr} (h : H p = none) : New K H F (upd H p (.dT [])) (.ref p) (dctT []) :=
  ⟨grow_upd h, .inr ⟨p, _, rfl, h, upd_same, .dct .nil⟩⟩
theorem New.tup {p : Addr} {o : Obj} {vs : List V} {ds : List D} (h : H p = none) (ho : o.dict = none) (r : RpAll K H F vs ds) : New K H F (upd H p (.frz o (.tup vs))) (.ref p) (.tuple ds) :=
  ⟨grow_upd h, .inl ⟨rfl, .tup (.inl ⟨o, upd_same, ho⟩) (r.mono (SX.grow (grow_upd h)) _ _)⟩⟩
theorem keyI_int (k : List Int) : keyI (.list (k.map .int)) = some k := by
  show allInts (k.map .int) = some k
  induction k with
  | nil => rfl
  | cons a t ih => rw [List.map_cons, allInts, ih]; rfl
theorem inl_inj {a b : List Int} (h : a.map (Sum.inl : Int → L2.Key) = b.map Sum.inl) : a = b := by
  induction a generalizing b with
  | nil => cases b with
    | nil => rfl
    | cons => cases h
  | cons x t ih => cases b with
    | nil => cases h
    | cons y u =>
      rw [List.map_cons, List.map_cons] at h
      injection h with h1 h2
      injection h1 with h1
      rw [h1, ih h2]
theorem DAll.get {k : List Int} : ∀ {es : List (D × D)} {ks : List (List L2.Key × V)}, DAll K H F ks es →
    (∀ y, getI k es = some y → ∃ v, valV ks (k.map Sum.inl) = some v ∧ Rp K H F v y) ∧ (getI k es = none → valV ks (k.map Sum.inl) = none)
  | _, _, .nil => ⟨(fun y h => nomatch h), fun _ => rfl⟩
  | _, _, .cons (k := k') (v := v) (d := d) (ks := ks) (es := es) r t => by
    rw [getI, keyI_int]
    by_cases e : k' = k
    · subst e
      rw [if_pos rfl]
      exact ⟨fun y h => ⟨v, valV_pos rfl, by cases h; exact r⟩, (fun h => nomatch h)⟩
    · rw [if_neg (fun h => e (Option.some.inj h)), valV_neg (fun h => e (inl_inj h))]
      exact DAll.get t
theorem DAll.keys {k : List Int} {v : V} {y : D} (r : Rp K H F v y) : ∀ {es : List (D × D)} {ks : List (List L2.Key × V)}, DAll K H F ks es →
    DAll K H F (ks.map fun kv => if kv.1 = k.map Sum.inl then (kv.1, v) else kv) (es.map fun p => if keyI p.1 = some k then (p.1, y) else p)
  | _, _, .nil => .nil
  | _, _, .cons (k := k') (v := v') (d := d) (ks := ks) (es := es) r' t => by
    rw [List.map_cons, List.map_cons]
    dsimp only
    rw [keyI_int]
    by_cases e : k' = k
    · subst e
      rw [if_pos rfl, if_pos rfl]
      exact .cons r (DAll.keys r t)
    · rw [if_neg (fun h => e (Option.some.inj h)), if_neg (fun h => e (inl_inj h))]
      exact .cons r' (DAll.keys r t)
theorem DAll.snoc {k : List Int} {v : V} {y : D} (r : Rp K H F v y) : ∀ {es : List (D × D)} {ks : List (List L2.Key × V)}, DAll K H F ks es → DAll K H F (ks ++ [(k.map Sum.inl, v)]) (es ++ [(.list (k.map .int), y)])
  | _, _, .nil => .cons r .nil
  | _, _, .cons r' t => .cons r' (DAll.snoc r t)
theorem DAll.length : ∀ {es : List (D × D)} {ks : List (List L2.Key × V)}, DAll K H F ks es → ks.length = es.length
  | _, _, .nil => rfl
  | _, _, .cons _ t => by rw [List.length_cons, List.length_cons, DAll.length t]
theorem DAll.put {k : List Int} {v : V} {y : D} {es : List (D × D)} {ks : List (List L2.Key × V)} (r : Rp K H F v y) (h : DAll K H F ks es) : DAll K H F (putK ks (k.map Sum.inl) v) (putI k y es) := by
  unfold putK putI
  obtain ⟨g1, g2⟩ := h.get (k := k)
  rw [valV_any]
  cases e : getI k es with
  | none =>
    rw [g2 e]
    exact h.snoc r
  | some z =>
    obtain ⟨u, g3, _⟩ := g1 z e
    rw [g3]
    exact h.keys r
end
end DL
/-! DL3: the operators and built-ins of the evaluator are those of the model. -/
namespace DL
open PySem PySem.Spec PyProof.Rows L2

section
variable {K : PySem.W.Frag} {H : Hp} {F : Addr → Prop} {v : V}
theorem RpO.int {i : Int} (h : RpO K H F v (.int i)) : v = .int i := by
  rcases h with h | ⟨_, _, _, _, e⟩
  · cases h; rfl
  · cases e
theorem RpO.bool {b : Bool} (h : RpO K H F v (.bool b)) : v = .bl b := by
  rcases h with h | ⟨_, _, _, _, e⟩
  · cases h; rfl
  · cases e
theorem RpO.str {x : Str} (h : RpO K H F v (.str x)) : v = .str x := by
  rcases h with h | ⟨_, _, _, _, e⟩
  · cases h; rfl
  · cases e
theorem RpO.non (h : RpO K H F v .none) : v = .non := by
  rcases h with h | ⟨_, _, _, _, e⟩
  · cases h; rfl
  · cases e
theorem RpO.lst {ds : List D} (h : RpO K H F v (.list ds)) : ∃ a vs, v = .ref a ∧ H a = some (.lst vs) ∧ RpAll K H F vs ds := by
  rcases h with h | ⟨a, o, e1, h1, h2⟩
  · cases h with
    | lst f r a => exact ⟨_, _, rfl, r, a⟩
  · obtain ⟨vs, rfl, r⟩ := h2.list
    exact ⟨a, vs, e1, h1, r⟩
theorem RpO.dct {es : List (D × D)} (h : RpO K H F v (.dict ((.none, .bool true) :: es))) : ∃ a ks, v = .ref a ∧ H a = some (.dT ks) ∧ DAll K H F ks es := by
  rcases h with h | ⟨a, o, e1, h1, h2⟩
  · cases h with
    | dct f r a => exact ⟨_, _, rfl, r, a⟩
  · cases h2 with
    | dct r => exact ⟨a, _, e1, h1, r⟩
theorem RpO.tup {ds : List D} (h : RpO K H F v (.tuple ds)) : ∃ a vs, v = .ref a ∧ TupS K H a vs ∧ RpAll K H F vs ds := by
  rcases h with h | ⟨_, _, _, _, e⟩
  · cases h with
    | tup r a => exact ⟨_, _, rfl, r, a⟩
  · cases e
theorem RpO.scr {ds : List D} (h : RpO K H F v (.dict [(.none, .list ds)])) : ∃ a vs, v = .ref a ∧ SqL K H a vs ∧ RpAll K H F vs ds := by
  rcases h with h | ⟨_, _, _, _, e⟩
  · cases h with
    | scr r a => exact ⟨_, _, rfl, r.sq, a⟩
  · cases e
mutual
theorem Rp.dp : ∀ (d : D) (v : V), nd d = true → Rp K H F v d → Dp K H v d
  | .none, _, _, h => by cases h; exact .non
  | .bool b, _, _, h => by cases h; exact .bl b
  | .int i, _, _, h => by cases h; exact .int i
  | .str s, _, _, h => by cases h; exact .str s
  | .list ds, _, n, h => by
    cases h with
    | lst f r a => exact .lst (.inl (.inl r)) (RpAll.dp ds _ n a)
  | .tuple ds, _, n, h => by
    cases h with
    | tup r a => exact .tup r.sq (RpAll.dp ds _ n a)
  | .dict _, _, n, _ => by cases n
theorem RpAll.dp : ∀ (ds : List D) (vs : List V), ndAll ds = true → RpAll K H F vs ds → DpAll K H vs ds
  | [], _, _, h => by cases h; exact .nil
  | d :: ds, _, n, h => by
    cases h with
    | cons a b =>
      have n' : (nd d && ndAll ds) = true := n
      rw [Bool.and_eq_true] at n'
      exact .cons (Rp.dp d _ n'.1 a) (RpAll.dp ds _ n'.2 b)
end
theorem RpO.dp {d : D} (n : nd d = true) (h : RpO K H F v d) : Dp K H v d := by
  rcases h with h | ⟨a, o, rfl, h1, h2⟩
  · exact Rp.dp d v n h
  · cases h2 with
    | lst r => exact .lst (.inl (.inl h1)) (RpAll.dp _ _ n r)
    | dct r => cases n
theorem RpAll.ints : ∀ {ds : List D} {ns : List Int} {vs : List V}, allInts ds = some ns → RpAll K H F vs ds → vs = ns.map V.int ∧ ds = ns.map .int
  | [], _, _, e, h => by cases e; cases h; exact ⟨rfl, rfl⟩
  | d :: ds, ns, _, e, h => by
    cases h with
    | cons a b =>
      cases d with
      | int i =>
        cases a
        have e' : (allInts ds).map (i :: ·) = some ns := e
        cases q : allInts ds with
        | none => rw [q] at e'; cases e'
        | some ms =>
          rw [q] at e'
          cases e'
          obtain ⟨r1, r2⟩ := RpAll.ints q b
          exact ⟨by rw [r1]; rfl, by rw [r2]; rfl⟩
      | _ => cases e
theorem RpAll.ofInts : ∀ ns : List Int, RpAll K H F (ns.map V.int) (ns.map .int)
  | [] => .nil
  | n :: ns => .cons (.int n) (RpAll.ofInts ns)
theorem RpAll.bools : ∀ {ds : List D} {ns : List Bool} {vs : List V}, allBools ds = some ns → RpAll K H F vs ds → vs = ns.map V.bl
  | [], _, _, e, h => by cases e; cases h; rfl
  | d :: ds, ns, _, e, h => by
    cases h with
    | cons a b =>
      cases d with
      | bool i =>
        cases a
        have e' : (allBools ds).map (i :: ·) = some ns := e
        cases q : allBools ds with
        | none => rw [q] at e'; cases e'
        | some ms =>
          rw [q] at e'
          cases e'
          rw [RpAll.bools q b]; rfl
      | _ => cases e
end

/-- an operator by values -/
def rO2 (K : PySem.W.Frag) (o : O2) : R2 := fun x y H Q => ∃ F dx dy res, RpO K H F x dx ∧ RpO K H F y dy ∧ o.run dx dy = some res ∧ ∀ v H', New K H F H' v res → Q v H'
def rO1 (K : PySem.W.Frag) (o : O1) : V → Hp → VK → Prop := fun x H Q => ∃ F dx res, RpO K H F x dx ∧ o.run dx = some res ∧ ∀ v H', New K H F H' v res → Q v H'
section
variable {X : Cx}
theorem ite_some {p : Prop} [Decidable p] {α : Type} {a b : α} (h : (if p then some a else none) = some b) : p ∧ a = b := by
  split at h
  · cases h; exact ⟨by assumption, rfl⟩
  · cases h
/-- t + u, what is made is told -/
theorem op_catF : OpR X (binaryOp .Add) (fun x y H Q => ∃ a b xs ys, x = .ref a ∧ y = .ref b ∧ SqT X.K H a xs ∧ SqT X.K H b ys ∧ xs.length + ys.length ≤ sizeLine ∧
    (xs = [] → Q (.ref b) H) ∧ (xs ≠ [] → ys = [] → Q (.ref a) H) ∧ (xs ≠ [] → ys ≠ [] → ∀ p o, H p = none → o.dict = none → Q (.ref p) (upd H p (.frz o (.tup (xs ++ ys)))))) := by
  intro pins s σ H x y v u Q I rx ry h
  obtain ⟨a, b, xs, ys, rfl, rfl, ha, hb, hz, q0, q1, q2⟩ := h
  cases rx
  cases ry
  obtain ⟨its, r1, p1, _⟩ := I.tuple ha
  obtain ⟨its2, r2, p2, _⟩ := I.tuple hb
  by_cases hx : xs = []
  · subst hx
    cases r1
    exact cat_tup0 p1 p2 ⟨.ref b, H, I, rfl, q0 rfl⟩
  · refine HT.cat_tup p1 p2 (fun z => hx (r1.nil_iff.mp z)) (fun z => ⟨.ref a, H, I, rfl, q1 hx (r2.nil_iff.mp z)⟩) (fun z => ?_) (by rw [← r1.length, ← r2.length]; exact hz)
    refine ⟨.ref s.heap.objs.size, _, I.laid (t' := s.toks) (o := .frz _ (.tup (xs ++ ys))) (fun b ob q => Heap.get?_push_of_some _ q) (Nat.le_refl _) ⟨Heap.get?_push_size _ rfl, ?_⟩, rfl, q2 hx (fun w => z (r2.nil_iff.mpr w)) _ _ (I.hok.fresh (Nat.le_refl _)) rfl⟩
    exact ⟨by rw [List.length_append]; exact hz, _, r1.append r2, IsTup.new _ _⟩

theorem opr_add : OpR X (binaryOp .Add) (rO2 X.K .add) := by
  intro pins s σ H x y v u Q I rx ry ⟨F, dx, dy, res, hx, hy, e, q⟩
  cases dx with
  | int a =>
    cases dy with
    | int b => cases e; exact op_add pins s σ H x y v u Q I rx ry ⟨a, b, hx.int, hy.int, q _ _ (New.same rfl (.int _))⟩
    | _ => cases e
  | str a =>
    cases dy with
    | str b =>
      obtain ⟨hl, rfl⟩ := ite_some e
      exact op_add_str pins s σ H x y v u Q I rx ry ⟨a, b, hx.str, hy.str, hl, q _ _ (New.same rfl (.str _))⟩
    | _ => cases e
  | list a =>
    cases dy with
    | list b =>
      obtain ⟨hl, rfl⟩ := ite_some e
      obtain ⟨p, vs, rfl, h1, r1⟩ := hx.lst
      obtain ⟨p', ws, rfl, h2, r2⟩ := hy.lst
      exact op_cat pins s σ H _ _ v u Q I rx ry ⟨p, p', vs, ws, rfl, rfl, h1, h2, by rw [r1.length, r2.length]; exact hl, fun p hp => q _ _ (New.lst hp (r1.append r2))⟩
    | _ => cases e
  | tuple a =>
    cases dy with
    | tuple b =>
      obtain ⟨hl, rfl⟩ := ite_some e
      obtain ⟨p, vs, rfl, h1, r1⟩ := hx.tup
      obtain ⟨p', ws, rfl, h2, r2⟩ := hy.tup
      refine op_catF pins s σ H _ _ v u Q I rx ry ⟨p, p', vs, ws, rfl, rfl, h1.sq, h2.sq, by rw [r1.length, r2.length]; exact hl, fun z => ?_, fun _ z => ?_, fun _ _ p o hp ho => q _ _ (New.tup hp ho (r1.append r2))⟩
      · subst z; cases r1
        exact q _ _ (New.same rfl (.tup h2 r2))
      · subst z; cases r2
        rw [List.append_nil] at q
        exact q _ _ (New.same rfl (.tup h1 r1))
    | _ => cases e
  | _ => cases e
theorem opr_sub : OpR X (binaryOp .Sub) (rO2 X.K .sub) := by
  intro pins s σ H x y v u Q I rx ry ⟨F, dx, dy, res, hx, hy, e, q⟩
  cases dx with
  | int a =>
    cases dy with
    | int b => cases e; exact op_sub pins s σ H x y v u Q I rx ry ⟨a, b, hx.int, hy.int, q _ _ (New.same rfl (.int _))⟩
    | _ => cases e
  | _ => cases e
theorem small_of {i : Int} (h : small i = true) : -(2 ^ 64) < i ∧ i < 2 ^ 64 := by
  unfold small at h
  rw [Bool.and_eq_true] at h
  exact ⟨of_decide_eq_true h.1, of_decide_eq_true h.2⟩
theorem RpAll.rep {K : PySem.W.Frag} {H : Hp} {F : Addr → Prop} {vs : List V} {ds : List D} (r : RpAll K H F vs ds) : ∀ n : Nat, RpAll K H F (List.replicate n vs).flatten (List.replicate n ds).flatten
  | 0 => .nil
  | n + 1 => by
    rw [List.replicate_succ, List.flatten_cons, List.replicate_succ, List.flatten_cons]
    exact r.append (RpAll.rep r n)
theorem opr_mul : OpR X (binaryOp .Mult) (rO2 X.K .mul) := by
  intro pins s σ H x y v u Q I rx ry ⟨F, dx, dy, res, hx, hy, e, q⟩
  cases dx with
  | int a =>
    cases dy with
    | int b =>
      obtain ⟨hl, rfl⟩ := ite_some e
      refine op_mul pins s σ H x y v u Q I rx ry ⟨a, b, hx.int, hy.int, ?_, q _ _ (New.same rfl (.int _))⟩
      rcases Bool.or_eq_true _ _ ▸ hl with h | h
      · exact .inl (small_of h)
      · exact .inr (small_of h)
      | _ => cases e
  | list a =>
    cases dy with
    | int b =>
      obtain ⟨⟨h1, h2, h3, h4⟩, rfl⟩ := ite_some e
      obtain ⟨p, vs, rfl, g1, r1⟩ := hx.lst
      have hl := r1.length
      refine op_rep pins s σ H _ y v u Q I rx ry ⟨p, b, vs, rfl, hy.int, g1, by omega, by omega, ?_, fun p hp => q _ _ (New.lst hp (r1.rep _))⟩
      rw [sizeLine_eq]
      have := Nat.mul_le_mul (show vs.length ≤ 1000 by omega) (show b.toNat ≤ 1000 by omega)
      omega
    | _ => cases e
  | tuple a =>
    cases dy with
    | int b =>
      obtain ⟨⟨h1, h2, h3, h4⟩, rfl⟩ := ite_some e
      obtain ⟨p, vs, rfl, g1, r1⟩ := hx.tup
      have hl := r1.length
      refine op_repF pins s σ H _ y v u Q I rx ry ⟨p, b, vs, rfl, hy.int, g1.sq, fun z => ?_, h1, h2, by omega, fun z => ?_, fun p o hp ho => q _ _ (New.tup hp ho (r1.rep _))⟩
      · subst z
        exact h3 (List.eq_nil_of_length_eq_zero hl.symm)
      · subst z
        refine q _ _ (New.same rfl (.tup g1 ?_))
        rw [show (List.replicate (1 : Int).toNat a).flatten = a from by show (a :: []).flatten = a; rw [List.flatten_cons, List.flatten_nil, List.append_nil]]
        exact r1
    | _ => cases e
  | _ => cases e
theorem opr_fdiv : OpR X (binaryOp .FloorDiv) (rO2 X.K .fdiv) := by
  intro pins s σ H x y v u Q I rx ry ⟨F, dx, dy, res, hx, hy, e, q⟩
  cases dx with
  | int a =>
    cases dy with
    | int b =>
      obtain ⟨hl, rfl⟩ := ite_some e
      exact op_fdivN pins s σ H x y v u Q I rx ry ⟨a, b, hx.int, hy.int, hl, q _ _ (New.same rfl (.int _))⟩
    | _ => cases e
  | _ => cases e
theorem opr_mod : OpR X (binaryOp .Mod) (rO2 X.K .mod) := by
  intro pins s σ H x y v u Q I rx ry ⟨F, dx, dy, res, hx, hy, e, q⟩
  cases dx with
  | int a =>
    cases dy with
    | int b =>
      obtain ⟨hl, rfl⟩ := ite_some e
      exact op_modN pins s σ H x y v u Q I rx ry ⟨a, b, hx.int, hy.int, hl, q _ _ (New.same rfl (.int _))⟩
    | _ => cases e
  | _ => cases e
theorem shp_of {d : D} (h : shp d = true) : nd d = true ∧ SeqAt.shaped d = true := by
  unfold shp at h
  rwa [Bool.and_eq_true] at h
theorem opr_eq (hu : X.A.units + 64 < cLine) : OpR X (compareOp .Eq) (rO2 X.K .eq) := by
  intro pins s σ H x y v u Q I rx ry ⟨F, dx, dy, res, hx, hy, e, q⟩
  have e' : (if (bothS dx dy || (shp dx && shp dy)) = true then some (PyData.bool (PyData.eqv dx dy)) else none) = some res := by
    cases dx <;> cases dy <;> exact e
  obtain ⟨hl, rfl⟩ := ite_some e'
  cases hb : bothS dx dy with
  | true =>
    match dx, dy, hb with
    | .str i, .str j, _ =>
      refine op_eq pins s σ H x y v u Q I rx ry ⟨by rw [hx.str, hy.str]; rfl, ?_⟩
      rw [hx.str, hy.str, dec_str]
      have h2 := q _ _ (New.same rfl (.bl _))
      unfold PyData.eqv at h2
      exact h2
  | false =>
  rw [hb, Bool.false_or, Bool.and_eq_true] at hl
  exact op_eqD hu pins s σ H x y v u Q I rx ry ⟨dx, dy, hx.dp (shp_of hl.1).1, hy.dp (shp_of hl.2).1, (shp_of hl.1).2, (shp_of hl.2).2, q _ _ (New.same rfl (.bl _))⟩
theorem opr_ne (hu : X.A.units + 64 < cLine) : OpR X (compareOp .NotEq) (rO2 X.K .ne) := by
  intro pins s σ H x y v u Q I rx ry ⟨F, dx, dy, res, hx, hy, e, q⟩
  have e' : (if (bothS dx dy || (shp dx && shp dy)) = true then some (PyData.bool (!PyData.eqv dx dy)) else none) = some res := by
    cases dx <;> cases dy <;> exact e
  obtain ⟨hl, rfl⟩ := ite_some e'
  cases hb : bothS dx dy with
  | true =>
    match dx, dy, hb with
    | .str i, .str j, _ =>
      refine op_ne pins s σ H x y v u Q I rx ry ⟨by rw [hx.str, hy.str]; rfl, ?_⟩
      rw [hx.str, hy.str, dec_str]
      have h2 := q _ _ (New.same rfl (.bl _))
      unfold PyData.eqv at h2
      exact h2
  | false =>
  rw [hb, Bool.false_or, Bool.and_eq_true] at hl
  exact op_neD hu pins s σ H x y v u Q I rx ry ⟨dx, dy, hx.dp (shp_of hl.1).1, hy.dp (shp_of hl.2).1, (shp_of hl.1).2, (shp_of hl.2).2, q _ _ (New.same rfl (.bl _))⟩
theorem opr_lt : OpR X (compareOp .Lt) (rO2 X.K .lt) := by
  intro pins s σ H x y v u Q I rx ry ⟨F, dx, dy, res, hx, hy, e, q⟩
  cases dx with
  | int a =>
    cases dy with
    | int b => cases e; exact op_lt pins s σ H x y v u Q I rx ry ⟨a, b, hx.int, hy.int, q _ _ (New.same rfl (.bl _))⟩
    | _ => cases e
  | _ => cases e
theorem opr_le : OpR X (compareOp .LtE) (rO2 X.K .le) := by
  intro pins s σ H x y v u Q I rx ry ⟨F, dx, dy, res, hx, hy, e, q⟩
  cases dx with
  | int a =>
    cases dy with
    | int b => cases e; exact op_le pins s σ H x y v u Q I rx ry ⟨a, b, hx.int, hy.int, q _ _ (New.same rfl (.bl _))⟩
    | _ => cases e
  | _ => cases e
theorem opr_gt : OpR X (compareOp .Gt) (rO2 X.K .gt) := by
  intro pins s σ H x y v u Q I rx ry ⟨F, dx, dy, res, hx, hy, e, q⟩
  cases dx with
  | int a =>
    cases dy with
    | int b => cases e; exact op_gt pins s σ H x y v u Q I rx ry ⟨a, b, hx.int, hy.int, q _ _ (New.same rfl (.bl _))⟩
    | _ => cases e
  | _ => cases e
theorem opr_ge : OpR X (compareOp .GtE) (rO2 X.K .ge) := by
  intro pins s σ H x y v u Q I rx ry ⟨F, dx, dy, res, hx, hy, e, q⟩
  cases dx with
  | int a =>
    cases dy with
    | int b => cases e; exact op_ge pins s σ H x y v u Q I rx ry ⟨a, b, hx.int, hy.int, q _ _ (New.same rfl (.bl _))⟩
    | _ => cases e
  | _ => cases e
/-- x in a tuple of data -/
theorem op_inTD (hu : X.A.units + 65 < cLine) : OpR X (compareOp .In) (fun x y H Q => ∃ d ds, Dp X.K H x d ∧ Dp X.K H y (.tuple ds) ∧ SeqAt.shaped d = true ∧ SeqAt.shaped (.tuple ds) = true ∧ Q (.bl (ds.any fun z => PyData.eqv z d)) H) := by
  intro pins s σ H x y v u Q I rx ry h
  obtain ⟨d, ds, hd, he, sd, se, q⟩ := h
  obtain ⟨as, r1⟩ := Dp.reads I d x v hd rx
  obtain ⟨bs, r2⟩ := Dp.reads I (.tuple ds) y u he ry
  exact SeqAt.in_tuple_reads r2 r1 (SeqAt.canLay_of_shaped se) (SeqAt.canLay_of_shaped sd) (room_in_shaped sd hu) ⟨.bl _, H, I, rfl, q⟩
theorem op_notInTD (hu : X.A.units + 65 < cLine) : OpR X (compareOp .NotIn) (fun x y H Q => ∃ d ds, Dp X.K H x d ∧ Dp X.K H y (.tuple ds) ∧ SeqAt.shaped d = true ∧ SeqAt.shaped (.tuple ds) = true ∧ Q (.bl (!ds.any fun z => PyData.eqv z d)) H) := by
  intro pins s σ H x y v u Q I rx ry h
  obtain ⟨d, ds, hd, he, sd, se, q⟩ := h
  obtain ⟨as, r1⟩ := Dp.reads I d x v hd rx
  obtain ⟨bs, r2⟩ := Dp.reads I (.tuple ds) y u he ry
  exact SeqAt.notIn_tuple_reads r2 r1 (SeqAt.canLay_of_shaped se) (SeqAt.canLay_of_shaped sd) (room_in_shaped sd hu) ⟨.bl _, H, I, rfl, q⟩
theorem opr_in (hu : X.A.units + 65 < cLine) : OpR X (compareOp .In) (rO2 X.K .isin) := by
  intro pins s σ H x y v u Q I rx ry ⟨F, dx, dy, res, hx, hy, e, q⟩
  cases dy with
  | list xs =>
    have e' : (if (shp dx && shp (.list xs)) = true then some (PyData.bool (xs.any fun z => PyData.eqv z dx)) else none) = some res := by
      cases dx <;> exact e
    obtain ⟨hl, rfl⟩ := ite_some e'
    rw [Bool.and_eq_true] at hl
    exact op_inD hu pins s σ H x y v u Q I rx ry ⟨dx, xs, hx.dp (shp_of hl.1).1, hy.dp (shp_of hl.2).1, (shp_of hl.1).2, (shp_of hl.2).2, q _ _ (New.same rfl (.bl _))⟩
  | tuple xs =>
    have e' : (if (shp dx && shp (.tuple xs)) = true then some (PyData.bool (xs.any fun z => PyData.eqv z dx)) else none) = some res := by
      cases dx <;> exact e
    obtain ⟨hl, rfl⟩ := ite_some e'
    rw [Bool.and_eq_true] at hl
    exact op_inTD hu pins s σ H x y v u Q I rx ry ⟨dx, xs, hx.dp (shp_of hl.1).1, hy.dp (shp_of hl.2).1, (shp_of hl.1).2, (shp_of hl.2).2, q _ _ (New.same rfl (.bl _))⟩
  | _ => cases dx <;> cases e
theorem opr_notin (hu : X.A.units + 65 < cLine) : OpR X (compareOp .NotIn) (rO2 X.K .notin) := by
  intro pins s σ H x y v u Q I rx ry ⟨F, dx, dy, res, hx, hy, e, q⟩
  cases dy with
  | list xs =>
    have e' : (if (shp dx && shp (.list xs)) = true then some (PyData.bool (!xs.any fun z => PyData.eqv z dx)) else none) = some res := by
      cases dx <;> exact e
    obtain ⟨hl, rfl⟩ := ite_some e'
    rw [Bool.and_eq_true] at hl
    exact op_notInD hu pins s σ H x y v u Q I rx ry ⟨dx, xs, hx.dp (shp_of hl.1).1, hy.dp (shp_of hl.2).1, (shp_of hl.1).2, (shp_of hl.2).2, q _ _ (New.same rfl (.bl _))⟩
  | tuple xs =>
    have e' : (if (shp dx && shp (.tuple xs)) = true then some (PyData.bool (!xs.any fun z => PyData.eqv z dx)) else none) = some res := by
      cases dx <;> exact e
    obtain ⟨hl, rfl⟩ := ite_some e'
    rw [Bool.and_eq_true] at hl
    exact op_notInTD hu pins s σ H x y v u Q I rx ry ⟨dx, xs, hx.dp (shp_of hl.1).1, hy.dp (shp_of hl.2).1, (shp_of hl.1).2, (shp_of hl.2).2, q _ _ (New.same rfl (.bl _))⟩
  | _ => cases dx <;> cases e

theorem opr_neg : UnR X (unaryOp .USub) (rO1 X.K .neg) := by
  intro pins s σ H x v Q I rx ⟨F, dx, res, hx, e, q⟩
  cases dx with
  | int a => cases e; exact un_neg pins s σ H x v Q I rx ⟨a, hx.int, q _ _ (New.same rfl (.int _))⟩
  | _ => cases e

/-! ### subscripts -/
def rIdx (K : PySem.W.Frag) : R2 := fun x y H Q => ∃ F dx dy res, RpO K H F x dx ∧ RpO K H F y dy ∧ idxD dx dy = some res ∧ ∀ v, Rp K H F v res → Q v H
theorem atI_get {K : PySem.W.Frag} {H : Hp} {F : Addr → Prop} {vs : List V} {ds : List D} {i : Int} {r : D} (h : RpAll K H F vs ds) (e : atI ds i = some r) : ∃ v, atI vs i = some v ∧ Rp K H F v r := by
  unfold atI at e ⊢
  rw [h.length]
  cases q : ixN ds.length i with
  | none => rw [q] at e; cases e
  | some j =>
    rw [q] at e
    exact h.get e
theorem ixr_idx : IxR X (rIdx X.K) := by
  intro value slice pins s σ H x y v u Q I rx ry ⟨F, dx, dy, res, hx, hy, e, q⟩ hs
  cases dx with
  | list xs =>
    cases dy with
    | int i =>
      obtain ⟨a, vs, rfl, h1, r⟩ := hx.lst
      obtain ⟨w, h2, h3⟩ := atI_get r e
      exact ix_list value slice pins s σ H _ y v u Q I rx ry ⟨a, vs, i, w, rfl, hy.int, .inl (.inl h1), h2, q w h3⟩ hs
    | _ => cases e
  | tuple xs =>
    cases dy with
    | int i =>
      obtain ⟨a, vs, rfl, h1, r⟩ := hx.tup
      obtain ⟨w, h2, h3⟩ := atI_get r e
      exact ix_tup value slice pins s σ H _ y v u Q I rx ry ⟨a, vs, i, w, rfl, hy.int, h1.sq, h2, q w h3⟩ hs
    | _ => cases e
  | _ => cases e
def rSli (K : PySem.W.Frag) : V → Option Int → Option Int → Hp → VK → Prop := fun x lo hi H Q => ∃ F dx res, RpO K H F x dx ∧ sliD dx lo hi = some res ∧ ∀ v H', New K H F H' v res → Q v H'
theorem RpAll.cut {K : PySem.W.Frag} {H : Hp} {F : Addr → Prop} {vs : List V} {ds : List D} (h : RpAll K H F vs ds) (lo hi : Option Int) : RpAll K H F (cutV vs lo hi) (sliceD ds lo hi) := by
  unfold cutV sliceD
  rw [h.length]
  exact (h.drop _).take _
theorem sl_tupF : SlR X (fun x lo hi H Q => ∃ a xs, x = .ref a ∧ SqT X.K H a xs ∧
    (HT.sIx xs.length 0 lo = 0 ∧ HT.sIx xs.length xs.length hi = xs.length → Q (.ref a) H) ∧ (¬ (HT.sIx xs.length 0 lo = 0 ∧ HT.sIx xs.length xs.length hi = xs.length) → ∀ p o, H p = none → o.dict = none → Q (.ref p) (upd H p (.frz o (.tup (cutV xs lo hi)))))) := by
  intro pins s σ H x v vl vu lo hi sl Q I rx hs pl pu h
  obtain ⟨a, xs, rfl, hx, q1, q2⟩ := h
  cases rx
  obtain ⟨its, r, ht, hz⟩ := I.tuple hx
  have hlen : its.toArray.size = xs.length := by rw [List.size_toArray]; exact r.length.symm
  refine ⟨"tuple", _, PyProof.Rows.slot_tuple_getitem.lookup, ht.typeIs, ?_⟩
  by_cases hw : HT.sIx xs.length 0 lo = 0 ∧ HT.sIx xs.length xs.length hi = xs.length
  · exact getItem_tuple_whole ht hs pl pu (by rw [hlen]; exact hw) ⟨.ref a, H, I, rfl, q1 hw⟩
  · refine HT.getItem_tuple_cut ht hs pl pu (by rw [hlen]; exact hw) ?_ (by rw [hlen]; exact hz)
    rw [hlen]
    refine ⟨.ref s.heap.objs.size, _, I.laid (t' := s.toks) (o := .frz _ (.tup (cutV xs lo hi))) (fun b ob q => Heap.get?_push_of_some _ q) (Nat.le_refl _) ⟨Heap.get?_push_size _ rfl, ?_⟩, rfl, q2 hw _ _ (I.hok.fresh (Nat.le_refl _)) rfl⟩
    exact ⟨Nat.le_trans (cutV_length xs lo hi) hz, _, (r.drop (HT.sIx xs.length 0 lo)).take (HT.sIx xs.length xs.length hi - HT.sIx xs.length 0 lo), IsTup.new _ _⟩
theorem slr_sli : SlR X (rSli X.K) := by
  intro pins s σ H x v vl vu lo hi sl Q I rx hs pl pu ⟨F, dx, res, hx, e, q⟩
  match dx, hx, e with
  | .list xs, hx, e =>
    cases e
    obtain ⟨a, vs, rfl, h1, r⟩ := hx.lst
    exact sl_list pins s σ H _ v vl vu lo hi sl Q I rx hs pl pu ⟨a, vs, rfl, .inl (.inl h1), fun p hp => q _ _ (New.lst hp (r.cut lo hi))⟩
  | .dict [(.none, .list xs)], hx, e =>
    cases e
    obtain ⟨a, vs, rfl, h1, r⟩ := hx.scr
    exact sl_list pins s σ H _ v vl vu lo hi sl Q I rx hs pl pu ⟨a, vs, rfl, h1, fun p hp => q _ _ (New.lst hp (r.cut lo hi))⟩
  | .tuple xs, hx, e =>
    cases e
    obtain ⟨a, vs, rfl, h1, r⟩ := hx.tup
    refine sl_tupF pins s σ H _ v vl vu lo hi sl Q I rx hs pl pu ⟨a, vs, rfl, h1.sq, fun w => ?_, fun _ p o hp ho => q _ _ (New.tup hp ho (r.cut lo hi))⟩
    refine q _ _ (New.same rfl (.tup h1 ?_))
    have hl := r.length
    have e : sliceD xs lo hi = xs := by
      unfold sliceD
      rw [← hl, w.1, w.2, List.drop_zero, Nat.sub_zero, hl, List.take_length]
    rw [e]; exact r
  | .str z, hx, e =>
    obtain ⟨hz, rfl⟩ := ite_some e
    exact sl_str pins s σ H _ v vl vu lo hi sl Q I rx hs pl pu ⟨z, by rw [hx.str], hz, q _ _ (New.same rfl (.str _))⟩
end
end DL
/-! DL4: the built-ins by name. -/
namespace DL
open PySem PySem.Spec PyProof.Rows L2

inductive RpOs (K : PySem.W.Frag) (H : Hp) (F : Addr → Prop) : List V → List D → Prop
  | nil : RpOs K H F [] []
  | cons {v : V} {vs : List V} {d : D} {ds : List D} : RpO K H F v d → RpOs K H F vs ds → RpOs K H F (v :: vs) (d :: ds)
theorem RpOs.one {K : PySem.W.Frag} {H : Hp} {F : Addr → Prop} {vs : List V} {d : D} (h : RpOs K H F vs [d]) : ∃ v, vs = [v] ∧ RpO K H F v d := by
  cases h with
  | cons a b => cases b; exact ⟨_, rfl, a⟩
theorem RpOs.two {K : PySem.W.Frag} {H : Hp} {F : Addr → Prop} {vs : List V} {d e : D} (h : RpOs K H F vs [d, e]) : ∃ v w, vs = [v, w] ∧ RpO K H F v d ∧ RpO K H F w e := by
  cases h with
  | cons a b =>
    obtain ⟨w, rfl, c⟩ := RpOs.one b
    exact ⟨_, w, rfl, a, c⟩
def rB (K : PySem.W.Frag) (f : B1) : List V → Hp → VK → Prop := fun xs H Q => ∃ F ds res, RpOs K H F xs ds ∧ f.run ds = some res ∧ ∀ v H', New K H F H' v res → Q v H'

/-! ### sorted of a list or a tuple of data -/
theorem alikeAll_of {xs : List D} (h : (xs.all fun x => xs.all fun y => PySem.W.alike x y) = true) : PySem.W.AllAlike xs := fun d hd e he => by
  rw [List.all_eq_true] at h
  have h2 := h d hd
  rw [List.all_eq_true] at h2
  exact h2 e he
theorem sortable_of {xs : List D} (h : (xs.all isTup1 || xs.all isFlat1) = true) : PySem.W.Sortable xs := by
  rw [Bool.or_eq_true, List.all_eq_true, List.all_eq_true] at h
  rcases h with h | h
  · refine .inl fun d hd => ?_
    have q := h d hd
    match d, q with
    | .tuple (x :: r), _ => exact ⟨x, r, rfl⟩
  · refine .inr fun d hd => ⟨?_, ?_⟩
    · rintro rfl; exact Bool.noConfusion (h _ hd)
    · rintro ys rfl; exact Bool.noConfusion (h _ hd)
section
variable {prog : Program} {w : World} {A : Around} {E : Value → Shared → Prop} {s : Shared}
theorem sorted_call {it : Addr} {T : String} {o : Obj} {vs : List Value} {n : Nat} {ps : List (V × D)} {Q : Value → Shared → Prop} (hT : T = "list" ∨ T = "tuple") (ho : s.heap.get? it = some o) (hc : o.cls = .type T) (hd : o.data = .seq vs.toArray n)
    (e : PySem.W.EachIs (fun u (p : V × D) => RelV p.1 u) vs ps) (er : PySem.W.EachIs (fun u (p : V × D) => ∃ as, Reads s.heap u p.2 as) vs ps) (hal : PySem.W.AllAlike (ps.map Prod.snd)) (hk : PySem.W.Sortable (ps.map Prod.snd)) (hL : ps.length ≤ sizeLine)
    (hu : ∀ b, b ∈ ps → A.units + 2 + b.2.depth < cLine)
    (h : ∀ (h1 h' : Heap) (out : List Value) (c : Nat), (∀ b u, s.heap.get? b = some u → h1.get? b = some u) → (∀ b u, h1.get? b = some u → h'.get? b = some u) → h'.get? h1.objs.size = some { cls := .type "list", data := .seq out.toArray c } → out.length = ps.length →
      PySem.W.EachIs (fun u (p : V × D) => RelV p.1 u) out (ps.mergeSort (PySem.W.dataLe false Prod.snd)) → Q (.ref h1.objs.size) { s with heap := h' }) :
    wpAny (model prog w) A (call (.builtin "sorted") [.ref it]) Q E s := by
  have hL' : vs.length ≤ sizeLine := by rw [e.length]; exact hL
  refine PySem.Calls.call_function_entry kind_sorted plain_sorted entry_sorted (args_sorted1 _) ?_
  unfold Builtin.«sorted»
  refine wpAny_bind (m := checkCount "sorted" 1 1 _) (wpAny_pure ?_)
  refine wpAny_bind (wpAny_collect_seq it hT ho hc hd (fun h1 k1 => ?_) (by rw [List.size_toArray]; exact hL'))
  rw [List.toList_toArray]
  refine wpAny_bind (wpAny_newList ?_ hL')
  generalize hb : ({ s with heap := h1 } : Shared).heap.objs.size = a
  generalize hs2 : ({ { s with heap := h1 } with heap := ({ s with heap := h1 } : Shared).heap.push (seqObj "list" vs.toArray 0) } : Shared) = s2
  have hb' : h1.objs.size = a := hb
  have e2 : s2.heap = h1.push (seqObj "list" vs.toArray 0) := by rw [← hs2]
  have hoL : s2.heap.get? a = some (seqObj "list" vs.toArray 0) := by
    rw [e2, ← hb']; exact Heap.get?_push_size _ rfl
  have k2 : ∀ b u, s.heap.get? b = some u → s2.heap.get? b = some u := fun b u q => by
    rw [e2]; exact Heap.get?_push_of_some _ (k1 b u q)
  have er2 : PySem.W.EachIs (fun u (p : V × D) => ∃ as, Reads (PySem.W.sortingHeap s2.heap a vs) u p.2 as) vs ps := er.mono fun u p ⟨as, r⟩ => ⟨as, PyProof.Rows.Reads.keeps (fun b ob q => PySem.W.sortingHeap_old (fun z => Nat.lt_irrefl _ (show h1.objs.size < h1.objs.size by rw [← hb'] at z; exact z ▸ Heap.lt_size (k1 b ob q))) (k2 b ob q)) r⟩
  refine wpAny_bind (wpAny_holding (wpAny_call_entry slot_list_sort ⟨_, hoL, rfl⟩ entry_list_sort
    (PySem.W.list_sort_vals (κ := PySem.W.dataKind (PySem.W.sortingHeap s2.heap a vs) (ps.map Prod.snd)) hoL (PySem.W.SortsAt.data (s := { s2 with heap := PySem.W.sortingHeap s2.heap a vs }) (PySem.W.each_map (R := fun v d => ∃ as, Reads (PySem.W.sortingHeap s2.heap a vs) v d as) Prod.snd er2) hal hk (PySem.W.bound_map hu)) hL' ⟨_, rfl, ?_⟩) (args_list_sort _)))
  refine wpAny_pure ⟨_, rfl, ?_⟩
  have hrel := PySem.W.sortVals_data (R := fun u (p : V × D) => RelV p.1 u) (h' := PySem.W.sortingHeap s2.heap a vs) false e er2 hal
  obtain ⟨c, hc⟩ := sortedHeap_at (vs := vs) (out := (PySem.W.sortVals (PySem.W.dataKind (PySem.W.sortingHeap s2.heap a vs) (ps.map Prod.snd)) false vs vs).toArray) hoL
  have fin := h h1 (sortedHeap s2.heap a vs (PySem.W.sortVals (PySem.W.dataKind (PySem.W.sortingHeap s2.heap a vs) (ps.map Prod.snd)) false vs vs).toArray) (PySem.W.sortVals (PySem.W.dataKind (PySem.W.sortingHeap s2.heap a vs) (ps.map Prod.snd)) false vs vs) c k1
    (fun b u q => by
      have hlt := Heap.lt_size q
      have hq : s2.heap.get? b = some u := by rw [e2]; exact Heap.get?_push_of_some _ q
      rw [sortedHeap_old (fun z => Nat.lt_irrefl _ (show h1.objs.size < h1.objs.size by rw [← hb'] at z; exact z ▸ hlt)) (Heap.lt_size hq)]
      exact hq) (by rw [hb']; exact hc) (by rw [PySem.W.sortVals_length false rfl]; exact e.length) hrel
  rw [hb'] at fin
  subst hs2
  exact fin
end

theorem each1 : ∀ {vs : List V} {us : List Value} {ds : List D}, Vals vs us → ds.length = vs.length → PySem.W.EachIs (fun u (p : V × D) => RelV p.1 u) us (vs.zip ds)
  | _, _, [], .nil, _ => .nil
  | _, _, _ :: _, .nil, h => by cases h
  | _, _, [], .cons _ _, h => by cases h
  | _, _, d :: ds, .cons r t, h => .cons r (each1 t (by simpa using h))
theorem each2 {X : Cx} {pins : List (Addr × Obj)} {σ : L2.St} {H : Hp} {s : Shared} (I : Inv X pins σ H s) : ∀ {ds : List D} {vs : List V} {us : List Value}, Vals vs us → DpAll X.K H vs ds → PySem.W.EachIs (fun u (p : V × D) => ∃ as, Reads s.heap u p.2 as) us (vs.zip ds)
  | [], _, _, r, h => by cases h; cases r; exact .nil
  | d :: ds, _, _, r, h => by
    cases h with
    | cons h1 h2 =>
      cases r with
      | cons r1 r2 => exact .cons (Dp.reads I d _ _ h1 r1) (each2 I r2 h2)
theorem each_vals : ∀ {us : List Value} {ps : List (V × D)}, PySem.W.EachIs (fun u (p : V × D) => RelV p.1 u) us ps → Vals (ps.map Prod.fst) us
  | _, _, .nil => .nil
  | _, _, .cons r t => .cons r (each_vals t)
theorem RpAll.ofMem {K : PySem.W.Frag} {H : Hp} {F : Addr → Prop} : ∀ {ps : List (V × D)}, (∀ p ∈ ps, Rp K H F p.1 p.2) → RpAll K H F (ps.map Prod.fst) (ps.map Prod.snd)
  | [], _ => .nil
  | p :: ps, h => .cons (h p List.mem_cons_self) (RpAll.ofMem fun q hq => h q (List.mem_cons_of_mem _ hq))
theorem RpAll.mem {K : PySem.W.Frag} {H : Hp} {F : Addr → Prop} : ∀ {vs : List V} {ds : List D}, RpAll K H F vs ds → ∀ p ∈ vs.zip ds, Rp K H F p.1 p.2
  | _, _, .nil, p, h => by cases h
  | _, _, .cons r t, p, h => by
    rcases List.mem_cons.mp h with e | h
    · rw [e]; exact r
    · exact RpAll.mem t p h
theorem RpAll.sorted {K : PySem.W.Frag} {H : Hp} {F : Addr → Prop} {vs : List V} {ds : List D} (h : RpAll K H F vs ds) :
    RpAll K H F (((vs.zip ds).mergeSort (PySem.W.dataLe false Prod.snd)).map Prod.fst) (sortD ds) := by
  have e : ((vs.zip ds).mergeSort (PySem.W.dataLe false Prod.snd)).map Prod.snd = sortD ds := by
    rw [PySem.W.sort_maps (r := PySem.W.dataLe false Prod.snd) (s := PySem.W.dataLe false id) Prod.snd (fun _ _ _ _ => rfl), List.map_snd_zip (by rw [h.length]; exact Nat.le_refl _)]
    rfl
  rw [← e]
  exact RpAll.ofMem fun p hp => h.mem p ((List.mergeSort_perm _ _).mem_iff.mp hp)
theorem depth_of {xs : List D} (h : xs.all (fun x => decide (x.depth ≤ 64)) = true) {A : Around} (hu : A.units + 66 < cLine) {vs : List V} (hl : vs.length = xs.length) : ∀ b, b ∈ vs.zip xs → A.units + 2 + b.2.depth < cLine := fun b hb => by
  rw [List.all_eq_true] at h
  have q := of_decide_eq_true (h b.2 (List.of_mem_zip hb).2)
  omega

section
variable {X : Cx}
theorem callr_sorted (hu : X.A.units + 66 < cLine) : CallR X (.builtin "sorted") (rB X.K .sorted) := by
  intro pins s σ H xs us Q I r ⟨F, ds, res, hx, e, q⟩
  have key : ∀ (a : Addr) (vs : List V) (ys : List D) (its : List Value) (T : String) (o : Obj) (n : Nat), xs = [.ref a] → RpAll X.K H F vs ys → Vals vs its → (T = "list" ∨ T = "tuple") → s.heap.get? a = some o → o.cls = .type T → o.data = .seq its.toArray n → vs.length ≤ sizeLine →
      (if sortOk ys = true then some (PyData.list (sortD ys)) else none) = some res → wpAny (model X.prog X.w) X.A (call (.builtin "sorted") us) (EP X pins σ Q) X.xe s := by
    intro a vs ys its T o n ex ha rv hT ho hc hd hz e
    obtain ⟨hk, rfl⟩ := ite_some e
    subst ex
    rw [Vals.ref1 r]
    have hk' : ((((ys.all fun x => ys.all fun y => PySem.W.alike x y) && (ys.all isTup1 || ys.all isFlat1)) && ys.all (fun x => decide (x.depth ≤ 64))) && ndAll ys) = true := hk
    rw [Bool.and_eq_true, Bool.and_eq_true, Bool.and_eq_true] at hk'
    obtain ⟨⟨⟨k1, k2⟩, k3⟩, k4⟩ := hk'
    have hl := ha.length
    have em : (vs.zip ys).map Prod.snd = ys := List.map_snd_zip (by rw [hl]; exact Nat.le_refl _)
    have ez : (vs.zip ys).length = vs.length := by rw [List.length_zip, ← hl, Nat.min_self]
    refine sorted_call hT ho hc hd (each1 rv hl.symm) (each2 I rv (RpAll.dp ys vs k4 ha)) (by rw [em]; exact alikeAll_of k1) (by rw [em]; exact sortable_of k2) (by rw [ez]; exact hz) (depth_of k3 hu hl) fun h1 h' out c g1 g2 g3 g4 g5 => ?_
    have I1 : Inv X pins σ H { s with heap := h1 } := I.kept (t' := s.toks) g1
    have hn : H h1.objs.size = none := I1.hok.fresh (Nat.le_refl _)
    have hv := each_vals g5
    have hlen : (((vs.zip ys).mergeSort (PySem.W.dataLe false Prod.snd)).map Prod.fst).length ≤ sizeLine := by
      rw [List.length_map, List.length_mergeSort, ez]; exact hz
    exact ⟨.ref h1.objs.size, _, I1.laid (t' := s.toks) (o := .lst _) g2 (Nat.le_refl _) ⟨hlen, out, c, hv, g3⟩, rfl, q _ _ (New.lst hn ha.sorted)⟩
  match ds, hx, e with
  | [.list ys], hx, e =>
    obtain ⟨v, rfl, hv⟩ := hx.one
    obtain ⟨a, vs, rfl, h1, ha⟩ := hv.lst
    obtain ⟨its, rv, ⟨o, n, ho, hc, _, hd⟩, hz⟩ := I.list (.inl (.inl h1))
    exact key a vs ys its "list" o n rfl ha rv (.inl rfl) ho hc hd hz e
  | [.tuple ys], hx, e =>
    obtain ⟨v, rfl, hv⟩ := hx.one
    obtain ⟨a, vs, rfl, h1, ha⟩ := hv.tup
    obtain ⟨its, rv, ⟨o, ho, hc, n, hd⟩, hz⟩ := I.tuple h1.sq
    exact key a vs ys its "tuple" o n rfl ha rv (.inr rfl) ho hc hd hz e
/-- repr, where no repr is under way -/
theorem callr_repr (hu : X.A.units + 66 < cLine) (hg : X.A.guards = some []) : CallR X (.builtin "repr") (rB X.K .repr) := by
  intro pins s σ H xs us Q I r ⟨F, ds, res, hx, e, q⟩
  match ds, hx, e with
  | [d], hx, e =>
    obtain ⟨hc, rfl⟩ := ite_some (show (if (shp d && d.showable && decide (d.shown.length ≤ sizeLine)) = true then some (PyData.str d.shown) else none) = some res from e)
    rw [Bool.and_eq_true, Bool.and_eq_true, decide_eq_true_eq] at hc
    obtain ⟨⟨c1, c2⟩, c3⟩ := hc
    obtain ⟨n1, n2⟩ := shp_of c1
    obtain ⟨v, rfl, hv⟩ := hx.one
    obtain ⟨u, rfl, r1⟩ := vals1 r
    obtain ⟨as, rd⟩ := Dp.reads I d v u (hv.dp n1) r1
    have sh : (d.canLay0 && decide (d.depth ≤ 64)) = true := n2
    rw [Bool.and_eq_true, decide_eq_true_eq] at sh
    have fin : ∀ (h' : Heap) (t tk : Tok), (∀ b o, s.heap.get? b = some o → h'.get? b = some o) → EP X pins σ Q (.str d.shown t) { s with heap := h', toks := tk } := fun h' t tk k =>
      ⟨.str d.shown, H, I.kept (t' := tk) k, ⟨t, rfl⟩, q _ _ (New.same rfl (.str _))⟩
    have same : ∀ b o, s.heap.get? b = some o → s.heap.get? b = some o := fun _ _ z => z
    cases rd with
    | none => exact PySem.P.repr_of_none (fin s.heap _ _ same)
    | bool b => exact PySem.P.repr_of_bool (fin s.heap _ _ same)
    | int i t => exact PySem.P.repr_of_int (of_decide_eq_true c2) (fin s.heap _ _ same)
    | str x t => exact PySem.P.repr_of_str (fin s.heap _ _ same) c3
    | list ra rb rc re => exact repr_of_reads' (.list ra rb rc re) c2 (PyData.noDict_hsm (PyData.hasDict_of_canLay _ sh.1)) hg (by omega) same fin c3
    | tuple ra rb rc re => exact repr_of_reads' (.tuple ra rb rc re) c2 (PyData.noDict_hsm (PyData.hasDict_of_canLay _ sh.1)) hg (by omega) same fin c3
    | dict => cases n1
theorem callr_len : CallR X (.builtin "len") (rB X.K .len) := by
  intro pins s σ H xs us Q I r ⟨F, ds, res, hx, e, q⟩
  match ds, hx, e with
  | [.list ys], hx, e =>
    cases e
    obtain ⟨v, rfl, hv⟩ := hx.one
    obtain ⟨a, vs, rfl, h1, ha⟩ := hv.lst
    exact call_len_seq pins s σ H _ us Q I r ⟨a, vs, rfl, .inl (.inl (.inl h1)), by rw [ha.length]; exact q _ _ (New.same rfl (.int _))⟩
  | [.tuple ys], hx, e =>
    cases e
    obtain ⟨v, rfl, hv⟩ := hx.one
    obtain ⟨a, vs, rfl, h1, ha⟩ := hv.tup
    exact call_len_seq pins s σ H _ us Q I r ⟨a, vs, rfl, .inr h1.sq, by rw [ha.length]; exact q _ _ (New.same rfl (.int _))⟩
theorem callr_list : CallR X (.type "list") (rB X.K .list) := by
  intro pins s σ H xs us Q I r ⟨F, ds, res, hx, e, q⟩
  match ds, hx, e with
  | [.list ys], hx, e =>
    cases e
    obtain ⟨v, rfl, hv⟩ := hx.one
    obtain ⟨a, vs, rfl, h1, ha⟩ := hv.lst
    exact call_list_of pins s σ H _ us Q I r ⟨a, vs, rfl, .inl (.inl (.inl h1)), fun l hl => q _ _ (New.lst hl ha)⟩
  | [.dict [(.none, .list ys)]], hx, e =>
    cases e
    obtain ⟨v, rfl, hv⟩ := hx.one
    obtain ⟨a, vs, rfl, h1, ha⟩ := hv.scr
    exact call_list_of pins s σ H _ us Q I r ⟨a, vs, rfl, .inl h1, fun l hl => q _ _ (New.lst hl ha)⟩
  | [.tuple ys], hx, e =>
    cases e
    obtain ⟨v, rfl, hv⟩ := hx.one
    obtain ⟨a, vs, rfl, h1, ha⟩ := hv.tup
    exact call_list_of pins s σ H _ us Q I r ⟨a, vs, rfl, .inr h1.sq, fun l hl => q _ _ (New.lst hl ha)⟩
theorem callr_tuple : CallR X (.type "tuple") (rB X.K .tuple) := by
  intro pins s σ H xs us Q I r ⟨F, ds, res, hx, e, q⟩
  match ds, hx, e with
  | [.list ys], hx, e =>
    cases e
    obtain ⟨v, rfl, hv⟩ := hx.one
    obtain ⟨a, vs, rfl, h1, ha⟩ := hv.lst
    rw [Vals.ref1 r]
    obtain ⟨its, rv, pl, hz⟩ := I.list (.inl (.inl h1))
    refine call_tuple_list pl.isList (fun h' kp => ?_) (by rw [List.size_toArray, ← rv.length]; exact hz)
    have I1 : Inv X pins σ H { s with heap := h' } := I.kept (t' := s.toks) kp
    exact ⟨.ref h'.objs.size, upd H h'.objs.size (.frz { cls := .type "tuple", data := .seq its.toArray } (.tup vs)), I1.laid (t' := s.toks) (fun b o e => Heap.get?_push_of_some _ e) (Nat.le_refl _) ⟨Heap.get?_push_size _ rfl, hz, its, rv, IsTup.new _ _⟩, rfl, q _ _ (New.tup (I1.hok.fresh (Nat.le_refl _)) rfl ha)⟩
  | [.tuple ys], hx, e =>
    cases e
    obtain ⟨v, rfl, hv⟩ := hx.one
    obtain ⟨a, vs, rfl, h1, ha⟩ := hv.tup
    exact call_tupleT pins s σ H _ us Q I r ⟨a, vs, rfl, h1.sq, q _ _ (New.same rfl (.tup h1 ha))⟩
theorem callr_abs : CallR X (.builtin "abs") (rB X.K .abs) := by
  intro pins s σ H xs us Q I r ⟨F, ds, res, hx, e, q⟩
  match ds, hx, e with
  | [.int i], hx, e =>
    cases e
    obtain ⟨v, rfl, hv⟩ := hx.one
    exact call_abs pins s σ H _ us Q I r ⟨i, by rw [hv.int], q _ _ (New.same rfl (.int _))⟩
theorem callr_int : CallR X (.type "int") (rB X.K .int) := by
  intro pins s σ H xs us Q I r ⟨F, ds, res, hx, e, q⟩
  match ds, hx, e with
  | [.int i], hx, e =>
    cases e
    obtain ⟨v, rfl, hv⟩ := hx.one
    exact call_int1 pins s σ H _ us Q I r (.inl ⟨i, by rw [hv.int], q _ _ (New.same rfl (.int _))⟩)
  | [.bool b], hx, e =>
    cases e
    obtain ⟨v, rfl, hv⟩ := hx.one
    exact call_int1 pins s σ H _ us Q I r (.inr ⟨b, by rw [hv.bool], q _ _ (New.same rfl (.int _))⟩)
theorem callr_sum (hc : X.calm = true) : CallR X (.builtin "sum") (rB X.K .sum) := by
  intro pins s σ H xs us Q I r ⟨F, ds, res, hx, e, q⟩
  match ds, hx, e with
  | [.list ys], hx, e =>
    obtain ⟨v, rfl, hv⟩ := hx.one
    obtain ⟨a, vs, rfl, h1, ha⟩ := hv.lst
    have e' : (allInts ys).map (fun ns => PyData.int ns.sum) = some res := e
    cases en : allInts ys with
    | none => rw [en] at e'; cases e'
    | some ns =>
      rw [en] at e'
      cases e'
      exact cr_sum hc pins s σ H _ us Q I r ⟨a, ns, rfl, .inl (.inl (by rw [← (ha.ints en).1]; exact h1)), q _ _ (New.same rfl (.int _))⟩
theorem callr_any (hc : X.calm = true) : CallR X (.builtin "any") (rB X.K .any) := by
  intro pins s σ H xs us Q I r ⟨F, ds, res, hx, e, q⟩
  match ds, hx, e with
  | [.list ys], hx, e =>
    obtain ⟨v, rfl, hv⟩ := hx.one
    obtain ⟨a, vs, rfl, h1, ha⟩ := hv.lst
    have e' : (allBools ys).map (fun ns => PyData.bool (ns.any id)) = some res := e
    cases en : allBools ys with
    | none => rw [en] at e'; cases e'
    | some ns =>
      rw [en] at e'
      cases e'
      exact cr_any hc pins s σ H _ us Q I r ⟨a, ns, rfl, .inl (.inl (by rw [← ha.bools en]; exact h1)), q _ _ (New.same rfl (.bl _))⟩
theorem callr_all (hc : X.calm = true) : CallR X (.builtin "all") (rB X.K .all) := by
  intro pins s σ H xs us Q I r ⟨F, ds, res, hx, e, q⟩
  match ds, hx, e with
  | [.list ys], hx, e =>
    obtain ⟨v, rfl, hv⟩ := hx.one
    obtain ⟨a, vs, rfl, h1, ha⟩ := hv.lst
    have e' : (allBools ys).map (fun ns => PyData.bool (ns.all id)) = some res := e
    cases en : allBools ys with
    | none => rw [en] at e'; cases e'
    | some ns =>
      rw [en] at e'
      cases e'
      exact cr_all hc pins s σ H _ us Q I r ⟨a, ns, rfl, .inl (.inl (by rw [← ha.bools en]; exact h1)), q _ _ (New.same rfl (.bl _))⟩
theorem foldMax : ∀ (l : List Int) (x m : Int), x ≤ m → (∀ y ∈ l, y ≤ m) → (m = x ∨ m ∈ l) → l.foldl (fun a b => if b > a then b else a) x = m
  | [], x, m, h1, _, h => by
    rcases h with h | h
    · exact h.symm
    · cases h
  | y :: l, x, m, h1, h2, h => by
    rw [List.foldl_cons]
    have hy := h2 y List.mem_cons_self
    refine foldMax l _ m ?_ (fun z hz => h2 z (List.mem_cons_of_mem _ hz)) ?_
    · split <;> assumption
    · rcases h with h | h
      · left; split
        · omega
        · exact h
      · rcases List.mem_cons.mp h with h | h
        · left; split
          · exact h
          · omega
        · exact .inr h
theorem foldMin : ∀ (l : List Int) (x m : Int), m ≤ x → (∀ y ∈ l, m ≤ y) → (m = x ∨ m ∈ l) → l.foldl (fun a b => if b < a then b else a) x = m
  | [], x, m, h1, _, h => by
    rcases h with h | h
    · exact h.symm
    · cases h
  | y :: l, x, m, h1, h2, h => by
    rw [List.foldl_cons]
    have hy := h2 y List.mem_cons_self
    refine foldMin l _ m ?_ (fun z hz => h2 z (List.mem_cons_of_mem _ hz)) ?_
    · split <;> assumption
    · rcases h with h | h
      · left; split
        · omega
        · exact h
      · rcases List.mem_cons.mp h with h | h
        · left; split
          · exact h
          · omega
        · exact .inr h
theorem maxI_of {ns : List Int} {m : Int} (h1 : m ∈ ns) (h2 : ∀ y ∈ ns, y ≤ m) : maxI ns = some m := by
  cases ns with
  | nil => cases h1
  | cons x l => exact congrArg some (foldMax l x m (h2 x List.mem_cons_self) (fun y hy => h2 y (List.mem_cons_of_mem _ hy)) (List.mem_cons.mp h1))
theorem minI_of {ns : List Int} {m : Int} (h1 : m ∈ ns) (h2 : ∀ y ∈ ns, m ≤ y) : minI ns = some m := by
  cases ns with
  | nil => cases h1
  | cons x l => exact congrArg some (foldMin l x m (h2 x List.mem_cons_self) (fun y hy => h2 y (List.mem_cons_of_mem _ hy)) (List.mem_cons.mp h1))
theorem callr_max (hc : X.calm = true) : CallR X (.builtin "max") (rB X.K .max) := by
  intro pins s σ H xs us Q I r ⟨F, ds, res, hx, e, q⟩
  match ds, hx, e with
  | [.int i, .int j], hx, e =>
    cases e
    obtain ⟨v, w, rfl, hv, hw⟩ := hx.two
    exact call_max2 hc pins s σ H _ us Q I r ⟨i, j, by rw [hv.int, hw.int], q _ _ (New.same rfl (.int _))⟩
  | [.int i, .int j, .int l], hx, e =>
    cases e
    cases hx with
    | cons h1 hx =>
      obtain ⟨v, w, rfl, hv, hw⟩ := hx.two
      have e1 := h1.int
      have e2 := hv.int
      have e3 := hw.int
      subst e1 e2 e3
      cases r with
      | cons r1 r =>
        obtain ⟨u2, u3, rfl, r2, r3⟩ := vals2 r
        obtain ⟨t1, rfl⟩ := r1
        obtain ⟨t2, rfl⟩ := r2
        obtain ⟨t3, rfl⟩ := r3
        refine max_three_ints (I.ok.hd hc) fun h' tk k => ⟨_, H, I.kept k, ?_, q _ _ (New.same rfl (.int _))⟩
        by_cases c1 : j > i
        · rw [if_pos c1, if_pos c1]
          by_cases c2 : l > j
          · rw [if_pos c2, if_pos c2]; exact ⟨_, rfl⟩
          · rw [if_neg c2, if_neg c2]; exact ⟨_, rfl⟩
        · rw [if_neg c1, if_neg c1]
          by_cases c2 : l > i
          · rw [if_pos c2, if_pos c2]; exact ⟨_, rfl⟩
          · rw [if_neg c2, if_neg c2]; exact ⟨_, rfl⟩
  | [.list ys], hx, e =>
    obtain ⟨v, rfl, hv⟩ := hx.one
    obtain ⟨a, vs, rfl, h1, ha⟩ := hv.lst
    have e' : ((allInts ys).bind fun ns => (maxI ns).map .int) = some res := e
    cases en : allInts ys with
    | none => rw [en] at e'; cases e'
    | some ns =>
      rw [en] at e'
      have e2 : (maxI ns).map PyData.int = some res := e'
      refine cr_max hc pins s σ H _ us Q I r ⟨a, ns, rfl, .inl (.inl (by rw [← (ha.ints en).1]; exact h1)), ?_, fun m hm hle => ?_⟩
      · cases ns with
        | nil => cases e2
        | cons => exact Nat.succ_pos _
      · rw [maxI_of hm hle] at e2
        cases e2
        exact q _ _ (New.same rfl (.int _))
theorem callr_min (hc : X.calm = true) : CallR X (.builtin "min") (rB X.K .min) := by
  intro pins s σ H xs us Q I r ⟨F, ds, res, hx, e, q⟩
  match ds, hx, e with
  | [.int i, .int j], hx, e =>
    cases e
    obtain ⟨v, w, rfl, hv, hw⟩ := hx.two
    exact call_min2 hc pins s σ H _ us Q I r ⟨i, j, by rw [hv.int, hw.int], q _ _ (New.same rfl (.int _))⟩
  | [.list ys], hx, e =>
    obtain ⟨v, rfl, hv⟩ := hx.one
    obtain ⟨a, vs, rfl, h1, ha⟩ := hv.lst
    have e' : ((allInts ys).bind fun ns => (minI ns).map .int) = some res := e
    cases en : allInts ys with
    | none => rw [en] at e'; cases e'
    | some ns =>
      rw [en] at e'
      have e2 : (minI ns).map PyData.int = some res := e'
      refine cr_min hc pins s σ H _ us Q I r ⟨a, ns, rfl, .inl (.inl (by rw [← (ha.ints en).1]; exact h1)), ?_, fun m hm hle => ?_⟩
      · cases ns with
        | nil => cases e2
        | cons => exact Nat.succ_pos _
      · rw [minI_of hm hle] at e2
        cases e2
        exact q _ _ (New.same rfl (.int _))
end
end DL
/-! DL5: the translator. -/
namespace DL
open PySem PySem.Spec PyProof.Rows L2

/-- what the translator knows of a def: its names by slot, the slots that hold changed lists, the defs and the constants of the module -/
structure Tc where
  N : List Str
  ow : List Nat
  fn : Str → Option Nat
  gc : Str → Option Nat
  gf : List Nat
  kc : Str → Option Int
  rp : Bool

def okName (x : Str) : Bool := !(x == ("__debug__" : Str)) && !(x == ("__classdict__" : Str)) && !(x == ("__name__" : Str))
def vis (sc : Scope) (x : Str) : Bool := okName x && (match sc.names.lookup x with
  | some .local => true
  | some .cell => true
  | some .free => true
  | _ => false)
def locn (sc : Scope) (x : Str) : Bool := okName x && (match sc.names.lookup x with
  | some .local => true
  | some .cell => true
  | _ => false)
def glob (sc : Scope) (x : Str) : Bool := okName x && decide (sc.names.lookup x = some .globalImplicit)
def slot (T : Tc) (sc : Scope) (x : Str) : Option Nat := if vis sc x then T.N.idxOf? x else none
def slotL (T : Tc) (sc : Scope) (x : Str) : Option Nat := if locn sc x then T.N.idxOf? x else none
def op2 : Operator → Option O2
  | .Add => some .add
  | .Sub => some .sub
  | .Mult => some .mul
  | .FloorDiv => some .fdiv
  | .Mod => some .mod
  | _ => none
def cmp2 : CmpOp → Option O2
  | .Eq => some .eq
  | .NotEq => some .ne
  | .Lt => some .lt
  | .LtE => some .le
  | .Gt => some .gt
  | .GtE => some .ge
  | .In => some .isin
  | .NotIn => some .notin
  | _ => none
/-- no star, no set display, no bare slice -/
def plainE : Expr → Bool
  | .Starred .. => false
  | .Set .. => false
  | .Slice .. => false
  | _ => true
def bltF (rp : Bool) (x : Str) : Option B1 :=
  if x = "len" then some .len else if x = "sorted" then some .sorted else if x = "max" then some .max else if x = "min" then some .min
  else if x = "abs" then some .abs else if x = "sum" then some .sum else if x = "any" then some .any else if x = "all" then some .all else if x = "repr" ∧ rp = true then some .repr else none
def bltT (x : Str) : Option B1 :=
  if x = "list" then some .list else if x = "tuple" then some .tuple else if x = "int" then some .int else none
def tyOf (x : Str) : Option Ty :=
  if x = "tuple" then some .tuple else if x = "list" then some .list else if x = "int" then some .int else if x = "bool" then some .bool else if x = "str" then some .str else none
def ownOf (N : List Str) (scope : Scope) : List (Str × Nat) := scope.names.filterMap fun y => match y.2 with
  | .local => (N.idxOf? y.1).map fun i => (y.1, i)
  | .cell => (N.idxOf? y.1).map fun i => (y.1, i)
  | _ => none

def isRange : Expr → Option (List Expr)
  | .Call (.Name g _) bs [] _ => if g = "range" then some bs else none
  | _ => none
def callOf : Expr → Option (Str × List Expr)
  | .Call (.Name f _) as [] _ => some (f, as)
  | _ => none
/-- sorted(set(e)) -/
def setArg (f : Str) : Expr → Option Expr
  | .Call (.Name g _) [e] [] _ => if f = "sorted" ∧ g = "set" then some e else none
  | _ => none
def isNS : Expr → Bool
  | .Name .. => true
  | .Subscript .. => true
  | _ => false
def isTupE : Expr → Bool
  | .Tuple .. => true
  | _ => false
def oneGen : List Comprehension → Option (Expr × Expr × List Expr)
  | [g] => if g.is_async = 0 then some (g.target, g.iter, g.ifs) else none
  | _ => none
def isName : Expr → Option Str
  | .Name t _ => some t
  | _ => none
/-- an argument that the callee changes -/
def margOf (T : Tc) (sc : Scope) : Expr → Option Nat
  | .Name x _ => (slot T sc x).bind fun i => if i ∈ T.ow then some i else none
  | _ => none
def isMarg : I → Bool
  | .marg _ => true
  | _ => false
/-- the slots of a target -/
def pvars : I → List Nat
  | .var i => [i]
  | .tup ps => pvars ps
  | .cons a b => pvars a ++ pvars b
  | _ => []
mutual
def trE (T : Tc) : Nat → Scope → Expr → Option I
  | 0, _, _ => none
  | n + 1, sc, e => match e with
    | .Constant c _ _ => match c with
      | .none => some .cn
      | .bool b => some (.cb b)
      | .int z => some (.ci z)
      | .str s => some (.cs s.cps.toList)
      | _ => none
    | .Name x _ => match slot T sc x with
      | some i => some (.var i)
      | none => if glob sc x then (match T.kc x with
        | some z => some (.ci z)
        | none => (T.gc x).map .gc) else none
    | .BinOp a op b _ => (op2 op).bind fun o => (trE T n sc a).bind fun a' => (trE T n sc b).map fun b' => .op2 o a' b'
    | .UnaryOp op a _ => match op with
      | .USub => (trE T n sc a).map (.op1 .neg)
      | .Not => (trE T n sc a).map (.op1 .not)
      | _ => none
    | .BoolOp op vs pos => match op, vs with
      | _, [a] => trE T n sc a
      | .And, a :: b :: r => (trE T n sc a).bind fun a' => (trE T n sc (.BoolOp .And (b :: r) pos)).map fun b' => .land a' b'
      | .Or, a :: b :: r => (trE T n sc a).bind fun a' => (trE T n sc (.BoolOp .Or (b :: r) pos)).map fun b' => .lor a' b'
      | _, _ => none
    | .Compare l [op] [c] _ => match op, c with
      | .Is, .Constant .none _ _ => (trE T n sc l).map (.op1 .isN)
      | .IsNot, .Constant .none _ _ => (trE T n sc l).map (.op1 .notN)
      | _, _ => if plainE c then (cmp2 op).bind fun o => (trE T n sc l).bind fun a' => (trE T n sc c).map fun b' => .op2 o a' b' else none
    | .Compare l [op, op'] [b, c] _ => if plainE b && plainE c then (cmp2 op).bind fun o => (cmp2 op').bind fun o' => (trE T n sc l).bind fun a' => (trE T n sc b).bind fun b' => (trE T n sc c).map fun c' => .chain o o' a' b' c' else none
    | .IfExp t a b _ => (trE T n sc t).bind fun t' => (trE T n sc a).bind fun a' => (trE T n sc b).map fun b' => .ifE t' a' b'
    | .Subscript a i _ => match i with
      | .Slice lo hi none _ => (trE T n sc a).bind fun a' => (trO T n sc lo).bind fun l' => (trO T n sc hi).map fun h' => .sli a' l' h'
      | .Tuple es _ _ => (isName a).bind fun x => (slot T sc x).bind fun j => (trL T n sc es).map fun ks => .dget j ks
      | b => if plainE b then (trE T n sc a).bind fun a' => (trE T n sc b).map fun b' => .idx a' b' else none
    | .Dict ks vs _ => match ks, vs with
      | [], [] => some .dnew
      | _, _ => none
    | .Tuple es _ _ => (trL T n sc es).map .tup
    | .List es _ => (trL T n sc es).map .lst
    | .Call (.Name f _) as [] _ => if glob sc f then
        match T.fn f with
        | some g => (trA T n sc as).map (.call g)
        | none => match as with
          | [] => none
          | [a] => match setArg f a with
            | some e => if glob sc "set" && plainE e then (trL T n sc [e]).map (.bi .sset) else none
            | none => match isRange a with
              | some bs => if glob sc "range" then (if f = "tuple" then (trR T n sc bs).map .tupR else if f = "list" then (trR T n sc bs).map .lstR else none) else none
              | none => match bltF T.rp f with
                | some b => (trL T n sc [a]).map (.bi b)
                | none => (bltT f).bind fun b => (trL T n sc [a]).map (.bi b)
          | a :: b :: r => match isName b with
            | some t => if f = "isinstance" && r.isEmpty && glob sc t && plainE a then (tyOf t).bind fun t' => (trE T n sc a).map fun a' => .isI a' t'
                else (bltF T.rp f).bind fun k => (trL T n sc (a :: b :: r)).map (.bi k)
            | none => (bltF T.rp f).bind fun k => (trL T n sc (a :: b :: r)).map (.bi k)
      else match slot T sc f with
        | some i => if as.isEmpty then none else (trA T n sc as).map (.callv T.gf i)
        | none => none
    | .Call (.Attribute o m ap) [a] [] cp => if isNS o && plainE a && (ap.endLine == cp.line) && decide (m = "index") then (trE T n sc o).bind fun o' => (trL T n sc [a]).map fun a' => .meth .index o' a' else none
    | .ListComp elt gs scope _ => match oneGen gs with
      | some (tg, iter, ifs) =>
        if blkC T.N sc scope (ownOf T.N scope) && plainE iter then (trP T n scope tg).bind fun p => (trI T n sc tg iter).bind fun i => (trTs T n scope ifs).bind fun t => (trE T n scope elt).bind fun el =>
          if (pvars p).all (fun j => decide (j ∈ (ownOf T.N scope).map Prod.snd)) then some (I.comp ((ownOf T.N scope).map Prod.snd) p i t el) else none
        else none
      | none => none
    | _ => none
def trTs (T : Tc) : Nat → Scope → List Expr → Option I
  | 0, _, _ => none
  | n + 1, sc, es => match es with
    | [] => some (I.cb true)
    | [c] => trE T n sc c
    | _ => none
def trO (T : Tc) : Nat → Scope → Option Expr → Option I
  | 0, _, _ => none
  | n + 1, sc, e => match e with
    | none => some .nil
    | some e => if plainE e then (trE T n sc e).map fun a => .cons a .nil else none
/-- items of a display, operands -/
def trL (T : Tc) : Nat → Scope → List Expr → Option I
  | 0, _, _ => none
  | n + 1, sc, es => match es with
    | [] => some .nil
    | e :: r => if plainE e then (trE T n sc e).bind fun a => (trL T n sc r).map fun b => .cons a b else none
def trA (T : Tc) : Nat → Scope → List Expr → Option I
  | 0, _, _ => none
  | n + 1, sc, es => match es with
    | [] => some .nil
    | e :: r => if plainE e then (match margOf T sc e with
        | some i => (trA T n sc r).map fun b => I.cons (.marg i) b
        | none => (trE T n sc e).bind fun a => if isMarg a then none else (trA T n sc r).map fun b => I.cons a b) else none
/-- range's arguments -/
def trR (T : Tc) : Nat → Scope → List Expr → Option I
  | 0, _, _ => none
  | n + 1, sc, es => match es with
    | [b] => if plainE b then (trE T n sc b).map fun b' => .rng .nil b' else none
    | [a, b] => if plainE a && plainE b then (trE T n sc a).bind fun a' => (trE T n sc b).map fun b' => .rng (.cons a' .nil) b' else none
    | _ => none
def trI (T : Tc) : Nat → Scope → Expr → Expr → Option I
  | 0, _, _, _ => none
  | n + 1, sc, tg, e => match callOf e with
    | some (f, as) => if glob sc f && f = "range" then (trR T n sc as).map .itR
      else if glob sc f && f = "zip" && isTupE tg then (trL T n sc as).bind fun l => if as.length = 2 then some (.itZ l) else none
      else (trE T n sc e).map .itE
    | none => if plainE e then (trE T n sc e).map .itE else none
/-- a target -/
def trP (T : Tc) : Nat → Scope → Expr → Option I
  | 0, _, _ => none
  | n + 1, sc, e => match e with
    | .Name x _ => (slotL T sc x).map .var
    | .Tuple es _ _ => (trPs T n sc es).map .tup
    | _ => none
def trPs (T : Tc) : Nat → Scope → List Expr → Option I
  | 0, _, _ => none
  | n + 1, sc, es => match es with
    | [] => some .nil
    | e :: r => (trP T n sc e).bind fun a => (trPs T n sc r).map fun b => .cons a b
end
end DL
/-! DL6: readings of expressions by the evaluator. -/
namespace DL
open PySem PySem.Spec PyProof.Rows L2

theorem PE.imp {X : Cx} {e : Expr} {t t' : TE} (h : PE X e t) (k : ∀ σ H Q, t' σ H Q → t σ H Q) : PE X e t' := ⟨fun pins s σ H Q I w => h.run pins s σ H Q I (k σ H Q w)⟩
theorem PT.imp {X : Cx} {e : Expr} {t t' : TT} (h : PT X e t) (k : ∀ σ H Q, t' σ H Q → t σ H Q) : PT X e t' := ⟨fun pins s σ H Q I w => h.run pins s σ H Q I (k σ H Q w)⟩
theorem PW.imp {X : Cx} {e : Expr} {t t' : TT} (h : PW X e t) (k : ∀ σ H Q, t' σ H Q → t σ H Q) : PW X e t' := ⟨fun wh pins s σ H Q I w => h.run wh pins s σ H Q I (k σ H Q w)⟩
theorem PA.imp {X : Cx} {e : List Expr} {t t' : TA} (h : PA X e t) (k : ∀ σ H Q, t' σ H Q → t σ H Q) : PA X e t' := ⟨fun pos pins s σ H Q I w => h.run pos pins s σ H Q I (k σ H Q w)⟩
theorem PS.imp {X : Cx} {e : Stmt} {t t' : TS} (h : PS X e t) (k : ∀ D σ H, t' D σ H → t D σ H) : PS X e t' := ⟨fun pins s σ H D I w => h.run pins s σ H D I (k D σ H w)⟩
theorem PSs.imp {X : Cx} {e : List Stmt} {t t' : TS} (h : PSs X e t) (k : ∀ D σ H, t' D σ H → t D σ H) : PSs X e t' := ⟨fun pins s σ H D I w => h.run pins s σ H D I (k D σ H w)⟩

section
variable (K : PySem.W.Frag)
def GE (ev : DS → R (RV × DS)) : TE := fun σ H Q => ∃ C F d rv d', SRel K C H F σ d ∧ ev d = .ok (rv, d') ∧ ∀ v H' F', Ext H F σ d H' F' d' → SRel K C H' F' σ d' → RelRV K H H' F' σ d' v rv → Q v H'
def GT (ev : DS → R (RV × DS)) : TT := fun σ H Q => ∃ C F d rv d' b, SRel K C H F σ d ∧ ev d = .ok (rv, d') ∧ opd d' rv = some (.bool b) ∧ ∀ H' F', Ext H F σ d H' F' d' → SRel K C H' F' σ d' → Q b H'
def GL (ev : DS → R (List D × DS)) : TA := fun σ H Q => ∃ C F d xs d', SRel K C H F σ d ∧ ev d = .ok (xs, d') ∧ ∀ vs H' F', Ext H F σ d H' F' d' → SRel K C H' F' σ d' → RpAll K H' F' vs xs → Q vs H'
inductive RelRVs (Hs H : Hp) (F : Addr → Prop) (σ : L2.St) (d : DS) : List V → List RV → Prop
  | nil : RelRVs Hs H F σ d [] []
  | cons {v : V} {vs : List V} {r : RV} {rs : List RV} : RelRV K Hs H F σ d v r → RelRVs Hs H F σ d vs rs → RelRVs Hs H F σ d (v :: vs) (r :: rs)
def GB (ev : DS → R (List RV × DS)) : TA := fun σ H Q => ∃ C F d xs d', SRel K C H F σ d ∧ ev d = .ok (xs, d') ∧ ∀ vs H' F', Ext H F σ d H' F' d' → SRel K C H' F' σ d' → RelRVs K H H' F' σ d' vs xs → Q vs H'
inductive RelAVs (H : Hp) (F : Addr → Prop) (σ : L2.St) : List V → List AV → Prop
  | nil : RelAVs H F σ [] []
  | v {v : V} {vs : List V} {x : D} {rs : List AV} : Rp K H F v x → RelAVs H F σ vs rs → RelAVs H F σ (v :: vs) (.v x :: rs)
  | m {v : V} {vs : List V} {i : Nat} {rs : List AV} : σ[i]? = some (some v) → RelAVs H F σ vs rs → RelAVs H F σ (v :: vs) (.m i :: rs)
def GA (ev : DS → R (List AV × DS)) : TA := fun σ H Q => ∃ C F d xs d', SRel K C H F σ d ∧ ev d = .ok (xs, d') ∧ ∀ vs H' F', Ext H F σ d H' F' d' → SRel K C H' F' σ d' → RelAVs K H' F' σ vs xs → Q vs H'
def GO (ev : DS → R (Option Int × DS)) : TO := fun σ H Q => ∃ C F d o d', SRel K C H F σ d ∧ ev d = .ok (o, d') ∧ ∀ H' F', Ext H F σ d H' F' d' → SRel K C H' F' σ d' → Q o H'
def GR (ev : DS → R ((Int × Int) × DS)) : L2.St → Hp → (Int → Int → Hp → Prop) → Prop := fun σ H Q => ∃ C F d i j d', SRel K C H F σ d ∧ ev d = .ok ((i, j), d') ∧ ∀ H' F', Ext H F σ d H' F' d' → SRel K C H' F' σ d' → Q i j H'
end
section
variable {K : PySem.W.Frag} {C : Fc} {H H1 H2 : Hp} {F F1 F2 : Addr → Prop} {σ : L2.St} {d d1 d2 : DS}
theorem Ext.none (x : Ext H F σ d H1 F1 d1) : ∀ a, H1 a = none → H a = none := x.dom
theorem RelRVs.mono {Hs : Hp} (S : SRel K C H F σ d) (x : Ext H F σ d H1 F1 d1) : ∀ {vs : List V} {rs : List RV}, RelRVs K Hs H F σ d vs rs → RelRVs K Hs H1 F1 σ d1 vs rs
  | _, _, .nil => .nil
  | _, _, .cons r t => .cons (r.mono S x) (RelRVs.mono S x t)
theorem RelRVs.hs {Hs Hs' : Hp} (h : ∀ a, Hs a = none → Hs' a = none) : ∀ {vs : List V} {rs : List RV}, RelRVs K Hs H F σ d vs rs → RelRVs K Hs' H F σ d vs rs
  | _, _, .nil => .nil
  | _, _, .cons r t => .cons (r.hs h) (RelRVs.hs h t)
theorem RelRVs.opd {Hs : Hp} (S : SRel K C H F σ d) : ∀ {vs : List V} {rs : List RV} {xs : List D}, RelRVs K Hs H F σ d vs rs → rs.mapM (DL.opd d) = some xs → RpOs K H F vs xs
  | _, _, _, .nil, e => by cases e; exact .nil
  | _, _, xs, .cons (r := r) (rs := rs) h t, e => by
    rw [List.mapM_cons] at e
    cases q : DL.opd d r with
    | none => rw [q] at e; cases e
    | some x =>
      rw [q] at e
      cases q2 : rs.mapM (DL.opd d) with
      | none => rw [q2] at e; cases e
      | some ys =>
        rw [q2] at e
        cases e
        exact .cons (h.opd S q) (RelRVs.opd S t q2)
theorem RelAVs.mono (S : SRel K C H F σ d) (x : Ext H F σ d H1 F1 d1) : ∀ {vs : List V} {rs : List AV}, RelAVs K H F σ vs rs → RelAVs K H1 F1 σ vs rs
  | _, _, .nil => .nil
  | _, _, .v h t => .v (Rp.mono (x.sx S) _ _ h) (RelAVs.mono S x t)
  | _, _, .m h t => .m h (RelAVs.mono S x t)

variable {gcs : Nat → Option D} {cd : CallSem} {Q : VK}
/-- a test from a value -/
theorem GT.test {ev : DS → R (RV × DS)} {Q : Bool → Hp → Prop} (h : GT K ev σ H Q) : GE K ev σ H fun x H' => ∃ k, x = .bl k ∧ Q k H' := by
  obtain ⟨C, F, d, rv, d', b, S, e, eb, q⟩ := h
  exact ⟨C, F, d, rv, d', S, e, fun v H' F' X S' R => ⟨b, (R.opd S' eb).bool, q H' F' X S'⟩⟩
theorem rd_op2 {o : O2} {a b : I} (h : GE K (evE gcs cd (.op2 o a b)) σ H Q) : tOp (rO2 K o) (GE K (evE gcs cd a)) (GE K (evE gcs cd b)) σ H Q := by
  obtain ⟨C, F, d, rv, d', S, e, q⟩ := h
  rw [evE] at e
  obtain ⟨ra, e1, e⟩ := R.bind_ok e
  obtain ⟨rb, e2, e⟩ := R.bind_ok e
  obtain ⟨x, e3, e⟩ := R.bind_ok e
  obtain ⟨y, e4, e⟩ := R.bind_ok e
  obtain ⟨r, e5, e⟩ := R.bind_ok e
  cases e
  refine ⟨C, F, d, ra.1, ra.2, S, e1, fun v H1 F1 X1 S1 R1 => ⟨C, F1, ra.2, rb.1, rb.2, S1, e2, fun w H2 F2 X2 S2 R2 => ?_⟩⟩
  refine ⟨F2, x, y, r, (R1.mono S1 X2).opd S2 (R.opt_ok e3), R2.opd S2 (R.opt_ok e4), R.opt_ok e5, fun z H3 n => ?_⟩
  obtain ⟨X3, S3, R3⟩ := n.fin S2 (X1.trans X2).dom
  exact q z H3 F2 ((X1.trans X2).trans X3) S3 R3
theorem rd_chain {o o' : O2} {a b c : I} (h : GE K (evE gcs cd (.chain o o' a b c)) σ H Q) : tChain (rO2 K o) (rO2 K o') (GE K (evE gcs cd a)) (GE K (evE gcs cd b)) (GE K (evE gcs cd c)) σ H Q := by
  obtain ⟨C, F, d, rv, d', S, e, q⟩ := h
  rw [evE] at e
  obtain ⟨ra, e1, e⟩ := R.bind_ok e
  obtain ⟨rb, e2, e⟩ := R.bind_ok e
  obtain ⟨x, e3, e⟩ := R.bind_ok e
  obtain ⟨y, e4, e⟩ := R.bind_ok e
  obtain ⟨r, e5, e⟩ := R.bind_ok e
  obtain ⟨k, e6, eL⟩ := R.bind_ok e
  clear e
  have e6' := R.opt_ok e6
  have er : r = .bool k := by
    cases r <;> first | cases e6' | skip
    rfl
  subst er
  refine ⟨C, F, d, ra.1, ra.2, S, e1, fun v H1 F1 X1 S1 R1 => ⟨C, F1, ra.2, rb.1, rb.2, S1, e2, fun w H2 F2 X2 S2 R2 => ?_⟩⟩
  refine ⟨F2, x, y, .bool k, (R1.mono S1 X2).opd S2 (R.opt_ok e3), R2.opd S2 (R.opt_ok e4), R.opt_ok e5, fun z H3 n => ?_⟩
  obtain ⟨X3, S3, R3⟩ := n.fin S2 (X1.trans X2).dom
  have hz : z = .bl k := (R3.opd S3 rfl).bool
  refine ⟨k, hz, ?_⟩
  cases k with
  | false =>
    rw [if_neg (by decide)]
    cases eL
    subst hz
    exact q _ H3 F2 ((X1.trans X2).trans X3) S3 R3
  | true =>
    rw [if_pos rfl]
    obtain ⟨rc, e7, e⟩ := R.bind_ok eL
    obtain ⟨y', e8, e⟩ := R.bind_ok e
    obtain ⟨z', e9, e⟩ := R.bind_ok e
    obtain ⟨r', e10, e⟩ := R.bind_ok e
    cases e
    refine ⟨C, F2, rb.2, rc.1, rc.2, S3, e7, fun w' H4 F4 X4 S4 R4 => ?_⟩
    refine ⟨F4, y', z', r', ((R2.mono S2 X3).mono S3 X4).opd S4 (R.opt_ok e8), R4.opd S4 (R.opt_ok e9), R.opt_ok e10, fun z H5 n => ?_⟩
    have X := ((X1.trans X2).trans X3).trans X4
    obtain ⟨X5, S5, R5⟩ := n.fin S4 X.dom
    exact q z H5 F4 (X.trans X5) S5 R5
theorem rd_neg {a : I} (h : GE K (evE gcs cd (.op1 .neg a)) σ H Q) : tUn (rO1 K .neg) (GE K (evE gcs cd a)) σ H Q := by
  obtain ⟨C, F, d, rv, d', S, e, q⟩ := h
  rw [evE] at e
  obtain ⟨ra, e1, e⟩ := R.bind_ok e
  obtain ⟨x, e3, e⟩ := R.bind_ok e
  obtain ⟨r, e5, e⟩ := R.bind_ok e
  cases e
  refine ⟨C, F, d, ra.1, ra.2, S, e1, fun v H1 F1 X1 S1 R1 => ⟨F1, x, r, R1.opd S1 (R.opt_ok e3), R.opt_ok e5, fun z H3 n => ?_⟩⟩
  obtain ⟨X3, S3, R3⟩ := n.fin S1 X1.dom
  exact q z H3 F1 (X1.trans X3) S3 R3
theorem isNone_v {F : Addr → Prop} {v : V} {x : D} (h : RpO K H F v x) : decide (v = .non) = isNone x := by
  cases x with
  | none => rw [h.non]; rfl
  | bool b => rw [h.bool]; rfl
  | int b => rw [h.int]; rfl
  | str b => rw [h.str]; rfl
  | list b => obtain ⟨a, vs, rfl, _⟩ := h.lst; rfl
  | tuple b => obtain ⟨a, vs, rfl, _⟩ := h.tup; rfl
  | dict kvs =>
    rcases h with h | ⟨a, o, rfl, _⟩
    · cases h <;> rfl
    · rfl
theorem rd_isN {a : I} (h : GE K (evE gcs cd (.op1 .isN a)) σ H Q) : tOp (fun x y H Q => y = .non ∧ Q (.bl (decide (x = .non))) H) (GE K (evE gcs cd a)) (tC .non) σ H Q := by
  obtain ⟨C, F, d, rv, d', S, e, q⟩ := h
  rw [evE] at e
  obtain ⟨ra, e1, e⟩ := R.bind_ok e
  obtain ⟨x, e3, e⟩ := R.bind_ok e
  obtain ⟨r, e5, e⟩ := R.bind_ok e
  cases e
  cases (R.opt_ok e5 : some _ = some r)
  refine ⟨C, F, d, ra.1, ra.2, S, e1, fun v H1 F1 X1 S1 R1 => ⟨rfl, ?_⟩⟩
  rw [isNone_v (R1.opd S1 (R.opt_ok e3))]
  obtain ⟨X3, S3, R3⟩ := (New.same (K := K) (H := H1) (F := F1) rfl (.bl (isNone x))).fin S1 X1.dom
  exact q _ H1 F1 X1 S1 R3
theorem rd_notN {a : I} (h : GE K (evE gcs cd (.op1 .notN a)) σ H Q) : tOp (fun x y H Q => y = .non ∧ Q (.bl (!decide (x = .non))) H) (GE K (evE gcs cd a)) (tC .non) σ H Q := by
  obtain ⟨C, F, d, rv, d', S, e, q⟩ := h
  rw [evE] at e
  obtain ⟨ra, e1, e⟩ := R.bind_ok e
  obtain ⟨x, e3, e⟩ := R.bind_ok e
  obtain ⟨r, e5, e⟩ := R.bind_ok e
  cases e
  cases (R.opt_ok e5 : some _ = some r)
  refine ⟨C, F, d, ra.1, ra.2, S, e1, fun v H1 F1 X1 S1 R1 => ⟨rfl, ?_⟩⟩
  rw [isNone_v (R1.opd S1 (R.opt_ok e3))]
  obtain ⟨X3, S3, R3⟩ := (New.same (K := K) (H := H1) (F := F1) rfl (.bl (!isNone x))).fin S1 X1.dom
  exact q _ H1 F1 X1 S1 R3
theorem ofBool_ok {x : D} {k : Bool} (h : ofBool x = some k) : x = .bool k := by
  cases x <;> first | cases h | skip
  rfl
theorem ofInt_ok {x : D} {k : Int} (h : ofInt x = some k) : x = .int k := by
  cases x <;> first | cases h | skip
  rfl
theorem rd_not {a : I} (h : GE K (evE gcs cd (.op1 .not a)) σ H Q) : tNotV (GE K (evE gcs cd a)) σ H Q := by
  obtain ⟨C, F, d, rv, d', S, e, q⟩ := h
  rw [evE] at e
  obtain ⟨ra, e1, e⟩ := R.bind_ok e
  obtain ⟨x, e3, e⟩ := R.bind_ok e
  obtain ⟨r, e5, e⟩ := R.bind_ok e
  cases e
  cases x with
  | bool b =>
    cases (R.opt_ok e5 : some _ = some r)
    refine ⟨C, F, d, ra.1, ra.2, S, e1, fun v H1 F1 X1 S1 R1 => ⟨b, (R1.opd S1 (R.opt_ok e3)).bool, ?_⟩⟩
    obtain ⟨X3, S3, R3⟩ := (New.same (K := K) (H := H1) (F := F1) rfl (.bl (!b))).fin S1 X1.dom
    exact q _ H1 F1 X1 S1 R3
  | _ => cases R.opt_ok e5
theorem rt_not {a : I} {Q : Bool → Hp → Prop} (h : GT K (evE gcs cd (.op1 .not a)) σ H Q) : tNot (GT K (evE gcs cd a)) σ H Q := by
  obtain ⟨C, F, d, rv, d', k, S, e, ek, q⟩ := h
  rw [evE] at e
  obtain ⟨ra, e1, e⟩ := R.bind_ok e
  obtain ⟨x, e3, e⟩ := R.bind_ok e
  obtain ⟨r, e5, e⟩ := R.bind_ok e
  cases e
  cases x with
  | bool b =>
    cases (R.opt_ok e5 : some _ = some r)
    cases (ek : some _ = some _)
    exact ⟨C, F, d, ra.1, ra.2, b, S, e1, R.opt_ok e3, fun H1 F1 X1 S1 => q H1 F1 X1 S1⟩
  | _ => cases R.opt_ok e5
theorem rd_and {a b : I} (h : GE K (evE gcs cd (.land a b)) σ H Q) : tAndV (GE K (evE gcs cd a)) (GE K (evE gcs cd b)) σ H Q := by
  obtain ⟨C, F, d, rv, d', S, e, q⟩ := h
  rw [evE] at e
  obtain ⟨ra, e1, e⟩ := R.bind_ok e
  obtain ⟨x, e3, e⟩ := R.bind_ok e
  obtain ⟨k, e5, e⟩ := R.bind_ok e
  cases ofBool_ok (R.opt_ok e5)
  refine ⟨C, F, d, ra.1, ra.2, S, e1, fun v H1 F1 X1 S1 R1 => ⟨k, (R1.opd S1 (R.opt_ok e3)).bool, ?_⟩⟩
  cases k with
  | false =>
    cases e
    rw [if_neg (by decide)]
    obtain ⟨X3, S3, R3⟩ := (New.same (K := K) (H := H1) (F := F1) rfl (.bl false)).fin S1 X1.dom
    exact q _ H1 F1 X1 S1 R3
  | true =>
    rw [if_pos rfl]
    exact ⟨C, F1, ra.2, rv, d', S1, e, fun w H2 F2 X2 S2 R2 => q w H2 F2 (X1.trans X2) S2 (R2.hs X1.dom)⟩
theorem rd_or {a b : I} (h : GE K (evE gcs cd (.lor a b)) σ H Q) : tOrV (GE K (evE gcs cd a)) (GE K (evE gcs cd b)) σ H Q := by
  obtain ⟨C, F, d, rv, d', S, e, q⟩ := h
  rw [evE] at e
  obtain ⟨ra, e1, e⟩ := R.bind_ok e
  obtain ⟨x, e3, e⟩ := R.bind_ok e
  obtain ⟨k, e5, e⟩ := R.bind_ok e
  cases ofBool_ok (R.opt_ok e5)
  refine ⟨C, F, d, ra.1, ra.2, S, e1, fun v H1 F1 X1 S1 R1 => ⟨k, (R1.opd S1 (R.opt_ok e3)).bool, ?_⟩⟩
  cases k with
  | true =>
    cases e
    rw [if_pos rfl]
    obtain ⟨X3, S3, R3⟩ := (New.same (K := K) (H := H1) (F := F1) rfl (.bl true)).fin S1 X1.dom
    exact q _ H1 F1 X1 S1 R3
  | false =>
    rw [if_neg (by decide)]
    exact ⟨C, F1, ra.2, rv, d', S1, e, fun w H2 F2 X2 S2 R2 => q w H2 F2 (X1.trans X2) S2 (R2.hs X1.dom)⟩
theorem rt_and {a b : I} {Q : Bool → Hp → Prop} (h : GT K (evE gcs cd (.land a b)) σ H Q) : tAnd (GT K (evE gcs cd a)) (GT K (evE gcs cd b)) σ H Q := by
  obtain ⟨C, F, d, rv, d', j, S, e, ej, q⟩ := h
  rw [evE] at e
  obtain ⟨ra, e1, e⟩ := R.bind_ok e
  obtain ⟨x, e3, e⟩ := R.bind_ok e
  obtain ⟨k, e5, e⟩ := R.bind_ok e
  cases ofBool_ok (R.opt_ok e5)
  refine ⟨C, F, d, ra.1, ra.2, k, S, e1, R.opt_ok e3, fun H1 F1 X1 S1 => ?_⟩
  cases k with
  | false =>
    cases e
    cases (ej : some _ = some _)
    rw [if_neg (by decide)]
    exact q H1 F1 X1 S1
  | true =>
    rw [if_pos rfl]
    exact ⟨C, F1, ra.2, rv, d', j, S1, e, ej, fun H2 F2 X2 S2 => q H2 F2 (X1.trans X2) S2⟩
theorem rt_or {a b : I} {Q : Bool → Hp → Prop} (h : GT K (evE gcs cd (.lor a b)) σ H Q) : tOr (GT K (evE gcs cd a)) (GT K (evE gcs cd b)) σ H Q := by
  obtain ⟨C, F, d, rv, d', j, S, e, ej, q⟩ := h
  rw [evE] at e
  obtain ⟨ra, e1, e⟩ := R.bind_ok e
  obtain ⟨x, e3, e⟩ := R.bind_ok e
  obtain ⟨k, e5, e⟩ := R.bind_ok e
  cases ofBool_ok (R.opt_ok e5)
  refine ⟨C, F, d, ra.1, ra.2, k, S, e1, R.opt_ok e3, fun H1 F1 X1 S1 => ?_⟩
  cases k with
  | true =>
    cases e
    cases (ej : some _ = some _)
    rw [if_pos rfl]
    exact q H1 F1 X1 S1
  | false =>
    rw [if_neg (by decide)]
    exact ⟨C, F1, ra.2, rv, d', j, S1, e, ej, fun H2 F2 X2 S2 => q H2 F2 (X1.trans X2) S2⟩
theorem rd_if {t a b : I} (h : GE K (evE gcs cd (.ifE t a b)) σ H Q) : tIf (GT K (evE gcs cd t)) (GE K (evE gcs cd a)) (GE K (evE gcs cd b)) σ H Q := by
  obtain ⟨C, F, d, rv, d', S, e, q⟩ := h
  rw [evE] at e
  obtain ⟨ra, e1, e⟩ := R.bind_ok e
  obtain ⟨x, e3, e⟩ := R.bind_ok e
  obtain ⟨k, e5, e⟩ := R.bind_ok e
  cases ofBool_ok (R.opt_ok e5)
  refine ⟨C, F, d, ra.1, ra.2, k, S, e1, R.opt_ok e3, fun H1 F1 X1 S1 => ?_⟩
  cases k with
  | true =>
    rw [if_pos rfl]
    exact ⟨C, F1, ra.2, rv, d', S1, e, fun w H2 F2 X2 S2 R2 => q w H2 F2 (X1.trans X2) S2 (R2.hs X1.dom)⟩
  | false =>
    rw [if_neg (by decide)]
    exact ⟨C, F1, ra.2, rv, d', S1, e, fun w H2 F2 X2 S2 R2 => q w H2 F2 (X1.trans X2) S2 (R2.hs X1.dom)⟩
def tIfT (t u w : TT) : TT := fun σ H Q => t σ H fun c H1 => if c = true then u σ H1 Q else w σ H1 Q
theorem rt_if {t a b : I} {Q : Bool → Hp → Prop} (h : GT K (evE gcs cd (.ifE t a b)) σ H Q) : tIfT (GT K (evE gcs cd t)) (GT K (evE gcs cd a)) (GT K (evE gcs cd b)) σ H Q := by
  obtain ⟨C, F, d, rv, d', j, S, e, ej, q⟩ := h
  rw [evE] at e
  obtain ⟨ra, e1, e⟩ := R.bind_ok e
  obtain ⟨x, e3, e⟩ := R.bind_ok e
  obtain ⟨k, e5, e⟩ := R.bind_ok e
  cases ofBool_ok (R.opt_ok e5)
  refine ⟨C, F, d, ra.1, ra.2, k, S, e1, R.opt_ok e3, fun H1 F1 X1 S1 => ?_⟩
  cases k with
  | true =>
    rw [if_pos rfl]
    exact ⟨C, F1, ra.2, rv, d', j, S1, e, ej, fun H2 F2 X2 S2 => q H2 F2 (X1.trans X2) S2⟩
  | false =>
    rw [if_neg (by decide)]
    exact ⟨C, F1, ra.2, rv, d', j, S1, e, ej, fun H2 F2 X2 S2 => q H2 F2 (X1.trans X2) S2⟩
theorem rd_idx {a b : I} (h : GE K (evE gcs cd (.idx a b)) σ H Q) : tOp (rIdx K) (GE K (evE gcs cd a)) (GE K (evE gcs cd b)) σ H Q := by
  obtain ⟨C, F, d, rv, d', S, e, q⟩ := h
  rw [evE] at e
  obtain ⟨ra, e1, e⟩ := R.bind_ok e
  obtain ⟨rb, e2, e⟩ := R.bind_ok e
  obtain ⟨x, e3, e⟩ := R.bind_ok e
  obtain ⟨y, e4, e⟩ := R.bind_ok e
  obtain ⟨r, e5, e⟩ := R.bind_ok e
  cases e
  refine ⟨C, F, d, ra.1, ra.2, S, e1, fun v H1 F1 X1 S1 R1 => ⟨C, F1, ra.2, rb.1, rb.2, S1, e2, fun w H2 F2 X2 S2 R2 => ?_⟩⟩
  exact ⟨F2, x, y, r, (R1.mono S1 X2).opd S2 (R.opt_ok e3), R2.opd S2 (R.opt_ok e4), R.opt_ok e5, fun z hz => q z H2 F2 (X1.trans X2) S2 hz⟩
theorem rd_sli {a lo hi : I} (h : GE K (evE gcs cd (.sli a lo hi)) σ H Q) : tSl (rSli K) (GE K (evE gcs cd a)) (GO K (evO gcs cd lo)) (GO K (evO gcs cd hi)) σ H Q := by
  obtain ⟨C, F, d, rv, d', S, e, q⟩ := h
  rw [evE] at e
  obtain ⟨ra, e1, e⟩ := R.bind_ok e
  obtain ⟨rl, e2, e⟩ := R.bind_ok e
  obtain ⟨rh, e3, e⟩ := R.bind_ok e
  obtain ⟨x, e4, e⟩ := R.bind_ok e
  obtain ⟨r, e5, e⟩ := R.bind_ok e
  cases e
  refine ⟨C, F, d, ra.1, ra.2, S, e1, fun v H1 F1 X1 S1 R1 => ⟨C, F1, ra.2, rl.1, rl.2, S1, e2, fun H2 F2 X2 S2 => ⟨C, F2, rl.2, rh.1, rh.2, S2, e3, fun H3 F3 X3 S3 => ?_⟩⟩⟩
  refine ⟨F3, x, r, ((R1.mono S1 X2).mono S2 X3).opd S3 (R.opt_ok e4), R.opt_ok e5, fun z H4 n => ?_⟩
  have X := (X1.trans X2).trans X3
  obtain ⟨X4, S4, R4⟩ := n.fin S3 X.dom
  exact q z H4 F3 (X.trans X4) S4 R4
theorem ro_some {a : I} {b : I} {Q : Option Int → Hp → Prop} (h : GO K (evO gcs cd (.cons a b)) σ H Q) : tPart (GE K (evE gcs cd a)) σ H Q := by
  obtain ⟨C, F, d, o, d', S, e, q⟩ := h
  rw [evO] at e
  obtain ⟨ra, e1, e⟩ := R.bind_ok e
  obtain ⟨x, e2, e⟩ := R.bind_ok e
  obtain ⟨k, e3, e⟩ := R.bind_ok e
  cases e
  cases ofInt_ok (R.opt_ok e3)
  exact ⟨C, F, d, ra.1, ra.2, S, e1, fun v H1 F1 X1 S1 R1 => ⟨k, (R1.opd S1 (R.opt_ok e2)).int, q H1 F1 X1 S1⟩⟩
theorem ro_none {Q : Option Int → Hp → Prop} (h : GO K (evO gcs cd .nil) σ H Q) : tNoPart σ H Q := by
  obtain ⟨C, F, d, o, d', S, e, q⟩ := h
  rw [evO] at e
  cases e
  exact q H F Ext.refl S
theorem rr_1 {b : I} {Q : Int → Int → Hp → Prop} (h : GR K (evR gcs cd (.rng .nil b)) σ H Q) : GE K (evE gcs cd b) σ H fun x H1 => ∃ j, x = .int j ∧ Q 0 j H1 := by
  obtain ⟨C, F, d, i, j, d', S, e, q⟩ := h
  rw [evR] at e
  obtain ⟨rb, e1, e⟩ := R.bind_ok e
  obtain ⟨x, e2, e⟩ := R.bind_ok e
  obtain ⟨k, e3, e⟩ := R.bind_ok e
  cases e
  cases ofInt_ok (R.opt_ok e3)
  exact ⟨C, F, d, rb.1, rb.2, S, e1, fun v H1 F1 X1 S1 R1 => ⟨j, (R1.opd S1 (R.opt_ok e2)).int, q H1 F1 X1 S1⟩⟩
theorem rr_2 {a a' b : I} {Q : Int → Int → Hp → Prop} (h : GR K (evR gcs cd (.rng (.cons a a') b)) σ H Q) : GE K (evE gcs cd a) σ H fun x H1 => GE K (evE gcs cd b) σ H1 fun y H2 => ∃ i j, x = .int i ∧ y = .int j ∧ Q i j H2 := by
  obtain ⟨C, F, d, i, j, d', S, e, q⟩ := h
  rw [evR] at e
  obtain ⟨ra, e1, e⟩ := R.bind_ok e
  obtain ⟨rb, e2, e⟩ := R.bind_ok e
  obtain ⟨x, e3, e⟩ := R.bind_ok e
  obtain ⟨k, e4, e⟩ := R.bind_ok e
  obtain ⟨y, e5, e⟩ := R.bind_ok e
  obtain ⟨l, e6, e⟩ := R.bind_ok e
  cases e
  cases ofInt_ok (R.opt_ok e4)
  cases ofInt_ok (R.opt_ok e6)
  exact ⟨C, F, d, ra.1, ra.2, S, e1, fun v H1 F1 X1 S1 R1 => ⟨C, F1, ra.2, rb.1, rb.2, S1, e2, fun w H2 F2 X2 S2 R2 => ⟨i, j, ((R1.mono S1 X2).opd S2 (R.opt_ok e3)).int, (R2.opd S2 (R.opt_ok e5)).int, q H2 F2 (X1.trans X2) S2⟩⟩⟩
/-! lists of items -/
theorem rl_nil {Q : List V → Hp → Prop} (h : GL K (evL gcs cd .nil) σ H Q) : tNil σ H Q := by
  obtain ⟨C, F, d, xs, d', S, e, q⟩ := h
  rw [evL] at e
  cases e
  exact q [] H F Ext.refl S .nil
theorem rl_cons {a b : I} {Q : List V → Hp → Prop} (h : GL K (evL gcs cd (.cons a b)) σ H Q) : tCons (GE K (evE gcs cd a)) (GL K (evL gcs cd b)) σ H Q := by
  obtain ⟨C, F, d, xs, d', S, e, q⟩ := h
  rw [evL] at e
  obtain ⟨ra, e1, e⟩ := R.bind_ok e
  obtain ⟨z, e2, e⟩ := R.bind_ok e
  obtain ⟨r, e3, e⟩ := R.bind_ok e
  cases e
  refine ⟨C, F, d, ra.1, ra.2, S, e1, fun v H1 F1 X1 S1 R1 => ?_⟩
  obtain ⟨F2, X2, S2, P2⟩ := RelRV.fz (x := z.1) (d2 := z.2) S X1 S1 R1 (R.opt_ok e2)
  exact ⟨C, F2, z.2, r.1, r.2, S2, e3, fun vs H3 F3 X3 S3 P3 => q (v :: vs) H3 F3 (X2.trans X3) S3 (.cons (Rp.mono (X3.sx S2) _ _ P2) P3)⟩
theorem rb_nil {Q : List V → Hp → Prop} (h : GB K (evB gcs cd .nil) σ H Q) : tNil σ H Q := by
  obtain ⟨C, F, d, xs, d', S, e, q⟩ := h
  rw [evB] at e
  cases e
  exact q [] H F Ext.refl S .nil
theorem rb_cons {a b : I} {Q : List V → Hp → Prop} (h : GB K (evB gcs cd (.cons a b)) σ H Q) : tCons (GE K (evE gcs cd a)) (GB K (evB gcs cd b)) σ H Q := by
  obtain ⟨C, F, d, xs, d', S, e, q⟩ := h
  rw [evB] at e
  obtain ⟨ra, e1, e⟩ := R.bind_ok e
  obtain ⟨r, e3, e⟩ := R.bind_ok e
  cases e
  exact ⟨C, F, d, ra.1, ra.2, S, e1, fun v H1 F1 X1 S1 R1 => ⟨C, F1, ra.2, r.1, r.2, S1, e3, fun vs H3 F3 X3 S3 P3 => q (v :: vs) H3 F3 (X1.trans X3) S3 (.cons (R1.mono S1 X3) (P3.hs X1.dom))⟩⟩
theorem ra_nil {Q : List V → Hp → Prop} (h : GA K (evA gcs cd .nil) σ H Q) : tNil σ H Q := by
  obtain ⟨C, F, d, xs, d', S, e, q⟩ := h
  rw [evA] at e
  cases e
  exact q [] H F Ext.refl S .nil
theorem ra_cons {a b : I} (ha : ∀ i, a ≠ .marg i) {Q : List V → Hp → Prop} (h : GA K (evA gcs cd (.cons a b)) σ H Q) : tCons (GE K (evE gcs cd a)) (GA K (evA gcs cd b)) σ H Q := by
  obtain ⟨C, F, d, xs, d', S, e, q⟩ := h
  rw [evA] at e
  · obtain ⟨ra, e1, e⟩ := R.bind_ok e
    obtain ⟨z, e2, e⟩ := R.bind_ok e
    obtain ⟨r, e3, e⟩ := R.bind_ok e
    cases e
    refine ⟨C, F, d, ra.1, ra.2, S, e1, fun v H1 F1 X1 S1 R1 => ?_⟩
    obtain ⟨F2, X2, S2, P2⟩ := RelRV.fz (x := z.1) (d2 := z.2) S X1 S1 R1 (R.opt_ok e2)
    exact ⟨C, F2, z.2, r.1, r.2, S2, e3, fun vs H3 F3 X3 S3 P3 => q (v :: vs) H3 F3 (X2.trans X3) S3 (.v (Rp.mono (X3.sx S2) _ _ P2) P3)⟩
  · exact ha
/-- what slot i holds, in an expression -/
theorem rd_var {i : Nat} (h : GE K (evE gcs cd (.var i)) σ H Q) : tVar i σ H Q := by
  obtain ⟨C, F, d, rv, d', S, e, q⟩ := h
  rw [evE] at e
  cases q1 : d[i]? with
  | none => rw [q1] at e; cases e
  | some sl =>
    rw [q1] at e
    cases sl with
    | emp => cases e
    | imm x =>
      cases e
      obtain ⟨v, h1, h2⟩ := S.imm i x q1
      exact ⟨v, h1, q v H F Ext.refl S h2⟩
    | own p x =>
      cases e
      obtain ⟨a, h1, _⟩ := S.own i p x q1
      exact ⟨_, h1, q _ H F Ext.refl S h1⟩
end
end DL
/-! DL7: displays, built-ins, calls, targets, what is walked, comprehensions. -/
namespace DL
open PySem PySem.Spec PyProof.Rows L2

/-! ### displays, built-ins -/
def tTupF (t : TA) : TE := fun σ H Q => t σ H fun xs H1 => xs.length ≤ sizeLine ∧ ∀ p o, H1 p = none → o.dict = none → Q (.ref p) (upd H1 p (.frz o (.tup xs)))
section
variable {X : Cx} {es : List Expr} {t : TA} {pos : Pos}
theorem pe_tupF {x1} (h : PA X es t) : PE X (.Tuple es x1 pos) (tTupF t) := by
  refine ⟨fun pins s σ H Q I hq => wpAny_Tuple_spliced (thn (h.run pos pins s σ H _ I hq) fun us s1 ⟨xs, H1, I1, r, z, q⟩ => ⟨by rw [← r.length]; exact z, ?_⟩)⟩
  exact ⟨.ref s1.heap.objs.size, _, I1.laid (t' := s1.toks) (o := .frz _ (.tup xs)) (fun b u e => Heap.get?_push_of_some _ e) (Nat.le_refl _) ⟨Heap.get?_push_size _ rfl, z, us, r, IsTup.new _ _⟩, rfl, q _ _ (I1.hok.fresh (Nat.le_refl _)) rfl⟩
def tTupRgF (te : L2.St → Hp → (Int → Int → Hp → Prop) → Prop) : TE := fun σ H Q => te σ H fun a b H1 => RgOk a b ∧ ∀ q o, H1 q = none → o.dict = none → Q (.ref q) (upd H1 q (.frz o (.tup (rgV a b))))
theorem pe_tupRgF {e : Expr} {te : L2.St → Hp → (Int → Int → Hp → Prop) → Prop} {p pos : Pos} (hc : X.calm = true) (hg : Gl X "tuple") (hm : X.mg "tuple" = none) (he : PRg X e te) (na : starEach [e] X.env = (false, eval e X.env) :: starEach [] X.env) :
    PE X (.Call (.Name "tuple" p) [e] [] pos) (tTupRgF te) := by
  refine ⟨fun pins s σ H Q I h => ?_⟩
  refine Call_ (ld_blt I hg hm boot_tuple (PyProof.Rows.callWith_type1 (args_cons (thn (he pins s σ H _ I h) fun x s1 ⟨r, a, b, t, u, v, H1, ex, hr, I1, ok, q⟩ => args_nil ?_) na) na))
  subst ex
  refine call_tuple_range (n := (b - a).toNat) (I1.ok.hd hc) hr (small_one ok.1 ok.2.1 ok.2.2.1 ok.2.2.2.1) (rangeSize_nat a b) ok.2.2.2.2 fun h' tk acc hk hi => ?_
  have I2 : Inv X pins σ H1 { s1 with heap := h', toks := tk } := I1.kept hk
  have hz : (rgV a b).length ≤ sizeLine := by
    rw [rgV_length, sizeLine_eq]; exact ok.2.2.2.2
  refine ⟨.ref h'.objs.size, _, I2.laid (t' := tk) (o := .frz _ (.tup (rgV a b))) (fun c o e => Heap.get?_push_of_some _ e) (Nat.le_refl _) ⟨Heap.get?_push_size _ rfl, hz, acc.toList, vals_rg hi, ?_⟩, rfl, q _ _ (I2.hok.fresh (Nat.le_refl _)) rfl⟩
  rw [Array.toArray_toList]; exact IsTup.new _ _
end
section
variable {K : PySem.W.Frag} {C : Fc} {H H1 H2 : Hp} {F F1 F2 : Addr → Prop} {σ : L2.St} {d d1 d2 : DS}
variable {gcs : Nat → Option D} {cd : CallSem} {Q : VK}
theorem rd_tup {as : I} (h : GE K (evE gcs cd (.tup as)) σ H Q) : tTupF (GL K (evL gcs cd as)) σ H Q := by
  obtain ⟨C, F, d, rv, d', S, e, q⟩ := h
  rw [evE] at e
  obtain ⟨r, e1, e⟩ := R.bind_ok e
  split at e
  · rename_i hl
    cases e
    refine ⟨C, F, d, r.1, r.2, S, e1, fun vs H1 F1 X1 S1 P => ⟨by rw [P.length]; exact hl, fun p o hp ho => ?_⟩⟩
    obtain ⟨X3, S3, R3⟩ := (New.tup hp ho P).fin S1 X1.dom
    exact q _ _ F1 (X1.trans X3) S3 R3
  · cases e
theorem rd_lst {as : I} (h : GE K (evE gcs cd (.lst as)) σ H Q) : tLst (GL K (evL gcs cd as)) σ H Q := by
  obtain ⟨C, F, d, rv, d', S, e, q⟩ := h
  rw [evE] at e
  obtain ⟨r, e1, e⟩ := R.bind_ok e
  split at e
  · rename_i hl
    cases e
    refine ⟨C, F, d, r.1, r.2, S, e1, fun vs H1 F1 X1 S1 P => ⟨by rw [P.length]; exact hl, fun p hp => ?_⟩⟩
    obtain ⟨X3, S3, R3⟩ := (New.lst hp P).fin S1 X1.dom
    exact q _ _ F1 (X1.trans X3) S3 R3
  · cases e
theorem rg_all (a b : Int) : RpAll K H F (rgV a b) (rangeD a b) := by
  have e1 : rgV a b = ((List.range (b - a).toNat).map fun i => a + (i : Nat)).map V.int := by
    unfold rgV; rw [List.map_map]; rfl
  have e2 : rangeD a b = ((List.range (b - a).toNat).map fun i => a + (i : Nat)).map PyData.int := by
    unfold rangeD; rw [List.map_map]; rfl
  rw [e1, e2]
  exact RpAll.ofInts _
theorem inR_of {a : Int} (h : inR a = true) : -(2 ^ 62) ≤ a ∧ a < 2 ^ 62 := by
  unfold inR at h
  rw [Bool.and_eq_true] at h
  exact ⟨of_decide_eq_true h.1, of_decide_eq_true h.2⟩
theorem inRg_of {a b : Int} (h : inRg a b = true) : RgOk a b := by
  unfold inRg at h
  rw [Bool.and_eq_true, Bool.and_eq_true] at h
  exact ⟨(inR_of h.1.1).1, (inR_of h.1.1).2, (inR_of h.1.2).1, (inR_of h.1.2).2, of_decide_eq_true h.2⟩
theorem rd_tupR {a : I} (h : GE K (evE gcs cd (.tupR a)) σ H Q) : tTupRgF (GR K (evR gcs cd a)) σ H Q := by
  obtain ⟨C, F, d, rv, d', S, e, q⟩ := h
  rw [evE] at e
  obtain ⟨r, e1, e⟩ := R.bind_ok e
  split at e
  · rename_i hl
    cases e
    refine ⟨C, F, d, r.1.1, r.1.2, r.2, S, e1, fun H1 F1 X1 S1 => ⟨inRg_of hl, fun p o hp ho => ?_⟩⟩
    obtain ⟨X3, S3, R3⟩ := (New.tup hp ho (rg_all r.1.1 r.1.2)).fin S1 X1.dom
    exact q _ _ F1 (X1.trans X3) S3 R3
  · cases e
theorem rd_lstR {a : I} (h : GE K (evE gcs cd (.lstR a)) σ H Q) : tLstRg (GR K (evR gcs cd a)) σ H Q := by
  obtain ⟨C, F, d, rv, d', S, e, q⟩ := h
  rw [evE] at e
  obtain ⟨r, e1, e⟩ := R.bind_ok e
  split at e
  · rename_i hl
    cases e
    refine ⟨C, F, d, r.1.1, r.1.2, r.2, S, e1, fun H1 F1 X1 S1 => ⟨inRg_of hl, fun p hp => ?_⟩⟩
    obtain ⟨X3, S3, R3⟩ := (New.lst hp (rg_all r.1.1 r.1.2)).fin S1 X1.dom
    exact q _ _ F1 (X1.trans X3) S3 R3
  · cases e
theorem rd_bi {f : B1} {as : I} (h : GE K (evE gcs cd (.bi f as)) σ H Q) : tCB (rB K f) (GB K (evB gcs cd as)) σ H Q := by
  obtain ⟨C, F, d, rv, d', S, e, q⟩ := h
  rw [evE] at e
  obtain ⟨r, e1, e⟩ := R.bind_ok e
  obtain ⟨xs, e2, e⟩ := R.bind_ok e
  obtain ⟨y, e3, e⟩ := R.bind_ok e
  cases e
  refine ⟨C, F, d, r.1, r.2, S, e1, fun vs H1 F1 X1 S1 P => ⟨F1, xs, y, P.opd S1 (R.opt_ok e2), R.opt_ok e3, fun v H2 n => ?_⟩⟩
  obtain ⟨X3, S3, R3⟩ := n.fin S1 X1.dom
  exact q _ _ F1 (X1.trans X3) S3 R3

/-! ### isinstance -/
def Ty.name : Ty → String
  | .tuple => "tuple"
  | .list => "list"
  | .int => "int"
  | .bool => "bool"
  | .str => "str"
def tyName : D → String
  | .none => "NoneType"
  | .bool _ => "bool"
  | .int _ => "int"
  | .str _ => "str"
  | .list _ => "list"
  | .tuple _ => "tuple"
  | .dict _ => "dict"
theorem kit6 (t : Ty) : kitB "NoneType" t.name = some false ∧ kitB "bool" t.name = some (t == .int || t == .bool) ∧ kitB "int" t.name = some (t == .int) ∧ kitB "str" t.name = some (t == .str) ∧ kitB "list" t.name = some (t == .list) ∧ kitB "tuple" t.name = some (t == .tuple) := by
  cases t <;> decide +kernel
theorem kit_has (t : Ty) (x : D) (h : isDct x = false) : PySem.W.kitOne K (.type (tyName x)) (.type t.name) = some (t.has x) := by
  apply kit_ty
  obtain ⟨h1, h2, h3, h4, h5, h6⟩ := kit6 t
  cases x with
  | none => rw [show tyName .none = "NoneType" from rfl, h1]; cases t <;> rfl
  | bool b => rw [show tyName (.bool b) = "bool" from rfl, h2]; cases t <;> rfl
  | int b => rw [show tyName (.int b) = "int" from rfl, h3]; cases t <;> rfl
  | str b => rw [show tyName (.str b) = "str" from rfl, h4]; cases t <;> rfl
  | list b => rw [show tyName (.list b) = "list" from rfl, h5]; cases t <;> rfl
  | tuple b => rw [show tyName (.tuple b) = "tuple" from rfl, h6]; cases t <;> rfl
  | dict b => cases h
theorem tyx_of {v : V} {x : D} (h : RpO K H F v x) (hd : isDct x = false) : TyX K H v (.type (tyName x)) := by
  cases x with
  | none => rw [h.non]; exact .base .non
  | bool b => rw [h.bool]; exact .base (.bl b)
  | int b => rw [h.int]; exact .base (.int b)
  | str b => rw [h.str]; exact .base (.str b)
  | list b => obtain ⟨a, vs, rfl, h1, _⟩ := h.lst; exact .base (.lst h1)
  | tuple b =>
    obtain ⟨a, vs, rfl, h1, _⟩ := h.tup
    rcases h1 with ⟨o, h1, _⟩ | ⟨o, its, n, h1, h2, _⟩
    · exact .fTuple h1
    · exact .kTuple h1 h2
  | dict kvs => cases hd
theorem rd_isI {a : I} {t : Ty} (h : GE K (evE gcs cd (.isI a t)) σ H Q) : tCB (rIsi K) (tCons (GE K (evE gcs cd a)) (tCons (tC (.ty t.name)) tNil)) σ H Q := by
  obtain ⟨C, F, d, rv, d', S, e, q⟩ := h
  rw [evE] at e
  obtain ⟨ra, e1, e⟩ := R.bind_ok e
  obtain ⟨x, e2, e⟩ := R.bind_ok e
  split at e
  · cases e
  · rename_i hd
    have hd' : isDct x = false := by
      cases q : isDct x with
      | true => exact absurd q hd
      | false => rfl
    cases e
    refine ⟨C, F, d, ra.1, ra.2, S, e1, fun v H1 F1 X1 S1 R1 => ?_⟩
    refine ⟨v, .ty t.name, .type (tyName x), .type t.name, t.has x, rfl, .ty _, tyx_of (R1.opd S1 (R.opt_ok e2)) hd', kit_has t x hd', ?_⟩
    obtain ⟨X3, S3, R3⟩ := (New.same (K := K) (H := H1) (F := F1) rfl (.bl (t.has x))).fin S1 X1.dom
    exact q _ _ F1 (X1.trans X3) S3 R3

/-! ### states with slots changed -/
theorem SRel.step (S : SRel K C H F σ d) (hl : d1.length = d.length) (himm : ∀ (i : Nat) (x : D), d1[i]? = some (.imm x) ↔ d[i]? = some (.imm x)) (hemp : ∀ i : Nat, d[i]? = some .emp → d1[i]? = some .emp)
    (hown : ∀ (i : Nat) (p : Bool) (y : D) (a : Addr), d1[i]? = some (.own p y) → σ[i]? = some (some (.ref a)) → (∃ x, d[i]? = some (.own p x)) ∧ OwnAt K H1 F1 a y) (hown2 : ∀ (i : Nat) (p : Bool) (y : D), d1[i]? = some (.own p y) → ∃ x, d[i]? = some (.own p x))
    (keep : ∀ a o, H a = some o → ¬ Own σ d a → H1 a = some o) (dom : ∀ a, H1 a = none → H a = none) (sub : ∀ a, F a → F1 a) (new : ∀ a, F1 a → F a ∨ H a = none) (fdom : ∀ a, F1 a → H1 a ≠ none)
    (frame : ∀ a o, C.H0 a = some o → (∀ i, ¬ C.M i a) → H a = some o → H1 a = some o) : Ext H F σ d H1 F1 d1 ∧ SRel K C H1 F1 σ d1 := by
  have sx : SX H F H1 F1 := ⟨fun a o f h => keep a o h fun q => (S.ownOb q).1 f, fun a xs h => keep a _ h (fun q => S.ownTup q h),
    fun a o u h => keep a _ h (fun q => S.ownFrz q h), sub⟩
  refine ⟨⟨keep, sub, fun a f => (new a f).imp id .inl, dom, hown2, fun i x h => (himm i x).mpr h, hemp, hl⟩, ⟨hl.trans S.len, fun i x h => ?_, fun i p x h => ?_, fun i j p q x y a h1 h2 h3 h4 => ?_, fdom, fun a f => ?_, fun a f => sub a (S.fsub a f), fun a o h n => frame a o h n (S.frame a o h n), fun a h => S.dom a (dom a h)⟩⟩
  · obtain ⟨v, h1, h2⟩ := S.imm i x ((himm i x).mp h)
    exact ⟨v, h1, h2.mono sx _ _⟩
  · obtain ⟨y, hy⟩ := hown2 i p x h
    obtain ⟨a, h1, _, h3⟩ := S.own i p y hy
    exact ⟨a, h1, (hown i p x a h h1).2, h3⟩
  · obtain ⟨x', hx⟩ := hown2 i p x h1
    obtain ⟨y', hy⟩ := hown2 j q y h2
    exact S.inj i j p q x' y' a hx hy h3 h4
  · rcases new a f with f | f
    · exact S.fnew a f
    · exact .inr (S.dom a f)

/-! ### calls of the text's own defs -/
inductive ArgsR (K : PySem.W.Frag) (H : Hp) (F : Addr → Prop) : List V → List (Bool × D) → Prop
  | nil : ArgsR K H F [] []
  | i {v : V} {vs : List V} {x : D} {as : List (Bool × D)} : Rp K H F v x → ArgsR K H F vs as → ArgsR K H F (v :: vs) ((false, x) :: as)
  | m {a : Addr} {vs : List V} {x : D} {as : List (Bool × D)} : OwnAt K H F a x → ArgsR K H F vs as → ArgsR K H F (.ref a :: vs) ((true, x) :: as)
inductive OutsR (K : PySem.W.Frag) (H : Hp) (F : Addr → Prop) : List V → List (Bool × D) → List D → Prop
  | nil : OutsR K H F [] [] []
  | i {v : V} {vs : List V} {x : D} {as : List (Bool × D)} {os : List D} : OutsR K H F vs as os → OutsR K H F (v :: vs) ((false, x) :: as) os
  | m {a : Addr} {vs : List V} {x o : D} {as : List (Bool × D)} {os : List D} : OwnAt K H F a o → OutsR K H F vs as os → OutsR K H F (.ref a :: vs) ((true, x) :: as) (o :: os)
def MutAt (vs : List V) (as : List (Bool × D)) (i : Nat) (a : Addr) : Prop := ∃ x, as[i]? = some (true, x) ∧ vs[i]? = some (.ref a)
def ResR (K : PySem.W.Frag) (H H' : Hp) (F' : Addr → Prop) (v : V) : Bool → D → Prop
  | false, x => Rp K H' F' v x
  | true, x => (isLst x = false ∧ Rp K H' F' v x) ∨ ∃ a o, v = .ref a ∧ H' a = some o ∧ ObR K H' F' o x ∧ ¬ F' a ∧ H a = none
/-- what the def g promises -/
def spD (K : PySem.W.Frag) (cd : CallSem) (g : Nat) : Sp := fun vs H Q _ => ∃ (F : Addr → Prop) (as : List (Bool × D)) (os : List D) (f : Bool) (x : D), ArgsR K H F vs as ∧ (∀ i j a, MutAt vs as i a → MutAt vs as j a → i = j) ∧ (∀ a, F a → H a ≠ none) ∧ cd g as = .ok (os, f, x) ∧
  ∀ v H' F', (∀ a o, H a = some o → (∀ i, ¬ MutAt vs as i a) → H' a = some o) → (∀ a, H' a = none → H a = none) → (∀ a, F a → F' a) → (∀ a, F' a → F a ∨ H a = none) → (∀ a, F' a → H' a ≠ none) → OutsR K H' F' vs as os → ResR K H H' F' v f x → Q v H'
theorem args_of (S : SRel K C H F σ d) : ∀ {vs : List V} {avs : List AV} {as : List (Bool × D)}, RelAVs K H F σ vs avs → argsOf d avs = some as → ArgsR K H F vs as
  | _, _, _, .nil, e => by cases e; exact .nil
  | _, _, as, .v (x := x) (rs := rs) h t, e => by
    rw [argsOf] at e
    cases q : argsOf d rs with
    | none => rw [q] at e; cases e
    | some bs =>
      rw [q] at e
      cases e
      exact .i h (args_of S t q)
  | _, _, as, .m (i := i) (rs := rs) h t, e => by
    rw [argsOf] at e
    cases q : d[i]? with
    | none => rw [argOf, q] at e; cases e
    | some sl =>
      cases sl with
      | emp => rw [argOf, q] at e; cases e
      | imm x => rw [argOf, q] at e; cases e
      | own p x =>
        rw [argOf, q] at e
        cases q2 : argsOf d rs with
        | none => rw [q2] at e; cases e
        | some bs =>
          rw [q2] at e
          cases e
          obtain ⟨a, h1, h2, _⟩ := S.own i p x q
          rw [h] at h1
          cases h1
          exact .m h2 (args_of S t q2)
/-- the slots behind the changed arguments -/
theorem mut_marg : ∀ {vs : List V} {avs : List AV} {as : List (Bool × D)}, RelAVs K H F σ vs avs → argsOf d avs = some as → ∀ k a, MutAt vs as k a → ∃ i p x, i ∈ margs avs ∧ σ[i]? = some (some (.ref a)) ∧ d[i]? = some (.own p x)
  | _, _, _, .nil, e, k, a, ⟨x, h, _⟩ => by cases e; cases h
  | _, _, as, .v (x := x) (rs := rs) h t, e, k, a, hm => by
    rw [argsOf] at e
    cases q : argsOf d rs with
    | none => rw [q] at e; cases e
    | some bs =>
      rw [q] at e
      cases e
      obtain ⟨y, h1, h2⟩ := hm
      cases k with
      | zero => cases h1
      | succ k => exact mut_marg t q k a ⟨y, by simpa using h1, by simpa using h2⟩
  | _, _, as, .m (v := v) (vs := vs) (i := i) (rs := rs) h t, e, k, a, hm => by
    rw [argsOf] at e
    cases q : d[i]? with
    | none => rw [argOf, q] at e; cases e
    | some sl =>
      cases sl with
      | emp => rw [argOf, q] at e; cases e
      | imm x => rw [argOf, q] at e; cases e
      | own p x =>
        rw [argOf, q] at e
        cases q2 : argsOf d rs with
        | none => rw [q2] at e; cases e
        | some bs =>
          rw [q2] at e
          cases e
          obtain ⟨y, h1, h2⟩ := hm
          cases k with
          | zero =>
            have h3 : v = .ref a := by simpa using h2
            subst h3
            exact ⟨i, p, x, List.mem_cons_self, h, q⟩
          | succ k =>
            obtain ⟨j, p', x', g1, g2⟩ := mut_marg t q2 k a ⟨y, by simpa using h1, by simpa using h2⟩
            exact ⟨j, p', x', List.mem_cons_of_mem _ g1, g2⟩
theorem mut_inj (S : SRel K C H F σ d) : ∀ {vs : List V} {avs : List AV} {as : List (Bool × D)}, RelAVs K H F σ vs avs → argsOf d avs = some as → (margs avs).Nodup → ∀ k l a, MutAt vs as k a → MutAt vs as l a → k = l
  | _, _, _, .nil, e, _, k, l, a, ⟨x, h, _⟩, _ => by cases e; cases h
  | _, _, as, .v (x := x) (rs := rs) h t, e, nd, k, l, a, hm, hn => by
    rw [argsOf] at e
    cases q : argsOf d rs with
    | none => rw [q] at e; cases e
    | some bs =>
      rw [q] at e
      cases e
      obtain ⟨y, h1, h2⟩ := hm
      obtain ⟨z, h3, h4⟩ := hn
      cases k with
      | zero => cases h1
      | succ k =>
        cases l with
        | zero => cases h3
        | succ l => exact congrArg Nat.succ (mut_inj S t q nd k l a ⟨y, by simpa using h1, by simpa using h2⟩ ⟨z, by simpa using h3, by simpa using h4⟩)
  | _, _, as, .m (v := v) (vs := vs) (i := i) (rs := rs) h t, e, nd, k, l, a, hm, hn => by
    rw [argsOf] at e
    cases q : d[i]? with
    | none => rw [argOf, q] at e; cases e
    | some sl =>
      cases sl with
      | emp => rw [argOf, q] at e; cases e
      | imm x => rw [argOf, q] at e; cases e
      | own p x =>
        rw [argOf, q] at e
        cases q2 : argsOf d rs with
        | none => rw [q2] at e; cases e
        | some bs =>
          rw [q2] at e
          cases e
          have nd' := List.nodup_cons.mp nd
          have clash : ∀ m, MutAt (v :: vs) ((true, x) :: bs) 0 a → MutAt vs bs m a → False := fun m ⟨y, h1, h2⟩ hw => by
            have h3 : v = .ref a := by simpa using h2
            obtain ⟨j, p', x', g1, g2, g3⟩ := mut_marg t q2 m a hw
            subst h3
            have := S.inj i j _ _ _ _ a q g3 h g2
            subst this
            exact nd'.1 g1
          cases k with
          | zero =>
            cases l with
            | zero => rfl
            | succ l =>
              obtain ⟨z, h3, h4⟩ := hn
              exact (clash l hm ⟨z, by simpa using h3, by simpa using h4⟩).elim
          | succ k =>
            obtain ⟨y, h1, h2⟩ := hm
            cases l with
            | zero => exact (clash k hn ⟨y, by simpa using h1, by simpa using h2⟩).elim
            | succ l =>
              obtain ⟨z, h3, h4⟩ := hn
              exact congrArg Nat.succ (mut_inj S t q2 nd'.2 k l a ⟨y, by simpa using h1, by simpa using h2⟩ ⟨z, by simpa using h3, by simpa using h4⟩)
theorem outs_zip : ∀ {vs : List V} {avs : List AV} {as : List (Bool × D)} {os : List D}, RelAVs K H F σ vs avs → argsOf d avs = some as → OutsR K H1 F1 vs as os → ∀ p ∈ (margs avs).zip os, ∃ a, σ[p.1]? = some (some (.ref a)) ∧ OwnAt K H1 F1 a p.2
  | _, _, _, _, .nil, e, h => by cases e; cases h; intro p hp; cases hp
  | _, _, as, os, .v (x := x) (rs := rs) h t, e, ho => by
    rw [argsOf] at e
    cases q : argsOf d rs with
    | none => rw [q] at e; cases e
    | some bs =>
      rw [q] at e
      cases e
      cases ho with
      | i ho =>
        have z := outs_zip t q ho
        exact z
  | _, _, as, os, .m (v := v) (vs := vs) (i := i) (rs := rs) h t, e, ho => by
    rw [argsOf] at e
    cases q : d[i]? with
    | none => rw [argOf, q] at e; cases e
    | some sl =>
      cases sl with
      | emp => rw [argOf, q] at e; cases e
      | imm x => rw [argOf, q] at e; cases e
      | own p x =>
        rw [argOf, q] at e
        cases q2 : argsOf d rs with
        | none => rw [q2] at e; cases e
        | some bs =>
          rw [q2] at e
          cases e
          cases ho with
          | m o1 ho =>
            intro p hp
            rcases List.mem_cons.mp hp with hp | hp
            · subst hp
              exact ⟨_, h, o1⟩
            · exact outs_zip t q2 ho p hp
theorem putBack_get : ∀ {is : List Nat} {os : List D} {d d' : DS}, putBack d is os = some d' → is.Nodup → d'.length = d.length ∧ ∀ (i : Nat) (sl : Slot), d'[i]? = some sl → (i ∉ is ∧ d[i]? = some sl) ∨ ∃ p o x, (i, o) ∈ is.zip os ∧ sl = .own p o ∧ d[i]? = some (.own p x)
  | [], [], d, d', e, _ => by cases e; exact ⟨rfl, fun i sl h => .inl ⟨by simp, h⟩⟩
  | [], _ :: _, _, _, e, _ => by cases e
  | _ :: _, [], _, _, e, _ => by cases e
  | j :: is, o :: os, d, d', e, nd => by
    rw [putBack] at e
    have nd' := List.nodup_cons.mp nd
    cases q : d[j]? with
    | none => rw [q] at e; cases e
    | some sl =>
      cases sl with
      | emp => rw [q] at e; cases e
      | imm x => rw [q] at e; cases e
      | own p x =>
        rw [q] at e
        obtain ⟨hl, ih⟩ := putBack_get e nd'.2
        refine ⟨hl.trans (List.length_set ..), fun i sl h => ?_⟩
        rcases ih i sl h with ⟨h1, h2⟩ | ⟨p', o', x', h1, h2, h3⟩
        · rcases get_set h2 with ⟨g1, g2, _⟩ | ⟨g1, g2⟩
          · subst g1
            exact .inr ⟨p, o, x, List.mem_cons_self, g2, q⟩
          · refine .inl ⟨fun hm => ?_, g2⟩
            rcases List.mem_cons.mp hm with z | z
            · exact g1 z.symm
            · exact h1 z
        · rcases get_set h3 with ⟨g1, g2, _⟩ | ⟨g1, g2⟩
          · subst g1
            exact absurd (List.of_mem_zip h1).1 nd'.1
          · exact .inr ⟨p', o', x', List.mem_cons_of_mem _ h1, h2, g2⟩
theorem rd_call {g : Nat} {as : I} {E : XK} (h : GE K (evE gcs cd (.call g as)) σ H Q) : tCall (spD K cd g) [] E (GA K (evA gcs cd as)) σ H Q := by
  obtain ⟨C, F, d, rv, d', S, e, q⟩ := h
  rw [evE] at e
  obtain ⟨r, e1, e⟩ := R.bind_ok e
  obtain ⟨xs, e2, e⟩ := R.bind_ok e
  split at e
  · rename_i hnd
    obtain ⟨⟨os, f, x⟩, e3, e⟩ := R.bind_ok e
    obtain ⟨d2, e4, e⟩ := R.bind_ok e
    cases e
    have e2' := R.opt_ok e2
    refine ⟨C, F, d, r.1, r.2, S, e1, fun vs H1 F1 X1 S1 P => ?_⟩
    show spD K cd g (vs ++ []) H1 Q E
    rw [List.append_nil]
    refine ⟨F1, xs, os, f, x, args_of S1 P e2', mut_inj S1 P e2' hnd, S1.fdom, e3, fun v H2 F2 frame dom sub new fdom outs res => ?_⟩
    obtain ⟨hl, pb⟩ := putBack_get (R.opt_ok e4) hnd
    have mu : ∀ a, (∃ i, MutAt vs xs i a) → Own σ r.2 a := fun a ⟨k, hk⟩ => by
      obtain ⟨i, p, y, _, h2, h3⟩ := mut_marg P e2' k a hk
      exact ⟨i, p, y, h3, h2⟩
    have keep : ∀ a o, H1 a = some o → ¬ Own σ r.2 a → H2 a = some o := fun a o h n => frame a o h fun i hi => n (mu a ⟨i, hi⟩)
    have pbl : ∀ (i : Nat) (sl : Slot), r.2[i]? = some sl → ∃ sl', d'[i]? = some sl' := fun i sl h => by
      have hi := (List.getElem?_eq_some_iff.mp h).1
      rw [← hl] at hi
      exact ⟨_, List.getElem?_eq_getElem hi⟩
    have sx : SX H1 F1 H2 F2 := ⟨fun a o f h => keep a o h fun q => (S1.ownOb q).1 f, fun a xs h => keep a _ h (fun q => S1.ownTup q h),
      fun a o u h => keep a _ h (fun q => S1.ownFrz q h), sub⟩
    have key : Ext H1 F1 σ r.2 H2 F2 d' ∧ SRel K C H2 F2 σ d' := by
      refine S1.step hl (fun i y => ⟨fun h => ?_, fun h => ?_⟩) (fun i h => ?_) (fun i p y a h1 h2 => ?_) (fun i p y h => ?_) keep dom sub new fdom (fun a o h0 hM h => ?_)
      · rcases pb i _ h with ⟨_, h⟩ | ⟨p, o, z, _, h, _⟩
        · exact h
        · cases h
      · obtain ⟨sl, hs⟩ := pbl i _ h
        rcases pb i _ hs with ⟨_, h'⟩ | ⟨p, o, z, _, _, h'⟩
        · rw [h] at h'; cases h'; exact hs
        · rw [h] at h'; cases h'
      · obtain ⟨sl, hs⟩ := pbl i _ h
        rcases pb i _ hs with ⟨_, h'⟩ | ⟨p, o, z, _, _, h'⟩
        · rw [h] at h'; cases h'; exact hs
        · rw [h] at h'; cases h'
      · rcases pb i _ h1 with ⟨hn, h'⟩ | ⟨p', o, z, hz, hs, h'⟩
        · refine ⟨⟨y, h'⟩, ?_⟩
          obtain ⟨b, h3, ⟨nf, o5, h5, h6⟩, _⟩ := S1.own i p y h'
          rw [h2] at h3; cases h3
          have nm : ∀ k, ¬ MutAt vs xs k a := fun k hk => by
            obtain ⟨j, p', x', g1, g2, g3⟩ := mut_marg P e2' k a hk
            have := S1.inj i j _ _ _ _ a h' g3 h2 g2
            subst this
            exact hn g1
          refine ⟨fun hf => ?_, o5, frame a _ h5 nm, h6.mono sx⟩
          rcases new a hf with hf | hf
          · exact nf hf
          · rw [h5] at hf; cases hf
        · cases hs
          obtain ⟨b, g1, g2⟩ := outs_zip P e2' outs _ hz
          rw [h2] at g1; cases g1
          exact ⟨⟨z, h'⟩, g2⟩
      · rcases pb i _ h with ⟨_, h'⟩ | ⟨p', o, z, _, hs, h'⟩
        · exact ⟨y, h'⟩
        · cases hs; exact ⟨z, h'⟩
      · refine frame a o h fun k hk => ?_
        obtain ⟨i, p, y, _, g2, g3⟩ := mut_marg P e2' k a hk
        obtain ⟨b, h3, _, h4⟩ := S1.own i p y g3
        rw [g2] at h3; cases h3
        cases p with
        | true => exact hM i h4
        | false =>
          have h4' : C.H0 a = none := h4
          rw [h0] at h4'; cases h4'
    obtain ⟨X3, S3⟩ := key
    refine q v H2 F2 (X1.trans X3) S3 ?_
    cases f with
    | false => exact res
    | true =>
      rcases res with res | ⟨a, o6, g1, g3, g4, g5, g6⟩
      · exact .inl res
      · exact .inr ⟨a, o6, g1, g3, g4, g5, fun z => S1.ownNone (X3.ownSub z) g6, X1.dom a g6⟩
  · cases e
theorem fnA_eq {x : D} {a : Int} (h : fnA x = some a) : x = .dict [(.bool true, .int a)] := by
  unfold fnA at h
  split at h
  · cases h; rfl
  · cases h
theorem Rp.fn {v : V} {a : Int} (h : Rp K H F v (.dict [(.bool true, .int a)])) : ∃ f : Addr, v = .ref f ∧ a = (f : Int) := by
  cases h
  exact ⟨_, rfl, rfl⟩
theorem rd_callv {gs : List Nat} {i : Nat} {as : I} {E : XK} (h : GE K (evE gcs cd (.callv gs i as)) σ H Q) :
    ∃ g, g ∈ gs ∧ ∃ f : Addr, (gcs g).bind fnA = some (f : Int) ∧ tVar i σ H fun v H1 => v = .ref f ∧ tCall (spD K cd g) [] E (GA K (evA gcs cd as)) σ H1 Q := by
  obtain ⟨C, F, d, rv, d', S, e, q⟩ := h
  rw [evE] at e
  obtain ⟨a, z1, ez⟩ := R.bind_ok e
  obtain ⟨g, z2, ew⟩ := R.bind_ok ez
  clear e ez
  have e1 := R.opt_ok z1
  have e2 := R.opt_ok z2
  have hg := List.mem_of_find?_eq_some e2
  have hga : (gcs g).bind fnA = some a := of_decide_eq_true (show decide ((gcs g).bind fnA = some a) = true from List.find?_some (p := fun g => decide ((gcs g).bind fnA = some a)) e2)
  split at e1
  · rename_i x hx
    obtain ⟨v, hv, rv'⟩ := S.imm i x hx
    rw [fnA_eq e1] at rv'
    obtain ⟨f, rfl, rfl⟩ := rv'.fn
    refine ⟨g, hg, f, hga, .ref f, hv, rfl, ?_⟩
    refine rd_call ⟨C, F, d, rv, d', S, ?_, q⟩
    rw [evE]
    exact ew
  · cases e1
/-! ### dicts -/
theorem RpOs.ints : ∀ {xs : List D} {k : List Int} {vs : List V}, allInts xs = some k → RpOs K H F vs xs → vs = k.map V.int
  | [], _, _, e, h => by cases e; cases h; rfl
  | x :: xs, k, _, e, h => by
    cases h with
    | cons a b =>
      cases x with
      | int i =>
        have e' : (allInts xs).map (i :: ·) = some k := e
        cases q : allInts xs with
        | none => rw [q] at e'; cases e'
        | some ms =>
          rw [q] at e'
          cases e'
          rw [RpOs.ints q b, a.int]; rfl
      | _ => cases e
theorem keys_v (k : List Int) : (k.map (Sum.inl : Int → L2.Key)).map kV = k.map V.int := by rw [List.map_map]; rfl
theorem SRel.val (S : SRel K C H F σ d) {i : Nat} (h : isVal d i = true) : ∃ v, σ[i]? = some (some v) := by
  unfold isVal at h
  split at h
  · rename_i p x e
    obtain ⟨a, h1, _⟩ := S.own i p x e
    exact ⟨_, h1⟩
  · rename_i x e
    obtain ⟨v, h1, _⟩ := S.imm i x e
    exact ⟨_, h1⟩
  · cases h
theorem dctG_eq {x y : D} {k : List Int} (h : dctG x k = some y) : ∃ es, x = .dict ((.none, .bool true) :: es) ∧ getI k es = some y := by
  unfold dctG at h
  split at h
  · exact ⟨_, rfl, h⟩
  · cases h
theorem rd_dnew (h : GE K (evE gcs cd .dnew) σ H Q) : tDNewT σ H Q := by
  obtain ⟨C, F, d, rv, d', S, e, q⟩ := h
  rw [evE] at e
  cases e
  intro p hp
  obtain ⟨X3, S3, R3⟩ := (New.dct (K := K) (F := F) hp).fin S (fun _ h => h)
  exact q _ _ F X3 S3 R3
theorem rd_dget {i : Nat} {ks : I} (h : GE K (evE gcs cd (.dget i ks)) σ H Q) : tDGet (tVar i) (tTup (GB K (evB gcs cd ks))) σ H Q := by
  obtain ⟨C, F, d, rv, d', S, e, q⟩ := h
  rw [evE] at e
  split at e
  · rename_i hv
    obtain ⟨r, e1, e⟩ := R.bind_ok e
    obtain ⟨xs, e2, e⟩ := R.bind_ok e
    obtain ⟨k, e3, e⟩ := R.bind_ok e
    split at e
    · rename_i hl
      obtain ⟨x, e4, e⟩ := R.bind_ok e
      obtain ⟨y, e5, e⟩ := R.bind_ok e
      cases e
      obtain ⟨v, hv'⟩ := S.val hv
      refine ⟨v, hv', C, F, d, r.1, r.2, S, e1, fun vs H1 F1 X1 S1 P => ?_⟩
      have P' := P.opd S1 (R.opt_ok e2)
      have hvs := P'.ints (R.opt_ok e3)
      subst hvs
      refine ⟨by rw [List.length_map]; exact hl, fun p hp => ?_⟩
      have g := grow_upd (o := HO.tup (k.map V.int)) hp
      have ro : RpO K H1 F1 v x := RelRV.opd (Hs := H1) (rv := .bor i) (show σ[i]? = some (some v) from hv') S1 (R.opt_ok e4)
      obtain ⟨es, rfl, hg⟩ := dctG_eq (R.opt_ok e5)
      obtain ⟨a, kss, rfl, ha, da⟩ := ro.dct
      obtain ⟨u, hu, ru⟩ := (da.get (k := k)).1 y hg
      refine ⟨a, u, rfl, .inr ⟨kss, k.map Sum.inl, p, .inl (g _ _ ha), rfl, by rw [upd_same, keys_v], hu.symm⟩, ?_⟩
      exact q u _ F1 (X1.trans (Ext.pure g)) (S1.grow g) (Rp.mono (SX.grow g) _ _ ru)
    · cases e
  · cases e
end
end DL
/-! DL8: targets, what is walked, comprehensions. -/
namespace DL
open PySem PySem.Spec PyProof.Rows L2

/-- a tuple that is known as a tuple alone (zip's pairs) -/
def RpW (K : PySem.W.Frag) (H : Hp) (F : Addr → Prop) (v : V) (x : D) : Prop := Rp K H F v x ∨ ∃ a vs ds, v = .ref a ∧ x = .tuple ds ∧ SqT K H a vs ∧ RpAll K H F vs ds
def isTupP : I → Bool
  | .tup _ => true
  | _ => false
def RpP (K : PySem.W.Frag) (H : Hp) (F : Addr → Prop) (p : I) (v : V) (x : D) : Prop := if isTupP p then RpW K H F v x else Rp K H F v x
theorem RpP.of {K : PySem.W.Frag} {H : Hp} {F : Addr → Prop} {p : I} {v : V} {x : D} (h : Rp K H F v x) : RpP K H F p v x := by
  unfold RpP
  split
  · exact .inl h
  · exact h
def Agree (σ σ' : L2.St) (vs : List Nat) : Prop := σ'.length = σ.length ∧ ∀ i : Nat, i ∉ vs → σ'[i]? = σ[i]?
theorem Agree.mono {σ σ' : L2.St} {vs ws : List Nat} (h : Agree σ σ' vs) (s : ∀ i ∈ vs, i ∈ ws) : Agree σ σ' ws := ⟨h.1, fun i hi => h.2 i fun z => hi (s i z)⟩
theorem Agree.trans {σ σ1 σ2 : L2.St} {vs ws : List Nat} (h : Agree σ σ1 vs) (k : Agree σ1 σ2 ws) : Agree σ σ2 (vs ++ ws) :=
  ⟨k.1.trans h.1, fun i hi => (k.2 i fun z => hi (List.mem_append_right _ z)).trans (h.2 i fun z => hi (List.mem_append_left _ z))⟩
theorem wipe_get (σ : L2.St) : ∀ (vs : List Nat) (i : Nat), (i ∉ vs → (wipe σ vs)[i]? = σ[i]?) ∧ (i ∈ vs → i < σ.length → (wipe σ vs)[i]? = some none)
  | [], i => ⟨fun _ => rfl, fun h => by cases h⟩
  | v :: vs, i => by
    obtain ⟨h1, h2⟩ := wipe_get σ vs i
    unfold wipe
    constructor
    · intro h
      rw [List.mem_cons, not_or] at h
      rw [List.getElem?_set_ne (Ne.symm h.1)]
      exact h1 h.2
    · intro h hl
      by_cases e : v = i
      · subst e
        exact List.getElem?_set_self (by rw [wipe_length]; exact hl)
      · rw [List.getElem?_set_ne e]
        rcases List.mem_cons.mp h with h | h
        · exact absurd h.symm e
        · exact h2 h hl
theorem Agree.wipe {σ σ' : L2.St} {vs : List Nat} (h : Agree σ σ' vs) : L2.wipe σ' vs = L2.wipe σ vs := by
  apply List.ext_getElem?
  intro i
  by_cases hi : i ∈ vs
  · by_cases hl : i < σ.length
    · rw [(wipe_get σ' vs i).2 hi (by rw [h.1]; exact hl), (wipe_get σ vs i).2 hi hl]
    · rw [List.getElem?_eq_none (by rw [wipe_length, h.1]; omega), List.getElem?_eq_none (by rw [wipe_length]; omega)]
  · rw [(wipe_get σ' vs i).1 hi, (wipe_get σ vs i).1 hi, h.2 i hi]
theorem wipeD_len (d : DS) : ∀ vs : List Nat, (wipeD d vs).length = d.length
  | [] => rfl
  | v :: vs => by unfold wipeD; rw [List.length_set, wipeD_len d vs]
theorem wipeD_get (d : DS) : ∀ (vs : List Nat) (i : Nat), (i ∉ vs → (wipeD d vs)[i]? = d[i]?) ∧ (i ∈ vs → i < d.length → (wipeD d vs)[i]? = some .emp)
  | [], i => ⟨fun _ => rfl, fun h => by cases h⟩
  | v :: vs, i => by
    obtain ⟨h1, h2⟩ := wipeD_get d vs i
    unfold wipeD
    constructor
    · intro h
      rw [List.mem_cons, not_or] at h
      rw [List.getElem?_set_ne (Ne.symm h.1)]
      exact h1 h.2
    · intro h hl
      by_cases e : v = i
      · subst e
        exact List.getElem?_set_self (by rw [wipeD_len]; exact hl)
      · rw [List.getElem?_set_ne e]
        rcases List.mem_cons.mp h with h | h
        · exact absurd h.symm e
        · exact h2 h hl
theorem backD_len (d d' : DS) : ∀ vs : List Nat, (backD d d' vs).length = d'.length
  | [] => rfl
  | v :: vs => by unfold backD; rw [List.length_set, backD_len d d' vs]
theorem backD_get (d d' : DS) (hl : d'.length = d.length) : ∀ (vs : List Nat) (i : Nat), (i ∉ vs → (backD d d' vs)[i]? = d'[i]?) ∧ (i ∈ vs → (backD d d' vs)[i]? = d[i]?)
  | [], i => ⟨fun _ => rfl, fun h => by cases h⟩
  | v :: vs, i => by
    obtain ⟨h1, h2⟩ := backD_get d d' hl vs i
    unfold backD
    constructor
    · intro h
      rw [List.mem_cons, not_or] at h
      rw [List.getElem?_set_ne (Ne.symm h.1)]
      exact h1 h.2
    · intro h
      by_cases e : v = i
      · subst e
        by_cases hv : v < d.length
        · rw [List.getElem?_set_self (by rw [backD_len, hl]; exact hv), List.getElem?_eq_getElem hv]
          rfl
        · rw [List.getElem?_eq_none (by rw [List.length_set, backD_len, hl]; omega), List.getElem?_eq_none (by omega)]
      · rw [List.getElem?_set_ne e]
        rcases List.mem_cons.mp h with h | h
        · exact absurd h.symm e
        · exact h2 h

section
variable {K : PySem.W.Frag} {C : Fc} {H H1 H2 : Hp} {F F1 F2 : Addr → Prop} {σ : L2.St} {d d1 d2 : DS}
variable {gcs : Nat → Option D} {cd : CallSem} {Q : VK}
/-! ### targets -/
theorem SRel.bind (S : SRel K C H F σ d) {i : Nat} {v : V} {x : D} (hi : i < d.length) (r : Rp K H F v x) : SRel K C H F (σ.set i (some v)) (d.set i (.imm x)) := by
  have hiσ : i < σ.length := by rw [← S.len]; exact hi
  have oth : ∀ (j : Nat) (p : Bool) (z : D), (d.set i (.imm x))[j]? = some (.own p z) → i ≠ j ∧ d[j]? = some (.own p z) := fun j p z g => by
    rcases get_set g with ⟨_, g, _⟩ | g
    · cases g
    · exact g
  refine ⟨by rw [List.length_set, List.length_set]; exact S.len, fun j z g => ?_, fun j p z g => ?_, fun j k p q y z a g1 g2 g3 g4 => ?_, S.fdom, S.fnew, S.fsub, S.frame, S.dom⟩
  · rcases get_set g with ⟨e, g2, _⟩ | ⟨ne, g⟩
    · cases g2; subst e
      exact ⟨v, List.getElem?_set_self hiσ, r⟩
    · obtain ⟨w, h1, h2⟩ := S.imm j z g
      exact ⟨w, by rw [List.getElem?_set_ne ne]; exact h1, h2⟩
  · obtain ⟨ne, g⟩ := oth j p z g
    obtain ⟨a, h1, h2, h3⟩ := S.own j p z g
    exact ⟨a, by rw [List.getElem?_set_ne ne]; exact h1, h2, h3⟩
  · obtain ⟨n1, g1⟩ := oth j p y g1
    obtain ⟨n2, g2⟩ := oth k q z g2
    rw [List.getElem?_set_ne n1] at g3
    rw [List.getElem?_set_ne n2] at g4
    exact S.inj j k p q y z a g1 g2 g3 g4
theorem Agree.set {σ : L2.St} {i : Nat} {v : Option V} : Agree σ (σ.set i v) [i] := ⟨List.length_set .., fun j hj => List.getElem?_set_ne (fun e => hj (by simp [e]))⟩
def GP (K : PySem.W.Frag) (p : I) : TG := fun v σ H Q => ∃ C F d x d', SRel K C H F σ d ∧ RpP K H F p v x ∧ bindP p x d = .ok d' ∧ ∀ σ', SRel K C H F σ' d' → Agree σ σ' (pvars p) → Q σ' H
def GPs (K : PySem.W.Frag) (ps : I) : TGs := fun vs σ H Q => ∃ C F d xs d', SRel K C H F σ d ∧ RpAll K H F vs xs ∧ bindPs ps xs d = .ok d' ∧ ∀ σ', SRel K C H F σ' d' → Agree σ σ' (pvars ps) → Q σ' H
theorem gp_var {i : Nat} {v : V} {Q : L2.St → Hp → Prop} (h : GP K (.var i) v σ H Q) : gName i v σ H Q := by
  obtain ⟨C, F, d, x, d', S, r, e, q⟩ := h
  rw [bindP] at e
  split at e
  · rename_i hi
    cases e
    exact q _ (S.bind hi r) Agree.set
  · cases e
theorem gp_nil {vs : List V} {Q : L2.St → Hp → Prop} (h : GPs K .nil vs σ H Q) : gNil vs σ H Q := by
  obtain ⟨C, F, d, xs, d', S, r, e, q⟩ := h
  cases xs with
  | nil =>
    rw [bindPs] at e
    cases e
    cases r
    exact ⟨rfl, q σ S ⟨rfl, fun _ _ => rfl⟩⟩
  | cons x xs => cases e
theorem gp_cons {a b : I} {vs : List V} {Q : L2.St → Hp → Prop} (h : GPs K (.cons a b) vs σ H Q) : gCons (GP K a) (GPs K b) vs σ H Q := by
  obtain ⟨C, F, d, xs, d', S, r, e, q⟩ := h
  cases xs with
  | nil => cases e
  | cons x xs =>
    rw [bindPs] at e
    obtain ⟨d1, e1, e2⟩ := R.bind_ok e
    cases r with
    | cons r1 r2 =>
      exact ⟨_, _, rfl, C, F, d, x, d1, S, RpP.of r1, e1, fun σ1 S1 A1 => ⟨C, F, d1, xs, d', S1, r2, e2, fun σ2 S2 A2 => q σ2 S2 (A1.trans A2)⟩⟩
/-- a target's number of parts -/
def plen : I → Nat
  | .cons _ b => plen b + 1
  | _ => 0
theorem bindPs_plen : ∀ (ps : I) (xs : List D) (d d' : DS), bindPs ps xs d = .ok d' → xs.length = plen ps
  | .nil, [], _, _, _ => rfl
  | .cons p ps, x :: xs, d, d', e => by
    rw [bindPs] at e
    obtain ⟨d1, e1, e2⟩ := R.bind_ok e
    rw [List.length_cons, bindPs_plen ps xs d1 d' e2]; rfl
theorem gp_tup {ps : I} {v : V} {Q : L2.St → Hp → Prop} (h : GP K (.tup ps) v σ H Q) : gTup K (plen ps) (GPs K ps) v σ H Q := by
  obtain ⟨C, F, d, x, d', S, r, e, q⟩ := h
  have r' : RpW K H F v x := r
  cases x with
  | tuple xs =>
    rw [bindP] at e
    have hl := bindPs_plen ps xs d d' e
    rcases r' with r' | ⟨a, vs, ds, rfl, e2, h1, r'⟩
    · cases r' with
      | tup h1 r' => exact ⟨_, _, rfl, h1.sq, r'.length.trans hl, C, F, d, xs, d', S, r', e, q⟩
    · cases e2
      exact ⟨a, vs, rfl, h1, r'.length.trans hl, C, F, d, xs, d', S, r', e, q⟩
  | _ => cases e
/-- what a target does to the slots -/
theorem bindP_get : ∀ (p : I), (∀ (x : D) (d d' : DS), bindP p x d = .ok d' → d'.length = d.length ∧ ∀ i : Nat, (i ∉ pvars p → d'[i]? = d[i]?) ∧ (∀ sl, d'[i]? = some sl → d[i]? = some sl ∨ ∃ y, sl = .imm y)) ∧
    (∀ (xs : List D) (d d' : DS), bindPs p xs d = .ok d' → d'.length = d.length ∧ ∀ i : Nat, (i ∉ pvars p → d'[i]? = d[i]?) ∧ (∀ sl, d'[i]? = some sl → d[i]? = some sl ∨ ∃ y, sl = .imm y)) := by
  intro p
  induction p with
  | var i =>
    refine ⟨fun x d d' e => ?_, (fun xs d d' e => by cases xs <;> cases e)⟩
    rw [bindP] at e
    split at e
    · cases e
      refine ⟨List.length_set .., fun j => ⟨fun hj => List.getElem?_set_ne (fun z => hj (by simp [pvars, z])), fun sl h => ?_⟩⟩
      rcases get_set h with ⟨_, h, _⟩ | ⟨_, h⟩
      · exact .inr ⟨_, h⟩
      · exact .inl h
    · cases e
  | tup ps ih =>
    refine ⟨fun x d d' e => ?_, (fun xs d d' e => by cases xs <;> cases e)⟩
    cases x with
    | tuple xs => rw [bindP] at e; exact ih.2 xs d d' e
    | _ => cases e
  | nil =>
    refine ⟨(fun x d d' e => by cases x <;> cases e), fun xs d d' e => ?_⟩
    cases xs with
    | nil => rw [bindPs] at e; cases e; exact ⟨rfl, fun i => ⟨fun _ => rfl, fun sl h => .inl h⟩⟩
    | cons => cases e
  | cons a b iha ihb =>
    refine ⟨(fun x d d' e => by cases x <;> cases e), fun xs d d' e => ?_⟩
    cases xs with
    | nil => cases e
    | cons x xs =>
      rw [bindPs] at e
      obtain ⟨d1, e1, e2⟩ := R.bind_ok e
      obtain ⟨l1, h1⟩ := iha.1 x d d1 e1
      obtain ⟨l2, h2⟩ := ihb.2 xs d1 d' e2
      refine ⟨l2.trans l1, fun i => ⟨fun hi => ?_, fun sl h => ?_⟩⟩
      · have hi' : i ∉ pvars a ++ pvars b := hi
        rw [List.mem_append, not_or] at hi'
        exact ((h2 i).1 hi'.2).trans ((h1 i).1 hi'.1)
      · rcases (h2 i).2 sl h with h | h
        · exact (h1 i).2 sl h
        · exact .inr h
  | _ => exact ⟨(fun x d d' e => by cases x <;> cases e), (fun xs d d' e => by cases xs <;> cases e)⟩

/-! ### what is walked -/
def ItOk (K : PySem.W.Frag) (p : I) (J : It) (F : Addr → Prop) (H : Hp) (xs : List D) : Prop := ∀ H2 F2, SX H F H2 F2 → ∀ i : Nat, (∀ x, xs[i]? = some x → J.go i H2 ∧ ∀ v H3, J.yld i H2 v H3 → (∀ a o, H2 a = some o → H3 a = some o) ∧ RpP K H3 F2 p v x) ∧ (xs.length ≤ i → J.stop i H2)
def GI (K : PySem.W.Frag) (p : I) (ev : DS → R (List D × DS)) : TI := fun σ H R => ∃ C F d xs d', SRel K C H F σ d ∧ ev d = .ok (xs, d') ∧ ∀ J H' F', Ext H F σ d H' F' d' → SRel K C H' F' σ d' → ItOk K p J F' H' xs → R J H'
theorem PI.imp {X : Cx} {tg e : Expr} {t t' : TI} (h : PI X tg e t) (k : ∀ σ H Q, t' σ H Q → t σ H Q) : PI X tg e t' := ⟨fun pins s σ H Q I w => h.run pins s σ H Q I (k σ H Q w)⟩
theorem PI.or {X : Cx} {tg e : Expr} {t t' : TI} (h : PI X tg e t) (h' : PI X tg e t') : PI X tg e (fun σ H R => t σ H R ∨ t' σ H R) := ⟨fun pins s σ H Q I w => w.elim (h.run pins s σ H Q I) (h'.run pins s σ H Q I)⟩
theorem it_list {p : I} {a : Addr} {vs : List V} {ds : List D} (f : F a) (h : H a = some (.lst vs)) (r : RpAll K H F vs ds) : ItOk K p (Itl K a) F H ds := fun H2 F2 sx i => by
  have h2 : SqL K H2 a vs := .inl (.inl (sx.keep _ _ f h))
  have r2 := r.mono sx _ _
  refine ⟨fun x hx => ?_, fun hi => ⟨vs, h2, by rw [r.length]; exact hi⟩⟩
  obtain ⟨v, hv, hr⟩ := r2.get hx
  refine ⟨⟨vs, v, h2, hv⟩, fun w H3 hy => ?_⟩
  obtain ⟨rfl, hy⟩ := hy
  have := hy vs h2
  rw [hv] at this; cases this
  exact ⟨fun _ _ h => h, RpP.of hr⟩
theorem it_tup {p : I} {a : Addr} {vs : List V} {ds : List D} (h : TupS K H a vs) (r : RpAll K H F vs ds) : ItOk K p (Itt K a) F H ds := fun H2 F2 sx i => by
  have h2 : SqT K H2 a vs := (sx.tupS h).sq
  have r2 := r.mono sx _ _
  refine ⟨fun x hx => ?_, fun hi => ⟨vs, h2, by rw [r.length]; exact hi⟩⟩
  obtain ⟨v, hv, hr⟩ := r2.get hx
  refine ⟨⟨vs, v, h2, hv⟩, fun w H3 hy => ?_⟩
  obtain ⟨rfl, hy⟩ := hy
  have := hy vs h2
  rw [hv] at this; cases this
  exact ⟨fun _ _ h => h, RpP.of hr⟩
theorem it_rng {p : I} (a b : Int) : ItOk K p (Itr a (b - a).toNat) F H (rangeD a b) := fun H2 F2 sx i => by
  have hl : (rangeD a b).length = (b - a).toNat := by unfold rangeD; rw [List.length_map, List.length_range]
  refine ⟨fun x hx => ?_, fun hi => by rw [hl] at hi; exact hi⟩
  have hi : i < (b - a).toNat := by rw [← hl]; exact (List.getElem?_eq_some_iff.mp hx).1
  refine ⟨hi, fun w H3 hy => ?_⟩
  obtain ⟨rfl, rfl⟩ := hy
  have e : x = .int (a + (i : Nat)) := by
    unfold rangeD at hx
    rw [List.getElem?_map, List.getElem?_range hi] at hx
    exact (Option.some.inj hx).symm
  subst e
  exact ⟨fun _ _ h => h, RpP.of (.int _)⟩
theorem zipD_get : ∀ (xs ys : List D) (i : Nat) (z : D), (zipD xs ys)[i]? = some z → ∃ x y, xs[i]? = some x ∧ ys[i]? = some y ∧ z = .tuple [x, y]
  | [], _, i, z, h => by simp [zipD] at h
  | _ :: _, [], i, z, h => by simp [zipD] at h
  | x :: xs, y :: ys, 0, z, h => by
    rw [zipD] at h
    exact ⟨x, y, rfl, rfl, (Option.some.inj h).symm⟩
  | x :: xs, y :: ys, i + 1, z, h => by
    rw [zipD] at h
    exact zipD_get xs ys i z (by simpa using h)
theorem zipD_len : ∀ (xs ys : List D), (zipD xs ys).length = min xs.length ys.length
  | [], _ => by simp [zipD]
  | _ :: _, [] => by simp [zipD]
  | x :: xs, y :: ys => by rw [zipD, List.length_cons, zipD_len xs ys, List.length_cons, List.length_cons]; omega
theorem zip_pair {p : I} (hp : isTupP p = true) {x y : V} {dx dy : D} {T : Addr} (h : H T = none) (rx : Rp K H F x dx) (ry : Rp K H F y dy) : RpP K (upd H T (.tup [x, y])) F p (.ref T) (.tuple [dx, dy]) := by
  unfold RpP
  rw [if_pos hp]
  have sx : SX H F (upd H T (.tup [x, y])) F := SX.grow (grow_upd h)
  exact .inr ⟨T, _, _, rfl, rfl, .inl (.inl upd_same), .cons (rx.mono sx _ _) (.cons (ry.mono sx _ _) .nil)⟩
theorem it_zipL {p : I} (hp : isTupP p = true) {a b : Addr} {vs ws : List V} {ds es : List D} (f : F a) (h : H a = some (.lst vs)) (r : RpAll K H F vs ds) (f' : F b) (h' : H b = some (.lst ws)) (r' : RpAll K H F ws es) : ItOk K p (Itz K a b) F H (zipD ds es) := fun H2 F2 sx i => by
  have h2 : SqL K H2 a vs := .inl (.inl (sx.keep _ _ f h))
  have h3 : SqL K H2 b ws := .inl (.inl (sx.keep _ _ f' h'))
  have r2 := r.mono sx _ _
  have r3 := r'.mono sx _ _
  refine ⟨fun x hx => ?_, fun hi => ⟨vs, ws, h2, h3, by rw [zipD_len] at hi; rw [r.length, r'.length]; omega⟩⟩
  obtain ⟨dx, dy, g1, g2, rfl⟩ := zipD_get ds es i x hx
  obtain ⟨v, hv, hr⟩ := r2.get g1
  obtain ⟨w, hw, hr'⟩ := r3.get g2
  refine ⟨⟨vs, ws, v, w, h2, h3, hv, hw⟩, fun u H3 hy => ?_⟩
  obtain ⟨T, x, y, rfl, hT, rfl, k1, k2⟩ := hy
  have e1 := k1 vs h2
  have e2 := k2 ws h3
  rw [hv] at e1; cases e1
  rw [hw] at e2; cases e2
  exact ⟨grow_upd hT, zip_pair hp hT hr hr'⟩
theorem it_zipT {p : I} (hp : isTupP p = true) {a b : Addr} {vs ws : List V} {ds es : List D} (h : TupS K H a vs) (r : RpAll K H F vs ds) (h' : TupS K H b ws) (r' : RpAll K H F ws es) : ItOk K p (RZ.ItzT K a b) F H (zipD ds es) := fun H2 F2 sx i => by
  have h2 : SqT K H2 a vs := (sx.tupS h).sq
  have h3 : SqT K H2 b ws := (sx.tupS h').sq
  have r2 := r.mono sx _ _
  have r3 := r'.mono sx _ _
  refine ⟨fun x hx => ?_, fun hi => ⟨vs, ws, h2, h3, by rw [zipD_len] at hi; rw [r.length, r'.length]; omega⟩⟩
  obtain ⟨dx, dy, g1, g2, rfl⟩ := zipD_get ds es i x hx
  obtain ⟨v, hv, hr⟩ := r2.get g1
  obtain ⟨w, hw, hr'⟩ := r3.get g2
  refine ⟨⟨vs, ws, v, w, h2, h3, hv, hw⟩, fun u H3 hy => ?_⟩
  obtain ⟨T, x, y, rfl, hT, rfl, k1, k2⟩ := hy
  have e1 := k1 vs h2
  have e2 := k2 ws h3
  rw [hv] at e1; cases e1
  rw [hw] at e2; cases e2
  exact ⟨grow_upd hT, zip_pair hp hT hr hr'⟩
theorem ri_E {p a : I} {Rt : It → Hp → Prop} (h : GI K p (evI gcs cd (.itE a)) σ H Rt) : iList K (GE K (evE gcs cd a)) σ H Rt ∨ iTup K (GE K (evE gcs cd a)) σ H Rt := by
  obtain ⟨C, F, d, xs, d', S, e, q⟩ := h
  rw [evI] at e
  obtain ⟨ra, e1, e⟩ := R.bind_ok e
  obtain ⟨z, e2, e⟩ := R.bind_ok e
  obtain ⟨ys, e3, e⟩ := R.bind_ok e
  cases e
  obtain ⟨x, dz⟩ := z
  have e3' := R.opt_ok e3
  cases x with
  | list l =>
    cases e3'
    refine .inl ⟨C, F, d, ra.1, ra.2, S, e1, fun v H1 F1 X1 S1 R1 => ?_⟩
    obtain ⟨F2, X2, S2, P2⟩ := RelRV.fz S X1 S1 R1 (R.opt_ok e2)
    cases P2 with
    | lst f h r => exact ⟨_, rfl, ⟨_, .inl (.inl h)⟩, q _ H1 F2 X2 S2 (it_list f h r)⟩
  | tuple l =>
    cases e3'
    refine .inr ⟨C, F, d, ra.1, ra.2, S, e1, fun v H1 F1 X1 S1 R1 => ?_⟩
    obtain ⟨F2, X2, S2, P2⟩ := RelRV.fz S X1 S1 R1 (R.opt_ok e2)
    cases P2 with
    | tup h r => exact ⟨_, rfl, ⟨_, h.sq⟩, q _ H1 F2 X2 S2 (it_tup h r)⟩
  | _ => cases e3'
theorem ri_Z {p as : I} (hp : isTupP p = true) {Rt : It → Hp → Prop} (h : GI K p (evI gcs cd (.itZ as)) σ H Rt) : RZ.iZipA K (GL K (evL gcs cd as)) σ H Rt := by
  obtain ⟨C, F, d, xs, d', S, e, q⟩ := h
  rw [evI] at e
  obtain ⟨r, e1, e⟩ := R.bind_ok e
  refine ⟨C, F, d, r.1, r.2, S, e1, fun vs H1 F1 X1 S1 P => ?_⟩
  split at e
  · rename_i l l' heq
    cases e
    rw [heq] at P
    cases P with
    | cons p1 P =>
      cases P with
      | cons p2 P =>
        cases P
        cases p1 with
        | lst f1 h1 r1 =>
          cases p2 with
          | lst f2 h2 r2 => exact ⟨_, _, _, _, rfl, .inl ⟨.inl (.inl h1), .inl (.inl h2), q _ H1 F1 X1 S1 (it_zipL hp f1 h1 r1 f2 h2 r2)⟩⟩
  · rename_i l l' heq
    cases e
    rw [heq] at P
    cases P with
    | cons p1 P =>
      cases P with
      | cons p2 P =>
        cases P
        cases p1 with
        | tup h1 r1 =>
          cases p2 with
          | tup h2 r2 => exact ⟨_, _, _, _, rfl, .inr ⟨h1.sq, h2.sq, q _ H1 F1 X1 S1 (it_zipT hp h1 r1 h2 r2)⟩⟩
  · cases e
theorem ri_R1 {p b : I} {Rt : It → Hp → Prop} (h : GI K p (evI gcs cd (.itR (.rng .nil b))) σ H Rt) : iRng1 (tCons (GE K (evE gcs cd b)) tNil) σ H Rt := by
  obtain ⟨C, F, d, xs, d', S, e, q⟩ := h
  rw [evI] at e
  obtain ⟨r, e1, e⟩ := R.bind_ok e
  split at e
  · rename_i hb
    cases e
    rw [Bool.and_eq_true] at hb
    obtain ⟨⟨i, j⟩, d2⟩ := r
    have z := rr_1 (Q := fun i j H1 => i = 0 → ∃ j' : Int, [V.int j] = [.int j'] ∧ -(2 ^ 62) ≤ j' ∧ j' < 2 ^ 62 ∧ Rt (Itr 0 j'.toNat) H1) ⟨C, F, d, i, j, d2, S, e1, fun H1 F1 X1 S1 hi => by
      have hi' : i = 0 := hi
      subst hi'
      refine ⟨j, rfl, (inR_of hb.2).1, (inR_of hb.2).2, q _ H1 F1 X1 S1 ?_⟩
      have := it_rng (K := K) (p := p) (F := F1) (H := H1) 0 j
      rwa [Int.sub_zero] at this⟩
    obtain ⟨C, F, d, rv, d', S, e, q⟩ := z
    refine ⟨C, F, d, rv, d', S, e, fun v H1 F1 X1 S1 R1 => ?_⟩
    obtain ⟨j', rfl, k⟩ := q v H1 F1 X1 S1 R1
    exact k rfl
  · cases e
theorem ri_R2 {p a a' b : I} {Rt : It → Hp → Prop} (h : GI K p (evI gcs cd (.itR (.rng (.cons a a') b))) σ H Rt) : iRng2 (tCons (GE K (evE gcs cd a)) (tCons (GE K (evE gcs cd b)) tNil)) σ H Rt := by
  obtain ⟨C, F, d, xs, d', S, e, q⟩ := h
  rw [evI] at e
  obtain ⟨r, e1, e⟩ := R.bind_ok e
  split at e
  · rename_i hb
    cases e
    rw [Bool.and_eq_true] at hb
    obtain ⟨⟨i, j⟩, d2⟩ := r
    have z := rr_2 (Q := fun i j H1 => (∃ i' j' : Int, [V.int i, V.int j] = [.int i', .int j'] ∧ (-(2 ^ 62) ≤ i' ∧ i' < 2 ^ 62 ∧ -(2 ^ 62) ≤ j' ∧ j' < 2 ^ 62) ∧ Rt (Itr i' (j' - i').toNat) H1)) ⟨C, F, d, i, j, d2, S, e1, fun H1 F1 X1 S1 => ⟨i, j, rfl, ⟨(inR_of hb.1).1, (inR_of hb.1).2, (inR_of hb.2).1, (inR_of hb.2).2⟩, q _ H1 F1 X1 S1 (it_rng i j)⟩⟩
    obtain ⟨C, F, d, rv, d', S, e, q⟩ := z
    refine ⟨C, F, d, rv, d', S, e, fun v H1 F1 X1 S1 R1 => ?_⟩
    obtain ⟨C2, G, d2, rv2, d2', S2, e2, q2⟩ := q v H1 F1 X1 S1 R1
    refine ⟨C2, G, d2, rv2, d2', S2, e2, fun w H2 F2 X2 S2 R2 => ?_⟩
    obtain ⟨i', j', rfl, rfl, k⟩ := q2 w H2 F2 X2 S2 R2
    exact k
  · cases e

/-! ### a comprehension's block -/
theorem SRel.wipe (S : SRel K C H F σ d) (vs : List Nat) (no : noOwn d vs = true) : SRel K C H F (L2.wipe σ vs) (wipeD d vs) := by
  have key : ∀ (i : Nat) (sl : Slot), (wipeD d vs)[i]? = some sl → sl ≠ .emp → i ∉ vs ∧ d[i]? = some sl := fun i sl h ne => by
    by_cases hi : i ∈ vs
    · have hl : i < d.length := by
        have := (List.getElem?_eq_some_iff.mp h).1
        rwa [wipeD_len] at this
      rw [(wipeD_get d vs i).2 hi hl] at h
      cases h; exact absurd rfl ne
    · rw [(wipeD_get d vs i).1 hi] at h
      exact ⟨hi, h⟩
  refine ⟨by rw [wipeD_len, wipe_length]; exact S.len, fun i x h => ?_, fun i p x h => ?_, fun i j p q x y a h1 h2 h3 h4 => ?_, S.fdom, S.fnew, S.fsub, S.frame, S.dom⟩
  · obtain ⟨hi, h⟩ := key i _ h (fun z => by cases z)
    obtain ⟨v, g1, g2⟩ := S.imm i x h
    exact ⟨v, by rw [(wipe_get σ vs i).1 hi]; exact g1, g2⟩
  · obtain ⟨hi, h⟩ := key i _ h (fun z => by cases z)
    obtain ⟨a, g1, g2⟩ := S.own i p x h
    exact ⟨a, by rw [(wipe_get σ vs i).1 hi]; exact g1, g2⟩
  · obtain ⟨hi, h1⟩ := key i _ h1 (fun z => by cases z)
    obtain ⟨hj, h2⟩ := key j _ h2 (fun z => by cases z)
    rw [(wipe_get σ vs i).1 hi] at h3
    rw [(wipe_get σ vs j).1 hj] at h4
    exact S.inj i j p q x y a h1 h2 h3 h4
theorem noOwn_of {vs : List Nat} (no : noOwn d vs = true) {i : Nat} (hi : i ∈ vs) {p : Bool} {x : D} : d[i]? ≠ some (.own p x) := fun e => by
  unfold noOwn at no
  rw [List.all_eq_true] at no
  have := no i hi
  rw [e] at this
  cases this
/-- out of the block again -/
theorem SRel.back {σ2 : L2.St} {d2 d4 : DS} {vs : List Nat} (S : SRel K C H F σ d) (no : noOwn d vs = true) (hσ : ∀ i : Nat, i ∉ vs → σ2[i]? = σ[i]?) (hl : d2.length = d.length) (hd : ∀ i : Nat, i ∉ vs → d2[i]? = d[i]?) (hn : ∀ (i : Nat) (p : Bool) (x : D), i ∈ vs → d2[i]? ≠ some (.own p x))
    (S2 : SRel K C H F σ2 d2) (X : Ext H F σ2 d2 H1 F1 d4) (S4 : SRel K C H1 F1 σ2 d4) : Ext H F σ d H1 F1 (backD d d4 vs) ∧ SRel K C H1 F1 σ (backD d d4 vs) ∧ ∀ a, Own σ2 d2 a → Own σ d a := by
  have hl4 : d4.length = d.length := X.len.trans hl
  have own2 : ∀ a, Own σ2 d2 a → Own σ d a := fun a ⟨i, p, x, e, f⟩ => by
    have hi : i ∉ vs := fun z => hn i p x z e
    exact ⟨i, p, x, by rw [← hd i hi]; exact e, by rw [← hσ i hi]; exact f⟩
  have keyO : ∀ (i : Nat) (p : Bool) (x : D), (backD d d4 vs)[i]? = some (.own p x) → i ∉ vs ∧ d4[i]? = some (.own p x) := fun i p x h => by
    by_cases hi : i ∈ vs
    · rw [(backD_get d d4 hl4 vs i).2 hi] at h
      exact absurd h (noOwn_of no hi)
    · rw [(backD_get d d4 hl4 vs i).1 hi] at h
      exact ⟨hi, h⟩
  have sx := X.sx S2
  refine ⟨⟨fun a o h n => X.keep a o h fun z => n (own2 a z), X.sub, fun a f => (X.new a f).imp id (.imp id (own2 a)), X.dom, fun i p x h => ?_, fun i x h => ?_, fun i h => ?_, by rw [backD_len]; exact hl4⟩, ⟨by rw [backD_len, hl4]; exact S.len, fun i x h => ?_, fun i p x h => ?_, fun i j p q x y a h1 h2 h3 h4 => ?_, S4.fdom, S4.fnew, S4.fsub, S4.frame, S4.dom⟩, own2⟩
  · obtain ⟨hi, h⟩ := keyO i p x h
    obtain ⟨y, hy⟩ := X.own i p x h
    exact ⟨y, by rw [← hd i hi]; exact hy⟩
  · by_cases hi : i ∈ vs
    · rw [(backD_get d d4 hl4 vs i).2 hi]; exact h
    · rw [(backD_get d d4 hl4 vs i).1 hi]
      exact X.imm i x (by rw [hd i hi]; exact h)
  · by_cases hi : i ∈ vs
    · rw [(backD_get d d4 hl4 vs i).2 hi]; exact h
    · rw [(backD_get d d4 hl4 vs i).1 hi]
      exact X.emp i (by rw [hd i hi]; exact h)
  · by_cases hi : i ∈ vs
    · rw [(backD_get d d4 hl4 vs i).2 hi] at h
      obtain ⟨v, h1, h2⟩ := S.imm i x h
      exact ⟨v, h1, h2.mono sx _ _⟩
    · rw [(backD_get d d4 hl4 vs i).1 hi] at h
      obtain ⟨v, h1, h2⟩ := S4.imm i x h
      exact ⟨v, by rw [← hσ i hi]; exact h1, h2⟩
  · obtain ⟨hi, h⟩ := keyO i p x h
    obtain ⟨a, h1, h2⟩ := S4.own i p x h
    exact ⟨a, by rw [← hσ i hi]; exact h1, h2⟩
  · obtain ⟨hi, h1⟩ := keyO i p x h1
    obtain ⟨hj, h2⟩ := keyO j q y h2
    rw [← hσ i hi] at h3
    rw [← hσ j hj] at h4
    exact S4.inj i j p q x y a h1 h2 h3 h4
/-- the list that is being made: nobody's -/
theorem SX.other2 {D : Addr} {o u : HO} (hD : H D = some u) (n1 : ∀ xs, u ≠ .tup xs) (n2 : ∀ b w, u ≠ .frz b w) (nf : ¬ F D) : SX H F (upd H D o) F :=
  ⟨(fun a u f h => by rw [upd_ne (fun (e : a = D) => nf (by rw [← e]; exact f))]; exact h), (fun a xs h => by rw [upd_ne (fun (e : a = D) => by rw [e, hD] at h; exact n1 _ (Option.some.inj h))]; exact h), (fun a u w h => by rw [upd_ne (fun (e : a = D) => by rw [e, hD] at h; exact n2 _ _ (Option.some.inj h))]; exact h), fun _ h => h⟩
theorem SX.other {D : Addr} {o : HO} {ws : List V} (hD : H D = some (.lst ws)) (nf : ¬ F D) : SX H F (upd H D o) F :=
  ⟨(fun a u f h => by rw [upd_ne (fun (e : a = D) => nf (by rw [← e]; exact f))]; exact h), (fun a xs h => by rw [upd_ne (fun (e : a = D) => by rw [e, hD] at h; cases h)]; exact h), (fun a u w h => by rw [upd_ne (fun (e : a = D) => by rw [e, hD] at h; cases h)]; exact h), fun _ h => h⟩
theorem SRel.other {D : Addr} {o : HO} {ws : List V} (S : SRel K C H F σ d) (hD : H D = some (.lst ws)) (nf : ¬ F D) (no : ¬ Own σ d D) (h0 : C.H0 D = none) : SRel K C (upd H D o) F σ d := by
  have sx : SX H F (upd H D o) F := SX.other hD nf
  refine ⟨S.len, fun i x e => ?_, fun i p x e => ?_, S.inj, fun a f => ?_, S.fnew, S.fsub, fun a u h n => ?_, fun a h => ?_⟩
  · obtain ⟨v, h1, h2⟩ := S.imm i x e
    exact ⟨v, h1, h2.mono sx _ _⟩
  · obtain ⟨a, h1, ⟨nf', o', h2, h3⟩, h4⟩ := S.own i p x e
    refine ⟨a, h1, ⟨nf', o', ?_, h3.mono sx⟩, h4⟩
    rw [upd_ne (fun (z : a = D) => no (by rw [← z]; exact ⟨i, p, x, e, h1⟩))]; exact h2
  · rw [upd_ne (fun (z : a = D) => nf (by rw [← z]; exact f))]; exact S.fdom a f
  · rw [upd_ne (fun (z : a = D) => by rw [z, h0] at h; cases h)]; exact S.frame a u h n
  · by_cases e : a = D
    · subst e; exact h0
    · rw [upd_ne e] at h; exact S.dom a h
end
end DL
/-! DL9: comprehensions; methods. -/
namespace DL
open PySem PySem.Spec PyProof.Rows L2
section
variable {K : PySem.W.Frag} {C : Fc} {H H1 H2 : Hp} {F F1 F2 : Addr → Prop} {σ : L2.St} {d d1 d2 : DS}
variable {gcs : Nat → Option D} {cd : CallSem} {Q : VK}
theorem rt_true {Q : Bool → Hp → Prop} (h : GT K (evE gcs cd (.cb true)) σ H Q) : tYes σ H Q := by
  obtain ⟨C, F, d, rv, d', b, S, e, eb, q⟩ := h
  rw [evE] at e
  cases e
  cases (eb : some _ = some _)
  exact q H F Ext.refl S
/-- one turn of a comprehension -/
noncomputable def turnC (gcs : Nat → Option D) (cd : CallSem) (ow : List Nat) (p tt el : I) : D → DS → R (Option D × DS) := fun x d1 =>
  if noOwn d1 ow then (bindP p x (wipeD d1 ow)).bind fun d2 => (evE gcs cd tt d2).bind fun rt => (R.opt ((opd rt.2 rt.1).bind ofBool)).bind fun k =>
        match k with
        | true => (evE gcs cd el rt.2).bind fun re => (R.opt (fz re.2 re.1)).bind fun q => .ok (some q.1, backD d1 q.2 ow)
        | false => .ok (none, backD d1 rt.2 ow) else .no
theorem evE_comp (ow : List Nat) (p it tt el : I) (d : DS) : evE gcs cd (.comp ow p it tt el) d = (evI gcs cd it d).bind fun r => (loopC (turnC gcs cd ow p tt el) r.1 r.2 []).bind fun q => .ok (.val true (.list q.1), q.2) := by
  rw [evE]; rfl
theorem rd_comp {ow : List Nat} {p it tt el : I} (hp : ∀ i ∈ pvars p, i ∈ ow) (h : GE K (evE gcs cd (.comp ow p it tt el)) σ H Q) :
    tLc (GI K p (evI gcs cd it)) (GP K p) (GT K (evE gcs cd tt)) (GE K (evE gcs cd el)) ow σ H Q := by
  obtain ⟨C, F, d, rv, d', S, e, q⟩ := h
  rw [evE_comp] at e
  obtain ⟨r, e1, e⟩ := R.bind_ok e
  obtain ⟨w, e2, e⟩ := R.bind_ok e
  cases e
  refine ⟨C, F, d, r.1, r.2, S, e1, fun J H1 F1 X1 S1 IO D hD => ?_⟩
  have h0D : C.H0 D = none := S1.dom D hD
  have hsD : H D = none := X1.dom D hD
  refine ⟨fun i m Hc => ∃ (Fc : Addr → Prop) (dc : DS) (av : List V) (acc : List PyData), m = r.1.length - i ∧ i ≤ r.1.length ∧ SRel K C Hc Fc σ dc ∧ Ext H F σ d Hc Fc dc ∧ SX H1 F1 Hc Fc ∧ Hc D = some (.lst av) ∧ RpAll K Hc Fc av acc ∧ ¬ Fc D ∧ ¬ Own σ dc D ∧ loopC (turnC gcs cd ow p tt el) (r.1.drop i) dc acc = .ok w, ?_, ?_⟩
  · have g := grow_upd (o := HO.lst []) hD
    refine ⟨r.1.length, F1, r.2, [], [], by simp, Nat.zero_le _, S1.grow g, X1.trans (Ext.pure g), SX.grow g, upd_same, .nil, fun f => S1.fdom D f hD, fun z => S1.ownNone z hD, e2⟩
  · rintro i m Hc ⟨Fc, dc, av, acc, rfl, hi, Sc, Xc, sx, hDc, ra, nf, no, el'⟩
    by_cases hlt : i < r.1.length
    · have hx : r.1[i]? = some (r.1[i]'hlt) := List.getElem?_eq_getElem hlt
      rw [List.drop_eq_getElem_cons hlt, loopC] at el'
      obtain ⟨t, e3, e4⟩ := R.bind_ok el'
      have IO2 := IO Hc Fc sx i
      obtain ⟨hgo, hy⟩ := IO2.1 _ hx
      refine .inr ⟨hgo, fun H' => ∃ m', m' < r.1.length - i ∧ _, fun H' h => h, fun v H3 hv => ?_⟩
      obtain ⟨gr, rp⟩ := hy v H3 hv
      unfold turnC at e3
      split at e3
      · rename_i hno
        obtain ⟨d2, e5, e3⟩ := R.bind_ok e3
        obtain ⟨rt, e6, e3⟩ := R.bind_ok e3
        obtain ⟨k, e7, e3⟩ := R.bind_ok e3
        have S3 := Sc.grow gr
        have Sw := S3.wipe ow hno
        refine ⟨C, Fc, wipeD dc ow, _, d2, Sw, rp, e5, fun σ2 S2 Ag => ⟨(Ag.mono hp).wipe.trans ?_, ?_⟩⟩
        · apply List.ext_getElem?
          intro j
          by_cases hj : j ∈ ow
          · by_cases hl : j < σ.length
            · rw [(wipe_get _ ow j).2 hj (by rw [wipe_length]; exact hl), (wipe_get σ ow j).2 hj hl]
            · rw [List.getElem?_eq_none (by rw [wipe_length, wipe_length]; omega), List.getElem?_eq_none (by rw [wipe_length]; omega)]
          · rw [(wipe_get _ ow j).1 hj, (wipe_get σ ow j).1 hj]
        · have Ag2 := Ag.mono hp
          obtain ⟨bl, bg⟩ := (bindP_get p).1 _ _ _ e5
          have hσ : ∀ j : Nat, j ∉ ow → σ2[j]? = σ[j]? := fun j hj => (Ag2.2 j hj).trans ((wipe_get σ ow j).1 hj)
          have hd : ∀ j : Nat, j ∉ ow → d2[j]? = dc[j]? := fun j hj => ((bg j).1 fun z => hj (hp j z)).trans ((wipeD_get dc ow j).1 hj)
          have hl2 : d2.length = dc.length := bl.trans (wipeD_len dc ow)
          have hn : ∀ (j : Nat) (b : Bool) (x : PyData), j ∈ ow → d2[j]? ≠ some (.own b x) := fun j b x hj e => by
            rcases (bg j).2 _ e with e | ⟨y, e⟩
            · have hl : j < dc.length := by
                have := (List.getElem?_eq_some_iff.mp e).1
                rwa [wipeD_len] at this
              rw [(wipeD_get dc ow j).2 hj hl] at e
              cases e
            · cases e
          have hD3 : H3 D = some (.lst av) := gr _ _ hDc
          have ra3 := ra.mono (SX.grow (F := Fc) gr) _ _
          have X3 : Ext H F σ d H3 Fc dc := Xc.trans (Ext.pure gr)
          have e7' := R.opt_ok e7
          cases q7 : opd rt.2 rt.1 with
          | none => rw [q7] at e7'; cases e7'
          | some xk =>
            rw [q7] at e7'
            cases ofBool_ok e7'
            refine ⟨C, Fc, d2, rt.1, rt.2, k, S2, e6, q7, fun H4 F4 X4 S4 => ?_⟩
            -- what holds behind the block's own steps
            have fin : ∀ (H5 : Hp) (F5 : Addr → Prop) (d5 : DS) (av2 : List V) (acc2 : List PyData), Ext H3 Fc σ2 d2 H5 F5 d5 → SRel K C H5 F5 σ2 d5 → loopC (turnC gcs cd ow p tt el) (r.1.drop (i + 1)) (backD dc d5 ow) acc2 = .ok w →
                RpAll K H5 F5 av2 acc2 → ∃ m', m' < r.1.length - i ∧ ∃ (Fc : Addr → Prop) (dc : DS) (av : List V) (acc : List PyData), m' = r.1.length - (i + 1) ∧ i + 1 ≤ r.1.length ∧ SRel K C (upd H5 D (.lst av2)) Fc σ dc ∧ Ext H F σ d (upd H5 D (.lst av2)) Fc dc ∧ SX H1 F1 (upd H5 D (.lst av2)) Fc ∧ (upd H5 D (.lst av2)) D = some (.lst av) ∧ RpAll K (upd H5 D (.lst av2)) Fc av acc ∧ ¬ Fc D ∧ ¬ Own σ dc D ∧ loopC (turnC gcs cd ow p tt el) (r.1.drop (i + 1)) dc acc = .ok w := by
              intro H5 F5 d5 av2 acc2 X5 S5 l5 ra5
              obtain ⟨Xb, Sb, ob⟩ := S3.back hno hσ hl2 hd hn S2 X5 S5
              have nD2 : ¬ Own σ2 d2 D := fun z => no (ob D z)
              have hD5 : H5 D = some (.lst av) := X5.keep _ _ hD3 nD2
              have nF5 : ¬ F5 D := fun f => by
                rcases X5.new D f with f | f | f
                · exact nf f
                · rw [hD3] at f; cases f
                · exact nD2 f
              have nO : ¬ Own σ (backD dc d5 ow) D := fun z => no (Xb.ownSub z)
              have so : SX H5 F5 (upd H5 D (.lst av2)) F5 := SX.other hD5 nF5
              have Xall : Ext H F σ d H5 F5 (backD dc d5 ow) := X3.trans Xb
              refine ⟨_, by omega, F5, backD dc d5 ow, av2, acc2, rfl, hlt, Sb.other hD5 nF5 nO h0D, ⟨fun a o h n => ?_, Xall.sub, fun a f => Xall.new a f, fun a h => ?_, Xall.own, Xall.imm, Xall.emp, Xall.len⟩, ?_, upd_same, ra5.mono so _ _, nF5, nO, l5⟩
              · rw [upd_ne (fun (z : a = D) => by rw [z, hsD] at h; cases h)]
                exact Xall.keep a o h n
              · by_cases ha : a = D
                · rw [ha]; exact hsD
                · rw [upd_ne ha] at h; exact Xall.dom a h
              · exact ((sx.trans (SX.grow gr)).trans (Xb.sx S3)).trans so
            cases k with
            | false =>
              refine iteF ?_
              cases e3
              obtain ⟨m', hm, G⟩ := fin H4 F4 rt.2 av acc X4 S4 e4 (ra3.mono (X4.sx S2) _ _)
              have hD4 : H4 D = some (.lst av) := X4.keep _ _ hD3 fun z => no ((S3.back hno hσ hl2 hd hn S2 X4 S4).2.2 D z)
              have eH : upd H4 D (.lst av) = H4 := by
                funext b
                by_cases hb : b = D
                · subst hb; rw [upd_same, hD4]
                · rw [upd_ne hb]
              rw [eH] at G
              exact ⟨m', hm, G⟩
            | true =>
              refine iteT ?_
              obtain ⟨re, e8, e3⟩ := R.bind_ok e3
              obtain ⟨z, e9, e3⟩ := R.bind_ok e3
              cases e3
              refine ⟨C, F4, rt.2, re.1, re.2, S4, e8, fun y H5 F5 X5 S5 R5 => ?_⟩
              obtain ⟨F6, X6, S6, P6⟩ := RelRV.fz (x := z.1) (d2 := z.2) S4 X5 S5 R5 (R.opt_ok e9)
              have XX := X4.trans X6
              have hD5 : H5 D = some (.lst av) := XX.keep _ _ hD3 fun z => no ((S3.back hno hσ hl2 hd hn S2 X4 S4).2.2 D z)
              have ra6 := ra3.mono (XX.sx S2) _ _
              dsimp only at e4
              split at e4
              · rename_i hz
                have hl := ra.length
                exact ⟨av, hD5, by rw [hl]; exact hz, fin H5 F6 z.2 (av ++ [y]) (acc ++ [z.1]) XX S6 e4 (ra6.append (.cons P6 .nil))⟩
              · cases e4
      · cases e3
    · have hie : i = r.1.length := by omega
      subst hie
      rw [List.drop_length, loopC] at el'
      cases el'
      refine .inl ⟨(IO Hc Fc sx _).2 (Nat.le_refl _), q _ Hc Fc Xc Sc (.inr ⟨D, _, rfl, hDc, .lst ra, nf, no, hsD⟩)⟩
end
end DL
/-! DL10: the translator's expressions. -/
namespace DL
open PySem PySem.Spec PyProof.Rows L2

def bltNames : List Str := ["len", "sorted", "max", "min", "abs", "sum", "any", "all", "list", "tuple", "int", "isinstance", "range", "zip", "bool", "str", "set", "repr"]
def FnIn (X : Cx) (cd : CallSem) (x : Str) (g : Nat) : Prop := ∃ (f : Addr) (fd : FuncData) (ps : List Str) (k : Nat), FnOk X.prog X.w X.K X.mg X.base CX0 k f fd ps (spD X.K cd g) ∧ Room k X.A ∧ X.mg x = some (.ref f) ∧ PySem.W.keepIn X.K (.ref f) = true ∧ Binds X.K fd ps []
structure EOk (X : Cx) (T : Tc) (gcs : Nat → Option D) (cd : CallSem) (sc : Scope) : Prop where
  N : X.N = T.N
  nd : T.N.Nodup
  calm : X.calm = true
  kind : X.env.scope.kind = .function
  look : ∀ x k, sc.names.lookup x = some k → k ≠ .free → X.env.scope.names.lookup x = some k
  free : ∀ x, sc.names.lookup x = some .free → X.env.scope.names.lookup x = some .free ∨ X.env.scope.names.lookup x = some .cell
  fnc : ∀ x, sc.names.lookup x = some .cell → X.fn x = true
  un : X.A.units + 66 < cLine
  blt : ∀ x ∈ bltNames, X.mg x = none
  fns : ∀ x g, T.fn x = some g → FnIn X cd x g
  gfs : ∀ g ∈ T.gf, ∃ x, T.fn x = some g ∧ T.gc x = some g
  kc : ∀ x z, T.kc x = some z → ∃ t, X.mg x = some (.int z t)
  gd : T.rp = true → X.A.guards = some []
  gcs : ∀ x n, T.gc x = some n → ∀ dd, gcs n = some dd → isLst dd = false ∧ ∃ v u, X.mg x = some u ∧ RelV v u ∧ ∀ H F, Rp X.K H F v dd

section
variable {X : Cx} {T : Tc} {gcs : Nat → Option D} {cd : CallSem} {sc : Scope}
theorem name_name : ((Str.ofString "__name__") == (Str.ofString "__name__")) = true := by decide +kernel
theorem okName_of {x : Str} (h : okName x = true) : (x == ("__debug__" : Str)) = false ∧ (x == ("__classdict__" : Str)) = false ∧ x ≠ "__name__" := by
  unfold okName at h
  rw [Bool.and_eq_true, Bool.and_eq_true, Bool.not_eq_true', Bool.not_eq_true', Bool.not_eq_true'] at h
  refine ⟨h.1.1, h.1.2, fun e => ?_⟩
  have h2 := h.2
  rw [e] at h2
  exact Bool.noConfusion (h2.symm.trans name_name)
theorem EOk.gl (ok : EOk X T gcs cd sc) {x : Str} (h : glob sc x = true) : okName x = true ∧ Gl X x := by
  unfold glob at h
  rw [Bool.and_eq_true] at h
  exact ⟨h.1, ok.look x _ (of_decide_eq_true h.2) (by decide)⟩
theorem EOk.vis (ok : EOk X T gcs cd sc) {x : Str} (h : vis sc x = true) : okName x = true ∧ Vis X.env.scope x := by
  unfold DL.vis at h
  rw [Bool.and_eq_true] at h
  refine ⟨h.1, ?_⟩
  have h2 := h.2
  cases q : sc.names.lookup x with
  | none => rw [q] at h2; cases h2
  | some k =>
    rw [q] at h2
    cases k with
    | «local» => exact .inl (ok.look x _ q (by decide))
    | cell => exact .inr (.inl (ok.look x _ q (by decide)))
    | free =>
      rcases ok.free x q with e | e
      · exact .inr (.inr e)
      · exact .inr (.inl e)
    | _ => cases h2
theorem EOk.loc (ok : EOk X T gcs cd sc) {x : Str} (h : locn sc x = true) : Loc X.env.scope x ∧ (X.fn x = true ∨ X.env.scope.names.lookup x = some .local) := by
  unfold locn at h
  rw [Bool.and_eq_true] at h
  have h2 := h.2
  cases q : sc.names.lookup x with
  | none => rw [q] at h2; cases h2
  | some k =>
    rw [q] at h2
    cases k with
    | «local» => exact ⟨.inl (ok.look x _ q (by decide)), .inr (ok.look x _ q (by decide))⟩
    | cell => exact ⟨.inr (ok.look x _ q (by decide)), .inl (ok.fnc x q)⟩
    | _ => cases h2
theorem idx_get {N : List Str} {x : Str} {i : Nat} (h : N.idxOf? x = some i) : N[i]? = some x := by
  unfold List.idxOf? at h
  rw [List.findIdx?_eq_some_iff_getElem] at h
  obtain ⟨hi, h1, _⟩ := h
  rw [List.getElem?_eq_getElem hi]
  exact congrArg some (by simpa using h1)
theorem slot_of (ok : EOk X T gcs cd sc) {x : Str} {i : Nat} (h : slot T sc x = some i) : X.N[i]? = some x ∧ okName x = true ∧ Vis X.env.scope x := by
  unfold slot at h
  split at h
  · rename_i hv
    obtain ⟨h1, h2⟩ := ok.vis hv
    exact ⟨by rw [ok.N]; exact idx_get h, h1, h2⟩
  · cases h
theorem slotL_of (ok : EOk X T gcs cd sc) {x : Str} {i : Nat} (h : slotL T sc x = some i) : X.N[i]? = some x ∧ Loc X.env.scope x ∧ (X.fn x = true ∨ X.env.scope.names.lookup x = some .local) := by
  unfold slotL at h
  split at h
  · rename_i hv
    obtain ⟨h1, h2⟩ := ok.loc hv
    exact ⟨by rw [ok.N]; exact idx_get h, h1, h2⟩
  · cases h
/-! what plain expressions are -/
theorem star_plain {e : Expr} (h : plainE e = true) (es : List Expr) (env : Env) : starEach (e :: es) env = (false, eval e env) :: starEach es env := by
  cases e <;> first | rfl | cases h
theorem star_any {env : Env} {pos : Pos} : ∀ {es : List Expr}, (∀ e ∈ es, plainE e = true) → (backTo pos (starEach es env)).any (·.1) = false
  | [], _ => rfl
  | e :: es, h => by
    rw [star_plain (h e List.mem_cons_self)]
    show (false || (backTo pos (starEach es env)).any (·.1)) = false
    rw [Bool.false_or]
    exact star_any fun x hx => h x (List.mem_cons_of_mem _ hx)
theorem marks_plain {op : CmpOp} {e : Expr} (h : plainE e = true) : behindInMarks op e = false := by
  cases e <;> first | rfl | cases h
theorem last_plain {op op' : CmpOp} {b c : Expr} (h : plainE c = true) : lastMarks [op, op'] [b, c] = false := by
  show behindInMarks op' c = false
  exact marks_plain h
theorem folded_plain {e : Expr} (h : plainE e = true) (env : Env) (x : Value) : foldedSetIterable e env x = pure x := by
  cases e <;> first | rfl | cases h
theorem ix_plain {e : Expr} (h : plainE e = true) : PlainIx e := fun o i => by
  cases e <;> first | rfl | cases h
theorem bindS {α β : Type} {o : Option α} {f : α → Option β} {b : β} (h : o.bind f = some b) : ∃ a, o = some a ∧ f a = some b := by
  cases o with
  | none => cases h
  | some a => exact ⟨a, rfl, h⟩
theorem mapS {α β : Type} {o : Option α} {f : α → β} {b : β} (h : o.map f = some b) : ∃ a, o = some a ∧ f a = b := by
  cases o with
  | none => cases h
  | some a => exact ⟨a, rfl, Option.some.inj h⟩
theorem iteS {p : Prop} [Decidable p] {α : Type} {a : Option α} {b : α} (h : (if p then a else none) = some b) : p ∧ a = some b := by
  split at h
  · exact ⟨by assumption, h⟩
  · cases h
theorem trL_cons {n : Nat} {e : Expr} {r : List Expr} {i : I} (h : trL T (n + 1) sc (e :: r) = some i) : plainE e = true ∧ ∃ a b, trE T n sc e = some a ∧ trL T n sc r = some b ∧ i = .cons a b := by
  rw [trL] at h
  obtain ⟨hp, h⟩ := iteS h
  obtain ⟨a, h1, h⟩ := bindS h
  obtain ⟨b, h2, h⟩ := mapS h
  exact ⟨hp, a, b, h1, h2, h.symm⟩
theorem trL_plain : ∀ (n : Nat) (es : List Expr) (i : I), trL T n sc es = some i → ∀ e ∈ es, plainE e = true
  | 0, _, _, h => by cases h
  | n + 1, [], _, _ => fun e he => by cases he
  | n + 1, e :: r, i, h => by
    obtain ⟨hp, a, b, _, h2, _⟩ := trL_cons h
    intro x hx
    rcases List.mem_cons.mp hx with hx | hx
    · rw [hx]; exact hp
    · exact trL_plain n r b h2 x hx
theorem trA_cons {n : Nat} {e : Expr} {r : List Expr} {i : I} (h : trA T (n + 1) sc (e :: r) = some i) : plainE e = true ∧ ∃ b, trA T n sc r = some b ∧ ((∃ a, (∀ j, a ≠ .marg j) ∧ i = .cons a b ∧ trE T n sc e = some a) ∨ ∃ x p j, e = .Name x p ∧ slot T sc x = some j ∧ i = .cons (.marg j) b) := by
  rw [trA] at h
  obtain ⟨hp, h⟩ := iteS h
  refine ⟨hp, ?_⟩
  cases q : margOf T sc e with
  | some j =>
    rw [q] at h
    obtain ⟨b, h1, h2⟩ := mapS h
    refine ⟨b, h1, .inr ?_⟩
    cases e with
    | Name x p =>
      obtain ⟨k, k1, k2⟩ := bindS (show (slot T sc x).bind _ = some j from q)
      obtain ⟨_, k2⟩ := iteS k2
      cases k2
      exact ⟨x, p, j, rfl, k1, h2.symm⟩
    | _ => cases q
  | none =>
    rw [q] at h
    obtain ⟨a, h1, h⟩ := bindS h
    split at h
    · cases h
    · rename_i hm
      obtain ⟨b, h2, h3⟩ := mapS h
      exact ⟨b, h2, .inl ⟨a, fun j z => hm (by rw [z]; rfl), h3.symm, h1⟩⟩
theorem trA_plain : ∀ (n : Nat) (es : List Expr) (i : I), trA T n sc es = some i → ∀ e ∈ es, plainE e = true
  | 0, _, _, h => by cases h
  | n + 1, [], _, _ => fun e he => by cases he
  | n + 1, e :: r, i, h => by
    obtain ⟨hp, b, h2, _⟩ := trA_cons h
    intro x hx
    rcases List.mem_cons.mp hx with hx | hx
    · rw [hx]; exact hp
    · exact trA_plain n r b h2 x hx
theorem fn_pt_if {t a b : Expr} {pos : Pos} {tt ta tb : TT} (ht : PT X t tt) (ha : PT X a ta) (hb : PT X b tb) : PT X (.IfExp t a b pos) (tIfT tt ta tb) := by
  refine ⟨fun pins s σ H Q I h => ?_⟩
  rw [PySem.arm_isTrue_IfExp]
  refine wpAny_bind (thn (ht.run pins s σ H _ I h) fun c s1 ⟨H1, I1, q⟩ => ?_)
  cases c with
  | true => exact ha.run pins s1 σ H1 Q I1 q
  | false => exact hb.run pins s1 σ H1 Q I1 q
/-- the context of a comprehension's block -/
theorem EOk.blk (ok : EOk X T gcs cd sc) {scope : Scope} (hk : scope.kind = .function) (s : Shared) (H : Hp) (C : Addr) (cl : List (Str × Addr)) (fp : List Addr) : EOk (X.blk s H scope (compEnvC scope cl C X.env) fp) T gcs cd scope where
  N := ok.N
  nd := ok.nd
  calm := ok.calm
  kind := hk
  look := fun x k h hn => lookup_relS_keep (sc := X.env.scope) hn h
  free := fun x h => by
    cases q : ((relS scope X.env.scope).names.lookup x) with
    | none =>
      exfalso
      have : ∀ (l : List (Str × NameKind)), (l.map fun (n, k) => if (k == NameKind.free && X.env.scope.kind == .function && X.env.scope.names.lookup n == some .cell) then (n, NameKind.cell) else (n, k)).lookup x = none → l.lookup x = none := by
        intro l
        induction l with
        | nil => intro _; rfl
        | cons y r ih =>
          obtain ⟨n, k⟩ := y
          intro h'
          have h2 : List.lookup x ((if (k == NameKind.free && X.env.scope.kind == .function && X.env.scope.names.lookup n == some .cell) = true then (n, NameKind.cell) else (n, k)) :: (r.map _)) = none := h'
          cases hx : x == n with
          | true =>
            split at h2 <;> (simp only [List.lookup_cons, hx] at h2; cases h2)
          | false =>
            simp only [List.lookup_cons, hx]
            split at h2 <;> (simp only [List.lookup_cons, hx] at h2; exact ih h2)
      rw [this _ q] at h; cases h
    | some k =>
      obtain ⟨k', h1, h2⟩ := lookup_relS (sc := X.env.scope) q
      rw [h] at h1; cases h1
      rcases h2 with rfl | ⟨_, rfl⟩
      · exact .inl q
      · exact .inr q
  fnc := fun x h => by
    show (scope.names.lookup x == some .cell) = true
    rw [h]; rfl
  un := ok.un
  blt := ok.blt
  fns := ok.fns
  kc := ok.kc
  gd := ok.gd
  gfs := ok.gfs
  gcs := ok.gcs
theorem EOk.blkOk (ok : EOk X T gcs cd sc) {scope : Scope} {own : List (Str × Nat)} (h : blkC T.N sc scope own = true) : BlkOk X.N X.env.scope scope own := by
  have b := blkOk_by h
  refine ⟨b.kind, b.uniq, by rw [ok.N]; exact b.ix, fun y hy e => ?_, by rw [ok.N]; exact b.own⟩
  rcases b.free y hy e with q | q
  · exact .inl (ok.look _ _ q (by decide))
  · exact (ok.free _ q).symm
end
end DL
/-! DL11: the translator's expressions do what the evaluator says. -/
namespace DL
open PySem PySem.Spec PyProof.Rows L2

section
variable {X : Cx} {T : Tc} {gcs : Nat → Option D} {cd : CallSem} {sc : Scope}
theorem callr_bltF (ok : EOk X T gcs cd sc) {f : Str} {b : B1} (h : bltF T.rp f = some b) : ∃ id, bootBuiltins f = some (.builtin id) ∧ X.mg f = none ∧ CallR X (.builtin id) (rB X.K b) := by
  unfold bltF at h
  split at h
  · rename_i e; cases h; subst e; exact ⟨_, PySem.boot_len, ok.blt _ (by decide +kernel), callr_len⟩
  split at h
  · rename_i e; cases h; subst e; exact ⟨_, PyProof.Rows.boot_sorted, ok.blt _ (by decide +kernel), callr_sorted ok.un⟩
  split at h
  · rename_i e; cases h; subst e; exact ⟨"max", by decide +kernel, ok.blt _ (by decide +kernel), callr_max ok.calm⟩
  split at h
  · rename_i e; cases h; subst e; exact ⟨"min", by decide +kernel, ok.blt _ (by decide +kernel), callr_min ok.calm⟩
  split at h
  · rename_i e; cases h; subst e; exact ⟨"abs", by decide +kernel, ok.blt _ (by decide +kernel), callr_abs⟩
  split at h
  · rename_i e; cases h; subst e; exact ⟨"sum", by decide +kernel, ok.blt _ (by decide +kernel), callr_sum ok.calm⟩
  split at h
  · rename_i e; cases h; subst e; exact ⟨"any", by decide +kernel, ok.blt _ (by decide +kernel), callr_any ok.calm⟩
  split at h
  · rename_i e; cases h; subst e; exact ⟨"all", by decide +kernel, ok.blt _ (by decide +kernel), callr_all ok.calm⟩
  split at h
  · rename_i e; cases h; obtain ⟨e, e2⟩ := e; subst e; exact ⟨_, PyProof.Rows.boot_repr, ok.blt _ (by decide +kernel), callr_repr ok.un (ok.gd e2)⟩
  · cases h
theorem callr_bltT (ok : EOk X T gcs cd sc) {f : Str} {b : B1} (h : bltT f = some b) : ∃ id, bootBuiltins f = some (.type id) ∧ X.mg f = none ∧ CallR X (.type id) (rB X.K b) := by
  unfold bltT at h
  split at h
  · rename_i e; cases h; subst e; exact ⟨_, PyProof.Rows.boot_list, ok.blt _ (by decide +kernel), callr_list⟩
  split at h
  · rename_i e; cases h; subst e; exact ⟨_, PyProof.Rows.boot_tuple, ok.blt _ (by decide +kernel), callr_tuple⟩
  split at h
  · rename_i e; cases h; subst e; exact ⟨_, PyProof.Rows.boot_int, ok.blt _ (by decide +kernel), callr_int⟩
  · cases h
theorem ty_name (ok : EOk X T gcs cd sc) {f : Str} {t : Ty} (h : tyOf f = some t) : bootBuiltins f = some (.type t.name) ∧ X.mg f = none := by
  unfold tyOf at h
  split at h
  · rename_i e; cases h; subst e; exact ⟨PyProof.Rows.boot_tuple, ok.blt _ (by decide +kernel)⟩
  split at h
  · rename_i e; cases h; subst e; exact ⟨PyProof.Rows.boot_list, ok.blt _ (by decide +kernel)⟩
  split at h
  · rename_i e; cases h; subst e; exact ⟨PyProof.Rows.boot_int, ok.blt _ (by decide +kernel)⟩
  split at h
  · rename_i e; cases h; subst e; exact ⟨by decide +kernel, ok.blt _ (by decide +kernel)⟩
  split at h
  · rename_i e; cases h; subst e; exact ⟨by decide +kernel, ok.blt _ (by decide +kernel)⟩
  · cases h
theorem opr_op2 {op : Operator} {o : O2} (h : op2 op = some o) : OpR X (binaryOp op) (rO2 X.K o) := by
  cases op <;> first | (cases h; first | exact opr_add | exact opr_sub | exact opr_mul | exact opr_fdiv | exact opr_mod) | cases h
theorem opr_cmp2 (hu : X.A.units + 66 < cLine) {op : CmpOp} {o : O2} (h : cmp2 op = some o) : OpR X (compareOp op) (rO2 X.K o) := by
  cases op <;> first | (cases h; first | exact opr_eq (by omega) | exact opr_ne (by omega) | exact opr_lt | exact opr_le | exact opr_gt | exact opr_ge | exact opr_in (by omega) | exact opr_notin (by omega)) | cases h
theorem PE.vac {e : Expr} {t : TE} (h : ∀ σ H Q, ¬ t σ H Q) : PE X e t := ⟨fun pins s σ H Q I w => (h σ H Q w).elim⟩
theorem pt_of {e : Expr} {ev : DS → R (RV × DS)} (h : PE X e (GE X.K ev)) (he : ∀ whole, isTrue e X.env whole = (do let v ← whole; standAt e.pos; holding [v] (truthy v))) : PT X e (GT X.K ev) :=
  PT.imp (pt_val h he) fun σ H Q h => h.test
theorem gc_read {n : Nat} {v : V} {dd : D} (hd : gcs n = some dd) (hl : isLst dd = false) (hr : ∀ H F, Rp X.K H F v dd) {σ : L2.St} {H : Hp} {Q : VK} (h : GE X.K (evE gcs cd (.gc n)) σ H Q) : tC v σ H Q := by
  obtain ⟨C, F, d, rv, d', S, e, q⟩ := h
  rw [evE, hd] at e
  cases e
  exact q v H F Ext.refl S (.inl ⟨hl, hr H F⟩)
theorem gc_no {n : Nat} (hd : gcs n = none) {K : PySem.W.Frag} {σ : L2.St} {H : Hp} {Q : VK} (h : GE K (evE gcs cd (.gc n)) σ H Q) : False := by
  obtain ⟨C, F, d, rv, d', S, e, q⟩ := h
  rw [evE, hd] at e
  cases e
theorem const_read {i : I} {v : V} {dd : D} (hev : ∀ d, evE gcs cd i d = .ok (.val true dd, d)) (hl : isLst dd = false) (hr : ∀ H F, Rp X.K H F v dd) {σ : L2.St} {H : Hp} {Q : VK} (h : GE X.K (evE gcs cd i) σ H Q) : tC v σ H Q := by
  obtain ⟨C, F, d, rv, d', S, e, q⟩ := h
  rw [hev] at e
  cases e
  exact q v H F Ext.refl S (.inl ⟨hl, hr H F⟩)
theorem call_imp {sp : Sp} {E : XK} {t t' : TA} (k : ∀ σ H Q, t' σ H Q → t σ H Q) {σ : L2.St} {H : Hp} {Q : VK} (h : tCall sp [] E t' σ H Q) : tCall sp [] E t σ H Q := k _ _ _ h

/-- what is shown of the translator, by its fuel -/
structure Snd (T : Tc) (gcs : Nat → Option D) (cd : CallSem) (n : Nat) : Prop where
  sE : ∀ {X : Cx} {sc : Scope} {e : Expr} {i : I}, EOk X T gcs cd sc → trE T n sc e = some i → PE X e (GE X.K (evE gcs cd i)) ∧ PT X e (GT X.K (evE gcs cd i)) ∧ ∀ op vs pos, e = .BoolOp op vs pos → PW X e (GT X.K (evE gcs cd i))
  sT : ∀ {X : Cx} {sc : Scope} {es : List Expr} {i : I}, EOk X T gcs cd sc → trTs T n sc es = some i → PTs X es (GT X.K (evE gcs cd i))
  sO : ∀ {X : Cx} {sc : Scope} {e : Option Expr} {i : I}, EOk X T gcs cd sc → trO T n sc e = some i → PO X e (GO X.K (evO gcs cd i))
  sL : ∀ {X : Cx} {sc : Scope} {es : List Expr} {i : I}, EOk X T gcs cd sc → trL T n sc es = some i → PA X es (GL X.K (evL gcs cd i)) ∧ PA X es (GB X.K (evB gcs cd i))
  sA : ∀ {X : Cx} {sc : Scope} {es : List Expr} {i : I}, EOk X T gcs cd sc → trA T n sc es = some i → PA X es (GA X.K (evA gcs cd i))
  sR : ∀ {X : Cx} {sc : Scope} {es : List Expr} {i : I} {p pos : Pos} {tg : Expr} {t : I}, EOk X T gcs cd sc → glob sc "range" = true → trR T n sc es = some i → PRg X (.Call (.Name "range" p) es [] pos) (GR X.K (evR gcs cd i)) ∧ PI X tg (.Call (.Name "range" p) es [] pos) (GI X.K t (evI gcs cd (.itR i)))
  sI : ∀ {X : Cx} {sc : Scope} {tg e : Expr} {i t : I}, EOk X T gcs cd sc → trI T n sc tg e = some i → (∀ es k pos, tg = .Tuple es k pos → isTupP t = true) → PI X tg e (GI X.K t (evI gcs cd i)) ∧ plainE e = true
  sP : ∀ {X : Cx} {sc : Scope} {e : Expr} {i : I}, EOk X T gcs cd sc → trP T n sc e = some i → PG X e (GP X.K i) ∧ (∀ es k pos, e = .Tuple es k pos → isTupP i = true)
  sPs : ∀ {X : Cx} {sc : Scope} {es : List Expr} {i : I}, EOk X T gcs cd sc → trPs T n sc es = some i → PGs X es (GPs X.K i) ∧ es.length = plen i ∧ (assignEach es X.env).length = es.length ∧ (assignEach es X.env).findIdx? (·.1) = none

theorem PG.imp {e : Expr} {t t' : TG} (h : PG X e t) (k : ∀ v σ H Q, t' v σ H Q → t v σ H Q) : PG X e t' := ⟨fun pins s σ H v u Q I r w => h.run pins s σ H v u Q I r (k v σ H Q w)⟩
theorem PGs.imp {e : List Expr} {t t' : TGs} (h : PGs X e t) (k : ∀ v σ H Q, t' v σ H Q → t v σ H Q) : PGs X e t' := ⟨fun pins s σ H v u Q I r w => h.run pins s σ H v u Q I r (k v σ H Q w)⟩
theorem PO.imp {e : Option Expr} {t t' : TO} (h : PO X e t) (k : ∀ σ H Q, t' σ H Q → t σ H Q) : PO X e t' := ⟨fun pins s σ H Q I w => h.run pins s σ H Q I (k σ H Q w)⟩

variable {n : Nat}
theorem snd_T (ih : Snd T gcs cd n) (ok : EOk X T gcs cd sc) {es : List Expr} {i : I} (h : trTs T (n + 1) sc es = some i) : PTs X es (GT X.K (evE gcs cd i)) := by
  match es, h with
  | [], h =>
    cases h
    exact ⟨fun pins s σ H Q I w => pts_nil.run pins s σ H Q I (rt_true w)⟩
  | [c], h => exact pts_one (ih.sE ok h).2.1
  | _ :: _ :: _, h => cases h
theorem snd_O (ih : Snd T gcs cd n) (ok : EOk X T gcs cd sc) {e : Option Expr} {i : I} (h : trO T (n + 1) sc e = some i) : PO X e (GO X.K (evO gcs cd i)) := by
  cases e with
  | none => cases h; exact PO.imp po_none fun _ _ _ h => ro_none h
  | some e =>
    rw [trO] at h
    obtain ⟨_, h⟩ := iteS h
    obtain ⟨a, h1, h2⟩ := mapS h
    subst h2
    exact PO.imp (po_some (ih.sE ok h1).1) fun _ _ _ h => ro_some h
theorem snd_L (ih : Snd T gcs cd n) (ok : EOk X T gcs cd sc) {es : List Expr} {i : I} (h : trL T (n + 1) sc es = some i) : PA X es (GL X.K (evL gcs cd i)) ∧ PA X es (GB X.K (evB gcs cd i)) := by
  cases es with
  | nil => cases h; exact ⟨PA.imp pa_nil fun _ _ _ h => rl_nil h, PA.imp pa_nil fun _ _ _ h => rb_nil h⟩
  | cons e r =>
    obtain ⟨hp, a, b, h1, h2, rfl⟩ := trL_cons h
    have s := star_plain hp r X.env
    exact ⟨PA.imp (pa_cons (ih.sE ok h1).1 (ih.sL ok h2).1 s) fun _ _ _ h => rl_cons h, PA.imp (pa_cons (ih.sE ok h1).1 (ih.sL ok h2).2 s) fun _ _ _ h => rb_cons h⟩
theorem ra_marg {K : PySem.W.Frag} {i : Nat} {b : I} {σ : L2.St} {H : Hp} {Q : List V → Hp → Prop} (h : GA K (evA gcs cd (.cons (.marg i) b)) σ H Q) : tCons (tVar i) (GA K (evA gcs cd b)) σ H Q := by
  obtain ⟨C, F, d, xs, d', S, e, q⟩ := h
  rw [evA] at e
  cases hd : d[i]? with
  | none => rw [hd] at e; cases e
  | some sl =>
    cases sl with
    | emp => rw [hd] at e; cases e
    | imm x => rw [hd] at e; cases e
    | own p x =>
      rw [hd] at e
      obtain ⟨r, e1, e⟩ := R.bind_ok e
      cases e
      obtain ⟨a, hv, _⟩ := S.own i p x hd
      exact ⟨.ref a, hv, C, F, d, r.1, r.2, S, e1, fun vs H1 F1 X1 S1 P => q (.ref a :: vs) H1 F1 X1 S1 (.m hv P)⟩
theorem snd_A (ih : Snd T gcs cd n) (ok : EOk X T gcs cd sc) {es : List Expr} {i : I} (h : trA T (n + 1) sc es = some i) : PA X es (GA X.K (evA gcs cd i)) := by
  cases es with
  | nil => cases h; exact PA.imp pa_nil fun _ _ _ h => ra_nil h
  | cons e r =>
    obtain ⟨hp, b, h2, h3⟩ := trA_cons h
    have s := star_plain hp r X.env
    rcases h3 with ⟨a, ha, rfl, h1⟩ | ⟨x, p, j, rfl, hs, rfl⟩
    · exact PA.imp (pa_cons (ih.sE ok h1).1 (ih.sA ok h2) s) fun _ _ _ h => ra_cons ha h
    · obtain ⟨h1, h3, h4⟩ := slot_of ok hs
      exact PA.imp (pa_cons (pe_var h1 h4 (okName_of h3).1 (okName_of h3).2.1) (ih.sA ok h2) s) fun _ _ _ h => ra_marg h
theorem snd_R (ih : Snd T gcs cd n) (ok : EOk X T gcs cd sc) {es : List Expr} {i : I} {p pos : Pos} {tg : Expr} {t : I} (hg : glob sc "range" = true) (h : trR T (n + 1) sc es = some i) :
    PRg X (.Call (.Name "range" p) es [] pos) (GR X.K (evR gcs cd i)) ∧ PI X tg (.Call (.Name "range" p) es [] pos) (GI X.K t (evI gcs cd (.itR i))) := by
  have hm : X.mg "range" = none := ok.blt _ (by decide +kernel)
  have hgl := (ok.gl hg).2
  match es, h with
  | [b], h =>
    rw [trR] at h
    obtain ⟨hp, h⟩ := iteS h
    obtain ⟨b', h1, h2⟩ := mapS h
    subst h2
    have s := star_plain hp [] X.env
    have pb := (ih.sE ok h1).1
    refine ⟨fun pins s' σ H Q I w => prg_1 hgl hm pb s pins s' σ H Q I (rr_1 w), PI.imp (pi_range1 hgl hm (pa_cons pb pa_nil s) s) fun _ _ _ h => ri_R1 h⟩
  | [a, b], h =>
    rw [trR] at h
    obtain ⟨hp, h⟩ := iteS h
    rw [Bool.and_eq_true] at hp
    obtain ⟨a', h1, h⟩ := bindS h
    obtain ⟨b', h2, h3⟩ := mapS h
    subst h3
    have s1 := star_plain hp.1 [b] X.env
    have s2 := star_plain hp.2 [] X.env
    have pa := (ih.sE ok h1).1
    have pb := (ih.sE ok h2).1
    refine ⟨fun pins s' σ H Q I w => prg_2 hgl hm pa pb s1 s2 (star_any (by simp [hp.2])) pins s' σ H Q I (rr_2 w), PI.imp (pi_range2 hgl hm (pa_cons pa (pa_cons pb pa_nil s2) s1) (by rw [s1, s2]; rfl) s2) fun _ _ _ h => ri_R2 h⟩
  | [], h => cases h
  | _ :: _ :: _ :: _, h => cases h
theorem snd_P (ih : Snd T gcs cd n) (ok : EOk X T gcs cd sc) {e : Expr} {i : I} (h : trP T (n + 1) sc e = some i) : PG X e (GP X.K i) ∧ (∀ es k pos, e = .Tuple es k pos → isTupP i = true) := by
  cases e with
  | Name x pos =>
    rw [trP] at h
    obtain ⟨j, h1, h2⟩ := mapS h
    subst h2
    obtain ⟨g1, g2, g3⟩ := slotL_of ok h1
    exact ⟨PG.imp (pg_name (by rw [ok.N]; exact ok.nd) g1 g2 g3) fun _ _ _ _ h => gp_var h, fun _ _ _ e => by cases e⟩
  | Tuple es k pos =>
    rw [trP] at h
    obtain ⟨j, h1, h2⟩ := mapS h
    subst h2
    obtain ⟨g1, g2, g3, g4⟩ := ih.sPs ok h1
    exact ⟨PG.imp (pg_tup ok.calm g1 (g3.trans g2) g4) fun _ _ _ _ h => gp_tup h, fun _ _ _ _ => rfl⟩
  | _ => cases h
theorem assign_star {e : Expr} {n : Nat} {sc : Scope} {i : I} (h : trP T n sc e = some i) (es : List Expr) (env : Env) : assignEach (e :: es) env = (false, assign e env) :: assignEach es env := by
  cases n with
  | zero => cases h
  | succ n => cases e <;> first | rfl | cases h
theorem snd_Ps (ih : Snd T gcs cd n) (ok : EOk X T gcs cd sc) {es : List Expr} {i : I} (h : trPs T (n + 1) sc es = some i) : PGs X es (GPs X.K i) ∧ es.length = plen i ∧ (assignEach es X.env).length = es.length ∧ (assignEach es X.env).findIdx? (·.1) = none := by
  cases es with
  | nil => cases h; exact ⟨PGs.imp pgs_nil fun _ _ _ _ h => gp_nil h, rfl, rfl, rfl⟩
  | cons e r =>
    rw [trPs] at h
    obtain ⟨a, h1, h⟩ := bindS h
    obtain ⟨b, h2, h3⟩ := mapS h
    subst h3
    obtain ⟨g1, g2, g3, g4⟩ := ih.sPs ok h2
    have s := assign_star h1 r X.env
    refine ⟨PGs.imp (pgs_cons (ih.sP ok h1).1 g1 (by rw [s]; rfl)) fun _ _ _ _ h => gp_cons h, by rw [List.length_cons, g2]; rfl, by rw [s, List.length_cons, g3]; rfl, ?_⟩
    rw [s, List.findIdx?_cons]
    simp only [Bool.false_eq_true, if_false]
    rw [g4]; rfl
theorem callOf_eq {e : Expr} {f : Str} {as : List Expr} (h : callOf e = some (f, as)) : ∃ p pos, e = .Call (.Name f p) as [] pos := by
  unfold callOf at h
  split at h
  · cases h; exact ⟨_, _, rfl⟩
  · cases h
theorem snd_I (ih : Snd T gcs cd n) (ok : EOk X T gcs cd sc) {tg e : Expr} {i t : I} (h : trI T (n + 1) sc tg e = some i) (ht : ∀ es k pos, tg = .Tuple es k pos → isTupP t = true) : PI X tg e (GI X.K t (evI gcs cd i)) ∧ plainE e = true := by
  have gen : ∀ i, (trE T n sc e).map I.itE = some i → plainE e = true → PI X tg e (GI X.K t (evI gcs cd i)) ∧ plainE e = true := fun i h hp => by
    obtain ⟨a, h1, h2⟩ := mapS h
    subst h2
    have pa := (ih.sE ok h1).1
    exact ⟨PI.imp (PI.or (pi_list pa) (pi_tup pa)) fun _ _ _ h => ri_E h, hp⟩
  rw [trI] at h
  cases q : callOf e with
  | none =>
    rw [q] at h
    obtain ⟨hp, h⟩ := iteS h
    exact gen i h hp
  | some fa =>
    obtain ⟨f, as⟩ := fa
    obtain ⟨p, pos, rfl⟩ := callOf_eq q
    rw [q] at h
    dsimp only at h
    split at h
    · rename_i hc
      rw [Bool.and_eq_true] at hc
      obtain ⟨r, h1, h2⟩ := mapS h
      subst h2
      have hf : f = "range" := of_decide_eq_true hc.2
      subst hf
      exact ⟨(ih.sR ok hc.1 h1).2, rfl⟩
    · split at h
      · rename_i hc
        rw [Bool.and_eq_true, Bool.and_eq_true] at hc
        have hf : f = "zip" := of_decide_eq_true hc.1.2
        subst hf
        obtain ⟨r, h1, h⟩ := bindS h
        obtain ⟨hl, h⟩ := iteS h
        cases h
        match as, hl with
        | [a, b], _ =>
          cases tg with
          | Tuple es k tp =>
            have hpl := trL_plain _ _ _ h1
            have s1 := star_plain (hpl a (by simp)) [b] X.env
            exact ⟨PI.imp (RZ.pi_zipA (ok.gl hc.1.1).2 (ok.blt _ (by decide +kernel)) (ih.sL ok h1).1 s1 (star_any (by intro x hx; exact hpl x (by simp at hx; simp [hx])))) fun _ _ _ h => ri_Z (ht _ _ _ rfl) h, rfl⟩
          | _ => cases hc.2
      · exact gen i h rfl
end
end DL
/-! DL12: .. all of them. -/
namespace DL
open PySem PySem.Spec PyProof.Rows L2

section
variable {X : Cx} {T : Tc} {gcs : Nat → Option D} {cd : CallSem} {sc : Scope} {n : Nat}
abbrev All3 (X : Cx) (gcs : Nat → Option D) (cd : CallSem) (e : Expr) (i : I) : Prop := PE X e (GE X.K (evE gcs cd i)) ∧ PT X e (GT X.K (evE gcs cd i)) ∧ ∀ op vs pos, e = .BoolOp op vs pos → PW X e (GT X.K (evE gcs cd i))
theorem all3_of {e : Expr} {i : I} (h : PE X e (GE X.K (evE gcs cd i))) (he : ∀ whole, isTrue e X.env whole = (do let v ← whole; standAt e.pos; holding [v] (truthy v))) (hb : ∀ op vs pos, e ≠ .BoolOp op vs pos) : All3 X gcs cd e i :=
  ⟨h, pt_of h he, fun op vs pos e => absurd e (hb op vs pos)⟩
theorem e_const {c : Const} {k : Nat} {pos : Pos} {i : I} (h : trE T (n + 1) sc (.Constant c k pos) = some i) : All3 X gcs cd (.Constant c k pos) i := by
  refine all3_of ?_ (fun _ => rfl) fun _ _ _ e => by cases e
  cases c with
  | none => rw [trE] at h; cases h; exact PE.imp pe_non fun _ _ _ h => const_read (fun _ => by rw [evE]) rfl (fun _ _ => .non) h
  | bool b => rw [trE] at h; cases h; exact PE.imp pe_bl fun _ _ _ h => const_read (fun _ => by rw [evE]) rfl (fun _ _ => .bl b) h
  | int b => rw [trE] at h; cases h; exact PE.imp pe_int fun _ _ _ h => const_read (fun _ => by rw [evE]) rfl (fun _ _ => .int b) h
  | str b =>
    rw [trE] at h; cases h
    refine PE.imp pe_str fun _ _ _ h => const_read (dd := .str b) (fun _ => by rw [evE]) rfl (fun _ _ => .str b) h
  | _ => cases h
theorem e_name (ok : EOk X T gcs cd sc) {x : Str} {pos : Pos} {i : I} (h : trE T (n + 1) sc (.Name x pos) = some i) : All3 X gcs cd (.Name x pos) i := by
  refine all3_of ?_ (fun _ => rfl) fun _ _ _ e => by cases e
  rw [trE] at h
  cases q : slot T sc x with
  | some j =>
    rw [q] at h
    cases h
    obtain ⟨h1, h3, h4⟩ := slot_of ok q
    exact PE.imp (pe_var h1 h4 (okName_of h3).1 (okName_of h3).2.1) fun _ _ _ h => rd_var h
  | none =>
    rw [q] at h
    obtain ⟨hg, h⟩ := iteS h
    obtain ⟨g1, g2⟩ := ok.gl hg
    cases qk : T.kc x with
    | some z =>
      rw [qk] at h
      cases h
      obtain ⟨t, hm⟩ := ok.kc x z qk
      exact PE.imp (pe_glob (v := .int z) g2 hm ⟨t, rfl⟩ (okName_of g1).1) fun _ _ _ h => const_read (fun _ => by rw [evE]) rfl (fun _ _ => .int z) h
    | none =>
    rw [qk] at h
    obtain ⟨m, h1, h2⟩ := mapS h
    subst h2
    cases qd : gcs m with
    | none => exact PE.vac fun _ _ _ h => gc_no qd h
    | some dd =>
      obtain ⟨hl, v, u, hm, r, hr⟩ := ok.gcs x m h1 dd qd
      exact PE.imp (pe_glob g2 hm r (okName_of g1).1) fun _ _ _ h => gc_read qd hl hr h
theorem e_bin (ih : Snd T gcs cd n) (ok : EOk X T gcs cd sc) {a b : Expr} {op : Operator} {pos : Pos} {i : I} (h : trE T (n + 1) sc (.BinOp a op b pos) = some i) : All3 X gcs cd (.BinOp a op b pos) i := by
  refine all3_of ?_ (fun _ => rfl) fun _ _ _ e => by cases e
  rw [trE] at h
  obtain ⟨o, h1, h⟩ := bindS h
  obtain ⟨a', h2, h⟩ := bindS h
  obtain ⟨b', h3, h⟩ := mapS h
  subst h
  exact PE.imp (pe_op (opr_op2 h1) (ih.sE ok h2).1 (ih.sE ok h3).1) fun _ _ _ h => rd_op2 h
theorem e_un (ih : Snd T gcs cd n) (ok : EOk X T gcs cd sc) {a : Expr} {op : UnaryOp} {pos : Pos} {i : I} (h : trE T (n + 1) sc (.UnaryOp op a pos) = some i) : All3 X gcs cd (.UnaryOp op a pos) i := by
  cases op with
  | USub =>
    rw [trE] at h
    obtain ⟨a', h2, h⟩ := mapS h
    subst h
    exact all3_of (PE.imp (pe_un opr_neg (ih.sE ok h2).1) fun _ _ _ h => rd_neg h) (fun _ => rfl) fun _ _ _ e => by cases e
  | Not =>
    rw [trE] at h
    obtain ⟨a', h2, h⟩ := mapS h
    subst h
    exact ⟨PE.imp (pe_not (ih.sE ok h2).1) fun _ _ _ h => rd_not h, PT.imp (pt_not (ih.sE ok h2).2.1) fun _ _ _ h => rt_not h, fun _ _ _ e => by cases e⟩
  | _ => cases h
theorem e_bool (ih : Snd T gcs cd n) (ok : EOk X T gcs cd sc) {op : BoolOp} {vs : List Expr} {pos : Pos} {i : I} (h : trE T (n + 1) sc (.BoolOp op vs pos) = some i) : All3 X gcs cd (.BoolOp op vs pos) i := by
  match vs, h with
  | [], h => cases op <;> cases h
  | [a], h =>
    have h' : trE T n sc a = some i := by cases op <;> exact h
    obtain ⟨h1, h2, _⟩ := ih.sE ok h'
    have w : PW X (.BoolOp op [a] pos) (GT X.K (evE gcs cd i)) := by
      cases op with
      | And => exact pw_and1 h2
      | Or => exact pw_or1 h2
    exact ⟨pe_one h1, w.pt, fun _ _ _ _ => w⟩
  | a :: b :: r, h =>
    cases op with
    | And =>
      rw [trE] at h
      obtain ⟨a', h2, h⟩ := bindS h
      obtain ⟨b', h3, h⟩ := mapS h
      subst h
      obtain ⟨e1, e2, _⟩ := ih.sE ok h2
      obtain ⟨f1, f2, f3⟩ := ih.sE ok h3
      have w : PW X (.BoolOp .And (a :: b :: r) pos) (GT X.K (evE gcs cd (.land a' b'))) := PW.imp (pw_and e2 (f3 _ _ _ rfl)) fun _ _ _ h => rt_and h
      exact ⟨PE.imp (pe_and e1 f1) fun _ _ _ h => rd_and h, w.pt, fun _ _ _ _ => w⟩
    | Or =>
      rw [trE] at h
      obtain ⟨a', h2, h⟩ := bindS h
      obtain ⟨b', h3, h⟩ := mapS h
      subst h
      obtain ⟨e1, e2, _⟩ := ih.sE ok h2
      obtain ⟨f1, f2, f3⟩ := ih.sE ok h3
      have w : PW X (.BoolOp .Or (a :: b :: r) pos) (GT X.K (evE gcs cd (.lor a' b'))) := PW.imp (pw_or e2 (f3 _ _ _ rfl)) fun _ _ _ h => rt_or h
      exact ⟨PE.imp (pe_or e1 f1) fun _ _ _ h => rd_or h, w.pt, fun _ _ _ _ => w⟩
theorem e_cmp1 (ih : Snd T gcs cd n) (ok : EOk X T gcs cd sc) {l c : Expr} {op : CmpOp} {pos : Pos} {i : I} (h : trE T (n + 1) sc (.Compare l [op] [c] pos) = some i) : All3 X gcs cd (.Compare l [op] [c] pos) i := by
  have gen : (if plainE c then (cmp2 op).bind fun o => (trE T n sc l).bind fun a' => (trE T n sc c).map fun b' => I.op2 o a' b' else none) = some i → All3 X gcs cd (.Compare l [op] [c] pos) i := fun h => by
    obtain ⟨hp, h⟩ := iteS h
    obtain ⟨o, h1, h⟩ := bindS h
    obtain ⟨a', h2, h⟩ := bindS h
    obtain ⟨b', h3, h⟩ := mapS h
    subst h
    exact ⟨PE.imp (pe_cmpR (opr_cmp2 ok.un h1) (ih.sE ok h2).1 (ih.sE ok h3).1 (marks_plain hp)) fun _ _ _ h => rd_op2 h,
      PT.imp (pt_cmpR (opr_cmp2 ok.un h1) (ih.sE ok h2).1 (ih.sE ok h3).1 (marks_plain hp)) fun _ _ _ h => rd_op2 h.test, fun _ _ _ e => by cases e⟩
  unfold trE at h
  try dsimp only at h
  split at h
  · obtain ⟨a', h2, h⟩ := mapS h
    subst h
    exact ⟨PE.imp (pe_cmpR op_isN (ih.sE ok h2).1 pe_non (nomark _)) fun _ _ _ h => rd_isN h, PT.imp (pt_cmpR op_isN (ih.sE ok h2).1 pe_non (nomark _)) fun _ _ _ h => rd_isN h.test, fun _ _ _ e => by cases e⟩
  · obtain ⟨a', h2, h⟩ := mapS h
    subst h
    exact ⟨PE.imp (pe_cmpR op_notN (ih.sE ok h2).1 pe_non (nomark _)) fun _ _ _ h => rd_notN h, PT.imp (pt_cmpR op_notN (ih.sE ok h2).1 pe_non (nomark _)) fun _ _ _ h => rd_notN h.test, fun _ _ _ e => by cases e⟩
  · exact gen h
theorem e_cmp2 (ih : Snd T gcs cd n) (ok : EOk X T gcs cd sc) {l b c : Expr} {op op' : CmpOp} {pos : Pos} {i : I} (h : trE T (n + 1) sc (.Compare l [op, op'] [b, c] pos) = some i) : All3 X gcs cd (.Compare l [op, op'] [b, c] pos) i := by
  rw [trE] at h
  obtain ⟨hp, h⟩ := iteS h
  rw [Bool.and_eq_true] at hp
  obtain ⟨o, h1, h⟩ := bindS h
  obtain ⟨o', h2, h⟩ := bindS h
  obtain ⟨a', h3, h⟩ := bindS h
  obtain ⟨b', h4, h⟩ := bindS h
  obtain ⟨c', h5, h⟩ := mapS h
  subst h
  exact ⟨PE.imp (pe_chain (opr_cmp2 ok.un h1) (opr_cmp2 ok.un h2) (ih.sE ok h3).1 (ih.sE ok h4).1 (ih.sE ok h5).1 (last_plain hp.2)) fun _ _ _ h => rd_chain h,
    PT.imp (pt_chain (opr_cmp2 ok.un h1) (opr_cmp2 ok.un h2) (ih.sE ok h3).1 (ih.sE ok h4).1 (ih.sE ok h5).1 (last_plain hp.2)) fun _ _ _ h => rd_chain h.test, fun _ _ _ e => by cases e⟩
theorem e_if (ih : Snd T gcs cd n) (ok : EOk X T gcs cd sc) {t a b : Expr} {pos : Pos} {i : I} (h : trE T (n + 1) sc (.IfExp t a b pos) = some i) : All3 X gcs cd (.IfExp t a b pos) i := by
  rw [trE] at h
  obtain ⟨t', h1, h⟩ := bindS h
  obtain ⟨a', h2, h⟩ := bindS h
  obtain ⟨b', h3, h⟩ := mapS h
  subst h
  exact ⟨PE.imp (pe_ifExp (ih.sE ok h1).2.1 (ih.sE ok h2).1 (ih.sE ok h3).1) fun _ _ _ h => rd_if h, PT.imp (fn_pt_if (ih.sE ok h1).2.1 (ih.sE ok h2).2.1 (ih.sE ok h3).2.1) fun _ _ _ h => rt_if h, fun _ _ _ e => by cases e⟩
theorem isName_eq {e : Expr} {t : Str} (h : isName e = some t) : ∃ p, e = .Name t p := by
  unfold isName at h
  split at h
  · cases h; exact ⟨_, rfl⟩
  · cases h
/-! ### sorted(set(..)), .index -/
theorem e_sub (ih : Snd T gcs cd n) (ok : EOk X T gcs cd sc) {a b : Expr} {pos : Pos} {i : I} (h : trE T (n + 1) sc (.Subscript a b pos) = some i) : All3 X gcs cd (.Subscript a b pos) i := by
  refine all3_of ?_ (fun _ => rfl) fun _ _ _ e => by cases e
  unfold trE at h
  try dsimp only at h
  split at h
  · obtain ⟨a', h1, h⟩ := bindS h
    obtain ⟨l', h2, h⟩ := bindS h
    obtain ⟨r', h3, h⟩ := mapS h
    subst h
    exact PE.imp (pe_slice slr_sli (ih.sE ok h1).1 (ih.sO ok h2) (ih.sO ok h3)) fun _ _ _ h => rd_sli h
  · obtain ⟨x, h1, h⟩ := bindS h
    obtain ⟨j, h2, h⟩ := bindS h
    obtain ⟨ks, h3, h⟩ := mapS h
    subst h
    obtain ⟨p, rfl⟩ := isName_eq h1
    obtain ⟨g1, g3, g4⟩ := slot_of ok h2
    have hu := ok.un
    exact PE.imp (pe_dget (by omega) (pe_var g1 g4 (okName_of g3).1 (okName_of g3).2.1) (pe_tup (ih.sL ok h3).2) (fun _ _ => rfl)) fun _ _ _ h => rd_dget h
  · obtain ⟨hp, h⟩ := iteS h
    obtain ⟨a', h1, h⟩ := bindS h
    obtain ⟨b', h3, h⟩ := mapS h
    subst h
    exact PE.imp (pe_ix ixr_idx (ih.sE ok h1).1 (ih.sE ok h3).1 (ix_plain hp)) fun _ _ _ h => rd_idx h
theorem e_dict {ks : List (Option Expr)} {vs : List Expr} {pos : Pos} {i : I} (h : trE T (n + 1) sc (.Dict ks vs pos) = some i) : All3 X gcs cd (.Dict ks vs pos) i := by
  refine all3_of ?_ (fun _ => rfl) fun _ _ _ e => by cases e
  unfold trE at h
  try dsimp only at h
  split at h
  · cases h
    exact PE.imp pe_dnewT fun _ _ _ h => rd_dnew h
  · cases h
theorem e_tup (ih : Snd T gcs cd n) (ok : EOk X T gcs cd sc) {es : List Expr} {k : Nat} {pos : Pos} {i : I} (h : trE T (n + 1) sc (.Tuple es k pos) = some i) : All3 X gcs cd (.Tuple es k pos) i := by
  refine all3_of ?_ (fun _ => rfl) fun _ _ _ e => by cases e
  rw [trE] at h
  obtain ⟨a', h1, h⟩ := mapS h
  subst h
  exact PE.imp (pe_tupF (ih.sL ok h1).1) fun _ _ _ h => rd_tup h
theorem e_lst (ih : Snd T gcs cd n) (ok : EOk X T gcs cd sc) {es : List Expr} {pos : Pos} {i : I} (h : trE T (n + 1) sc (.List es pos) = some i) : All3 X gcs cd (.List es pos) i := by
  refine all3_of ?_ (fun _ => rfl) fun _ _ _ e => by cases e
  rw [trE] at h
  obtain ⟨a', h1, h⟩ := mapS h
  subst h
  exact PE.imp (pe_lst (ih.sL ok h1).1) fun _ _ _ h => rd_lst h
theorem oneGen_eq {gs : List Comprehension} {tg iter : Expr} {ifs : List Expr} (h : oneGen gs = some (tg, iter, ifs)) : gs = [⟨tg, iter, ifs, 0⟩] := by
  match gs, h with
  | [g], h =>
    obtain ⟨hk, h⟩ := iteS h
    obtain ⟨a, b, c, k⟩ := g
    cases h
    have hk' : k = 0 := hk
    subst hk'; rfl
  | [], h => cases h
  | _ :: _ :: _, h => cases h
theorem e_comp (ih : Snd T gcs cd n) (ok : EOk X T gcs cd sc) {elt : Expr} {gs : List Comprehension} {scope : Scope} {pos : Pos} {i : I} (h : trE T (n + 1) sc (.ListComp elt gs scope pos) = some i) : All3 X gcs cd (.ListComp elt gs scope pos) i := by
  refine all3_of ?_ (fun _ => rfl) fun _ _ _ e => by cases e
  rw [trE] at h
  cases qg : oneGen gs with
  | none => rw [qg] at h; cases h
  | some g =>
  obtain ⟨tg, iter, ifs⟩ := g
  have := oneGen_eq qg
  subst this
  rw [qg] at h
  obtain ⟨hb, h⟩ := iteS h
  rw [Bool.and_eq_true] at hb
  obtain ⟨p, h1, h⟩ := bindS h
  obtain ⟨it, h2, h⟩ := bindS h
  obtain ⟨t, h3, h⟩ := bindS h
  obtain ⟨el, h4, h⟩ := bindS h
  obtain ⟨hp, h⟩ := iteS h
  cases h
  have bk := ok.blkOk hb.1
  have hk : scope.kind = .function := bk.kind
  have hp' : ∀ j ∈ pvars p, j ∈ (ownOf T.N scope).map Prod.snd := fun j hj => by
    rw [List.all_eq_true] at hp
    exact of_decide_eq_true (hp j hj)
  have hPt : ∀ es k pos, tg = .Tuple es k pos → isTupP p = true := by
    intro es k pos e
    subst e
    cases n with
    | zero => cases h1
    | succ n =>
      rw [trP] at h1
      obtain ⟨_, _, h1⟩ := mapS h1
      subst h1; rfl
  exact PE.imp (pe_lc ok.calm (by rw [ok.N]; exact ok.nd) (ih.sI ok h2 hPt).1 bk (fun s H C cl fp => (ih.sP (ok.blk hk s H C cl fp) h1).1) (fun s H C cl fp => ih.sT (ok.blk hk s H C cl fp) h3) (fun s H C cl fp => (ih.sE (ok.blk hk s H C cl fp) h4).1) (folded_plain hb.2 X.env)) fun _ _ _ h => rd_comp hp' h
theorem isRange_eq {e : Expr} {bs : List Expr} (h : isRange e = some bs) : ∃ p pos, e = .Call (.Name "range" p) bs [] pos := by
  unfold isRange at h
  split at h
  · obtain ⟨e, h⟩ := iteS h
    cases h
    subst e
    exact ⟨_, _, rfl⟩
  · cases h
theorem setArg_eq {f : Str} {a e : Expr} (h : setArg f a = some e) : f = "sorted" ∧ ∃ p pos, a = .Call (.Name "set" p) [e] [] pos := by
  unfold setArg at h
  split at h
  · obtain ⟨⟨h1, h2⟩, h⟩ := iteS h
    cases h
    subst h2
    exact ⟨h1, _, _, rfl⟩
  · cases h
theorem few_one {a : Expr} (hp : plainE a = true) (cpos : Pos) (env : Env) : ((backTo cpos (starEach [a] env)).all (fun x => !x.1) && (backToKw cpos (keywordEach [] env)).all (fun x => x.1.isSome)
      && decide ([a].length + ([] : List Keyword).length + (if ([] : List Keyword).isEmpty then 0 else 1) < 30)) = true := by
  rw [star_plain hp]; rfl
theorem ite_some' {p : Prop} [Decidable p] {α : Type} {a : Option α} {b : α} (h : (if p then a else none) = some b) : p ∧ a = some b := by
  split at h
  · exact ⟨by assumption, h⟩
  · cases h
theorem mem_insI {a : Int} : ∀ {l : List Int} {x : Int}, x ∈ insI a l ↔ x = a ∨ x ∈ l
  | [], x => by rw [insI, List.mem_singleton]; exact ⟨.inl, fun h => h.elim id fun h => nomatch h⟩
  | b :: r, x => by
    rw [insI]
    split
    · exact List.mem_cons
    · split
      · rename_i e
        subst e
        exact ⟨.inr, fun h => h.elim (fun h => h ▸ List.mem_cons_self) id⟩
      · rw [List.mem_cons, mem_insI, List.mem_cons]
        exact ⟨fun h => h.elim (fun h => .inr (.inl h)) fun h => h.elim .inl fun h => .inr (.inr h), fun h => h.elim (fun h => .inr (.inl h)) fun h => h.elim .inl fun h => .inr (.inr h)⟩
theorem insI_lt {a : Int} : ∀ {l : List Int}, l.Pairwise (· < ·) → (insI a l).Pairwise (· < ·)
  | [], _ => List.pairwise_cons.mpr ⟨(fun _ h => nomatch h), .nil⟩
  | b :: r, h => by
    rw [insI]
    obtain ⟨h1, h2⟩ := List.pairwise_cons.mp h
    split
    · rename_i hab
      exact List.pairwise_cons.mpr ⟨fun x hx => by
        rcases List.mem_cons.mp hx with e | hx
        · rw [e]; exact hab
        · have := h1 x hx; omega, h⟩
    · split
      · exact h
      · exact List.pairwise_cons.mpr ⟨fun x hx => by
          rcases mem_insI.mp hx with e | hx
          · rw [e]; omega
          · exact h1 x hx, insI_lt h2⟩
theorem mem_sortSet {ns : List Int} {x : Int} : x ∈ sortSet ns ↔ x ∈ ns := by
  induction ns with
  | nil => exact Iff.rfl
  | cons a r ih => rw [show sortSet (a :: r) = insI a (sortSet r) from rfl, mem_insI, List.mem_cons, ih]
theorem sortSet_lt (ns : List Int) : (sortSet ns).Pairwise (· < ·) := by
  induction ns with
  | nil => exact .nil
  | cons a r ih => exact insI_lt ih
theorem lt_uniq {l m : List Int} (h : l.Pairwise (· < ·)) (g : m.Pairwise (· < ·)) (e : ∀ x, x ∈ l ↔ x ∈ m) : l = m := by
  have n1 : l.Nodup := h.imp fun h => by omega
  have n2 : m.Nodup := g.imp fun h => by omega
  exact ((List.perm_ext_iff_of_nodup n1 n2).mpr e).eq_of_pairwise (fun a b _ _ h1 h2 => by omega) h g
theorem rd_sset {K : PySem.W.Frag} {w : World} {as : I} {σ : L2.St} {H : Hp} {Q : VK} (h : GE K (evE gcs cd (.bi .sset as)) σ H Q) : tCB (rSortedSet w) (tCons (tCB (fun vs H Q => rSetTI K w vs H Q ∨ rSetLI K w vs H Q) (GB K (evB gcs cd as))) tNil) σ H Q := by
  obtain ⟨C, F, d, rv, d', S, e, q⟩ := h
  rw [evE] at e
  obtain ⟨r, e1, e⟩ := R.bind_ok e
  obtain ⟨xs, e2, e⟩ := R.bind_ok e
  obtain ⟨y, e3, e⟩ := R.bind_ok e
  cases e
  refine ⟨C, F, d, r.1, r.2, S, e1, fun vs H1 F1 X1 S1 P => ?_⟩
  have P' := P.opd S1 (R.opt_ok e2)
  have e3 := R.opt_ok e3
  match xs, e3, P' with
  | [.list ts], e3, P' =>
    obtain ⟨ns, e4, e5⟩ := Option.bind_eq_some_iff.mp (show (allInts ts).bind _ = some y from e3)
    obtain ⟨hl, rfl⟩ := ite_some e5
    cases P' with
    | cons hv hn =>
      cases hn
      obtain ⟨a, vs', rfl, ht, ra⟩ := hv.lst
      obtain ⟨rfl, _⟩ := RpAll.ints e4 ra
      refine .inr ⟨a, ns, rfl, SqL.of ht, hl, fun p c hp hc => ⟨p, _, c, rfl, upd_same, by omega, fun ns' p' h1 h2 h3 hp' => ?_⟩⟩
      have hne : p' ≠ p := fun z => by rw [z, upd_same] at hp'; cases hp'
      have hp1 : H1 p' = none := by rw [upd_ne hne] at hp'; exact hp'
      have eq : ns' = sortSet ns := lt_uniq h1 (sortSet_lt ns) fun x => by rw [h2 x, mem_sortSet, decide_eq_true_eq]
      subst eq
      have n : New K H1 F1 (upd (upd H1 p (SetO w p (fun j => decide (j ∈ ns)) c)) p' (.lst ((sortSet ns).map V.int))) (.ref p') (.list ((sortSet ns).map .int)) :=
        ⟨fun b o hb => by rw [upd_ne (fun z => by rw [z, hp1] at hb; cases hb), upd_ne (fun z => by rw [z, hp] at hb; cases hb)]; exact hb, .inr ⟨p', _, rfl, hp1, upd_same, .lst (RpAll.ofInts _)⟩⟩
      obtain ⟨X3, S3, R3⟩ := n.fin S1 X1.dom
      exact q _ _ F1 (X1.trans X3) S3 R3
  | [.tuple ts], e3, P' =>
    obtain ⟨ns, e4, e5⟩ := Option.bind_eq_some_iff.mp (show (allInts ts).bind _ = some y from e3)
    obtain ⟨hl, rfl⟩ := ite_some e5
    cases P' with
    | cons hv hn =>
      cases hn
      obtain ⟨a, vs', rfl, ht, ra⟩ := hv.tup
      obtain ⟨rfl, _⟩ := RpAll.ints e4 ra
      refine .inl ⟨a, ns, rfl, ht.sq, hl, fun p c hp hc => ⟨p, _, c, rfl, upd_same, by omega, fun ns' p' h1 h2 h3 hp' => ?_⟩⟩
      have hne : p' ≠ p := fun z => by rw [z, upd_same] at hp'; cases hp'
      have hp1 : H1 p' = none := by rw [upd_ne hne] at hp'; exact hp'
      have eq : ns' = sortSet ns := lt_uniq h1 (sortSet_lt ns) fun x => by rw [h2 x, mem_sortSet, decide_eq_true_eq]
      subst eq
      have n : New K H1 F1 (upd (upd H1 p (SetO w p (fun j => decide (j ∈ ns)) c)) p' (.lst ((sortSet ns).map V.int))) (.ref p') (.list ((sortSet ns).map .int)) :=
        ⟨fun b o hb => by rw [upd_ne (fun z => by rw [z, hp1] at hb; cases hb), upd_ne (fun z => by rw [z, hp] at hb; cases hb)]; exact hb, .inr ⟨p', _, rfl, hp1, upd_same, .lst (RpAll.ofInts _)⟩⟩
      obtain ⟨X3, S3, R3⟩ := n.fin S1 X1.dom
      exact q _ _ F1 (X1.trans X3) S3 R3
theorem PE.or {X : Cx} {e : Expr} {t t' : TE} (h : PE X e t) (h' : PE X e t') : PE X e (fun σ H Q => t σ H Q ∨ t' σ H Q) := ⟨fun pins s σ H Q I w => w.elim (h.run pins s σ H Q I) (h'.run pins s σ H Q I)⟩
def tyTup (K : PySem.W.Frag) (x : V) (H : Hp) : Prop := ∃ a xs, x = .ref a ∧ TupS K H a xs
theorem ty_tup {X : Cx} : TyOk X "tuple" (tyTup X.K) := fun pins σ H s x v I r h => by
  obtain ⟨a, xs, rfl, ht⟩ := h
  cases r
  obtain ⟨its, _, ⟨o, ho, hc, _⟩, _⟩ := I.tuple ht.sq
  refine ⟨⟨o, ho, hc⟩, fun b e => ?_⟩
  cases e
  refine ⟨o, ho, ?_⟩
  rcases ht with ⟨o', h1, h2⟩ | ⟨o', _, _, h1, _, h2, _⟩
  · have := (I.hok a _ h1).1
    rw [ho] at this
    cases this
    exact h2
  · have := I.kIn a o' h1
    rw [ho] at this
    cases this
    exact h2
theorem first_at {x : D} : ∀ {ds : List D} {j : Nat}, firstAt x ds = some j → (∃ z, ds[j]? = some z ∧ PyData.eqv z x = true) ∧ ∀ (m : Nat) (z : D), m < j → ds[m]? = some z → PyData.eqv z x = false
  | [], _, h => nomatch h
  | y :: r, j, h => by
    rw [firstAt] at h
    split at h
    · rename_i hy
      cases h
      exact ⟨⟨y, rfl, hy⟩, fun m z hm => absurd hm (Nat.not_lt_zero m)⟩
    · rename_i hy
      obtain ⟨k, hk, rfl⟩ := Option.map_eq_some_iff.mp h
      obtain ⟨⟨z, h1, h2⟩, h3⟩ := first_at hk
      refine ⟨⟨z, h1, h2⟩, fun m w hm hw => ?_⟩
      cases m with
      | zero =>
        cases hw
        exact Bool.eq_false_iff.mpr hy
      | succ m => exact h3 m w (by omega) hw
theorem rd_index {K : PySem.W.Frag} {a as : I} {σ : L2.St} {H : Hp} {Q : VK} (h : GE K (evE gcs cd (.meth .index a as)) σ H Q) :
    tBM K "list" (rIndexD K) (GE K (evE gcs cd a)) (GB K (evB gcs cd as)) σ H Q ∨ tMG (tyTup K) (rTIndex K) (GE K (evE gcs cd a)) (GB K (evB gcs cd as)) σ H Q := by
  obtain ⟨C, F, d, rv, d', S, e, q⟩ := h
  rw [evE] at e
  obtain ⟨ra, e1, e⟩ := R.bind_ok e
  obtain ⟨x0, e2, e⟩ := R.bind_ok e
  obtain ⟨r, e3, e⟩ := R.bind_ok e
  obtain ⟨x, e4, e⟩ := R.bind_ok e
  obtain ⟨xs, e5, e⟩ := R.bind_ok e
  split at e
  · rename_i hk
    obtain ⟨y, e6, e⟩ := R.bind_ok e
    cases e
    have e2 := R.opt_ok e2
    have e4 := R.opt_ok e4
    have e6 := R.opt_ok e6
    match x, xs, e6, hk with
    | .list ds, [z], e6, hk =>
      obtain ⟨hs, e7⟩ := ite_some' e6
      obtain ⟨j, hj, rfl⟩ := Option.map_eq_some_iff.mp e7
      rw [Bool.and_eq_true] at hs
      obtain ⟨⟨w, f1, f2⟩, f3⟩ := first_at hj
      obtain ⟨s1, s2⟩ := Bool.and_eq_true_iff.mp hs.1
      obtain ⟨s3, s4⟩ := Bool.and_eq_true_iff.mp hs.2
      left
      refine ⟨C, F, d, ra.1, ra.2, S, e1, fun v H1 F1 X1 S1 R1 => ⟨?_, C, F1, ra.2, r.1, r.2, S1, e3, fun vs H2 F2 X2 S2 P => ?_⟩⟩
      · have ho := R1.opd S1 e2
        cases x0 with
        | list ds0 =>
          obtain ⟨p, vs, rfl, g1, _⟩ := ho.lst
          exact .inl ⟨rfl, vs, .inl (.inl g1)⟩
        | _ => cases hk
      · have P' := P.opd S2 (R.opt_ok e5)
        have ho := (R1.mono S1 X2).opd S2 e4
        cases P' with
        | cons hv hn =>
          cases hn
          have hdl : Dp K H2 v (.list ds) := RpO.dp s3 ho
          obtain ⟨p, _, rfl, _, _⟩ := ho.lst
          refine ⟨p, _, z, ds, j, w, rfl, rfl, hdl, RpO.dp s1 hv, s4, s2, f1, f2, f3, ?_⟩
          obtain ⟨X3, S3, R3⟩ := (New.same (K := K) (H := H2) (F := F2) rfl (.int _)).fin S2 (X1.trans X2).dom
          exact q _ _ F2 ((X1.trans X2).trans X3) S3 R3
    | .tuple ds, [z], e6, hk =>
      obtain ⟨hs, e7⟩ := ite_some' e6
      obtain ⟨j, hj, rfl⟩ := Option.map_eq_some_iff.mp e7
      rw [Bool.and_eq_true] at hs
      obtain ⟨⟨w, f1, f2⟩, f3⟩ := first_at hj
      obtain ⟨s1, s2⟩ := Bool.and_eq_true_iff.mp hs.1
      obtain ⟨s3, s4⟩ := Bool.and_eq_true_iff.mp hs.2
      right
      refine ⟨C, F, d, ra.1, ra.2, S, e1, fun v H1 F1 X1 S1 R1 => ⟨?_, C, F1, ra.2, r.1, r.2, S1, e3, fun vs H2 F2 X2 S2 P => ?_⟩⟩
      · have ho := R1.opd S1 e2
        cases x0 with
        | tuple ds0 =>
          obtain ⟨p, vs, rfl, g1, _⟩ := ho.tup
          exact ⟨p, vs, rfl, g1⟩
        | _ => cases hk
      · have P' := P.opd S2 (R.opt_ok e5)
        have ho := (R1.mono S1 X2).opd S2 e4
        cases P' with
        | cons hv hn =>
          cases hn
          obtain ⟨p, us, rfl, g1, g2⟩ := ho.tup
          refine ⟨p, us, _, z, ds, j, w, rfl, rfl, g1.sq, RpAll.dp ds us s3 g2, RpO.dp s1 hv, s4, s2, f1, f2, f3, ?_⟩
          obtain ⟨X3, S3, R3⟩ := (New.same (K := K) (H := H2) (F := F2) rfl (.int _)).fin S2 (X1.trans X2).dom
          exact q _ _ F2 ((X1.trans X2).trans X3) S3 R3
  · cases e
theorem e_meth (ih : Snd T gcs cd n) (ok : EOk X T gcs cd sc) {o : Expr} {m : Str} {ap cp : Pos} {as : List Expr} {i : I} (h : trE T (n + 1) sc (.Call (.Attribute o m ap) as [] cp) = some i) : All3 X gcs cd (.Call (.Attribute o m ap) as [] cp) i := by
  refine all3_of ?_ (fun _ => rfl) fun _ _ _ e => by cases e
  match as, h with
  | [], h => cases h
  | _ :: _ :: _, h => cases h
  | [a], h =>
    unfold trE at h
    try dsimp only at h
    obtain ⟨hc, hh⟩ := iteS h
    rw [Bool.and_eq_true, Bool.and_eq_true, Bool.and_eq_true] at hc
    obtain ⟨⟨⟨c0, c1⟩, c2⟩, c3⟩ := hc
    have em : m = "index" := of_decide_eq_true c3
    obtain ⟨o', h1, hh⟩ := bindS hh
    obtain ⟨a', h2, hh⟩ := mapS hh
    subst hh
    rw [em]
    have hb : attributeBase o "index" X.env (eval o X.env) = eval o X.env := by
      cases o <;> first | rfl | cases c0
    have po := (ih.sE ok h1).1
    have pa := (ih.sL ok h2).2
    have s1 := star_plain c1 [] X.env
    exact PE.imp (PE.or (pe_bm PySem.F.plainAttrs_list PySem.F.slot_list_index PySem.F.type_list_index (mt_indexD (by have := ok.un; omega)) po pa hb (few_one c1 _ _) c2 s1 rfl)
      (pe_mG ty_tup PySem.F.plainAttrs_tuple PySem.F.slot_tuple_index PySem.F.type_tuple_index (mt_tindexD (by have := ok.un; omega)) po pa hb (few_one c1 _ _) c2 s1 rfl)) fun _ _ _ w => rd_index w
theorem pe_callL {f : Addr} {fd : FuncData} {ps : List Str} {k : Nat} {sp : Sp} {x : Str} {nm pos : Pos} {e : Expr} {es : List Expr} {tf : TE} {t : TA} {E : XK} (hf : PE X (.Name x nm) tf) (F : FnOk X.prog X.w X.K X.mg X.base CX0 k f fd ps sp) (hr : Room k X.A) (hk : PySem.W.keepIn X.K (.ref f) = true) (hb : Binds X.K fd ps []) (hx : Passes CX0 X E)
    (ha : PA X (e :: es) t) (he : starEach (e :: es) X.env = (false, eval e X.env) :: starEach es X.env) (hpl : (backTo pos (starEach es X.env)).any (·.1) = false) :
    PE X (.Call (.Name x nm) (e :: es) [] pos) (fun σ H Q => tf σ H fun v H1 => v = .ref f ∧ tCall sp [] E t σ H1 Q) := by
  refine ⟨fun pins s σ H Q I h => ?_⟩
  refine wpAny_Call_Name_kw (thn (hf.run pins s σ H _ I h) fun fv s0 ⟨v, H0, I0, r0, ev, q0⟩ => ?_)
  subst ev
  obtain rfl : fv = Value.ref f := r0
  refine PySem.W.callWith_K (h₀ := X.base) I0.ok.mod.kin hk (thn (ha.run pos pins s0 σ H0 _ I0 q0) fun us s1 ⟨vs, H1, I1, r1, q1⟩ => ⟨I1.kIn, ?_⟩) he hpl
  exact run_fn F hr hb .nil hx I1 r1 q1
theorem PE.ex {α : Type} {e : Expr} {p : α → Prop} {t : α → TE} (h : ∀ a, p a → PE X e (t a)) : PE X e (fun σ H Q => ∃ a, p a ∧ t a σ H Q) := ⟨fun pins s σ H Q I ⟨a, ha, w⟩ => (h a ha).run pins s σ H Q I w⟩
theorem e_callv (ok : EOk X T gcs cd sc) {f : Str} {p pos : Pos} {a : Expr} {r : List Expr} {j : Nat} {l : I} (hs : slot T sc f = some j) (hpl : ∀ e ∈ a :: r, plainE e = true) (ha : PA X (a :: r) (GA X.K (evA gcs cd l))) :
    PE X (.Call (.Name f p) (a :: r) [] pos) (GE X.K (evE gcs cd (.callv T.gf j l))) := by
  obtain ⟨g1, g3, g4⟩ := slot_of ok hs
  have pv := pe_var (pos := p) g1 g4 (okName_of g3).1 (okName_of g3).2.1
  have s := star_plain (hpl a List.mem_cons_self) r X.env
  refine PE.imp (PE.ex (p := fun gf : Nat × Addr => gf.1 ∈ T.gf ∧ (gcs gf.1).bind fnA = some (gf.2 : Int)) (t := fun gf => fun σ H Q => tVar j σ H fun v H1 => v = .ref gf.2 ∧ tCall (spD X.K cd gf.1) [] E0 (GA X.K (evA gcs cd l)) σ H1 Q) fun gf hgf => ?_) fun σ H Q w => ?_
  · obtain ⟨h1, h2⟩ := hgf
    obtain ⟨x, h3, h4⟩ := ok.gfs _ h1
    obtain ⟨fa, fd, ps, k, F, hr, hm, kp, hb⟩ := ok.fns x _ h3
    cases hd : gcs gf.1 with
    | none => rw [hd] at h2; cases h2
    | some dd =>
      rw [hd] at h2
      have hdd := fnA_eq (show fnA dd = some (gf.2 : Int) from h2)
      obtain ⟨_, v, u, m1, m2, m3⟩ := ok.gcs x _ h4 dd hd
      have m4 := m3 (fun _ => none) (fun _ => False)
      rw [hdd] at m4
      obtain ⟨f2, rfl, e2⟩ := m4.fn
      obtain rfl : u = Value.ref f2 := m2
      rw [hm] at m1
      have e3 : fa = f2 := by cases m1; rfl
      have e4 : gf.2 = f2 := Int.ofNat.inj e2
      rw [e4, ← e3]
      exact pe_callL pv F hr kp hb pass0 ha s (star_any fun e he => hpl e (List.mem_cons_of_mem _ he))
  · obtain ⟨g, hg, fa, h1, h2⟩ := rd_callv (E := E0) w
    exact ⟨(g, fa), ⟨hg, h1⟩, h2⟩
theorem e_call (ih : Snd T gcs cd n) (ok : EOk X T gcs cd sc) {f : Str} {p pos : Pos} {as : List Expr} {i : I} (h : trE T (n + 1) sc (.Call (.Name f p) as [] pos) = some i) : All3 X gcs cd (.Call (.Name f p) as [] pos) i := by
  refine all3_of ?_ (fun _ => rfl) fun _ _ _ e => by cases e
  unfold trE at h
  try dsimp only at h
  by_cases hg : glob sc f = true
  case neg =>
    rw [if_neg hg] at h
    cases qs : slot T sc f with
    | none => rw [qs] at h; cases h
    | some j =>
      rw [qs] at h
      dsimp only at h
      cases as with
      | nil => cases h
      | cons a r =>
        obtain ⟨l, h1, h2⟩ := mapS (show (trA T n sc (a :: r)).map (I.callv T.gf j) = some i from h)
        subst h2
        exact e_callv ok qs (trA_plain _ _ _ h1) (ih.sA ok h1)
  rw [if_pos hg] at h
  obtain ⟨hn, hgl⟩ := ok.gl hg
  obtain ⟨k1, _, k3⟩ := okName_of hn
  cases q : T.fn f with
  | some g =>
    rw [q] at h
    dsimp only at h
    obtain ⟨l, h1, h2⟩ := mapS h
    subst h2
    obtain ⟨fa, fd, ps, k, F, hr, hm, kp, hb⟩ := ok.fns f g q
    have hpl := trA_plain _ _ _ h1
    cases as with
    | nil =>
      have e1 := PE.imp (pe_call0 (pos := pos) (p := p) F hr hgl hm kp hb .nil pass0 k1) (t' := GE X.K (evE gcs cd (.call g l))) fun σ H Q w => by
        have w' := rd_call (E := E0) w
        cases n with
        | zero => cases h1
        | succ n =>
          cases h1
          exact ra_nil w'
      exact e1
    | cons a r =>
      have s := star_plain (hpl a List.mem_cons_self) r X.env
      exact PE.imp (pe_call F hr hgl hm kp hb .nil pass0 (ih.sA ok h1) k1 s (star_any fun e he => hpl e (List.mem_cons_of_mem _ he))) fun _ _ _ w => rd_call w
  | none =>
    rw [q] at h
    dsimp only at h
    have biF : ∀ {a : Expr} {r : List Expr} {b : B1} {i : I}, bltF T.rp f = some b → (trL T n sc (a :: r)).map (I.bi b) = some i → PE X (.Call (.Name f p) (a :: r) [] pos) (GE X.K (evE gcs cd i)) := fun {a r b i} hb h => by
      obtain ⟨l, h1, h2⟩ := mapS h
      subst h2
      obtain ⟨id, g1, g2, g3⟩ := callr_bltF ok hb
      have hpl := trL_plain _ _ _ h1
      exact PE.imp (pe_callB g3 hgl g2 g1 (ih.sL ok h1).2 k3 k1 (star_plain (hpl a List.mem_cons_self) r X.env) (star_any fun e he => hpl e (List.mem_cons_of_mem _ he))) fun _ _ _ w => rd_bi w
    have biT : ∀ {a : Expr} {r : List Expr} {b : B1} {i : I}, bltT f = some b → (trL T n sc (a :: r)).map (I.bi b) = some i → PE X (.Call (.Name f p) (a :: r) [] pos) (GE X.K (evE gcs cd i)) := fun {a r b i} hb h => by
      obtain ⟨l, h1, h2⟩ := mapS h
      subst h2
      obtain ⟨id, g1, g2, g3⟩ := callr_bltT ok hb
      have hpl := trL_plain _ _ _ h1
      exact PE.imp (pe_callTy g3 hgl g2 g1 (ih.sL ok h1).2 k3 k1 (star_plain (hpl a List.mem_cons_self) r X.env) (star_any fun e he => hpl e (List.mem_cons_of_mem _ he))) fun _ _ _ w => rd_bi w
    match as, h with
    | [], h => cases h
    | [a], h =>
      dsimp only at h
      cases qs : setArg f a with
      | some e0 =>
        rw [qs] at h
        dsimp only at h
        obtain ⟨hc, h⟩ := iteS h
        rw [Bool.and_eq_true] at hc
        obtain ⟨l, h1, h2⟩ := mapS h
        subst h2
        obtain ⟨ef, p', pos', rfl⟩ := setArg_eq qs
        subst ef
        obtain ⟨n1, n2⟩ := ok.gl hc.1
        obtain ⟨m1, _, m3⟩ := okName_of n1
        exact PE.imp (pe_callB (cr_sortedSet ok.calm) hgl (ok.blt _ (by decide +kernel)) PyProof.Rows.boot_sorted (pa_cons (pe_callTy (cr_setXI ok.calm) n2 (ok.blt _ (by decide +kernel)) PyProof.Rows.boot_set (ih.sL ok h1).2 m3 m1 (star_plain hc.2 _ _) rfl) pa_nil rfl) k3 k1 rfl rfl) fun _ _ _ w => rd_sset w
      | none =>
      rw [qs] at h
      dsimp only at h
      cases qr : isRange a with
      | some bs =>
        rw [qr] at h
        dsimp only at h
        obtain ⟨hr, hh⟩ := iteS h
        obtain ⟨p', pos', rfl⟩ := isRange_eq qr
        clear h
        split at hh
        · rename_i ef
          obtain ⟨l, h1, h2⟩ := mapS hh
          subst h2
          have hgl' : Gl X "tuple" := ef ▸ hgl
          rw [ef]
          exact PE.imp (pe_tupRgF ok.calm hgl' (ok.blt _ (by decide +kernel)) (ih.sR (tg := .Name f p) (t := I.nil) ok hr h1).1 rfl) fun _ _ _ w => rd_tupR w
        · obtain ⟨ef, hh⟩ := iteS hh
          obtain ⟨l, h1, h2⟩ := mapS hh
          subst h2
          have hgl' : Gl X "list" := ef ▸ hgl
          rw [ef]
          exact PE.imp (pe_listRg ok.calm hgl' (ok.blt _ (by decide +kernel)) (ih.sR (tg := .Name f p) (t := I.nil) ok hr h1).1 rfl) fun _ _ _ w => rd_lstR w
      | none =>
        rw [qr] at h
        dsimp only at h
        cases qb : bltF T.rp f with
        | some b =>
          rw [qb] at h
          dsimp only at h
          exact biF qb h
        | none =>
          rw [qb] at h
          dsimp only at h
          obtain ⟨b, h1, h⟩ := bindS h
          exact biT h1 h
    | a :: b :: r, h =>
      dsimp only at h
      cases qn : isName b with
      | none =>
        rw [qn] at h
        dsimp only at h
        obtain ⟨k, h1, h⟩ := bindS h
        exact biF h1 h
      | some t =>
        rw [qn] at h
        dsimp only at h
        split at h
        · rename_i hc
          rw [Bool.and_eq_true, Bool.and_eq_true, Bool.and_eq_true] at hc
          obtain ⟨⟨⟨c1, c2⟩, c3⟩, c4⟩ := hc
          have ef : f = "isinstance" := of_decide_eq_true c1
          cases r with
          | cons => cases c2
          | nil =>
            obtain ⟨p', rfl⟩ := isName_eq qn
            obtain ⟨t', h1, hh⟩ := bindS h
            obtain ⟨a', h2, h3⟩ := mapS hh
            subst h3
            obtain ⟨b1, b2⟩ := ty_name ok h1
            obtain ⟨n1, n2⟩ := ok.gl c3
            obtain ⟨m1, _, m3⟩ := okName_of n1
            have hgl' : Gl X "isinstance" := ef ▸ hgl
            rw [ef] at k3 k1 ⊢
            exact PE.imp (pe_callB call_isi hgl' (ok.blt _ (by decide +kernel)) PyProof.Rows.boot_isinstance (pa_cons (ih.sE ok h2).1 (pa_cons (pe_bltn (v := .ty t'.name) n2 b2 b1 rfl m3 m1) pa_nil) (star_plain c4 _ _)) k3 k1 (star_plain c4 _ _) rfl) fun _ _ _ w => rd_isI w
        · obtain ⟨k, h1, h⟩ := bindS h
          exact biF h1 h
theorem snd_E (ih : Snd T gcs cd n) (ok : EOk X T gcs cd sc) {e : Expr} {i : I} (h : trE T (n + 1) sc e = some i) : All3 X gcs cd e i := by
  cases e with
  | Constant c k pos => exact e_const h
  | Name x pos => exact e_name ok h
  | BinOp a op b pos => exact e_bin ih ok h
  | UnaryOp op a pos => exact e_un ih ok h
  | BoolOp op vs pos => exact e_bool ih ok h
  | Compare l ops cs pos =>
    match ops, cs, h with
    | [op], [c], h => exact e_cmp1 ih ok h
    | [op, op'], [b, c], h => exact e_cmp2 ih ok h
    | [], _, h => cases h
    | [_], [], h => cases h
    | [_], _ :: _ :: _, h => cases h
    | [_, _], [], h => cases h
    | [_, _], [_], h => cases h
    | [_, _], _ :: _ :: _ :: _, h => cases h
    | _ :: _ :: _ :: _, _, h => cases h
  | IfExp t a b pos => exact e_if ih ok h
  | Subscript a b pos => exact e_sub ih ok h
  | Tuple es k pos => exact e_tup ih ok h
  | Dict ks vs pos => exact e_dict h
  | List es pos => exact e_lst ih ok h
  | Call f as kw pos =>
    cases kw with
    | cons => cases f <;> first | cases h | (cases as with
      | nil => cases h
      | cons a r => cases r <;> cases h)
    | nil =>
      cases f with
      | Name x p => exact e_call ih ok h
      | Attribute o m ap => exact e_meth ih ok h
      | _ => cases h
  | ListComp elt gs scope pos => exact e_comp ih ok h
  | _ => cases h
theorem snd (T : Tc) (gcs : Nat → Option D) (cd : CallSem) : ∀ n, Snd T gcs cd n
  | 0 => ⟨(fun _ h => by cases h), (fun _ h => by cases h), (fun _ h => by cases h), (fun _ h => by cases h), (fun _ h => by cases h), (fun _ _ h => by cases h), (fun _ h => by cases h), (fun _ h => by cases h), (fun _ h => by cases h)⟩
  | n + 1 =>
    have ih := snd T gcs cd n
    ⟨fun ok h => snd_E ih ok h, fun ok h => snd_T ih ok h, fun ok h => snd_O ih ok h, fun ok h => snd_L ih ok h, fun ok h => snd_A ih ok h, fun ok hg h => snd_R ih ok hg h, fun ok h ht => snd_I ih ok h ht, fun ok h => snd_P ih ok h, fun ok h => snd_Ps ih ok h⟩
end
end DL
/-! DL13: statements. -/
namespace DL
open PySem PySem.Spec PyProof.Rows L2

def isComp : Expr → Bool
  | .ListComp .. => true
  | .SetComp .. => true
  | .DictComp .. => true
  | _ => false
def isTupD : Expr → Bool
  | .Tuple .. => true
  | _ => false
/-- whether the target is stored within a comprehension's frame -/
def swapB (sc : Scope) (y : Str) (py : Pos) (e : Expr) : Bool := match e with
  | .ListComp _ _ scope pos => decide (sc.names.lookup y = some .local) && py.line == pos.line && !(scope.names.any fun (n, k) => n == y && (k == .local || k == .cell))
  | _ => false
/-- x, y = a, b with names of this frame alone -/
def parC (sc : Scope) (xs : List Str) (ls : List Nat) (es : List Expr) : Bool :=
  xs.all (fun x => decide (sc.names.lookup x = some .local)) && (ls.all fun l => l == ls.headD 0) && decide xs.Nodup && es.all plainE && !es.all (foldedForSure 8) && !es.all (constantsAlone 8)
def parT (T : Tc) (sc : Scope) : List Str → Option I
  | [] => some .nil
  | x :: r => (slotL T sc x).bind fun i => (parT T sc r).map fun b => .cons (.var i) b
/-- targets that are not stored from the right -/
def swapNo (sc : Scope) (es : List Expr) : Bool := decide (3 < es.length) || es.any fun e => match e with
  | .Name x _ => decide (sc.names.lookup x = some .cell)
  | _ => true
/-- a written tuple whose items are stored from the right -/
def tupNo (sc : Scope) (es : List Expr) : Expr → Bool
  | .Tuple vs _ _ => !(swapNo sc es || vs.all (foldedForSure 8))
  | _ => false
mutual
def trS (T : Tc) : Nat → Scope → Stmt → Option I
  | 0, _, _ => none
  | n + 1, sc, s => match s with
    | .Assign [.Name x _] e _ => (slotL T sc x).bind fun i => (trE T n sc e).map fun a => .set (decide (i ∈ T.ow)) i a
    | .Assign [.Tuple [.Name x px, .Name y py] k p] (.Tuple [a, b] k2 p2) _ => if parC sc [x, y] [px.line, py.line] [a, b] then (parT T sc [x, y]).bind fun t => (trL T n sc [a, b]).map fun l => .setp (.tup t) (.tup l)
        else if tupNo sc [.Name x px, .Name y py] (.Tuple [a, b] k2 p2) then none else (trP T n sc (.Tuple [.Name x px, .Name y py] k p)).bind fun t => (trE T n sc (.Tuple [a, b] k2 p2)).map fun a => .setp t a
    | .Assign [.Tuple [.Name x px, .Name y py, .Name z pz] k p] (.Tuple [a, b, c] k2 p2) _ => if parC sc [x, y, z] [px.line, py.line, pz.line] [a, b, c] then (parT T sc [x, y, z]).bind fun t => (trL T n sc [a, b, c]).map fun l => .setp (.tup t) (.tup l)
        else if tupNo sc [.Name x px, .Name y py, .Name z pz] (.Tuple [a, b, c] k2 p2) then none else (trP T n sc (.Tuple [.Name x px, .Name y py, .Name z pz] k p)).bind fun t => (trE T n sc (.Tuple [a, b, c] k2 p2)).map fun a => .setp t a
    | .Assign [.Tuple es k p] e _ => if isComp e || tupNo sc es e then none else (trP T n sc (.Tuple es k p)).bind fun t => (trE T n sc e).map fun a => .setp t a
    | .Assign [.Subscript (.Name x _) (.Tuple es _ _) _] e _ => if isComp e then none else (slot T sc x).bind fun i => (trL T n sc es).bind fun k => (trE T n sc e).map fun a => .dput i k a
    | .Assign [.Subscript (.Name x _) ix _] e _ => if isComp e || !plainE ix then none else (slot T sc x).bind fun i => (trE T n sc ix).bind fun k => (trE T n sc e).map fun a => .seti i k a
    | .AugAssign (.Name x _) op e _ => (slotL T sc x).bind fun i => (match op with
        | .Add => some O2.add
        | .Sub => some .sub
        | _ => none).bind fun o => (trE T n sc e).map fun a => .aug i o a
    | .Expr e _ => match e with
      | .Constant (.str _) _ _ => some .pas
      | .Call (.Attribute (.Name x _) m ap) [a] [] cp => if plainE a && (ap.endLine == cp.line) then (slot T sc x).bind fun i => (trE T n sc a).bind fun b => if m = "append" then some (.app i b) else if m = "extend" then some (.ext i b) else none else none
      | .Call (.Name f q) as [] cp => (trE T n sc (.Call (.Name f q) as [] cp)).map .drop
      | _ => none
    | .Return (some e) _ => (trE T n sc e).map .ret
    | .Return none _ => some (.ret .cn)
    | .If c a b _ => (trE T n sc c).bind fun c' => (trSs T n sc a).bind fun a' => (trSs T n sc b).map fun b' => .ife c' a' b'
    | .While c b [] _ => (trE T n sc c).bind fun c' => (trSs T n sc b).map fun b' => .whl c' b'
    | .For tg it b [] _ => (trP T n sc tg).bind fun p => (trI T n sc tg it).bind fun i => (trSs T n sc b).map fun b' => .for_ p i b'
    | .Break _ => some .brk
    | .Continue _ => some .cnt
    | .Pass _ => some .pas
    | _ => none
def trSs (T : Tc) : Nat → Scope → List Stmt → Option I
  | 0, _, _ => none
  | n + 1, sc, ss => match ss with
    | [] => some .nil
    | s :: r => (trSs T n sc r).map fun b => .cons ((trS T n sc s).getD .cn) b
end

def anyStar (es : List Expr) : Bool := es.any fun e => match e with
  | .Starred .. => true
  | _ => false
theorem anyStar_no {es : List Expr} (h : es.all plainE = true) : anyStar es = false := by
  unfold anyStar
  rw [List.any_eq_false]
  intro e he
  have := List.all_eq_true.mp h e he
  cases e <;> first | exact Bool.false_ne_true | cases this
theorem sw_par2 {env : Env} {x y : Str} {px py pt pt2 : Pos} {kt k2 : Nat} {a b : Expr} (hk : env.scope.kind = .function) (hx : env.scope.names.lookup x = some .local) (hy : env.scope.names.lookup y = some .local) (hl : py.line = px.line) (hxy : x ≠ y) (ha : [a, b].all plainE = true) (hf : ([a,b].all (foldedForSure 8)) = false) (hc : ([a,b].all (constantsAlone 8)) = false) : swappedStores [.Tuple [.Name x px, .Name y py] kt pt] (.Tuple [a,b] k2 pt2) env = pure (some [x,y]) := by
  have hbk : env.blockKind = .function := by unfold Env.blockKind; rw [hk]; rfl
  have kx : env.kindOf x = some .local := hx
  have ky : env.kindOf y = some .local := hy
  have hs := anyStar_no ha
  have e2 : [x, y].eraseDups = [x, y] := by
    have : (y == x) = false := beq_eq_false_iff_ne.mpr (Ne.symm hxy)
    simp [List.eraseDups_cons, this]
  have hn : ([Expr.Name x px, Expr.Name y py].filterMap fun
    | .Name id pos => if env.kindOf id == some .local && pos.line == px.line then some id else none
    | _ => none) = [x, y] := by
    simp [List.filterMap_cons, kx, ky, hl]
  show (if (!([Expr.Name x px, Expr.Name y py].length == 2 || [Expr.Name x px, Expr.Name y py].length == 3) || [a, b].length != [Expr.Name x px, Expr.Name y py].length || env.blockKind != .function) = true then pure none else
    if anyStar [a, b] = true then pure none else
    if (([Expr.Name x px, Expr.Name y py].filterMap fun
    | .Name id pos => if env.kindOf id == some .local && pos.line == px.line then some id else none
    | _ => none).length != [Expr.Name x px, Expr.Name y py].length || ([Expr.Name x px, Expr.Name y py].filterMap fun
    | .Name id pos => if env.kindOf id == some .local && pos.line == px.line then some id else none
    | _ => none).eraseDups.length != ([Expr.Name x px, Expr.Name y py].filterMap fun
    | .Name id pos => if env.kindOf id == some .local && pos.line == px.line then some id else none
    | _ => none).length) = true then pure none else
    if [a, b].all (foldedForSure 8) = true then pure none else do
      if [a, b].all (constantsAlone 8) = true then unsupported "assign.tuple-of-constant-expressions:order-of-the-stores"
      return some ([Expr.Name x px, Expr.Name y py].filterMap fun
    | .Name id pos => if env.kindOf id == some .local && pos.line == px.line then some id else none
    | _ => none) : Sem (Option (List Str))) = _
  rw [hn, hbk, hs, hf, hc, e2]
  rfl
theorem sw_par3 {env : Env} {x y z : Str} {px py pz pt pt2 : Pos} {kt k2 : Nat} {a b c : Expr} (hk : env.scope.kind = .function) (hx : env.scope.names.lookup x = some .local) (hy : env.scope.names.lookup y = some .local) (hz : env.scope.names.lookup z = some .local) (hl : py.line = px.line) (hl2 : pz.line = px.line) (hxy : x ≠ y) (hxz : x ≠ z) (hyz : y ≠ z) (ha : [a, b, c].all plainE = true) (hf : ([a, b, c].all (foldedForSure 8)) = false) (hc : ([a, b, c].all (constantsAlone 8)) = false) : swappedStores [.Tuple [.Name x px, .Name y py, .Name z pz] kt pt] (.Tuple [a, b, c] k2 pt2) env = pure (some [x, y, z]) := by
  have hbk : env.blockKind = .function := by unfold Env.blockKind; rw [hk]; rfl
  have kx : env.kindOf x = some .local := hx
  have ky : env.kindOf y = some .local := hy
  have kz : env.kindOf z = some .local := hz
  have hs := anyStar_no ha
  have e2 : [x, y, z].eraseDups = [x, y, z] := by
    have h1 : (y == x) = false := beq_eq_false_iff_ne.mpr (Ne.symm hxy)
    have h2 : (z == x) = false := beq_eq_false_iff_ne.mpr (Ne.symm hxz)
    have h3 : (z == y) = false := beq_eq_false_iff_ne.mpr (Ne.symm hyz)
    simp [List.eraseDups_cons, h1, h2, h3]
  have hn : ([Expr.Name x px, Expr.Name y py, Expr.Name z pz].filterMap fun
    | .Name id pos => if env.kindOf id == some .local && pos.line == px.line then some id else none
    | _ => none) = [x, y, z] := by
    simp [List.filterMap_cons, kx, ky, kz, hl, hl2]
  show (if (!([Expr.Name x px, Expr.Name y py, Expr.Name z pz].length == 2 || [Expr.Name x px, Expr.Name y py, Expr.Name z pz].length == 3) || [a, b, c].length != [Expr.Name x px, Expr.Name y py, Expr.Name z pz].length || env.blockKind != .function) = true then pure none else
    if anyStar [a, b, c] = true then pure none else
    if (([Expr.Name x px, Expr.Name y py, Expr.Name z pz].filterMap fun
    | .Name id pos => if env.kindOf id == some .local && pos.line == px.line then some id else none
    | _ => none).length != [Expr.Name x px, Expr.Name y py, Expr.Name z pz].length || ([Expr.Name x px, Expr.Name y py, Expr.Name z pz].filterMap fun
    | .Name id pos => if env.kindOf id == some .local && pos.line == px.line then some id else none
    | _ => none).eraseDups.length != ([Expr.Name x px, Expr.Name y py, Expr.Name z pz].filterMap fun
    | .Name id pos => if env.kindOf id == some .local && pos.line == px.line then some id else none
    | _ => none).length) = true then pure none else
    if [a, b, c].all (foldedForSure 8) = true then pure none else do
      if [a, b, c].all (constantsAlone 8) = true then unsupported "assign.tuple-of-constant-expressions:order-of-the-stores"
      return some ([Expr.Name x px, Expr.Name y py, Expr.Name z pz].filterMap fun
    | .Name id pos => if env.kindOf id == some .local && pos.line == px.line then some id else none
    | _ => none) : Sem (Option (List Str))) = _
  rw [hn, hbk, hs, hf, hc, e2]
  rfl
theorem parC_ok {sc : Scope} {xs : List Str} {ls : List Nat} {es : List Expr} (h : parC sc xs ls es = true) : (∀ x ∈ xs, sc.names.lookup x = some .local) ∧ (∀ l ∈ ls, l = ls.headD 0) ∧ xs.Nodup ∧ es.all plainE = true ∧ es.all (foldedForSure 8) = false ∧ es.all (constantsAlone 8) = false := by
  unfold parC at h
  simp only [Bool.and_eq_true, Bool.not_eq_true', decide_eq_true_eq] at h
  obtain ⟨⟨⟨⟨⟨h1, h2⟩, h3⟩, h4⟩, h5⟩, h6⟩ := h
  exact ⟨fun x hx => of_decide_eq_true (List.all_eq_true.mp h1 x hx), fun l hl => beq_iff_eq.mp (List.all_eq_true.mp h2 l hl), h3, h4, h5, h6⟩
section
variable {K : PySem.W.Frag} {C : Fc} {H H1 H2 : Hp} {F F1 F2 : Addr → Prop} {σ σ1 σ2 : L2.St} {d d1 d2 : DS}
variable {gcs : Nat → Option D} {cd : CallSem}
/-- what is wanted behind a statement -/
def OutK (K : PySem.W.Frag) (C : Fc) (E : Ends) (σ : L2.St) (H : Hp) (F : Addr → Prop) (d : DS) : Out → Prop
  | .nx => E.nx σ H
  | .bk => E.bk σ H
  | .ct => E.ct σ H
  | .rt r => ∀ v, RelRV K C.H0 H F σ d v r → E.rt v H
def GS (K : PySem.W.Frag) (ev : DS → R (Out × DS)) : TS := fun E σ H => ∃ C F d o d', SRel K C H F σ d ∧ ev d = .ok (o, d') ∧ ∀ σ' H' F', SRel K C H' F' σ' d' → SX H F H' F' → OutK K C E σ' H' F' d' o
theorem SX.ofExt (S : SRel K C H F σ d) (X : Ext H F σ d H1 F1 d1) : SX H F H1 F1 := X.sx S
theorem rs_nil (E : Ends) (h : GS K (evS gcs cd .nil) E σ H) : tNext E σ H := by
  obtain ⟨C, F, d, o, d', S, e, q⟩ := h
  rw [evS] at e
  cases e
  exact q σ H F S SX.refl
theorem rs_cons {a b : I} (E : Ends) (h : GS K (evS gcs cd (.cons a b)) E σ H) : tSeq (GS K (evS gcs cd a)) (GS K (evS gcs cd b)) E σ H := by
  obtain ⟨C, F, d, o, d', S, e, q⟩ := h
  rw [evS] at e
  obtain ⟨w, e1, e⟩ := R.bind_ok e
  obtain ⟨o1, d1⟩ := w
  refine ⟨C, F, d, o1, d1, S, e1, fun σ1 H1 F1 S1 X1 => ?_⟩
  cases o1 with
  | nx => exact ⟨C, F1, d1, o, d', S1, e, fun σ2 H2 F2 S2 X2 => q σ2 H2 F2 S2 (X1.trans X2)⟩
  | bk => cases e; exact q σ1 H1 F1 S1 X1
  | ct => cases e; exact q σ1 H1 F1 S1 X1
  | rt r => cases e; exact q σ1 H1 F1 S1 X1
theorem rs_set {i : Nat} {ow : Bool} {a : I} (E : Ends) (h : GS K (evS gcs cd (.set ow i a)) E σ H) : tAsg (GE K (evE gcs cd a)) (gName i) E σ H := by
  obtain ⟨C, F, d, o, d', S, e, q⟩ := h
  rw [evS] at e
  obtain ⟨re, e1, e⟩ := R.bind_ok e
  refine ⟨C, F, d, re.1, re.2, S, e1, fun v H1 F1 X1 S1 R1 => ?_⟩
  cases ow with
  | false =>
    obtain ⟨z, e2, e⟩ := R.bind_ok e
    split at e
    · rename_i hi
      cases e
      obtain ⟨F2, X2, S2, P2⟩ := RelRV.fz (x := z.1) (d2 := z.2) S X1 S1 R1 (R.opt_ok e2)
      exact q _ H1 F2 (S2.bind hi P2) (X2.sx S)
    · cases e
  | true =>
    dsimp only at e
    split at e
    · rename_i xs hre
      split at e
      · rename_i hi
        cases e
        rw [hre] at R1
        rcases R1 with ⟨hl, _⟩ | ⟨b, u, rfl, h1, r, nf, no, hs⟩
        · cases hl
        · have hiσ : i < σ.length := by rw [← S1.len]; exact hi
          have oth : ∀ (j : Nat) (p : Bool) (z : D), (re.2.set i (.own false (.list xs)))[j]? = some (.own p z) → (i = j ∧ p = false ∧ z = .list xs) ∨ (i ≠ j ∧ re.2[j]? = some (.own p z)) := fun j p z g => by
            rcases get_set g with ⟨g1, g, _⟩ | g
            · cases g; exact .inl ⟨g1, rfl, rfl⟩
            · exact .inr g
          have S3 : SRel K C H1 F1 (σ.set i (some (.ref b))) (re.2.set i (.own false (.list xs))) := by
            refine ⟨by rw [List.length_set, List.length_set]; exact S1.len, fun j z g => ?_, fun j p z g => ?_, fun j k p q y z a g1 g2 g3 g4 => ?_, S1.fdom, S1.fnew, S1.fsub, S1.frame, S1.dom⟩
            · rcases get_set g with ⟨_, g, _⟩ | ⟨ne, g⟩
              · cases g
              · obtain ⟨w, h3, h4⟩ := S1.imm j z g
                exact ⟨w, by rw [List.getElem?_set_ne ne]; exact h3, h4⟩
            · rcases oth j p z g with ⟨rfl, rfl, rfl⟩ | ⟨ne, g⟩
              · exact ⟨b, List.getElem?_set_self hiσ, ⟨nf, u, h1, r⟩, S.dom b hs⟩
              · obtain ⟨a, h3, h4, h5⟩ := S1.own j p z g
                exact ⟨a, by rw [List.getElem?_set_ne ne]; exact h3, h4, h5⟩
            · rcases oth j p y g1 with ⟨rfl, rfl, rfl⟩ | ⟨n1, g1⟩
              · rcases oth k q z g2 with ⟨rfl, rfl, rfl⟩ | ⟨n2, g2⟩
                · rfl
                · rw [List.getElem?_set_self hiσ] at g3
                  cases g3
                  rw [List.getElem?_set_ne n2] at g4
                  exact (no ⟨k, q, z, g2, g4⟩).elim
              · rw [List.getElem?_set_ne n1] at g3
                rcases oth k q z g2 with ⟨rfl, rfl, rfl⟩ | ⟨n2, g2⟩
                · rw [List.getElem?_set_self hiσ] at g4
                  cases g4
                  exact (no ⟨j, p, y, g1, g3⟩).elim
                · rw [List.getElem?_set_ne n2] at g4
                  exact S1.inj j k p q y z a g1 g2 g3 g4
          exact q _ H1 F1 S3 (X1.sx S)
      · cases e
    · rename_i es hre
      split at e
      · rename_i hi
        cases e
        rw [hre] at R1
        rcases R1 with ⟨hl, _⟩ | ⟨b, u, rfl, h1, r, nf, no, hs⟩
        · cases hl
        · have hiσ : i < σ.length := by rw [← S1.len]; exact hi
          have oth : ∀ (j : Nat) (p : Bool) (z : D), (re.2.set i (.own false (dctT es)))[j]? = some (.own p z) → (i = j ∧ p = false ∧ z = dctT es) ∨ (i ≠ j ∧ re.2[j]? = some (.own p z)) := fun j p z g => by
            rcases get_set g with ⟨g1, g, _⟩ | g
            · cases g; exact .inl ⟨g1, rfl, rfl⟩
            · exact .inr g
          have S3 : SRel K C H1 F1 (σ.set i (some (.ref b))) (re.2.set i (.own false (dctT es))) := by
            refine ⟨by rw [List.length_set, List.length_set]; exact S1.len, fun j z g => ?_, fun j p z g => ?_, fun j k p q y z a g1 g2 g3 g4 => ?_, S1.fdom, S1.fnew, S1.fsub, S1.frame, S1.dom⟩
            · rcases get_set g with ⟨_, g, _⟩ | ⟨ne, g⟩
              · cases g
              · obtain ⟨w, h3, h4⟩ := S1.imm j z g
                exact ⟨w, by rw [List.getElem?_set_ne ne]; exact h3, h4⟩
            · rcases oth j p z g with ⟨rfl, rfl, rfl⟩ | ⟨ne, g⟩
              · exact ⟨b, List.getElem?_set_self hiσ, ⟨nf, u, h1, r⟩, S.dom b hs⟩
              · obtain ⟨a, h3, h4, h5⟩ := S1.own j p z g
                exact ⟨a, by rw [List.getElem?_set_ne ne]; exact h3, h4, h5⟩
            · rcases oth j p y g1 with ⟨rfl, rfl, rfl⟩ | ⟨n1, g1⟩
              · rcases oth k q z g2 with ⟨rfl, rfl, rfl⟩ | ⟨n2, g2⟩
                · rfl
                · rw [List.getElem?_set_self hiσ] at g3
                  cases g3
                  rw [List.getElem?_set_ne n2] at g4
                  exact (no ⟨k, q, z, g2, g4⟩).elim
              · rw [List.getElem?_set_ne n1] at g3
                rcases oth k q z g2 with ⟨rfl, rfl, rfl⟩ | ⟨n2, g2⟩
                · rw [List.getElem?_set_self hiσ] at g4
                  cases g4
                  exact (no ⟨j, p, y, g1, g3⟩).elim
                · rw [List.getElem?_set_ne n2] at g4
                  exact S1.inj j k p q y z a g1 g2 g3 g4
          exact q _ H1 F1 S3 (X1.sx S)
      · cases e
    · cases e
theorem rs_setp {p a : I} (E : Ends) (h : GS K (evS gcs cd (.setp p a)) E σ H) : tAsg (GE K (evE gcs cd a)) (GP K p) E σ H := by
  obtain ⟨C, F, d, o, d', S, e, q⟩ := h
  rw [evS] at e
  obtain ⟨re, e1, e⟩ := R.bind_ok e
  obtain ⟨z, e2, e⟩ := R.bind_ok e
  obtain ⟨d3, e3, e⟩ := R.bind_ok e
  cases e
  refine ⟨C, F, d, re.1, re.2, S, e1, fun v H1 F1 X1 S1 R1 => ?_⟩
  obtain ⟨F2, X2, S2, P2⟩ := RelRV.fz (x := z.1) (d2 := z.2) S X1 S1 R1 (R.opt_ok e2)
  exact ⟨C, F2, z.2, z.1, d', S2, RpP.of P2, e3, fun σ' S' _ => q σ' H1 F2 S' (X2.sx S)⟩
theorem parT_cons {T : Tc} {sc : Scope} {x : Str} {r : List Str} {t : I} (h : parT T sc (x :: r) = some t) : ∃ i b, slotL T sc x = some i ∧ parT T sc r = some b ∧ t = .cons (.var i) b := by
  obtain ⟨i, h1, h2⟩ := Option.bind_eq_some_iff.mp (show (slotL T sc x).bind _ = some t from h)
  obtain ⟨b, h3, h4⟩ := Option.map_eq_some_iff.mp h2
  exact ⟨i, b, h1, h3, h4.symm⟩
theorem bindPs_var {i : Nat} {ps : I} {xs : List D} {d d' : DS} (h : bindPs (.cons (.var i) ps) xs d = .ok d') : ∃ x r, xs = x :: r ∧ i < d.length ∧ bindPs ps r (d.set i (.imm x)) = .ok d' := by
  cases xs with
  | nil => cases h
  | cons x r =>
    rw [bindPs] at h
    obtain ⟨d1, h1, h2⟩ := R.bind_ok h
    rw [bindP] at h1
    split at h1
    · rename_i hi
      cases h1
      exact ⟨x, r, rfl, hi, h2⟩
    · cases h1
theorem bindPs_nil' {xs : List D} {d d' : DS} (h : bindPs .nil xs d = .ok d') : xs = [] ∧ d' = d := by
  cases xs with
  | nil => cases h; exact ⟨rfl, rfl⟩
  | cons => cases h
theorem par_ev {as t : I} {d : DS} {o : Out} {d' : DS} (e : evS gcs cd (.setp (.tup t) (.tup as)) d = .ok (o, d')) : ∃ r, evL gcs cd as d = .ok r ∧ bindPs t r.1 r.2 = .ok d' ∧ o = .nx := by
  rw [evS] at e
  obtain ⟨re, e1, e⟩ := R.bind_ok e
  obtain ⟨z, e2, e⟩ := R.bind_ok e
  obtain ⟨d3, e3, e⟩ := R.bind_ok e
  cases e
  rw [evE] at e1
  obtain ⟨r, e4, e1⟩ := R.bind_ok e1
  split at e1
  · cases e1
    have e2 := R.opt_ok e2
    cases e2
    exact ⟨r, e4, e3, rfl⟩
  · cases e1
theorem rs_par {i j : Nat} {as : I} (E : Ends) (h : GS K (evS gcs cd (.setp (.tup (.cons (.var i) (.cons (.var j) .nil))) (.tup as))) E σ H) : tPar i j (GL K (evL gcs cd as)) E σ H := by
  obtain ⟨C, F, d, o, d', S, e, q⟩ := h
  obtain ⟨r, e1, e2, rfl⟩ := par_ev e
  refine ⟨C, F, d, r.1, r.2, S, e1, fun vs H1 F1 X1 S1 R1 => ?_⟩
  obtain ⟨x, r1, h1, hi, e2⟩ := bindPs_var e2
  obtain ⟨y, r2, h2, hj, e2⟩ := bindPs_var e2
  obtain ⟨h3, h4⟩ := bindPs_nil' e2
  subst h3 h2
  rw [h1] at R1
  cases R1 with
  | cons p1 R1 =>
    cases R1 with
    | cons p2 R1 =>
      cases R1
      refine ⟨_, _, rfl, q _ H1 F1 ?_ (X1.sx S)⟩
      rw [h4]
      exact (S1.bind hi p1).bind hj p2
theorem rs_par3 {i j l : Nat} {as : I} (E : Ends) (h : GS K (evS gcs cd (.setp (.tup (.cons (.var i) (.cons (.var j) (.cons (.var l) .nil)))) (.tup as))) E σ H) : tPar3 i j l (GL K (evL gcs cd as)) E σ H := by
  obtain ⟨C, F, d, o, d', S, e, q⟩ := h
  obtain ⟨r, e1, e2, rfl⟩ := par_ev e
  refine ⟨C, F, d, r.1, r.2, S, e1, fun vs H1 F1 X1 S1 R1 => ?_⟩
  obtain ⟨x, r1, h1, hi, e2⟩ := bindPs_var e2
  obtain ⟨y, r2, h2, hj, e2⟩ := bindPs_var e2
  obtain ⟨z, r3, h5, hl, e2⟩ := bindPs_var e2
  obtain ⟨h3, h4⟩ := bindPs_nil' e2
  subst h3 h5 h2
  rw [h1] at R1
  cases R1 with
  | cons p1 R1 =>
    cases R1 with
    | cons p2 R1 =>
      cases R1 with
      | cons p3 R1 =>
        cases R1
        refine ⟨_, _, _, rfl, q _ H1 F1 ?_ (X1.sx S)⟩
        rw [h4]
        exact ((S1.bind hi p1).bind hj p2).bind hl p3
/-- an own list is changed -/
theorem SRel.writeO {i : Nat} {p : Bool} {x : D} {a : Addr} {u : HO} {y : D} (S : SRel K C H F σ d) (e : d[i]? = some (.own p x)) (ha : σ[i]? = some (some (.ref a))) (r : ObR K H F u y) :
    Ext H F σ d (upd H a u) F (d.set i (.own p y)) ∧ SRel K C (upd H a u) F σ (d.set i (.own p y)) := by
  have hi : i < d.length := (List.getElem?_eq_some_iff.mp e).1
  obtain ⟨b, h1, ⟨nf, o0, h2, h3⟩, h4⟩ := S.own i p x e
  rw [ha] at h1; cases h1
  have oa : Own σ d a := ⟨i, p, x, e, ha⟩
  have sx : SX H F (upd H a u) F := SX.other2 h2 (fun xs => h3.noTup) (fun b w => h3.noFrz) nf
  have oth : ∀ (j : Nat) (p' : Bool) (z : D), (d.set i (.own p y))[j]? = some (.own p' z) → (i = j ∧ p' = p ∧ z = y) ∨ (i ≠ j ∧ d[j]? = some (.own p' z)) := fun j p' z g => by
    rcases get_set g with ⟨g1, g, _⟩ | g
    · cases g; exact .inl ⟨g1, rfl, rfl⟩
    · exact .inr g
  refine S.step (List.length_set ..) (fun j z => ⟨fun g => ?_, fun g => ?_⟩) (fun j g => ?_) (fun j p' z c g1 g2 => ?_) (fun j p' z g => ?_) (fun c u h n => ?_) (fun c h => ?_) (fun _ h => h) (fun _ h => .inl h) (fun c f => ?_) (fun c u h0 hM h => ?_)
  · rcases get_set g with ⟨_, g, _⟩ | ⟨_, g⟩
    · cases g
    · exact g
  · by_cases ej : i = j
    · subst ej; rw [e] at g; cases g
    · rw [List.getElem?_set_ne ej]; exact g
  · by_cases ej : i = j
    · subst ej; rw [e] at g; cases g
    · rw [List.getElem?_set_ne ej]; exact g
  · rcases oth j p' z g1 with ⟨rfl, rfl, rfl⟩ | ⟨ne, g⟩
    · rw [ha] at g2; cases g2
      exact ⟨⟨x, e⟩, nf, u, upd_same, r.mono sx⟩
    · refine ⟨⟨z, g⟩, ?_⟩
      obtain ⟨c', h5, ⟨nf', o', h6, h7⟩, _⟩ := S.own j p' z g
      rw [g2] at h5; cases h5
      refine ⟨nf', o', ?_, h7.mono sx⟩
      rw [upd_ne (fun (z : c = a) => ne (S.inj i j _ _ _ _ a e g ha (by rw [← z]; exact g2)))]
      exact h6
  · rcases oth j p' z g with ⟨rfl, rfl, rfl⟩ | ⟨ne, g⟩
    · exact ⟨x, e⟩
    · exact ⟨z, g⟩
  · rw [upd_ne (fun (z : c = a) => n (by rw [z]; exact oa))]; exact h
  · by_cases hc : c = a
    · rw [hc, upd_same] at h; cases h
    · rw [upd_ne hc] at h; exact h
  · by_cases hc : c = a
    · rw [hc, upd_same]; intro z; cases z
    · rw [upd_ne hc]; exact S.fdom c f
  · rw [upd_ne ?_]
    · exact h
    · intro z
      rw [z] at h0 hM
      cases p with
      | true => exact hM i h4
      | false =>
        have h4' : C.H0 a = none := h4
        rw [h0] at h4'; cases h4'
theorem SRel.write {i : Nat} {p : Bool} {x : D} {a : Addr} {ws : List V} {ds : List D} (S : SRel K C H F σ d) (e : d[i]? = some (.own p x)) (ha : σ[i]? = some (some (.ref a))) (r : RpAll K H F ws ds) :
    Ext H F σ d (upd H a (.lst ws)) F (d.set i (.own p (.list ds))) ∧ SRel K C (upd H a (.lst ws)) F σ (d.set i (.own p (.list ds))) := S.writeO e ha (.lst r)
theorem isOwn_of {i : Nat} (h : isOwn d i = true) : ∃ p xs, d[i]? = some (.own p (.list xs)) := by
  unfold isOwn at h
  split at h
  · rename_i p x e; exact ⟨p, x, e⟩
  · cases h
theorem isOwnD_of {i : Nat} (h : isOwnD d i = true) : ∃ p x, d[i]? = some (.own p x) := by
  unfold isOwnD at h
  split at h
  · rename_i p x e; exact ⟨p, _, e⟩
  · cases h
theorem rs_dput {i : Nat} {k a : I} (E : Ends) (h : GS K (evS gcs cd (.dput i k a)) E σ H) : sDPut (tVar i) (tTup (GB K (evB gcs cd k))) (GE K (evE gcs cd a)) E σ H := by
  obtain ⟨C, F, d, o, d', S, e, q⟩ := h
  rw [evS] at e
  obtain ⟨re, e1, e⟩ := R.bind_ok e
  obtain ⟨z, e2, e⟩ := R.bind_ok e
  split at e
  · rename_i hown
    obtain ⟨r, e3, e⟩ := R.bind_ok e
    obtain ⟨xs, e4, e⟩ := R.bind_ok e
    obtain ⟨kk, e5, e⟩ := R.bind_ok e
    split at e
    · rename_i hkl
      split at e
      · rename_i p es hz
        split at e
        · rename_i hl
          cases e
          obtain ⟨p0, x, hx⟩ := isOwnD_of hown
          refine ⟨C, F, d, re.1, re.2, S, e1, fun v H1 F1 X1 S1 R1 => ?_⟩
          obtain ⟨F2, X2, S2, P2⟩ := RelRV.fz (x := z.1) (d2 := z.2) S X1 S1 R1 (R.opt_ok e2)
          obtain ⟨b, h1, _, _⟩ := S2.own i p0 _ hx
          refine ⟨.ref b, h1, C, F2, z.2, r.1, r.2, S2, e3, fun vs H3 F3 X3 S3 P => ?_⟩
          have hvs := (P.opd S3 (R.opt_ok e4)).ints (R.opt_ok e5)
          subst hvs
          refine ⟨by rw [List.length_map]; exact hkl, fun pp hp => ?_⟩
          have g := grow_upd (o := HO.tup (kk.map V.int)) hp
          have S4 := S3.grow g
          obtain ⟨b', g1, ⟨nf', o1, g2, g3⟩, g4⟩ := S4.own i p _ hz
          rw [h1] at g1; cases g1
          cases g3 with
          | dct da =>
            refine ⟨b, _, rfl, .inr ⟨_, kk.map Sum.inl, pp, g2, rfl, by rw [upd_same, keys_v], by rw [da.length]; exact hl, rfl⟩, ?_⟩
            have P4 := Rp.mono (SX.grow g) _ _ (Rp.mono (X3.sx S2) _ _ P2)
            obtain ⟨X5, S5⟩ := S4.writeO hz h1 (.dct (da.put P4))
            exact q σ _ F3 S5 (((X2.trans X3).trans (Ext.pure g)).trans X5 |>.sx S)
        · cases e
      · cases e
    · cases e
  · cases e
theorem rs_app {i : Nat} {a : I} (E : Ends) (h : GS K (evS gcs cd (.app i a)) E σ H) : tDrop (tBM K "list" rAppend (tVar i) (tCons (GE K (evE gcs cd a)) tNil)) E σ H := by
  obtain ⟨C, F, d, o, d', S, e, q⟩ := h
  rw [evS] at e
  split at e
  · rename_i hown
    obtain ⟨re, e1, e⟩ := R.bind_ok e
    obtain ⟨z, e2, e⟩ := R.bind_ok e
    split at e
    · rename_i p xs hz
      split at e
      · rename_i hl
        cases e
        have e2' := R.opt_ok e2
        obtain ⟨p0, x, hx⟩ := isOwn_of hown
        obtain ⟨b, h1, ⟨nf, o0, h2, h3⟩, h4⟩ := S.own i p0 _ hx
        obtain ⟨vs, rfl, _⟩ := h3.list
        refine ⟨.ref b, h1, .inl ⟨rfl, vs, .inl (.inl h2)⟩, C, F, d, re.1, re.2, S, e1, fun v H1 F1 X1 S1 R1 => ?_⟩
        obtain ⟨F2, X2, S2, P2⟩ := RelRV.fz (x := z.1) (d2 := z.2) S X1 S1 R1 e2'
        obtain ⟨b', g1, ⟨nf', o1, g2, g3'⟩, g4⟩ := S2.own i p _ hz
        rw [h1] at g1; cases g1
        obtain ⟨vs', rfl, g3⟩ := g3'.list
        refine ⟨b, vs', v, rfl, rfl, g2, by rw [g3.length]; exact hl, ?_⟩
        obtain ⟨X3, S3⟩ := S2.write hz h1 (g3.append (.cons P2 .nil))
        exact q σ _ F2 S3 ((X2.trans X3).sx S)
      · cases e
    · cases e
  · cases e
theorem rs_ext {i : Nat} {a : I} (E : Ends) (h : GS K (evS gcs cd (.ext i a)) E σ H) : tDrop (tBM K "list" rExtend (tVar i) (tCons (GE K (evE gcs cd a)) tNil)) E σ H := by
  obtain ⟨C, F, d, o, d', S, e, q⟩ := h
  rw [evS] at e
  split at e
  · rename_i hown
    obtain ⟨re, e1, e⟩ := R.bind_ok e
    obtain ⟨z, e2, e⟩ := R.bind_ok e
    split at e
    · rename_i p xs ys hz hy
      split at e
      · rename_i hl
        cases e
        have e2' := R.opt_ok e2
        obtain ⟨p0, x, hx⟩ := isOwn_of hown
        obtain ⟨b, h1, ⟨nf, o0, h2, h3⟩, h4⟩ := S.own i p0 _ hx
        obtain ⟨vs, rfl, _⟩ := h3.list
        refine ⟨.ref b, h1, .inl ⟨rfl, vs, .inl (.inl h2)⟩, C, F, d, re.1, re.2, S, e1, fun v H1 F1 X1 S1 R1 => ?_⟩
        obtain ⟨F2, X2, S2, P2⟩ := RelRV.fz (x := z.1) (d2 := z.2) S X1 S1 R1 e2'
        obtain ⟨b', g1, ⟨nf', o1, g2, g3'⟩, g4⟩ := S2.own i p _ hz
        rw [h1] at g1; cases g1
        obtain ⟨vs', rfl, g3⟩ := g3'.list
        rw [hy] at P2
        cases P2 with
        | lst f hc r =>
          refine ⟨b, _, vs', _, rfl, rfl, g2, hc, by rw [g3.length, r.length]; exact hl, ?_⟩
          obtain ⟨X3, S3⟩ := S2.write hz h1 (g3.append r)
          exact q σ _ F2 S3 ((X2.trans X3).sx S)
      · cases e
    · cases e
  · cases e
theorem rs_seti {i : Nat} {k a : I} (E : Ends) (h : GS K (evS gcs cd (.seti i k a)) E σ H) : tAsg (GE K (evE gcs cd a)) (gSub (tVar i) (GE K (evE gcs cd k)) rSetL) E σ H := by
  obtain ⟨C, F, d, o, d', S, e, q⟩ := h
  rw [evS] at e
  obtain ⟨re, e1, e⟩ := R.bind_ok e
  obtain ⟨z, e2, e⟩ := R.bind_ok e
  split at e
  · rename_i hown
    obtain ⟨rk, e3, e⟩ := R.bind_ok e
    obtain ⟨y, e4, e⟩ := R.bind_ok e
    obtain ⟨j, e5, e⟩ := R.bind_ok e
    split at e
    · rename_i p xs hz
      split at e
      · rename_i m hm
        cases e
        obtain ⟨p0, x, hx⟩ := isOwn_of hown
        refine ⟨C, F, d, re.1, re.2, S, e1, fun v H1 F1 X1 S1 R1 => ?_⟩
        obtain ⟨F2, X2, S2, P2⟩ := RelRV.fz (x := z.1) (d2 := z.2) S X1 S1 R1 (R.opt_ok e2)
        obtain ⟨b, h1, ⟨nf, o0, h2, h3⟩, h4⟩ := S2.own i p0 _ hx
        refine ⟨.ref b, h1, C, F2, z.2, rk.1, rk.2, S2, e3, fun w H3 F3 X3 S3 R3 => ?_⟩
        have hw := R3.opd S3 (R.opt_ok e4)
        rw [ofInt_ok (R.opt_ok e5)] at hw
        obtain ⟨b', g1, ⟨nf', o1, g2, g3'⟩, g4⟩ := S3.own i p _ hz
        rw [h1] at g1; cases g1
        obtain ⟨vs', rfl, g3⟩ := g3'.list
        refine ⟨b, vs', j, m, rfl, hw.int, g2, by rw [g3.length]; exact hm, ?_⟩
        obtain ⟨X4, S4⟩ := S3.write hz h1 (RpAll.set (Rp.mono (X3.sx S2) _ _ P2) m g3)
        exact q σ _ F3 S4 (((X2.trans X3).trans X4).sx S)
      · cases e
    · cases e
  · cases e
theorem rs_augA {i : Nat} {a : I} (E : Ends) (h : GS K (evS gcs cd (.aug i .add a)) E σ H) : tAug i (GE K (evE gcs cd a)) (ipI fun i j => i + j) E σ H := by
  obtain ⟨C, F, d, o, d', S, e, q⟩ := h
  rw [evS] at e
  split at e
  · rename_i x hx
    obtain ⟨re, e1, e⟩ := R.bind_ok e
    obtain ⟨y, e2, e⟩ := R.bind_ok e
    obtain ⟨r, e3, e⟩ := R.bind_ok e
    obtain ⟨v, h1, h2⟩ := S.imm i x hx
    have e3' := R.opt_ok e3
    split at e
    · rename_i hi
      cases e
      cases x with
      | int m =>
        cases y with
        | int n =>
          cases e3'
          cases h2
          refine ⟨_, h1, C, F, d, re.1, re.2, S, e1, fun w H1 F1 X1 S1 R1 => ⟨m, n, rfl, (R1.opd S1 (R.opt_ok e2)).int, ?_⟩⟩
          exact q _ H1 F1 (S1.bind hi (.int _)) (X1.sx S)
        | _ => cases e3'
      | _ => cases e3'
    · cases e
  · cases e
theorem rs_augS {i : Nat} {a : I} (E : Ends) (h : GS K (evS gcs cd (.aug i .sub a)) E σ H) : tAug i (GE K (evE gcs cd a)) (ipI fun i j => i - j) E σ H := by
  obtain ⟨C, F, d, o, d', S, e, q⟩ := h
  rw [evS] at e
  split at e
  · rename_i x hx
    obtain ⟨re, e1, e⟩ := R.bind_ok e
    obtain ⟨y, e2, e⟩ := R.bind_ok e
    obtain ⟨r, e3, e⟩ := R.bind_ok e
    obtain ⟨v, h1, h2⟩ := S.imm i x hx
    have e3' := R.opt_ok e3
    split at e
    · rename_i hi
      cases e
      cases x with
      | int m =>
        cases y with
        | int n =>
          cases e3'
          cases h2
          refine ⟨_, h1, C, F, d, re.1, re.2, S, e1, fun w H1 F1 X1 S1 R1 => ⟨m, n, rfl, (R1.opd S1 (R.opt_ok e2)).int, ?_⟩⟩
          exact q _ H1 F1 (S1.bind hi (.int _)) (X1.sx S)
        | _ => cases e3'
      | _ => cases e3'
    · cases e
  · cases e
theorem rs_ret {a : I} (E : Ends) (h : GS K (evS gcs cd (.ret a)) E σ H) : tRet (GE K (evE gcs cd a)) E σ H := by
  obtain ⟨C, F, d, o, d', S, e, q⟩ := h
  rw [evS] at e
  obtain ⟨re, e1, e⟩ := R.bind_ok e
  cases e
  exact ⟨C, F, d, re.1, re.2, S, e1, fun v H1 F1 X1 S1 R1 => q σ H1 F1 S1 (X1.sx S) v (R1.hs S.dom)⟩
theorem rs_drop {a : I} (E : Ends) (h : GS K (evS gcs cd (.drop a)) E σ H) : tDrop (GE K (evE gcs cd a)) E σ H := by
  obtain ⟨C, F, d, o, d', S, e, q⟩ := h
  rw [evS] at e
  obtain ⟨re, e1, e⟩ := R.bind_ok e
  cases e
  exact ⟨C, F, d, re.1, re.2, S, e1, fun v H1 F1 X1 S1 R1 => q σ H1 F1 S1 (X1.sx S)⟩
theorem fm_lt {α β : Type} {f : α → Option β} : ∀ {l : List α}, (∃ a ∈ l, f a = none) → (l.filterMap f).length < l.length
  | [], h => by obtain ⟨a, h, _⟩ := h; cases h
  | x :: r, h => by
    have hle : (r.filterMap f).length ≤ r.length := List.length_filterMap_le f r
    rw [List.filterMap_cons]
    cases e : f x with
    | none => dsimp only; rw [List.length_cons]; omega
    | some y =>
      obtain ⟨a, ha, hf⟩ := h
      rcases List.mem_cons.mp ha with rfl | ha
      · rw [e] at hf; cases hf
      · have := fm_lt ⟨a, ha, hf⟩
        dsimp only
        rw [List.length_cons, List.length_cons]
        omega
theorem sw_no {env : Env} {sc : Scope} {es vs : List Expr} {kt k2 : Nat} {pt pt2 : Pos} (hl : ∀ x, sc.names.lookup x = some .cell → env.scope.names.lookup x = some .cell) (h : swapNo sc es = true) : swappedStores [.Tuple es kt pt] (.Tuple vs k2 pt2) env = pure none := by
  show (if (!(es.length == 2 || es.length == 3) || vs.length != es.length || env.blockKind != .function) = true then pure none else
    if anyStar vs = true then pure none else
    if ((es.filterMap fun
    | .Name id pos => if env.kindOf id == some .local && pos.line == (es.head?.map (·.pos.line)).getD 0 then some id else none
    | _ => none).length != es.length || (es.filterMap fun
    | .Name id pos => if env.kindOf id == some .local && pos.line == (es.head?.map (·.pos.line)).getD 0 then some id else none
    | _ => none).eraseDups.length != (es.filterMap fun
    | .Name id pos => if env.kindOf id == some .local && pos.line == (es.head?.map (·.pos.line)).getD 0 then some id else none
    | _ => none).length) = true then pure none else
    if vs.all (foldedForSure 8) = true then pure none else do
      if vs.all (constantsAlone 8) = true then unsupported "assign.tuple-of-constant-expressions:order-of-the-stores"
      return some (es.filterMap fun
    | .Name id pos => if env.kindOf id == some .local && pos.line == (es.head?.map (·.pos.line)).getD 0 then some id else none
    | _ => none) : Sem (Option (List Str))) = _
  by_cases c1 : (!(es.length == 2 || es.length == 3) || vs.length != es.length || env.blockKind != .function) = true
  · rw [if_pos c1]
  rw [if_neg c1]
  by_cases c2 : anyStar vs = true
  · rw [if_pos c2]
  rw [if_neg c2, if_pos]
  rw [Bool.or_eq_true]
  left
  rw [bne_iff_ne]
  refine Nat.ne_of_lt (fm_lt ?_)
  unfold swapNo at h
  rcases Bool.or_eq_true _ _ ▸ h with h | h
  · have h := of_decide_eq_true h
    exfalso
    apply c1
    have e1 : (es.length == 2) = false := beq_eq_false_iff_ne.mpr (by omega)
    have e2 : (es.length == 3) = false := beq_eq_false_iff_ne.mpr (by omega)
    rw [e1, e2]; rfl
  · obtain ⟨e, he, h⟩ := List.any_eq_true.mp h
    refine ⟨e, he, ?_⟩
    cases e with
    | Name x p =>
      have hk : env.kindOf x = some .cell := hl x (of_decide_eq_true h)
      show (if (env.kindOf x == some NameKind.local && _) = true then some x else none) = none
      rw [hk]; rfl
    | _ => rfl
theorem sw_fold {env : Env} {es vs : List Expr} {kt k2 : Nat} {pt pt2 : Pos} (h : vs.all (foldedForSure 8) = true) : swappedStores [.Tuple es kt pt] (.Tuple vs k2 pt2) env = pure none := by
  show (if (!(es.length == 2 || es.length == 3) || vs.length != es.length || env.blockKind != .function) = true then pure none else
    if anyStar vs = true then pure none else if _ then pure none else if vs.all (foldedForSure 8) = true then pure none else _ : Sem (Option (List Str))) = _
  rw [if_pos h]
  split
  · rfl
  split
  · rfl
  split <;> rfl
theorem tupNo_sw {env : Env} {sc : Scope} {es : List Expr} {e : Expr} {kt : Nat} {pt : Pos} (hl : ∀ x, sc.names.lookup x = some .cell → env.scope.names.lookup x = some .cell) (h : tupNo sc es e = false) : swappedStores [.Tuple es kt pt] e env = pure none := by
  cases e with
  | Tuple vs k2 p2 =>
    have h : (!(swapNo sc es || vs.all (foldedForSure 8))) = false := h
    rw [Bool.not_eq_false', Bool.or_eq_true] at h
    rcases h with h | h
    · exact sw_no hl h
    · exact sw_fold h
  | _ => rfl
theorem rs_if {c a b : I} (E : Ends) (h : GS K (evS gcs cd (.ife c a b)) E σ H) : tIfS (GT K (evE gcs cd c)) (GS K (evS gcs cd a)) (GS K (evS gcs cd b)) E σ H := by
  obtain ⟨C, F, d, o, d', S, e, q⟩ := h
  rw [evS] at e
  obtain ⟨rc, e1, e⟩ := R.bind_ok e
  obtain ⟨k, e2, e3⟩ := R.bind_ok e
  have e2' := R.opt_ok e2
  cases qo : opd rc.2 rc.1 with
  | none => rw [qo] at e2'; cases e2'
  | some xk =>
    rw [qo] at e2'
    cases ofBool_ok e2'
    refine ⟨C, F, d, rc.1, rc.2, k, S, e1, qo, fun H1 F1 X1 S1 => ?_⟩
    cases k with
    | true => exact iteT ⟨C, F1, rc.2, o, d', S1, e3, fun σ' H2 F2 S2 X2 => q σ' H2 F2 S2 ((X1.sx S).trans X2)⟩
    | false => exact iteF ⟨C, F1, rc.2, o, d', S1, e3, fun σ' H2 F2 S2 X2 => q σ' H2 F2 S2 ((X1.sx S).trans X2)⟩
theorem rs_whl {c b : I} (E : Ends) (h : GS K (evS gcs cd (.whl c b)) E σ H) : tWhile (GT K (evE gcs cd c)) (GS K (evS gcs cd b)) E σ H := by
  obtain ⟨C, F, d, o, d', S, e, q⟩ := h
  rw [evS] at e
  obtain ⟨n, e⟩ := whileR_ok e
  refine ⟨fun m σ1 H1 => ∃ F1 d1, SRel K C H1 F1 σ1 d1 ∧ SX H F H1 F1 ∧ loopW _ _ m d1 = .ok (o, d'), ⟨n, F, d, S, SX.refl, e⟩, ?_⟩
  rintro m σ1 H1 ⟨F1, d1, S1, X1, e⟩
  cases m with
  | zero => cases e
  | succ m =>
    rw [loopW] at e
    obtain ⟨⟨k, d2⟩, e1, e3⟩ := R.bind_ok e
    obtain ⟨rc, e4, e5⟩ := R.bind_ok e1
    obtain ⟨k', e6, e7⟩ := R.bind_ok e5
    cases e7
    have e6' := R.opt_ok e6
    cases qo : opd rc.2 rc.1 with
    | none => rw [qo] at e6'; cases e6'
    | some xk =>
      rw [qo] at e6'
      cases ofBool_ok e6'
      refine ⟨C, F1, d1, rc.1, rc.2, k, S1, e4, qo, fun H2 F2 X2 S2 => ?_⟩
      have X12 := X1.trans (X2.sx S1)
      cases k with
      | false =>
        refine iteF ?_
        cases e3
        exact q σ1 H2 F2 S2 X12
      | true =>
        refine iteT ⟨fun σ' H' => ∃ F' d1, SRel K C H' F' σ' d1 ∧ SX H F H' F' ∧ loopW _ _ m d1 = .ok (o, d'), fun σ' H' h => ⟨m, Nat.lt_succ_self m, h⟩, ?_⟩
        dsimp only at e3
        obtain ⟨⟨o2, d3⟩, e8, e9⟩ := R.bind_ok e3
        refine ⟨C, F2, rc.2, o2, d3, S2, e8, fun σ3 H3 F3 S3 X3 => ?_⟩
        have X13 := X12.trans X3
        cases o2 with
        | nx => exact ⟨F3, d3, S3, X13, e9⟩
        | ct => exact ⟨F3, d3, S3, X13, e9⟩
        | bk => cases e9; exact q σ3 H3 F3 S3 X13
        | rt r => cases e9; exact q σ3 H3 F3 S3 X13
theorem rs_for {p it b : I} (E : Ends) (h : GS K (evS gcs cd (.for_ p it b)) E σ H) : tFor (GI K p (evI gcs cd it)) (GP K p) (GS K (evS gcs cd b)) E σ H := by
  obtain ⟨C, F, d, o, d', S, e, q⟩ := h
  rw [evS] at e
  obtain ⟨r, e1, e⟩ := R.bind_ok e
  refine ⟨C, F, d, r.1, r.2, S, e1, fun J H1 F1 X1 S1 IO => ?_⟩
  have X01 := X1.sx S
  refine ⟨fun i m σ2 H2 => ∃ F2 d2, m = r.1.length - i ∧ i ≤ r.1.length ∧ SRel K C H2 F2 σ2 d2 ∧ SX H F H2 F2 ∧ SX H1 F1 H2 F2 ∧ loopF _ (r.1.drop i) d2 = .ok (o, d'), ⟨_, F1, r.2, rfl, Nat.zero_le _, S1, X01, SX.refl, e⟩, ?_⟩
  rintro i m σ2 H2 ⟨F2, d2, rfl, hi, S2, X02, X12, e⟩
  have IO2 := IO H2 F2 X12 i
  by_cases hlt : i < r.1.length
  · have hx : r.1[i]? = some (r.1[i]'hlt) := List.getElem?_eq_getElem hlt
    rw [List.drop_eq_getElem_cons hlt, loopF] at e
    obtain ⟨⟨o3, d3⟩, e3, e4⟩ := R.bind_ok e
    obtain ⟨d4, e5, e6⟩ := R.bind_ok e3
    obtain ⟨hgo, hy⟩ := IO2.1 _ hx
    refine .inr ⟨hgo, fun σ' H' => ∃ F' d2, i + 1 ≤ r.1.length ∧ SRel K C H' F' σ' d2 ∧ SX H F H' F' ∧ SX H1 F1 H' F' ∧ loopF _ (r.1.drop (i + 1)) d2 = .ok (o, d'), fun σ' H' ⟨F', d5, g1, g2⟩ => ⟨_, by omega, F', d5, rfl, g1, g2⟩, fun v H3 hv => ?_⟩
    obtain ⟨gr, rp⟩ := hy v H3 hv
    have S3 := S2.grow gr
    refine ⟨C, F2, d2, _, d4, S3, rp, e5, fun σ4 S4 _ => ⟨C, F2, d4, o3, d3, S4, e6, fun σ5 H5 F5 S5 X5 => ?_⟩⟩
    have X25 : SX H2 F2 H5 F5 := (SX.grow gr).trans X5
    have X05 := X02.trans X25
    cases o3 with
    | nx => exact ⟨F5, d3, hlt, S5, X05, X12.trans X25, e4⟩
    | ct => exact ⟨F5, d3, hlt, S5, X05, X12.trans X25, e4⟩
    | bk => cases e4; exact q σ5 H5 F5 S5 X05
    | rt r => cases e4; exact q σ5 H5 F5 S5 X05
  · have hie : i = r.1.length := by omega
    subst hie
    rw [List.drop_length, loopF] at e
    cases e
    exact .inl ⟨IO2.2 (Nat.le_refl _), q σ2 H2 F2 S2 X02⟩
theorem rs_brk (E : Ends) (h : GS K (evS gcs cd .brk) E σ H) : tBreak E σ H := by
  obtain ⟨C, F, d, o, d', S, e, q⟩ := h
  rw [evS] at e
  cases e
  exact q σ H F S SX.refl
theorem rs_cnt (E : Ends) (h : GS K (evS gcs cd .cnt) E σ H) : tCont E σ H := by
  obtain ⟨C, F, d, o, d', S, e, q⟩ := h
  rw [evS] at e
  cases e
  exact q σ H F S SX.refl
theorem rs_pas (E : Ends) (h : GS K (evS gcs cd .pas) E σ H) : tNext E σ H := by
  obtain ⟨C, F, d, o, d', S, e, q⟩ := h
  rw [evS] at e
  cases e
  exact q σ H F S SX.refl
theorem rs_retN (E : Ends) (h : GS K (evS gcs cd (.ret .cn)) E σ H) : tRetN E σ H := by
  obtain ⟨C, F, d, o, d', S, e, q⟩ := h
  rw [evS, evE] at e
  cases e
  exact q σ H F S SX.refl .non (.inl ⟨rfl, .non⟩)
end
end DL
/-! DL14: the translator's statements; defs; the law. -/
namespace DL
open PySem PySem.Spec PyProof.Rows L2

structure SOk (X : Cx) (T : Tc) (gcs : Nat → Option D) (cd : CallSem) (sc : Scope) : Prop extends EOk X T gcs cd sc where
  hp : PassesOwn (model X.prog X.w) X.A X.env X.xe
structure SndS (T : Tc) (gcs : Nat → Option D) (cd : CallSem) (n : Nat) : Prop where
  sS : ∀ {X : Cx} {sc : Scope} {s : Stmt} {i : I}, SOk X T gcs cd sc → trS T n sc s = some i → PS X s (GS X.K (evS gcs cd i))
  sSs : ∀ {X : Cx} {sc : Scope} {s : List Stmt} {i : I}, SOk X T gcs cd sc → trSs T n sc s = some i → PSs X s (GS X.K (evS gcs cd i))
section
variable {X : Cx} {T : Tc} {gcs : Nat → Option D} {cd : CallSem} {sc : Scope} {n : Nat}
theorem sw_none {e : Expr} (h : isComp e = false) (t : Option Expr) (l : Nat) (env : Env) : swapsWith e t l env = pure false := by
  cases e <;> first | rfl | cases h
theorem sw_comp {elt : Expr} {gs : List Comprehension} {scope : Scope} {pos py : Pos} {y : Str} {l : Nat} {env : Env} (hk : env.scope.kind = .function) :
    swapsWith (.ListComp elt gs scope pos) (some (.Name y py)) l env = pure (decide (env.scope.names.lookup y = some .local) && py.line == pos.line && !(scope.names.any fun (n, k) => n == y && (k == .local || k == .cell))) := by
  have hb : env.blockKind = .function := by unfold Env.blockKind; rw [hk]; rfl
  have hd : (env.kindOf y == some NameKind.local) = decide (env.scope.names.lookup y = some .local) := by
    show (env.scope.names.lookup y == some NameKind.local) = _
    cases env.scope.names.lookup y with
    | none => rfl
    | some k => cases k <;> rfl
  show (pure (env.blockKind == .function && env.kindOf y == some .local && py.line == pos.line && !(scope.names.any fun (n, k) => n == y && (k == .local || k == .cell))) : Sem Bool) = _
  rw [hb, hd]
  rfl
theorem s_setLc (ok : SOk X T gcs cd sc) {elt : Expr} {gs : List Comprehension} {scope : Scope} {pos py spos : Pos} {y : Str} {i : Nat} {a : I} {ow : Bool} (hs : slotL T sc y = some i) (hsw : swapsWith (.ListComp elt gs scope pos) (some (.Name y py)) spos.line X.env = pure true) (hy : X.env.scope.names.lookup y = some .local)
    (h : trE T n sc (.ListComp elt gs scope pos) = some a) : PS X (.Assign [.Name y py] (.ListComp elt gs scope pos) spos) (GS X.K (evS gcs cd (.set ow i a))) := by
  cases n with
  | zero => cases h
  | succ n =>
  have ih := snd T gcs cd n
  rw [trE] at h
  cases qg : oneGen gs with
  | none => rw [qg] at h; cases h
  | some g =>
  obtain ⟨tg, iter, ifs⟩ := g
  have := oneGen_eq qg
  subst this
  rw [qg] at h
  obtain ⟨hb, h⟩ := iteS h
  rw [Bool.and_eq_true] at hb
  obtain ⟨p, h1, h⟩ := bindS h
  obtain ⟨it, h2, h⟩ := bindS h
  obtain ⟨t, h3, h⟩ := bindS h
  obtain ⟨el, h4, h⟩ := bindS h
  obtain ⟨hp, h⟩ := iteS h
  cases h
  have bk := ok.toEOk.blkOk hb.1
  have hk : scope.kind = .function := bk.kind
  have hp' : ∀ j ∈ pvars p, j ∈ (ownOf T.N scope).map Prod.snd := fun j hj => by
    rw [List.all_eq_true] at hp
    exact of_decide_eq_true (hp j hj)
  have hPt : ∀ es k pos, tg = .Tuple es k pos → isTupP p = true := by
    intro es k pos e
    subst e
    cases n with
    | zero => cases h1
    | succ n =>
      rw [trP] at h1
      obtain ⟨_, _, h1⟩ := mapS h1
      subst h1; rfl
  obtain ⟨g1, _, _⟩ := slotL_of ok.toEOk hs
  refine PS.imp (ps_setLc (wi := GI X.K p (evI gcs cd it)) (g := GP X.K p) (tt := GT X.K (evE gcs cd t)) (te := GE X.K (evE gcs cd el)) ok.calm (by rw [ok.N]; exact ok.nd) g1 hy hsw (ih.sI ok.toEOk h2 hPt).1 bk (fun s H C cl fp => (ih.sP (ok.toEOk.blk hk s H C cl fp) h1).1) (fun s H C cl fp => ih.sT (ok.toEOk.blk hk s H C cl fp) h3) (fun s H C cl fp => (ih.sE (ok.toEOk.blk hk s H C cl fp) h4).1) (folded_plain hb.2 X.env)) fun D σ H h => ?_
  exact rd_comp hp' (rs_set D h)
theorem s_setN (ok : SOk X T gcs cd sc) {y : Str} {py spos : Pos} {e : Expr} {i : Nat} {a : I} {ow : Bool} (hs : slotL T sc y = some i) (h : trE T n sc e = some a) : PS X (.Assign [.Name y py] e spos) (GS X.K (evS gcs cd (.set ow i a))) := by
  obtain ⟨g1, g2, g3⟩ := slotL_of ok.toEOk hs
  have plain : swapsWith e (some (.Name y py)) spos.line X.env = pure false → PS X (.Assign [.Name y py] e spos) (GS X.K (evS gcs cd (.set ow i a))) := fun hsw =>
    PS.imp (ps_set (by rw [ok.N]; exact ok.nd) g1 g2 ((snd T gcs cd n).sE ok.toEOk h).1 hsw g3) fun D σ H h => rs_set D h
  cases e with
  | ListComp elt gs scope pos =>
    have hsw := sw_comp (elt := elt) (gs := gs) (scope := scope) (pos := pos) (py := py) (y := y) (l := spos.line) (env := X.env) ok.kind
    cases q : (decide (X.env.scope.names.lookup y = some .local) && py.line == pos.line && !(scope.names.any fun (n, k) => n == y && (k == .local || k == .cell))) with
    | false => rw [q] at hsw; exact plain hsw
    | true =>
      have hy : X.env.scope.names.lookup y = some .local := by
        rw [Bool.and_eq_true, Bool.and_eq_true] at q
        exact of_decide_eq_true q.1.1
      rw [q] at hsw
      exact s_setLc ok hs hsw hy h
  | SetComp => cases n <;> cases h
  | DictComp => cases n <;> cases h
  | _ => exact plain (sw_none rfl _ _ _)
theorem not_comp {e : Expr} {b : Bool} (h : ¬ (isComp e || b) = true) : isComp e = false ∧ b = false := by
  cases q : isComp e with
  | true => rw [q] at h; exact absurd rfl h
  | false =>
    rw [q] at h
    cases b with
    | true => exact absurd rfl h
    | false => exact ⟨rfl, rfl⟩
theorem iteN {p : Prop} [Decidable p] {α : Type} {a : Option α} {b : α} (h : (if p then none else a) = some b) : ¬ p ∧ a = some b := by
  split at h
  · cases h
  · exact ⟨by assumption, h⟩
theorem asg_gen (ok : SOk X T gcs cd sc) {es : List Expr} {k : Nat} {p pos : Pos} {e : Expr} {t a : I} (c1 : isComp e = false) (c2 : tupNo sc es e = false) (h1 : trP T n sc (.Tuple es k p) = some t) (h2 : trE T n sc e = some a) : PS X (.Assign [.Tuple es k p] e pos) (GS X.K (evS gcs cd (.setp t a))) := by
  have S := snd T gcs cd n
  have hw : swappedStores [.Tuple es k p] e X.env = pure none := tupNo_sw (fun x hx => ok.look x _ hx (by decide)) c2
  exact PS.imp (ps_asg (S.sE ok.toEOk h2).1 (S.sP ok.toEOk h1).1 (show swapsWith e (some (.Tuple es k p)) pos.line X.env = pure false from sw_none c1 _ _ _) hw rfl) fun D σ H h => rs_setp D h
theorem snd_S (ih : SndS T gcs cd n) (ok : SOk X T gcs cd sc) {s : Stmt} {i : I} (h : trS T (n + 1) sc s = some i) : PS X s (GS X.K (evS gcs cd i)) := by
  have S := snd T gcs cd n
  unfold trS at h
  try dsimp only at h
  split at h
  · rename_i x px e pos
    obtain ⟨j, h1, h⟩ := bindS h
    obtain ⟨a, h2, h⟩ := mapS h
    subst h
    exact s_setN ok h1 h2
  · rename_i x px y py _ _ a b _ _ pos
    split at h
    case isFalse hc =>
      obtain ⟨hc, h⟩ := iteN h
      obtain ⟨t, h1, h⟩ := bindS h
      obtain ⟨a', h2, h⟩ := mapS h
      subst h
      exact asg_gen ok rfl (Bool.eq_false_iff.mpr hc) h1 h2
    rename_i hc
    obtain ⟨t, h1, h⟩ := bindS h
    obtain ⟨l, h2, h⟩ := mapS h
    subst h
    obtain ⟨c1, c2, c3, c4, c5, c6⟩ := parC_ok hc
    obtain ⟨i, b1, s1, w1, rfl⟩ := parT_cons h1
    obtain ⟨j, b2, s2, w2, rfl⟩ := parT_cons w1
    cases w2
    obtain ⟨g1, _, _⟩ := slotL_of ok.toEOk s1
    obtain ⟨g2, _, _⟩ := slotL_of ok.toEOk s2
    have lx := ok.look x _ (c1 x (by simp)) (by decide)
    have ly := ok.look y _ (c1 y (by simp)) (by decide)
    have hxy : x ≠ y := fun e => by rw [e] at c3; simp at c3
    have hij : i ≠ j := fun e => by rw [e, g2] at g1; exact hxy (Option.some.inj g1).symm
    exact PS.imp (ps_par ok.calm (by rw [ok.N]; exact ok.nd) g1 g2 hij lx ly (S.sL ok.toEOk h2).1 (sw_par2 ok.kind lx ly (c2 _ (by simp)) hxy c4 c5 c6) rfl) fun D σ H h => rs_par D h
  · rename_i x px y py z pz _ _ a b c _ _ pos
    split at h
    case isFalse hc =>
      obtain ⟨hc, h⟩ := iteN h
      obtain ⟨t, h1, h⟩ := bindS h
      obtain ⟨a', h2, h⟩ := mapS h
      subst h
      exact asg_gen ok rfl (Bool.eq_false_iff.mpr hc) h1 h2
    rename_i hc
    obtain ⟨t, h1, h⟩ := bindS h
    obtain ⟨l, h2, h⟩ := mapS h
    subst h
    obtain ⟨c1, c2, c3, c4, c5, c6⟩ := parC_ok hc
    obtain ⟨i, b1, s1, w1, rfl⟩ := parT_cons h1
    obtain ⟨j, b2, s2, w2, rfl⟩ := parT_cons w1
    obtain ⟨m, b3, s3, w3, rfl⟩ := parT_cons w2
    cases w3
    obtain ⟨g1, _, _⟩ := slotL_of ok.toEOk s1
    obtain ⟨g2, _, _⟩ := slotL_of ok.toEOk s2
    obtain ⟨g3, _, _⟩ := slotL_of ok.toEOk s3
    have lx := ok.look x _ (c1 x (by simp)) (by decide)
    have ly := ok.look y _ (c1 y (by simp)) (by decide)
    have lz := ok.look z _ (c1 z (by simp)) (by decide)
    have hxy : x ≠ y := fun e => by rw [e] at c3; simp at c3
    have hxz : x ≠ z := fun e => by rw [e] at c3; simp at c3
    have hyz : y ≠ z := fun e => by rw [e] at c3; simp at c3
    have hij : i ≠ j := fun e => by rw [e, g2] at g1; exact hxy (Option.some.inj g1).symm
    have him : i ≠ m := fun e => by rw [e, g3] at g1; exact hxz (Option.some.inj g1).symm
    have hjm : j ≠ m := fun e => by rw [e, g3] at g2; exact hyz (Option.some.inj g2).symm
    exact PS.imp (ps_par3 ok.calm (by rw [ok.N]; exact ok.nd) g1 g2 g3 hij him hjm lx ly lz (S.sL ok.toEOk h2).1 (sw_par3 ok.kind lx ly lz (c2 _ (by simp)) (c2 _ (by simp)) hxy hxz hyz c4 c5 c6) rfl) fun D σ H h => rs_par3 D h
  · rename_i es k p e pos _ _
    obtain ⟨hc, h⟩ := iteN h
    obtain ⟨c1, c2⟩ := not_comp hc
    obtain ⟨t, h1, h⟩ := bindS h
    obtain ⟨a, h2, h⟩ := mapS h
    subst h
    exact asg_gen ok c1 c2 h1 h2
  · rename_i x px es k1 p1 p e pos
    obtain ⟨hc, h⟩ := iteN h
    have c1 : isComp e = false := by
      cases q : isComp e with
      | true => exact absurd q hc
      | false => rfl
    obtain ⟨j, h1, h⟩ := bindS h
    obtain ⟨k, h2, h⟩ := bindS h
    obtain ⟨a, h3, h⟩ := mapS h
    subst h
    obtain ⟨g1, g3, g4⟩ := slot_of ok.toEOk h1
    have hu := ok.un
    exact PS.imp (ps_dput (by omega) (pe_var g1 g4 (okName_of g3).1 (okName_of g3).2.1) (pe_tup (S.sL ok.toEOk h2).2) (S.sE ok.toEOk h3).1 (show swapsWith e (some (.Subscript (.Name x px) (.Tuple es k1 p1) p)) pos.line X.env = pure false from sw_none c1 _ _ _)) fun D σ H h => rs_dput D h
  · rename_i x px ix p e pos _
    obtain ⟨hc, h⟩ := iteN h
    obtain ⟨c1, c2⟩ := not_comp hc
    have c3 : plainE ix = true := by
      cases q : plainE ix with
      | true => rfl
      | false => rw [q] at c2; cases c2
    obtain ⟨j, h1, h⟩ := bindS h
    obtain ⟨k, h2, h⟩ := bindS h
    obtain ⟨a, h3, h⟩ := mapS h
    subst h
    obtain ⟨g1, g3, g4⟩ := slot_of ok.toEOk h1
    refine PS.imp (ps_asg (S.sE ok.toEOk h3).1 (pg_sub (pe_var g1 g4 (okName_of g3).1 (okName_of g3).2.1) (S.sE ok.toEOk h2).1 set_list ?_) (show swapsWith e (some (.Subscript (.Name x px) ix p)) pos.line X.env = pure false from sw_none c1 _ _ _) rfl rfl) fun D σ H h => rs_seti D h
    intro v
    cases ix <;> first | rfl | cases c3
  · rename_i x px op e pos
    obtain ⟨j, h1, h⟩ := bindS h
    obtain ⟨o, h2, h⟩ := bindS h
    obtain ⟨a, h3, h⟩ := mapS h
    subst h
    obtain ⟨g1, g2, g3⟩ := slotL_of ok.toEOk h1
    cases op <;> first | (cases h2; done) | skip
    · cases h2
      exact PS.imp (ps_aug (by rw [ok.N]; exact ok.nd) g1 g2 (S.sE ok.toEOk h3).1 ip_add g3) fun D σ H h => rs_augA D h
    · cases h2
      exact PS.imp (ps_aug (by rw [ok.N]; exact ok.nd) g1 g2 (S.sE ok.toEOk h3).1 ip_sub g3) fun D σ H h => rs_augS D h
  · rename_i e pos
    split at h
    · cases h
      exact PS.imp ps_doc fun D σ H h => rs_pas D h
    · rename_i x px m ap a cp
      obtain ⟨hc, h⟩ := iteS h
      rw [Bool.and_eq_true] at hc
      obtain ⟨j, h1, h⟩ := bindS h
      obtain ⟨b, h2, h⟩ := bindS h
      obtain ⟨g1, g3, g4⟩ := slot_of ok.toEOk h1
      have pv := pe_var g1 g4 (okName_of g3).1 (okName_of g3).2.1 (pos := px)
      have pa := (S.sE ok.toEOk h2).1
      have s1 := star_plain hc.1 [] X.env
      split at h
      · rename_i em
        cases h
        subst em
        exact PS.imp (ps_expr (pe_bm PySem.F.plainAttrs_list PySem.F.slot_list_append PySem.F.type_list_append mt_append pv (pa_cons pa pa_nil s1) rfl (few_one hc.1 _ _) hc.2 s1 rfl) rfl) fun D σ H h => rs_app D h
      · obtain ⟨em, h⟩ := iteS h
        cases h
        subst em
        exact PS.imp (ps_expr (pe_bm PySem.F.plainAttrs_list PySem.F.slot_list_extend PySem.F.type_list_extend mt_extend pv (pa_cons pa pa_nil s1) rfl (few_one hc.1 _ _) hc.2 s1 rfl) rfl) fun D σ H h => rs_ext D h
    · obtain ⟨a, h2, h⟩ := mapS h
      subst h
      exact PS.imp (ps_expr (S.sE ok.toEOk h2).1 rfl) fun D σ H h => rs_drop D h
    · cases h
  · rename_i e pos
    obtain ⟨a, h2, h⟩ := mapS h
    subst h
    exact PS.imp (ps_ret (S.sE ok.toEOk h2).1) fun D σ H h => rs_ret D h
  · cases h
    exact PS.imp ps_retN fun D σ H h => rs_retN D h
  · obtain ⟨c, h1, h⟩ := bindS h
    obtain ⟨a, h2, h⟩ := bindS h
    obtain ⟨b, h3, h⟩ := mapS h
    subst h
    exact PS.imp (ps_if (S.sE ok.toEOk h1).2.1 (ih.sSs ok h2) (ih.sSs ok h3)) fun D σ H h => rs_if D h
  · obtain ⟨c, h1, h⟩ := bindS h
    obtain ⟨b, h3, h⟩ := mapS h
    subst h
    exact PS.imp (ps_while ok.hp (S.sE ok.toEOk h1).2.1 (ih.sSs ok h3)) fun D σ H h => rs_whl D h
  · obtain ⟨p, h1, h⟩ := bindS h
    obtain ⟨it, h2, h⟩ := bindS h
    obtain ⟨b, h3, h⟩ := mapS h
    subst h
    obtain ⟨g1, g2⟩ := S.sP ok.toEOk h1
    obtain ⟨g3, g4⟩ := S.sI ok.toEOk h2 (t := p) g2
    exact PS.imp (ps_for ok.hp ok.calm g3 g1 (ih.sSs ok h3) (folded_plain g4 X.env)) fun D σ H h => rs_for D h
  · cases h
    exact PS.imp ps_break fun D σ H h => rs_brk D h
  · cases h
    exact PS.imp ps_continue fun D σ H h => rs_cnt D h
  · cases h
    exact PS.imp ps_pass fun D σ H h => rs_pas D h
  · cases h
theorem snd_Ss (ih : SndS T gcs cd n) (ok : SOk X T gcs cd sc) {s : List Stmt} {i : I} (h : trSs T (n + 1) sc s = some i) : PSs X s (GS X.K (evS gcs cd i)) := by
  cases s with
  | nil => cases h; exact PSs.imp pss_nil fun D σ H h => rs_nil D h
  | cons s r =>
    rw [trSs] at h
    obtain ⟨b, h2, h⟩ := mapS h
    subst h
    refine PSs.imp (pss_cons (t := GS X.K (evS gcs cd ((trS T n sc s).getD .cn))) ?_ (ih.sSs ok h2)) fun D σ H h => rs_cons D h
    cases h1 : trS T n sc s with
    | some a => exact ih.sS ok h1
    | none => exact ⟨fun pins s σ E H I w => by
        obtain ⟨C, F, d, o, d', S, e, q⟩ := w
        rw [Option.getD_none, evS] at e
        · cases e
        all_goals (intros; contradiction)⟩
theorem sndS (T : Tc) (gcs : Nat → Option D) (cd : CallSem) : ∀ n, SndS T gcs cd n
  | 0 => ⟨(fun _ h => by cases h), (fun _ h => by cases h)⟩
  | n + 1 =>
    have ih := sndS T gcs cd n
    ⟨fun ok h => snd_S ih ok h, fun ok h => snd_Ss ih ok h⟩
end
end DL
/-! DL15: the defs of a text keep what the evaluator says; the law. -/
namespace DL
open PySem PySem.Spec PyProof.Rows L2

structure DefI where
  x : Str
  st : Stmt
  T : Tc
  ps : List Str
  body : I
def DefI.fn (di : DefI) : Fn := ⟨di.ps.length, di.T.N.length - di.ps.length, di.body⟩
abbrev Defs := Nat → Option DefI
def Defs.tbl (ds : Defs) : Nat → Option Fn := fun g => (ds g).map DefI.fn

section
variable {K : PySem.W.Frag} {H H' : Hp} {F F' : Addr → Prop}
theorem ArgsR.length : ∀ {vs : List V} {as : List (Bool × D)}, ArgsR K H F vs as → vs.length = as.length
  | _, _, .nil => rfl
  | _, _, .i _ t => by rw [List.length_cons, List.length_cons, ArgsR.length t]
  | _, _, .m _ t => by rw [List.length_cons, List.length_cons, ArgsR.length t]
theorem ArgsR.getI : ∀ {vs : List V} {as : List (Bool × D)} {i : Nat} {x : D}, ArgsR K H F vs as → as[i]? = some (false, x) → ∃ v, vs[i]? = some v ∧ Rp K H F v x
  | _, _, _, _, .nil, e => by simp at e
  | _, _, 0, _, .i r _, e => by simp at e; subst e; exact ⟨_, rfl, r⟩
  | _, _, 0, _, .m _ _, e => by simp at e
  | _, _, j + 1, x, .i _ t, e => by
    obtain ⟨v, h1, h2⟩ := ArgsR.getI (i := j) (x := x) t (by simpa using e)
    exact ⟨v, by simpa using h1, h2⟩
  | _, _, j + 1, x, .m _ t, e => by
    obtain ⟨v, h1, h2⟩ := ArgsR.getI (i := j) (x := x) t (by simpa using e)
    exact ⟨v, by simpa using h1, h2⟩
theorem ArgsR.getM : ∀ {vs : List V} {as : List (Bool × D)} {i : Nat} {x : D}, ArgsR K H F vs as → as[i]? = some (true, x) → ∃ a, vs[i]? = some (.ref a) ∧ OwnAt K H F a x
  | _, _, _, _, .nil, e => by simp at e
  | _, _, 0, _, .m r _, e => by simp at e; subst e; exact ⟨_, rfl, r⟩
  | _, _, 0, _, .i _ _, e => by simp at e
  | _, _, j + 1, x, .i _ t, e => by
    obtain ⟨v, h1, h2⟩ := ArgsR.getM (i := j) (x := x) t (by simpa using e)
    exact ⟨v, by simpa using h1, h2⟩
  | _, _, j + 1, x, .m _ t, e => by
    obtain ⟨v, h1, h2⟩ := ArgsR.getM (i := j) (x := x) t (by simpa using e)
    exact ⟨v, by simpa using h1, h2⟩
theorem outs_rel : ∀ {vs : List V} {as : List (Bool × D)} {ds : DS} {os : List D}, ArgsR K H F vs as → outs as ds = some os → (∀ (i : Nat) (y x : D), as[i]? = some (true, x) → ds[i]? = some (.own true y) → ∃ a, vs[i]? = some (.ref a) ∧ OwnAt K H' F' a y) → OutsR K H' F' vs as os
  | _, _, _, _, .nil, e, _ => by cases e; exact .nil
  | _, _, [], _, .i _ _, e, _ => by cases e
  | _, _, [], _, .m _ _, e, _ => by cases e
  | _, _, s :: ds, os, .i _ t, e, h => .i (outs_rel t e fun i y x h1 h2 => by
    obtain ⟨a, g1, g2⟩ := h (i + 1) y x (by simpa using h1) (by simpa using h2)
    exact ⟨a, by simpa using g1, g2⟩)
  | _, _, s :: ds, os, .m (x := x) r t, e, h => by
    cases s with
    | own p y =>
      cases p with
      | true =>
        obtain ⟨os', e1, rfl⟩ := mapS (show (outs _ ds).map (y :: ·) = some os from e)
        obtain ⟨a, g1, g2⟩ := h 0 y x rfl rfl
        cases g1
        exact .m g2 (outs_rel t e1 fun i y x h1 h2 => by
          obtain ⟨a, g1, g2⟩ := h (i + 1) y x (by simpa using h1) (by simpa using h2)
          exact ⟨a, by simpa using g1, g2⟩)
      | false => cases e
    | _ => cases e
/-- the state at a def's entry -/
theorem start_rel {vs : List V} {as : List (Bool × D)} {N ps : List Str} {nl : Nat} (ha : ArgsR K H F vs as) (inj : ∀ i j a, MutAt vs as i a → MutAt vs as j a → i = j) (fdom : ∀ a, F a → H a ≠ none) (hl : vs.length = ps.length) (hnl : nl = N.length - ps.length) :
    SRel K ⟨H, MutAt vs as, F⟩ H F (L2.start N vs) (as.map slotOf ++ List.replicate nl .emp) := by
  have hlen := ha.length
  have get : ∀ (i : Nat) (sl : Slot), (as.map slotOf ++ List.replicate nl .emp)[i]? = some sl → sl ≠ .emp → ∃ b, as[i]? = some b ∧ sl = slotOf b ∧ i < vs.length := fun i sl h ne => by
    by_cases hi : i < as.length
    · rw [List.getElem?_append_left (by rw [List.length_map]; exact hi), List.getElem?_map, List.getElem?_eq_getElem hi] at h
      exact ⟨_, List.getElem?_eq_getElem hi, (Option.some.inj h).symm, by omega⟩
    · rw [List.getElem?_append_right (by rw [List.length_map]; omega)] at h
      have := List.getElem?_eq_some_iff.mp h
      obtain ⟨h1, h2⟩ := this
      rw [List.getElem_replicate] at h2
      exact absurd h2.symm ne
  have sget : ∀ (i : Nat) (v : V), vs[i]? = some v → (L2.start N vs)[i]? = some (some v) := fun i v h => by
    have hi : i < vs.length := (List.getElem?_eq_some_iff.mp h).1
    unfold L2.start
    rw [List.getElem?_append_left (by rw [List.length_map]; exact hi), List.getElem?_map, h]; rfl
  have sget2 : ∀ (i : Nat) (v : V), i < vs.length → (L2.start N vs)[i]? = some (some v) → vs[i]? = some v := fun i v hi h => by
    unfold L2.start at h
    rw [List.getElem?_append_left (by rw [List.length_map]; exact hi), List.getElem?_map, List.getElem?_eq_getElem hi] at h
    rw [List.getElem?_eq_getElem hi]
    have h' : some (some vs[i]) = some (some v) := h
    exact congrArg some (Option.some.inj (Option.some.inj h'))
  refine ⟨?_, fun i x h => ?_, fun i p x h => ?_, fun i j p q x y a h1 h2 h3 h4 => ?_, fdom, fun a f => .inl f, fun a f => f, fun a o h _ => h, fun a h => h⟩
  · unfold L2.start
    rw [List.length_append, List.length_append, List.length_map, List.length_map, List.length_replicate, List.length_replicate, hnl]
    omega
  · obtain ⟨⟨b, y⟩, h1, h2, _⟩ := get i _ h (fun z => by cases z)
    cases b with
    | false =>
      cases h2
      obtain ⟨v, g1, g2⟩ := ha.getI h1
      exact ⟨v, sget i v g1, g2⟩
    | true => cases h2
  · obtain ⟨⟨b, y⟩, h1, h2, _⟩ := get i _ h (fun z => by cases z)
    cases b with
    | false => cases h2
    | true =>
      cases h2
      obtain ⟨a, g1, g2⟩ := ha.getM h1
      exact ⟨a, sget i _ g1, g2, ⟨_, h1, g1⟩⟩
  · obtain ⟨⟨b, x'⟩, g1, g2, g3⟩ := get i _ h1 (fun z => by cases z)
    obtain ⟨⟨c, y'⟩, k1, k2, k3⟩ := get j _ h2 (fun z => by cases z)
    cases b with
    | false => cases g2
    | true =>
      cases c with
      | false => cases k2
      | true => exact inj i j a ⟨_, g1, sget2 i _ g3 h3⟩ ⟨_, k1, sget2 j _ k3 h4⟩
end

section
variable {P : Program} {w : World} {K : PySem.W.Frag} {mg : Str → Option Value} {base : Heap} {gcs : Nat → Option D} {ds : Defs}
/-- what the top has left, for the defs of a table -/
structure TopOk (K : PySem.W.Frag) (mg : Str → Option Value) (gcs : Nat → Option D) (ds : Defs) : Prop where
  blt : ∀ x ∈ bltNames, mg x = none
  df : ∀ g di, ds g = some di → ∃ (f : Addr) (fd : FuncData), Fun K di.x di.x di.st f fd ∧ mg di.x = some (.ref f) ∧ Binds K fd di.ps [] ∧ FnScope di.T.N di.ps (defScope di.st) ∧ (∃ n, trSs di.T n (defScope di.st) (defBody di.st) = some di.body) ∧
    (∀ x h, di.T.fn x = some h → ∃ dj, ds h = some dj ∧ dj.x = x ∧ dj.T.rp = false) ∧ (∀ x z, di.T.kc x = some z → ∃ u, mg x = some (.int z u)) ∧ (∀ g ∈ di.T.gf, ∃ x, di.T.fn x = some g ∧ di.T.gc x = some g) ∧ (∀ x n, di.T.gc x = some n → ∀ dd, gcs n = some dd → isLst dd = false ∧ ∃ v u, mg x = some u ∧ RelV v u ∧ ∀ H F, Rp K H F v dd)
theorem callD_np {T : Nat → Option Fn} {k g : Nat} {as : List (Bool × D)} {r : List D × Bool × D} (h : callD gcs T k g as = .ok r) : ∃ f j, T g = some f ∧ k = j + 1 ∧ as.length = f.np ∧ runFn gcs (callD gcs T j) f as = .ok r := by
  cases k with
  | zero => cases h
  | succ j =>
    rw [callD] at h
    cases q : T g with
    | none => rw [q] at h; cases h
    | some f =>
      rw [q] at h
      dsimp only at h
      refine ⟨f, j, rfl, rfl, ?_, h⟩
      unfold runFn at h
      split at h
      · assumption
      · cases h
abbrev SpOf (K : PySem.W.Frag) (gcs : Nat → Option D) (ds : Defs) (k g : Nat) : Sp := spD K (callD gcs ds.tbl k) g
/-- a def's promise at level k -/
def Kept (P : Program) (w : World) (K : PySem.W.Frag) (mg : Str → Option Value) (base : Heap) (gcs : Nat → Option D) (ds : Defs) (k g : Nat) (di : DefI) : Prop :=
  ∃ (f : Addr) (fd : FuncData), FnOk P w K mg base CX0 k f fd di.ps (SpOf K gcs ds k g) ∧ mg di.x = some (.ref f) ∧ PySem.W.keepIn K (.ref f) = true ∧ Binds K fd di.ps [] ∧ Fun K di.x di.x di.st f fd
theorem sp_len {k g : Nat} {di : DefI} (h : ds g = some di) : ∀ vs H Q E, SpOf K gcs ds (k + 1) g vs H Q E → vs.length = di.ps.length := fun vs H Q E ⟨_, as, _, _, _, ha, _, _, e, _⟩ => by
  obtain ⟨f', j, h1, _, h2, _⟩ := callD_np e
  unfold Defs.tbl at h1
  rw [h] at h1
  cases h1
  rw [ha.length, h2]; rfl
/-- a def's body, where what it calls is kept -/
theorem def_body (t : TopOk K mg gcs ds) {k g : Nat} {di : DefI} (h : ds g = some di) (ih : ∀ g' dj, ds g' = some dj → dj.T.rp = false → Kept P w K mg base gcs ds k g' dj) {f : Addr} {cdv : Value} {A : Around} {outer : List Env} {s : Shared} {H : Hp} {vs : List V} {Q : VK} {E : XK}
    (hr : Room k (A.deeper (envOfC di.x (defScope di.st) s.heap.objs.size f cdv))) (hgd : di.T.rp = true → A.guards = some []) (hsp : SpOf K gcs ds (k + 1) g vs H Q E) :
    ∃ tt, PSs (cxOf CX0 P w K mg base di.T.N di.x (defScope di.st) f cdv A outer s H E).nox (defBody di.st) tt ∧ tt { nx := fun _ H' => Q .non H', rt := Q } (start di.T.N vs) H := by
    obtain ⟨_, _, _, _, _, S, ⟨n, tr⟩, hfn, hkc, hgf, hgc⟩ := t.df g di h
    have hl := sp_len h vs H Q E hsp
    obtain ⟨F0, as, os, ff, x, ha, inj, fdom, e, q⟩ := hsp
    obtain ⟨f', j, h1, hj, h2, e⟩ := callD_np e
    cases hj
    unfold Defs.tbl at h1
    rw [h] at h1
    cases h1
    generalize hX : (cxOf CX0 P w K mg base di.T.N di.x (defScope di.st) f cdv A outer s H E).nox = X
    have ok : SOk X di.T gcs (callD gcs ds.tbl k) (defScope di.st) := by
      subst hX
      refine ⟨⟨rfl, S.nd, rfl, S.kind, fun _ _ h _ => h, fun _ h => .inl h, fun _ _ => rfl, ?_, t.blt, fun y g' hg => ?_, hgf, hkc, hgd, hgc⟩, PassesOwn.never⟩
      · have := hr.un
        show (A.deeper (envOfC di.x (defScope di.st) s.heap.objs.size f cdv)).units + 66 < cLine
        omega
      · obtain ⟨dj, g1, rfl, g2⟩ := hfn y g' hg
        obtain ⟨f2, fd2, G, m2, k2, b2, _⟩ := ih g' dj g1 g2
        exact ⟨f2, fd2, dj.ps, k, G, hr, m2, k2, b2⟩
    have hXK : X.K = K := by subst hX; rfl
    have body := (sndS di.T gcs (callD gcs ds.tbl k) n).sSs ok tr
    refine ⟨_, body, ?_⟩
    rw [hXK]
    -- the run
    unfold runFn at e
    rw [if_pos h2] at e
    obtain ⟨⟨o, d'⟩, e1, e⟩ := R.bind_ok e
    obtain ⟨os', e2, e⟩ := R.bind_ok e
    have S0 := start_rel (N := di.T.N) (ps := di.ps) (nl := di.T.N.length - di.ps.length) ha inj fdom hl rfl
    refine ⟨⟨H, MutAt vs as, F0⟩, F0, _, o, d', S0, e1, fun σ' H' F' S' _ => ?_⟩
    have outs' : OutsR K H' F' vs as os' := outs_rel ha (R.opt_ok e2) fun i y x' g1 g2 => by
      obtain ⟨a, k1, k2, k3⟩ := S'.own i true y g2
      obtain ⟨x2, k4, k5⟩ := k3
      exact ⟨a, k5, k2⟩
    cases o with
    | nx =>
      cases e
      exact q .non H' F' S'.frame S'.dom S'.fsub S'.fnew S'.fdom outs' (.inl ⟨rfl, .non⟩)
    | bk => cases e
    | ct => cases e
    | rt r =>
      obtain ⟨⟨f3, x3⟩, e3, e⟩ := R.bind_ok e
      cases e
      intro v Rv
      refine q v H' F' S'.frame S'.dom S'.fsub S'.fnew S'.fdom outs' ?_
      have e3' := R.opt_ok e3
      cases r with
      | val b y =>
        dsimp only [retD] at e3'
        injection e3' with e3'
        injection e3' with q1 q2
        subst q1 q2
        cases b with
        | false => exact Rv
        | true =>
          rcases Rv with Rv | ⟨a, o7, g1, g3, g4, g5, g6, g7⟩
          · exact .inl Rv
          · exact .inr ⟨a, o7, g1, g3, g4, g5, g7⟩
      | bor i =>
        have Rv' : σ'[i]? = some (some v) := Rv
        dsimp only [retD] at e3'
        split at e3'
        · rename_i y hy
          cases e3'
          obtain ⟨a, g1, ⟨g2, o7, g4, g5⟩, g6⟩ := S'.own i false _ hy
          rw [Rv'] at g1; cases g1
          exact .inr ⟨a, o7, rfl, g4, g5, g2, g6⟩
        · rename_i y hy
          cases e3'
          obtain ⟨v', g1, g2⟩ := S'.imm i _ hy
          rw [Rv'] at g1; cases g1
          exact g2
        · cases e3'
theorem fn_ok (t : TopOk K mg gcs ds) : ∀ (k g : Nat) (di : DefI), ds g = some di → di.T.rp = false → Kept P w K mg base gcs ds k g di
  | 0, g, di, h, _ => by
    obtain ⟨f, fd, F, hm, hb, _⟩ := t.df g di h
    refine ⟨f, fd, ⟨fun vs H Q E q => ?_, fun A outer s H args us vs Q E _ _ _ _ q => ?_⟩, hm, F.kp, hb, F⟩
    · obtain ⟨_, _, _, _, _, _, _, _, e, _⟩ := q; cases e
    · obtain ⟨_, _, _, _, _, _, _, _, e, _⟩ := q; cases e
  | k + 1, g, di, h, hrp => by
    have ih := fn_ok t k
    obtain ⟨f, fd, F, hm, hb, S, _⟩ := t.df g di h
    refine ⟨f, fd, F.ok S (sp_len h) fun cdv A outer s H vs Q E hr hsp => ?_, hm, F.kp, hb, F⟩
    exact def_body t h ih hr (fun z => by rw [hrp] at z; cases z) hsp
/-- a def where no repr is under way: its run -/
theorem run_ok (t : TopOk K mg gcs ds) {k g : Nat} {di : DefI} (h : ds g = some di) {f : Addr} {fd : FuncData} (F : Fun K di.x di.x di.st f fd) {A : Around} (hA : A.guards = some []) (room : Room (k + 1) A) {outer : List Env} {s : Shared} {H : Hp} {args : Args} {us : List Value} {vs : List V} {Q : VK} {E : XK}
    (e0 : Env0 P w K mg base A outer s H) (bind : BindsTo s fd args (di.ps.zip us)) (r : Vals vs us) (hsp : SpOf K gcs ds (k + 1) g vs H Q E) : codeAny (model P w) A (.call (.ref f) args) (CR CX0 outer P w H s Q E) s := by
  obtain ⟨_, _, _, _, _, S, _⟩ := t.df g di h
  obtain ⟨oc, od, kV, doc, pm, an, cdv, ct, osl, efd, look, hcode⟩ := F.ex
  have stay : ∀ b o, base.get? b = some o → s.heap.get? b = some o := fun b o z => (e0.bs b o z).1
  have inK := e0.mod.kin.keeps stay
  have par : ∀ y ∈ di.ps.zip us, (defScope di.st).names.lookup y.1 = some .local ∨ ((defScope di.st).names.lookup y.1 = some .cell ∧ ((cellsFrom (s.heap.objs.size + 1) (defScope di.st).names []).lookup y.1).isSome = true) := by
    rintro ⟨x, v⟩ hy
    rcases S.par x (List.of_mem_zip hy).1 with q | q
    · left; exact q
    · right; exact ⟨q, PySem.W.cellsFrom_some _ _ _ (.inl q)⟩
  subst efd
  refine codeAny_call_function room.depth (inK _ _ look) rfl S.co S.gen rfl (PySem.W.codeRec_of inK hcode) (bind _ _ _ _ (wpAny_newFunctionEnv_cells S.kind par ?_))
  rintro env rfl s1 call
  refine ⟨(e0.mod.nolimit.keeps stay).keeps call.toInCall.keep, codeAny_func ?_⟩
  obtain ⟨tt, ht, hq⟩ := def_body (P := P) (w := w) (base := base) (f := f) (cdv := cdv) (outer := outer) (s := s) t h (fn_ok t k) (room.deeper _) (fun _ => hA) hsp
  have start_inv := inv_start (CX := CX0) (E := E) (f := f) (cd := cdv) S room.hd e0 (sp_len h _ _ _ _ hsp) r call
  refine wpAny_mono (ht.nox.run [] s1 _ H _ start_inv hq) (fun fl s2 out => ?_) fun _ _ z => z
  match fl, out with
  | .ret u, ⟨v, σ2, H2, J, rv, q⟩ => exact ⟨v, H2, J.os, J.bare, J.base, J.hok, rv, q⟩
  | .next, ⟨σ2, H2, J, q⟩ => exact ⟨V.non, H2, J.os, J.bare, J.base, J.hok, rfl, q⟩
  | .brk, ⟨_, _, _, q⟩ => exact q.elim
  | .cont, ⟨_, _, _, q⟩ => exact q.elim
/-- the law's promise, from the evaluator -/
theorem law_sp {cd : CallSem} {g : Nat} {H : Hp} {a : Addr} {ns : List Int} (ho : Only H) (hS : SqL K H a (ns.map V.int)) {os : List D} {f : Bool} (e : cd g [(false, scrD (ns.map .int))] = .ok (os, f, .bool true)) :
    spD K cd g [.ref a] H (fun v _ => v = .bl true) fun _ _ _ => False := by
  have hs : ScrL K H a (ns.map V.int) := by
    rcases hS with (h | ⟨o, h⟩) | h
    · rcases ho a with z | ⟨o, xs, z⟩
      · rw [h] at z; cases z
      · rw [h] at z; cases z
    · exact .inl ⟨o, h⟩
    · exact .inr h
  refine ⟨fun _ => False, _, os, f, .bool true, .i (.scr hs (RpAll.ofInts ns)) .nil, fun i j b ⟨x, h1, _⟩ _ => ?_, fun _ z => z.elim, e, fun v H' F' _ _ _ _ _ _ r => ?_⟩
  · match i, h1 with
    | 0, h1 => cases h1
    | i + 1, h1 => simp at h1
  · cases f with
    | false => cases r; rfl
    | true =>
      rcases r with ⟨_, r⟩ | ⟨_, _, _, _, r, _⟩
      · cases r; rfl
      · cases r
end
end DL
/-! DL16: the head; a law from its table and what the evaluator says of it. -/
namespace DL
open PySem PySem.Spec PyProof.Rows L2

/-- one def of a text: its number, name, place at the top, names, how many parameters, changed slots, body -/
structure LD where
  g : Nat
  x : Str
  i : Nat
  N : List Str
  np : Nat
  ow : List Nat
  gf : List Nat
  kc : List (Str × Int)
  rp : Bool
  body : I
def topS (p : Program) (i : Nat) : Stmt := p.main.body.getD i (.Pass ⟨0, 0, 0, 0⟩)
def LD.di (p : Program) (nm : List (Str × Nat)) (d : LD) : DefI := ⟨d.x, topS p d.i, ⟨d.N, d.ow, fun x => nm.lookup x, fun x => (nm.lookup x).bind fun g => if g ∈ d.gf then some g else none, d.gf, fun x => d.kc.lookup x, d.rp⟩, d.N.take d.np, d.body⟩
def LD.fn (d : LD) : Fn := ⟨(d.N.take d.np).length, d.N.length - (d.N.take d.np).length, d.body⟩
/-- the defs that may be called -/
def names (L : List LD) : List (Str × Nat) := (L.filter fun d => !d.rp).map fun d => (d.x, d.g)
def findG (L : List LD) (g : Nat) : Option LD := L.find? fun d => d.g == g
def dsOf (p : Program) (L : List LD) : Defs := fun g => (findG L g).map fun d => d.di p (names L)
def tbl (L : List LD) : Nat → Option Fn := fun g => (findG L g).map LD.fn
theorem tbl_eq (p : Program) (L : List LD) : (dsOf p L).tbl = tbl L := funext fun g => by
  unfold Defs.tbl dsOf tbl
  cases findG L g <;> rfl
def chkS (N ps : List Str) (sc : Scope) : Bool :=
  decide (sc.kind = .function) && (decide (sc.isCoroutine = false) && (decide (sc.isGenerator = false) && (decide N.Nodup && (decide (N.take ps.length = ps) &&
  (ps.all (fun x => decide (sc.names.lookup x = some .local) || decide (sc.names.lookup x = some .cell)) && sc.names.all fun y => decide (y.2 ≠ .free))))))
theorem chkS_ok {N ps : List Str} {sc : Scope} (h : chkS N ps sc = true) : FnScope N ps sc := by
  unfold chkS at h
  simp only [Bool.and_eq_true, decide_eq_true_eq, List.all_eq_true, Bool.or_eq_true] at h
  obtain ⟨h1, h2, h3, h4, h5, h6, h7⟩ := h
  exact ⟨h1, h2, h3, h4, h5, h6, h7⟩
def chkD (p : Program) (L : List LD) (d : LD) : Bool :=
  chkS d.N (d.N.take d.np) (defScope (topS p d.i)) && decide (trSs (d.di p (names L)).T 1000 (defScope (topS p d.i)) (defBody (topS p d.i)) = some d.body)
def chk (p : Program) (L : List LD) : Bool :=
  (L.all fun d => chkD p L d) && ((names L).all fun y => match findG L y.2 with
    | some d => decide (d.x = y.1) && !d.rp
    | none => false) && ((L.all fun d => d.gf.all fun g => match findG L g with
    | some d' => decide ((names L).lookup d'.x = some g)
    | none => false) && decide (L.map (·.x)).Nodup)
/-- the defs' addresses -/
def gcsK (K : PySem.W.Frag) (L : List LD) : Nat → Option D := fun g => (findG L g).map fun d => fnD (He.fAd K (d.x, none))
/-- what a law may know of them -/
structure FnC (L : List LD) (gcs : Nat → Option D) : Prop where
  at_ : ∀ g d, findG L g = some d → ∃ a, gcs g = some (fnD a)
  inj : ∀ g g' a, gcs g = some (fnD a) → gcs g' = some (fnD a) → g = g'
theorem lookup_mem {x : Str} {g : Nat} : ∀ {l : List (Str × Nat)}, l.lookup x = some g → (x, g) ∈ l
  | [], h => by cases h
  | (y, k) :: r, h => by
    rw [List.lookup_cons] at h
    split at h
    · rename_i e
      cases h
      have e : x = y := beq_iff_eq.mp e
      subst e
      exact List.mem_cons_self
    · exact List.mem_cons_of_mem _ (lookup_mem h)
theorem lookup_memI {x : Str} {z : Int} : ∀ {l : List (Str × Int)}, l.lookup x = some z → (x, z) ∈ l
  | [], h => nomatch h
  | (y, k) :: r, h => by
    by_cases e : x = y
    · subst e
      rw [List.lookup_cons_self] at h
      cases h
      exact List.mem_cons_self
    · rw [List.lookup_cons, beq_eq_false_iff_ne.mpr e] at h
      exact List.mem_cons_of_mem _ (lookup_memI h)
/-- how a def's arguments bind -/
def BindOk (p : Program) (d : LD) : Prop := ∀ (kV doc pm : Value) (an : Option Addr) (cdv ct : Value) (us : List Value), us.length = (d.N.take d.np).length →
  bindArgs (PySem.W.fnOf d.x d.x (defArgs (topS p d.i)) (defBody (topS p d.i)) (defScope (topS p d.i)) .none kV doc pm an cdv ct) ⟨us, []⟩ = pure ((d.N.take d.np).zip us)
def LD.dd (p : Program) (d : LD) : He.DefD := ⟨(d.x, none), d.x, d.x, defArgs (topS p d.i), defBody (topS p d.i), defScope (topS p d.i), [], []⟩
def fnL (p : Program) (L : List LD) : List He.DefD := L.map (LD.dd p)
def faL (L : List LD) : List He.Fa := (L.map fun d => He.Fa.glo d.x) ++ (bltNames.map He.Fa.free ++ L.flatMap fun d => d.kc.map fun y => He.Fa.int y.1 y.2)
theorem findG_mem {L : List LD} {g : Nat} {d : LD} (h : findG L g = some d) : d ∈ L := List.mem_of_find?_eq_some h
theorem top_ok {p : Program} {L : List LD} {K : PySem.W.Frag} {h : Heap} {mg : Str → Option Value} (X : K.In h) (G : h.Ns mainGlobals mg) (c : He.SaysD (faL L) (fnL p L) K) (ck : chk p L = true) (hb : ∀ d ∈ L, BindOk p d) :
    TopOk K mg (gcsK K L) (dsOf p L) := by
  unfold chk at ck
  rw [Bool.and_eq_true, Bool.and_eq_true] at ck
  obtain ⟨⟨c1, c2⟩, c3⟩ := ck
  have c3 := List.all_eq_true.mp (Bool.and_eq_true_iff.mp c3).1
  refine ⟨fun x hx => He.free_ok X G (c.facts (f := .free x) (List.mem_append_right _ (List.mem_append_left _ (List.mem_map_of_mem hx)))), fun g di e => ?_⟩
  obtain ⟨d, e1, rfl⟩ := mapS (show (findG L g).map (fun d => d.di p (names L)) = some di from e)
  have hd := findG_mem e1
  obtain ⟨fd, F⟩ := c.defs (d := d.dd p) (List.mem_map_of_mem hd)
  have F' : Fun K d.x d.x (topS p d.i) (He.fAd K (d.x, none)) fd := He5.fun_of F
  have c1 := List.all_eq_true.mp c1 d hd
  unfold chkD at c1
  rw [Bool.and_eq_true] at c1
  refine ⟨_, fd, F', He.glo_ok X G (c.facts (f := .glo d.x) (List.mem_append_left _ (List.mem_map_of_mem (f := fun d : LD => He.Fa.glo d.x) hd))), F'.binds (hb d hd), chkS_ok c1.1, ⟨1000, of_decide_eq_true c1.2⟩, fun x h q => ?_, fun x z q => ?_, fun g hg => ?_, fun x n q dd hdd => ?_⟩
  · have m := lookup_mem (show (names L).lookup x = some h from q)
    have c3 := List.all_eq_true.mp c2 _ m
    dsimp only at c3
    split at c3
    · rename_i d' e2
      rw [Bool.and_eq_true, Bool.not_eq_true'] at c3
      exact ⟨_, show (findG L h).map _ = _ by rw [e2]; rfl, of_decide_eq_true c3.1, c3.2⟩
    · cases c3
  · have hm := lookup_memI (show d.kc.lookup x = some z from q)
    exact He.int_ok X G (c.facts (f := .int x z) (List.mem_append_right _ (List.mem_append_right _ (List.mem_flatMap.mpr ⟨d, hd, List.mem_map.mpr ⟨_, hm, rfl⟩⟩))))
  · have c4 := List.all_eq_true.mp (c3 d hd) g hg
    split at c4
    · rename_i d' e2
      have h1 : (names L).lookup d'.x = some g := of_decide_eq_true c4
      refine ⟨d'.x, h1, ?_⟩
      show ((names L).lookup d'.x).bind (fun g => if g ∈ d.gf then some g else none) = some g
      rw [h1, Option.bind_some, if_pos (show g ∈ d.gf from hg)]
    · cases c4
  · obtain ⟨g, h1, h2⟩ := Option.bind_eq_some_iff.mp (show ((names L).lookup x).bind (fun g => if g ∈ d.gf then some g else none) = some n from q)
    obtain ⟨h3, h4⟩ := ite_some h2
    subst h4
    have m := lookup_mem h1
    have c5 := List.all_eq_true.mp c2 _ m
    dsimp only at c5
    split at c5
    · rename_i d' e2
      have hx : d'.x = x := of_decide_eq_true (Bool.and_eq_true_iff.mp c5).1
      have hdd' : some (fnD (He.fAd K (d'.x, none))) = some dd := by rw [← hdd]; unfold gcsK; rw [e2]; rfl
      cases hdd'
      refine ⟨rfl, .ref (He.fAd K (d'.x, none)), .ref (He.fAd K (d'.x, none)), ?_, rfl, fun H F => .fnv _⟩
      rw [← hx]
      exact He.glo_ok X G (c.facts (f := .glo d'.x) (List.mem_append_left _ (List.mem_map_of_mem (f := fun d : LD => He.Fa.glo d.x) (findG_mem e2))))
    · cases c5
theorem fnc_ok {p : Program} {L : List LD} {K : PySem.W.Frag} (c : He.SaysD (faL L) (fnL p L) K) (ck : chk p L = true) : FnC L (gcsK K L) := by
  unfold chk at ck
  rw [Bool.and_eq_true, Bool.and_eq_true] at ck
  have hnd : (L.map (·.x)).Nodup := of_decide_eq_true (Bool.and_eq_true_iff.mp ck.2).2
  have lk : ∀ d ∈ L, ∃ fd : FuncData, Fun K d.x d.x (topS p d.i) (He.fAd K (d.x, none)) fd := fun d hd => by
    obtain ⟨fd, F⟩ := c.defs (d := d.dd p) (List.mem_map_of_mem hd)
    exact ⟨fd, He5.fun_of F⟩
  have inv : ∀ g a, gcsK K L g = some (fnD a) → ∃ d ∈ L, d.g = g ∧ He.fAd K (d.x, none) = a := fun g a h => by
    obtain ⟨d, h1, h2⟩ := Option.map_eq_some_iff.mp (show (findG L g).map (fun d => fnD (He.fAd K (d.x, none))) = some (fnD a) from h)
    refine ⟨d, findG_mem h1, beq_iff_eq.mp (List.find?_some (p := fun d : LD => d.g == g) h1), ?_⟩
    have h3 : fnA (fnD (He.fAd K (d.x, none))) = fnA (fnD a) := by rw [h2]
    have h4 : ((He.fAd K (d.x, none) : Nat) : Int) = ((a : Nat) : Int) := Option.some.inj h3
    exact Int.ofNat.inj h4
  refine ⟨fun g d h => ⟨_, show (findG L g).map _ = _ by rw [h]; rfl⟩, fun g g' a h h' => ?_⟩
  obtain ⟨d, hd, hg, ha⟩ := inv g a h
  obtain ⟨d', hd', hg', ha'⟩ := inv g' a h'
  obtain ⟨fd, F⟩ := lk d hd
  obtain ⟨fd', F'⟩ := lk d' hd'
  obtain ⟨_, _, _, _, _, _, _, _, _, e1, l1, _⟩ := F.ex
  obtain ⟨_, _, _, _, _, _, _, _, _, e2, l2, _⟩ := F'.ex
  rw [ha] at l1
  rw [ha', l1] at l2
  have hx : d.x = d'.x := by
    cases l2
    rw [e1] at e2
    unfold PySem.W.fnOf at e2
    injection e2
  have : d = d' := by
    obtain ⟨i, hi⟩ := List.getElem?_of_mem hd
    obtain ⟨j, hj⟩ := List.getElem?_of_mem hd'
    have hij : i = j := by
      have h1 : (L.map (·.x))[i]? = some d.x := by rw [List.getElem?_map, hi]; rfl
      have h2 : (L.map (·.x))[j]? = some d.x := by rw [List.getElem?_map, hj, hx]; rfl
      obtain ⟨b1, g1⟩ := List.getElem?_eq_some_iff.mp h1
      obtain ⟨b2, g2⟩ := List.getElem?_eq_some_iff.mp h2
      have pw := List.pairwise_iff_getElem.mp hnd
      rcases Nat.lt_trichotomy i j with q | q | q
      · exact absurd (g1.trans g2.symm) (pw i j b1 b2 q)
      · exact q
      · exact absurd (g2.trans g1.symm) (pw j i b2 b1 q)
    rw [hij, hj] at hi
    cases hi; rfl
  rw [← hg, ← hg', this]
/-- what only the script is tracked in -/
theorem only_one {a : Addr} {o : Obj} {xs : List V} : Only fun b => if b = a then some (.frz o (.lst xs)) else none := fun b => by
  by_cases h : b = a
  · exact .inr ⟨o, xs, if_pos h⟩
  · exact .inl (if_neg h)
/-- the law is called: from its run, at a heap where nothing but the script may be tracked -/
theorem caller_run {P : Program} {w : World} {K : PySem.W.Frag} {mg mb : Str → Option Value} {fa a : Addr} {s₁ : Shared} {vs : List Value} {ns : List Int} (inK : K.In s₁.heap) (nsG : s₁.heap.Ns mainGlobals mg) (nsB : s₁.heap.Ns builtinsNs mb) (boot : ∀ x : Str, x ≠ "__name__" → mb x = bootBuiltins x) (lim : s₁.heap.NoLimit) (gens : s₁.gens = #[])
    (scr : s₁.heap.get? a = some { cls := .type "list", data := .seq vs.toArray }) (intz : IntsAre vs ns) (len : ns.length ≤ sizeLine)
    (run : ∀ (base : Heap) (H : Hp), K.In base → base.Ns mainGlobals mg → Env0 P w K mg base callerA [] s₁ H → Only H → SqL K H a (ns.map V.int) → codeAny (model P w) callerA (.call (.ref fa) ⟨[.ref a], []⟩) (CR CX0 [] P w H s₁ (fun v _ => v = .bl true) fun _ _ _ => False) s₁) :
    codeAny (model P w) callerA (.call (.ref fa) ⟨[.ref a], []⟩) (fun r s' => r = .ok (.ret (.bool true)) ∧ OldK s₁.heap s'.heap ∧ s'.os = s₁.os ∧ AllBare s'.gens) s₁ := by
  have rel := vals_ints intz
  have size := intz.length
  have core : ∃ H : Hp, Only H ∧ SqL K H a (ns.map V.int) ∧ HOk P w H s₁.heap ∧ (∀ b, H b = none ∨ (b = a ∧ K.lookup a = none)) := by
    cases look : K.lookup a with
    | some o =>
      have e := inK a o look
      rw [scr] at e
      cases e
      exact ⟨fun _ => none, fun _ => .inl rfl, .inr ⟨_, vs.toArray, _, look, rfl, rfl, rfl, by rw [List.size_toArray, size]; exact len, by simpa using rel⟩, (fun _ _ z => by cases z), fun _ => .inl rfl⟩
    | none =>
      refine ⟨fun b => if b = a then some (.frz { cls := .type "list", data := .seq vs.toArray } (.lst (ns.map V.int))) else none, only_one, .inl (.inr ⟨_, if_pos rfl⟩), fun b u z => ?_, fun b => ?_⟩
      · by_cases hb : b = a
        · dsimp only at z
          rw [if_pos hb] at z
          cases z
          rw [hb]
          exact ⟨scr, by rw [List.length_map]; exact len, vs, _, rel, scr⟩
        · dsimp only at z
          rw [if_neg hb] at z
          cases z
      · by_cases hb : b = a
        · exact .inr ⟨hb, rfl⟩
        · exact .inl (if_neg hb)
  obtain ⟨H, only, sq, hok, at_⟩ := core
  have hid : ∀ {b : Addr} {o : Obj}, s₁.heap.get? b = some o → b ≠ a → (hidT s₁.heap H).get? b = some o := fun {b o} e n => hidT_get e ((at_ b).resolve_right fun z => n z.1)
  have space : ∀ {b : Addr} {m : Str → Option Value}, s₁.heap.Ns b m → (hidT s₁.heap H).Ns b m := by
    rintro b m ⟨o, es, ep, e, d, r⟩
    refine ⟨o, es, ep, hid e ?_, d, r⟩
    rintro rfl
    rw [scr] at e
    cases e
    cases d
  have inB : K.In (hidT s₁.heap H) := fun b o e => hidT_get (inK b o e) ((at_ b).resolve_right fun z => by rw [z.1, z.2] at e; cases e)
  have md : Mod K mg (hidT s₁.heap H) := by
    obtain ⟨mc, l1, l2⟩ := lim
    exact ⟨inB, space nsG, ⟨mb, space nsB, boot⟩, ⟨mc, space l1, l2⟩⟩
  refine codeAny_mono (run _ H inB (space nsG) ⟨rfl, md, fun b o e => of_hidT e, by rw [hidT_size]; exact Nat.le_refl _, trivial, (fun b z => by cases z), hok, .of_eq gens⟩ only sq) fun r s' out => ?_
  match r, out with
  | Except.ok (Flow.ret u), ⟨v, H', os, bare, un, hok', rv, q⟩ =>
    subst q
    obtain rfl : u = Value.bool true := rv
    refine ⟨rfl, OldK.of_keep fun b o e => ?_, os, bare⟩
    rcases only b with n | ⟨ob, xs, n⟩
    · exact un.keep b o e n (fun z => by cases z) (fun z => by cases z)
    · have e1 := (hok b _ n).1
      have e2 := (hok' b _ (un.frzs b ob _ n)).1
      rw [e] at e1
      rw [Option.some.inj e1]
      exact e2
/-- a law, from its table and what the evaluator says of it -/
theorem law_walk {l : PySem.W.OpenLaw} {q : Program} {loose : List Str} {XP : (Str → Option Value) → Heap → Prop} {YP : World → Heap → Prop} {d : DefRec} {p : Program} {L : List LD} {k gL : Nat} {dl : LD}
    (most : l.most = some 63) (dflt : d.params.defaults = []) (room : Room (k + 1) callerA) (dname : d.name = "law")
    (top : ∀ (w : World) (h : Heap), YP w h → ∃ K : PySem.W.Frag, K.In h ∧ He.SaysD (faL L) (fnL p L) K)
    (ck : chk p L = true) (hb : ∀ d ∈ L, BindOk p d) (hL : findG L gL = some dl) (hx : dl.x = "law") (hp : dl.N.take dl.np = [("script" : Str)])
    (law : ∀ ns : List Int, ns.length ≤ 63 → ∀ gcs, FnC L gcs → ∃ (os : List D) (f : Bool), callD gcs (tbl L) (k + 1) gL [(false, scrD (ns.map .int))] = .ok (os, f, .bool true)) :
    PySem.W.WalkO q loose XP YP l.row.toRowW d [] (fun f vs => PySem.call f vs) := by
  refine Att.attach_call most dflt fun w s₀ s₁ mg mb fa o pm cd doc a vs ns G Y ho hd hcd hmg obj intz len gens => ?_
  obtain ⟨K, inK, says⟩ := top w _ Y
  have hd' := findG_mem hL
  have e0 : dsOf p L gL = some (dl.di p (names L)) := by unfold dsOf; rw [hL]; rfl
  have big : 63 ≤ sizeLine := by rw [sizeLine_eq]; omega
  refine caller_run inK G.T.g G.T.b G.T.builtins G.T.nolimit gens obj intz (Nat.le_trans len big) fun base H inB gB env only sq => ?_
  have t := top_ok inB gB says ck hb
  obtain ⟨f, fd, F, hm, bn, _⟩ := t.df gL _ e0
  have ef : fa = f := by
    have hm' : mg "law" = some (.ref f) := by rw [← hx]; exact hm
    rw [dname, hm'] at hmg
    cases hmg; rfl
  subst ef
  obtain ⟨os, ff, e⟩ := law ns len _ (fnc_ok says ck)
  have sp := law_sp only sq (show callD (gcsK K L) (dsOf p L).tbl (k + 1) gL _ = _ by rw [tbl_eq]; exact e)
  have bind : BindsTo s₁ fd ⟨[.ref a], []⟩ ((dl.di p (names L)).ps.zip [.ref a]) := by
    obtain ⟨oc, od, kV, dc, pmo, an, cdv, ct, osl, efd, _, _⟩ := F.ex
    have bd := hb dl hd' kV dc pmo an cdv ct [.ref a] (by rw [hp]; rfl)
    rw [efd]
    exact .of_eq bd
  exact run_ok t e0 F rfl room env bind (.cons (a := V.ref a) rfl .nil) sp
end DL
namespace DL
open PySem PySem.Spec PyProof.Rows L2
def b_drawing_steps_2 : I := .cons (.ife (.op1 .isN (.idx (.var 3) (.var 4))) (.cons (.set false 8 (.comp [9] (.var 9) (.itE (.idx (.idx (.var 0) (.var 4)) (.ci 1))) (.cb true) (.op1 .notN (.idx (.var 3) (.var 9))))) (.cons (.ife (.ifE (.op2 .eq (.idx (.idx (.var 0) (.var 4)) (.ci 0)) (.var 1)) (.bi .any (.cons (.var 8) .nil)) (.bi .all (.cons (.var 8) .nil))) (.cons (.app 7 (.var 4)) .nil) .nil) .nil)) .nil) .nil
def b_drawing_steps_3 : I := .cons (.seti 3 (.var 4) (.var 5)) .nil
def b_drawing_steps_1c : I := .var 6
def b_drawing_steps_1 : I := .cons (.aug 5 .add (.ci 1)) (.cons (.set true 7 (.lst .nil)) (.cons (.for_ (.var 4) (.itR (.rng .nil (.bi .len (.cons (.var 0) .nil)))) b_drawing_steps_2) (.cons (.for_ (.var 4) (.itE (.var 7)) b_drawing_steps_3) (.cons (.set false 6 (.op2 .gt (.bi .len (.cons (.var 7) .nil)) (.ci 0))) .nil))))
def b_drawing_steps : I := .cons (.set true 3 (.comp [4] (.var 4) (.itR (.rng .nil (.bi .len (.cons (.var 0) .nil)))) (.cb true) (.ifE (.op2 .isin (.var 4) (.var 2)) (.ci 0) .cn))) (.cons (.set false 5 (.ci 0)) (.cons (.set false 6 (.cb true)) (.cons (.whl b_drawing_steps_1c b_drawing_steps_1) (.cons (.ret (.bi .tuple (.cons (.var 3) .nil))) .nil))))
def fn_drawing_steps : Fn := ⟨3, 7, b_drawing_steps⟩
def b_drawn_in : I := .cons (.set false 3 (.call 0 (.cons (.var 0) (.cons (.var 1) (.cons (.var 2) .nil))))) (.cons (.ret (.bi .tuple (.cons (.comp [4] (.var 4) (.itR (.rng .nil (.bi .len (.cons (.var 0) .nil)))) (.op1 .notN (.idx (.var 3) (.var 4))) (.var 4)) .nil))) .nil)
def fn_drawn_in : Fn := ⟨3, 2, b_drawn_in⟩
def b_free_moves_1 : I := .cons (.setp (.tup (.cons (.var 5) (.cons (.var 6) .nil))) (.idx (.var 0) (.var 4))) (.cons (.set false 7 (.land (.op2 .eq (.var 5) (.ci 0)) (.op2 .isin (.var 4) (.var 2)))) (.cons (.app 3 (.ifE (.var 7) (.bi .tuple (.cons (.comp [8] (.var 8) (.itE (.var 6)) (.op2 .isin (.var 8) (.var 2)) (.var 8)) .nil)) .cn)) .nil))
def b_free_moves : I := .cons (.set false 2 (.call 3 (.cons (.var 0) (.cons (.var 1) .nil)))) (.cons (.set true 3 (.lst .nil)) (.cons (.for_ (.var 4) (.itR (.rng .nil (.bi .len (.cons (.var 0) .nil)))) b_free_moves_1) (.cons (.ret (.bi .tuple (.cons (.var 3) .nil))) .nil)))
def fn_free_moves : Fn := ⟨2, 7, b_free_moves⟩
def b_keep_wins : I := .cons (.ret (.call 2 (.cons (.var 0) (.cons (.call 1 (.cons (.var 0) (.cons (.ci 1) (.cons (.call 2 (.cons (.var 0) (.cons (.var 1) .nil))) .nil)))) .nil)))) .nil
def fn_keep_wins : Fn := ⟨2, 0, b_keep_wins⟩
def b_law_left : I := .cons (.ret (.bi .tuple (.cons (.comp [3, 4, 5] (.tup (.cons (.tup (.cons (.var 3) (.cons (.var 4) .nil))) (.cons (.var 5) .nil))) (.itZ (.cons (.var 0) (.cons (.var 2) .nil))) (.cb true) (.tup (.cons (.var 3) (.cons (.ifE (.op2 .eq (.var 3) (.var 1)) (.tup (.cons (.var 5) .nil)) (.var 4)) .nil)))) .nil))) .nil
def fn_law_left : Fn := ⟨3, 3, b_law_left⟩
def b_law_reach_1c : I := .op2 .lt (.var 3) (.bi .len (.cons (.var 2) .nil))
def b_law_reach_1 : I := .cons (.set false 2 (.op2 .add (.var 2) (.comp [4] (.var 4) (.itE (.idx (.idx (.var 0) (.idx (.var 2) (.var 3))) (.ci 1))) (.op2 .notin (.var 4) (.var 2)) (.var 4)))) (.cons (.set false 3 (.op2 .add (.var 3) (.ci 1))) .nil)
def b_law_reach : I := .cons (.set false 2 (.lst (.cons (.var 1) .nil))) (.cons (.set false 3 (.ci 0)) (.cons (.whl b_law_reach_1c b_law_reach_1) (.cons (.ret (.bi .sorted (.cons (.var 2) .nil))) .nil)))
def fn_law_reach : Fn := ⟨2, 3, b_law_reach⟩
def b_law_strategies_2 : I := .cons (.set false 5 (.op2 .add (.var 5) (.comp [7] (.var 7) (.itE (.ifE (.op2 .eq (.var 3) (.var 1)) (.var 4) (.tup (.cons .cn .nil)))) (.cb true) (.op2 .add (.var 6) (.tup (.cons (.var 7) .nil)))))) .nil
def b_law_strategies_1 : I := .cons (.set false 5 (.lst .nil)) (.cons (.for_ (.var 6) (.itE (.var 2)) b_law_strategies_2) (.cons (.set false 2 (.var 5)) .nil))
def b_law_strategies : I := .cons (.set false 2 (.lst (.cons (.tup .nil) .nil))) (.cons (.for_ (.tup (.cons (.var 3) (.cons (.var 4) .nil))) (.itE (.var 0)) b_law_strategies_1) (.cons (.ret (.var 2)) .nil))
def fn_law_strategies : Fn := ⟨2, 6, b_law_strategies⟩
def b_law_board_1 : I := .cons (.set false 5 (.sli (.call 9 (.cons (.marg 0) (.cons (.tupR (.rng .nil (.var 2))) .nil))) .nil (.cons (.op2 .add (.ci 1) (.call 8 (.cons (.marg 0) (.cons (.ci 3) .nil)))) .nil))) (.cons (.set false 3 (.op2 .add (.var 3) (.tup (.cons (.tup (.cons (.call 8 (.cons (.marg 0) (.cons (.ci 2) .nil))) (.cons (.bi .tuple (.cons (.bi .sorted (.cons (.var 5) .nil)) .nil)) .nil))) .nil)))) .nil)
def b_law_board : I := .cons (.set false 2 (.op2 .add (.ci 1) (.bi .max (.cons (.call 8 (.cons (.marg 0) (.cons (.var 1) .nil))) (.cons (.call 8 (.cons (.marg 0) (.cons (.var 1) .nil))) .nil))))) (.cons (.set false 3 (.tup .nil)) (.cons (.for_ (.var 4) (.itR (.rng .nil (.var 2))) b_law_board_1) (.cons (.ret (.var 3)) .nil)))
def fn_law_board : Fn := ⟨2, 4, b_law_board⟩
def b_law_shuffled_1c : I := .op2 .gt (.bi .len (.cons (.var 2) .nil)) (.ci 0)
def b_law_shuffled_1 : I := .cons (.set false 4 (.call 8 (.cons (.marg 0) (.cons (.bi .len (.cons (.var 2) .nil)) .nil)))) (.cons (.app 3 (.idx (.var 2) (.var 4))) (.cons (.set false 2 (.op2 .add (.sli (.var 2) .nil (.cons (.var 4) .nil)) (.sli (.var 2) (.cons (.op2 .add (.var 4) (.ci 1)) .nil) .nil))) .nil))
def b_law_shuffled : I := .cons (.set false 2 (.bi .list (.cons (.var 1) .nil))) (.cons (.set true 3 (.lst .nil)) (.cons (.whl b_law_shuffled_1c b_law_shuffled_1) (.cons (.ret (.bi .tuple (.cons (.var 3) .nil))) .nil)))
def fn_law_shuffled : Fn := ⟨2, 3, b_law_shuffled⟩
def b_law_set : I := .cons (.ret (.bi .tuple (.cons (.comp [2] (.var 2) (.itR (.rng .nil (.var 1))) (.op2 .eq (.call 8 (.cons (.marg 0) (.cons (.ci 2) .nil))) (.ci 0)) (.var 2)) .nil))) .nil
def fn_law_set : Fn := ⟨2, 1, b_law_set⟩
def b_other_spots : I := .cons (.ret (.bi .tuple (.cons (.comp [2] (.var 2) (.itR (.rng .nil (.bi .len (.cons (.var 0) .nil)))) (.op2 .notin (.var 2) (.var 1)) (.var 2)) .nil))) .nil
def fn_other_spots : Fn := ⟨2, 1, b_other_spots⟩
def b_law_rings_3 : I := .cons (.ife (.op2 .eq (.var 6) (.idx (.var 5) (.ci 0))) (.cons (.app 1 (.var 5)) .nil) (.cons (.ife (.land (.op2 .gt (.var 6) (.idx (.var 5) (.ci 0))) (.op2 .notin (.var 6) (.var 5))) (.cons (.app 4 (.op2 .add (.var 5) (.tup (.cons (.var 6) .nil)))) .nil) .nil) .nil)) .nil
def b_law_rings_2 : I := .cons (.for_ (.var 6) (.itE (.idx (.idx (.var 0) (.idx (.var 5) (.op1 .neg (.ci 1)))) (.ci 1))) b_law_rings_3) .nil
def b_law_rings_1c : I := .op2 .gt (.bi .len (.cons (.var 2) .nil)) (.ci 0)
def b_law_rings_1 : I := .cons (.set true 4 (.lst .nil)) (.cons (.for_ (.var 5) (.itE (.var 2)) b_law_rings_2) (.cons (.set false 2 (.var 4)) .nil))
def b_law_rings : I := .cons (.set true 1 (.lst .nil)) (.cons (.set false 2 (.comp [3] (.var 3) (.itR (.rng .nil (.bi .len (.cons (.var 0) .nil)))) (.cb true) (.tup (.cons (.var 3) .nil)))) (.cons (.whl b_law_rings_1c b_law_rings_1) (.cons (.ret (.bi .sorted (.cons (.var 1) .nil))) .nil)))
def fn_law_rings : Fn := ⟨1, 6, b_law_rings⟩
def b_turned_board : I := .cons (.ret (.bi .tuple (.cons (.comp [1, 2] (.tup (.cons (.var 1) (.cons (.var 2) .nil))) (.itE (.var 0)) (.cb true) (.tup (.cons (.op2 .sub (.ci 1) (.var 1)) (.cons (.var 2) .nil)))) .nil))) .nil
def fn_turned_board : Fn := ⟨1, 2, b_turned_board⟩
def b_one_move_1 : I := .cons (.set false 5 (.comp [6] (.var 6) (.itE (.idx (.idx (.var 0) (.var 4)) (.ci 1))) (.cb true) (.op2 .isin (.var 6) (.var 2)))) (.cons (.ife (.ifE (.op2 .eq (.idx (.idx (.var 0) (.var 4)) (.ci 0)) (.var 1)) (.bi .any (.cons (.var 5) .nil)) (.bi .all (.cons (.var 5) .nil))) (.cons (.app 3 (.var 4)) .nil) .nil) .nil)
def b_one_move : I := .cons (.set true 3 (.lst .nil)) (.cons (.for_ (.var 4) (.itR (.rng .nil (.bi .len (.cons (.var 0) .nil)))) b_one_move_1) (.cons (.ret (.bi .tuple (.cons (.var 3) .nil))) .nil))
def fn_one_move : Fn := ⟨3, 4, b_one_move⟩
def b_comes_again : I := .cons (.ret (.call 65 (.cons (.var 0) (.cons (.var 1) (.cons (.call 1 (.cons (.var 0) (.cons (.var 1) (.cons (.var 2) .nil)))) .nil))))) .nil
def fn_comes_again : Fn := ⟨3, 0, b_comes_again⟩
def b_again_rounds_1c : I := .cb true
def b_again_rounds_1 : I := .cons (.set false 3 (.call 66 (.cons (.var 0) (.cons (.ci 0) (.cons (.idx (.var 2) (.op1 .neg (.ci 1))) .nil))))) (.cons (.set false 4 (.bi .tuple (.cons (.comp [5] (.var 5) (.itE (.idx (.var 2) (.op1 .neg (.ci 1)))) (.op2 .isin (.var 5) (.var 3)) (.var 5)) .nil))) (.cons (.ife (.op2 .eq (.var 4) (.idx (.var 2) (.op1 .neg (.ci 1)))) (.cons (.ret (.var 2)) .nil) .nil) (.cons (.app 2 (.var 4)) .nil)))
def b_again_rounds : I := .cons (.set true 2 (.lst (.cons (.var 1) .nil))) (.cons (.whl b_again_rounds_1c b_again_rounds_1) .nil)
def fn_again_rounds : Fn := ⟨2, 4, b_again_rounds⟩
def b_again_wins : I := .cons (.ret (.call 1 (.cons (.var 0) (.cons (.ci 0) (.cons (.idx (.call 67 (.cons (.var 0) (.cons (.var 1) .nil))) (.op1 .neg (.ci 1))) .nil))))) .nil
def fn_again_wins : Fn := ⟨2, 0, b_again_wins⟩
def b_atlast_wins : I := .cons (.ret (.call 2 (.cons (.var 0) (.cons (.call 68 (.cons (.call 18 (.cons (.var 0) .nil)) (.cons (.call 2 (.cons (.var 0) (.cons (.var 1) .nil))) .nil))) .nil)))) .nil
def fn_atlast_wins : Fn := ⟨2, 0, b_atlast_wins⟩
def b_law_wins_by_2 : I := .cons (.ife (.op2 .notin (.var 6) (.var 3)) (.cons (.set false 7 (.call 14 (.cons (.var 5) (.cons (.var 6) .nil)))) (.cons (.set false 8 (.comp [9] (.var 9) (.itE (.call 31 (.cons (.var 5) .nil))) (.op2 .isin (.idx (.var 9) (.ci 0)) (.var 7)) (.var 9))) (.cons (.ife (.op2 .eq (.idx (.var 1) (.ci 0)) (.cs [97, 103, 97, 105, 110])) (.cons (.set false 10 (.op2 .eq (.bi .len (.cons (.comp [9] (.var 9) (.itE (.var 8)) (.op2 .eq (.bi .len (.cons (.comp [11] (.var 11) (.itE (.var 9)) (.op2 .isin (.var 11) (.idx (.var 1) (.ci 1))) (.var 11)) .nil)) (.ci 0)) (.var 9)) .nil)) (.ci 0))) .nil) (.cons (.set false 10 (.op2 .eq (.bi .len (.cons (.comp [9] (.var 9) (.itE (.var 8)) (.op2 .gt (.bi .len (.cons (.comp [11] (.var 11) (.itE (.var 9)) (.op2 .notin (.var 11) (.idx (.var 1) (.ci 1))) (.var 11)) .nil)) (.ci 0)) (.var 9)) .nil)) (.ci 0))) .nil)) (.cons (.set false 3 (.op2 .add (.var 3) (.ifE (.var 10) (.lst (.cons (.var 6) .nil)) (.lst .nil)))) .nil)))) .nil) .nil
def b_law_wins_by_1 : I := .cons (.set false 5 (.call 13 (.cons (.var 0) (.cons (.var 2) (.cons (.var 4) .nil))))) (.cons (.for_ (.var 6) (.itR (.rng .nil (.bi .len (.cons (.var 0) .nil)))) b_law_wins_by_2) .nil)
def b_law_wins_by : I := .cons (.set false 3 (.lst .nil)) (.cons (.for_ (.var 4) (.itE (.call 12 (.cons (.var 0) (.cons (.var 2) .nil)))) b_law_wins_by_1) (.cons (.ret (.bi .tuple (.cons (.bi .sorted (.cons (.var 3) .nil)) .nil))) .nil))
def fn_law_wins_by : Fn := ⟨3, 9, b_law_wins_by⟩
def b_sums_after_1 : I := .cons (.setp (.tup (.cons (.var 6) (.cons (.var 7) .nil))) (.idx (.var 0) (.var 5))) (.cons (.set false 8 (.comp [9] (.var 9) (.itE (.var 7)) (.cb true) (.idx (.var 3) (.var 9)))) (.cons (.set false 10 (.comp [11] (.var 11) (.itE (.var 8)) (.op1 .notN (.var 11)) (.var 11))) (.cons (.ife (.op2 .isin (.var 5) (.var 2)) (.cons (.app 4 (.ci 0)) .nil) (.cons (.ife (.lor (.op2 .eq (.bi .len (.cons (.var 10) .nil)) (.ci 0)) (.land (.op2 .eq (.var 6) (.ci 1)) (.op2 .lt (.bi .len (.cons (.var 10) .nil)) (.bi .len (.cons (.var 8) .nil))))) (.cons (.app 4 .cn) .nil) (.cons (.app 4 (.op2 .add (.idx (.var 1) (.var 5)) (.ifE (.op2 .eq (.var 6) (.ci 0)) (.bi .min (.cons (.var 10) .nil)) (.bi .max (.cons (.var 10) .nil))))) .nil)) .nil)) .nil)))
def b_sums_after : I := .cons (.set true 4 (.lst .nil)) (.cons (.for_ (.var 5) (.itR (.rng .nil (.bi .len (.cons (.var 0) .nil)))) b_sums_after_1) (.cons (.ret (.bi .tuple (.cons (.var 4) .nil))) .nil))
def fn_sums_after : Fn := ⟨4, 8, b_sums_after⟩
def b_sums_by_moves_1c : I := .cb true
def b_sums_by_moves_1 : I := .cons (.set false 5 (.call 188 (.cons (.var 0) (.cons (.var 1) (.cons (.var 2) (.cons (.idx (.var 3) (.op1 .neg (.ci 1))) .nil)))))) (.cons (.ife (.op2 .eq (.var 5) (.idx (.var 3) (.op1 .neg (.ci 1)))) (.cons (.ret (.var 3)) .nil) .nil) (.cons (.app 3 (.var 5)) .nil))
def b_sums_by_moves : I := .cons (.set true 3 (.lst (.cons (.bi .tuple (.cons (.comp [4] (.var 4) (.itR (.rng .nil (.bi .len (.cons (.var 0) .nil)))) (.cb true) (.ifE (.op2 .isin (.var 4) (.var 2)) (.ci 0) .cn)) .nil)) .nil))) (.cons (.whl b_sums_by_moves_1c b_sums_by_moves_1) .nil)
def fn_sums_by_moves : Fn := ⟨3, 3, b_sums_by_moves⟩
def b_least_tolls : I := .cons (.ret (.idx (.call 189 (.cons (.var 0) (.cons (.var 1) (.cons (.var 2) .nil)))) (.op1 .neg (.ci 1)))) .nil
def fn_least_tolls : Fn := ⟨3, 0, b_least_tolls⟩
def b_need_of : I := .cons (.setp (.tup (.cons (.var 4) (.cons (.var 5) .nil))) (.idx (.var 0) (.var 3))) (.cons (.set false 6 (.comp [7] (.var 7) (.itE (.var 5)) (.cb true) (.idx (.var 2) (.var 7)))) (.cons (.set false 8 (.comp [9] (.var 9) (.itE (.var 6)) (.op1 .notN (.var 9)) (.var 9))) (.cons (.ife (.lor (.op2 .eq (.bi .len (.cons (.var 8) .nil)) (.ci 0)) (.land (.op2 .eq (.var 4) (.ci 1)) (.op2 .lt (.bi .len (.cons (.var 8) .nil)) (.bi .len (.cons (.var 6) .nil))))) (.cons (.ret .cn) .nil) .nil) (.cons (.ret (.bi .max (.cons (.ci 0) (.cons (.op1 .neg (.idx (.var 1) (.var 3))) (.cons (.op2 .sub (.ifE (.op2 .eq (.var 4) (.ci 0)) (.bi .min (.cons (.var 8) .nil)) (.bi .max (.cons (.var 8) .nil))) (.idx (.var 1) (.var 3))) .nil))))) .nil))))
def fn_need_of : Fn := ⟨4, 6, b_need_of⟩
def b_risen_2 : I := .cons (.set false 6 (.call 161 (.cons (.var 0) (.cons (.var 1) (.cons (.marg 3) (.cons (.var 5) .nil)))))) (.cons (.set false 6 (.ifE (.lor (.op1 .isN (.var 6)) (.op2 .gt (.var 6) (.var 2))) .cn (.var 6))) (.cons (.ife (.land (.op2 .ne (.var 6) (.idx (.var 3) (.var 5))) (.op1 .notN (.idx (.var 3) (.var 5)))) (.cons (.seti 3 (.var 5) (.var 6)) (.cons (.set false 4 (.cb true)) .nil)) .nil) .nil))
def b_risen_1c : I := .var 4
def b_risen_1 : I := .cons (.set false 4 (.cb false)) (.cons (.for_ (.var 5) (.itR (.rng .nil (.bi .len (.cons (.var 0) .nil)))) b_risen_2) .nil)
def b_risen : I := .cons (.set true 3 (.op2 .mul (.lst (.cons (.ci 0) .nil)) (.bi .len (.cons (.var 0) .nil)))) (.cons (.set false 4 (.cb true)) (.cons (.whl b_risen_1c b_risen_1) (.cons (.ret (.bi .tuple (.cons (.var 3) .nil))) .nil)))
def fn_risen : Fn := ⟨3, 4, b_risen⟩
def b_least_stores : I := .cons (.ret (.call 162 (.cons (.var 0) (.cons (.var 1) (.cons (.op2 .mul (.bi .len (.cons (.var 0) .nil)) (.bi .max (.cons (.comp [2] (.var 2) (.itE (.var 1)) (.cb true) (.bi .abs (.cons (.var 2) .nil))) .nil))) .nil))))) .nil
def fn_least_stores : Fn := ⟨2, 1, b_least_stores⟩
def b_law_capped_2 : I := .cons (.dput 4 (.cons (.var 5) (.cons (.var 6) .nil)) (.cb true)) .nil
def b_law_capped_1 : I := .cons (.for_ (.var 6) (.itR (.rng .nil (.op2 .add (.var 2) (.ci 1)))) b_law_capped_2) .nil
def b_law_capped_5 : I := .cons (.ife (.dget 4 (.cons (.var 5) (.cons (.var 6) .nil))) (.cons (.set false 8 (.bi .min (.cons (.var 2) (.cons (.op2 .add (.var 6) (.idx (.var 1) (.var 5))) .nil)))) (.cons (.set false 9 (.comp [10] (.var 10) (.itE (.idx (.idx (.var 0) (.var 5)) (.ci 1))) (.cb true) (.land (.op2 .ge (.var 8) (.ci 0)) (.dget 4 (.cons (.var 10) (.cons (.var 8) .nil)))))) (.cons (.ife (.lor (.op2 .lt (.var 8) (.ci 0)) (.ifE (.op2 .eq (.idx (.idx (.var 0) (.var 5)) (.ci 0)) (.ci 0)) (.op2 .notin (.cb true) (.var 9)) (.op2 .isin (.cb false) (.var 9)))) (.cons (.dput 4 (.cons (.var 5) (.cons (.var 6) .nil)) (.cb false)) (.cons (.set false 7 (.cb true)) .nil)) .nil) .nil))) .nil) .nil
def b_law_capped_4 : I := .cons (.for_ (.var 6) (.itR (.rng .nil (.op2 .add (.var 2) (.ci 1)))) b_law_capped_5) .nil
def b_law_capped_3c : I := .var 7
def b_law_capped_3 : I := .cons (.set false 7 (.cb false)) (.cons (.for_ (.var 5) (.itR (.rng .nil (.var 3))) b_law_capped_4) .nil)
def b_law_capped_6 : I := .cons (.set false 12 (.comp [6] (.var 6) (.itR (.rng .nil (.op2 .add (.var 2) (.ci 1)))) (.dget 4 (.cons (.var 5) (.cons (.var 6) .nil))) (.var 6))) (.cons (.app 11 (.ifE (.op2 .gt (.bi .len (.cons (.var 12) .nil)) (.ci 0)) (.idx (.var 12) (.ci 0)) .cn)) .nil)
def b_law_capped : I := .cons (.set false 3 (.bi .len (.cons (.var 0) .nil))) (.cons (.set true 4 .dnew) (.cons (.for_ (.var 5) (.itR (.rng .nil (.var 3))) b_law_capped_1) (.cons (.set false 7 (.cb true)) (.cons (.whl b_law_capped_3c b_law_capped_3) (.cons (.set true 11 (.lst .nil)) (.cons (.for_ (.var 5) (.itR (.rng .nil (.var 3))) b_law_capped_6) (.cons (.ret (.bi .tuple (.cons (.var 11) .nil))) .nil)))))))
def fn_law_capped : Fn := ⟨3, 10, b_law_capped⟩
def b_capped_stores : I := .cons (.ret (.call 162 (.cons (.var 0) (.cons (.var 1) (.cons (.var 2) .nil))))) .nil
def fn_capped_stores : Fn := ⟨3, 0, b_capped_stores⟩
def b_is_whole : I := .cons (.ret (.land (.isI (.var 0) .int) (.op1 .not (.isI (.var 0) .bool)))) .nil
def fn_is_whole : Fn := ⟨1, 0, b_is_whole⟩
def b_is_table_1 : I := .cons (.ife (.lor (.op1 .not (.isI (.var 4) .tuple)) (.op2 .ne (.bi .len (.cons (.var 4) .nil)) (.var 2))) (.cons (.ret (.cb false)) .nil) .nil) (.cons (.ife (.op1 .not (.bi .all (.cons (.comp [5] (.var 5) (.itE (.var 4)) (.cb true) (.land (.call 15 (.cons (.var 5) .nil)) (.chain .le .lt (.ci 0) (.var 5) (.var 3)))) .nil))) (.cons (.ret (.cb false)) .nil) .nil) .nil)
def b_is_table : I := .cons (.ife (.lor (.op1 .not (.isI (.var 0) .tuple)) (.op2 .ne (.bi .len (.cons (.var 0) .nil)) (.var 1))) (.cons (.ret (.cb false)) .nil) .nil) (.cons (.for_ (.var 4) (.itE (.var 0)) b_is_table_1) (.cons (.ret (.cb true)) .nil))
def fn_is_table : Fn := ⟨4, 2, b_is_table⟩
def b_is_talk_1 : I := .cons (.ife (.lor (.op1 .not (.isI (.var 5) .tuple)) (.lor (.op2 .ne (.bi .len (.cons (.var 5) .nil)) (.ci 2)) (.op1 .not (.call 15 (.cons (.idx (.var 5) (.ci 0)) .nil))))) (.cons (.ret (.cb false)) .nil) .nil) (.cons (.ife (.lor (.op1 .not (.chain .le .le (.ci 0) (.idx (.var 5) (.ci 0)) (.ci 7))) (.op1 .not (.call 249 (.cons (.idx (.var 5) (.ci 1)) (.cons (.var 2) (.cons (.var 3) (.cons (.bi .len (.cons (.var 4) .nil)) .nil))))))) (.cons (.ret (.cb false)) .nil) .nil) .nil)
def b_is_talk : I := .cons (.ife (.lor (.op1 .not (.isI (.var 0) .tuple)) (.lor (.op2 .ne (.bi .len (.cons (.var 0) .nil)) (.ci 3)) (.op1 .not (.bi .all (.cons (.comp [1] (.var 1) (.itE (.sli (.var 0) .nil (.cons (.ci 2) .nil))) (.cb true) (.call 15 (.cons (.var 1) .nil))) .nil))))) (.cons (.ret (.cb false)) .nil) .nil) (.cons (.setp (.tup (.cons (.var 2) (.cons (.var 3) (.cons (.var 4) .nil)))) (.var 0)) (.cons (.ife (.lor (.op1 .not (.chain .le .le (.ci 1) (.var 2) (.ci 3))) (.lor (.op1 .not (.chain .le .le (.ci 1) (.var 3) (.ci 3))) (.lor (.op1 .not (.isI (.var 4) .tuple)) (.op1 .not (.chain .le .le (.ci 1) (.bi .len (.cons (.var 4) .nil)) (.ci 5)))))) (.cons (.ret (.cb false)) .nil) .nil) (.cons (.for_ (.var 5) (.itE (.var 4)) b_is_talk_1) (.cons (.ret (.cb true)) .nil))))
def fn_is_talk : Fn := ⟨1, 5, b_is_talk⟩
def b_talk_board_1 : I := .cons (.app 5 (.tup (.cons (.ci 1) (.cons (.bi .tuple (.cons (.comp [8] (.var 8) (.itR (.rng .nil (.var 1))) (.cb true) (.op2 .add (.op2 .add (.var 4) (.op2 .mul (.var 7) (.var 1))) (.var 8))) .nil)) .nil)))) (.cons (.ext 6 (.comp [9] (.var 9) (.itE (.idx (.idx (.var 3) (.var 7)) (.ci 1))) (.cb true) (.tup (.cons (.ci 0) (.cons (.bi .tuple (.cons (.bi .sset (.cons (.var 9) .nil)) .nil)) .nil))))) .nil)
def b_talk_board : I := .cons (.setp (.tup (.cons (.var 1) (.cons (.var 2) (.cons (.var 3) .nil)))) (.var 0)) (.cons (.set false 4 (.bi .len (.cons (.var 3) .nil))) (.cons (.set true 5 (.lst .nil)) (.cons (.set true 6 (.lst .nil)) (.cons (.for_ (.var 7) (.itR (.rng .nil (.var 4))) b_talk_board_1) (.cons (.set false 10 (.op2 .add (.bi .tuple (.cons (.comp [11, 2] (.tup (.cons (.var 11) (.cons (.var 2) .nil))) (.itE (.var 3)) (.cb true) (.var 11)) .nil)) (.op2 .mul (.tup (.cons (.ci 0) .nil)) (.op2 .mul (.var 4) (.var 1))))) (.cons (.ret (.tup (.cons (.bi .tuple (.cons (.op2 .add (.var 5) (.var 6)) .nil)) (.cons (.var 10) .nil)))) .nil))))))
def fn_talk_board : Fn := ⟨1, 11, b_talk_board⟩
def b_answers_to_1 : I := .cons (.set false 6 (.idx (.idx (.var 0) (.var 4)) (.var 5))) (.cons (.app 3 (.var 6)) (.cons (.set false 4 (.idx (.idx (.idx (.idx (.idx (.var 1) (.ci 2)) (.var 4)) (.ci 1)) (.var 5)) (.var 6))) .nil))
def b_answers_to : I := .cons (.set true 3 (.lst .nil)) (.cons (.set false 4 (.ci 0)) (.cons (.for_ (.var 5) (.itE (.var 2)) b_answers_to_1) (.cons (.ret (.bi .tuple (.cons (.var 3) .nil))) .nil)))
def fn_answers_to : Fn := ⟨3, 4, b_answers_to⟩
def b_law_same : I := .cons (.ife (.lor (.isI (.var 1) .tuple) (.isI (.var 1) .list)) (.cons (.ife (.lor (.op2 .ne (.isI (.var 1) .tuple) (.isI (.var 0) .tuple)) (.lor (.op2 .ne (.isI (.var 1) .list) (.isI (.var 0) .list)) (.op2 .ne (.bi .len (.cons (.var 0) .nil)) (.bi .len (.cons (.var 1) .nil))))) (.cons (.ret (.cb false)) .nil) .nil) (.cons (.ret (.op2 .eq (.bi .len (.cons (.comp [2] (.var 2) (.itR (.rng .nil (.bi .len (.cons (.var 1) .nil)))) (.op1 .not (.call 5 (.cons (.idx (.var 0) (.var 2)) (.cons (.idx (.var 1) (.var 2)) .nil)))) (.var 2)) .nil)) (.ci 0))) .nil)) .nil) (.cons (.ife (.op1 .isN (.var 1)) (.cons (.ret (.op1 .isN (.var 0))) .nil) .nil) (.cons (.ife (.lor (.isI (.var 1) .bool) (.isI (.var 0) .bool)) (.cons (.ret (.land (.isI (.var 1) .bool) (.land (.isI (.var 0) .bool) (.op2 .eq (.var 0) (.var 1))))) .nil) .nil) (.cons (.ife (.isI (.var 1) .int) (.cons (.ret (.land (.isI (.var 0) .int) (.op2 .eq (.var 0) (.var 1)))) .nil) .nil) (.cons (.ret (.land (.isI (.var 0) .str) (.op2 .eq (.var 0) (.var 1)))) .nil))))
def fn_law_same : Fn := ⟨2, 1, b_law_same⟩
def b_law_is_integer : I := .cons (.ret (.land (.isI (.var 0) .int) (.op1 .not (.isI (.var 0) .bool)))) .nil
def fn_law_is_integer : Fn := ⟨1, 0, b_law_is_integer⟩
def b_law_pool_1 : I := .cons (.set false 1 (.op2 .mod (.bi .int (.cons (.op2 .add (.op2 .mul (.var 1) (.ci 31)) (.var 2)) .nil)) (.ci 1000003))) .nil
def b_law_pool : I := .cons (.set false 1 (.ci 7)) (.cons (.for_ (.var 2) (.itE (.sli (.var 0) .nil (.cons (.ci 63) .nil))) b_law_pool_1) (.cons (.ret (.lst (.cons (.bi .list (.cons (.var 0) .nil)) (.cons (.ci 0) (.cons (.ci 0) (.cons (.ci 0) (.cons (.var 1) .nil))))))) .nil))
def fn_law_pool : Fn := ⟨1, 2, b_law_pool⟩
def b_law_spread_1 : I := .cons (.set false 1 (.op2 .mod (.bi .int (.cons (.op2 .add (.op2 .add (.op2 .mul (.var 1) (.ci 48271)) (.ci 12345)) (.var 3)) .nil)) (.ci 2147483647))) (.cons (.set false 2 (.op2 .add (.op2 .mul (.var 2) (.ci 2147483647)) (.var 1))) .nil)
def b_law_spread : I := .cons (.set false 1 (.op2 .mod (.bi .int (.cons (.var 0) .nil)) (.ci 2147483647))) (.cons (.set false 2 (.ci 1)) (.cons (.for_ (.var 3) (.itR (.rng .nil (.ci 4))) b_law_spread_1) (.cons (.ret (.var 2)) .nil)))
def fn_law_spread : Fn := ⟨1, 3, b_law_spread⟩
def b_law_draw : I := .cons (.ife (.land (.op2 .le (.idx (.var 0) (.ci 2)) (.ci 0)) (.op2 .lt (.idx (.var 0) (.ci 1)) (.bi .len (.cons (.idx (.var 0) (.ci 0)) .nil)))) (.cons (.set false 2 (.idx (.idx (.var 0) (.ci 0)) (.idx (.var 0) (.ci 1)))) (.cons (.seti 0 (.ci 1) (.op2 .add (.idx (.var 0) (.ci 1)) (.ci 1))) (.cons (.seti 0 (.ci 2) (.var 2)) (.cons (.ife (.op2 .lt (.var 2) (.ci 1000000000000000000)) (.cons (.seti 0 (.ci 2) (.call 7 (.cons (.var 2) .nil))) .nil) .nil) .nil)))) .nil) (.cons (.seti 0 (.ci 3) (.op2 .add (.idx (.var 0) (.ci 3)) (.ci 1))) (.cons (.ife (.op2 .le (.idx (.var 0) (.ci 2)) (.ci 0)) (.cons (.set false 3 (.op2 .mod (.bi .int (.cons (.op2 .add (.op2 .add (.op2 .mul (.idx (.var 0) (.ci 4)) (.ci 48271)) (.op2 .mul (.idx (.var 0) (.ci 3)) (.ci 69621))) (.ci 1)) .nil)) (.ci 2147483647))) (.cons (.set false 3 (.op2 .mod (.bi .int (.cons (.op2 .add (.op2 .mul (.var 3) (.ci 16807)) (.idx (.var 0) (.ci 3))) .nil)) (.ci 2147483629))) (.cons (.ret (.op2 .mod (.op2 .fdiv (.var 3) (.ci 5)) (.var 1))) .nil))) .nil) (.cons (.set false 4 (.op2 .mod (.bi .int (.cons (.idx (.var 0) (.ci 2)) .nil)) (.var 1))) (.cons (.seti 0 (.ci 2) (.op2 .fdiv (.idx (.var 0) (.ci 2)) (.var 1))) (.cons (.ret (.var 4)) .nil)))))
def fn_law_draw : Fn := ⟨2, 3, b_law_draw⟩
def b_law_bent : I := .cons (.ife (.land (.isI (.var 1) .tuple) (.land (.op2 .gt (.bi .len (.cons (.var 1) .nil)) (.ci 0)) (.op2 .gt (.call 8 (.cons (.marg 0) (.cons (.ci 3) .nil))) (.ci 0)))) (.cons (.set false 2 (.call 8 (.cons (.marg 0) (.cons (.bi .len (.cons (.var 1) .nil)) .nil)))) (.cons (.ret (.op2 .add (.op2 .add (.sli (.var 1) .nil (.cons (.var 2) .nil)) (.tup (.cons (.call 29 (.cons (.marg 0) (.cons (.idx (.var 1) (.var 2)) .nil))) .nil))) (.sli (.var 1) (.cons (.op2 .add (.var 2) (.ci 1)) .nil) .nil))) .nil)) .nil) (.cons (.set false 3 (.call 8 (.cons (.marg 0) (.cons (.ci 9) .nil)))) (.cons (.ife (.op2 .eq (.var 3) (.ci 0)) (.cons (.ret (.idx (.tup (.cons (.cs [120]) (.cons (.cb true) (.cons (.tup .nil) (.cons (.ci 0) (.cons (.op1 .neg (.ci 1)) (.cons .cn (.cons (.cb false) (.cons (.lst .nil) .nil))))))))) (.call 8 (.cons (.marg 0) (.cons (.ci 8) .nil))))) .nil) .nil) (.cons (.ife (.call 27 (.cons (.var 1) .nil)) (.cons (.ret (.op2 .add (.var 1) (.idx (.tup (.cons (.ci 1) (.cons (.op1 .neg (.ci 1)) (.cons (.ci 2) (.cons (.ci 0) .nil))))) (.call 8 (.cons (.marg 0) (.cons (.ci 4) .nil)))))) .nil) .nil) (.cons (.ife (.isI (.var 1) .str) (.cons (.ret (.idx (.tup (.cons (.op2 .add (.var 1) (.cs [97])) (.cons (.sli (.var 1) (.cons (.ci 1) .nil) .nil) (.cons (.op2 .add (.var 1) (.cs [65])) (.cons (.op2 .add (.var 1) (.cs [32])) (.cons (.sli (.var 1) .nil (.cons (.ci 1) .nil)) .nil)))))) (.call 8 (.cons (.marg 0) (.cons (.ci 5) .nil))))) .nil) .nil) (.cons (.ife (.lor (.op1 .not (.isI (.var 1) .tuple)) (.op2 .eq (.bi .len (.cons (.var 1) .nil)) (.ci 0))) (.cons (.ret (.ifE (.op2 .lt (.var 3) (.ci 5)) (.tup (.cons (.var 1) (.cons (.ci 0) .nil))) (.tup .nil))) .nil) .nil) (.cons (.set false 2 (.call 8 (.cons (.marg 0) (.cons (.bi .len (.cons (.var 1) .nil)) .nil)))) (.cons (.ife (.op2 .lt (.var 3) (.ci 3)) (.cons (.ret (.op2 .add (.sli (.var 1) .nil (.cons (.var 2) .nil)) (.sli (.var 1) (.cons (.op2 .add (.var 2) (.ci 1)) .nil) .nil))) .nil) .nil) (.cons (.ife (.op2 .lt (.var 3) (.ci 5)) (.cons (.ret (.op2 .add (.op2 .add (.sli (.var 1) .nil (.cons (.var 2) .nil)) (.tup (.cons (.idx (.var 1) (.var 2)) .nil))) (.sli (.var 1) (.cons (.var 2) .nil) .nil))) .nil) .nil) (.cons (.ife (.op2 .eq (.var 3) (.ci 5)) (.cons (.ret (.bi .list (.cons (.var 1) .nil))) .nil) .nil) (.cons (.set false 4 (.call 8 (.cons (.marg 0) (.cons (.bi .len (.cons (.var 1) .nil)) .nil)))) (.cons (.set true 5 (.bi .list (.cons (.var 1) .nil))) (.cons (.seti 5 (.var 2) (.idx (.var 1) (.var 4))) (.cons (.seti 5 (.var 4) (.idx (.var 1) (.var 2))) (.cons (.ret (.bi .tuple (.cons (.var 5) .nil))) .nil))))))))))))))
def fn_law_bent : Fn := ⟨2, 4, b_law_bent⟩
def b_law_talk_1 : I := .cons (.set false 6 (.bi .tuple (.cons (.comp [7] (.var 7) (.itR (.rng .nil (.var 1))) (.cb true) (.bi .tuple (.cons (.comp [8] (.var 8) (.itR (.rng .nil (.var 2))) (.cb true) (.call 8 (.cons (.marg 0) (.cons (.var 3) .nil)))) .nil))) .nil))) (.cons (.set false 4 (.op2 .add (.var 4) (.tup (.cons (.tup (.cons (.call 8 (.cons (.marg 0) (.cons (.ci 5) .nil))) (.cons (.var 6) .nil))) .nil)))) .nil)
def b_law_talk : I := .cons (.setp (.tup (.cons (.var 1) (.cons (.var 2) (.cons (.var 3) .nil)))) (.tup (.cons (.op2 .add (.ci 1) (.call 8 (.cons (.marg 0) (.cons (.ci 3) .nil)))) (.cons (.op2 .add (.ci 1) (.call 8 (.cons (.marg 0) (.cons (.ci 3) .nil)))) (.cons (.op2 .add (.ci 1) (.call 8 (.cons (.marg 0) (.cons (.ci 4) .nil)))) .nil))))) (.cons (.set false 4 (.tup .nil)) (.cons (.for_ (.var 5) (.itR (.rng .nil (.var 3))) b_law_talk_1) (.cons (.ret (.tup (.cons (.var 1) (.cons (.var 2) (.cons (.var 4) .nil))))) .nil)))
def fn_law_talk : Fn := ⟨1, 8, b_law_talk⟩
def b_law_is_talk_2 : I := .cons (.ife (.lor (.op1 .not (.isI (.var 5) .tuple)) (.lor (.op2 .ne (.bi .len (.cons (.var 5) .nil)) (.var 2)) (.op2 .gt (.bi .len (.cons (.comp [6] (.var 6) (.itE (.var 5)) (.lor (.op1 .not (.call 27 (.cons (.var 6) .nil))) (.lor (.op2 .lt (.var 6) (.ci 0)) (.op2 .ge (.var 6) (.bi .len (.cons (.var 3) .nil))))) (.var 6)) .nil)) (.ci 0)))) (.cons (.ret (.cb false)) .nil) .nil) .nil
def b_law_is_talk_1 : I := .cons (.ife (.lor (.op1 .not (.isI (.var 4) .tuple)) (.lor (.op2 .ne (.bi .len (.cons (.var 4) .nil)) (.ci 2)) (.lor (.op1 .not (.call 27 (.cons (.idx (.var 4) (.ci 0)) .nil))) (.lor (.op2 .lt (.idx (.var 4) (.ci 0)) (.ci 0)) (.lor (.op2 .gt (.idx (.var 4) (.ci 0)) (.ci 7)) (.lor (.op1 .not (.isI (.idx (.var 4) (.ci 1)) .tuple)) (.op2 .ne (.bi .len (.cons (.idx (.var 4) (.ci 1)) .nil)) (.var 1)))))))) (.cons (.ret (.cb false)) .nil) .nil) (.cons (.for_ (.var 5) (.itE (.idx (.var 4) (.ci 1))) b_law_is_talk_2) .nil)
def b_law_is_talk : I := .cons (.ife (.lor (.op1 .not (.isI (.var 0) .tuple)) (.lor (.op2 .ne (.bi .len (.cons (.var 0) .nil)) (.ci 3)) (.lor (.op1 .not (.call 27 (.cons (.idx (.var 0) (.ci 0)) .nil))) (.lor (.op1 .not (.call 27 (.cons (.idx (.var 0) (.ci 1)) .nil))) (.op1 .not (.isI (.idx (.var 0) (.ci 2)) .tuple)))))) (.cons (.ret (.cb false)) .nil) .nil) (.cons (.setp (.tup (.cons (.var 1) (.cons (.var 2) (.cons (.var 3) .nil)))) (.var 0)) (.cons (.ife (.lor (.op2 .lt (.var 1) (.ci 1)) (.lor (.op2 .gt (.var 1) (.ci 3)) (.lor (.op2 .lt (.var 2) (.ci 1)) (.lor (.op2 .gt (.var 2) (.ci 3)) (.lor (.op2 .lt (.bi .len (.cons (.var 3) .nil)) (.ci 1)) (.op2 .gt (.bi .len (.cons (.var 3) .nil)) (.ci 5))))))) (.cons (.ret (.cb false)) .nil) .nil) (.cons (.for_ (.var 4) (.itE (.var 3)) b_law_is_talk_1) (.cons (.ret (.cb true)) .nil))))
def fn_law_is_talk : Fn := ⟨1, 6, b_law_is_talk⟩
def b_law_k35_1 : I := .cons (.app 7 (.tup (.cons (.ci 1) (.cons (.bi .tuple (.cons (.comp [10] (.var 10) (.itR (.rng .nil (.var 3))) (.cb true) (.op2 .add (.op2 .add (.var 6) (.op2 .mul (.var 9) (.var 3))) (.var 10))) .nil)) .nil)))) (.cons (.set false 8 (.op2 .add (.var 8) (.comp [11] (.var 11) (.itE (.idx (.idx (.var 5) (.var 9)) (.ci 1))) (.cb true) (.tup (.cons (.ci 0) (.cons (.bi .tuple (.cons (.bi .sset (.cons (.var 11) .nil)) .nil)) .nil)))))) .nil)
def b_law_k35_2 : I := .cons (.app 17 (.idx (.idx (.var 14) (.var 16)) (.var 10))) (.cons (.set false 16 (.idx (.idx (.idx (.idx (.var 5) (.var 16)) (.ci 1)) (.var 10)) (.idx (.idx (.var 14) (.var 16)) (.var 10)))) .nil)
def b_law_k35_3 : I := .cons (.set false 23 (.bi .repr (.cons (.var 21) .nil))) (.cons (.ife (.lor (.op1 .not (.call 5 (.cons (.call 250 (.cons (.var 21) .nil)) (.cons (.call 254 (.cons (.var 21) .nil)) .nil)))) (.op2 .ne (.bi .repr (.cons (.var 21) .nil)) (.var 23))) (.cons (.ret (.cb false)) .nil) .nil) .nil)
def b_law : I := .cons (.set true 1 (.call 6 (.cons (.var 0) .nil))) (.cons (.set false 2 (.call 253 (.cons (.marg 1) .nil))) (.cons (.setp (.tup (.cons (.var 3) (.cons (.var 4) (.cons (.var 5) .nil)))) (.var 2)) (.cons (.set false 6 (.bi .len (.cons (.var 5) .nil))) (.cons (.set true 7 (.lst .nil)) (.cons (.set false 8 (.lst .nil)) (.cons (.for_ (.var 9) (.itR (.rng .nil (.var 6))) b_law_k35_1) (.cons (.set false 12 (.op2 .add (.bi .tuple (.cons (.comp [13] (.var 13) (.itE (.var 5)) (.cb true) (.idx (.var 13) (.ci 0))) .nil)) (.op2 .mul (.tup (.cons (.ci 0) .nil)) (.op2 .mul (.var 6) (.var 3))))) (.cons (.ife (.op1 .not (.call 5 (.cons (.lst (.cons (.call 250 (.cons (.var 2) .nil)) (.cons (.call 251 (.cons (.var 2) .nil)) .nil))) (.cons (.lst (.cons (.cb true) (.cons (.tup (.cons (.bi .tuple (.cons (.op2 .add (.var 7) (.var 8)) .nil)) (.cons (.var 12) .nil))) .nil))) .nil)))) (.cons (.ret (.cb false)) .nil) .nil) (.cons (.set false 14 (.bi .tuple (.cons (.comp [9] (.var 9) (.itR (.rng .nil (.var 6))) (.cb true) (.bi .tuple (.cons (.comp [10] (.var 10) (.itR (.rng .nil (.var 3))) (.cb true) (.call 8 (.cons (.marg 1) (.cons (.var 4) .nil)))) .nil))) .nil))) (.cons (.set false 15 (.bi .tuple (.cons (.comp [9] (.var 9) (.itR (.rng .nil (.call 8 (.cons (.marg 1) (.cons (.ci 9) .nil))))) (.cb true) (.call 8 (.cons (.marg 1) (.cons (.var 3) .nil)))) .nil))) (.cons (.set false 16 (.ci 0)) (.cons (.set true 17 (.lst .nil)) (.cons (.for_ (.var 10) (.itE (.var 15)) b_law_k35_2) (.cons (.ife (.op1 .not (.call 5 (.cons (.call 252 (.cons (.var 14) (.cons (.var 2) (.cons (.var 15) .nil)))) (.cons (.bi .tuple (.cons (.var 17) .nil)) .nil)))) (.cons (.ret (.cb false)) .nil) .nil) (.cons (.setp (.tup (.cons (.var 18) (.cons (.var 19) .nil))) (.idx (.var 5) (.ci 0))) (.cons (.set false 20 (.lst (.cons (.var 2) (.cons (.bi .list (.cons (.var 2) .nil)) (.cons (.sli (.var 2) .nil (.cons (.ci 2) .nil)) (.cons (.op2 .add (.var 2) (.tup (.cons (.ci 0) .nil))) (.cons (.tup (.cons (.var 3) (.cons (.var 4) (.cons (.tup .nil) .nil)))) (.cons (.tup (.cons (.var 3) (.cons (.var 4) (.cons (.op2 .mul (.var 5) (.ci 6)) .nil)))) (.cons (.tup (.cons (.ci 4) (.cons (.var 4) (.cons (.var 5) .nil)))) (.cons (.tup (.cons (.var 3) (.cons (.ci 0) (.cons (.var 5) .nil)))) (.cons (.tup (.cons (.cb true) (.cons (.var 4) (.cons (.var 5) .nil)))) .nil))))))))))) (.cons (.set false 20 (.op2 .add (.var 20) (.lst (.cons (.tup (.cons (.var 3) (.cons (.var 4) (.cons (.op2 .add (.tup (.cons (.tup (.cons (.ci 8) (.cons (.var 19) .nil))) .nil)) (.sli (.var 5) (.cons (.ci 1) .nil) .nil)) .nil)))) (.cons (.tup (.cons (.var 3) (.cons (.var 4) (.cons (.op2 .add (.tup (.cons (.tup (.cons (.var 18) (.cons (.sli (.var 19) .nil (.cons (.op1 .neg (.ci 1)) .nil)) .nil))) .nil)) (.sli (.var 5) (.cons (.ci 1) .nil) .nil)) .nil)))) .nil))))) (.cons (.set false 20 (.op2 .add (.var 20) (.lst (.cons (.tup (.cons (.var 3) (.cons (.var 4) (.cons (.op2 .add (.tup (.cons (.tup (.cons (.var 18) (.cons (.op2 .mul (.tup (.cons (.op2 .mul (.tup (.cons (.var 6) .nil)) (.var 4)) .nil)) (.var 3)) .nil))) .nil)) (.sli (.var 5) (.cons (.ci 1) .nil) .nil)) .nil)))) (.cons (.tup (.cons (.var 3) (.cons (.var 4) (.cons (.bi .list (.cons (.var 5) .nil)) .nil)))) (.cons .cn .nil)))))) (.cons (.for_ (.var 21) (.itE (.op2 .add (.var 20) (.comp [22] (.var 22) (.itR (.rng .nil (.ci 6))) (.cb true) (.call 29 (.cons (.marg 1) (.cons (.var 2) .nil)))))) b_law_k35_3) (.cons (.ret (.cb true)) .nil))))))))))))))))))))
def fn_law : Fn := ⟨1, 23, b_law⟩
end DL
/-! P1: evaluation by rewriting. -/
namespace DL
open PySem PySem.Spec PyProof.Rows L2

theorem small_le {n : Nat} (h : n ≤ 1048576) : n ≤ sizeLine := Nat.le_trans h (by decide)
theorem small_lt {n : Nat} (h : n < 1048576) : n < sizeLine := Nat.lt_of_lt_of_le h (by decide)
/-! rewriting does not enter what comes later: the result's type names it -/
abbrev RT {α β : Type} (_ : α → R β) : Type := R β
def bindX {α β : Type} (x : R α) (f : α → R β) : RT f := x.bind f
abbrev RTF (_ : D → DS → R (Out × DS)) : Type := R (Out × DS)
def loopFX (b : D → DS → R (Out × DS)) (xs : List D) (d : DS) : RTF b := loopF b xs d
abbrev RTC (_ : D → DS → R (Option D × DS)) : Type := R (List D × DS)
def loopCX (b : D → DS → R (Option D × DS)) (xs : List D) (d : DS) (acc : List D) : RTC b := loopC b xs d acc
abbrev RTW (_ : DS → R (Bool × DS)) (_ : DS → R (Out × DS)) : Type := R (Out × DS)
noncomputable def whileX (c : DS → R (Bool × DS)) (b : DS → R (Out × DS)) (d : DS) : RTW c b := whileR c b d
theorem bind_toX {α β : Type} (x : R α) (f : α → R β) : x.bind f = bindX x f := rfl
theorem loopF_toX (b : D → DS → R (Out × DS)) (xs : List D) (d : DS) : loopF b xs d = loopFX b xs d := rfl
theorem loopC_toX (b : D → DS → R (Option D × DS)) (xs : List D) (d : DS) (acc : List D) : loopC b xs d acc = loopCX b xs d acc := rfl
theorem while_toX (c : DS → R (Bool × DS)) (b : DS → R (Out × DS)) (d : DS) : whileR c b d = whileX c b d := rfl
theorem bindX_ok {α β : Type} {a : α} {f : α → R β} : bindX (.ok a) f = f a := rfl
theorem bindX_assoc {α β γ : Type} {x : R α} {f : α → R β} {g : β → R γ} : bindX (bindX x f) g = bindX x fun a => bindX (f a) g := by cases x <;> rfl
def Wp {α : Type} (r : R α) (Q : α → Prop) : Prop := ∃ a, r = .ok a ∧ Q a
abbrev PT {α : Type} (_ : α → Prop) : Type := Prop
def WpX {α : Type} (r : R α) (Q : α → Prop) : PT Q := Wp r Q
theorem wp_toX {α : Type} (r : R α) (Q : α → Prop) : Wp r Q = WpX r Q := rfl
theorem wp_ofX {α : Type} (r : R α) (Q : α → Prop) : WpX r Q = Wp r Q := rfl
theorem wp_okE {α : Type} {a : α} {Q : α → Prop} : Wp (.ok a) Q = Q a := propext ⟨fun ⟨b, e, h⟩ => by cases e; exact h, fun h => ⟨a, rfl, h⟩⟩
theorem wpX_ok {α : Type} {a : α} {Q : α → Prop} : WpX (.ok a) Q = Q a := wp_okE
theorem wp_ok {α : Type} {a : α} {Q : α → Prop} (h : Q a) : Wp (.ok a) Q := ⟨a, rfl, h⟩
theorem wp_bind {α β : Type} {x : R α} {f : α → R β} {Q : β → Prop} (h : Wp x fun a => Wp (f a) Q) : Wp (x.bind f) Q := by
  obtain ⟨a, e1, b, e, q⟩ := h
  exact ⟨b, by rw [e1]; exact e, q⟩
theorem wp_mono {α : Type} {x : R α} {Q Q' : α → Prop} (h : Wp x Q) (m : ∀ a, Q a → Q' a) : Wp x Q' := by
  obtain ⟨a, e, q⟩ := h
  exact ⟨a, e, m a q⟩
theorem wp_of {α : Type} {x : R α} {a : α} {Q : α → Prop} (h : x = .ok a) (q : Q a) : Wp x Q := ⟨a, h, q⟩
theorem wp_eq {α : Type} {x : R α} {a : α} (h : Wp x fun b => b = a) : x = .ok a := by
  obtain ⟨b, e, rfl⟩ := h
  exact e
theorem bind_okE {α β : Type} {a : α} {f : α → R β} : (R.ok a).bind f = f a := rfl
theorem bind_assocE {α β γ : Type} {x : R α} {f : α → R β} {g : β → R γ} : (x.bind f).bind g = x.bind fun a => (f a).bind g := by cases x <;> rfl
theorem opt_some {α : Type} {a : α} : R.opt (some a) = .ok a := rfl
theorem opd_val {d : DS} {f : Bool} {x : D} : opd d (.val f x) = some x := rfl
theorem opd_bor {d : DS} {i : Nat} : opd d (.bor i) = (d[i]?).bind slotD := rfl
theorem slotD_imm {x : D} : slotD (.imm x) = some x := rfl
theorem slotD_own {x : D} {p : Bool} : slotD (.own p x) = some x := rfl
theorem fz_val {d : DS} {f : Bool} {x : D} : fz d (.val f x) = some (x, d) := rfl
theorem obind_some {α β : Type} {a : α} {f : α → Option β} : (some a).bind f = f a := rfl
theorem omap_some {α β : Type} {a : α} {f : α → β} : (some a).map f = some (f a) := rfl
theorem ofInt_int {i : Int} : ofInt (.int i) = some i := rfl
theorem ofBool_bool {b : Bool} : ofBool (.bool b) = some b := rfl
theorem items_list {xs : List D} : items (.list xs) = some xs := rfl
theorem items_tuple {xs : List D} : items (.tuple xs) = some xs := rfl
section
variable {a b : Int} {x y : D}
theorem run_add : O2.run .add (.int a) (.int b) = some (.int (a + b)) := rfl
theorem run_sub : O2.run .sub (.int a) (.int b) = some (.int (a - b)) := rfl
theorem run_mul : O2.run .mul (.int a) (.int b) = if small a || small b then some (.int (a * b)) else none := rfl
theorem run_fdiv : O2.run .fdiv (.int a) (.int b) = if b ≠ 0 ∧ b.natAbs < 1073741824 then some (.int (a.fdiv b)) else none := rfl
theorem run_mod : O2.run .mod (.int a) (.int b) = if b ≠ 0 then some (.int (a.fmod b)) else none := rfl
theorem run_lt : O2.run .lt (.int a) (.int b) = some (.bool (decide (a < b))) := rfl
theorem run_le : O2.run .le (.int a) (.int b) = some (.bool (decide (a ≤ b))) := rfl
theorem run_gt : O2.run .gt (.int a) (.int b) = some (.bool (decide (b < a))) := rfl
theorem run_ge : O2.run .ge (.int a) (.int b) = some (.bool (decide (b ≤ a))) := rfl
theorem shp_int : shp (.int a) = true := rfl
theorem shp_none : shp .none = true := rfl
theorem shp_bool {b : Bool} : shp (.bool b) = true := rfl
theorem run_eqI : O2.run .eq (.int a) (.int b) = some (.bool (decide (a = b))) := by
  show some (PyData.bool (PyData.eqv (.int a) (.int b))) = _
  unfold PyData.eqv
  rfl
theorem run_neI : O2.run .ne (.int a) (.int b) = some (.bool (!decide (a = b))) := by
  show some (PyData.bool (!PyData.eqv (.int a) (.int b))) = _
  unfold PyData.eqv
  rfl
theorem run_isN : O1.run .isN x = some (.bool (isNone x)) := rfl
theorem run_notN : O1.run .notN x = some (.bool (!isNone x)) := rfl
theorem run_not {b : Bool} : O1.run .not (.bool b) = some (.bool (!b)) := rfl
theorem run_neg : O1.run .neg (.int a) = some (.int (-a)) := rfl
theorem run_addL {u v : List D} (h : u.length + v.length ≤ sizeLine) : O2.run .add (.list u) (.list v) = some (.list (u ++ v)) := by
  show (if _ then _ else _) = _
  rw [if_pos h]
theorem run_addT {u v : List D} (h : u.length + v.length ≤ sizeLine) : O2.run .add (.tuple u) (.tuple v) = some (.tuple (u ++ v)) := by
  show (if _ then _ else _) = _
  rw [if_pos h]
theorem idx_list {xs : List D} : idxD (.list xs) (.int a) = atI xs a := rfl
theorem idx_tuple {xs : List D} : idxD (.tuple xs) (.int a) = atI xs a := rfl
theorem sli_list {xs : List D} {lo hi : Option Int} : sliD (.list xs) lo hi = some (.list (sliceD xs lo hi)) := rfl
theorem sli_tuple {xs : List D} {lo hi : Option Int} : sliD (.tuple xs) lo hi = some (.tuple (sliceD xs lo hi)) := rfl
theorem sli_scr {xs : List D} {lo hi : Option Int} : sliD (scrD xs) lo hi = some (.list (sliceD xs lo hi)) := rfl
theorem b_lenL {xs : List D} : B1.run .len [.list xs] = some (.int xs.length) := rfl
theorem b_lenT {xs : List D} : B1.run .len [.tuple xs] = some (.int xs.length) := rfl
theorem b_listS {xs : List D} : B1.run .list [scrD xs] = some (.list xs) := rfl
theorem b_listL {xs : List D} : B1.run .list [.list xs] = some (.list xs) := rfl
theorem b_listT {xs : List D} : B1.run .list [.tuple xs] = some (.list xs) := rfl
theorem b_tupL {xs : List D} : B1.run .tuple [.list xs] = some (.tuple xs) := rfl
theorem b_tupT {xs : List D} : B1.run .tuple [.tuple xs] = some (.tuple xs) := rfl
theorem b_max2 : B1.run .max [.int a, .int b] = some (.int (if b > a then b else a)) := rfl
theorem b_min2 : B1.run .min [.int a, .int b] = some (.int (if b < a then b else a)) := rfl
theorem b_int : B1.run .int [.int a] = some (.int a) := rfl
theorem b_any {bs : List Bool} : B1.run .any [.list (bs.map .bool)] = some (.bool (bs.any id)) := by
  have : allBools (bs.map PyData.bool) = some bs := by
    induction bs with
    | nil => rfl
    | cons c r ih => rw [List.map_cons, allBools, ih]; rfl
  show (allBools (bs.map PyData.bool)).map _ = _
  rw [this]; rfl
theorem b_all {bs : List Bool} : B1.run .all [.list (bs.map .bool)] = some (.bool (bs.all id)) := by
  have : allBools (bs.map PyData.bool) = some bs := by
    induction bs with
    | nil => rfl
    | cons c r ih => rw [List.map_cons, allBools, ih]; rfl
  show (allBools (bs.map PyData.bool)).map _ = _
  rw [this]; rfl
end
theorem mapM_nilO {f : RV → Option D} : ([] : List RV).mapM f = some [] := rfl
theorem mapM_consO {f : RV → Option D} {a : RV} {r : List RV} : (a :: r).mapM f = (f a).bind fun x => (r.mapM f).map (x :: ·) := by
  rw [List.mapM_cons]
  cases f a with
  | none => rfl
  | some x => cases h : r.mapM f <;> simp [h]
theorem fz_bor {d : DS} {i : Nat} : fz d (.bor i) = match d[i]? with
    | some (.own false x) => some (x, d.set i (.imm x))
    | some (.imm x) => some (x, d)
    | _ => none := rfl
theorem small_c {a b : Int} (h : small b = true) : O2.run .mul (.int a) (.int b) = some (.int (a * b)) := by
  rw [run_mul, h, Bool.or_true]; rfl
theorem argsOf_nil {d : DS} : argsOf d [] = some [] := rfl
theorem argsOf_v {d : DS} {x : D} {r : List AV} : argsOf d (.v x :: r) = (argsOf d r).map ((false, x) :: ·) := rfl
theorem argsOf_m {d : DS} {i : Nat} {p : Bool} {x : D} {r : List AV} (h : d[i]? = some (.own p x)) : argsOf d (.m i :: r) = (argsOf d r).map ((true, x) :: ·) := by
  have : argOf d (.m i) = some (true, x) := by
    show (match d[i]? with
      | some (.own _ x) => some (true, x)
      | _ => none) = _
    rw [h]
  show (argOf d (.m i)).bind _ = _
  rw [this]; rfl
theorem putB_nil {d : DS} : putBack d [] [] = some d := rfl
theorem putB_one {d : DS} {i : Nat} {p : Bool} {x y : D} (h : d[i]? = some (.own p y)) : putBack d [i] [x] = some (d.set i (.own p x)) := by
  unfold putBack
  rw [h]; rfl
theorem retD_val {d : DS} {f : Bool} {x : D} : retD d (.val f x) = some (f, x) := rfl
theorem retD_bor {d : DS} {i : Nat} : retD d (.bor i) = match d[i]? with
    | some (.own false x) => some (true, x)
    | some (.imm x) => some (false, x)
    | _ => none := rfl
theorem outs_nil {d : DS} : outs [] d = some [] := by unfold outs; rfl
theorem outs_f {x : D} {r : List (Bool × D)} {s : Slot} {d : DS} : outs ((false, x) :: r) (s :: d) = outs r d := rfl
theorem outs_t {x y : D} {r : List (Bool × D)} {d : DS} : outs ((true, x) :: r) (.own true y :: d) = (outs r d).map (y :: ·) := rfl
theorem slotOf_f {x : D} : slotOf (false, x) = .imm x := rfl
theorem slotOf_t {x : D} : slotOf (true, x) = .own true x := rfl
theorem bindP_var {i : Nat} {x : D} {d : DS} : bindP (.var i) x d = if i < d.length then .ok (d.set i (.imm x)) else .no := rfl
theorem bindP_tup {ps : I} {xs : List D} {d : DS} : bindP (.tup ps) (.tuple xs) d = bindPs ps xs d := rfl
theorem bindPs_nil {d : DS} : bindPs .nil [] d = .ok d := rfl
theorem bindPs_cons {p ps : I} {x : D} {xs : List D} {d : DS} : bindPs (.cons p ps) (x :: xs) d = (bindP p x d).bind fun d1 => bindPs ps xs d1 := rfl
theorem wipe_nil {d : DS} : wipeD d [] = d := rfl
theorem wipe_cons {d : DS} {v : Nat} {vs : List Nat} : wipeD d (v :: vs) = (wipeD d vs).set v .emp := rfl
theorem back_nil {d d' : DS} : backD d d' [] = d' := rfl
theorem back_cons {d d' : DS} {v : Nat} {vs : List Nat} : backD d d' (v :: vs) = (backD d d' vs).set v ((d[v]?).getD .emp) := rfl
theorem runFn_eq {gcs : Nat → Option D} {cd : CallSem} {np nl : Nat} {b : I} {args : List (Bool × D)} (h : args.length = np) :
    runFn gcs cd ⟨np, nl, b⟩ args = (evS gcs cd b (args.map slotOf ++ List.replicate nl .emp)).bind fun q =>
      (R.opt (outs args q.2)).bind fun os => match q.1 with
        | .rt r => (R.opt (retD q.2 r)).bind fun v => .ok (os, v)
        | .nx => .ok (os, true, .none)
        | _ => .no := by
  unfold runFn
  rw [if_pos h]
  try rfl
theorem wp_run {gcs : Nat → Option D} {cd : CallSem} {f : Fn} {args : List (Bool × D)} {Q : List D × Bool × D → Prop} (h : args.length = f.np) (w : Wp ((evS gcs cd f.body (args.map slotOf ++ List.replicate f.nl .emp)).bind fun q =>
      (R.opt (outs args q.2)).bind fun os => match q.1 with
        | .rt r => (R.opt (retD q.2 r)).bind fun v => .ok (os, v)
        | .nx => .ok (os, true, .none)
        | _ => .no) Q) : Wp (runFn gcs cd f args) Q := by
  rw [show runFn gcs cd f args = _ from runFn_eq (np := f.np) (nl := f.nl) (b := f.body) h]
  exact w
theorem rng_nil {a : Int} (h : a ≤ 0) : rangeD 0 a = [] := by
  unfold rangeD
  rw [show (a - 0).toNat = 0 by omega]; rfl
theorem rng_nat (n : Nat) : rangeD 0 (n : Int) = (List.range n).map fun i => PyData.int (i : Nat) := by
  unfold rangeD
  rw [show ((n : Int) - 0).toNat = n by omega]
  apply List.map_congr_left
  intro i _
  show PyData.int (0 + (i : Int)) = _
  rw [Int.zero_add]
theorem inR_nat {n : Nat} (h : n ≤ 1048576) : inR (n : Int) = true := by
  unfold inR
  rw [Bool.and_eq_true, decide_eq_true_eq, decide_eq_true_eq]
  constructor <;> omega
theorem sm1 : small 48271 = true := by decide +kernel
theorem sm2 : small 2147483647 = true := by decide +kernel
theorem sm3 : small 31 = true := by decide +kernel
theorem sm4 : small 69621 = true := by decide +kernel
theorem sm5 : small 16807 = true := by decide +kernel
theorem at0 {a : D} {xs : List D} : atI (a :: xs) 0 = some a := atI_nat (j := 0) rfl
theorem at1 {a b : D} {xs : List D} : atI (a :: b :: xs) 1 = some b := atI_nat (j := 1) rfl
theorem at2 {a b c : D} {xs : List D} : atI (a :: b :: c :: xs) 2 = some c := atI_nat (j := 2) rfl
theorem at3 {a b c e : D} {xs : List D} : atI (a :: b :: c :: e :: xs) 3 = some e := atI_nat (j := 3) rfl
theorem at4 {a b c e f : D} {xs : List D} : atI (a :: b :: c :: e :: f :: xs) 4 = some f := atI_nat (j := 4) rfl
theorem ix51 : ixN 5 1 = some 1 := by decide +kernel
theorem ix52 : ixN 5 2 = some 2 := by decide +kernel
theorem ix53 : ixN 5 3 = some 3 := by decide +kernel
theorem na5 : (5 : Int).natAbs = 5 := rfl
theorem argsOf_mE {d : DS} {i : Nat} {r : List AV} : argsOf d (.m i :: r) = (argOf d (.m i)).bind fun x => (argsOf d r).map (x :: ·) := rfl
theorem sz0 : (0 ≤ sizeLine) = True := eq_true (by decide)
theorem sz1 : (1 ≤ sizeLine) = True := eq_true (by decide)
theorem sz2 : (2 ≤ sizeLine) = True := eq_true (by decide)
theorem sz3 : (3 ≤ sizeLine) = True := eq_true (by decide)
theorem sz4 : (4 ≤ sizeLine) = True := eq_true (by decide)
theorem sz5 : (5 ≤ sizeLine) = True := eq_true (by decide)
theorem aug_i {a b : Int} : augD .add (.int a) (.int b) = some (.int (a + b)) := rfl
theorem inR_0 : inR 0 = true := by decide +kernel
theorem run_mod0 {a b : Int} (h : b ≠ 0) : O2.run .mod (.int a) (.int b) = some (.int (a.fmod b)) := by rw [run_mod, if_pos h]
theorem run_fdiv0 {a b : Int} (h : b ≠ 0) (h2 : b.natAbs < 1073741824) : O2.run .fdiv (.int a) (.int b) = some (.int (a.fdiv b)) := by rw [run_fdiv, if_pos ⟨h, h2⟩]
/-- one statement, then the rest -/
theorem wp_seq {gcs : Nat → Option D} {cd : CallSem} {a b : I} {d : DS} {α : Type} {k : Out × DS → R α} {Q : α → Prop} (J : DS → Prop) (h1 : Wp (evS gcs cd a d) fun q => q.1 = .nx ∧ J q.2) (h2 : ∀ d', J d' → Wp ((evS gcs cd b d').bind k) Q) :
    Wp ((evS gcs cd (.cons a b) d).bind k) Q := by
  obtain ⟨⟨o, d'⟩, e, rfl, j⟩ := h1
  rw [evS, e, bind_okE]
  exact h2 d' j
/-- a for loop by an invariant -/
theorem wp_loopF {b : D → DS → R (Out × DS)} {xs : List D} {d : DS} {Q : Out × DS → Prop} (I : Nat → DS → Prop) (h0 : I 0 d)
    (hs : ∀ i x d, xs[i]? = some x → I i d → Wp (b x d) fun q => (q.1 = .nx ∨ q.1 = .ct) ∧ I (i + 1) q.2) (hq : ∀ d', I xs.length d' → Q (.nx, d')) : Wp (loopF b xs d) Q := by
  induction xs generalizing I d with
  | nil => exact ⟨_, rfl, hq d h0⟩
  | cons x xs ih =>
    obtain ⟨⟨o, d1⟩, e, q1, q2⟩ := hs 0 x d rfl h0
    have hn := ih (I := fun i => I (i + 1)) q2 (fun i x d h hi => hs (i + 1) x d (by simpa using h) hi) (fun d' h => hq d' h)
    unfold loopF
    rw [e]
    rcases q1 with rfl | rfl <;> exact hn
theorem wp_loopW {c : DS → R (Bool × DS)} {b : DS → R (Out × DS)} {Q : Out × DS → Prop} (I : Nat → DS → Prop)
    (hs : ∀ n d, I n d → Wp (c d) fun r => (r.1 = false → Q (.nx, r.2)) ∧ (r.1 = true → ∃ m, n = m + 1 ∧ Wp (b r.2) fun q => (q.1 = .nx ∨ q.1 = .ct) ∧ I m q.2)) : ∀ (n : Nat) (d : DS), I n d → ∃ r, loopW c b (n + 1) d = .ok r ∧ Q r := by
  intro n
  induction n with
  | zero =>
    intro d h
    obtain ⟨⟨k, d1⟩, e, h1, h2⟩ := hs 0 d h
    cases k with
    | false => exact ⟨_, by rw [loopW, e]; rfl, h1 rfl⟩
    | true =>
      obtain ⟨m, e2, _⟩ := h2 rfl
      cases e2
  | succ n ih =>
    intro d h
    obtain ⟨⟨k, d1⟩, e, h1, h2⟩ := hs (n + 1) d h
    cases k with
    | false => exact ⟨_, by rw [loopW, e]; rfl, h1 rfl⟩
    | true =>
      obtain ⟨m, e2, ⟨o, d2⟩, e3, q1, q2⟩ := h2 rfl
      cases e2
      obtain ⟨r, e4, q⟩ := ih d2 q2
      refine ⟨r, ?_, q⟩
      rw [loopW, e, bind_okE]
      dsimp only
      rw [e3]
      rcases q1 with rfl | rfl <;> exact e4
/-- a while loop by an invariant with a measure -/
theorem wp_while {c : DS → R (Bool × DS)} {b : DS → R (Out × DS)} {d : DS} {Q : Out × DS → Prop} (I : Nat → DS → Prop) (n : Nat) (h0 : I n d)
    (hs : ∀ n d, I n d → Wp (c d) fun r => (r.1 = false → Q (.nx, r.2)) ∧ (r.1 = true → ∃ m, n = m + 1 ∧ Wp (b r.2) fun q => (q.1 = .nx ∨ q.1 = .ct) ∧ I m q.2)) : Wp (whileR c b d) Q := by
  obtain ⟨r, e, q⟩ := wp_loopW I hs n d h0
  exact ⟨r, whileR_of e, q⟩
/-- a comprehension that changes nothing -/
theorem wp_loopC {b : D → DS → R (Option D × DS)} (g : D → Option D) {xs : List D} {d : DS} {acc : List D} {Q : List D × DS → Prop}
    (hs : ∀ x ∈ xs, b x d = .ok (g x, d)) (hl : acc.length + xs.length ≤ sizeLine) (hq : Q (acc ++ xs.filterMap g, d)) : Wp (loopC b xs d acc) Q := by
  induction xs generalizing acc with
  | nil => rw [List.filterMap_nil, List.append_nil] at hq; exact ⟨_, rfl, hq⟩
  | cons x xs ih =>
    unfold loopC
    rw [hs x List.mem_cons_self, bind_okE]
    rw [List.length_cons] at hl
    cases hg : g x with
    | none =>
      dsimp only
      rw [List.filterMap_cons, hg] at hq
      exact ih (fun y hy => hs y (List.mem_cons_of_mem _ hy)) (by omega) hq
    | some y =>
      dsimp only
      rw [if_pos (by omega)]
      rw [List.filterMap_cons, hg] at hq
      refine ih (fun y hy => hs y (List.mem_cons_of_mem _ hy)) (by rw [List.length_append, List.length_singleton]; omega) ?_
      rw [List.append_assoc]; exact hq
/-- a comprehension by an invariant -/
theorem wp_loopCI {b : D → DS → R (Option D × DS)} {xs : List D} {d : DS} {acc : List D} {Q : List D × DS → Prop} (I : Nat → List D → DS → Prop) (h0 : I 0 acc d) (hl : acc.length + xs.length ≤ sizeLine)
    (hs : ∀ i x acc d, xs[i]? = some x → I i acc d → Wp (b x d) fun q => I (i + 1) (acc ++ q.1.toList) q.2) (hq : ∀ acc d', I xs.length acc d' → Q (acc, d')) : Wp (loopC b xs d acc) Q := by
  induction xs generalizing I d acc with
  | nil => exact ⟨_, rfl, hq acc d h0⟩
  | cons x xs ih =>
    obtain ⟨⟨o, d1⟩, e, q2⟩ := hs 0 x acc d rfl h0
    unfold loopC
    rw [e, bind_okE]
    rw [List.length_cons] at hl
    cases o with
    | none =>
      rw [show acc ++ (none : Option D).toList = acc from List.append_nil _] at q2
      exact ih (I := fun i => I (i + 1)) q2 (by omega) (fun i x a d h hi => hs (i + 1) x a d (by simpa using h) hi) (fun a d' h => hq a d' h)
    | some y =>
      dsimp only
      rw [if_pos (by omega)]
      exact ih (I := fun i => I (i + 1)) q2 (by rw [List.length_append]; show acc.length + 1 + _ ≤ _; omega) (fun i x a d h hi => hs (i + 1) x a d (by simpa using h) hi) (fun a d' h => hq a d' h)
end DL
/-! P2: the harness' pool. -/
namespace DL
open PySem PySem.Spec PyProof.Rows L2
local macro_rules | `(tactic| walk_at "ev") => `(tactic| ((simp -dsimp -implicitDefEqProofs only [↓wp_toX, wpX_ok, ↓bind_toX, ↓loopF_toX, ↓loopC_toX, ↓while_toX, bindX_ok, bindX_assoc, evS, evE, evO, evR, evL, evB, evA, evI, opt_some, opd_val, opd_bor, slotD_imm, slotD_own, fz_val, obind_some, omap_some, ofInt_int, ofBool_bool, items_list, items_tuple,
  run_add, run_sub, run_mul, run_fdiv, run_mod, run_lt, run_le, run_gt, run_ge, run_eqI, run_neI, run_isN, run_notN, run_not, run_neg, idx_list, idx_tuple, sli_list, sli_tuple, sli_scr, b_lenL, b_lenT, b_listS, b_listL, b_listT, b_tupL, b_tupT, b_max2, b_min2, b_int,
  argsOf_nil, argsOf_v, margs, retD_val, outs_nil, outs_f, outs_t, slotOf_f, slotOf_t, bindP_var, bindP_tup, bindPs_nil, bindPs_cons, wipe_nil, wipe_cons, back_nil, back_cons, mapM_nilO, mapM_consO, noOwn, isOwn, fz_bor,
  List.map_cons, List.map_nil, List.replicate_succ, List.replicate_zero, List.cons_append, List.nil_append, List.getElem?_cons_zero, List.getElem?_cons_succ, List.set_cons_zero, List.set_cons_succ, List.length_cons, List.length_nil, List.all_cons, List.all_nil, Option.getD_some,
  Nat.zero_add, Nat.reduceAdd, Nat.reduceLT, Nat.reduceLeDiff, Nat.lt_add_left_iff_pos, Nat.zero_lt_succ, Nat.reduceEqDiff, Int.reduceEq, Int.reduceLT, Int.reduceLE, Int.reduceNeg, inR_0, retD_bor, Bool.not_true, Bool.not_false, aug_i, sz0, sz1, sz2, sz3, sz4, sz5, argsOf_mE, argOf, putBack, omap_some, na5, putB_nil, at0, at1, at2, at3, at4, ix51, ix52, ix53, true_or, or_true, sm1, sm2, sm3, sm4, sm5, Bool.or_true, reduceIte, Bool.and_self, Bool.and_true, Bool.true_and, if_true, if_false, Bool.or_true, Bool.true_or, ne_eq, not_false_eq_true, not_true_eq_false, true_and, and_true,
  List.nodup_cons, List.nodup_nil, List.not_mem_nil, List.mem_cons, or_false, false_or]) <;> (try simp -dsimp only [wp_ofX])))
variable {gcs : Nat → Option D} {cd : CallSem}
theorem spread_ok (c : Int) : Wp (runFn gcs cd fn_law_spread [(false, .int c)]) fun r => ∃ t, r = ([], false, .int t) := by
  refine wp_run rfl ?_
  rw [show fn_law_spread.body = b_law_spread from rfl, show fn_law_spread.nl = 3 from rfl, b_law_spread]
  walk_at "ev"
  rw [show inR 4 = true by decide +kernel]
  walk_at "ev"
  refine wp_bind (wp_loopF (fun i d => ∃ a t, ∃ s, d = [.imm (.int c), .imm (.int a), .imm (.int t), s]) ⟨_, _, _, rfl⟩ ?_ ?_)
  · rintro i x d hx ⟨a, t, s, rfl⟩
    unfold rangeD at hx
    rw [List.getElem?_map] at hx
    obtain ⟨j, _, rfl⟩ := Option.map_eq_some_iff.mp hx
    rw [b_law_spread_1]
    walk_at "ev"
    exact ⟨_, _, _, rfl⟩
  · rintro d ⟨a, t, s, rfl⟩
    walk_at "ev"
    exact ⟨_, rfl⟩
/-- the pool: the script, the place, what is left of the cell, how many draws, the salt -/
structure Pool where
  cs : List Int
  pl : Nat
  cur : Int
  cnt : Int
  salt : Int
def Pool.d (p : Pool) : D := .list [.list (p.cs.map .int), .int p.pl, .int p.cur, .int p.cnt, .int p.salt]
def CSpread (cd : CallSem) : Prop := ∀ c, Wp (cd 7 [(false, .int c)]) fun r => ∃ t, r = ([], false, .int t)
/-- a draw: a number below the bound -/
def CDraw (cd : CallSem) : Prop := ∀ (p : Pool) (m : Nat), 0 < m → m < 1048576 → Wp (cd 8 [(true, p.d), (false, .int m)]) fun r => ∃ (q : Pool) (v : Nat) (f : Bool), v < m ∧ r = ([q.d], f, .int v)
theorem fmod_nat (a : Int) {m : Nat} (h : 0 < m) : ∃ v : Nat, v < m ∧ a.fmod m = v := by
  have h1 : 0 ≤ a.fmod m := Int.fmod_nonneg_of_pos a (by omega)
  have h2 : a.fmod m < m := Int.fmod_lt_of_pos a (by omega)
  exact ⟨(a.fmod m).toNat, by omega, by omega⟩
theorem draw_ok (hs : CSpread cd) (p : Pool) (m : Nat) (h : 0 < m) (hm : m < 1048576) : Wp (runFn gcs cd fn_law_draw [(true, p.d), (false, .int m)]) fun r => ∃ (q : Pool) (v : Nat) (f : Bool), v < m ∧ r = ([q.d], f, .int v) := by
  refine wp_run rfl ?_
  obtain ⟨cs, pl, cur, cnt, salt⟩ := p
  rw [show fn_law_draw.body = b_law_draw from rfl, show fn_law_draw.nl = 3 from rfl, b_law_draw]
  unfold Pool.d
  refine wp_seq (fun d' => ∃ (pl : Nat) (cur : Int) (s2 : Slot), d' = [.own true (.list [.list (cs.map .int), .int pl, .int cur, .int cnt, .int salt]), .imm (.int m), s2, .emp, .emp]) ?_ ?_
  · walk_at "ev"
    by_cases h1 : cur ≤ 0
    · rw [decide_eq_true h1]
      walk_at "ev"
      by_cases h2 : (pl : Int) < ((cs.map PyData.int).length : Nat)
      · rw [decide_eq_true h2]
        have h3 : pl < cs.length := by rw [List.length_map] at h2; omega
        have e3 : atI (cs.map PyData.int) (pl : Int) = some (.int cs[pl]) := atI_nat (by rw [List.getElem?_map, List.getElem?_eq_getElem h3]; rfl)
        simp only [e3]
        walk_at "ev"
        by_cases h4 : cs[pl] < 1000000000000000000
        · rw [decide_eq_true h4]
          walk_at "ev"
          refine wp_bind (wp_mono (hs _) ?_)
          rintro r ⟨t, rfl⟩
          walk_at "ev"
          exact ⟨pl + 1, _, _, rfl⟩
        · rw [decide_eq_false h4]
          walk_at "ev"
          exact ⟨pl + 1, _, _, rfl⟩
      · rw [decide_eq_false h2]
        walk_at "ev"
        exact ⟨_, _, _, rfl⟩
    · rw [decide_eq_false h1]
      walk_at "ev"
      exact ⟨_, _, _, rfl⟩
  · rintro d ⟨pl, cur, s2, rfl⟩
    have hm0 : (m : Int) ≠ 0 := by omega
    walk_at "ev"
    by_cases h1 : cur ≤ 0
    · rw [decide_eq_true h1]
      walk_at "ev"
      simp only [hm0]
      walk_at "ev"
      obtain ⟨v, hv, e⟩ := fmod_nat ((((salt * 48271 + (cnt + 1) * 69621 + 1).fmod 2147483647 * 16807 + (cnt + 1)).fmod 2147483629).fdiv 5) h
      exact ⟨(⟨cs, pl, cur, cnt + 1, salt⟩ : Pool), v, _, hv, by rw [e]⟩
    · rw [decide_eq_false h1]
      walk_at "ev"
      simp only [hm0]
      walk_at "ev"
      have hm1 : (m : Int).natAbs < 1073741824 := by omega
      simp only [hm1, hm0, true_and, and_true, not_false_eq_true, if_true]
      walk_at "ev"
      obtain ⟨v, hv, e⟩ := fmod_nat cur h
      exact ⟨(⟨cs, pl, cur.fdiv m, cnt + 1, salt⟩ : Pool), v, _, hv, by rw [e]⟩
end DL
/-! P3: the pool made; shuffling. -/
namespace DL
open PySem PySem.Spec PyProof.Rows L2
local macro_rules | `(tactic| walk_at "ev") => `(tactic| ((simp -dsimp -implicitDefEqProofs only [↓wp_toX, wpX_ok, ↓bind_toX, ↓loopF_toX, ↓loopC_toX, ↓while_toX, bindX_ok, bindX_assoc, evS, evE, evO, evR, evL, evB, evA, evI, opt_some, opd_val, opd_bor, slotD_imm, slotD_own, fz_val, obind_some, omap_some, ofInt_int, ofBool_bool, items_list, items_tuple,
  run_add, run_sub, run_mul, run_fdiv, run_mod, run_lt, run_le, run_gt, run_ge, run_eqI, run_neI, run_isN, run_notN, run_not, run_neg, idx_list, idx_tuple, sli_list, sli_tuple, sli_scr, b_lenL, b_lenT, b_listS, b_listL, b_listT, b_tupL, b_tupT, b_max2, b_min2, b_int,
  argsOf_nil, argsOf_v, margs, retD_val, outs_nil, outs_f, outs_t, slotOf_f, slotOf_t, bindP_var, bindP_tup, bindPs_nil, bindPs_cons, wipe_nil, wipe_cons, back_nil, back_cons, mapM_nilO, mapM_consO, noOwn, isOwn, fz_bor,
  List.map_cons, List.map_nil, List.replicate_succ, List.replicate_zero, List.cons_append, List.nil_append, List.getElem?_cons_zero, List.getElem?_cons_succ, List.set_cons_zero, List.set_cons_succ, List.length_cons, List.length_nil, List.all_cons, List.all_nil, Option.getD_some,
  Nat.zero_add, Nat.reduceAdd, Nat.reduceLT, Nat.reduceLeDiff, Nat.lt_add_left_iff_pos, Nat.zero_lt_succ, Nat.reduceEqDiff, Int.reduceEq, Int.reduceLT, Int.reduceLE, Int.reduceNeg, inR_0, retD_bor, Bool.not_true, Bool.not_false, aug_i, sz0, sz1, sz2, sz3, sz4, sz5, argsOf_mE, argOf, putBack, omap_some, na5, putB_nil, at0, at1, at2, at3, at4, ix51, ix52, ix53, true_or, or_true, sm1, sm2, sm3, sm4, sm5, Bool.or_true, reduceIte, Bool.and_self, Bool.and_true, Bool.true_and, if_true, if_false, Bool.or_true, Bool.true_or, ne_eq, not_false_eq_true, not_true_eq_false, true_and, and_true,
  List.nodup_cons, List.nodup_nil, List.not_mem_nil, List.mem_cons, or_false, false_or]) <;> (try simp -dsimp only [wp_ofX])))
variable {gcs : Nat → Option D} {cd : CallSem}
def CPool (cd : CallSem) : Prop := ∀ ns : List Int, Wp (cd 6 [(false, scrD (ns.map .int))]) fun r => ∃ p : Pool, r = ([], true, p.d)
theorem slice_to {α : Type} (l : List α) (v : Nat) : sliceD l none (some (v : Int)) = l.take v := by
  unfold sliceD
  rw [HT.sIx_none, show HT.sIx l.length l.length (some (v : Int)) = min v l.length from HT.sIx_nat l.length l.length v]
  rw [List.drop_zero, Nat.sub_zero]
  by_cases h : v ≤ l.length
  · rw [Nat.min_eq_left h]
  · rw [Nat.min_eq_right (by omega), List.take_length, List.take_of_length_le (by omega)]
theorem slice_from {α : Type} (l : List α) (v : Nat) : sliceD l (some (v : Int)) none = l.drop v := by
  unfold sliceD
  rw [HT.sIx_none, show HT.sIx l.length 0 (some (v : Int)) = min v l.length from HT.sIx_nat l.length 0 v]
  by_cases h : v ≤ l.length
  · rw [Nat.min_eq_left h, List.take_of_length_le (by rw [List.length_drop]; omega)]
  · rw [Nat.min_eq_right (by omega), List.drop_of_length_le (Nat.le_refl _), List.drop_of_length_le (by omega), List.take_nil]
theorem pool_ok (ns : List Int) : Wp (runFn gcs cd fn_law_pool [(false, scrD (ns.map .int))]) fun r => ∃ p : Pool, r = ([], true, p.d) := by
  refine wp_run rfl ?_
  rw [show fn_law_pool.body = b_law_pool from rfl, show fn_law_pool.nl = 2 from rfl, b_law_pool]
  walk_at "ev"
  rw [show (63 : Int) = ((63 : Nat) : Int) from rfl, slice_to]
  refine wp_bind (wp_loopF (fun i d => ∃ a s, d = [.imm (scrD (ns.map .int)), .imm (.int a), s]) ⟨_, _, rfl⟩ ?_ ?_)
  · rintro i x d hx ⟨a, s, rfl⟩
    rw [← List.map_take, List.getElem?_map] at hx
    obtain ⟨j, _, rfl⟩ := Option.map_eq_some_iff.mp hx
    rw [b_law_pool_1]
    walk_at "ev"
    exact ⟨_, _, rfl⟩
  · rintro d ⟨a, s, rfl⟩
    walk_at "ev"
    exact ⟨⟨ns, 0, 0, 0, a⟩, rfl⟩
def CShuf (cd : CallSem) : Prop := ∀ (p : Pool) (it : D) (xs : List D), it = .list xs ∨ it = .tuple xs → xs.length < 1048576 →
  Wp (cd 9 [(true, p.d), (false, it)]) fun r => ∃ (q : Pool) (ys : List D), ys.Perm xs ∧ r = ([q.d], true, .tuple ys)
theorem perm_pick {l : List D} {v : Nat} (h : v < l.length) : (l[v] :: (l.take v ++ l.drop (v + 1))).Perm l := by
  have e : l.take v ++ l[v] :: l.drop (v + 1) = l := by
    rw [← List.drop_eq_getElem_cons h, List.take_append_drop]
  exact (List.perm_middle.symm).trans (.of_eq e)
theorem shuf_ok (hd : CDraw cd) (p : Pool) (it : D) (xs : List D) (hi : it = .list xs ∨ it = .tuple xs) (hl : xs.length < 1048576) :
    Wp (runFn gcs cd fn_law_shuffled [(true, p.d), (false, it)]) fun r => ∃ (q : Pool) (ys : List D), ys.Perm xs ∧ r = ([q.d], true, .tuple ys) := by
  refine wp_run rfl ?_
  rw [show fn_law_shuffled.body = b_law_shuffled from rfl, show fn_law_shuffled.nl = 3 from rfl, b_law_shuffled]
  have e0 : B1.run .list [it] = some (.list xs) := by rcases hi with rfl | rfl <;> rfl
  walk_at "ev"
  rw [e0]
  walk_at "ev"
  refine wp_bind (wp_while (fun n d => ∃ (q : Pool) (l fs : List D) (s : Slot), d = [.own true q.d, .imm it, .imm (.list l), .own false (.list fs), s] ∧ n = l.length ∧ (fs ++ l).Perm xs) xs.length ⟨p, xs, [], .emp, rfl, rfl, .refl _⟩ ?_)
  rintro n d ⟨q, l, fs, s, rfl, rfl, hp⟩
  rw [b_law_shuffled_1c]
  walk_at "ev"
  have hlen : fs.length + l.length = xs.length := by rw [← List.length_append]; exact hp.length_eq
  refine ⟨fun h => ?_, fun h => ?_⟩
  · have h0 : ¬ (0 : Int) < (l.length : Nat) := of_decide_eq_false h
    have : l = [] := List.length_eq_zero_iff.mp (by omega)
    subst this
    rw [List.append_nil] at hp
    exact ⟨q, fs, hp, rfl⟩
  · have h0 : (0 : Int) < (l.length : Nat) := of_decide_eq_true h
    refine ⟨l.length - 1, by omega, ?_⟩
    rw [b_law_shuffled_1]
    walk_at "ev"
    refine wp_bind (wp_mono (hd q l.length (by omega) (by omega)) ?_)
    rintro r ⟨q', v, f, hv, rfl⟩
    walk_at "ev"
    rw [atI_nat (List.getElem?_eq_getElem hv)]
    walk_at "ev"
    rw [if_pos (small_lt (by omega))]
    walk_at "ev"
    rw [slice_to, show ((v : Int) + 1) = ((v + 1 : Nat) : Int) from rfl, slice_from, run_addL (by rw [List.length_take, List.length_drop]; exact small_le (by omega))]
    walk_at "ev"
    refine ⟨q', _, _, _, rfl, by rw [List.length_append, List.length_take, List.length_drop]; omega, ?_⟩
    rw [List.append_assoc, List.singleton_append]
    exact ((perm_pick hv).append_left fs).trans hp
end DL
/-! P4: numbers' lists; boards drawn. -/
namespace DL
open PySem PySem.Spec PyProof.Rows L2
local macro_rules | `(tactic| walk_at "ev") => `(tactic| ((simp -dsimp -implicitDefEqProofs only [↓wp_toX, wpX_ok, ↓bind_toX, ↓loopF_toX, ↓loopC_toX, ↓while_toX, bindX_ok, bindX_assoc, evS, evE, evO, evR, evL, evB, evA, evI, opt_some, opd_val, opd_bor, slotD_imm, slotD_own, fz_val, obind_some, omap_some, ofInt_int, ofBool_bool, items_list, items_tuple,
  run_add, run_sub, run_mul, run_fdiv, run_mod, run_lt, run_le, run_gt, run_ge, run_eqI, run_neI, run_isN, run_notN, run_not, run_neg, idx_list, idx_tuple, sli_list, sli_tuple, sli_scr, b_lenL, b_lenT, b_listS, b_listL, b_listT, b_tupL, b_tupT, b_max2, b_min2, b_int,
  argsOf_nil, argsOf_v, margs, retD_val, outs_nil, outs_f, outs_t, slotOf_f, slotOf_t, bindP_var, bindP_tup, bindPs_nil, bindPs_cons, wipe_nil, wipe_cons, back_nil, back_cons, mapM_nilO, mapM_consO, noOwn, isOwn, fz_bor,
  List.map_cons, List.map_nil, List.replicate_succ, List.replicate_zero, List.cons_append, List.nil_append, List.getElem?_cons_zero, List.getElem?_cons_succ, List.set_cons_zero, List.set_cons_succ, List.length_cons, List.length_nil, List.all_cons, List.all_nil, Option.getD_some,
  Nat.zero_add, Nat.reduceAdd, Nat.reduceLT, Nat.reduceLeDiff, Nat.lt_add_left_iff_pos, Nat.zero_lt_succ, Nat.reduceEqDiff, Int.reduceEq, Int.reduceLT, Int.reduceLE, Int.reduceNeg, inR_0, retD_bor, Bool.not_true, Bool.not_false, aug_i, sz0, sz1, sz2, sz3, sz4, sz5, argsOf_mE, argOf, putBack, omap_some, na5, putB_nil, at0, at1, at2, at3, at4, ix51, ix52, ix53, true_or, or_true, sm1, sm2, sm3, sm4, sm5, Bool.or_true, reduceIte, Bool.and_self, Bool.and_true, Bool.true_and, if_true, if_false, Bool.or_true, Bool.true_or, ne_eq, not_false_eq_true, not_true_eq_false, true_and, and_true,
  List.nodup_cons, List.nodup_nil, List.not_mem_nil, List.mem_cons, or_false, false_or]) <;> (try simp -dsimp only [wp_ofX])))
variable {gcs : Nat → Option D} {cd : CallSem}
def nI (n : Nat) : D := .int n
def nT (l : List Nat) : D := .tuple (l.map nI)
def nL (l : List Nat) : D := .list (l.map nI)
abbrev Bd := List (Nat × List Nat)
def spotD (s : Nat × List Nat) : D := .tuple [nI s.1, nT s.2]
def bD (b : Bd) : D := .tuple (b.map spotD)
/-- sorted numbers -/
def srt (l : List Nat) : List Nat := l.mergeSort fun a b => decide (a ≤ b)
theorem srt_perm (l : List Nat) : (srt l).Perm l := List.mergeSort_perm _ _
theorem srt_le (l : List Nat) : (srt l).Pairwise (· ≤ ·) := by
  have := List.pairwise_mergeSort (le := fun a b : Nat => decide (a ≤ b)) (fun a b c h1 h2 => by simp only [decide_eq_true_eq] at *; omega) (fun a b => by simp only [Bool.or_eq_true, decide_eq_true_eq]; omega) l
  exact this.imp fun h => of_decide_eq_true h
theorem srt_lt {l : List Nat} (h : l.Nodup) : (srt l).Pairwise (· < ·) := by
  have h2 : (srt l).Nodup := (srt_perm l).nodup_iff.mpr h
  exact ((srt_le l).and h2).imp fun ⟨a, b⟩ => by omega
theorem le_nI (a b : Nat) : PySem.W.dataLe false id (nI a) (nI b) = decide (a ≤ b) := by
  show (!PyProof.Rows.lexLt PyProof.Rows.itemOrd (PySem.W.keyToks (.int b)) (PySem.W.keyToks (.int a))) = _
  unfold PySem.W.keyToks PyProof.Rows.lexLt
  show (!(decide ((b : Int) < (a : Int)) || !decide ((a : Int) < (b : Int)) && false)) = _
  rw [Bool.and_false, Bool.or_false]
  by_cases h : a ≤ b
  · rw [decide_eq_true h, decide_eq_false (by omega)]; rfl
  · rw [decide_eq_false h, decide_eq_true (by omega)]; rfl
theorem sortD_n (l : List Nat) : sortD (l.map nI) = (srt l).map nI := by
  unfold sortD srt
  rw [List.map_mergeSort (s := PySem.W.dataLe false id)]
  intro a _ b _
  exact (le_nI a b).symm
theorem sortOk_n (l : List Nat) : sortOk (l.map nI) = true := by
  unfold sortOk
  have h3 : ndAll (l.map nI) = true := by
    induction l with
    | nil => rfl
    | cons a r ih => rw [List.map_cons, ndAll, ih]; rfl
  rw [h3, Bool.and_true, Bool.and_eq_true, Bool.and_eq_true, Bool.or_eq_true]
  refine ⟨⟨?_, .inr ?_⟩, ?_⟩
  · rw [List.all_eq_true]
    intro x hx
    rw [List.all_eq_true]
    intro y hy
    obtain ⟨a, _, rfl⟩ := List.mem_map.mp hx
    obtain ⟨b, _, rfl⟩ := List.mem_map.mp hy
    rfl
  · rw [List.all_eq_true]
    intro x hx
    obtain ⟨a, _, rfl⟩ := List.mem_map.mp hx
    rfl
  · rw [List.all_eq_true]
    intro x hx
    obtain ⟨a, _, rfl⟩ := List.mem_map.mp hx
    rfl
theorem b_srtT (l : List Nat) : B1.run .sorted [.tuple (l.map nI)] = some (.list ((srt l).map nI)) := by
  show (if _ then _ else _) = _
  rw [if_pos (sortOk_n l), sortD_n]
theorem b_srtL (l : List Nat) : B1.run .sorted [.list (l.map nI)] = some (.list ((srt l).map nI)) := by
  show (if _ then _ else _) = _
  rw [if_pos (sortOk_n l), sortD_n]
theorem rng_n (n : Nat) : rangeD 0 (n : Int) = (List.range n).map nI := rng_nat n
theorem perm_n {l : List Nat} {ys : List D} (h : ys.Perm (l.map nI)) : ∃ ks : List Nat, ks.Perm l ∧ ys = ks.map nI := by
  have hy : ∀ y ∈ ys, ∃ k, y = nI k := fun y hy => by
    obtain ⟨k, _, e⟩ := List.mem_map.mp (h.mem_iff.mp hy)
    exact ⟨k, e.symm⟩
  have : ∃ ks : List Nat, ys = ks.map nI := by
    clear h
    induction ys with
    | nil => exact ⟨[], rfl⟩
    | cons y r ih =>
      obtain ⟨ks, e⟩ := ih fun z hz => hy z (List.mem_cons_of_mem _ hz)
      obtain ⟨k, e2⟩ := hy y List.mem_cons_self
      exact ⟨k :: ks, by rw [List.map_cons, e, e2]⟩
  obtain ⟨ks, rfl⟩ := this
  refine ⟨ks, ?_, rfl⟩
  have h2 := h.map fun d : D => match d with
    | .int i => i.toNat
    | _ => 0
  rw [List.map_map, List.map_map] at h2
  have e : ((fun d : D => match d with
    | .int i => i.toNat
    | _ => 0) ∘ nI) = id := funext fun n => rfl
  rw [e, List.map_id, List.map_id] at h2
  exact h2
/-- a board that the laws draw -/
structure BOk (most : Nat) (b : Bd) : Prop where
  pos : 1 ≤ b.length
  le : b.length ≤ most
  own : ∀ s ∈ b, s.1 < 2
  ne : ∀ s ∈ b, s.2 ≠ []
  ln : ∀ s ∈ b, s.2.length ≤ 3
  inc : ∀ s ∈ b, s.2.Pairwise (· < ·)
  lt : ∀ s ∈ b, ∀ w ∈ s.2, w < b.length
def CBoard (cd : CallSem) : Prop := ∀ (p : Pool) (most : Nat), 0 < most → most ≤ 1000 → Wp (cd 10 [(true, p.d), (false, nI most)]) fun r => ∃ (q : Pool) (b : Bd), BOk most b ∧ r = ([q.d], false, bD b)
def CSet (cd : CallSem) : Prop := ∀ (p : Pool) (m : Nat), m ≤ 1000 → Wp (cd 11 [(true, p.d), (false, nI m)]) fun r => ∃ (q : Pool) (f : Nat → Bool), r = ([q.d], true, nT ((List.range m).filter f))
theorem inRg_n {n : Nat} (h : n ≤ 1048576) : inRg 0 (n : Int) = true := by
  unfold inRg
  rw [inR_0, inR_nat h, Bool.true_and, Bool.true_and, decide_eq_true_eq]
  omega
theorem max_n (a b : Nat) : (if (b : Int) > (a : Int) then (b : Int) else (a : Int)) = ((max a b : Nat) : Int) := by
  by_cases h : a < b
  · rw [if_pos (by omega), Nat.max_eq_right (by omega)]
  · rw [if_neg (by omega), Nat.max_eq_left (by omega)]
theorem board_ok (hd : CDraw cd) (hs : CShuf cd) (p : Pool) (most : Nat) (h0 : 0 < most) (h1 : most ≤ 1000) :
    Wp (runFn gcs cd fn_law_board [(true, p.d), (false, nI most)]) fun r => ∃ (q : Pool) (b : Bd), BOk most b ∧ r = ([q.d], false, bD b) := by
  refine wp_run rfl ?_
  rw [show fn_law_board.body = b_law_board from rfl, show fn_law_board.nl = 4 from rfl, b_law_board]
  unfold nI
  walk_at "ev"
  refine wp_bind (wp_mono (hd p most h0 (by omega)) ?_)
  rintro r ⟨q, v, f, hv, rfl⟩
  walk_at "ev"
  refine wp_bind (wp_mono (hd q most h0 (by omega)) ?_)
  rintro r ⟨q2, v2, f2, hv2, rfl⟩
  walk_at "ev"
  rw [max_n]
  have hm : max v v2 < most := by omega
  generalize max v v2 = mm at hm
  rw [show (1 : Int) + (mm : Nat) = ((mm + 1 : Nat) : Int) by omega]
  rw [inR_nat (by omega)]
  walk_at "ev"
  rw [rng_n]
  refine wp_bind (wp_loopF (fun i d => ∃ (q : Pool) (b : Bd) (s4 s5 : Slot), d = [.own true q.d, .imm (.int most), .imm (.int ((mm + 1 : Nat) : Int)), .imm (bD b), s4, s5] ∧ b.length = i ∧ (∀ s ∈ b, s.1 < 2 ∧ s.2 ≠ [] ∧ s.2.length ≤ 3 ∧ s.2.Pairwise (· < ·) ∧ ∀ w ∈ s.2, w < mm + 1)) ⟨q2, [], .emp, .emp, rfl, rfl, fun _ h => nomatch h⟩ ?_ ?_)
  · rintro i x d hx ⟨q, b, s4, s5, rfl, hb, hB⟩
    rw [b_law_board_1]
    walk_at "ev"
    rw [inRg_n (by omega), rng_n]
    walk_at "ev"
    refine wp_bind (wp_mono (hs q _ _ (.inr rfl) (by rw [List.length_map, List.length_range]; omega)) ?_)
    rintro r ⟨q3, ys, hp, rfl⟩
    obtain ⟨ks, hks, rfl⟩ := perm_n hp
    walk_at "ev"
    refine wp_bind (wp_mono (hd q3 3 (by omega) (by omega)) ?_)
    rintro r ⟨q4, v3, f3, hv3, rfl⟩
    walk_at "ev"
    rw [show (1 : Int) + (v3 : Nat) = ((v3 + 1 : Nat) : Int) by omega, slice_to, ← List.map_take]
    refine wp_bind (wp_mono (hd q4 2 (by omega) (by omega)) ?_)
    rintro r ⟨q5, v4, f4, hv4, rfl⟩
    walk_at "ev"
    rw [b_srtT]
    walk_at "ev"
    have hil : b.length ≤ mm := by
      have := (List.getElem?_eq_some_iff.mp hx).1
      rw [List.length_map, List.length_range] at this
      omega
    unfold bD
    rw [run_addT (by rw [List.length_map]; exact small_le (by show b.length + 1 ≤ _; omega))]
    walk_at "ev"
    have hnd : (ks.take (v3 + 1)).Nodup := (hks.nodup_iff.mpr List.nodup_range).sublist (List.take_sublist _ _)
    have hkl : ks.length = mm + 1 := by rw [hks.length_eq, List.length_range]
    refine ⟨q5, b ++ [(v4, srt (ks.take (v3 + 1)))], .imm x, .imm (.tuple (List.map nI (List.take (v3 + 1) ks))), ?_, by rw [List.length_append]; exact congrArg (· + 1) hb, fun s hs => ?_⟩
    · rw [List.map_append]; rfl
    · rcases List.mem_append.mp hs with hs | hs
      · exact hB s hs
      · rw [List.mem_singleton] at hs
        subst hs
        refine ⟨hv4, fun e => ?_, ?_, srt_lt hnd, fun w hw => ?_⟩
        · have := (srt_perm (ks.take (v3 + 1))).length_eq
          rw [show srt (ks.take (v3 + 1)) = [] from e, List.length_take] at this
          simp only [List.length_nil] at this
          omega
        · show (srt (ks.take (v3 + 1))).length ≤ 3
          rw [(srt_perm _).length_eq, List.length_take]; omega
        · have := (srt_perm _).mem_iff.mp hw
          have := hks.mem_iff.mp (List.mem_of_mem_take this)
          exact List.mem_range.mp this
  · rintro d ⟨q, b, s4, s5, rfl, hb, hB⟩
    walk_at "ev"
    rw [List.length_map, List.length_range] at hb
    refine ⟨q, b, ⟨by omega, by omega, fun s h => (hB s h).1, fun s h => (hB s h).2.1, fun s h => (hB s h).2.2.1, fun s h => (hB s h).2.2.2.1, fun s h w hw => ?_⟩, rfl⟩
    have := (hB s h).2.2.2.2 w hw
    omega
theorem set_ok (hd : CDraw cd) (p : Pool) (m : Nat) (h1 : m ≤ 1000) :
    Wp (runFn gcs cd fn_law_set [(true, p.d), (false, nI m)]) fun r => ∃ (q : Pool) (f : Nat → Bool), r = ([q.d], true, nT ((List.range m).filter f)) := by
  refine wp_run rfl ?_
  rw [show fn_law_set.body = b_law_set from rfl, show fn_law_set.nl = 1 from rfl, b_law_set]
  unfold nI
  walk_at "ev"
  rw [inR_nat (by omega), rng_n]
  walk_at "ev"
  refine wp_bind (wp_loopCI (fun i acc d => ∃ (q : Pool) (f : Nat → Bool), d = [.own true q.d, .imm (.int m), .emp] ∧ acc = ((List.range i).filter f).map nI) ⟨p, fun _ => true, rfl, rfl⟩ (by rw [List.length_map, List.length_range]; exact small_le (by show 0 + m ≤ _; omega)) ?_ ?_)
  · rintro i x acc d hx ⟨q, f, rfl, rfl⟩
    have hi := (List.getElem?_eq_some_iff.mp hx).1
    rw [List.length_map, List.length_range] at hi
    rw [List.getElem?_map, List.getElem?_range hi] at hx
    cases hx
    walk_at "ev"
    refine wp_bind (wp_mono (hd q 2 (by omega) (by omega)) ?_)
    rintro r ⟨q2, v, f2, hv, rfl⟩
    walk_at "ev"
    by_cases h : (v : Int) = 0
    · rw [decide_eq_true h]
      unfold nI
      walk_at "ev"
      refine ⟨q2, fun k => if k = i then true else f k, rfl, ?_⟩
      rw [List.range_succ, List.filter_append, List.map_append]
      congr 1
      · congr 1
        apply List.filter_congr
        intro k hk
        rw [List.mem_range] at hk
        rw [if_neg (by omega)]
      · simp
    · rw [decide_eq_false h]
      unfold nI
      walk_at "ev"
      refine ⟨q2, fun k => if k = i then false else f k, rfl, ?_⟩
      rw [List.range_succ, List.filter_append, List.map_append, show ((none : Option D).toList) = [] from rfl]
      congr 1
      · congr 1
        apply List.filter_congr
        intro k hk
        rw [List.mem_range] at hk
        rw [if_neg (by omega)]
      · simp
  · rintro acc d ⟨q, f, rfl, rfl⟩
    walk_at "ev"
    rw [List.length_map, List.length_range]
    exact ⟨q, f, rfl⟩
end DL
/-! P5: drawing steps. -/
namespace DL
open PySem PySem.Spec PyProof.Rows L2
local macro_rules | `(tactic| walk_at "ev") => `(tactic| ((simp -dsimp -implicitDefEqProofs only [↓wp_toX, wpX_ok, ↓bind_toX, ↓loopF_toX, ↓loopC_toX, ↓while_toX, bindX_ok, bindX_assoc, evS, evE, evO, evR, evL, evB, evA, evI, opt_some, opd_val, opd_bor, slotD_imm, slotD_own, fz_val, obind_some, omap_some, ofInt_int, ofBool_bool, items_list, items_tuple,
  run_add, run_sub, run_mul, run_fdiv, run_mod, run_lt, run_le, run_gt, run_ge, run_eqI, run_neI, run_isN, run_notN, run_not, run_neg, idx_list, idx_tuple, sli_list, sli_tuple, sli_scr, b_lenL, b_lenT, b_listS, b_listL, b_listT, b_tupL, b_tupT, b_max2, b_min2, b_int,
  argsOf_nil, argsOf_v, margs, retD_val, outs_nil, outs_f, outs_t, slotOf_f, slotOf_t, bindP_var, bindP_tup, bindPs_nil, bindPs_cons, wipe_nil, wipe_cons, back_nil, back_cons, mapM_nilO, mapM_consO, noOwn, isOwn, fz_bor,
  List.map_cons, List.map_nil, List.replicate_succ, List.replicate_zero, List.cons_append, List.nil_append, List.getElem?_cons_zero, List.getElem?_cons_succ, List.set_cons_zero, List.set_cons_succ, List.length_cons, List.length_nil, List.all_cons, List.all_nil, Option.getD_some,
  Nat.zero_add, Nat.reduceAdd, Nat.reduceLT, Nat.reduceLeDiff, Nat.lt_add_left_iff_pos, Nat.zero_lt_succ, Nat.reduceEqDiff, Int.reduceEq, Int.reduceLT, Int.reduceLE, Int.reduceNeg, inR_0, retD_bor, Bool.not_true, Bool.not_false, aug_i, sz0, sz1, sz2, sz3, sz4, sz5, argsOf_mE, argOf, putBack, omap_some, na5, putB_nil, at0, at1, at2, at3, at4, ix51, ix52, ix53, true_or, or_true, sm1, sm2, sm3, sm4, sm5, Bool.or_true, reduceIte, Bool.and_self, Bool.and_true, Bool.true_and, if_true, if_false, Bool.or_true, Bool.true_or, ne_eq, not_false_eq_true, not_true_eq_false, true_and, and_true,
  List.nodup_cons, List.nodup_nil, List.not_mem_nil, List.mem_cons, or_false, false_or]) <;> (try simp -dsimp only [wp_ofX])))
variable {gcs : Nat → Option D} {cd : CallSem}
/-- data that can be compared -/
structure Sh (k : Nat) (d : D) : Prop where
  nd : nd d = true
  lay : d.canLay0 = true
  dep : d.depth ≤ k
theorem Sh.mono {k l : Nat} {d : D} (h : Sh k d) (hk : k ≤ l) : Sh l d := ⟨h.1, h.2, Nat.le_trans h.3 hk⟩
theorem Sh.shp {k : Nat} {d : D} (h : Sh k d) (hk : k ≤ 64) : shp d = true := by
  unfold DL.shp PySem.SeqAt.shaped
  rw [h.1, h.2, Bool.true_and, Bool.true_and, decide_eq_true_eq]
  exact Nat.le_trans h.3 hk
theorem Sh.all {k : Nat} {xs : List D} (h : ∀ x ∈ xs, Sh k x) : ndAll xs = true ∧ PyData.canLayAll0 xs = true ∧ PyData.depthAll xs ≤ k := by
  induction xs with
  | nil => exact ⟨rfl, by rw [PyData.canLayAll0], by rw [PyData.depthAll]; exact Nat.zero_le _⟩
  | cons x r ih =>
    obtain ⟨h1, h2, h3⟩ := ih fun y hy => h y (List.mem_cons_of_mem _ hy)
    obtain ⟨g1, g2, g3⟩ := h x List.mem_cons_self
    refine ⟨by rw [ndAll, g1, h1]; rfl, by rw [PyData.canLayAll0, g2, h2]; rfl, ?_⟩
    rw [PyData.depthAll]
    exact Nat.max_le.mpr ⟨g3, h3⟩
theorem Sh.tup {k : Nat} {xs : List D} (h : ∀ x ∈ xs, Sh k x) : Sh (k + 1) (.tuple xs) := by
  obtain ⟨h1, h2, h3⟩ := Sh.all h
  exact ⟨by rw [DL.nd]; exact h1, by rw [PyData.canLay0]; exact h2, by rw [PyData.depth]; omega⟩
theorem Sh.lst {k : Nat} {xs : List D} (h : ∀ x ∈ xs, Sh k x) : Sh (k + 1) (.list xs) := by
  obtain ⟨h1, h2, h3⟩ := Sh.all h
  exact ⟨by rw [DL.nd]; exact h1, by rw [PyData.canLay0]; exact h2, by rw [PyData.depth]; omega⟩
theorem Sh.nI (n : Nat) : Sh 0 (nI n) := ⟨rfl, by unfold DL.nI; rw [PyData.canLay0], by unfold DL.nI; rw [PyData.depth]; exact Nat.le_refl _⟩
theorem Sh.non : Sh 0 .none := ⟨rfl, by rw [PyData.canLay0], by rw [PyData.depth]; exact Nat.le_refl _⟩
theorem Sh.nT (l : List Nat) : Sh 1 (nT l) := Sh.tup fun x h => by
  obtain ⟨n, _, rfl⟩ := List.mem_map.mp h
  exact Sh.nI n
theorem Sh.nL (l : List Nat) : Sh 1 (nL l) := Sh.lst fun x h => by
  obtain ⟨n, _, rfl⟩ := List.mem_map.mp h
  exact Sh.nI n
theorem eqv_nI (a b : Nat) : PyData.eqv (nI a) (nI b) = decide (a = b) := by
  unfold nI PyData.eqv
  rw [Bool.eq_iff_iff, beq_iff_eq, decide_eq_true_eq]
  omega
theorem any_nI (l : List Nat) (a : Nat) : ((l.map nI).any fun z => PyData.eqv z (nI a)) = decide (a ∈ l) := by
  induction l with
  | nil => simp
  | cons b r ih =>
    rw [List.map_cons, List.any_cons, ih, eqv_nI, Bool.eq_iff_iff, Bool.or_eq_true, decide_eq_true_eq, decide_eq_true_eq, decide_eq_true_eq, List.mem_cons]
    constructor
    · rintro (h | h)
      · exact .inl h.symm
      · exact .inr h
    · rintro (h | h)
      · exact .inl h.symm
      · exact .inr h
theorem in_T (l : List Nat) (a : Nat) : O2.run .isin (nI a) (nT l) = some (.bool (decide (a ∈ l))) := by
  show (if _ then _ else _) = _
  rw [if_pos (by rw [Bool.and_eq_true]; exact ⟨(Sh.nI a).shp (by omega), (Sh.nT l).shp (by omega)⟩), any_nI]
theorem in_L (l : List Nat) (a : Nat) : O2.run .isin (nI a) (nL l) = some (.bool (decide (a ∈ l))) := by
  show (if _ then _ else _) = _
  rw [if_pos (by rw [Bool.and_eq_true]; exact ⟨(Sh.nI a).shp (by omega), (Sh.nL l).shp (by omega)⟩), any_nI]
theorem nin_T (l : List Nat) (a : Nat) : O2.run .notin (nI a) (nT l) = some (.bool (!decide (a ∈ l))) := by
  show (if _ then _ else _) = _
  rw [if_pos (by rw [Bool.and_eq_true]; exact ⟨(Sh.nI a).shp (by omega), (Sh.nT l).shp (by omega)⟩), any_nI]
theorem nin_L (l : List Nat) (a : Nat) : O2.run .notin (nI a) (nL l) = some (.bool (!decide (a ∈ l))) := by
  show (if _ then _ else _) = _
  rw [if_pos (by rw [Bool.and_eq_true]; exact ⟨(Sh.nI a).shp (by omega), (Sh.nL l).shp (by omega)⟩), any_nI]
theorem eq_n (a b : Nat) : O2.run .eq (nI a) (nI b) = some (.bool (decide (a = b))) := by
  show (if (shp (nI a) && shp (nI b)) = true then some (PyData.bool (PyData.eqv (nI a) (nI b))) else none) = _
  rw [if_pos (by rw [Bool.and_eq_true]; exact ⟨(Sh.nI a).shp (by omega), (Sh.nI b).shp (by omega)⟩), eqv_nI]
theorem ci_n (n : Nat) : PyData.int (n : Int) = nI n := rfl
/-- a comprehension over an encoded list -/
theorem wp_loopCm {α : Type} {b : D → DS → R (Option D × DS)} (enc : α → D) (g : α → Option D) {ls : List α} {d : DS} {Q : List D × DS → Prop}
    (hs : ∀ a ∈ ls, b (enc a) d = .ok (g a, d)) (hl : ls.length ≤ sizeLine) (hq : Q (ls.filterMap g, d)) : Wp (loopC b (ls.map enc) d []) Q := by
  suffices h : ∀ (ls : List α) (acc : List D), (∀ a ∈ ls, b (enc a) d = .ok (g a, d)) → acc.length + ls.length ≤ sizeLine → loopC b (ls.map enc) d acc = .ok (acc ++ ls.filterMap g, d) from
    ⟨_, h ls [] hs (by rw [List.length_nil, Nat.zero_add]; exact hl), hq⟩
  intro ls
  induction ls with
  | nil => intro acc _ _; rw [List.filterMap_nil, List.append_nil]; rfl
  | cons a r ih =>
    intro acc hs hl
    rw [List.length_cons] at hl
    rw [List.map_cons, loopC, hs a List.mem_cons_self, bind_okE, List.filterMap_cons]
    cases g a with
    | none => exact ih acc (fun x hx => hs x (List.mem_cons_of_mem _ hx)) (by omega)
    | some y =>
      dsimp only
      rw [if_pos (by omega), ih (acc ++ [y]) (fun x hx => hs x (List.mem_cons_of_mem _ hx)) (by rw [List.length_append]; show acc.length + 1 + _ ≤ _; omega), List.append_assoc]
      rfl
theorem wp_loopFm {α : Type} {b : D → DS → R (Out × DS)} (enc : α → D) {ls : List α} {d : DS} {Q : Out × DS → Prop} (I : Nat → DS → Prop) (h0 : I 0 d)
    (hs : ∀ i a d, ls[i]? = some a → I i d → Wp (b (enc a) d) fun q => (q.1 = .nx ∨ q.1 = .ct) ∧ I (i + 1) q.2) (hq : ∀ d', I ls.length d' → Q (.nx, d')) : Wp (loopF b (ls.map enc) d) Q :=
  wp_loopF I h0 (fun i x d h hi => by
    rw [List.getElem?_map] at h
    obtain ⟨a, ha, rfl⟩ := Option.map_eq_some_iff.mp h
    exact hs i a d ha hi) fun d' h => hq d' (by rw [List.length_map] at h; exact h)
theorem ev_eq {α : Type} {x : R α} {a : α} (h : Wp x fun b => b = a) : x = .ok a := wp_eq h
/-! ### rounds -/
def oD : Option Nat → D
  | some n => nI n
  | none => .none
theorem isNone_oD (o : Option Nat) : isNone (oD o) = o.isNone := by cases o <;> rfl
def known (f : List (Option Nat)) (w : Nat) : Bool := (f.getD w none).isSome
def pull (b : Bd) (p : Nat) (f : List (Option Nat)) (s : Nat) : Bool := match b[s]? with
  | some (o, ws) => if o = p then ws.any (known f) else ws.all (known f)
  | none => false
def newly (b : Bd) (p : Nat) (f : List (Option Nat)) (s : Nat) : Bool := !known f s && pull b p f s
def rnd (b : Bd) (p : Nat) (f : List (Option Nat)) (k : Nat) : List (Option Nat) := (List.range b.length).map fun s => if newly b p f s then some k else f.getD s none
def st0 (b : Bd) (goal : List Nat) : List (Option Nat) := (List.range b.length).map fun s => if s ∈ goal then some 0 else none
def stF (b : Bd) (p : Nat) (goal : List Nat) : Nat → List (Option Nat)
  | 0 => st0 b goal
  | k + 1 => rnd b p (stF b p goal k) (k + 1)
theorem stF_len (b : Bd) (p : Nat) (goal : List Nat) (k : Nat) : (stF b p goal k).length = b.length := by
  cases k with
  | zero => unfold stF st0; rw [List.length_map, List.length_range]
  | succ k => unfold stF rnd; rw [List.length_map, List.length_range]
def mark (f : List (Option Nat)) (k : Nat) (ls : List Nat) : List (Option Nat) := ls.foldl (fun f s => f.set s (some k)) f
theorem mark_len (k : Nat) : ∀ (ls : List Nat) (f : List (Option Nat)), (mark f k ls).length = f.length
  | [], f => rfl
  | s :: r, f => by
    show (mark (f.set s (some k)) k r).length = _
    rw [mark_len k r, List.length_set]
theorem mark_get (k : Nat) : ∀ (ls : List Nat) (f : List (Option Nat)) (s : Nat), s < f.length → (mark f k ls).getD s none = if s ∈ ls then some k else f.getD s none
  | [], f, s, _ => by rw [if_neg (List.not_mem_nil)]; rfl
  | t :: r, f, s, h => by
    show (mark (f.set t (some k)) k r).getD s none = _
    rw [mark_get k r _ s (by rw [List.length_set]; exact h)]
    by_cases hs : s ∈ r
    · rw [if_pos hs, if_pos (List.mem_cons_of_mem _ hs)]
    · rw [if_neg hs]
      by_cases e : s = t
      · subst e
        rw [if_pos List.mem_cons_self, List.getD_eq_getElem?_getD, List.getElem?_set_self h]
        rfl
      · rw [if_neg (fun z => (List.mem_cons.mp z).elim e hs), List.getD_eq_getElem?_getD, List.getElem?_set_ne (Ne.symm e), ← List.getD_eq_getElem?_getD]
theorem mark_rnd (b : Bd) (p : Nat) (f : List (Option Nat)) (k : Nat) (h : f.length = b.length) : mark f k ((List.range b.length).filter (newly b p f)) = rnd b p f k := by
  apply List.ext_getElem
  · rw [mark_len, h]; unfold rnd; rw [List.length_map, List.length_range]
  · intro s h1 h2
    rw [mark_len] at h1
    have e := mark_get k ((List.range b.length).filter (newly b p f)) f s h1
    rw [List.getD_eq_getElem?_getD, List.getElem?_eq_getElem (by rw [mark_len]; exact h1)] at e
    rw [Option.getD_some] at e
    have e2 : (rnd b p f k)[s]? = some (if newly b p f s then some k else f.getD s none) := by
      unfold rnd
      rw [List.getElem?_map, List.getElem?_range (by omega)]
      rfl
    rw [List.getElem?_eq_getElem h2] at e2
    rw [e, Option.some.inj e2]
    by_cases q : newly b p f s = true
    · rw [if_pos q, if_pos (List.mem_filter.mpr ⟨List.mem_range.mpr (by omega), q⟩)]
    · rw [if_neg q, if_neg (fun z => q (List.mem_filter.mp z).2)]
/-- a board that can be walked -/
structure WB (b : Bd) : Prop where
  le : b.length ≤ 1000
  lt : ∀ s ∈ b, ∀ w ∈ s.2, w < b.length
  ln : ∀ s ∈ b, s.2.length ≤ 1000
end DL
/-! P6: drawing steps, drawn spots. -/
namespace DL
open PySem PySem.Spec PyProof.Rows L2
theorem idx_sp0 {x : Nat × List Nat} : idxD (spotD x) (.int 0) = some (nI x.1) := atI_nat (j := 0) rfl
theorem idx_sp1 {x : Nat × List Nat} : idxD (spotD x) (.int 1) = some (nT x.2) := atI_nat (j := 1) rfl
theorem ofInt_nI {n : Nat} : ofInt (nI n) = some (n : Int) := rfl
theorem aug_n {n : Nat} : augD .add (nI n) (.int 1) = some (nI (n + 1)) := rfl
theorem eq_n0 {n : Nat} : O2.run .eq (nI n) (.int 0) = some (.bool (decide (n = 0))) := eq_n n 0
theorem eq_n1 {n : Nat} : O2.run .eq (nI n) (.int 1) = some (.bool (decide (n = 1))) := eq_n n 1
theorem ne_n0 {n m : Nat} : O2.run .ne (nI n) (nI m) = some (.bool (!decide (n = m))) := by
  show (if (shp (nI n) && shp (nI m)) = true then some (PyData.bool (!PyData.eqv (nI n) (nI m))) else none) = _
  rw [if_pos (by rw [Bool.and_eq_true]; exact ⟨(Sh.nI n).shp (by omega), (Sh.nI m).shp (by omega)⟩), eqv_nI]
theorem gt_n0 {n : Nat} : O2.run .gt (nI n) (.int 0) = some (.bool (decide (0 < n))) := by
  show some (PyData.bool (decide ((0 : Int) < (n : Int)))) = _
  rw [show decide ((0 : Int) < (n : Int)) = decide (0 < n) from decide_eq_decide.mpr (by omega)]
theorem len_b {b : Bd} : B1.run .len [bD b] = some (nI b.length) := by
  show some (PyData.int ((b.map spotD).length : Nat)) = _
  rw [List.length_map]; rfl
theorem len_nT {l : List Nat} : B1.run .len [nT l] = some (nI l.length) := by
  show some (PyData.int ((l.map nI).length : Nat)) = _
  rw [List.length_map]; rfl
theorem len_nL {l : List Nat} : B1.run .len [nL l] = some (nI l.length) := by
  show some (PyData.int ((l.map nI).length : Nat)) = _
  rw [List.length_map]; rfl
theorem bindP_sp {a c : I} {x : Nat × List Nat} {d : DS} : bindP (.tup (.cons a (.cons c .nil))) (spotD x) d = (bindP a (nI x.1) d).bind fun d1 => (bindP c (nT x.2) d1).bind fun d2 => .ok d2 := rfl
theorem items_b {b : Bd} : items (bD b) = some (b.map spotD) := rfl
theorem items_nT {l : List Nat} : items (nT l) = some (l.map nI) := rfl
theorem items_nL {l : List Nat} : items (nL l) = some (l.map nI) := rfl
theorem idx_b {b : Bd} {s : Nat} {x : Nat × List Nat} (h : b[s]? = some x) : idxD (bD b) (nI s) = some (spotD x) := atI_nat (by rw [List.getElem?_map, h]; rfl)
theorem idx_o {f : List (Option Nat)} {s : Nat} (h : s < f.length) : idxD (.list (f.map oD)) (nI s) = some (oD (f.getD s none)) := by
  refine atI_nat ?_
  rw [List.getElem?_map, List.getElem?_eq_getElem h, List.getD_eq_getElem?_getD, List.getElem?_eq_getElem h]; rfl
theorem idx_oT {f : List (Option Nat)} {s : Nat} (h : s < f.length) : idxD (.tuple (f.map oD)) (nI s) = some (oD (f.getD s none)) := by
  refine atI_nat ?_
  rw [List.getElem?_map, List.getElem?_eq_getElem h, List.getD_eq_getElem?_getD, List.getElem?_eq_getElem h]; rfl
local macro_rules | `(tactic| walk_at "en") => `(tactic| ((simp -dsimp -implicitDefEqProofs only [↓wp_toX, wpX_ok, ↓bind_toX, ↓loopF_toX, ↓loopC_toX, ↓while_toX, bindX_ok, bindX_assoc, evS, evE, evO, evR, evL, evB, evA, evI, opt_some, opd_val, opd_bor, slotD_imm, slotD_own, fz_val, obind_some, omap_some, ofInt_int, ofBool_bool, items_list, items_tuple,
  run_add, run_sub, run_mul, run_fdiv, run_mod, run_lt, run_le, run_gt, run_ge, run_eqI, run_neI, run_isN, run_notN, run_not, run_neg, idx_list, idx_tuple, sli_list, sli_tuple, sli_scr, b_lenL, b_lenT, b_listS, b_listL, b_listT, b_tupL, b_tupT, b_max2, b_min2, b_int,
  argsOf_nil, argsOf_v, margs, retD_val, outs_nil, outs_f, outs_t, slotOf_f, slotOf_t, bindP_var, bindP_tup, bindPs_nil, bindPs_cons, wipe_nil, wipe_cons, back_nil, back_cons, mapM_nilO, mapM_consO, noOwn, isOwn, fz_bor,
  List.map_cons, List.map_nil, List.replicate_succ, List.replicate_zero, List.cons_append, List.nil_append, List.getElem?_cons_zero, List.getElem?_cons_succ, List.set_cons_zero, List.set_cons_succ, List.length_cons, List.length_nil, List.all_cons, List.all_nil, Option.getD_some,
  Nat.zero_add, Nat.reduceAdd, Nat.reduceLT, Nat.reduceLeDiff, Nat.lt_add_left_iff_pos, Nat.zero_lt_succ, Nat.reduceEqDiff, Int.reduceEq, Int.reduceLT, Int.reduceLE, Int.reduceNeg, inR_0, retD_bor, Bool.not_true, Bool.not_false, idx_sp0, idx_sp1, ofInt_nI, aug_n, eq_n, eq_n0, eq_n1, ne_n0, gt_n0, len_b, len_nT, len_nL, in_T, in_L, nin_T, nin_L, bindP_sp, items_b, items_nT, items_nL, isNone_oD, aug_i, sz0, sz1, sz2, sz3, sz4, sz5, argsOf_mE, argOf, putBack, omap_some, na5, putB_nil, at0, at1, at2, at3, at4, ix51, ix52, ix53, true_or, or_true, sm1, sm2, sm3, sm4, sm5, Bool.or_true, reduceIte, Bool.and_self, Bool.and_true, Bool.true_and, if_true, if_false, Bool.or_true, Bool.true_or, ne_eq, not_false_eq_true, not_true_eq_false, true_and, and_true,
  List.nodup_cons, List.nodup_nil, List.not_mem_nil, List.mem_cons, or_false, false_or]) <;> (try simp -dsimp only [wp_ofX])))
variable {gcs : Nat → Option D} {cd : CallSem}
def oT (f : List (Option Nat)) : D := .tuple (f.map oD)
def CSteps (cd : CallSem) : Prop := ∀ (b : Bd) (p : Nat) (goal : List Nat), WB b → Wp (cd 0 [(false, bD b), (false, nI p), (false, nT goal)]) fun r => ∃ K, stF b p goal (K + 1) = stF b p goal K ∧ r = ([], true, oT (stF b p goal K))
theorem ixN_nat {n j : Nat} (h : j < n) : ixN n (j : Int) = some j := by
  unfold ixN
  rw [if_pos (by omega), if_pos (by omega)]
  rfl
def unk (f : List (Option Nat)) : Nat := ((List.range f.length).filter fun s => !known f s).length
theorem filter_lt {l : List Nat} {p q : Nat → Bool} (h : ∀ x ∈ l, p x = true → q x = true) {a : Nat} (ha : a ∈ l) (hq : q a = true) (hp : p a = false) : (l.filter p).length < (l.filter q).length := by
  have e : l.filter p = (l.filter q).filter p := by
    rw [List.filter_filter]
    apply List.filter_congr
    intro x hx
    cases hpx : p x with
    | false => rfl
    | true => rw [h x hx hpx]; rfl
  rw [e]
  exact List.length_filter_lt_length_iff_exists.mpr ⟨a, List.mem_filter.mpr ⟨ha, hq⟩, by rw [hp]; exact Bool.false_ne_true⟩
theorem rnd_len (b : Bd) (p : Nat) (f : List (Option Nat)) (k : Nat) : (rnd b p f k).length = b.length := by unfold rnd; rw [List.length_map, List.length_range]
theorem rnd_get {b : Bd} {p : Nat} {f : List (Option Nat)} {k s : Nat} (h : s < b.length) : (rnd b p f k).getD s none = if newly b p f s then some k else f.getD s none := by
  unfold rnd
  rw [List.getD_eq_getElem?_getD, List.getElem?_map, List.getElem?_range h]
  rfl
theorem rnd_known {b : Bd} {p : Nat} {f : List (Option Nat)} {k s : Nat} (h : s < b.length) : known (rnd b p f k) s = (known f s || newly b p f s) := by
  unfold known
  rw [rnd_get h]
  cases hn : newly b p f s with
  | true => rw [if_pos rfl, Bool.or_true]; rfl
  | false => rw [if_neg Bool.false_ne_true, Bool.or_false]
theorem unk_lt {b : Bd} {p : Nat} {f : List (Option Nat)} {k : Nat} (hf : f.length = b.length) (h : 0 < ((List.range b.length).filter (newly b p f)).length) : unk (rnd b p f k) < unk f := by
  obtain ⟨a, ha⟩ := List.exists_mem_of_length_pos h
  obtain ⟨h1, h2⟩ := List.mem_filter.mp ha
  have h1' := List.mem_range.mp h1
  unfold unk
  rw [rnd_len, hf]
  refine filter_lt (fun x hx hx2 => ?_) h1 (a := a) ?_ ?_
  · rw [rnd_known (List.mem_range.mp hx)] at hx2
    cases hk : known f x with
    | true => rw [hk, Bool.true_or] at hx2; exact hx2
    | false => rfl
  · unfold newly at h2
    exact (Bool.and_eq_true_iff.mp h2).1
  · rw [rnd_known h1', h2, Bool.or_true]; rfl
theorem rnd_stable {b : Bd} {p : Nat} {f : List (Option Nat)} {k : Nat} (hf : f.length = b.length) (h : ¬ 0 < ((List.range b.length).filter (newly b p f)).length) : rnd b p f k = f := by
  have e : (List.range b.length).filter (newly b p f) = [] := List.length_eq_zero_iff.mp (by omega)
  rw [← mark_rnd b p f k hf, e]
  rfl
theorem spot_at {b : Bd} {s : Nat} (h : s < b.length) : ∃ o ws, b[s]? = some (o, ws) ∧ (o, ws) ∈ b := ⟨b[s].1, b[s].2, List.getElem?_eq_getElem h, List.getElem_mem h⟩
theorem comp_map {α : Type} (l : List α) (g : α → D) : l.filterMap (fun a => some (g a)) = l.map g := by
  induction l with
  | nil => rfl
  | cons a r ih => rw [List.filterMap_cons, List.map_cons]; dsimp only; rw [ih]
theorem steps_ok (b : Bd) (p : Nat) (goal : List Nat) (hb : WB b) : Wp (runFn gcs cd fn_drawing_steps [(false, bD b), (false, nI p), (false, nT goal)]) fun r => ∃ K, stF b p goal (K + 1) = stF b p goal K ∧ r = ([], true, oT (stF b p goal K)) := by
  have hn := hb.le
  refine wp_run rfl ?_
  rw [show fn_drawing_steps.body = b_drawing_steps from rfl, show fn_drawing_steps.nl = 7 from rfl, b_drawing_steps]
  walk_at "en"
  rw [inR_nat (by omega), rng_n]
  walk_at "en"
  refine wp_bind (wp_loopCm nI (fun s => some (oD (if s ∈ goal then some 0 else none))) (fun s hs => ?_) (by rw [List.length_range]; exact small_le (by omega)) ?_)
  · refine ev_eq ?_
    walk_at "en"
    by_cases h : s ∈ goal
    · simp only [h, decide_true, if_true]
      walk_at "en"
      rfl
    · simp only [h, decide_false, if_false]
      walk_at "en"
      rfl
  rw [comp_map]
  walk_at "en"
  have e0 : (List.range b.length).map (fun s => oD (if s ∈ goal then some 0 else none)) = (stF b p goal 0).map oD := by
    unfold stF st0
    rw [List.map_map]; rfl
  rw [e0]
  refine wp_bind (wp_while (fun n d => ∃ (k : Nat) (g : Bool) (s4 s7 s8 : Slot), d = [.imm (bD b), .imm (nI p), .imm (nT goal), .own false (.list ((stF b p goal k).map oD)), s4, .imm (nI k), .imm (.bool g), s7, s8, .emp] ∧ (g = true → unk (stF b p goal k) < n) ∧ (g = false → ∃ j, k = j + 1 ∧ stF b p goal (j + 1) = stF b p goal j))
    (unk (stF b p goal 0) + 1) ⟨0, true, _, _, _, rfl, fun _ => Nat.lt_succ_self _, fun h => nomatch h⟩ ?_)
  rintro n d ⟨k, g, s4, s7, s8, rfl, h1, h2⟩
  rw [b_drawing_steps_1c]
  walk_at "en"
  refine ⟨fun hg => ?_, fun hg => ?_⟩
  · obtain ⟨j, rfl, hj⟩ := h2 hg
    exact ⟨j, hj, by rw [hj]; rfl⟩
  have hu := h1 hg
  refine ⟨n - 1, by omega, ?_⟩
  clear h1 h2
  have hfl := stF_len b p goal k
  generalize hf : stF b p goal k = f at hu hfl
  rw [b_drawing_steps_1]
  walk_at "en"
  rw [inR_nat (by omega), rng_n]
  walk_at "en"
  refine wp_bind (wp_loopFm nI (fun i d => ∃ (s4 s8 : Slot), d = [.imm (bD b), .imm (nI p), .imm (nT goal), .own false (.list (f.map oD)), s4, .imm (nI (k + 1)), .imm (.bool g), .own false (.list (((List.range i).filter (newly b p f)).map nI)), s8, .emp]) ⟨_, _, rfl⟩ ?_ ?_)
  · rintro i s d hs ⟨s4, s8, rfl⟩
    obtain ⟨hi, hs⟩ := List.getElem?_eq_some_iff.mp hs
    rw [List.getElem_range] at hs
    subst hs
    rw [List.length_range] at hi
    obtain ⟨o, ws, e, hm⟩ := spot_at hi
    rw [b_drawing_steps_2]
    walk_at "en"
    rw [idx_o (by omega)]
    walk_at "en"
    have ek : (f.getD i none).isNone = !known f i := by unfold known; rw [Option.not_isSome]
    rw [ek]
    cases hk : known f i with
    | true =>
      simp only [Bool.not_true]
      refine wp_ok ⟨.inl rfl, .imm (nI i), s8, ?_⟩
      rw [List.range_succ, List.filter_append, show [i].filter (newly b p f) = [] from List.filter_eq_nil_iff.mpr fun x hx => by rw [List.mem_singleton] at hx; subst hx; unfold newly; rw [hk]; exact Bool.noConfusion, List.append_nil]
    | false =>
      simp only [Bool.not_false]
      walk_at "en"
      rw [idx_b e]
      walk_at "en"
      refine wp_bind (wp_loopCm nI (fun w => some (.bool (known f w))) (fun w hw => ?_) (small_le (Nat.le_trans (hb.ln _ hm) (by omega))) ?_)
      · have hw2 := hb.lt _ hm w hw
        refine ev_eq ?_
        walk_at "en"
        rw [idx_o (by omega)]
        walk_at "en"
        rw [show (!(f.getD w none).isNone) = known f w by unfold known; rw [Option.not_isNone]]
      rw [comp_map]
      walk_at "en"
      rw [idx_b e]
      walk_at "en"
      have hfin : ∀ t : Bool, pull b p f i = t → (((List.range i).filter (newly b p f)).map nI ++ (if t then [nI i] else [])) = ((List.range (i + 1)).filter (newly b p f)).map nI := fun t ht => by
        rw [List.range_succ, List.filter_append, List.map_append]
        congr 1
        cases t with
        | true =>
          rw [show [i].filter (newly b p f) = [i] from List.filter_eq_self.mpr fun x hx => by rw [List.mem_singleton] at hx; subst hx; unfold newly; rw [hk, ht]; rfl]
          rfl
        | false =>
          rw [show [i].filter (newly b p f) = [] from List.filter_eq_nil_iff.mpr fun x hx => by rw [List.mem_singleton] at hx; subst hx; unfold newly; rw [ht, Bool.and_false]; exact Bool.noConfusion]
          rfl
      have hsz : ((((List.range i).filter (newly b p f)).map nI).length < sizeLine) = True := eq_true (by
        rw [List.length_map]
        exact small_lt (Nat.lt_of_le_of_lt (List.length_filter_le _ _) (by rw [List.length_range]; omega)))
      have hbs : ws.map (fun w => PyData.bool (known f w)) = (ws.map (known f)).map PyData.bool := by rw [List.map_map]; rfl
      by_cases ho : o = p
      · have hp : pull b p f i = ws.any (known f) := by unfold pull; rw [e]; dsimp only; rw [if_pos ho]
        rw [decide_eq_true ho]
        walk_at "en"
        rw [hbs, b_any]
        walk_at "en"
        have ha : (ws.map (known f)).any id = ws.any (known f) := by rw [List.any_map]; rfl
        rw [ha]
        have := hfin _ hp
        cases hc : ws.any (known f) with
        | true =>
          rw [hc] at this
          walk_at "en"
          simp only [hsz, if_true]
          walk_at "en"
          exact ⟨_, _, by rw [← this]; rfl⟩
        | false =>
          rw [hc] at this
          walk_at "en"
          exact ⟨_, _, by rw [← this, if_neg Bool.false_ne_true, List.append_nil]⟩
      · have hp : pull b p f i = ws.all (known f) := by unfold pull; rw [e]; dsimp only; rw [if_neg ho]
        rw [decide_eq_false ho]
        walk_at "en"
        rw [hbs, b_all]
        walk_at "en"
        have ha : (ws.map (known f)).all id = ws.all (known f) := by rw [List.all_map]; rfl
        rw [ha]
        have := hfin _ hp
        cases hc : ws.all (known f) with
        | true =>
          rw [hc] at this
          walk_at "en"
          simp only [hsz, if_true]
          walk_at "en"
          exact ⟨_, _, by rw [← this]; rfl⟩
        | false =>
          rw [hc] at this
          walk_at "en"
          exact ⟨_, _, by rw [← this, if_neg Bool.false_ne_true, List.append_nil]⟩
  · rintro d ⟨s4, s8, rfl⟩
    rw [List.length_range]
    walk_at "en"
    refine wp_bind (wp_loopFm nI (fun i d => ∃ s4, d = [.imm (bD b), .imm (nI p), .imm (nT goal), .own false (.list ((mark f (k + 1) (((List.range b.length).filter (newly b p f)).take i)).map oD)), s4, .imm (nI (k + 1)), .imm (.bool g), .imm (.list (((List.range b.length).filter (newly b p f)).map nI)), s8, .emp]) ⟨_, rfl⟩ ?_ ?_)
    · rintro i s d hs ⟨s4, rfl⟩
      have hsm : s < b.length := by
        have := List.mem_filter.mp (List.mem_of_getElem? hs)
        exact List.mem_range.mp this.1
      rw [b_drawing_steps_3]
      walk_at "en"
      rw [List.length_map, mark_len, hfl, ixN_nat hsm]
      walk_at "en"
      refine ⟨.imm (nI s), ?_⟩
      rw [List.take_add_one, hs, show (some s).toList = [s] from rfl]
      unfold mark
      rw [List.foldl_append, List.foldl_cons, List.foldl_nil, List.map_set]
      rfl
    · rintro d ⟨s4, rfl⟩
      walk_at "en"
      have hl : (0 : Int) < ((((List.range b.length).filter (newly b p f)).map nI).length : Nat) ↔ 0 < ((List.range b.length).filter (newly b p f)).length := by
        rw [List.length_map]; omega
      have hst : mark f (k + 1) (((List.range b.length).filter (newly b p f)).take ((List.range b.length).filter (newly b p f)).length) = stF b p goal (k + 1) := by
        rw [List.take_length, mark_rnd b p f (k + 1) hfl, ← hf]; rfl
      rw [hst, decide_eq_decide.mpr hl]
      refine ⟨k + 1, _, _, _, _, rfl, fun h => ?_, fun h => ⟨k, rfl, ?_⟩⟩
      · have := unk_lt (k := k + 1) hfl (of_decide_eq_true h)
        rw [show stF b p goal (k + 1) = rnd b p f (k + 1) by rw [← hf]; rfl]
        omega
      · rw [show stF b p goal (k + 1) = rnd b p f (k + 1) by rw [← hf]; rfl, rnd_stable hfl (of_decide_eq_false h), hf]
end DL
/-! P7: drawn spots, other spots, kept spots. -/
namespace DL
open PySem PySem.Spec PyProof.Rows L2
local macro_rules | `(tactic| walk_at "en") => `(tactic| ((simp -dsimp -implicitDefEqProofs only [↓wp_toX, wpX_ok, ↓bind_toX, ↓loopF_toX, ↓loopC_toX, ↓while_toX, bindX_ok, bindX_assoc, evS, evE, evO, evR, evL, evB, evA, evI, opt_some, opd_val, opd_bor, slotD_imm, slotD_own, fz_val, obind_some, omap_some, ofInt_int, ofBool_bool, items_list, items_tuple,
  run_add, run_sub, run_mul, run_fdiv, run_mod, run_lt, run_le, run_gt, run_ge, run_eqI, run_neI, run_isN, run_notN, run_not, run_neg, idx_list, idx_tuple, sli_list, sli_tuple, sli_scr, b_lenL, b_lenT, b_listS, b_listL, b_listT, b_tupL, b_tupT, b_max2, b_min2, b_int,
  argsOf_nil, argsOf_v, margs, retD_val, outs_nil, outs_f, outs_t, slotOf_f, slotOf_t, bindP_var, bindP_tup, bindPs_nil, bindPs_cons, wipe_nil, wipe_cons, back_nil, back_cons, mapM_nilO, mapM_consO, noOwn, isOwn, fz_bor,
  List.map_cons, List.map_nil, List.replicate_succ, List.replicate_zero, List.cons_append, List.nil_append, List.getElem?_cons_zero, List.getElem?_cons_succ, List.set_cons_zero, List.set_cons_succ, List.length_cons, List.length_nil, List.all_cons, List.all_nil, Option.getD_some,
  Nat.zero_add, Nat.reduceAdd, Nat.reduceLT, Nat.reduceLeDiff, Nat.lt_add_left_iff_pos, Nat.zero_lt_succ, Nat.reduceEqDiff, Int.reduceEq, Int.reduceLT, Int.reduceLE, Int.reduceNeg, inR_0, retD_bor, Bool.not_true, Bool.not_false, idx_sp0, idx_sp1, ofInt_nI, aug_n, eq_n, eq_n0, eq_n1, ne_n0, gt_n0, len_b, len_nT, len_nL, in_T, in_L, nin_T, nin_L, bindP_sp, items_b, items_nT, items_nL, isNone_oD, aug_i, sz0, sz1, sz2, sz3, sz4, sz5, argsOf_mE, argOf, putBack, omap_some, na5, putB_nil, at0, at1, at2, at3, at4, ix51, ix52, ix53, true_or, or_true, sm1, sm2, sm3, sm4, sm5, Bool.or_true, reduceIte, Bool.and_self, Bool.and_true, Bool.true_and, if_true, if_false, Bool.or_true, Bool.true_or, ne_eq, not_false_eq_true, not_true_eq_false, true_and, and_true,
  List.nodup_cons, List.nodup_nil, List.not_mem_nil, List.mem_cons, or_false, false_or]) <;> (try simp -dsimp only [wp_ofX])))
variable {gcs : Nat → Option D} {cd : CallSem}
/-- the spots that a player draws to the goal -/
inductive Att (b : Bd) (p : Nat) (goal : List Nat) : Nat → Prop where
  | goal {s : Nat} (h : s ∈ goal) (hs : s < b.length) : Att b p goal s
  | some {s o w : Nat} {ws : List Nat} (h : b[s]? = some (o, ws)) (ho : o = p) (hw : w ∈ ws) (a : Att b p goal w) : Att b p goal s
  | all {s o : Nat} {ws : List Nat} (h : b[s]? = some (o, ws)) (ho : o ≠ p) (a : ∀ w ∈ ws, Att b p goal w) : Att b p goal s
theorem Att.lt {b : Bd} {p : Nat} {goal : List Nat} {s : Nat} (h : Att b p goal s) : s < b.length := by
  cases h with
  | goal _ h => exact h
  | some h => exact (List.getElem?_eq_some_iff.mp h).1
  | all h => exact (List.getElem?_eq_some_iff.mp h).1
theorem st0_known {b : Bd} {goal : List Nat} {s : Nat} (h : s < b.length) : known (st0 b goal) s = decide (s ∈ goal) := by
  unfold known st0
  rw [List.getD_eq_getElem?_getD, List.getElem?_map, List.getElem?_range h]
  show (if s ∈ goal then some 0 else none : Option Nat).isSome = _
  by_cases q : s ∈ goal
  · rw [if_pos q, decide_eq_true q]; rfl
  · rw [if_neg q, decide_eq_false q]; rfl
theorem known_lt {f : List (Option Nat)} {s : Nat} (h : known f s = true) : s < f.length := by
  by_cases q : s < f.length
  · exact q
  · unfold known at h
    rw [List.getD_eq_getElem?_getD, List.getElem?_eq_none (by omega)] at h
    cases h
theorem known_att {b : Bd} {p : Nat} {goal : List Nat} : ∀ (k s : Nat), known (stF b p goal k) s = true → Att b p goal s
  | 0, s, h => by
    have hl := known_lt h
    rw [stF_len] at hl
    rw [show stF b p goal 0 = st0 b goal from rfl, st0_known hl] at h
    exact .goal (of_decide_eq_true h) hl
  | k + 1, s, h => by
    have hl := known_lt h
    rw [stF_len] at hl
    rw [show stF b p goal (k + 1) = rnd b p (stF b p goal k) (k + 1) from rfl, rnd_known hl, Bool.or_eq_true] at h
    rcases h with h | h
    · exact known_att k s h
    · unfold newly at h
      have h := (Bool.and_eq_true_iff.mp h).2
      unfold pull at h
      split at h
      · rename_i o ws e
        split at h
        · rename_i ho
          obtain ⟨w, hw, hk⟩ := List.any_eq_true.mp h
          exact .some e ho hw (known_att k w hk)
        · rename_i ho
          exact .all e ho fun w hw => known_att k w (List.all_eq_true.mp h w hw)
      · cases h
theorem known_mono {b : Bd} {p : Nat} {goal : List Nat} {s : Nat} : ∀ k, known (stF b p goal k) s = true → known (stF b p goal (k + 1)) s = true := fun k h => by
  have hl := known_lt h
  rw [stF_len] at hl
  rw [show stF b p goal (k + 1) = rnd b p (stF b p goal k) (k + 1) from rfl, rnd_known hl, h, Bool.true_or]
theorem known_goal {b : Bd} {p : Nat} {goal : List Nat} {s : Nat} (h : s ∈ goal) (hs : s < b.length) : ∀ k, known (stF b p goal k) s = true
  | 0 => by rw [show stF b p goal 0 = st0 b goal from rfl, st0_known hs, decide_eq_true h]
  | k + 1 => known_mono k (known_goal h hs k)
theorem stable_pull {b : Bd} {p : Nat} {goal : List Nat} {K : Nat} (hK : stF b p goal (K + 1) = stF b p goal K) {s : Nat} (hl : s < b.length) (h : pull b p (stF b p goal K) s = true) : known (stF b p goal K) s = true := by
  have e := rnd_known (b := b) (p := p) (f := stF b p goal K) (k := K + 1) hl
  rw [show rnd b p (stF b p goal K) (K + 1) = stF b p goal K from hK] at e
  cases q : known (stF b p goal K) s with
  | true => rfl
  | false =>
    rw [q] at e
    unfold newly at e
    rw [q, h] at e
    cases e
theorem att_known {b : Bd} {p : Nat} {goal : List Nat} {K : Nat} (hK : stF b p goal (K + 1) = stF b p goal K) {s : Nat} (h : Att b p goal s) : known (stF b p goal K) s = true := by
  induction h with
  | goal h hs => exact known_goal h hs K
  | @some s o w ws h ho hw a ih =>
    refine stable_pull hK (List.getElem?_eq_some_iff.mp h).1 ?_
    unfold pull
    rw [h]
    dsimp only
    rw [if_pos ho]
    exact List.any_eq_true.mpr ⟨w, hw, ih⟩
  | @all s o ws h ho a ih =>
    refine stable_pull hK (List.getElem?_eq_some_iff.mp h).1 ?_
    unfold pull
    rw [h]
    dsimp only
    rw [if_neg ho]
    exact List.all_eq_true.mpr ih
open Classical in
/-- the drawn spots, in order -/
noncomputable def drawn (b : Bd) (p : Nat) (goal : List Nat) : List Nat := (List.range b.length).filter fun s => decide (Att b p goal s)
open Classical in
theorem mem_drawn {b : Bd} {p : Nat} {goal : List Nat} {s : Nat} : s ∈ drawn b p goal ↔ Att b p goal s := by
  unfold drawn
  rw [List.mem_filter, List.mem_range, decide_eq_true_eq]
  exact ⟨fun h => h.2, fun h => ⟨h.lt, h⟩⟩
open Classical in
theorem drawn_eq {b : Bd} {p : Nat} {goal : List Nat} {K : Nat} (hK : stF b p goal (K + 1) = stF b p goal K) : (List.range b.length).filter (known (stF b p goal K)) = drawn b p goal := by
  unfold drawn
  apply List.filter_congr
  intro s _
  rw [Bool.eq_iff_iff, decide_eq_true_eq]
  exact ⟨known_att K s, att_known hK⟩
def others (b : Bd) (spots : List Nat) : List Nat := (List.range b.length).filter fun s => !decide (s ∈ spots)
theorem mem_others {b : Bd} {spots : List Nat} {s : Nat} : s ∈ others b spots ↔ s < b.length ∧ s ∉ spots := by
  unfold others
  rw [List.mem_filter, List.mem_range, Bool.not_eq_true', decide_eq_false_iff_not]
noncomputable def keeps (b : Bd) (spots : List Nat) : List Nat := others b (drawn b 1 (others b spots))
def CDrawn (cd : CallSem) : Prop := ∀ (b : Bd) (p : Nat) (goal : List Nat), WB b → cd 1 [(false, bD b), (false, nI p), (false, nT goal)] = .ok ([], true, nT (drawn b p goal))
def COthers (cd : CallSem) : Prop := ∀ (b : Bd) (spots : List Nat), WB b → cd 2 [(false, bD b), (false, nT spots)] = .ok ([], true, nT (others b spots))
def CKeeps (cd : CallSem) : Prop := ∀ (b : Bd) (spots : List Nat), WB b → cd 3 [(false, bD b), (false, nT spots)] = .ok ([], true, nT (keeps b spots))
theorem comp_filter (l : List Nat) (c : Nat → Bool) : l.filterMap (fun a => if c a then some (nI a) else none) = (l.filter c).map nI := by
  induction l with
  | nil => rfl
  | cons a r ih =>
    rw [List.filterMap_cons, List.filter_cons]
    cases h : c a with
    | true => rw [if_pos rfl, if_pos rfl, List.map_cons, ih]
    | false => rw [if_neg Bool.false_ne_true, if_neg Bool.false_ne_true, ih]
theorem drawn_ok (hs : CSteps cd) (b : Bd) (p : Nat) (goal : List Nat) (hb : WB b) : runFn gcs cd fn_drawn_in [(false, bD b), (false, nI p), (false, nT goal)] = .ok ([], true, nT (drawn b p goal)) := by
  have hn := hb.le
  refine ev_eq (wp_run rfl ?_)
  rw [show fn_drawn_in.body = b_drawn_in from rfl, show fn_drawn_in.nl = 2 from rfl, b_drawn_in]
  walk_at "en"
  refine wp_bind (wp_mono (hs b p goal hb) ?_)
  rintro r ⟨K, hK, rfl⟩
  walk_at "en"
  rw [inR_nat (by omega), rng_n]
  walk_at "en"
  refine wp_bind (wp_loopCm nI (fun s => if known (stF b p goal K) s then some (nI s) else none) (fun s hs => ?_) (by rw [List.length_range]; exact small_le (by omega)) ?_)
  · have hs2 := List.mem_range.mp hs
    refine ev_eq ?_
    walk_at "en"
    unfold oT
    rw [idx_oT (by rw [stF_len]; exact hs2)]
    walk_at "en"
    rw [show (!((stF b p goal K).getD s none).isNone) = known (stF b p goal K) s by unfold known; rw [Option.not_isNone]]
    cases known (stF b p goal K) s with
    | true => walk_at "en"; try rfl
    | false => walk_at "en"; try rfl
  rw [comp_filter, drawn_eq hK]
  walk_at "en"
  rfl
theorem others_ok (b : Bd) (spots : List Nat) (hb : WB b) : runFn gcs cd fn_other_spots [(false, bD b), (false, nT spots)] = .ok ([], true, nT (others b spots)) := by
  have hn := hb.le
  refine ev_eq (wp_run rfl ?_)
  rw [show fn_other_spots.body = b_other_spots from rfl, show fn_other_spots.nl = 1 from rfl, b_other_spots]
  walk_at "en"
  rw [inR_nat (by omega), rng_n]
  walk_at "en"
  refine wp_bind (wp_loopCm nI (fun s => if (!decide (s ∈ spots)) then some (nI s) else none) (fun s hs => ?_) (by rw [List.length_range]; exact small_le (by omega)) ?_)
  · refine ev_eq ?_
    walk_at "en"
    cases decide (s ∈ spots) with
    | true => walk_at "en"; try rfl
    | false => walk_at "en"; try rfl
  rw [comp_filter]
  walk_at "en"
  rfl
theorem keeps_ok (ho : COthers cd) (hd : CDrawn cd) (b : Bd) (spots : List Nat) (hb : WB b) : runFn gcs cd fn_keep_wins [(false, bD b), (false, nT spots)] = .ok ([], true, nT (keeps b spots)) := by
  refine ev_eq (wp_run rfl ?_)
  rw [show fn_keep_wins.body = b_keep_wins from rfl, show fn_keep_wins.nl = 0 from rfl, b_keep_wins]
  walk_at "en"
  rw [ho b spots hb]
  walk_at "en"
  rw [show PyData.int 1 = nI 1 from rfl, hd b 1 _ hb]
  walk_at "en"
  rw [ho b _ hb]
  walk_at "en"
  rfl
def freeD (b : Bd) (wins : List Nat) (s : Nat) : D := match b[s]? with
  | some (o, ws) => if o = 0 ∧ s ∈ wins then nT (ws.filter fun w => decide (w ∈ wins)) else .none
  | none => .none
def CFree (cd : CallSem) : Prop := ∀ (b : Bd) (spots : List Nat), WB b → cd 4 [(false, bD b), (false, nT spots)] = .ok ([], true, .tuple ((List.range b.length).map fun s => freeD b (keeps b spots) s))
theorem comp_filterN (l : List Nat) (c : Nat → Bool) : l.filterMap (fun a => if c a then some (nI a) else none) = (l.filter c).map nI := comp_filter l c
theorem free_ok (hk : CKeeps cd) (b : Bd) (spots : List Nat) (hb : WB b) : runFn gcs cd fn_free_moves [(false, bD b), (false, nT spots)] = .ok ([], true, .tuple ((List.range b.length).map fun s => freeD b (keeps b spots) s)) := by
  have hn := hb.le
  refine ev_eq (wp_run rfl ?_)
  rw [show fn_free_moves.body = b_free_moves from rfl, show fn_free_moves.nl = 7 from rfl, b_free_moves]
  walk_at "en"
  rw [hk b spots hb]
  generalize keeps b spots = W
  walk_at "en"
  rw [inR_nat (by omega), rng_n]
  walk_at "en"
  refine wp_bind (wp_loopFm nI (fun i d => ∃ s4 s5 s6 s7, d = [.imm (bD b), .imm (nT spots), .imm (nT W), .own false (.list ((List.range i).map fun s => freeD b W s)), s4, s5, s6, s7, .emp]) ⟨_, _, _, _, rfl⟩ ?_ ?_)
  · rintro i s d hs ⟨s4, s5, s6, s7, rfl⟩
    obtain ⟨hi, hs⟩ := List.getElem?_eq_some_iff.mp hs
    rw [List.getElem_range] at hs
    subst hs
    rw [List.length_range] at hi
    obtain ⟨o, ws, e, hm⟩ := spot_at hi
    have hsz : (((List.range i).map fun s => freeD b W s).length < sizeLine) = True := eq_true (by
      rw [List.length_map, List.length_range]
      exact small_lt (by omega))
    have hfin : ∀ x, x = freeD b W i → ((List.range i).map fun s => freeD b W s) ++ [x] = (List.range (i + 1)).map fun s => freeD b W s := fun x hx => by
      rw [List.range_succ, List.map_append, hx]; rfl
    rw [b_free_moves_1]
    walk_at "en"
    rw [idx_b e]
    walk_at "en"
    by_cases ho : o = 0
    · rw [decide_eq_true ho]
      walk_at "en"
      by_cases hw : i ∈ W
      · rw [decide_eq_true hw]
        walk_at "en"
        refine wp_bind (wp_loopCm nI (fun w => if decide (w ∈ W) then some (nI w) else none) (fun w hw => ?_) (small_le (Nat.le_trans (hb.ln _ hm) (by omega))) ?_)
        · refine ev_eq ?_
          walk_at "en"
          cases decide (w ∈ W) with
          | true => walk_at "en"; try rfl
          | false => walk_at "en"; try rfl
        rw [comp_filter]
        walk_at "en"
        simp only [hsz, if_true]
        walk_at "en"
        refine ⟨.imm (nI i), .imm (nI o), .imm (nT ws), .imm (.bool true), ?_⟩
        rw [hfin]
        unfold freeD
        rw [e]
        dsimp only
        rw [if_pos ⟨ho, hw⟩]
        rfl
      · rw [decide_eq_false hw]
        walk_at "en"
        simp only [hsz, if_true]
        walk_at "en"
        refine ⟨.imm (nI i), .imm (nI o), .imm (nT ws), .imm (.bool false), ?_⟩
        rw [hfin]
        unfold freeD
        rw [e]
        dsimp only
        rw [if_neg (fun h => hw h.2)]
    · rw [decide_eq_false ho]
      walk_at "en"
      simp only [hsz, if_true]
      walk_at "en"
      refine ⟨.imm (nI i), .imm (nI o), .imm (nT ws), .imm (.bool false), ?_⟩
      rw [hfin]
      unfold freeD
      rw [e]
      dsimp only
      rw [if_neg (fun h => ho h.1)]
  · rintro d ⟨s4, s5, s6, s7, rfl⟩
    walk_at "en"
    rw [List.length_range]
end DL
/-! P8: the harness' comparing, strategies, boards left, reach. -/
namespace DL
open PySem PySem.Spec PyProof.Rows L2
theorem ne_bb {a b : Bool} : O2.run .ne (.bool a) (.bool b) = some (.bool (!(a == b))) := by
  show some (PyData.bool (!PyData.eqv (.bool a) (.bool b))) = _
  unfold PyData.eqv
  rfl
theorem eqv_self {d : D} (h : d.canLay0 = true) : PyData.eqv d d = true := PySem.SeqAt.eqv_refl d h
local macro_rules | `(tactic| walk_at "en") => `(tactic| ((simp -dsimp -implicitDefEqProofs only [↓wp_toX, wpX_ok, ↓bind_toX, ↓loopF_toX, ↓loopC_toX, ↓while_toX, bindX_ok, bindX_assoc, evS, evE, evO, evR, evL, evB, evA, evI, opt_some, opd_val, opd_bor, slotD_imm, slotD_own, fz_val, obind_some, omap_some, ofInt_int, ofBool_bool, items_list, items_tuple,
  run_add, run_sub, run_mul, run_fdiv, run_mod, run_lt, run_le, run_gt, run_ge, run_eqI, run_neI, run_isN, run_notN, run_not, run_neg, idx_list, idx_tuple, sli_list, sli_tuple, sli_scr, b_lenL, b_lenT, b_listS, b_listL, b_listT, b_tupL, b_tupT, b_max2, b_min2, b_int,
  argsOf_nil, argsOf_v, margs, retD_val, outs_nil, outs_f, outs_t, slotOf_f, slotOf_t, bindP_var, bindP_tup, bindPs_nil, bindPs_cons, wipe_nil, wipe_cons, back_nil, back_cons, mapM_nilO, mapM_consO, noOwn, isOwn, fz_bor,
  List.map_cons, List.map_nil, List.replicate_succ, List.replicate_zero, List.cons_append, List.nil_append, List.getElem?_cons_zero, List.getElem?_cons_succ, List.set_cons_zero, List.set_cons_succ, List.length_cons, List.length_nil, List.all_cons, List.all_nil, Option.getD_some,
  Nat.zero_add, Nat.reduceAdd, Nat.reduceLT, Nat.reduceLeDiff, Nat.lt_add_left_iff_pos, Nat.zero_lt_succ, Nat.reduceEqDiff, Int.reduceEq, Int.reduceLT, Int.reduceLE, Int.reduceNeg, inR_0, retD_bor, Bool.not_true, Bool.not_false, idx_sp0, idx_sp1, ofInt_nI, aug_n, eq_n, eq_n0, eq_n1, ne_n0, gt_n0, len_b, len_nT, len_nL, in_T, in_L, nin_T, nin_L, bindP_sp, items_b, items_nT, items_nL, isNone_oD, aug_i, sz0, sz1, sz2, sz3, sz4, sz5, argsOf_mE, argOf, putBack, omap_some, na5, putB_nil, at0, at1, at2, at3, at4, ix51, ix52, ix53, true_or, or_true, sm1, sm2, sm3, sm4, sm5, Bool.or_true, reduceIte, Bool.and_self, Bool.and_true, Bool.true_and, if_true, if_false, Bool.or_true, Bool.true_or, ne_eq, not_false_eq_true, not_true_eq_false, true_and, and_true,
  List.nodup_cons, List.nodup_nil, List.not_mem_nil, List.mem_cons, or_false, false_or]) <;> (try simp -dsimp only [wp_ofX])))
local macro_rules | `(tactic| walk_at "es") => `(tactic| ((simp -dsimp -implicitDefEqProofs only [↓wp_toX, wpX_ok, ↓bind_toX, ↓loopF_toX, ↓loopC_toX, ↓while_toX, bindX_ok, bindX_assoc, evS, evE, evO, evR, evL, evB, evA, evI, opt_some, opd_val, opd_bor, slotD_imm, slotD_own, fz_val, obind_some, omap_some, ofInt_int, ofBool_bool, items_list, items_tuple,
  run_add, run_sub, run_mul, run_fdiv, run_mod, run_lt, run_le, run_gt, run_ge, run_eqI, run_neI, run_isN, run_notN, run_not, run_neg, idx_list, idx_tuple, sli_list, sli_tuple, sli_scr, b_lenL, b_lenT, b_listS, b_listL, b_listT, b_tupL, b_tupT, b_max2, b_min2, b_int,
  argsOf_nil, argsOf_v, margs, retD_val, outs_nil, outs_f, outs_t, slotOf_f, slotOf_t, bindP_var, bindP_tup, bindPs_nil, bindPs_cons, wipe_nil, wipe_cons, back_nil, back_cons, mapM_nilO, mapM_consO, noOwn, isOwn, fz_bor,
  List.map_cons, List.map_nil, List.replicate_succ, List.replicate_zero, List.cons_append, List.nil_append, List.getElem?_cons_zero, List.getElem?_cons_succ, List.set_cons_zero, List.set_cons_succ, List.length_cons, List.length_nil, List.all_cons, List.all_nil, Option.getD_some,
  Nat.zero_add, Nat.reduceAdd, Nat.reduceLT, Nat.reduceLeDiff, Nat.lt_add_left_iff_pos, Nat.zero_lt_succ, Nat.reduceEqDiff, Int.reduceEq, Int.reduceLT, Int.reduceLE, Int.reduceNeg, inR_0, retD_bor, isDct, Ty.has, ne_bb, beq_self_eq_true, decide_true, decide_false, Bool.false_eq_true, isNone, Bool.not_true, Bool.not_false, idx_sp0, idx_sp1, ofInt_nI, aug_n, eq_n, eq_n0, eq_n1, ne_n0, gt_n0, len_b, len_nT, len_nL, in_T, in_L, nin_T, nin_L, bindP_sp, items_b, items_nT, items_nL, isNone_oD, aug_i, sz0, sz1, sz2, sz3, sz4, sz5, argsOf_mE, argOf, putBack, omap_some, na5, putB_nil, at0, at1, at2, at3, at4, ix51, ix52, ix53, true_or, or_true, sm1, sm2, sm3, sm4, sm5, Bool.or_true, reduceIte, Bool.and_self, Bool.and_true, Bool.true_and, if_true, if_false, Bool.or_true, Bool.true_or, ne_eq, not_false_eq_true, not_true_eq_false, true_and, and_true,
  List.nodup_cons, List.nodup_nil, List.not_mem_nil, List.mem_cons, or_false, false_or]) <;> (try simp -dsimp only [wp_ofX])))
variable {gcs : Nat → Option D} {cd : CallSem}
def subD : D → List D
  | .list xs => xs
  | .tuple xs => xs
  | _ => []
/-- comparing a thing with itself -/
theorem same_ok (x : D) (hx : Sh 60 x) (hs : ∀ y ∈ subD x, cd 5 [(false, y), (false, y)] = .ok ([], true, .bool true)) (hl : (subD x).length ≤ 1048576) : runFn gcs cd fn_law_same [(false, x), (false, x)] = .ok ([], true, .bool true) := by
  refine ev_eq (wp_run rfl ?_)
  rw [show fn_law_same.body = b_law_same from rfl, show fn_law_same.nl = 1 from rfl, b_law_same]
  have hsh : shp x = true := hx.shp (by omega)
  have heq : O2.run .eq x x = some (.bool true) := by
    show (if (bothS x x || (shp x && shp x)) = true then some (PyData.bool (PyData.eqv x x)) else none) = _
    rw [if_pos (by rw [hsh]; cases bothS x x <;> rfl), eqv_self hx.lay]
  have seqCase : ∀ xs : List D, xs = subD x → (x = .list xs ∨ x = .tuple xs) → ∀ (d : DS), d = [.imm x, .imm x, .emp] →
      Wp (loopC (fun y d1 => if noOwn d1 [2] = true then (bindP (.var 2) y (wipeD d1 [2])).bind fun d2 => (evE gcs cd (.op1 .not (.call 5 (.cons (.idx (.var 0) (.var 2)) (.cons (.idx (.var 1) (.var 2)) .nil)))) d2).bind fun rt => (R.opt ((opd rt.2 rt.1).bind ofBool)).bind fun k =>
        match k with
        | true => (evE gcs cd (.var 2) rt.2).bind fun re => (R.opt (fz re.2 re.1)).bind fun q => .ok (some q.1, backD d1 q.2 [2])
        | false => .ok (none, backD d1 rt.2 [2]) else .no) ((List.range xs.length).map nI) d []) fun q => q = ([], d) := by
    rintro xs e hxs d rfl
    refine wp_loopCm nI (fun _ => none) (fun k hk => ?_) (by rw [List.length_range, e]; exact small_le hl) ?_
    · have hk2 := List.mem_range.mp hk
      have hi : idxD x (nI k) = some xs[k] := by rcases hxs with rfl | rfl <;> exact atI_nat (List.getElem?_eq_getElem hk2)
      refine ev_eq ?_
      walk_at "en"
      rw [hi]
      walk_at "en"
      rw [hi]
      walk_at "en"
      rw [hs _ (by rw [← e]; exact List.getElem_mem hk2)]
      walk_at "en"
    · rw [show (List.range xs.length).filterMap (fun _ => (none : Option D)) = [] from List.filterMap_eq_nil_iff.mpr fun _ _ => rfl]
  have hls : ∀ xs : List D, B1.run .len [.list xs] = some (nI xs.length) := fun xs => rfl
  have hlt : ∀ xs : List D, B1.run .len [.tuple xs] = some (nI xs.length) := fun xs => rfl
  cases x with
  | tuple xs =>
    have hxl : xs.length ≤ 1048576 := hl
    walk_at "es"
    rw [inR_nat hxl, rng_n]
    walk_at "es"
    refine wp_bind (wp_mono (seqCase xs rfl (.inr rfl) _ rfl) ?_)
    rintro q rfl
    walk_at "es"
    rfl
  | list xs =>
    have hxl : xs.length ≤ 1048576 := hl
    walk_at "es"
    rw [inR_nat hxl, rng_n]
    walk_at "es"
    refine wp_bind (wp_mono (seqCase xs rfl (.inl rfl) _ rfl) ?_)
    rintro q rfl
    walk_at "es"
    rfl
  | none => 
    walk_at "es"
  | bool b =>
    walk_at "es"
    rw [heq]
    walk_at "es"
  | int i =>
    walk_at "es"
  | str s =>
    walk_at "es"
    rw [heq]
    walk_at "es"
  | dict kv => exact absurd hx.nd (by intro h; cases h)
/-- plain data of depth n -/
inductive Cm : Nat → D → Prop where
  | non {n : Nat} : Cm n .none
  | bool {n : Nat} {b : Bool} : Cm n (.bool b)
  | int {n : Nat} {i : Int} : Cm n (.int i)
  | str {n : Nat} {x : Str} (h : (PyData.str x).canLay0 = true) : Cm n (.str x)
  | tup {n : Nat} {xs : List D} (h : ∀ y ∈ xs, Cm n y) (hl : xs.length ≤ 1048576) : Cm (n + 1) (.tuple xs)
  | lst {n : Nat} {xs : List D} (h : ∀ y ∈ xs, Cm n y) (hl : xs.length ≤ 1048576) : Cm (n + 1) (.list xs)
theorem Cm.sh : ∀ {n : Nat} {d : D}, Cm n d → Sh n d
  | _, _, .non => Sh.non.mono (Nat.zero_le _)
  | _, _, .bool => ⟨rfl, by rw [PyData.canLay0], by rw [PyData.depth]; exact Nat.zero_le _⟩
  | _, _, .int => ⟨rfl, by rw [PyData.canLay0], by rw [PyData.depth]; exact Nat.zero_le _⟩
  | _, _, .str h => ⟨rfl, h, by rw [PyData.depth]; exact Nat.zero_le _⟩
  | _, _, .tup h _ => Sh.tup fun x hx => (h x hx).sh
  | _, _, .lst h _ => Sh.lst fun x hx => (h x hx).sh
theorem Cm.nI {n k : Nat} : Cm k (nI n) := .int
theorem Cm.nT {k : Nat} {l : List Nat} (h : l.length ≤ 1048576) : Cm (k + 1) (nT l) := .tup (fun y hy => by
  obtain ⟨n, _, rfl⟩ := List.mem_map.mp hy
  exact Cm.nI) (by rw [List.length_map]; exact h)
/-- comparing a thing with itself, at a level -/
theorem same_all {T : Nat → Option Fn} (hT : T 5 = some fn_law_same) : ∀ (n : Nat) (x : D), Cm n x → n ≤ 60 → ∀ k, callD gcs T (n + k + 1) 5 [(false, x), (false, x)] = .ok ([], true, .bool true) := by
  have step : ∀ (k : Nat) (x : D), Sh 60 x → (∀ y ∈ subD x, callD gcs T k 5 [(false, y), (false, y)] = .ok ([], true, .bool true)) → (subD x).length ≤ 1048576 → callD gcs T (k + 1) 5 [(false, x), (false, x)] = .ok ([], true, .bool true) := fun k x h1 h2 h3 => by
    show (match T 5 with
      | some f => runFn gcs (callD gcs T k) f _
      | none => .no) = _
    rw [hT]
    exact same_ok x h1 h2 h3
  intro n
  induction n with
  | zero =>
    intro x h hn k
    refine step (0 + k) x (h.sh.mono (by omega)) ?_ ?_ <;> cases h <;> first | (intro y hy; cases hy) | exact Nat.zero_le _
  | succ n ih =>
    intro x h hn k
    have hs := h.sh.mono (show n + 1 ≤ 60 by omega)
    rw [show n + 1 + k + 1 = (n + k + 1) + 1 by omega]
    cases h with
    | tup h hl => exact step _ _ hs (fun y hy => ih y (h y hy) (by omega) k) hl
    | lst h hl => exact step _ _ hs (fun y hy => ih y (h y hy) (by omega) k) hl
    | _ => exact step _ _ hs (fun y hy => nomatch hy) (Nat.zero_le _)
/-! ### strategies -/
def rowD (row : List (Option Nat)) : D := .tuple (row.map oD)
def StratTo (b : Bd) (p i : Nat) (row : List (Option Nat)) : Prop := row.length = i ∧ ∀ j o ws, j < i → b[j]? = some (o, ws) → (o = p → ∃ w ∈ ws, row[j]? = some (some w)) ∧ (o ≠ p → row[j]? = some none)
def Strat (b : Bd) (p : Nat) (row : List (Option Nat)) : Prop := StratTo b p b.length row
def CStrats (cd : CallSem) : Prop := ∀ (b : Bd) (p m : Nat), BOk m b → m ≤ 9 → Wp (cd 12 [(false, bD b), (false, nI p)]) fun r => ∃ rows : List (List (Option Nat)), rows.length ≤ 3 ^ b.length ∧ (∀ row, row ∈ rows ↔ Strat b p row) ∧ r = ([], false, .list (rows.map rowD))
theorem bind_pairE {a c : I} {x : Nat × List Nat} {d : DS} : bindP (.tup (.cons a (.cons c .nil))) (spotD x) d = (bindP a (nI x.1) d).bind fun d1 => (bindP c (nT x.2) d1).bind fun d2 => .ok d2 := rfl
theorem pow3 {n m : Nat} (h : n ≤ m) : 3 ^ n ≤ 3 ^ m := Nat.pow_le_pow_right (by omega) h
theorem add_row {row : List (Option Nat)} {c : Option Nat} (h : row.length ≤ 1000) : O2.run .add (rowD row) (.tuple [oD c]) = some (rowD (row ++ [c])) := by
  unfold rowD
  rw [run_addT (by rw [List.length_map]; exact small_le (by show row.length + 1 ≤ _; omega)), List.map_append]; rfl
theorem strat_next {b : Bd} {p i o : Nat} {ws : List Nat} {row : List (Option Nat)} {c : Option Nat} (h : StratTo b p i row) (e : b[i]? = some (o, ws)) (h1 : o = p → ∃ w ∈ ws, c = some w) (h2 : o ≠ p → c = none) : StratTo b p (i + 1) (row ++ [c]) := by
  obtain ⟨hl, hr⟩ := h
  refine ⟨by rw [List.length_append, hl]; rfl, fun j o' ws' hj e' => ?_⟩
  by_cases hji : j = i
  · subst hji
    rw [e] at e'
    cases e'
    have hc : (row ++ [c])[j]? = some c := by rw [← hl, List.getElem?_concat_length]
    rw [hc]
    exact ⟨fun ho => by obtain ⟨w, hw, q⟩ := h1 ho; exact ⟨w, hw, by rw [q]⟩, fun ho => by rw [h2 ho]⟩
  · have hj2 : j < row.length := by omega
    rw [List.getElem?_append_left hj2]
    exact hr j o' ws' (by omega) e'
theorem strats_ok (b : Bd) (p m : Nat) (hb : BOk m b) (hm : m ≤ 9) : Wp (runFn gcs cd fn_law_strategies [(false, bD b), (false, nI p)]) fun r => ∃ rows : List (List (Option Nat)), rows.length ≤ 3 ^ b.length ∧ (∀ row, row ∈ rows ↔ Strat b p row) ∧ r = ([], false, .list (rows.map rowD)) := by
  refine wp_run rfl ?_
  rw [show fn_law_strategies.body = b_law_strategies from rfl, show fn_law_strategies.nl = 6 from rfl, b_law_strategies]
  walk_at "en"
  have hn9 : b.length ≤ 9 := Nat.le_trans hb.le hm
  have h39 : 3 ^ b.length ≤ 19683 := pow3 hn9
  refine wp_bind (wp_loopFm spotD (fun i d => ∃ (rows : List (List (Option Nat))) (s3 s4 s5 s6 : Slot), d = [.imm (bD b), .imm (nI p), .imm (.list (rows.map rowD)), s3, s4, s5, s6, .emp] ∧ rows.length ≤ 3 ^ i ∧ ∀ row, row ∈ rows ↔ StratTo b p i row) ⟨[[]], _, _, _, _, rfl, Nat.le_refl _, fun row => ?_⟩ ?_ ?_)
  · rw [List.mem_singleton]
    constructor
    · rintro rfl
      exact ⟨rfl, fun j o ws hj => absurd hj (Nat.not_lt_zero _)⟩
    · exact fun h => List.length_eq_zero_iff.mp h.1
  · rintro i ⟨o, ws⟩ d hi ⟨rows, s3, s4, s5, s6, rfl, hlen, hrows⟩
    have hib := (List.getElem?_eq_some_iff.mp hi).1
    have hbm := List.mem_of_getElem? hi
    have h3i : 3 ^ (i + 1) ≤ 19683 := Nat.le_trans (pow3 (show i + 1 ≤ b.length by omega)) h39
    have h3s : 3 ^ (i + 1) = 3 ^ i * 3 := Nat.pow_succ 3 i
    rw [b_law_strategies_1]
    walk_at "en"
    refine wp_bind (wp_loopFm rowD (fun j d => ∃ (ls : List (List (Option Nat))) (s6 : Slot), d = [.imm (bD b), .imm (nI p), .imm (.list (rows.map rowD)), .imm (nI o), .imm (nT ws), .imm (.list (ls.map rowD)), s6, .emp] ∧ ls.length ≤ j * 3 ∧ ∀ r, r ∈ ls ↔ ∃ row ∈ rows.take j, ∃ c, ((o = p → ∃ w ∈ ws, c = some w) ∧ (o ≠ p → c = none)) ∧ r = row ++ [c]) ⟨[], _, rfl, Nat.zero_le _, fun r => ⟨(fun h => nomatch h), fun ⟨row, h, _⟩ => by rw [List.take_zero] at h; cases h⟩⟩ ?_ ?_)
    · rintro j row d hj ⟨ls, s6, rfl, hll, hls⟩
      have hjr := (List.getElem?_eq_some_iff.mp hj).1
      have hrow := (hrows _).mp (List.mem_of_getElem? hj)
      rw [b_law_strategies_2]
      walk_at "en"
      have hrl : row.length ≤ 1000 := by rw [hrow.1]; omega
      have hwl : ws.length ≤ 3 := hb.ln _ hbm
      have hsz : ls.length ≤ 59049 := by omega
      have fin : ∀ cs : List (Option Nat), cs.length ≤ 3 → (∀ c, c ∈ cs ↔ (o = p → ∃ w ∈ ws, c = some w) ∧ (o ≠ p → c = none)) → (ls ++ cs.map fun c => row ++ [c]).length ≤ (j + 1) * 3 ∧ ∀ r, r ∈ ls ++ cs.map (fun c => row ++ [c]) ↔ ∃ row ∈ rows.take (j + 1), ∃ c, ((o = p → ∃ w ∈ ws, c = some w) ∧ (o ≠ p → c = none)) ∧ r = row ++ [c] := fun cs hc hcs => by
        refine ⟨by rw [List.length_append, List.length_map]; omega, fun r => ?_⟩
        rw [List.mem_append, hls r, List.take_add_one, hj]
        constructor
        · rintro (⟨row', h1, h2⟩ | h)
          · exact ⟨row', List.mem_append_left _ h1, h2⟩
          · obtain ⟨c, hc, rfl⟩ := List.mem_map.mp h
            exact ⟨row, List.mem_append_right _ List.mem_cons_self, c, (hcs c).mp hc, rfl⟩
        · rintro ⟨row', h1, c, h2, rfl⟩
          rcases List.mem_append.mp h1 with h1 | h1
          · exact .inl ⟨row', h1, c, h2, rfl⟩
          · have : row' = row := List.mem_singleton.mp h1
            subst this
            exact .inr (List.mem_map.mpr ⟨c, (hcs c).mpr h2, rfl⟩)
      by_cases ho : o = p
      · rw [decide_eq_true ho]
        walk_at "en"
        refine wp_bind (wp_loopCm nI (fun w => some (rowD (row ++ [some w]))) (fun w hw => ?_) (small_le (by omega)) ?_)
        · refine ev_eq ?_
          walk_at "en"
          rw [show nI w = oD (some w) from rfl, add_row hrl]
          walk_at "en"
        rw [comp_map]
        walk_at "en"
        rw [run_addL (by rw [List.length_map, List.length_map]; exact small_le (by omega))]
        walk_at "en"
        obtain ⟨f1, f2⟩ := fin (ws.map some) (by rw [List.length_map]; exact hwl) (fun c => by
          constructor
          · intro hc
            obtain ⟨w, hw, rfl⟩ := List.mem_map.mp hc
            exact ⟨fun _ => ⟨w, hw, rfl⟩, fun h => absurd ho h⟩
          · rintro ⟨h, _⟩
            obtain ⟨w, hw, rfl⟩ := h ho
            exact List.mem_map.mpr ⟨w, hw, rfl⟩)
        refine ⟨_, .imm (rowD row), ?_, f1, f2⟩
        rw [List.map_append, List.map_map, List.map_map]
        rfl
      · rw [decide_eq_false ho]
        walk_at "en"
        rw [show [PyData.none] = ([none] : List (Option Nat)).map oD from rfl]
        refine wp_bind (wp_loopCm oD (fun c => some (rowD (row ++ [c]))) (fun c hc => ?_) (small_le (by show 1 ≤ _; omega)) ?_)
        · refine ev_eq ?_
          walk_at "en"
          rw [add_row hrl]
          walk_at "en"
        rw [comp_map]
        walk_at "en"
        rw [run_addL (by rw [List.length_map]; exact small_le (by show ls.length + 1 ≤ _; omega))]
        walk_at "en"
        obtain ⟨f1, f2⟩ := fin [none] (by show 1 ≤ 3; omega) (fun c => by
          rw [List.mem_singleton]
          constructor
          · rintro rfl
            exact ⟨fun h => absurd h ho, fun _ => rfl⟩
          · exact fun h => h.2 ho)
        refine ⟨_, .imm (rowD row), ?_, f1, f2⟩
        rw [List.map_append, List.map_map]
        rfl
    · rintro d ⟨ls, s6, rfl, hll, hls⟩
      walk_at "en"
      refine ⟨ls, .imm (nI o), .imm (nT ws), .imm (.list (ls.map rowD)), s6, rfl, by omega, fun r => ?_⟩
      rw [hls r, List.take_length]
      constructor
      · rintro ⟨row, h1, c, h2, rfl⟩
        exact strat_next ((hrows row).mp h1) hi h2.1 h2.2
      · intro h
        have hrl := h.1
        have hrne : r ≠ [] := fun e => by rw [e] at hrl; cases hrl
        obtain ⟨q, c, rfl⟩ : ∃ q c, r = q ++ [c] := ⟨r.dropLast, r.getLast hrne, (List.dropLast_concat_getLast hrne).symm⟩
        have hql : q.length = i := by rw [List.length_append] at hrl; exact Nat.succ.inj hrl
        refine ⟨q, (hrows q).mpr ⟨hql, fun j o' ws' hj e' => ?_⟩, c, ?_, rfl⟩
        · have := h.2 j o' ws' (by omega) e'
          rwa [List.getElem?_append_left (by omega)] at this
        · have := h.2 i o ws (by omega) hi
          rw [← hql, List.getElem?_concat_length] at this
          refine ⟨fun ho => ?_, fun ho => Option.some.inj (this.2 ho)⟩
          obtain ⟨w, hw, e⟩ := this.1 ho
          exact ⟨w, hw, Option.some.inj e⟩
  · rintro d ⟨rows, s3, s4, s5, s6, rfl, hlen, hrows⟩
    walk_at "en"
    exact ⟨rows, hlen, hrows, rfl⟩
/-! ### a board where one side has chosen -/
def leftB (b : Bd) (p : Nat) (row : List (Option Nat)) : Bd := (b.zip row).map fun x => (x.1.1, if x.1.1 = p then x.2.toList else x.1.2)
def CLeft (cd : CallSem) : Prop := ∀ (b : Bd) (p : Nat) (row : List (Option Nat)), b.length ≤ 1000 → Strat b p row → cd 13 [(false, bD b), (false, nI p), (false, rowD row)] = .ok ([], true, bD (leftB b p row))
theorem zipD_map {α β : Type} (f : α → D) (g : β → D) : ∀ (xs : List α) (ys : List β), zipD (xs.map f) (ys.map g) = (xs.zip ys).map fun z => .tuple [f z.1, g z.2]
  | [], ys => by cases ys <;> rfl
  | x :: xs, [] => rfl
  | x :: xs, y :: ys => by
    show PyData.tuple [f x, g y] :: zipD (xs.map f) (ys.map g) = _
    rw [zipD_map f g xs ys]; rfl
theorem left_ok (b : Bd) (p : Nat) (row : List (Option Nat)) (hn : b.length ≤ 1000) (hr : Strat b p row) : runFn gcs cd fn_law_left [(false, bD b), (false, nI p), (false, rowD row)] = .ok ([], true, bD (leftB b p row)) := by
  refine ev_eq (wp_run rfl ?_)
  rw [show fn_law_left.body = b_law_left from rfl, show fn_law_left.nl = 3 from rfl, b_law_left]
  walk_at "en"
  rw [show bD b = PyData.tuple (b.map spotD) from rfl, show rowD row = PyData.tuple (row.map oD) from rfl]
  dsimp only
  rw [zipD_map]
  walk_at "en"
  have hlen : (b.zip row).length = b.length := by rw [List.length_zip, hr.1, Nat.min_self]
  refine wp_bind (wp_loopCm _ (fun x => some (spotD (x.1.1, if x.1.1 = p then x.2.toList else x.1.2))) (fun x hx => ?_) (by rw [hlen]; exact small_le (by omega)) ?_)
  · obtain ⟨⟨o, ws⟩, c⟩ := x
    refine ev_eq ?_
    walk_at "en"
    by_cases ho : o = p
    · rw [decide_eq_true ho, if_pos ho]
      obtain ⟨j, hj⟩ := List.getElem?_of_mem hx
      rw [List.getElem?_zip_eq_some] at hj
      have hjl := (List.getElem?_eq_some_iff.mp hj.1).1
      obtain ⟨w, _, hw⟩ := (hr.2 j o ws hjl hj.1).1 ho
      dsimp only at hj
      rw [hw] at hj
      have : some w = c := Option.some.inj hj.2
      subst this
      walk_at "en"
      rfl
    · rw [decide_eq_false ho, if_neg ho]
      walk_at "en"
      rfl
  rw [comp_map]
  walk_at "en"
  unfold bD leftB
  rw [List.map_map]
  rfl
/-! ### what can be reached -/
theorem lt_n {a b : Nat} : O2.run .lt (nI a) (nI b) = some (.bool (decide (a < b))) := by
  show some (PyData.bool (decide ((a : Int) < (b : Int)))) = _
  rw [show decide ((a : Int) < (b : Int)) = decide (a < b) from decide_eq_decide.mpr (by omega)]
theorem idx_nL {l : List Nat} {k : Nat} (h : k < l.length) : idxD (nL l) (nI k) = some (nI l[k]) := atI_nat (by rw [List.getElem?_map, List.getElem?_eq_getElem h]; rfl)
theorem idx_nT {l : List Nat} {k : Nat} (h : k < l.length) : idxD (nT l) (nI k) = some (nI l[k]) := atI_nat (by rw [List.getElem?_map, List.getElem?_eq_getElem h]; rfl)
theorem add_nL {l m : List Nat} (h : l.length + m.length ≤ 1048576) : O2.run .add (nL l) (.list (m.map nI)) = some (nL (l ++ m)) := by
  unfold nL
  rw [run_addL (by rw [List.length_map, List.length_map]; exact small_le h), List.map_append]
theorem add_n1 {k : Nat} : O2.run .add (nI k) (.int 1) = some (nI (k + 1)) := rfl
inductive Reach (b : Bd) (s : Nat) : Nat → Prop where
  | refl : Reach b s s
  | step {x o w : Nat} {ws : List Nat} (r : Reach b s x) (h : b[x]? = some (o, ws)) (hw : w ∈ ws) : Reach b s w
def CReach (cd : CallSem) : Prop := ∀ (b : Bd) (s : Nat), WB b → (∀ x ∈ b, x.2.Nodup) → s < b.length → Wp (cd 14 [(false, bD b), (false, nI s)]) fun r => ∃ F : List Nat, (∀ x, x ∈ F ↔ Reach b s x) ∧ F.length ≤ b.length ∧ r = ([], true, nL F)
theorem nodup_len : ∀ (n : Nat) (l : List Nat), l.Nodup → (∀ x ∈ l, x < n) → l.length ≤ n
  | 0, l, _, h => by
    cases l with
    | nil => exact Nat.le_refl _
    | cons a r => exact absurd (h a List.mem_cons_self) (Nat.not_lt_zero _)
  | n + 1, l, hd, h => by
    by_cases hn : n ∈ l
    · have h1 := nodup_len n (l.erase n) (hd.erase n) fun x hx => by
        have h2 := (hd.mem_erase_iff).mp hx
        have := h x h2.2
        omega
      rw [List.length_erase_of_mem hn] at h1
      omega
    · have := nodup_len n l hd fun x hx => by
        have := h x hx
        have : x ≠ n := fun e => hn (e ▸ hx)
        omega
      omega
theorem reach_ok (b : Bd) (s : Nat) (hb : WB b) (hnd : ∀ x ∈ b, x.2.Nodup) (hs : s < b.length) : Wp (runFn gcs cd fn_law_reach [(false, bD b), (false, nI s)]) fun r => ∃ F : List Nat, (∀ x, x ∈ F ↔ Reach b s x) ∧ F.length ≤ b.length ∧ r = ([], true, nL F) := by
  have hn := hb.le
  refine wp_run rfl ?_
  rw [show fn_law_reach.body = b_law_reach from rfl, show fn_law_reach.nl = 3 from rfl, b_law_reach]
  walk_at "en"
  refine wp_bind (wp_while (fun m d => ∃ (k : Nat) (F : List Nat), d = [.imm (bD b), .imm (nI s), .imm (nL F), .imm (nI k), .emp] ∧ m = b.length - k ∧ k ≤ F.length ∧ F.Nodup ∧ s ∈ F ∧ (∀ x ∈ F, Reach b s x ∧ x < b.length) ∧ ∀ j x o ws, j < k → F[j]? = some x → b[x]? = some (o, ws) → ∀ w ∈ ws, w ∈ F)
    b.length ⟨0, [s], rfl, by omega, Nat.zero_le _, List.nodup_cons.mpr ⟨List.not_mem_nil, List.nodup_nil⟩, List.mem_singleton.mpr rfl, fun x hx => ?_, fun j x o ws hj => absurd hj (Nat.not_lt_zero _)⟩ ?_)
  · rw [List.mem_singleton] at hx
    subst hx
    exact ⟨.refl, hs⟩
  rintro m d ⟨k, F, rfl, rfl, hk, hF, hsF, hR, hcl⟩
  have hFl := nodup_len b.length F hF fun x hx => (hR x hx).2
  rw [b_law_reach_1c]
  walk_at "en"
  rw [lt_n]
  walk_at "en"
  refine ⟨fun h => ?_, fun h => ?_⟩
  · have hkF : k = F.length := by
      have := of_decide_eq_false h
      omega
    unfold nL
    rw [b_srtL]
    walk_at "en"
    refine ⟨srt F, fun x => ⟨fun hx => (hR x ((srt_perm F).mem_iff.mp hx)).1, fun hx => (srt_perm F).mem_iff.mpr ?_⟩, by rw [(srt_perm F).length_eq]; exact hFl, rfl⟩
    induction hx with
    | refl => exact hsF
    | step r h hw ih =>
      obtain ⟨j, hj⟩ := List.getElem?_of_mem ih
      exact hcl j _ _ _ (by have := (List.getElem?_eq_some_iff.mp hj).1; omega) hj h _ hw
  · have hkF : k < F.length := of_decide_eq_true h
    refine ⟨b.length - (k + 1), by omega, ?_⟩
    rw [b_law_reach_1]
    have hx := hR F[k] (List.getElem_mem hkF)
    obtain ⟨o, ws, e, hm⟩ := spot_at hx.2
    walk_at "en"
    rw [idx_nL hkF]
    walk_at "en"
    rw [idx_b e]
    walk_at "en"
    refine wp_bind (wp_loopCm nI (fun w => if (!decide (w ∈ F)) then some (nI w) else none) (fun w hw => ?_) (small_le (Nat.le_trans (hb.ln _ hm) (by omega))) ?_)
    · refine ev_eq ?_
      walk_at "en"
      cases decide (w ∈ F) with
      | true => walk_at "en"; try rfl
      | false => walk_at "en"; try rfl
    rw [comp_filter]
    walk_at "en"
    have hln := hb.ln _ hm
    have hfl := List.length_filter_le (fun w => !decide (w ∈ F)) ws
    dsimp only at hln
    rw [add_nL (by omega)]
    walk_at "en"
    rw [add_n1]
    walk_at "en"
    refine ⟨k + 1, _, rfl, by omega, by rw [List.length_append]; omega, ?_, List.mem_append_left _ hsF, fun x hx2 => ?_, fun j x o2 ws2 hj hjx he w hw => ?_⟩
    · rw [List.nodup_append]
      refine ⟨hF, (hnd _ hm).sublist List.filter_sublist, fun a ha c hc e => ?_⟩
      subst e
      have := (List.mem_filter.mp hc).2
      rw [Bool.not_eq_true', decide_eq_false_iff_not] at this
      exact this ha
    · rcases List.mem_append.mp hx2 with h2 | h2
      · exact hR x h2
      · have h3 := (List.mem_filter.mp h2).1
        exact ⟨.step hx.1 e h3, hb.lt _ hm _ h3⟩
    · by_cases hjk : j < k
      · rw [List.getElem?_append_left (by omega)] at hjx
        exact List.mem_append_left _ (hcl j x o2 ws2 hjk hjx he w hw)
      · have : j = k := by omega
        subst this
        rw [List.getElem?_append_left hkF, List.getElem?_eq_getElem hkF] at hjx
        cases hjx
        rw [e] at he
        cases he
        by_cases hwF : w ∈ F
        · exact List.mem_append_left _ hwF
        · exact List.mem_append_right _ (List.mem_filter.mpr ⟨hw, by rw [Bool.not_eq_true', decide_eq_false_iff_not]; exact hwF⟩)
end DL
/-! P10: turned boards, one move, again and again. -/
namespace DL
open PySem PySem.Spec PyProof.Rows L2
/-- a while loop that may hand back -/
theorem wp_loopWR {c : DS → R (Bool × DS)} {b : DS → R (Out × DS)} {Q : Out × DS → Prop} (I : Nat → DS → Prop)
    (hs : ∀ n d, I n d → Wp (c d) fun r => (r.1 = false → Q (.nx, r.2)) ∧ (r.1 = true → Wp (b r.2) fun q => match q.1 with
      | .nx => ∃ m, n = m + 1 ∧ I m q.2
      | .ct => ∃ m, n = m + 1 ∧ I m q.2
      | .bk => Q (.nx, q.2)
      | .rt v => Q (.rt v, q.2))) : ∀ (n : Nat) (d : DS), I n d → ∃ r, loopW c b (n + 1) d = .ok r ∧ Q r := by
  intro n
  induction n with
  | zero =>
    intro d h
    obtain ⟨⟨k, d1⟩, e, h1, h2⟩ := hs 0 d h
    cases k with
    | false => exact ⟨_, by rw [loopW, e]; rfl, h1 rfl⟩
    | true =>
      obtain ⟨⟨o, d2⟩, e2, h3⟩ := h2 rfl
      cases o with
      | nx => obtain ⟨m, e, _⟩ := h3; cases e
      | ct => obtain ⟨m, e, _⟩ := h3; cases e
      | bk => exact ⟨_, by rw [loopW, e, bind_okE]; dsimp only; rw [e2]; rfl, h3⟩
      | rt v => exact ⟨_, by rw [loopW, e, bind_okE]; dsimp only; rw [e2]; rfl, h3⟩
  | succ n ih =>
    intro d h
    obtain ⟨⟨k, d1⟩, e, h1, h2⟩ := hs (n + 1) d h
    cases k with
    | false => exact ⟨_, by rw [loopW, e]; rfl, h1 rfl⟩
    | true =>
      obtain ⟨⟨o, d2⟩, e2, h3⟩ := h2 rfl
      cases o with
      | nx =>
        obtain ⟨m, em, hI⟩ := h3
        cases em
        obtain ⟨r, e4, q⟩ := ih d2 hI
        exact ⟨r, by rw [loopW, e, bind_okE]; dsimp only; rw [e2]; exact e4, q⟩
      | ct =>
        obtain ⟨m, em, hI⟩ := h3
        cases em
        obtain ⟨r, e4, q⟩ := ih d2 hI
        exact ⟨r, by rw [loopW, e, bind_okE]; dsimp only; rw [e2]; exact e4, q⟩
      | bk => exact ⟨_, by rw [loopW, e, bind_okE]; dsimp only; rw [e2]; rfl, h3⟩
      | rt v => exact ⟨_, by rw [loopW, e, bind_okE]; dsimp only; rw [e2]; rfl, h3⟩
theorem wp_whileR {c : DS → R (Bool × DS)} {b : DS → R (Out × DS)} {d : DS} {Q : Out × DS → Prop} (I : Nat → DS → Prop) (n : Nat) (h0 : I n d)
    (hs : ∀ n d, I n d → Wp (c d) fun r => (r.1 = false → Q (.nx, r.2)) ∧ (r.1 = true → Wp (b r.2) fun q => match q.1 with
      | .nx => ∃ m, n = m + 1 ∧ I m q.2
      | .ct => ∃ m, n = m + 1 ∧ I m q.2
      | .bk => Q (.nx, q.2)
      | .rt v => Q (.rt v, q.2))) : Wp (whileR c b d) Q := by
  obtain ⟨r, e, q⟩ := wp_loopWR I hs n d h0
  exact ⟨r, whileR_of e, q⟩
theorem eqvAll_n : ∀ a b : List Nat, PyData.eqvAll (a.map nI) (b.map nI) = decide (a = b)
  | [], [] => by rw [List.map_nil, PyData.eqvAll]; rfl
  | [], _ :: _ => by rw [List.map_nil, List.map_cons, PyData.eqvAll]; rfl
  | _ :: _, [] => by rw [List.map_nil, List.map_cons, PyData.eqvAll]; rfl
  | x :: a, y :: b => by
    rw [List.map_cons, List.map_cons, PyData.eqvAll, eqv_nI, eqvAll_n a b, Bool.eq_iff_iff, Bool.and_eq_true, decide_eq_true_eq, decide_eq_true_eq, decide_eq_true_eq, List.cons.injEq]
theorem eqv_nT (a b : List Nat) : PyData.eqv (nT a) (nT b) = decide (a = b) := by
  show PyData.eqv (.tuple (a.map nI)) (.tuple (b.map nI)) = _
  rw [PyData.eqv, eqvAll_n]
theorem eq_nT (a b : List Nat) : O2.run .eq (nT a) (nT b) = some (.bool (decide (a = b))) := by
  show (if (shp (nT a) && shp (nT b)) = true then some (PyData.bool (PyData.eqv (nT a) (nT b))) else none) = _
  rw [if_pos (by rw [Bool.and_eq_true]; exact ⟨(Sh.nT a).shp (by omega), (Sh.nT b).shp (by omega)⟩), eqv_nT]
theorem ne_nT (a b : List Nat) : O2.run .ne (nT a) (nT b) = some (.bool (!decide (a = b))) := by
  show (if (shp (nT a) && shp (nT b)) = true then some (PyData.bool (!PyData.eqv (nT a) (nT b))) else none) = _
  rw [if_pos (by rw [Bool.and_eq_true]; exact ⟨(Sh.nT a).shp (by omega), (Sh.nT b).shp (by omega)⟩), eqv_nT]
local macro_rules | `(tactic| walk_at "en") => `(tactic| ((simp -dsimp -implicitDefEqProofs only [↓wp_toX, wpX_ok, ↓bind_toX, ↓loopF_toX, ↓loopC_toX, ↓while_toX, bindX_ok, bindX_assoc, evS, evE, evO, evR, evL, evB, evA, evI, opt_some, opd_val, opd_bor, slotD_imm, slotD_own, fz_val, obind_some, omap_some, ofInt_int, ofBool_bool, items_list, items_tuple,
  run_add, run_sub, run_mul, run_fdiv, run_mod, run_lt, run_le, run_gt, run_ge, run_eqI, run_neI, run_isN, run_notN, run_not, run_neg, idx_list, idx_tuple, sli_list, sli_tuple, sli_scr, b_lenL, b_lenT, b_listS, b_listL, b_listT, b_tupL, b_tupT, b_max2, b_min2, b_int,
  argsOf_nil, argsOf_v, margs, retD_val, outs_nil, outs_f, outs_t, slotOf_f, slotOf_t, bindP_var, bindP_tup, bindPs_nil, bindPs_cons, wipe_nil, wipe_cons, back_nil, back_cons, mapM_nilO, mapM_consO, noOwn, isOwn, fz_bor,
  List.map_cons, List.map_nil, List.replicate_succ, List.replicate_zero, List.cons_append, List.nil_append, List.getElem?_cons_zero, List.getElem?_cons_succ, List.set_cons_zero, List.set_cons_succ, List.length_cons, List.length_nil, List.all_cons, List.all_nil, Option.getD_some,
  Nat.zero_add, Nat.reduceAdd, Nat.reduceLT, Nat.reduceLeDiff, Nat.lt_add_left_iff_pos, Nat.zero_lt_succ, Nat.reduceEqDiff, Int.reduceEq, Int.reduceLT, Int.reduceLE, Int.reduceNeg, inR_0, retD_bor, Bool.not_true, Bool.not_false, idx_sp0, idx_sp1, ofInt_nI, aug_n, eq_n, eq_n0, eq_n1, ne_n0, gt_n0, len_b, len_nT, len_nL, in_T, in_L, nin_T, nin_L, bindP_sp, items_b, items_nT, items_nL, isNone_oD, aug_i, sz0, sz1, sz2, sz3, sz4, sz5, argsOf_mE, argOf, putBack, omap_some, na5, putB_nil, at0, at1, at2, at3, at4, ix51, ix52, ix53, true_or, or_true, sm1, sm2, sm3, sm4, sm5, Bool.or_true, reduceIte, Bool.and_self, Bool.and_true, Bool.true_and, if_true, if_false, Bool.or_true, Bool.true_or, ne_eq, not_false_eq_true, not_true_eq_false, true_and, and_true,
  List.nodup_cons, List.nodup_nil, List.not_mem_nil, List.mem_cons, or_false, false_or]) <;> (try simp -dsimp only [wp_ofX])))
variable {gcs : Nat → Option D} {cd : CallSem}
def turned (b : Bd) : Bd := b.map fun s => (1 - s.1, s.2)
def CTurn (cd : CallSem) : Prop := ∀ b : Bd, b.length ≤ 1000 → (∀ s ∈ b, s.1 < 2) → cd 18 [(false, bD b)] = .ok ([], true, bD (turned b))
theorem sub_1 {o : Nat} (h : o < 2) : O2.run .sub (.int 1) (nI o) = some (nI (1 - o)) := by
  show some (PyData.int (1 - (o : Int))) = some (PyData.int ((1 - o : Nat) : Int))
  rw [show (1 : Int) - (o : Int) = ((1 - o : Nat) : Int) by omega]
theorem turn_ok (b : Bd) (hn : b.length ≤ 1000) (ho : ∀ s ∈ b, s.1 < 2) : runFn gcs cd fn_turned_board [(false, bD b)] = .ok ([], true, bD (turned b)) := by
  refine ev_eq (wp_run rfl ?_)
  rw [show fn_turned_board.body = b_turned_board from rfl, show fn_turned_board.nl = 2 from rfl, b_turned_board]
  walk_at "en"
  refine wp_bind (wp_loopCm spotD (fun x => some (spotD (1 - x.1, x.2))) (fun x hx => ?_) (small_le (by omega)) ?_)
  · refine ev_eq ?_
    walk_at "en"
    rw [sub_1 (ho x hx)]
    walk_at "en"
    rfl
  rw [comp_map]
  walk_at "en"
  unfold turned bD
  rw [List.map_map]
  rfl
/-- one move to the goal -/
def near (b : Bd) (p : Nat) (goal : List Nat) (s : Nat) : Bool := match b[s]? with
  | some (o, ws) => if o = p then ws.any fun w => decide (w ∈ goal) else ws.all fun w => decide (w ∈ goal)
  | none => false
def onem (b : Bd) (p : Nat) (goal : List Nat) : List Nat := (List.range b.length).filter (near b p goal)
def COne (cd : CallSem) : Prop := ∀ (b : Bd) (p : Nat) (goal : List Nat), WB b → cd 65 [(false, bD b), (false, nI p), (false, nT goal)] = .ok ([], true, nT (onem b p goal))
theorem one_ok (b : Bd) (p : Nat) (goal : List Nat) (hb : WB b) : runFn gcs cd fn_one_move [(false, bD b), (false, nI p), (false, nT goal)] = .ok ([], true, nT (onem b p goal)) := by
  have hn := hb.le
  refine ev_eq (wp_run rfl ?_)
  rw [show fn_one_move.body = b_one_move from rfl, show fn_one_move.nl = 4 from rfl, b_one_move]
  walk_at "en"
  rw [inR_nat (by omega), rng_n]
  walk_at "en"
  refine wp_bind (wp_loopFm nI (fun i d => ∃ s4 s5, d = [.imm (bD b), .imm (nI p), .imm (nT goal), .own false (.list (((List.range i).filter (near b p goal)).map nI)), s4, s5, .emp]) ⟨_, _, rfl⟩ ?_ ?_)
  · rintro i s d hs ⟨s4, s5, rfl⟩
    obtain ⟨hi, hs⟩ := List.getElem?_eq_some_iff.mp hs
    rw [List.getElem_range] at hs
    subst hs
    rw [List.length_range] at hi
    obtain ⟨o, ws, e, hm⟩ := spot_at hi
    rw [b_one_move_1]
    walk_at "en"
    rw [idx_b e]
    walk_at "en"
    refine wp_bind (wp_loopCm nI (fun w => some (.bool (decide (w ∈ goal)))) (fun w hw => ?_) (small_le (Nat.le_trans (hb.ln _ hm) (by omega))) ?_)
    · refine ev_eq ?_
      walk_at "en"
    rw [comp_map]
    walk_at "en"
    rw [idx_b e]
    walk_at "en"
    have hfin : ∀ t : Bool, near b p goal i = t → (((List.range i).filter (near b p goal)).map nI ++ (if t then [nI i] else [])) = ((List.range (i + 1)).filter (near b p goal)).map nI := fun t ht => by
      rw [List.range_succ, List.filter_append, List.map_append]
      congr 1
      cases t with
      | true =>
        rw [show [i].filter (near b p goal) = [i] from List.filter_eq_self.mpr fun x hx => by rw [List.mem_singleton] at hx; subst hx; exact ht]
        rfl
      | false =>
        rw [show [i].filter (near b p goal) = [] from List.filter_eq_nil_iff.mpr fun x hx => by rw [List.mem_singleton] at hx; subst hx; rw [ht]; exact Bool.noConfusion]
        rfl
    have hsz : ((((List.range i).filter (near b p goal)).map nI).length < sizeLine) = True := eq_true (by
      rw [List.length_map]
      exact small_lt (Nat.lt_of_le_of_lt (List.length_filter_le _ _) (by rw [List.length_range]; omega)))
    have hbs : ws.map (fun w => PyData.bool (decide (w ∈ goal))) = (ws.map (fun w => decide (w ∈ goal))).map PyData.bool := by rw [List.map_map]; rfl
    by_cases ho : o = p
    · have hp : near b p goal i = ws.any fun w => decide (w ∈ goal) := by unfold near; rw [e]; dsimp only; rw [if_pos ho]
      rw [decide_eq_true ho]
      walk_at "en"
      rw [hbs, b_any, List.any_map]
      walk_at "en"
      have := hfin _ hp
      have hc2 : (ws.any (id ∘ fun w => decide (w ∈ goal))) = ws.any fun w => decide (w ∈ goal) := rfl
      rw [hc2]
      cases hc : ws.any fun w => decide (w ∈ goal) with
      | true =>
        rw [hc] at this
        walk_at "en"
        simp only [hsz, if_true]
        walk_at "en"
        exact ⟨_, _, by rw [← this]; rfl⟩
      | false =>
        rw [hc] at this
        walk_at "en"
        exact ⟨_, _, by rw [← this, if_neg Bool.false_ne_true, List.append_nil]⟩
    · have hp : near b p goal i = ws.all fun w => decide (w ∈ goal) := by unfold near; rw [e]; dsimp only; rw [if_neg ho]
      rw [decide_eq_false ho]
      walk_at "en"
      rw [hbs, b_all, List.all_map]
      walk_at "en"
      have := hfin _ hp
      have hc2 : (ws.all (id ∘ fun w => decide (w ∈ goal))) = ws.all fun w => decide (w ∈ goal) := rfl
      rw [hc2]
      cases hc : ws.all fun w => decide (w ∈ goal) with
      | true =>
        rw [hc] at this
        walk_at "en"
        simp only [hsz, if_true]
        walk_at "en"
        exact ⟨_, _, by rw [← this]; rfl⟩
      | false =>
        rw [hc] at this
        walk_at "en"
        exact ⟨_, _, by rw [← this, if_neg Bool.false_ne_true, List.append_nil]⟩
  · rintro d ⟨s4, s5, rfl⟩
    rw [List.length_range]
    walk_at "en"
    rfl
end DL
/-! P11: again and again, at last. -/
namespace DL
open PySem PySem.Spec PyProof.Rows L2
local macro_rules | `(tactic| walk_at "en") => `(tactic| ((simp -dsimp -implicitDefEqProofs only [↓wp_toX, wpX_ok, ↓bind_toX, ↓loopF_toX, ↓loopC_toX, ↓while_toX, bindX_ok, bindX_assoc, evS, evE, evO, evR, evL, evB, evA, evI, opt_some, opd_val, opd_bor, slotD_imm, slotD_own, fz_val, obind_some, omap_some, ofInt_int, ofBool_bool, items_list, items_tuple,
  run_add, run_sub, run_mul, run_fdiv, run_mod, run_lt, run_le, run_gt, run_ge, run_eqI, run_neI, run_isN, run_notN, run_not, run_neg, idx_list, idx_tuple, sli_list, sli_tuple, sli_scr, b_lenL, b_lenT, b_listS, b_listL, b_listT, b_tupL, b_tupT, b_max2, b_min2, b_int,
  argsOf_nil, argsOf_v, margs, retD_val, outs_nil, outs_f, outs_t, slotOf_f, slotOf_t, bindP_var, bindP_tup, bindPs_nil, bindPs_cons, wipe_nil, wipe_cons, back_nil, back_cons, mapM_nilO, mapM_consO, noOwn, isOwn, fz_bor,
  List.map_cons, List.map_nil, List.replicate_succ, List.replicate_zero, List.cons_append, List.nil_append, List.getElem?_cons_zero, List.getElem?_cons_succ, List.set_cons_zero, List.set_cons_succ, List.length_cons, List.length_nil, List.all_cons, List.all_nil, Option.getD_some,
  Nat.zero_add, Nat.reduceAdd, Nat.reduceLT, Nat.reduceLeDiff, Nat.lt_add_left_iff_pos, Nat.zero_lt_succ, Nat.reduceEqDiff, Int.reduceEq, Int.reduceLT, Int.reduceLE, Int.reduceNeg, inR_0, retD_bor, Bool.not_true, Bool.not_false, idx_sp0, idx_sp1, ofInt_nI, aug_n, eq_n, eq_n0, eq_n1, ne_n0, gt_n0, len_b, len_nT, len_nL, in_T, in_L, nin_T, nin_L, bindP_sp, items_b, items_nT, items_nL, isNone_oD, aug_i, sz0, sz1, sz2, sz3, sz4, sz5, argsOf_mE, argOf, putBack, omap_some, na5, putB_nil, at0, at1, at2, at3, at4, ix51, ix52, ix53, true_or, or_true, sm1, sm2, sm3, sm4, sm5, Bool.or_true, reduceIte, Bool.and_self, Bool.and_true, Bool.true_and, if_true, if_false, Bool.or_true, Bool.true_or, ne_eq, not_false_eq_true, not_true_eq_false, true_and, and_true,
  List.nodup_cons, List.nodup_nil, List.not_mem_nil, List.mem_cons, or_false, false_or]) <;> (try simp -dsimp only [wp_ofX])))
variable {gcs : Nat → Option D} {cd : CallSem}
noncomputable def comes (b : Bd) (p : Nat) (goal : List Nat) : List Nat := onem b p (drawn b p goal)
def CComes (cd : CallSem) : Prop := ∀ (b : Bd) (p : Nat) (goal : List Nat), WB b → cd 66 [(false, bD b), (false, nI p), (false, nT goal)] = .ok ([], true, nT (comes b p goal))
theorem comes_ok (h1 : CDrawn cd) (h65 : COne cd) (b : Bd) (p : Nat) (goal : List Nat) (hb : WB b) : runFn gcs cd fn_comes_again [(false, bD b), (false, nI p), (false, nT goal)] = .ok ([], true, nT (comes b p goal)) := by
  refine ev_eq (wp_run rfl ?_)
  rw [show fn_comes_again.body = b_comes_again from rfl, show fn_comes_again.nl = 0 from rfl, b_comes_again]
  walk_at "en"
  rw [h1 b p goal hb]
  walk_at "en"
  rw [h65 b p _ hb]
  walk_at "en"
  rfl
/-- the rounds -/
noncomputable def agF (b : Bd) (spots : List Nat) : Nat → List Nat
  | 0 => spots
  | k + 1 => (agF b spots k).filter fun s => decide (s ∈ comes b 0 (agF b spots k))
/-- the first round that stands still -/
def Still (b : Bd) (spots : List Nat) (K : Nat) : Prop := agF b spots (K + 1) = agF b spots K ∧ ∀ j, j < K → agF b spots (j + 1) ≠ agF b spots j
theorem Still.uniq {b : Bd} {spots : List Nat} {K L : Nat} (h : Still b spots K) (g : Still b spots L) : K = L := by
  rcases Nat.lt_trichotomy K L with q | q | q
  · exact absurd h.1 (g.2 K q)
  · exact q
  · exact absurd g.1 (h.2 L q)
def CRounds (cd : CallSem) : Prop := ∀ (b : Bd) (spots : List Nat), WB b → spots.length ≤ 1000 → Wp (cd 67 [(false, bD b), (false, nT spots)]) fun r => ∃ K, Still b spots K ∧ r = ([], true, .list ((List.range (K + 1)).map fun j => nT (agF b spots j)))
theorem at_last {xs : List D} {x : D} : atI (xs ++ [x]) (-1) = some x := atI_last xs x
theorem agF_len (b : Bd) (spots : List Nat) (k : Nat) : (agF b spots (k + 1)).length ≤ (agF b spots k).length := List.length_filter_le _ _
theorem agF_lt {b : Bd} {spots : List Nat} {k : Nat} (h : agF b spots (k + 1) ≠ agF b spots k) : (agF b spots (k + 1)).length < (agF b spots k).length := by
  have h1 := agF_len b spots k
  rcases Nat.lt_or_eq_of_le h1 with h2 | h2
  · exact h2
  · exfalso
    apply h
    exact (List.filter_sublist (l := agF b spots k)).eq_of_length h2
theorem rounds_ok (h66 : CComes cd) (b : Bd) (spots : List Nat) (hb : WB b) (hs : spots.length ≤ 1000) : Wp (runFn gcs cd fn_again_rounds [(false, bD b), (false, nT spots)]) fun r => ∃ K, Still b spots K ∧ r = ([], true, .list ((List.range (K + 1)).map fun j => nT (agF b spots j))) := by
  refine wp_run rfl ?_
  rw [show fn_again_rounds.body = b_again_rounds from rfl, show fn_again_rounds.nl = 4 from rfl, b_again_rounds]
  walk_at "en"
  refine wp_bind (wp_whileR (fun n d => ∃ (k : Nat) (s3 s4 : Slot), d = [.imm (bD b), .imm (nT spots), .own false (.list (((List.range k).map fun j => nT (agF b spots j)) ++ [nT (agF b spots k)])), s3, s4, .emp] ∧ (agF b spots k).length ≤ n ∧ k + (agF b spots k).length ≤ spots.length ∧ ∀ j, j < k → agF b spots (j + 1) ≠ agF b spots j)
    spots.length ⟨0, _, _, rfl, Nat.le_refl _, by show 0 + spots.length ≤ _; omega, fun j h => absurd h (Nat.not_lt_zero _)⟩ ?_)
  rintro n d ⟨k, s3, s4, rfl, hn, hk, hne⟩
  rw [b_again_rounds_1c]
  walk_at "en"
  refine ⟨fun h => Bool.noConfusion h, fun _ => ?_⟩
  rw [b_again_rounds_1]
  walk_at "en"
  rw [at_last]
  walk_at "en"
  rw [show PyData.int 0 = nI 0 from rfl, h66 b 0 _ hb]
  walk_at "en"
  rw [at_last]
  walk_at "en"
  refine wp_bind (wp_loopCm nI (fun s => if decide (s ∈ comes b 0 (agF b spots k)) then some (nI s) else none) (fun s hs => ?_) (small_le (by omega)) ?_)
  · refine ev_eq ?_
    walk_at "en"
    cases decide (s ∈ comes b 0 (agF b spots k)) with
    | true => walk_at "en"; try rfl
    | false => walk_at "en"; try rfl
  rw [comp_filter]
  walk_at "en"
  rw [at_last]
  walk_at "en"
  rw [show PyData.tuple (((agF b spots k).filter fun s => decide (s ∈ comes b 0 (agF b spots k))).map nI) = nT (agF b spots (k + 1)) from rfl, eq_nT]
  walk_at "en"
  by_cases he : agF b spots (k + 1) = agF b spots k
  · rw [decide_eq_true he]
    walk_at "en"
    refine ⟨k, ⟨he, hne⟩, ?_⟩
    rw [List.range_succ, List.map_append]
    rfl
  · rw [decide_eq_false he]
    walk_at "en"
    have hlt := agF_lt he
    have hsz : ((((List.range k).map fun j => nT (agF b spots j)) ++ [nT (agF b spots k)]).length < sizeLine) = True := eq_true (by
      rw [List.length_append, List.length_map, List.length_range]
      exact small_lt (by show k + 1 < _; omega))
    simp only [hsz, if_true]
    walk_at "en"
    refine ⟨n - 1, by omega, k + 1, .imm (nT (comes b 0 (agF b spots k))), .imm (nT (agF b spots (k + 1))), ?_, by omega, by omega, fun j hj => ?_⟩
    · rw [List.range_succ, List.map_append]; rfl
    · by_cases hjk : j = k
      · rw [hjk]; exact he
      · exact hne j (by omega)
/-- again and again -/
def AgainIs (b : Bd) (spots W : List Nat) : Prop := ∃ K, Still b spots K ∧ W = drawn b 0 (agF b spots K)
def CAgain (cd : CallSem) : Prop := ∀ (b : Bd) (spots : List Nat), WB b → spots.length ≤ 1000 → Wp (cd 68 [(false, bD b), (false, nT spots)]) fun r => ∃ W, AgainIs b spots W ∧ r = ([], true, nT W)
theorem again_ok (h1 : CDrawn cd) (h67 : CRounds cd) (b : Bd) (spots : List Nat) (hb : WB b) (hs : spots.length ≤ 1000) : Wp (runFn gcs cd fn_again_wins [(false, bD b), (false, nT spots)]) fun r => ∃ W, AgainIs b spots W ∧ r = ([], true, nT W) := by
  refine wp_run rfl ?_
  rw [show fn_again_wins.body = b_again_wins from rfl, show fn_again_wins.nl = 0 from rfl, b_again_wins]
  walk_at "en"
  refine wp_bind (wp_mono (h67 b spots hb hs) ?_)
  rintro r ⟨K, hK, rfl⟩
  rw [List.range_succ, List.map_append]
  walk_at "en"
  rw [at_last]
  walk_at "en"
  rw [show PyData.int 0 = nI 0 from rfl, h1 b 0 _ hb]
  walk_at "en"
  exact ⟨_, ⟨K, hK, rfl⟩, rfl⟩
def AtlastIs (b : Bd) (spots W : List Nat) : Prop := ∃ V, AgainIs (turned b) (others b spots) V ∧ W = others b V
def CAtlast (cd : CallSem) : Prop := ∀ (b : Bd) (spots : List Nat), WB b → (∀ s ∈ b, s.1 < 2) → Wp (cd 69 [(false, bD b), (false, nT spots)]) fun r => ∃ W, AtlastIs b spots W ∧ r = ([], true, nT W)
theorem turned_len (b : Bd) : (turned b).length = b.length := List.length_map _
theorem turned_wb {b : Bd} (h : WB b) : WB (turned b) := ⟨by rw [turned_len]; exact h.le, fun s hs => by
  obtain ⟨x, hx, rfl⟩ := List.mem_map.mp hs
  rw [turned_len]
  exact h.lt x hx, fun s hs => by
  obtain ⟨x, hx, rfl⟩ := List.mem_map.mp hs
  exact h.ln x hx⟩
theorem others_len (b : Bd) (spots : List Nat) : (others b spots).length ≤ b.length := by
  unfold others
  exact Nat.le_trans (List.length_filter_le _ _) (by rw [List.length_range]; exact Nat.le_refl _)
theorem atlast_ok (h2 : COthers cd) (h18 : CTurn cd) (h68 : CAgain cd) (b : Bd) (spots : List Nat) (hb : WB b) (ho : ∀ s ∈ b, s.1 < 2) : Wp (runFn gcs cd fn_atlast_wins [(false, bD b), (false, nT spots)]) fun r => ∃ W, AtlastIs b spots W ∧ r = ([], true, nT W) := by
  refine wp_run rfl ?_
  rw [show fn_atlast_wins.body = b_atlast_wins from rfl, show fn_atlast_wins.nl = 0 from rfl, b_atlast_wins]
  walk_at "en"
  rw [h18 b hb.le ho]
  walk_at "en"
  rw [h2 b spots hb]
  walk_at "en"
  refine wp_bind (wp_mono (h68 (turned b) (others b spots) (turned_wb hb) (Nat.le_trans (others_len b spots) hb.le)) ?_)
  rintro r ⟨V, hV, rfl⟩
  walk_at "en"
  rw [h2 b V hb]
  walk_at "en"
  exact ⟨_, ⟨V, hV, rfl⟩, rfl⟩
end DL
/-! P12: the rings of a board. -/
namespace DL
open PySem PySem.Spec PyProof.Rows L2
local macro_rules | `(tactic| walk_at "en") => `(tactic| ((simp -dsimp -implicitDefEqProofs only [↓wp_toX, wpX_ok, ↓bind_toX, ↓loopF_toX, ↓loopC_toX, ↓while_toX, bindX_ok, bindX_assoc, evS, evE, evO, evR, evL, evB, evA, evI, opt_some, opd_val, opd_bor, slotD_imm, slotD_own, fz_val, obind_some, omap_some, ofInt_int, ofBool_bool, items_list, items_tuple,
  run_add, run_sub, run_mul, run_fdiv, run_mod, run_lt, run_le, run_gt, run_ge, run_eqI, run_neI, run_isN, run_notN, run_not, run_neg, idx_list, idx_tuple, sli_list, sli_tuple, sli_scr, b_lenL, b_lenT, b_listS, b_listL, b_listT, b_tupL, b_tupT, b_max2, b_min2, b_int,
  argsOf_nil, argsOf_v, margs, retD_val, outs_nil, outs_f, outs_t, slotOf_f, slotOf_t, bindP_var, bindP_tup, bindPs_nil, bindPs_cons, wipe_nil, wipe_cons, back_nil, back_cons, mapM_nilO, mapM_consO, noOwn, isOwn, fz_bor,
  List.map_cons, List.map_nil, List.replicate_succ, List.replicate_zero, List.cons_append, List.nil_append, List.getElem?_cons_zero, List.getElem?_cons_succ, List.set_cons_zero, List.set_cons_succ, List.length_cons, List.length_nil, List.all_cons, List.all_nil, Option.getD_some,
  Nat.zero_add, Nat.reduceAdd, Nat.reduceLT, Nat.reduceLeDiff, Nat.lt_add_left_iff_pos, Nat.zero_lt_succ, Nat.reduceEqDiff, Int.reduceEq, Int.reduceLT, Int.reduceLE, Int.reduceNeg, inR_0, retD_bor, Bool.not_true, Bool.not_false, idx_sp0, idx_sp1, ofInt_nI, aug_n, eq_n, eq_n0, eq_n1, ne_n0, gt_n0, len_b, len_nT, len_nL, in_T, in_L, nin_T, nin_L, bindP_sp, items_b, items_nT, items_nL, isNone_oD, aug_i, sz0, sz1, sz2, sz3, sz4, sz5, argsOf_mE, argOf, putBack, omap_some, na5, putB_nil, at0, at1, at2, at3, at4, ix51, ix52, ix53, true_or, or_true, sm1, sm2, sm3, sm4, sm5, Bool.or_true, reduceIte, Bool.and_self, Bool.and_true, Bool.true_and, if_true, if_false, Bool.or_true, Bool.true_or, ne_eq, not_false_eq_true, not_true_eq_false, true_and, and_true,
  List.nodup_cons, List.nodup_nil, List.not_mem_nil, List.mem_cons, or_false, false_or]) <;> (try simp -dsimp only [wp_ofX])))
variable {gcs : Nat → Option D} {cd : CallSem}
def wayN (b : Bd) (x : Nat) : List Nat := match b[x]? with
  | some (_, ws) => ws
  | none => []
theorem wayN_of {b : Bd} {x o : Nat} {ws : List Nat} (e : b[x]? = some (o, ws)) : wayN b x = ws := by unfold wayN; rw [e]
def hits (b : Bd) (row : List Nat) : List (List Nat) := ((wayN b (row.getLastD 0)).filter fun w => decide (w = row.headD 0)).map fun _ => row
def exts (b : Bd) (row : List Nat) : List (List Nat) := ((wayN b (row.getLastD 0)).filter fun w => decide (row.headD 0 < w) && !decide (w ∈ row)).map fun w => row ++ [w]
def rowsF (b : Bd) : Nat → List (List Nat)
  | 0 => (List.range b.length).map fun s => [s]
  | k + 1 => (rowsF b k).flatMap (exts b)
def foundF (b : Bd) : Nat → List (List Nat)
  | 0 => []
  | k + 1 => foundF b k ++ (rowsF b k).flatMap (hits b)
/-- rows of the k-th level -/
theorem rowsF_ok {b : Bd} (hlt : ∀ s ∈ b, ∀ w ∈ s.2, w < b.length) : ∀ (k : Nat) (row : List Nat), row ∈ rowsF b k → row.length = k + 1 ∧ row.Nodup ∧ ∀ x ∈ row, x < b.length
  | 0, row, h => by
    obtain ⟨s, hs, rfl⟩ := List.mem_map.mp h
    exact ⟨rfl, List.nodup_cons.mpr ⟨List.not_mem_nil, List.nodup_nil⟩, fun x hx => by rw [List.mem_singleton] at hx; subst hx; exact List.mem_range.mp hs⟩
  | k + 1, row, h => by
    obtain ⟨r, hr, h⟩ := List.mem_flatMap.mp h
    obtain ⟨h1, h2, h3⟩ := rowsF_ok hlt k r hr
    obtain ⟨w, hw, rfl⟩ := List.mem_map.mp h
    obtain ⟨hw1, hw2⟩ := List.mem_filter.mp hw
    obtain ⟨_, hw3⟩ := Bool.and_eq_true_iff.mp hw2
    rw [Bool.not_eq_true', decide_eq_false_iff_not] at hw3
    refine ⟨by rw [List.length_append, h1]; rfl, ?_, fun x hx => ?_⟩
    · rw [List.nodup_append]
      refine ⟨h2, List.nodup_cons.mpr ⟨List.not_mem_nil, List.nodup_nil⟩, fun a ha c hc e => ?_⟩
      rw [List.mem_singleton] at hc
      subst hc e
      exact hw3 ha
    · rcases List.mem_append.mp hx with hx | hx
      · exact h3 x hx
      · rw [List.mem_singleton] at hx
        subst hx
        unfold wayN at hw1
        split at hw1
        · rename_i o ws e
          exact hlt _ (List.mem_of_getElem? e) _ hw1
        · cases hw1
theorem flat_len {α β : Type} (f : α → List β) (c : Nat) : ∀ l : List α, (∀ a ∈ l, (f a).length ≤ c) → (l.flatMap f).length ≤ l.length * c
  | [], _ => Nat.zero_le _
  | a :: r, h => by
    rw [List.flatMap_cons, List.length_append, List.length_cons, Nat.add_mul, Nat.one_mul]
    have h1 := h a List.mem_cons_self
    have h2 := flat_len f c r fun x hx => h x (List.mem_cons_of_mem _ hx)
    omega
theorem wayN_len {b : Bd} (h : ∀ s ∈ b, s.2.length ≤ 3) (x : Nat) : (wayN b x).length ≤ 3 := by
  unfold wayN
  split
  · rename_i o ws e
    exact h _ (List.mem_of_getElem? e)
  · exact Nat.zero_le _
theorem exts_len {b : Bd} (h : ∀ s ∈ b, s.2.length ≤ 3) (row : List Nat) : (exts b row).length ≤ 3 := by
  unfold exts
  rw [List.length_map]
  exact Nat.le_trans (List.length_filter_le _ _) (wayN_len h _)
theorem hits_len {b : Bd} (h : ∀ s ∈ b, s.2.length ≤ 3) (row : List Nat) : (hits b row).length ≤ 3 := by
  unfold hits
  rw [List.length_map]
  exact Nat.le_trans (List.length_filter_le _ _) (wayN_len h _)
theorem rowsF_len {b : Bd} (h : ∀ s ∈ b, s.2.length ≤ 3) : ∀ k, (rowsF b k).length ≤ b.length * 3 ^ k
  | 0 => by unfold rowsF; rw [List.length_map, List.length_range]; omega
  | k + 1 => by
    have h1 := flat_len (exts b) 3 (rowsF b k) fun r _ => exts_len h r
    have h2 := rowsF_len h k
    show ((rowsF b k).flatMap (exts b)).length ≤ _
    rw [Nat.pow_succ, ← Nat.mul_assoc]
    exact Nat.le_trans h1 (Nat.mul_le_mul_right 3 h2)
theorem idx_head {row : List Nat} (h : row ≠ []) : idxD (nT row) (.int 0) = some (nI (row.headD 0)) := by
  cases row with
  | nil => exact absurd rfl h
  | cons a r => exact at0
theorem idx_last {row : List Nat} (h : row ≠ []) : idxD (nT row) (.int (-1)) = some (nI (row.getLastD 0)) := by
  have e : row = row.dropLast ++ [row.getLast h] := (List.dropLast_concat_getLast h).symm
  have e2 : row.getLastD 0 = row.getLast h := by
    cases row with
    | nil => exact absurd rfl h
    | cons a r => rfl
  rw [e2]
  show atI (row.map nI) (-1) = _
  conv => lhs; rw [e]
  rw [List.map_append]
  exact at_last
theorem gt_n {n m : Nat} : O2.run .gt (nI n) (nI m) = some (.bool (decide (m < n))) := by
  show some (PyData.bool (decide ((m : Int) < (n : Int)))) = _
  rw [show decide ((m : Int) < (n : Int)) = decide (m < n) from decide_eq_decide.mpr (by omega)]
theorem add_nT {l m : List Nat} (h : l.length + m.length ≤ 1048576) : O2.run .add (nT l) (nT m) = some (nT (l ++ m)) := by
  unfold nT
  rw [run_addT (by rw [List.length_map, List.length_map]; exact small_le h), List.map_append]
/-- the rings, sorted -/
def CRings (cd : CallSem) : Prop := ∀ b : Bd, WB b → b.length ≤ 8 → (∀ s ∈ b, s.2.length ≤ 3) → Wp (cd 31 [(false, bD b)]) fun r => ∃ rings : List (List Nat), rings.Perm (foundF b b.length) ∧ rings.length ≤ 800000 ∧ r = ([], true, .list (rings.map nT))
theorem sortOk_nT {l : List (List Nat)} (h : ∀ r ∈ l, r ≠ []) : sortOk (l.map nT) = true := by
  unfold sortOk
  have hal : ∀ a c : List Nat, PySem.W.alikeAll (a.map nI) (c.map nI) = true := fun a => by
    induction a with
    | nil => intro c; cases c <;> rw [List.map_nil, PySem.W.alikeAll]
    | cons x a ih =>
      intro c
      cases c with
      | nil => rw [List.map_nil, List.map_cons, PySem.W.alikeAll]
      | cons y c => rw [List.map_cons, List.map_cons, PySem.W.alikeAll, ih]; rfl
  have h3 : ndAll (l.map nT) = true := (Sh.all (k := 1) fun x hx => by
    obtain ⟨r, _, rfl⟩ := List.mem_map.mp hx
    exact Sh.nT r).1
  rw [h3, Bool.and_true, Bool.and_eq_true, Bool.and_eq_true, Bool.or_eq_true]
  refine ⟨⟨?_, .inl ?_⟩, ?_⟩
  · rw [List.all_eq_true]
    intro x hx
    rw [List.all_eq_true]
    intro y hy
    obtain ⟨a, _, rfl⟩ := List.mem_map.mp hx
    obtain ⟨c, _, rfl⟩ := List.mem_map.mp hy
    show PySem.W.alike (.tuple (a.map nI)) (.tuple (c.map nI)) = true
    rw [PySem.W.alike]
    exact hal a c
  · rw [List.all_eq_true]
    intro x hx
    obtain ⟨a, ha, rfl⟩ := List.mem_map.mp hx
    cases a with
    | nil => exact absurd rfl (h _ ha)
    | cons y r => rfl
  · rw [List.all_eq_true]
    intro x hx
    obtain ⟨a, _, rfl⟩ := List.mem_map.mp hx
    exact decide_eq_true (Nat.le_trans (Sh.nT a).dep (by omega))
theorem perm_enc {α : Type} {enc : α → D} {l : List α} {ys : List D} (h : ys.Perm (l.map enc)) : ∃ ks : List α, ks.Perm l ∧ ys = ks.map enc := by
  have hy : ∀ (l : List α) (ys : List D), ys.Perm (l.map enc) → ∃ ks : List α, ks.Perm l ∧ ys = ks.map enc := fun l => by
    induction l with
    | nil =>
      intro ys h
      rw [List.map_nil] at h
      exact ⟨[], .refl _, h.eq_nil⟩
    | cons a r ih =>
      intro ys h
      have hm : enc a ∈ ys := h.mem_iff.mpr List.mem_cons_self
      obtain ⟨u, v, rfl⟩ := List.append_of_mem hm
      have h2 : (enc a :: (u ++ v)).Perm (enc a :: r.map enc) := List.perm_middle.symm.trans h
      obtain ⟨ks, hk, e⟩ := ih _ h2.cons_inv
      obtain ⟨k1, k2, rfl, rfl, rfl⟩ : ∃ k1 k2, ks = k1 ++ k2 ∧ u = k1.map enc ∧ v = k2.map enc := by
        have := List.append_eq_map_iff.mp e
        obtain ⟨k1, k2, e1, e2, e3⟩ := this
        exact ⟨k1, k2, e1, e2.symm, e3.symm⟩
      exact ⟨k1 ++ a :: k2, List.perm_middle.trans (hk.cons a), by rw [List.map_append, List.map_cons]⟩
  exact hy l ys h
theorem b_srt {l : List D} (h : sortOk l = true) : B1.run .sorted [.list l] = some (.list (sortD l)) := by
  show (if _ then _ else _) = _
  rw [if_pos h]
theorem foundF_ne {b : Bd} (hlt : ∀ s ∈ b, ∀ w ∈ s.2, w < b.length) : ∀ k, ∀ r ∈ foundF b k, r ≠ []
  | 0, r, h => nomatch h
  | k + 1, r, h => by
    rcases List.mem_append.mp h with h | h
    · exact foundF_ne hlt k r h
    · obtain ⟨row, hr, h2⟩ := List.mem_flatMap.mp h
      obtain ⟨_, _, rfl⟩ := List.mem_map.mp h2
      intro e
      have := (rowsF_ok hlt k row hr).1
      rw [e] at this
      cases this
theorem foundF_stop {b : Bd} {k n : Nat} (h : rowsF b k = []) (hk : k ≤ n) : foundF b n = foundF b k := by
  have hr : ∀ j, rowsF b (k + j) = [] := fun j => by
    induction j with
    | zero => exact h
    | succ j ih => show (rowsF b (k + j)).flatMap (exts b) = []; rw [ih]; rfl
  have hf : ∀ j, foundF b (k + j) = foundF b k := fun j => by
    induction j with
    | zero => rfl
    | succ j ih =>
      show foundF b (k + j) ++ (rowsF b (k + j)).flatMap (hits b) = _
      rw [ih, hr j]
      exact List.append_nil _
  have := hf (n - k)
  rwa [show k + (n - k) = n by omega] at this
theorem rings_ok (b : Bd) (hb : WB b) (h8 : b.length ≤ 8) (h3 : ∀ s ∈ b, s.2.length ≤ 3) : Wp (runFn gcs cd fn_law_rings [(false, bD b)]) fun r => ∃ rings : List (List Nat), rings.Perm (foundF b b.length) ∧ rings.length ≤ 800000 ∧ r = ([], true, .list (rings.map nT)) := by
  refine wp_run rfl ?_
  rw [show fn_law_rings.body = b_law_rings from rfl, show fn_law_rings.nl = 6 from rfl, b_law_rings]
  walk_at "en"
  rw [inR_nat (by omega), rng_n]
  walk_at "en"
  refine wp_bind (wp_loopCm nI (fun s => some (nT [s])) (fun s hs => ?_) (by rw [List.length_range]; exact small_le (by omega)) ?_)
  · refine ev_eq ?_
    walk_at "en"
    try rfl
  rw [comp_map, show (List.range b.length).map (fun s => nT [s]) = (rowsF b 0).map nT by unfold rowsF; rw [List.map_map]; rfl]
  walk_at "en"
  have hF : ∀ k, (foundF b k).length * 2 ≤ b.length * 3 ^ (k + 1) := fun k => by
    induction k with
    | zero => exact Nat.zero_le _
    | succ k ih =>
      have h1 := flat_len (hits b) 3 (rowsF b k) fun r _ => hits_len h3 r
      have h2 := rowsF_len h3 k
      have e1 : b.length * 3 ^ (k + 1) = b.length * 3 ^ k * 3 := by rw [Nat.pow_succ, Nat.mul_assoc]
      have e2 : b.length * 3 ^ (k + 1 + 1) = b.length * 3 ^ k * 3 * 3 := by rw [Nat.pow_succ, Nat.pow_succ, ← Nat.mul_assoc, ← Nat.mul_assoc]
      unfold foundF
      rw [List.length_append]
      generalize b.length * 3 ^ k = Z at *
      omega
  have hB : ∀ k, k ≤ 9 → b.length * 3 ^ k ≤ 8 * 19683 := fun k hk => Nat.mul_le_mul h8 (pow3 hk)
  refine wp_bind (wp_while (fun n d => ∃ (k : Nat) (s4 s5 s6 : Slot), d = [.imm (bD b), .own false (.list ((foundF b k).map nT)), .imm (.list ((rowsF b k).map nT)), .emp, s4, s5, s6] ∧ n = b.length - k ∧ k ≤ b.length) b.length ⟨0, _, _, _, rfl, by omega, by omega⟩ ?_)
  rintro n d ⟨k, s4, s5, s6, rfl, rfl, hk⟩
  rw [b_law_rings_1c]
  walk_at "en"
  refine ⟨fun h => ?_, fun h => ?_⟩
  · have hk0 : rowsF b k = [] := by
      have := of_decide_eq_false h
      rw [List.length_map] at this
      exact List.length_eq_zero_iff.mp (by omega)
    have hne : ∀ r ∈ foundF b k, r ≠ [] := foundF_ne hb.lt k
    rw [b_srt (sortOk_nT hne)]
    walk_at "en"
    obtain ⟨ks, hp, e⟩ := perm_enc (enc := nT) (l := foundF b k) (ys := sortD ((foundF b k).map nT)) (List.mergeSort_perm _ _)
    rw [e]
    refine ⟨ks, by rw [foundF_stop hk0 hk]; exact hp, ?_, rfl⟩
    rw [hp.length_eq]
    have a1 := hF k
    have a2 := hB (k + 1) (by omega)
    omega
  · have hpos : 0 < (rowsF b k).length := by
      have := of_decide_eq_true h
      rw [List.length_map] at this
      omega
    have hkn : k < b.length := by
      obtain ⟨r, hr⟩ := List.exists_mem_of_length_pos hpos
      obtain ⟨h1, h2, h4⟩ := rowsF_ok hb.lt k r hr
      have := nodup_len b.length r h2 h4
      omega
    refine ⟨b.length - (k + 1), by omega, ?_⟩
    rw [b_law_rings_1]
    walk_at "en"
    refine wp_bind (wp_loopFm nT (fun i d => ∃ (s5 s6 : Slot), d = [.imm (bD b), .own false (.list ((foundF b k ++ ((rowsF b k).take i).flatMap (hits b)).map nT)), .imm (.list ((rowsF b k).map nT)), .emp, .own false (.list ((((rowsF b k).take i).flatMap (exts b)).map nT)), s5, s6]) ⟨_, _, by rw [List.take_zero, List.flatMap_nil, List.append_nil]; rfl⟩ ?_ ?_)
    · rintro i row d hi ⟨s5, s6, rfl⟩
      have hrm := List.mem_of_getElem? hi
      have hil := (List.getElem?_eq_some_iff.mp hi).1
      obtain ⟨hr1, hr2, hr3⟩ := rowsF_ok hb.lt k row hrm
      have hrne : row ≠ [] := fun e => by rw [e] at hr1; cases hr1
      have hln : row.getLastD 0 < b.length := by
        have : row.getLastD 0 ∈ row := by
          cases row with
          | nil => exact absurd rfl hrne
          | cons a r => exact List.getLast_mem _
        exact hr3 _ this
      obtain ⟨o, ws, e, hm⟩ := spot_at hln
      have hw : wayN b (row.getLastD 0) = ws := wayN_of e
      generalize hFd : foundF b k ++ ((rowsF b k).take i).flatMap (hits b) = Fd
      generalize hLd : ((rowsF b k).take i).flatMap (exts b) = Ld
      have hFl : Fd.length ≤ 800000 := by
        rw [← hFd, List.length_append]
        have a1 := hF k
        have a2 := flat_len (hits b) 3 ((rowsF b k).take i) fun r _ => hits_len h3 r
        have a3 := rowsF_len h3 k
        have a4 := hB (k + 1) (by omega)
        have a5 := hB k (by omega)
        rw [List.length_take] at a2
        have a6 : min i (rowsF b k).length * 3 ≤ (rowsF b k).length * 3 := Nat.mul_le_mul_right 3 (Nat.min_le_right _ _)
        omega
      have hLl : Ld.length ≤ 800000 := by
        rw [← hLd]
        have a2 := flat_len (exts b) 3 ((rowsF b k).take i) fun r _ => exts_len h3 r
        have a3 := rowsF_len h3 k
        have a5 := hB k (by omega)
        rw [List.length_take] at a2
        have a6 : min i (rowsF b k).length * 3 ≤ (rowsF b k).length * 3 := Nat.mul_le_mul_right 3 (Nat.min_le_right _ _)
        omega
      rw [b_law_rings_2]
      walk_at "en"
      rw [idx_last hrne]
      walk_at "en"
      rw [idx_b e]
      walk_at "en"
      have hwl : ws.length ≤ 3 := h3 _ hm
      have key : ∀ j (w : Nat), ws[j]? = some w → ∀ (c : Nat → Bool) (f : Nat → List Nat), ((ws.take (j + 1)).filter c).map f = ((ws.take j).filter c).map f ++ (if c w then [f w] else []) := fun j w hj c f => by
        rw [List.take_add_one, hj, List.filter_append, List.map_append]
        congr 1
        show (([w] : List Nat).filter c).map f = _
        cases hc : c w with
        | true => rw [List.filter_cons, hc]; rfl
        | false => rw [List.filter_cons, hc]; rfl
      have fl : ∀ j (c : Nat → Bool) (f : Nat → List Nat), (((ws.take j).filter c).map f).length ≤ 3 := fun j c f => by
        rw [List.length_map]
        exact Nat.le_trans (List.length_filter_le _ _) (by rw [List.length_take]; omega)
      refine wp_bind (wp_loopFm nI (fun j d => ∃ s6, d = [.imm (bD b), .own false (.list ((Fd ++ ((ws.take j).filter fun w => decide (w = row.headD 0)).map fun _ => row).map nT)), .imm (.list ((rowsF b k).map nT)), .emp, .own false (.list ((Ld ++ ((ws.take j).filter fun w => decide (row.headD 0 < w) && !decide (w ∈ row)).map fun w => row ++ [w]).map nT)), .imm (nT row), s6]) ⟨_, by rw [List.take_zero, List.filter_nil, List.map_nil, List.filter_nil, List.map_nil, List.append_nil, List.append_nil]⟩ ?_ ?_)
      · rintro j w d hj ⟨s6, rfl⟩
        have z1 := key j w hj (fun w => decide (w = row.headD 0)) (fun _ => row)
        have z2 := key j w hj (fun w => decide (row.headD 0 < w) && !decide (w ∈ row)) (fun w => row ++ [w])
        have y1 := fl j (fun w => decide (w = row.headD 0)) (fun _ => row)
        have y2 := fl j (fun w => decide (row.headD 0 < w) && !decide (w ∈ row)) (fun w => row ++ [w])
        rw [z1, z2]
        generalize ((ws.take j).filter fun w => decide (w = row.headD 0)).map (fun _ => row) = P1 at y1
        generalize ((ws.take j).filter fun w => decide (row.headD 0 < w) && !decide (w ∈ row)).map (fun w => row ++ [w]) = P2 at y2
        have sz1 : (((Fd ++ P1).map nT).length < sizeLine) = True := eq_true (by rw [List.length_map, List.length_append]; exact small_lt (by omega))
        have sz2 : (((Ld ++ P2).map nT).length < sizeLine) = True := eq_true (by rw [List.length_map, List.length_append]; exact small_lt (by omega))
        rw [b_law_rings_3]
        walk_at "en"
        rw [idx_head hrne]
        walk_at "en"
        by_cases h1 : w = row.headD 0
        · have h2 : ¬ row.headD 0 < w := by omega
          simp only [h1, decide_true]
          walk_at "en"
          simp only [sz1, if_true]
          walk_at "en"
          refine ⟨.imm (nI (row.headD 0)), ?_⟩
          rw [if_neg (by rw [decide_eq_false (Nat.lt_irrefl _)]; exact Bool.false_ne_true), List.append_nil, ← List.append_assoc, List.map_append (l₁ := Fd ++ P1)]
          rfl
        · rw [decide_eq_false h1]
          walk_at "en"
          rw [idx_head hrne]
          walk_at "en"
          rw [gt_n]
          walk_at "en"
          by_cases h2 : row.headD 0 < w
          · rw [decide_eq_true h2]
            walk_at "en"
            by_cases h4 : w ∈ row
            · rw [decide_eq_true h4]
              walk_at "en"
              refine ⟨.imm (nI w), ?_⟩
              simp only [Bool.false_eq_true, if_false, List.append_nil]
            · rw [decide_eq_false h4]
              walk_at "en"
              rw [show PyData.tuple [nI w] = nT [w] from rfl, add_nT (by show row.length + 1 ≤ _; omega)]
              walk_at "en"
              simp only [sz2, if_true]
              walk_at "en"
              refine ⟨.imm (nI w), ?_⟩
              rw [if_neg Bool.false_ne_true, List.append_nil, ← List.append_assoc, List.map_append (l₁ := Ld ++ P2)]
              rfl
          · rw [decide_eq_false h2]
            walk_at "en"
            refine ⟨.imm (nI w), ?_⟩
            simp only [Bool.false_eq_true, if_false, List.append_nil, Bool.false_and]
      · rintro d ⟨s6, rfl⟩
        walk_at "en"
        refine ⟨.imm (nT row), s6, ?_⟩
        rw [List.take_length, List.take_add_one, hi, List.flatMap_append, List.flatMap_append, hLd, ← List.append_assoc, hFd]
        unfold exts hits
        rw [show (some row).toList = [row] from rfl, List.flatMap_singleton, List.flatMap_singleton, hw]
    · rintro d ⟨s5, s6, rfl⟩
      rw [List.take_length]
      walk_at "en"
      exact ⟨k + 1, _, _, _, rfl, by omega, by omega⟩
end DL
/-! P13: what a ring is. -/
namespace DL
open PySem PySem.Spec PyProof.Rows L2
/-- a path of distinct spots whose first is the least -/
structure IsPath (b : Bd) (r : List Nat) : Prop where
  ne : r ≠ []
  nd : r.Nodup
  lt : ∀ x ∈ r, x < b.length
  fst : ∀ i x, r[i + 1]? = some x → r.headD 0 < x
  way : ∀ i x y, r[i]? = some x → r[i + 1]? = some y → y ∈ wayN b x
structure IsRing (b : Bd) (r : List Nat) : Prop extends IsPath b r where
  back : r.headD 0 ∈ wayN b (r.getLastD 0)
theorem last_get {r : List Nat} (h : r ≠ []) : r[r.length - 1]? = some (r.getLastD 0) := by
  cases r with
  | nil => exact absurd rfl h
  | cons a t =>
    show (a :: t)[(a :: t).length - 1]? = some ((a :: t).getLast _)
    rw [← List.getLast?_eq_getElem?, List.getLast?_eq_getLast (List.cons_ne_nil a t)]
theorem head_get {r : List Nat} (h : r ≠ []) : r[0]? = some (r.headD 0) := by
  cases r with
  | nil => exact absurd rfl h
  | cons a t => rfl
theorem rows_mem {b : Bd} (hlt : ∀ s ∈ b, ∀ w ∈ s.2, w < b.length) : ∀ (k : Nat) (r : List Nat), r ∈ rowsF b k ↔ r.length = k + 1 ∧ IsPath b r
  | 0, r => by
    constructor
    · intro h
      obtain ⟨s, hs, rfl⟩ := List.mem_map.mp h
      refine ⟨rfl, ⟨List.cons_ne_nil _ _, List.nodup_cons.mpr ⟨List.not_mem_nil, List.nodup_nil⟩, fun x hx => ?_, fun i x hx => ?_, fun i x y _ hy => ?_⟩⟩
      · rw [List.mem_singleton] at hx; subst hx; exact List.mem_range.mp hs
      · simp at hx
      · simp at hy
    · rintro ⟨h1, h2⟩
      cases r with
      | nil => cases h1
      | cons a t =>
        cases t with
        | nil => exact List.mem_map.mpr ⟨a, List.mem_range.mpr (h2.lt a List.mem_cons_self), rfl⟩
        | cons c t => simp at h1
  | k + 1, r => by
    constructor
    · intro h
      obtain ⟨q, hq, h⟩ := List.mem_flatMap.mp h
      obtain ⟨w, hw, rfl⟩ := List.mem_map.mp h
      obtain ⟨hw1, hw2⟩ := List.mem_filter.mp hw
      obtain ⟨hw3, hw4⟩ := Bool.and_eq_true_iff.mp hw2
      have hw3 := of_decide_eq_true hw3
      obtain ⟨h1, h2⟩ := (rows_mem hlt k q).mp hq
      have hok := rowsF_ok hlt (k + 1) (q ++ [w]) (List.mem_flatMap.mpr ⟨q, hq, h⟩)
      have hh : (q ++ [w]).headD 0 = q.headD 0 := by
        cases q with
        | nil => exact absurd rfl h2.ne
        | cons a t => rfl
      refine ⟨hok.1, ⟨by simp, hok.2.1, hok.2.2, fun i x hx => ?_, fun i x y hx hy => ?_⟩⟩
      · rw [hh]
        by_cases hi : i + 1 < q.length
        · rw [List.getElem?_append_left hi] at hx
          exact h2.fst i x hx
        · have : i + 1 = q.length := by
            have := (List.getElem?_eq_some_iff.mp hx).1
            rw [List.length_append] at this
            simp only [List.length_singleton] at this
            omega
          rw [this, List.getElem?_concat_length] at hx
          cases hx
          exact hw3
      · by_cases hi : i + 1 < q.length
        · rw [List.getElem?_append_left hi] at hy
          rw [List.getElem?_append_left (by omega)] at hx
          exact h2.way i x y hx hy
        · have : i + 1 = q.length := by
            have := (List.getElem?_eq_some_iff.mp hy).1
            rw [List.length_append] at this
            simp only [List.length_singleton] at this
            omega
          rw [this, List.getElem?_concat_length] at hy
          cases hy
          rw [List.getElem?_append_left (by omega), show i = q.length - 1 by omega, last_get h2.ne] at hx
          cases hx
          exact hw1
    · rintro ⟨h1, h2⟩
      have hq : r = r.dropLast ++ [r.getLast h2.ne] := (List.dropLast_concat_getLast h2.ne).symm
      generalize r.dropLast = q at hq
      generalize r.getLast h2.ne = w at hq
      subst hq
      have hql : q.length = k + 1 := by rw [List.length_append] at h1; simp only [List.length_singleton] at h1; omega
      have hqne : q ≠ [] := fun e => by rw [e] at hql; cases hql
      have hh : (q ++ [w]).headD 0 = q.headD 0 := by
        cases q with
        | nil => exact absurd rfl hqne
        | cons a t => rfl
      have hnd := List.nodup_append.mp h2.nd
      have hp : IsPath b q := ⟨hqne, hnd.1, fun x hx => h2.lt x (List.mem_append_left _ hx), fun i x hx => by
          have := h2.fst i x (by rw [List.getElem?_append_left (List.getElem?_eq_some_iff.mp hx).1]; exact hx)
          rwa [hh] at this, fun i x y hx hy => h2.way i x y (by rw [List.getElem?_append_left (List.getElem?_eq_some_iff.mp hx).1]; exact hx) (by rw [List.getElem?_append_left (List.getElem?_eq_some_iff.mp hy).1]; exact hy)⟩
      refine List.mem_flatMap.mpr ⟨q, (rows_mem hlt k q).mpr ⟨hql, hp⟩, List.mem_map.mpr ⟨w, List.mem_filter.mpr ⟨?_, ?_⟩, rfl⟩⟩
      · exact h2.way (q.length - 1) _ w (by rw [List.getElem?_append_left (by omega)]; exact last_get hqne) (by rw [show q.length - 1 + 1 = q.length by omega, List.getElem?_concat_length])
      · rw [Bool.and_eq_true, decide_eq_true_eq, Bool.not_eq_true', decide_eq_false_iff_not]
        refine ⟨?_, fun hw => hnd.2.2 w hw w List.mem_cons_self rfl⟩
        have := h2.fst (q.length - 1) w (by rw [show q.length - 1 + 1 = q.length by omega, List.getElem?_concat_length])
        rwa [hh] at this
theorem found_mem {b : Bd} (hlt : ∀ s ∈ b, ∀ w ∈ s.2, w < b.length) : ∀ (k : Nat) (r : List Nat), r ∈ foundF b k ↔ r.length ≤ k ∧ IsRing b r
  | 0, r => ⟨(fun h => nomatch h), fun ⟨h1, h2⟩ => absurd (List.length_eq_zero_iff.mp (by omega)) h2.ne⟩
  | k + 1, r => by
    constructor
    · intro h
      rcases List.mem_append.mp h with h | h
      · obtain ⟨h1, h2⟩ := (found_mem hlt k r).mp h
        exact ⟨by omega, h2⟩
      · obtain ⟨q, hq, h⟩ := List.mem_flatMap.mp h
        obtain ⟨w, hw, rfl⟩ := List.mem_map.mp h
        obtain ⟨hw1, hw2⟩ := List.mem_filter.mp hw
        have hw2 := of_decide_eq_true hw2
        subst hw2
        obtain ⟨h1, h2⟩ := (rows_mem hlt k _).mp hq
        exact ⟨by omega, ⟨h2, hw1⟩⟩
    · rintro ⟨h1, h2⟩
      by_cases hk : r.length ≤ k
      · exact List.mem_append_left _ ((found_mem hlt k r).mpr ⟨hk, h2⟩)
      · exact List.mem_append_right _ (List.mem_flatMap.mpr ⟨r, (rows_mem hlt k r).mpr ⟨by omega, h2.toIsPath⟩, List.mem_map.mpr ⟨r.headD 0, List.mem_filter.mpr ⟨h2.back, decide_eq_true rfl⟩, rfl⟩⟩)
theorem ring_mem {b : Bd} (hlt : ∀ s ∈ b, ∀ w ∈ s.2, w < b.length) (r : List Nat) : r ∈ foundF b b.length ↔ IsRing b r := by
  rw [found_mem hlt]
  exact ⟨fun h => h.2, fun h => ⟨nodup_len _ r h.nd h.lt, h⟩⟩
end DL
/-! P14: who moves by a rule comes to a ring. -/
namespace DL
open PySem PySem.Spec PyProof.Rows L2
def itr (f : Nat → Nat) : Nat → Nat → Nat
  | 0, s => s
  | k + 1, s => f (itr f k s)
theorem itr_add (f : Nat → Nat) (i : Nat) : ∀ (j s : Nat), itr f (i + j) s = itr f j (itr f i s)
  | 0, s => rfl
  | j + 1, s => by show f (itr f (i + j) s) = f (itr f j (itr f i s)); rw [itr_add f i j s]
theorem least_of {P : Nat → Prop} : ∀ (n : Nat), P n → ∃ m, P m ∧ m ≤ n ∧ ∀ j, j < m → ¬ P j := fun n => by
  induction n using Nat.strongRecOn with
  | ind n ih =>
    intro h
    by_cases q : ∃ j, j < n ∧ P j
    · obtain ⟨j, hj, hp⟩ := q
      obtain ⟨m, h1, h2, h3⟩ := ih j hj hp
      exact ⟨m, h1, by omega, h3⟩
    · exact ⟨n, h, Nat.le_refl _, fun j hj hp => q ⟨j, hj, hp⟩⟩
theorem nodup_get {α : Type} {l : List α} (h : ∀ i j, i < j → j < l.length → l[i]? ≠ l[j]?) : l.Nodup := by
  unfold List.Nodup
  rw [List.pairwise_iff_getElem]
  intro i j hi hj hij e
  exact h i j hij hj (by rw [List.getElem?_eq_getElem hi, List.getElem?_eq_getElem hj, e])
theorem pigeon {n : Nat} (g : Nat → Nat) (h : ∀ k, g k < n) : ∃ i j, i < j ∧ g i = g j := by
  refine Classical.byContradiction fun hn => ?_
  have hd : ((List.range (n + 1)).map g).Nodup := by
    refine nodup_get fun i j hij hj e => ?_
    rw [List.length_map, List.length_range] at hj
    rw [List.getElem?_map, List.getElem?_map, List.getElem?_range (by omega), List.getElem?_range hj] at e
    exact hn ⟨i, j, hij, by simpa using e⟩
  have := nodup_len n _ hd fun x hx => by
    obtain ⟨k, _, rfl⟩ := List.mem_map.mp hx
    exact h k
  rw [List.length_map, List.length_range] at this
  omega
theorem ring_exists {b : Bd} (f : Nat → Nat) (P : Nat → Prop) (s : Nat) (hs : P s) (hP : ∀ x, P x → x < b.length ∧ f x ∈ wayN b x ∧ P (f x)) :
    ∃ r, IsRing b r ∧ (∀ x ∈ r, P x ∧ ∃ k, x = itr f k s) ∧ (∀ i x y, r[i]? = some x → r[i + 1]? = some y → y = f x) ∧ r.headD 0 = f (r.getLastD 0) := by
  have hI : ∀ k, P (itr f k s) := fun k => by
    induction k with
    | zero => exact hs
    | succ k ih => exact (hP _ ih).2.2
  obtain ⟨i, j, hij, e⟩ := pigeon (fun k => itr f k s) fun k => (hP _ (hI k)).1
  -- the least spot of the round
  have hper : itr f (j - i) (itr f i s) = itr f i s := by rw [← itr_add, show i + (j - i) = j by omega]; exact e.symm
  obtain ⟨m, ⟨k0, hk0⟩, _, hmin⟩ := least_of (P := fun m => ∃ k, m = itr f k (itr f i s)) (itr f i s) ⟨0, rfl⟩
  have hmper : itr f (j - i) m = m := by rw [hk0, ← itr_add, Nat.add_comm, itr_add, hper]
  obtain ⟨c, ⟨hc0, hc⟩, _, hcmin⟩ := least_of (P := fun c => 0 < c ∧ itr f c m = m) (j - i) ⟨by omega, hmper⟩
  have hge : ∀ k, m ≤ itr f k m := fun k => by
    refine Nat.le_of_not_lt fun h => hmin _ h ⟨k0 + k, ?_⟩
    rw [itr_add, ← hk0]
  have hgt : ∀ k, 0 < k → k < c → m < itr f k m := fun k h0 h1 => by
    have := hge k
    have : itr f k m ≠ m := fun h => hcmin k h1 ⟨h0, h⟩
    omega
  have hmP : ∀ k, P (itr f k m) ∧ ∃ l, itr f k m = itr f l s := fun k => by
    have : itr f k m = itr f (i + k0 + k) s := by rw [itr_add, itr_add, ← hk0]
    exact ⟨by rw [this]; exact hI _, _, this⟩
  have hlen : ((List.range c).map fun k => itr f k m).length = c := by rw [List.length_map, List.length_range]
  have hget : ∀ k, k < c → ((List.range c).map fun k => itr f k m)[k]? = some (itr f k m) := fun k hk => by rw [List.getElem?_map, List.getElem?_range hk]; rfl
  have hne : ((List.range c).map fun k => itr f k m) ≠ [] := fun h => by rw [h] at hlen; have : 0 = c := hlen; omega
  have hhd : ((List.range c).map fun k => itr f k m).headD 0 = m := by
    have := head_get hne
    rw [hget 0 hc0] at this
    exact (Option.some.inj this).symm
  have hla : ((List.range c).map fun k => itr f k m).getLastD 0 = itr f (c - 1) m := by
    have := last_get hne
    rw [hlen, hget (c - 1) (by omega)] at this
    exact (Option.some.inj this).symm
  have hat : ∀ i x, ((List.range c).map fun k => itr f k m)[i]? = some x → i < c ∧ x = itr f i m := fun i x h => by
    have h1 := (List.getElem?_eq_some_iff.mp h).1
    rw [hlen] at h1
    rw [hget i h1] at h
    exact ⟨h1, (Option.some.inj h).symm⟩
  have hst : ∀ i x y, ((List.range c).map fun k => itr f k m)[i]? = some x → ((List.range c).map fun k => itr f k m)[i + 1]? = some y → y = f x := fun i x y hx hy => by
    rw [(hat _ _ hx).2, (hat _ _ hy).2]; rfl
  have hbk : m = f (itr f (c - 1) m) := by
    show m = itr f (c - 1 + 1) m
    rw [show c - 1 + 1 = c by omega]
    exact hc.symm
  refine ⟨(List.range c).map fun k => itr f k m, ⟨⟨hne, ?_, ?_, ?_, ?_⟩, ?_⟩, ?_, hst, by rw [hhd, hla]; exact hbk⟩
  · refine nodup_get fun a d had hd e2 => ?_
    rw [hlen] at hd
    rw [hget a (by omega), hget d hd] at e2
    have e3 : itr f a m = itr f d m := Option.some.inj e2
    have h1 : itr f (c - d + a) m = m := by
      rw [Nat.add_comm, itr_add, e3, ← itr_add, show d + (c - d) = c by omega, hc]
    exact hcmin (c - d + a) (by omega) ⟨by omega, h1⟩
  · intro x hx
    obtain ⟨k, _, rfl⟩ := List.mem_map.mp hx
    exact (hP _ (hmP k).1).1
  · intro i x hx
    obtain ⟨h1, rfl⟩ := hat _ _ hx
    rw [hhd]
    exact hgt _ (by omega) h1
  · intro i x y hx hy
    rw [hst i x y hx hy]
    obtain ⟨_, rfl⟩ := hat _ _ hx
    exact (hP _ (hmP i).1).2.1
  · rw [hhd, hla]
    have := (hP _ (hmP (c - 1)).1).2.1
    rwa [← hbk] at this
  · intro x hx
    obtain ⟨k, _, rfl⟩ := List.mem_map.mp hx
    exact hmP k
end DL
/-! P9: law k05. -/
namespace DL
open PySem PySem.Spec PyProof.Rows L2
local macro_rules | `(tactic| walk_at "en") => `(tactic| ((simp -dsimp -implicitDefEqProofs only [↓wp_toX, wpX_ok, ↓bind_toX, ↓loopF_toX, ↓loopC_toX, ↓while_toX, bindX_ok, bindX_assoc, evS, evE, evO, evR, evL, evB, evA, evI, opt_some, opd_val, opd_bor, slotD_imm, slotD_own, fz_val, obind_some, omap_some, ofInt_int, ofBool_bool, items_list, items_tuple,
  run_add, run_sub, run_mul, run_fdiv, run_mod, run_lt, run_le, run_gt, run_ge, run_eqI, run_neI, run_isN, run_notN, run_not, run_neg, idx_list, idx_tuple, sli_list, sli_tuple, sli_scr, b_lenL, b_lenT, b_listS, b_listL, b_listT, b_tupL, b_tupT, b_max2, b_min2, b_int,
  argsOf_nil, argsOf_v, margs, retD_val, outs_nil, outs_f, outs_t, slotOf_f, slotOf_t, bindP_var, bindP_tup, bindPs_nil, bindPs_cons, wipe_nil, wipe_cons, back_nil, back_cons, mapM_nilO, mapM_consO, noOwn, isOwn, fz_bor,
  List.map_cons, List.map_nil, List.replicate_succ, List.replicate_zero, List.cons_append, List.nil_append, List.getElem?_cons_zero, List.getElem?_cons_succ, List.set_cons_zero, List.set_cons_succ, List.length_cons, List.length_nil, List.all_cons, List.all_nil, Option.getD_some,
  Nat.zero_add, Nat.reduceAdd, Nat.reduceLT, Nat.reduceLeDiff, Nat.lt_add_left_iff_pos, Nat.zero_lt_succ, Nat.reduceEqDiff, Int.reduceEq, Int.reduceLT, Int.reduceLE, Int.reduceNeg, inR_0, retD_bor, Bool.not_true, Bool.not_false, idx_sp0, idx_sp1, ofInt_nI, aug_n, eq_n, eq_n0, eq_n1, ne_n0, gt_n0, len_b, len_nT, len_nL, in_T, in_L, nin_T, nin_L, bindP_sp, items_b, items_nT, items_nL, isNone_oD, aug_i, sz0, sz1, sz2, sz3, sz4, sz5, argsOf_mE, argOf, putBack, omap_some, na5, putB_nil, at0, at1, at2, at3, at4, ix51, ix52, ix53, true_or, or_true, sm1, sm2, sm3, sm4, sm5, Bool.or_true, reduceIte, Bool.and_self, Bool.and_true, Bool.true_and, if_true, if_false, Bool.or_true, Bool.true_or, ne_eq, not_false_eq_true, not_true_eq_false, true_and, and_true,
  List.nodup_cons, List.nodup_nil, List.not_mem_nil, List.mem_cons, or_false, false_or]) <;> (try simp -dsimp only [wp_ofX])))
local macro_rules | `(tactic| walk_at "es") => `(tactic| ((simp -dsimp -implicitDefEqProofs only [↓wp_toX, wpX_ok, ↓bind_toX, ↓loopF_toX, ↓loopC_toX, ↓while_toX, bindX_ok, bindX_assoc, evS, evE, evO, evR, evL, evB, evA, evI, opt_some, opd_val, opd_bor, slotD_imm, slotD_own, fz_val, obind_some, omap_some, ofInt_int, ofBool_bool, items_list, items_tuple,
  run_add, run_sub, run_mul, run_fdiv, run_mod, run_lt, run_le, run_gt, run_ge, run_eqI, run_neI, run_isN, run_notN, run_not, run_neg, idx_list, idx_tuple, sli_list, sli_tuple, sli_scr, b_lenL, b_lenT, b_listS, b_listL, b_listT, b_tupL, b_tupT, b_max2, b_min2, b_int,
  argsOf_nil, argsOf_v, margs, retD_val, outs_nil, outs_f, outs_t, slotOf_f, slotOf_t, bindP_var, bindP_tup, bindPs_nil, bindPs_cons, wipe_nil, wipe_cons, back_nil, back_cons, mapM_nilO, mapM_consO, noOwn, isOwn, fz_bor,
  List.map_cons, List.map_nil, List.replicate_succ, List.replicate_zero, List.cons_append, List.nil_append, List.getElem?_cons_zero, List.getElem?_cons_succ, List.set_cons_zero, List.set_cons_succ, List.length_cons, List.length_nil, List.all_cons, List.all_nil, Option.getD_some,
  Nat.zero_add, Nat.reduceAdd, Nat.reduceLT, Nat.reduceLeDiff, Nat.lt_add_left_iff_pos, Nat.zero_lt_succ, Nat.reduceEqDiff, Int.reduceEq, Int.reduceLT, Int.reduceLE, Int.reduceNeg, inR_0, retD_bor, isDct, Ty.has, ne_bb, beq_self_eq_true, decide_true, decide_false, Bool.false_eq_true, isNone, Bool.not_true, Bool.not_false, idx_sp0, idx_sp1, ofInt_nI, aug_n, eq_n, eq_n0, eq_n1, ne_n0, gt_n0, len_b, len_nT, len_nL, in_T, in_L, nin_T, nin_L, bindP_sp, items_b, items_nT, items_nL, isNone_oD, aug_i, sz0, sz1, sz2, sz3, sz4, sz5, argsOf_mE, argOf, putBack, omap_some, na5, putB_nil, at0, at1, at2, at3, at4, ix51, ix52, ix53, true_or, or_true, sm1, sm2, sm3, sm4, sm5, Bool.or_true, reduceIte, Bool.and_self, Bool.and_true, Bool.true_and, if_true, if_false, Bool.or_true, Bool.true_or, ne_eq, not_false_eq_true, not_true_eq_false, true_and, and_true,
  List.nodup_cons, List.nodup_nil, List.not_mem_nil, List.mem_cons, or_false, false_or]) <;> (try simp -dsimp only [wp_ofX])))
variable {gcs : Nat → Option D} {cd : CallSem}
theorem BOk.wb {m : Nat} {b : Bd} (h : BOk m b) (hm : m ≤ 1000) : WB b := ⟨Nat.le_trans h.le hm, h.lt, fun s hs => Nat.le_trans (h.ln s hs) (by omega)⟩
/-! ### the mathematics -/
theorem mem_keeps {b : Bd} {spots : List Nat} {s : Nat} : s ∈ keeps b spots ↔ s < b.length ∧ ¬ Att b 1 (others b spots) s := by
  unfold keeps
  rw [mem_others, mem_drawn]
theorem keeps_spots {b : Bd} {spots : List Nat} {s : Nat} (h : s ∈ keeps b spots) : s ∈ spots := by
  obtain ⟨h1, h2⟩ := mem_keeps.mp h
  exact Decidable.byContradiction fun hs => h2 (.goal (mem_others.mpr ⟨h1, hs⟩) h1)
theorem keeps_all {b : Bd} {spots : List Nat} {s : Nat} {ws : List Nat} (h : s ∈ keeps b spots) (e : b[s]? = some (1, ws)) (hlt : ∀ w ∈ ws, w < b.length) : ∀ w ∈ ws, w ∈ keeps b spots := fun w hw => by
  obtain ⟨h1, h2⟩ := mem_keeps.mp h
  exact mem_keeps.mpr ⟨hlt w hw, fun a => h2 (.some e rfl hw a)⟩
theorem keeps_some {b : Bd} {spots : List Nat} {s o : Nat} {ws : List Nat} (h : s ∈ keeps b spots) (e : b[s]? = some (o, ws)) (ho : o ≠ 1) (hlt : ∀ w ∈ ws, w < b.length) : ∃ w ∈ ws, w ∈ keeps b spots := by
  obtain ⟨h1, h2⟩ := mem_keeps.mp h
  exact Classical.byContradiction fun hn => h2 (.all e ho fun w hw => Classical.byContradiction fun ha => hn ⟨w, hw, mem_keeps.mpr ⟨hlt w hw, ha⟩⟩)
theorem left_get {b : Bd} {p x o : Nat} {ws : List Nat} {row : List (Option Nat)} {c : Option Nat} (e : b[x]? = some (o, ws)) (hc : row[x]? = some c) : (leftB b p row)[x]? = some (o, if o = p then c.toList else ws) := by
  unfold leftB
  rw [List.getElem?_map, (List.getElem?_zip_eq_some (z := ((o, ws), c))).mpr ⟨e, hc⟩]
  rfl
theorem left_at {b : Bd} {p x o : Nat} {vs : List Nat} {row : List (Option Nat)} (hr : Strat b p row) (e : (leftB b p row)[x]? = some (o, vs)) : ∃ ws, b[x]? = some (o, ws) ∧ ((o = p ∧ ∃ w ∈ ws, row[x]? = some (some w) ∧ vs = [w]) ∨ (o ≠ p ∧ vs = ws)) := by
  unfold leftB at e
  rw [List.getElem?_map] at e
  obtain ⟨⟨⟨o', ws⟩, c⟩, e1, e2⟩ := Option.map_eq_some_iff.mp e
  obtain ⟨e3, e4⟩ := List.getElem?_zip_eq_some.mp e1
  cases e2
  have hx := (List.getElem?_eq_some_iff.mp e3).1
  have := hr.2 x o' ws hx e3
  refine ⟨ws, e3, ?_⟩
  by_cases ho : o' = p
  · obtain ⟨w, hw, h2⟩ := this.1 ho
    dsimp only at e4
    rw [h2] at e4
    cases e4
    exact .inl ⟨ho, w, hw, h2, by dsimp only; rw [if_pos ho]; rfl⟩
  · exact .inr ⟨ho, by dsimp only; rw [if_neg ho]⟩
theorem left_len {b : Bd} {p : Nat} {row : List (Option Nat)} (hr : Strat b p row) : (leftB b p row).length = b.length := by
  unfold leftB
  rw [List.length_map, List.length_zip, hr.1, Nat.min_self]
theorem left_wb {m : Nat} {b : Bd} {p : Nat} {row : List (Option Nat)} (hb : BOk m b) (hm : m ≤ 1000) (hr : Strat b p row) : WB (leftB b p row) ∧ ∀ x ∈ leftB b p row, x.2.Nodup := by
  have key : ∀ x ∈ leftB b p row, (∀ w ∈ x.2, w < b.length) ∧ x.2.length ≤ 1000 ∧ x.2.Nodup := fun x hx => by
    obtain ⟨j, hj⟩ := List.getElem?_of_mem hx
    obtain ⟨ws, e, h⟩ := left_at (o := x.1) (vs := x.2) hr hj
    have hm2 := List.mem_of_getElem? e
    rcases h with ⟨_, w, hw, _, h2⟩ | ⟨_, h2⟩
    · rw [h2]
      exact ⟨fun v hv => by rw [List.mem_singleton] at hv; subst hv; exact hb.lt _ hm2 _ hw, by show 1 ≤ 1000; omega, List.nodup_cons.mpr ⟨List.not_mem_nil, List.nodup_nil⟩⟩
    · rw [h2]
      exact ⟨hb.lt _ hm2, Nat.le_trans (hb.ln _ hm2) (by omega), (hb.inc _ hm2).imp fun h => by omega⟩
  refine ⟨⟨by rw [left_len hr]; exact Nat.le_trans hb.le hm, fun x hx w hw => by rw [left_len hr]; exact (key x hx).1 w hw, fun x hx => (key x hx).2.1⟩, fun x hx => (key x hx).2.2⟩
/-- a strategy keeps within the spots iff it makes free moves alone -/
theorem keeps_iff_free {m : Nat} {b : Bd} {spots : List Nat} {row : List (Option Nat)} {s : Nat} (hb : BOk m b) (hr : Strat b 0 row) (hs : s ∈ keeps b spots) :
    (∀ x, Reach (leftB b 0 row) s x → x ∈ spots) ↔ ∀ x, Reach (leftB b 0 row) s x → ∀ ws, b[x]? = some (0, ws) → x ∈ keeps b spots ∧ ∃ w, row[x]? = some (some w) ∧ w ∈ ws ∧ w ∈ keeps b spots := by
  have hin : ∀ x, Reach (leftB b 0 row) s x → x < b.length := fun x hx => by
    induction hx with
    | refl => exact (mem_keeps.mp hs).1
    | step r h hw ih =>
      obtain ⟨ws, e, h2⟩ := left_at hr h
      have hm2 := List.mem_of_getElem? e
      rcases h2 with ⟨_, w, hw2, _, h3⟩ | ⟨_, h3⟩
      · rw [h3, List.mem_singleton] at hw
        subst hw
        exact hb.lt _ hm2 _ hw2
      · rw [h3] at hw
        exact hb.lt _ hm2 _ hw
  constructor
  · intro hk
    have hno : ∀ x, Att b 1 (others b spots) x → ¬ Reach (leftB b 0 row) s x := fun x ha => by
      induction ha with
      | goal h _ => exact fun hx => (mem_others.mp h).2 (hk _ hx)
      | @some x o w ws h ho hw a ih =>
        intro hx
        subst ho
        obtain ⟨w0, hrx⟩ : ∃ c, row[x]? = some c := ⟨_, List.getElem?_eq_getElem (by rw [hr.1]; exact (List.getElem?_eq_some_iff.mp h).1)⟩
        have := left_get (p := 0) h hrx
        rw [if_neg (by omega)] at this
        exact ih (.step hx this hw)
      | @all x o ws h ho a ih =>
        intro hx
        have ho0 : o = 0 := by
          have := hb.own _ (List.mem_of_getElem? h)
          dsimp only at this
          omega
        obtain ⟨w, hw, hrx⟩ := (hr.2 x o ws (List.getElem?_eq_some_iff.mp h).1 h).1 ho0
        have := left_get (p := 0) h hrx
        rw [if_pos ho0] at this
        exact ih w hw (.step hx this (List.mem_singleton.mpr rfl))
    have hW : ∀ x, Reach (leftB b 0 row) s x → x ∈ keeps b spots := fun x hx => mem_keeps.mpr ⟨hin x hx, fun a => hno x a hx⟩
    intro x hx ws e
    obtain ⟨w, hw, hrx⟩ := (hr.2 x 0 ws (hin x hx) e).1 rfl
    have := left_get (p := 0) e hrx
    rw [if_pos rfl] at this
    exact ⟨hW x hx, w, hrx, hw, hW w (.step hx this (List.mem_singleton.mpr rfl))⟩
  · intro hf
    have hW : ∀ x, Reach (leftB b 0 row) s x → x ∈ keeps b spots := fun x hx => by
      induction hx with
      | refl => exact hs
      | @step x o w vs r h hw ih =>
        obtain ⟨ws, e, h2⟩ := left_at hr h
        have hm2 := List.mem_of_getElem? e
        rcases h2 with ⟨ho, w2, hw2, hrx, h3⟩ | ⟨ho, h3⟩
        · subst ho
          rw [h3, List.mem_singleton] at hw
          subst hw
          obtain ⟨_, w3, h4, _, h5⟩ := hf x r ws e
          rw [hrx] at h4
          cases h4
          exact h5
        · rw [h3] at hw
          have ho1 : o = 1 := by
            have := hb.own _ hm2
            dsimp only at this
            omega
          subst ho1
          exact keeps_all ih e (hb.lt _ hm2) w hw
    exact fun x hx => keeps_spots (hW x hx)
/-! ### the law -/
theorem idx_m {α : Type} {l : List α} {f : α → D} {s : Nat} {a : α} (h : l[s]? = some a) : idxD (.tuple (l.map f)) (nI s) = some (f a) := atI_nat (by rw [List.getElem?_map, h]; rfl)
theorem idx_rngm {n s : Nat} {f : Nat → D} (h : s < n) : idxD (.tuple ((List.range n).map f)) (nI s) = some (f s) := idx_m (List.getElem?_range h)
theorem idx_row {row : List (Option Nat)} {s : Nat} {c : Option Nat} (h : row[s]? = some c) : idxD (rowD row) (nI s) = some (oD c) := idx_m h
theorem freeD_yes {b : Bd} {W ws : List Nat} {s o : Nat} (e : b[s]? = some (o, ws)) (h : o = 0) (h2 : s ∈ W) : freeD b W s = nT (ws.filter fun w => decide (w ∈ W)) := by
  unfold freeD
  rw [e]
  dsimp only
  rw [if_pos ⟨h, h2⟩]
theorem freeD_no {b : Bd} {W ws : List Nat} {s o : Nat} (e : b[s]? = some (o, ws)) (h : ¬(o = 0 ∧ s ∈ W)) : freeD b W s = .none := by
  unfold freeD
  rw [e]
  dsimp only
  rw [if_neg h]
theorem Cm.free {k : Nat} {b : Bd} {W : List Nat} (hb : WB b) (s : Nat) : Cm (k + 1) (freeD b W s) := by
  unfold freeD
  split
  · rename_i o ws e
    split
    · exact Cm.nT (Nat.le_trans (List.length_filter_le _ _) (Nat.le_trans (hb.ln _ (List.mem_of_getElem? e)) (by omega)))
    · exact .non
  · exact .non
theorem len0 (l : List Nat) (c : Nat → Bool) : decide ((((l.filter c).map nI).length : Int) = 0) = decide (∀ x ∈ l, c x = false) := by
  rw [List.length_map, decide_eq_decide]
  constructor
  · intro h x hx
    have : l.filter c = [] := List.length_eq_zero_iff.mp (by omega)
    have := List.filter_eq_nil_iff.mp this x hx
    cases hc : c x with
    | true => exact absurd hc this
    | false => rfl
  · intro h
    have : l.filter c = [] := List.filter_eq_nil_iff.mpr fun x hx => by rw [h x hx]; exact Bool.false_ne_true
    rw [this]; rfl
end DL
/-! P15: the spots from which some strategy keeps a wish about rings. -/
namespace DL
open PySem PySem.Spec PyProof.Rows L2
local macro_rules | `(tactic| walk_at "en") => `(tactic| ((simp -dsimp -implicitDefEqProofs only [↓wp_toX, wpX_ok, ↓bind_toX, ↓loopF_toX, ↓loopC_toX, ↓while_toX, bindX_ok, bindX_assoc, evS, evE, evO, evR, evL, evB, evA, evI, opt_some, opd_val, opd_bor, slotD_imm, slotD_own, fz_val, obind_some, omap_some, ofInt_int, ofBool_bool, items_list, items_tuple,
  run_add, run_sub, run_mul, run_fdiv, run_mod, run_lt, run_le, run_gt, run_ge, run_eqI, run_neI, run_isN, run_notN, run_not, run_neg, idx_list, idx_tuple, sli_list, sli_tuple, sli_scr, b_lenL, b_lenT, b_listS, b_listL, b_listT, b_tupL, b_tupT, b_max2, b_min2, b_int,
  argsOf_nil, argsOf_v, margs, retD_val, outs_nil, outs_f, outs_t, slotOf_f, slotOf_t, bindP_var, bindP_tup, bindPs_nil, bindPs_cons, wipe_nil, wipe_cons, back_nil, back_cons, mapM_nilO, mapM_consO, noOwn, isOwn, fz_bor,
  List.map_cons, List.map_nil, List.replicate_succ, List.replicate_zero, List.cons_append, List.nil_append, List.getElem?_cons_zero, List.getElem?_cons_succ, List.set_cons_zero, List.set_cons_succ, List.length_cons, List.length_nil, List.all_cons, List.all_nil, Option.getD_some,
  Nat.zero_add, Nat.reduceAdd, Nat.reduceLT, Nat.reduceLeDiff, Nat.lt_add_left_iff_pos, Nat.zero_lt_succ, Nat.reduceEqDiff, Int.reduceEq, Int.reduceLT, Int.reduceLE, Int.reduceNeg, inR_0, retD_bor, Bool.not_true, Bool.not_false, idx_sp0, idx_sp1, ofInt_nI, aug_n, eq_n, eq_n0, eq_n1, ne_n0, gt_n0, len_b, len_nT, len_nL, in_T, in_L, nin_T, nin_L, bindP_sp, items_b, items_nT, items_nL, isNone_oD, aug_i, sz0, sz1, sz2, sz3, sz4, sz5, argsOf_mE, argOf, putBack, omap_some, na5, putB_nil, at0, at1, at2, at3, at4, ix51, ix52, ix53, true_or, or_true, sm1, sm2, sm3, sm4, sm5, Bool.or_true, reduceIte, Bool.and_self, Bool.and_true, Bool.true_and, if_true, if_false, Bool.or_true, Bool.true_or, ne_eq, not_false_eq_true, not_true_eq_false, true_and, and_true,
  List.nodup_cons, List.nodup_nil, List.not_mem_nil, List.mem_cons, or_false, false_or]) <;> (try simp -dsimp only [wp_ofX])))
variable {gcs : Nat → Option D} {cd : CallSem}
def sAgain : D := .str ⟨[97, 103, 97, 105, 110].toArray⟩
def sAtlast : D := .str ⟨[97, 116, 108, 97, 115, 116].toArray⟩
def kindD (k : Bool) : D := if k then sAgain else sAtlast
def wishD (k : Bool) (spots : List Nat) : D := .tuple [kindD k, nT spots]
/-- a ring that serves the wish -/
def Serves (k : Bool) (spots r : List Nat) : Prop := if k then ∃ x ∈ r, x ∈ spots else ∀ x ∈ r, x ∈ spots
def Good (b : Bd) (k : Bool) (spots : List Nat) (s : Nat) : Prop := ∀ r, IsRing b r → Reach b s (r.headD 0) → Serves k spots r
def Wins (b : Bd) (k : Bool) (spots : List Nat) (p s : Nat) : Prop := ∃ row, Strat b p row ∧ Good (leftB b p row) k spots s
open Classical in
noncomputable def winsL (b : Bd) (k : Bool) (spots : List Nat) (p : Nat) : List Nat := (List.range b.length).filter fun s => decide (Wins b k spots p s)
theorem kind_eq (k : Bool) : O2.run .eq (kindD k) sAgain = some (.bool k) := by
  cases k <;> exact congrArg (fun t => some (PyData.bool t)) (by decide +kernel)
theorem reach_lt {b : Bd} (hb : WB b) {s x : Nat} (hs : s < b.length) (h : Reach b s x) : x < b.length := by
  cases h with
  | refl => exact hs
  | step _ h hw => exact hb.lt _ (List.mem_of_getElem? h) _ hw
open Classical in
/-- one strategy: which spots are good for it -/
noncomputable def newOnes (b : Bd) (k : Bool) (spots : List Nat) (p : Nat) (row : List (Option Nat)) (found : List Nat) : Nat → List Nat
  | 0 => found
  | i + 1 => newOnes b k spots p row found i ++ (if i ∉ newOnes b k spots p row found i ∧ Good (leftB b p row) k spots i then [i] else [])
open Classical in
theorem newOnes_mem {b : Bd} {k : Bool} {spots : List Nat} {p : Nat} {row : List (Option Nat)} {found : List Nat} : ∀ (i x : Nat), x ∈ newOnes b k spots p row found i ↔ x ∈ found ∨ (x < i ∧ Good (leftB b p row) k spots x)
  | 0, x => ⟨.inl, fun h => h.elim id fun h => absurd h.1 (Nat.not_lt_zero _)⟩
  | i + 1, x => by
    unfold newOnes
    rw [List.mem_append, newOnes_mem i x]
    constructor
    · rintro ((h | ⟨h1, h2⟩) | h)
      · exact .inl h
      · exact .inr ⟨by omega, h2⟩
      · split at h
        · rename_i hg
          rw [List.mem_singleton] at h
          subst h
          exact .inr ⟨by omega, hg.2⟩
        · cases h
    · rintro (h | ⟨h1, h2⟩)
      · exact .inl (.inl h)
      · by_cases hx : x = i
        · subst hx
          by_cases hm : x ∈ newOnes b k spots p row found x
          · exact .inl ((newOnes_mem x x).mp hm)
          · right
            rw [if_pos ⟨hm, h2⟩]
            exact List.mem_singleton.mpr rfl
        · exact .inl (.inr ⟨by omega, h2⟩)
open Classical in
theorem newOnes_nd {b : Bd} {k : Bool} {spots : List Nat} {p : Nat} {row : List (Option Nat)} {found : List Nat} (h : found.Nodup) : ∀ i, (newOnes b k spots p row found i).Nodup
  | 0 => h
  | i + 1 => by
    unfold newOnes
    rw [List.nodup_append]
    refine ⟨newOnes_nd h i, ?_, fun a ha c hc e => ?_⟩
    · split
      · exact List.nodup_cons.mpr ⟨List.not_mem_nil, List.nodup_nil⟩
      · exact List.nodup_nil
    · split at hc
      · rename_i hg
        rw [List.mem_singleton] at hc
        subst hc e
        exact hg.1 ha
      · cases hc
def CWinsBy (cd : CallSem) : Prop := ∀ (b : Bd) (k : Bool) (spots : List Nat) (p : Nat), (∃ m, BOk m b ∧ m ≤ 8) → cd 70 [(false, bD b), (false, wishD k spots), (false, nI p)] = .ok ([], true, nT (winsL b k spots p))
theorem lenT (l : List (List Nat)) (c : List Nat → Bool) : decide ((((l.filter c).map nT).length : Int) = 0) = decide (∀ x ∈ l, c x = false) := by
  rw [List.length_map, decide_eq_decide]
  constructor
  · intro h x hx
    have : l.filter c = [] := List.length_eq_zero_iff.mp (by omega)
    have := List.filter_eq_nil_iff.mp this x hx
    cases hc : c x with
    | true => exact absurd hc this
    | false => rfl
  · intro h
    have : l.filter c = [] := List.filter_eq_nil_iff.mpr fun x hx => by rw [h x hx]; exact Bool.false_ne_true
    rw [this]; rfl
theorem ring_ne {b : Bd} {r : List Nat} (h : IsRing b r) : r ≠ [] := h.ne
theorem idx_w0 {k : Bool} {spots : List Nat} : idxD (wishD k spots) (.int 0) = some (kindD k) := at0
theorem idx_w1 {k : Bool} {spots : List Nat} : idxD (wishD k spots) (.int 1) = some (nT spots) := at1
theorem comp_filterT (l : List (List Nat)) (c : List Nat → Bool) : l.filterMap (fun a => if c a then some (nT a) else none) = (l.filter c).map nT := by
  induction l with
  | nil => rfl
  | cons a r ih =>
    rw [List.filterMap_cons, List.filter_cons]
    cases h : c a with
    | true => rw [if_pos rfl, if_pos rfl, List.map_cons, ih]
    | false => rw [if_neg Bool.false_ne_true, if_neg Bool.false_ne_true, ih]
open Classical in
theorem wb2_ok (h14 : CReach cd) (h31 : CRings cd) {b : Bd} {k : Bool} {spots : List Nat} {p : Nat} {row : List (Option Nat)} {found : List Nat} {m i : Nat} (hb : BOk m b) (hm : m ≤ 8) (hr : Strat b p row) (hi : i < b.length) (hfl : found.length ≤ 1000)
    (s4 s6 s7 s8 s10 : Slot) : Wp (evS gcs cd b_law_wins_by_2 [.imm (bD b), .imm (wishD k spots), .imm (nI p), .imm (nL found), s4, .imm (bD (leftB b p row)), .imm (nI i), s7, s8, .emp, s10, .emp]) fun q => q.1 = .nx ∧ ∃ s7 s8 s10, q.2 = [.imm (bD b), .imm (wishD k spots), .imm (nI p), .imm (nL (found ++ (if i ∉ found ∧ Good (leftB b p row) k spots i then [i] else []))), s4, .imm (bD (leftB b p row)), .imm (nI i), s7, s8, .emp, s10, .emp] := by
  obtain ⟨lwb, lnd⟩ := left_wb hb (by omega) hr
  have llen := left_len hr
  have ll3 : ∀ s ∈ leftB b p row, s.2.length ≤ 3 := fun x hx => by
    obtain ⟨j, hj⟩ := List.getElem?_of_mem hx
    obtain ⟨ws, e, h⟩ := left_at (o := x.1) (vs := x.2) hr hj
    rcases h with ⟨_, w, hw, _, h2⟩ | ⟨_, h2⟩
    · rw [h2]; show 1 ≤ 3; omega
    · rw [h2]; exact hb.ln _ (List.mem_of_getElem? e)
  rw [b_law_wins_by_2]
  walk_at "en"
  by_cases hf : i ∈ found
  · rw [decide_eq_true hf]
    walk_at "en"
    exact ⟨s7, s8, s10, by rw [if_neg (fun h => h.1 hf), List.append_nil]⟩
  · rw [decide_eq_false hf]
    walk_at "en"
    refine wp_bind (wp_mono (h14 (leftB b p row) i lwb lnd (by rw [llen]; exact hi)) ?_)
    rintro r ⟨F, hF, hFl, rfl⟩
    walk_at "en"
    refine wp_bind (wp_mono (h31 (leftB b p row) lwb (by rw [llen]; exact Nat.le_trans hb.le hm) ll3) ?_)
    rintro r ⟨rings, hp, hrl, rfl⟩
    walk_at "en"
    have hring : ∀ r ∈ rings, IsRing (leftB b p row) r := fun r h => (ring_mem lwb.lt r).mp (hp.mem_iff.mp h)
    refine wp_bind (wp_loopCm nT (fun r => if decide (r.headD 0 ∈ F) then some (nT r) else none) (fun r hr => ?_) (small_le (by omega)) ?_)
    · refine ev_eq ?_
      walk_at "en"
      rw [idx_head (hring r hr).ne]
      walk_at "en"
      cases decide (r.headD 0 ∈ F) with
      | true => walk_at "en"; try rfl
      | false => walk_at "en"; try rfl
    rw [comp_filterT]
    walk_at "en"
    rw [idx_w0]
    walk_at "en"
    rw [show (PyData.str ⟨[97, 103, 97, 105, 110].toArray⟩) = sAgain from rfl, kind_eq]
    walk_at "en"
    cases k with
    | true =>
      walk_at "en"
      refine wp_bind (wp_loopCm nT (fun r => if decide (∀ x ∈ r, decide (x ∈ spots) = false) then some (nT r) else none) (fun r hr => ?_) (small_le (Nat.le_trans (List.length_filter_le _ _) (by omega))) ?_)
      · have hrr := hring r (List.mem_filter.mp hr).1
        have hrl : r.length ≤ 1000 := by
          have := nodup_len _ r hrr.nd hrr.lt
          have := hb.le
          omega
        refine ev_eq ?_
        walk_at "en"
        refine wp_bind (wp_loopCm nI (fun x => if decide (x ∈ spots) then some (nI x) else none) (fun x hx => ?_) (small_le (by omega)) ?_)
        · refine ev_eq ?_
          walk_at "en"
          rw [idx_w1]
          walk_at "en"
          cases decide (x ∈ spots) with
          | true => walk_at "en"; try rfl
          | false => walk_at "en"; try rfl
        rw [comp_filter]
        walk_at "en"
        rw [len0]
        cases decide (∀ x ∈ r, decide (x ∈ spots) = false) with
        | true => walk_at "en"; try rfl
        | false => walk_at "en"; try rfl
      rw [comp_filterT]
      walk_at "en"
      rw [lenT]
      have hg : (∀ r ∈ rings.filter (fun r => decide (r.headD 0 ∈ F)), decide (∀ x ∈ r, decide (x ∈ spots) = false) = false) ↔ Good (leftB b p row) true spots i := by
        constructor
        · intro h r hr hreach
          have h1 : r ∈ rings := hp.mem_iff.mpr ((ring_mem lwb.lt r).mpr hr)
          have h2 := of_decide_eq_false (h r (List.mem_filter.mpr ⟨h1, decide_eq_true ((hF _).mpr hreach)⟩))
          show ∃ x ∈ r, x ∈ spots
          exact Classical.byContradiction fun hn => h2 fun x hx => decide_eq_false fun hs => hn ⟨x, hx, hs⟩
        · intro h r hr
          obtain ⟨h1, h2⟩ := List.mem_filter.mp hr
          obtain ⟨x, hx, hs⟩ : ∃ x ∈ r, x ∈ spots := h r (hring r h1) ((hF _).mp (of_decide_eq_true h2))
          exact decide_eq_false fun hall => (of_decide_eq_false (hall x hx)) hs
      by_cases hG : Good (leftB b p row) true spots i
      · rw [decide_eq_true (hg.mpr hG), if_pos ⟨hf, hG⟩]
        walk_at "en"
        rw [show PyData.list [nI i] = PyData.list ([i].map nI) from rfl, add_nL (by show found.length + 1 ≤ _; omega)]
        walk_at "en"
        exact ⟨_, _, _, rfl⟩
      · rw [decide_eq_false (fun h => hG (hg.mp h)), if_neg (fun h => hG h.2)]
        walk_at "en"
        rw [show PyData.list [] = PyData.list (([] : List Nat).map nI) from rfl, add_nL (by show found.length + 0 ≤ _; omega)]
        walk_at "en"
        exact ⟨_, _, _, rfl⟩
    | false =>
      walk_at "en"
      refine wp_bind (wp_loopCm nT (fun r => if decide (0 < (r.filter fun x => !decide (x ∈ spots)).length) then some (nT r) else none) (fun r hr => ?_) (small_le (Nat.le_trans (List.length_filter_le _ _) (by omega))) ?_)
      · have hrr := hring r (List.mem_filter.mp hr).1
        have hrl : r.length ≤ 1000 := by
          have := nodup_len _ r hrr.nd hrr.lt
          have := hb.le
          omega
        refine ev_eq ?_
        walk_at "en"
        refine wp_bind (wp_loopCm nI (fun x => if (!decide (x ∈ spots)) then some (nI x) else none) (fun x hx => ?_) (small_le (by omega)) ?_)
        · refine ev_eq ?_
          walk_at "en"
          rw [idx_w1]
          walk_at "en"
          cases decide (x ∈ spots) with
          | true => walk_at "en"; try rfl
          | false => walk_at "en"; try rfl
        rw [comp_filter]
        walk_at "en"
        rw [List.length_map, show decide ((0 : Int) < ((r.filter fun x => !decide (x ∈ spots)).length : Nat)) = decide (0 < (r.filter fun x => !decide (x ∈ spots)).length) from decide_eq_decide.mpr (by omega)]
        cases decide (0 < (r.filter fun x => !decide (x ∈ spots)).length) with
        | true => walk_at "en"; try rfl
        | false => walk_at "en"; try rfl
      rw [comp_filterT]
      walk_at "en"
      rw [lenT]
      have hg : (∀ r ∈ rings.filter (fun r => decide (r.headD 0 ∈ F)), decide (0 < (r.filter fun x => !decide (x ∈ spots)).length) = false) ↔ Good (leftB b p row) false spots i := by
        constructor
        · intro h r hr hreach
          have h1 : r ∈ rings := hp.mem_iff.mpr ((ring_mem lwb.lt r).mpr hr)
          have h2 := of_decide_eq_false (h r (List.mem_filter.mpr ⟨h1, decide_eq_true ((hF _).mpr hreach)⟩))
          show ∀ x ∈ r, x ∈ spots
          exact fun x hx => Classical.byContradiction fun hn => h2 (List.length_pos_of_mem (List.mem_filter.mpr ⟨hx, by rw [decide_eq_false hn]; rfl⟩))
        · intro h r hr
          obtain ⟨h1, h2⟩ := List.mem_filter.mp hr
          have h3 : ∀ x ∈ r, x ∈ spots := h r (hring r h1) ((hF _).mp (of_decide_eq_true h2))
          refine decide_eq_false fun hl => ?_
          obtain ⟨x, hx⟩ := List.exists_mem_of_length_pos hl
          obtain ⟨hx1, hx2⟩ := List.mem_filter.mp hx
          rw [decide_eq_true (h3 x hx1)] at hx2
          cases hx2
      by_cases hG : Good (leftB b p row) false spots i
      · rw [decide_eq_true (hg.mpr hG), if_pos ⟨hf, hG⟩]
        walk_at "en"
        rw [show PyData.list [nI i] = PyData.list ([i].map nI) from rfl, add_nL (by show found.length + 1 ≤ _; omega)]
        walk_at "en"
        exact ⟨_, _, _, rfl⟩
      · rw [decide_eq_false (fun h => hG (hg.mp h)), if_neg (fun h => hG h.2)]
        walk_at "en"
        rw [show PyData.list [] = PyData.list (([] : List Nat).map nI) from rfl, add_nL (by show found.length + 0 ≤ _; omega)]
        walk_at "en"
        exact ⟨_, _, _, rfl⟩
end DL
/-! P16: _law_wins_by. -/
namespace DL
open PySem PySem.Spec PyProof.Rows L2
local macro_rules | `(tactic| walk_at "en") => `(tactic| ((simp -dsimp -implicitDefEqProofs only [↓wp_toX, wpX_ok, ↓bind_toX, ↓loopF_toX, ↓loopC_toX, ↓while_toX, bindX_ok, bindX_assoc, evS, evE, evO, evR, evL, evB, evA, evI, opt_some, opd_val, opd_bor, slotD_imm, slotD_own, fz_val, obind_some, omap_some, ofInt_int, ofBool_bool, items_list, items_tuple,
  run_add, run_sub, run_mul, run_fdiv, run_mod, run_lt, run_le, run_gt, run_ge, run_eqI, run_neI, run_isN, run_notN, run_not, run_neg, idx_list, idx_tuple, sli_list, sli_tuple, sli_scr, b_lenL, b_lenT, b_listS, b_listL, b_listT, b_tupL, b_tupT, b_max2, b_min2, b_int,
  argsOf_nil, argsOf_v, margs, retD_val, outs_nil, outs_f, outs_t, slotOf_f, slotOf_t, bindP_var, bindP_tup, bindPs_nil, bindPs_cons, wipe_nil, wipe_cons, back_nil, back_cons, mapM_nilO, mapM_consO, noOwn, isOwn, fz_bor,
  List.map_cons, List.map_nil, List.replicate_succ, List.replicate_zero, List.cons_append, List.nil_append, List.getElem?_cons_zero, List.getElem?_cons_succ, List.set_cons_zero, List.set_cons_succ, List.length_cons, List.length_nil, List.all_cons, List.all_nil, Option.getD_some,
  Nat.zero_add, Nat.reduceAdd, Nat.reduceLT, Nat.reduceLeDiff, Nat.lt_add_left_iff_pos, Nat.zero_lt_succ, Nat.reduceEqDiff, Int.reduceEq, Int.reduceLT, Int.reduceLE, Int.reduceNeg, inR_0, retD_bor, Bool.not_true, Bool.not_false, idx_sp0, idx_sp1, ofInt_nI, aug_n, eq_n, eq_n0, eq_n1, ne_n0, gt_n0, len_b, len_nT, len_nL, in_T, in_L, nin_T, nin_L, bindP_sp, items_b, items_nT, items_nL, isNone_oD, aug_i, sz0, sz1, sz2, sz3, sz4, sz5, argsOf_mE, argOf, putBack, omap_some, na5, putB_nil, at0, at1, at2, at3, at4, ix51, ix52, ix53, true_or, or_true, sm1, sm2, sm3, sm4, sm5, Bool.or_true, reduceIte, Bool.and_self, Bool.and_true, Bool.true_and, if_true, if_false, Bool.or_true, Bool.true_or, ne_eq, not_false_eq_true, not_true_eq_false, true_and, and_true,
  List.nodup_cons, List.nodup_nil, List.not_mem_nil, List.mem_cons, or_false, false_or]) <;> (try simp -dsimp only [wp_ofX])))
variable {gcs : Nat → Option D} {cd : CallSem}
theorem srt_filter {n : Nat} {l : List Nat} {c : Nat → Bool} (hd : l.Nodup) (h : ∀ x, x ∈ l ↔ x < n ∧ c x = true) : srt l = (List.range n).filter c := by
  have h1 : (srt l).Perm ((List.range n).filter c) := by
    refine (srt_perm l).trans ((List.perm_ext_iff_of_nodup hd (List.nodup_range.sublist List.filter_sublist)).mpr fun x => ?_)
    rw [h x, List.mem_filter, List.mem_range]
  have h3 : ((List.range n).filter c).Pairwise (· ≤ ·) := (List.pairwise_lt_range.sublist List.filter_sublist).imp fun h => Nat.le_of_lt h
  exact h1.eq_of_pairwise (fun a b _ _ h1 h2 => Nat.le_antisymm h1 h2) (srt_le l) h3
open Classical in
theorem winsby_ok (h12 : CStrats cd) (h13 : CLeft cd) (h14 : CReach cd) (h31 : CRings cd) (b : Bd) (k : Bool) (spots : List Nat) (p : Nat) (hbm : ∃ m, BOk m b ∧ m ≤ 8) : runFn gcs cd fn_law_wins_by [(false, bD b), (false, wishD k spots), (false, nI p)] = .ok ([], true, nT (winsL b k spots p)) := by
  obtain ⟨m, hb, hm⟩ := hbm
  have hn := hb.le
  refine ev_eq (wp_run rfl ?_)
  rw [show fn_law_wins_by.body = b_law_wins_by from rfl, show fn_law_wins_by.nl = 9 from rfl, b_law_wins_by]
  walk_at "en"
  refine wp_bind (wp_mono (h12 b p m hb (by omega)) ?_)
  rintro r ⟨rows, hrl, hrows, rfl⟩
  walk_at "en"
  refine wp_bind (wp_loopFm rowD (fun i d => ∃ (found : List Nat) (s4 s5 s6 s7 s8 s10 : Slot), d = [.imm (bD b), .imm (wishD k spots), .imm (nI p), .imm (nL found), s4, s5, s6, s7, s8, .emp, s10, .emp] ∧ found.Nodup ∧ ∀ x, x ∈ found ↔ x < b.length ∧ ∃ row ∈ rows.take i, Good (leftB b p row) k spots x) ⟨[], _, _, _, _, _, _, rfl, List.nodup_nil, fun x => ⟨(fun h => nomatch h), fun ⟨_, row, h, _⟩ => by rw [List.take_zero] at h; cases h⟩⟩ ?_ ?_)
  · rintro i row d hi ⟨found, s4, s5, s6, s7, s8, s10, rfl, hd, hf⟩
    have hr := (hrows row).mp (List.mem_of_getElem? hi)
    have hfl := nodup_len b.length found hd fun x hx => ((hf x).mp hx).1
    rw [b_law_wins_by_1]
    walk_at "en"
    rw [h13 b p row (by omega) hr]
    walk_at "en"
    rw [inR_nat (by omega), rng_n]
    walk_at "en"
    refine wp_bind (wp_loopFm nI (fun j d => ∃ (s6 s7 s8 s10 : Slot), d = [.imm (bD b), .imm (wishD k spots), .imm (nI p), .imm (nL (newOnes b k spots p row found j)), .imm (rowD row), .imm (bD (leftB b p row)), s6, s7, s8, .emp, s10, .emp]) ⟨_, _, _, _, rfl⟩ ?_ ?_)
    · rintro j s d hj ⟨s6, s7, s8, s10, rfl⟩
      obtain ⟨hjl, hs⟩ := List.getElem?_eq_some_iff.mp hj
      rw [List.getElem_range] at hs
      subst hs
      rw [List.length_range] at hjl
      have hnl := nodup_len b.length _ (newOnes_nd (b := b) (k := k) (spots := spots) (p := p) (row := row) hd j) fun x hx => by
        rcases (newOnes_mem j x).mp hx with h | h
        · exact ((hf x).mp h).1
        · omega
      walk_at "en"
      refine wp_mono (wb2_ok h14 h31 hb hm hr hjl (by omega) _ s6 s7 s8 s10) ?_
      rintro ⟨o, d'⟩ ⟨rfl, s7, s8, s10, rfl⟩
      exact ⟨.inl rfl, _, _, _, _, rfl⟩
    · rintro d ⟨s6, s7, s8, s10, rfl⟩
      rw [List.length_range]
      walk_at "en"
      refine ⟨_, .imm (rowD row), .imm (bD (leftB b p row)), s6, s7, s8, s10, rfl, newOnes_nd hd _, fun x => ?_⟩
      rw [newOnes_mem, hf x, List.take_add_one, hi]
      constructor
      · rintro (⟨h1, r', h2, h3⟩ | ⟨h1, h2⟩)
        · exact ⟨h1, r', List.mem_append_left _ h2, h3⟩
        · exact ⟨h1, row, List.mem_append_right _ List.mem_cons_self, h2⟩
      · rintro ⟨h1, r', h2, h3⟩
        rcases List.mem_append.mp h2 with h2 | h2
        · exact .inl ⟨h1, r', h2, h3⟩
        · have : r' = row := List.mem_singleton.mp h2
          subst this
          exact .inr ⟨h1, h3⟩
  · rintro d ⟨found, s4, s5, s6, s7, s8, s10, rfl, hd, hf⟩
    walk_at "en"
    rw [show nL found = .list (found.map nI) from rfl, b_srtL]
    walk_at "en"
    rw [srt_filter (c := fun s => decide (Wins b k spots p s)) hd fun x => by
      rw [hf x, decide_eq_true_eq, List.take_length]
      exact ⟨fun ⟨h1, r, h2, h3⟩ => ⟨h1, r, (hrows r).mp h2, h3⟩, fun ⟨h1, r, h2, h3⟩ => ⟨h1, r, (hrows r).mpr h2, h3⟩⟩]
    rfl
end DL
/-! P17: again and again, the mathematics. -/
namespace DL
open PySem PySem.Spec PyProof.Rows L2
/-- ranks: the least round in which a spot is known -/
theorem att_rank {b : Bd} {p : Nat} {goal : List Nat} {s : Nat} (h : Att b p goal s) : ∃ k, known (stF b p goal k) s = true ∧ ∀ j, j < k → known (stF b p goal j) s = false := by
  have : ∃ k, known (stF b p goal k) s = true := by
    induction h with
    | goal h hs => exact ⟨0, known_goal h hs 0⟩
    | @some s o w ws h ho hw a ih =>
      obtain ⟨k, hk⟩ := ih
      refine ⟨k + 1, ?_⟩
      have hl := (List.getElem?_eq_some_iff.mp h).1
      rw [show stF b p goal (k + 1) = rnd b p (stF b p goal k) (k + 1) from rfl, rnd_known hl]
      cases q : known (stF b p goal k) s with
      | true => rfl
      | false =>
        unfold newly pull
        rw [q, h]
        dsimp only
        rw [if_pos ho]
        exact List.any_eq_true.mpr ⟨w, hw, hk⟩
    | @all s o ws h ho a ih =>
      have : ∃ k, ∀ w ∈ ws, known (stF b p goal k) w = true := by
        clear h a
        induction ws with
        | nil => exact ⟨0, fun _ h => nomatch h⟩
        | cons w r ih2 =>
          obtain ⟨k1, h1⟩ := ih2 fun w hw => ih w (List.mem_cons_of_mem _ hw)
          obtain ⟨k2, h2⟩ := ih w List.mem_cons_self
          have mono : ∀ (x a c : Nat), known (stF b p goal a) x = true → known (stF b p goal (a + c)) x = true := fun x a c hh => by
            induction c with
            | zero => exact hh
            | succ c ihc => exact known_mono _ ihc
          refine ⟨k1 + k2, fun x hx => ?_⟩
          rcases List.mem_cons.mp hx with rfl | hx
          · rw [Nat.add_comm]; exact mono _ _ _ h2
          · exact mono _ _ _ (h1 x hx)
      obtain ⟨k, hk⟩ := this
      refine ⟨k + 1, ?_⟩
      have hl := (List.getElem?_eq_some_iff.mp h).1
      rw [show stF b p goal (k + 1) = rnd b p (stF b p goal k) (k + 1) from rfl, rnd_known hl]
      cases q : known (stF b p goal k) s with
      | true => rfl
      | false =>
        unfold newly pull
        rw [q, h]
        dsimp only
        rw [if_neg ho]
        exact List.all_eq_true.mpr hk
  obtain ⟨k, hk⟩ := this
  obtain ⟨m, h1, _, h2⟩ := least_of (P := fun k => known (stF b p goal k) s = true) k hk
  exact ⟨m, h1, fun j hj => by cases q : known (stF b p goal j) s with
    | true => exact absurd q (h2 j hj)
    | false => rfl⟩
/-- how a spot came in: in round 0 it is a goal; later by its ways known before -/
theorem rank_step {b : Bd} {p : Nat} {goal : List Nat} {s k : Nat} (h : known (stF b p goal k) s = true) (hj : ∀ j, j < k → known (stF b p goal j) s = false) :
    (k = 0 ∧ s ∈ goal) ∨ ∃ j o ws, k = j + 1 ∧ b[s]? = some (o, ws) ∧ (o = p → ∃ w ∈ ws, known (stF b p goal j) w = true) ∧ (o ≠ p → ∀ w ∈ ws, known (stF b p goal j) w = true) := by
  have hl := known_lt h
  rw [stF_len] at hl
  cases k with
  | zero =>
    rw [show stF b p goal 0 = st0 b goal from rfl, st0_known hl] at h
    exact .inl ⟨rfl, of_decide_eq_true h⟩
  | succ j =>
    right
    rw [show stF b p goal (j + 1) = rnd b p (stF b p goal j) (j + 1) from rfl, rnd_known hl, hj j (Nat.lt_succ_self j), Bool.false_or] at h
    unfold newly pull at h
    have h := (Bool.and_eq_true_iff.mp h).2
    split at h
    · rename_i o ws e
      refine ⟨j, o, ws, rfl, e, fun ho => ?_, fun ho => ?_⟩
      · rw [if_pos ho] at h
        exact List.any_eq_true.mp h
      · rw [if_neg ho] at h
        exact List.all_eq_true.mp h
    · cases h
/-- a rule as a strategy's row -/
def rowOf (b : Bd) (p : Nat) (f : Nat → Nat) : List (Option Nat) := b.zipIdx.map fun x => if x.1.1 = p then some (f x.2) else none
theorem rowOf_get {b : Bd} {p : Nat} {f : Nat → Nat} {x o : Nat} {ws : List Nat} (e : b[x]? = some (o, ws)) : (rowOf b p f)[x]? = some (if o = p then some (f x) else none) := by
  unfold rowOf
  rw [List.getElem?_map, List.getElem?_zipIdx, e]
  simp
theorem rowOf_strat {b : Bd} {p : Nat} {f : Nat → Nat} (h : ∀ x ws, b[x]? = some (p, ws) → f x ∈ ws) : Strat b p (rowOf b p f) := by
  refine ⟨by unfold rowOf; rw [List.length_map, List.length_zipIdx], fun j o ws _ e => ⟨fun ho => ?_, fun ho => ?_⟩⟩
  · subst ho
    exact ⟨f j, h j ws e, by rw [rowOf_get e, if_pos rfl]⟩
  · rw [rowOf_get e, if_neg ho]
/-- the ways of a board where one side follows a row -/
theorem wayN_left {b : Bd} {p x o : Nat} {ws : List Nat} {row : List (Option Nat)} (hr : Strat b p row) (e : b[x]? = some (o, ws)) :
    (o = p ∧ ∃ w ∈ ws, row[x]? = some (some w) ∧ wayN (leftB b p row) x = [w]) ∨ (o ≠ p ∧ wayN (leftB b p row) x = ws) := by
  have hx := (List.getElem?_eq_some_iff.mp e).1
  obtain ⟨h1, h2⟩ := hr.2 x o ws hx e
  by_cases ho : o = p
  · obtain ⟨w, hw, h3⟩ := h1 ho
    refine .inl ⟨ho, w, hw, h3, ?_⟩
    have := left_get (p := p) e h3
    rw [if_pos ho] at this
    exact wayN_of this
  · refine .inr ⟨ho, ?_⟩
    have := left_get (p := p) e (h2 ho)
    rw [if_neg ho] at this
    exact wayN_of this
end DL
/-! P18: games on boards: rules become strategies, ranks along rings, both sides play. -/
namespace DL
open PySem PySem.Spec PyProof.Rows L2
theorem way_at {b : Bd} {x w : Nat} (h : w ∈ wayN b x) : ∃ o ws, b[x]? = some (o, ws) ∧ w ∈ ws := by
  unfold wayN at h
  split at h
  · rename_i o ws e
    exact ⟨o, ws, e, h⟩
  · cases h
theorem Reach.way {b : Bd} {s x w : Nat} (r : Reach b s x) (h : w ∈ wayN b x) : Reach b s w := by
  obtain ⟨o, ws, e, hw⟩ := way_at h
  exact .step r e hw
theorem Reach.inv {b : Bd} {s x : Nat} (P : Nat → Prop) (h0 : P s) (h : ∀ x, P x → ∀ w ∈ wayN b x, P w) (r : Reach b s x) : P x := by
  induction r with
  | refl => exact h0
  | step r e hw ih => exact h _ ih _ (by rw [wayN_of e]; exact hw)
theorem IsRing.next {b : Bd} {r : List Nat} (h : IsRing b r) {x : Nat} (hx : x ∈ r) : ∃ y ∈ r, y ∈ wayN b x := by
  obtain ⟨i, hi⟩ := List.getElem?_of_mem hx
  have hil := (List.getElem?_eq_some_iff.mp hi).1
  by_cases q : i + 1 < r.length
  · exact ⟨r[i + 1], List.getElem_mem q, h.way i x _ hi (List.getElem?_eq_getElem q)⟩
  · have hl := last_get h.ne
    rw [show r.length - 1 = i by omega, hi] at hl
    have : x = r.getLastD 0 := Option.some.inj hl
    exact ⟨r.headD 0, List.mem_of_getElem? (head_get h.ne), by rw [this]; exact h.back⟩
theorem IsRing.reach {b : Bd} {r : List Nat} (h : IsRing b r) {s : Nat} (hr : Reach b s (r.headD 0)) : ∀ x ∈ r, Reach b s x := fun x hx => by
  obtain ⟨i, hi⟩ := List.getElem?_of_mem hx
  clear hx
  induction i generalizing x with
  | zero =>
    rw [head_get h.ne] at hi
    cases hi
    exact hr
  | succ i ih =>
    have hil := (List.getElem?_eq_some_iff.mp hi).1
    have h1 : r[i]? = some r[i] := List.getElem?_eq_getElem (by omega)
    exact (ih _ h1).way (h.way i _ x h1 hi)
/-- a rank that never rises along a ring stands still -/
theorem IsRing.const {b : Bd} {r : List Nat} (h : IsRing b r) (rk : Nat → Nat) (hf : ∀ x ∈ r, ∀ y ∈ r, y ∈ wayN b x → rk y ≤ rk x) : ∀ x ∈ r, ∀ y ∈ r, rk x ≤ rk y := by
  have up : ∀ (j i x y : Nat), r[i]? = some x → r[i + j]? = some y → rk y ≤ rk x := fun j => by
    induction j with
    | zero => intro i x y hx hy; rw [Nat.add_zero, hx] at hy; cases hy; exact Nat.le_refl _
    | succ j ih =>
      intro i x y hx hy
      have hil := (List.getElem?_eq_some_iff.mp hy).1
      have h1 : r[i + j]? = some r[i + j] := List.getElem?_eq_getElem (by omega)
      exact Nat.le_trans (hf _ (List.mem_of_getElem? h1) _ (List.mem_of_getElem? hy) (h.way (i + j) _ y h1 hy)) (ih i x _ hx h1)
  intro x hx y hy
  obtain ⟨i, hi⟩ := List.getElem?_of_mem hx
  obtain ⟨j, hj⟩ := List.getElem?_of_mem hy
  have hl := last_get h.ne
  have hh := head_get h.ne
  have hjl := (List.getElem?_eq_some_iff.mp hj).1
  have h1 := up i 0 _ x hh (by rw [Nat.zero_add]; exact hi)
  have h2 := up (r.length - 1 - j) j y _ hj (by rw [show j + (r.length - 1 - j) = r.length - 1 by omega]; exact hl)
  have h3 := hf _ (List.mem_of_getElem? hl) _ (List.mem_of_getElem? hh) h.back
  omega
/-- a rule that keeps P with its ways C: as a strategy's row -/
theorem rule_row {m : Nat} {b : Bd} (hb : BOk m b) (p : Nat) (P : Nat → Prop) (C : Nat → Nat → Prop)
    (h : ∀ x o ws, P x → b[x]? = some (o, ws) → (o = p → ∃ w ∈ ws, P w ∧ C x w) ∧ (o ≠ p → ∀ w ∈ ws, P w ∧ C x w)) :
    ∃ row, Strat b p row ∧ ∀ x, P x → ∀ w ∈ wayN (leftB b p row) x, P w ∧ C x w := by
  have : ∀ x, ∃ w, ∀ ws, b[x]? = some (p, ws) → w ∈ ws ∧ (P x → P w ∧ C x w) := fun x => by
    cases e : b[x]? with
    | none => exact ⟨0, fun ws h => nomatch h⟩
    | some y =>
      obtain ⟨o, ws⟩ := y
      by_cases ho : o = p
      · subst ho
        by_cases hP : P x
        · obtain ⟨w, hw, h2⟩ := (h x o ws hP e).1 rfl
          exact ⟨w, fun ws2 e2 => by cases e2; exact ⟨hw, fun _ => h2⟩⟩
        · cases hws : ws with
          | nil => exact absurd hws (hb.ne _ (List.mem_of_getElem? e))
          | cons w r => exact ⟨w, fun ws2 e2 => by cases e2; exact ⟨List.mem_cons_self, fun q => absurd q hP⟩⟩
      · exact ⟨0, fun ws2 e2 => by cases e2; exact absurd rfl ho⟩
  obtain ⟨f, hf⟩ := Classical.axiomOfChoice this
  have hr : Strat b p (rowOf b p f) := rowOf_strat fun x ws e => (hf x ws e).1
  refine ⟨_, hr, fun x hP w hw => ?_⟩
  obtain ⟨o, vs, e, hv⟩ := way_at hw
  obtain ⟨ws, e2, _⟩ := left_at hr e
  rcases wayN_left hr e2 with ⟨ho, w2, hw2, hrx, h3⟩ | ⟨ho, h3⟩
  · rw [h3, List.mem_singleton] at hw
    subst hw
    rw [rowOf_get e2, if_pos ho] at hrx
    subst ho
    have := hf x ws e2
    have hw : f x = w := Option.some.inj (Option.some.inj hrx)
    rw [hw] at this
    exact this.2 hP
  · rw [h3] at hw
    exact (h x o ws hP e2).2 ho w hw
/-- both sides play their strategies: one ring is left -/
theorem both_play {m : Nat} {b : Bd} (hb : BOk m b) {row0 row1 : List (Option Nat)} (h0 : Strat b 0 row0) (h1 : Strat b 1 row1) {s : Nat} (hs : s < b.length) :
    ∃ r, IsRing (leftB b 0 row0) r ∧ IsRing (leftB b 1 row1) r ∧ Reach (leftB b 0 row0) s (r.headD 0) ∧ Reach (leftB b 1 row1) s (r.headD 0) := by
  have : ∀ x, ∃ w, x < b.length → w < b.length ∧ w ∈ wayN (leftB b 0 row0) x ∧ w ∈ wayN (leftB b 1 row1) x := fun x => by
    by_cases hx : x < b.length
    · obtain ⟨o, ws, e, hm⟩ := spot_at hx
      have ho := hb.own _ hm
      rcases wayN_left h0 e with ⟨o0, w, hw, hr, h3⟩ | ⟨o0, h3⟩
      · rcases wayN_left h1 e with ⟨o1, _⟩ | ⟨o1, h4⟩
        · dsimp only at ho; omega
        · exact ⟨w, fun _ => ⟨hb.lt _ hm _ hw, by rw [h3]; exact List.mem_singleton.mpr rfl, by rw [h4]; exact hw⟩⟩
      · rcases wayN_left h1 e with ⟨o1, w, hw, hr, h4⟩ | ⟨o1, h4⟩
        · exact ⟨w, fun _ => ⟨hb.lt _ hm _ hw, by rw [h3]; exact hw, by rw [h4]; exact List.mem_singleton.mpr rfl⟩⟩
        · dsimp only at ho; omega
    · exact ⟨0, fun h => absurd h hx⟩
  obtain ⟨f, hf⟩ := Classical.axiomOfChoice this
  have l0 := left_len h0
  have l1 := left_len h1
  obtain ⟨r, hr, hp, hst, hbk⟩ := ring_exists (b := leftB b 0 row0) f (fun x => x < b.length) s hs fun x hx => ⟨by rw [l0]; exact hx, (hf x hx).2.1, (hf x hx).1⟩
  have hlast : r.getLastD 0 ∈ r := List.mem_of_getElem? (last_get hr.ne)
  have hrr : ∀ k, itr f k s < b.length ∧ Reach (leftB b 0 row0) s (itr f k s) ∧ Reach (leftB b 1 row1) s (itr f k s) := fun k => by
    induction k with
    | zero => exact ⟨hs, .refl, .refl⟩
    | succ k ih =>
      have := hf _ ih.1
      exact ⟨this.1, ih.2.1.way this.2.1, ih.2.2.way this.2.2⟩
  have hhead : r.headD 0 ∈ r := List.mem_of_getElem? (head_get hr.ne)
  obtain ⟨_, k, hk⟩ := hp _ hhead
  refine ⟨r, hr, ⟨⟨hr.ne, hr.nd, fun x hx => by rw [l1]; exact (hp x hx).1, hr.fst, fun i x y hx hy => ?_⟩, ?_⟩, by rw [hk]; exact (hrr k).2.1, by rw [hk]; exact (hrr k).2.2⟩
  · rw [hst i x y hx hy]
    exact (hf x (hp x (List.mem_of_getElem? hx)).1).2.2
  · rw [hbk]
    exact (hf _ (hp _ hlast).1).2.2
end DL
/-! P19: again and again is decided, and agF finds it. -/
namespace DL
open PySem PySem.Spec PyProof.Rows L2
theorem mem_comes {b : Bd} {p : Nat} {goal : List Nat} {s : Nat} : s ∈ comes b p goal ↔ s < b.length ∧ near b p (drawn b p goal) s = true := by
  unfold comes onem
  rw [List.mem_filter, List.mem_range]
theorem agF_sub {b : Bd} {spots : List Nat} {x : Nat} : ∀ (k j : Nat), x ∈ agF b spots (k + j) → x ∈ agF b spots k
  | k, 0, h => h
  | k, j + 1, h => agF_sub k j (List.mem_filter.mp h).1
theorem agF_step {b : Bd} {spots : List Nat} {x k : Nat} : x ∈ agF b spots (k + 1) ↔ x ∈ agF b spots k ∧ x ∈ comes b 0 (agF b spots k) := by
  show x ∈ (agF b spots k).filter _ ↔ _
  rw [List.mem_filter, decide_eq_true_eq]
theorem att_mono {b : Bd} {p : Nat} {g h : List Nat} (hs : ∀ x ∈ g, x ∈ h) {x : Nat} (a : Att b p g x) : Att b p h x := by
  induction a with
  | goal hx hl => exact .goal (hs _ hx) hl
  | some e ho hw _ ih => exact .some e ho hw ih
  | all e ho _ ih => exact .all e ho ih
/-- from the spots found the maker comes to the given spots again and again -/
theorem again_A {m : Nat} {b : Bd} {spots : List Nat} {K s : Nat} (hb : BOk m b) (hK : Still b spots K) (hs : s ∈ drawn b 0 (agF b spots K)) : Wins b true spots 0 s := by
  have hU : ∀ x, x ∈ agF b spots K → near b 0 (drawn b 0 (agF b spots K)) x = true := fun x hx => by
    rw [← hK.1] at hx
    exact (mem_comes.mp (agF_step.mp hx).2).2
  have hUs : ∀ x, x ∈ agF b spots K → x ∈ spots := fun x hx => agF_sub 0 K (by rw [Nat.zero_add]; exact hx)
  generalize agF b spots K = U at *
  have : ∀ x, ∃ k, Att b 0 U x → known (stF b 0 U k) x = true ∧ ∀ j, j < k → known (stF b 0 U j) x = false := fun x => by
    by_cases h : Att b 0 U x
    · obtain ⟨k, h1⟩ := att_rank h
      exact ⟨k, fun _ => h1⟩
    · exact ⟨0, fun q => absurd q h⟩
  obtain ⟨rk, hrk⟩ := Classical.axiomOfChoice this
  have hlow : ∀ j w, known (stF b 0 U j) w = true → Att b 0 U w ∧ rk w ≤ j := fun j w h => by
    have ha := known_att j w h
    refine ⟨ha, Nat.le_of_not_lt fun q => ?_⟩
    rw [(hrk w ha).2 j q] at h
    cases h
  obtain ⟨row, hr, hstep⟩ := rule_row hb 0 (fun x => Att b 0 U x) (fun x w => x ∉ U → rk w < rk x) fun x o ws hP e => by
    by_cases hx : x ∈ U
    · have hn := hU x hx
      unfold near at hn
      rw [e] at hn
      dsimp only at hn
      refine ⟨fun ho => ?_, fun ho w hw => ?_⟩
      · rw [if_pos ho] at hn
        obtain ⟨w, hw, h2⟩ := List.any_eq_true.mp hn
        exact ⟨w, hw, mem_drawn.mp (of_decide_eq_true h2), fun q => absurd hx q⟩
      · rw [if_neg ho] at hn
        exact ⟨mem_drawn.mp (of_decide_eq_true (List.all_eq_true.mp hn w hw)), fun q => absurd hx q⟩
    · have h1 := hrk x hP
      rcases rank_step h1.1 h1.2 with ⟨_, h2⟩ | ⟨j, o2, ws2, hj, e2, h2, h3⟩
      · exact absurd h2 hx
      · rw [e] at e2
        cases e2
        refine ⟨fun ho => ?_, fun ho w hw => ?_⟩
        · obtain ⟨w, hw, hk⟩ := h2 ho
          have := hlow j w hk
          exact ⟨w, hw, this.1, fun _ => by omega⟩
        · have := hlow j w (h3 ho w hw)
          exact ⟨this.1, fun _ => by omega⟩
  refine ⟨row, hr, fun r hring hreach => ?_⟩
  show ∃ x ∈ r, x ∈ spots
  refine Classical.byContradiction fun hn => ?_
  have hin : ∀ x ∈ r, Att b 0 U x := fun x hx => Reach.inv _ (mem_drawn.mp hs) (fun x hP w hw => (hstep x hP w hw).1) (hring.reach hreach x hx)
  have hno : ∀ x ∈ r, x ∉ U := fun x hx h => hn ⟨x, hx, hUs x h⟩
  have hc := hring.const rk fun x hx y hy hw => Nat.le_of_lt ((hstep x (hin x hx) y hw).2 (hno x hx))
  have hhead : r.headD 0 ∈ r := List.mem_of_getElem? (head_get hring.ne)
  obtain ⟨y, hy, hw⟩ := hring.next hhead
  have h1 := (hstep _ (hin _ hhead) y hw).2 (hno _ hhead)
  have h2 := hc _ hhead y hy
  omega
/-- from the others the spoiler sees to it that the given spots come no more -/
theorem again_B {m : Nat} {b : Bd} {spots : List Nat} {K s : Nat} (hb : BOk m b) (hl : s < b.length) (hs : s ∉ drawn b 0 (agF b spots K)) : Wins b false (others b spots) 1 s := by
  have : ∀ x, ∃ k, x ∉ drawn b 0 (agF b spots K) → k ≤ K ∧ x ∉ drawn b 0 (agF b spots k) ∧ ∀ j, j < k → x ∈ drawn b 0 (agF b spots j) := fun x => by
    by_cases h : x ∈ drawn b 0 (agF b spots K)
    · exact ⟨0, fun q => absurd h q⟩
    · obtain ⟨k, h1, h2, h3⟩ := least_of (P := fun k => x ∉ drawn b 0 (agF b spots k)) K h
      exact ⟨k, fun _ => ⟨h2, h1, fun j hj => Classical.byContradiction fun q => h3 j hj q⟩⟩
  obtain ⟨rk, hrk⟩ := Classical.axiomOfChoice this
  have dmono : ∀ x k j, x ∈ drawn b 0 (agF b spots (k + j)) → x ∈ drawn b 0 (agF b spots k) := fun x k j h => mem_drawn.mpr (att_mono (fun y hy => agF_sub k j hy) (mem_drawn.mp h))
  have hlow : ∀ j w, j ≤ K → w ∉ drawn b 0 (agF b spots j) → w ∉ drawn b 0 (agF b spots K) ∧ rk w ≤ j := fun j w hj h => by
    have h1 : w ∉ drawn b 0 (agF b spots K) := fun q => h (dmono w j (K - j) (by rw [show j + (K - j) = K by omega]; exact q))
    exact ⟨h1, Nat.le_of_not_lt fun q => h ((hrk w h1).2.2 j q)⟩
  -- what is left behind at a round
  have hesc : ∀ x o ws, x < b.length → b[x]? = some (o, ws) → x ∉ drawn b 0 (agF b spots K) → ∃ j, j ≤ rk x ∧ (x ∈ spots → j < rk x) ∧ (o = 0 → ∀ w ∈ ws, w ∉ drawn b 0 (agF b spots j)) ∧ (o ≠ 0 → ∃ w ∈ ws, w ∉ drawn b 0 (agF b spots j)) := fun x o ws hx e hout => by
    obtain ⟨h1, h2, h3⟩ := hrk x hout
    by_cases hsp : x ∈ spots
    · have hU : x ∉ agF b spots (rk x) := fun q => h2 (mem_drawn.mpr (.goal q hx))
      obtain ⟨n, hn1, hn2, hn3⟩ := least_of (P := fun k => x ∉ agF b spots k) (rk x) hU
      cases n with
      | zero => exact absurd hsp hn1
      | succ j =>
        have hj : x ∈ agF b spots j := Classical.byContradiction fun q => hn3 j (Nat.lt_succ_self j) q
        have hnc : near b 0 (drawn b 0 (agF b spots j)) x = false := by
          cases q : near b 0 (drawn b 0 (agF b spots j)) x with
          | false => rfl
          | true => exact absurd (agF_step.mpr ⟨hj, mem_comes.mpr ⟨hx, q⟩⟩) hn1
        unfold near at hnc
        rw [e] at hnc
        dsimp only at hnc
        refine ⟨j, by omega, fun _ => by omega, fun ho w hw q => ?_, fun ho => ?_⟩
        · rw [if_pos ho, List.any_eq_false] at hnc
          exact hnc w hw (decide_eq_true q)
        · rw [if_neg ho, List.all_eq_false] at hnc
          obtain ⟨w, hw, h⟩ := hnc
          exact ⟨w, hw, fun q => h (decide_eq_true q)⟩
    · refine ⟨rk x, Nat.le_refl _, fun q => absurd q hsp, fun ho w hw q => ?_, fun ho => ?_⟩
      · exact h2 (mem_drawn.mpr (.some e ho hw (mem_drawn.mp q)))
      · exact Classical.byContradiction fun hn => h2 (mem_drawn.mpr (.all e ho fun w hw => Classical.byContradiction fun q => hn ⟨w, hw, fun z => q (mem_drawn.mp z)⟩))
  obtain ⟨row, hr, hstep⟩ := rule_row hb 1 (fun x => x < b.length ∧ x ∉ drawn b 0 (agF b spots K)) (fun x w => rk w ≤ rk x ∧ (x ∈ spots → rk w < rk x)) fun x o ws hP e => by
    obtain ⟨j, hj1, hj2, h3, h4⟩ := hesc x o ws hP.1 e hP.2
    have hm := List.mem_of_getElem? e
    have hjK : j ≤ K := by have := (hrk x hP.2).1; omega
    have fin : ∀ w ∈ ws, w ∉ drawn b 0 (agF b spots j) → (w < b.length ∧ w ∉ drawn b 0 (agF b spots K)) ∧ rk w ≤ rk x ∧ (x ∈ spots → rk w < rk x) := fun w hw h => by
      obtain ⟨h5, h6⟩ := hlow j w hjK h
      exact ⟨⟨hb.lt _ hm w hw, h5⟩, by omega, fun q => by have := hj2 q; omega⟩
    refine ⟨fun ho => ?_, fun ho w hw => ?_⟩
    · obtain ⟨w, hw, h⟩ := h4 (by omega)
      exact ⟨w, hw, fin w hw h⟩
    · have ho0 : o = 0 := by have := hb.own _ hm; dsimp only at this; omega
      exact fin w hw (h3 ho0 w hw)
  refine ⟨row, hr, fun r hring hreach => ?_⟩
  show ∀ x ∈ r, x ∈ others b spots
  have hin : ∀ x ∈ r, x < b.length ∧ x ∉ drawn b 0 (agF b spots K) := fun x hx => Reach.inv _ ⟨hl, hs⟩ (fun x hP w hw => (hstep x hP w hw).1) (hring.reach hreach x hx)
  have hc := hring.const rk fun x hx y hy hw => (hstep x (hin x hx) y hw).2.1
  intro x hx
  refine mem_others.mpr ⟨(hin x hx).1, fun hsp => ?_⟩
  obtain ⟨y, hy, hw⟩ := hring.next hx
  have h1 := (hstep x (hin x hx) y hw).2.2 hsp
  have h2 := hc x hx y hy
  omega
/-- not both -/
theorem again_C {m : Nat} {b : Bd} {spots : List Nat} {s : Nat} (hb : BOk m b) (hs : s < b.length) (h0 : Wins b true spots 0 s) (h1 : Wins b false (others b spots) 1 s) : False := by
  obtain ⟨row0, r0, g0⟩ := h0
  obtain ⟨row1, r1, g1⟩ := h1
  obtain ⟨r, i0, i1, c0, c1⟩ := both_play hb r0 r1 hs
  obtain ⟨x, hx, hsp⟩ : ∃ x ∈ r, x ∈ spots := g0 r i0 c0
  have h2 : ∀ x ∈ r, x ∈ others b spots := g1 r i1 c1
  exact (mem_others.mp (h2 x hx)).2 hsp
theorem again_wins_eq {m : Nat} {b : Bd} {spots A : List Nat} (hb : BOk m b) (h : AgainIs b spots A) : winsL b true spots 0 = A ∧ winsL b false (others b spots) 1 = others b A := by
  obtain ⟨K, hK, rfl⟩ := h
  constructor
  · unfold winsL drawn
    refine List.filter_congr fun s hs => ?_
    have hl := List.mem_range.mp hs
    rw [decide_eq_decide]
    constructor
    · intro hw
      refine Classical.byContradiction fun hn => ?_
      exact again_C hb hl hw (again_B hb hl fun q => hn (mem_drawn.mp q))
    · intro ha
      exact again_A hb hK (mem_drawn.mpr ha)
  · unfold winsL others
    refine List.filter_congr fun s hs => ?_
    have hl := List.mem_range.mp hs
    rw [← decide_not, decide_eq_decide]
    constructor
    · intro hw ha
      exact again_C hb hl (again_A hb hK ha) hw
    · intro hn
      exact again_B hb hl hn
/-! ### the turned board -/
theorem turned_get {b : Bd} {x : Nat} : (turned b)[x]? = (b[x]?).map fun s => (1 - s.1, s.2) := by unfold turned; rw [List.getElem?_map]
theorem turned_way {b : Bd} {x : Nat} : wayN (turned b) x = wayN b x := by
  unfold wayN
  rw [turned_get]
  cases b[x]? <;> rfl
theorem turned_ok {m : Nat} {b : Bd} (hb : BOk m b) : BOk m (turned b) := by
  refine ⟨by rw [turned_len]; exact hb.pos, by rw [turned_len]; exact hb.le, ?_, ?_, ?_, ?_, ?_⟩ <;> intro s hs <;> obtain ⟨x, hx, rfl⟩ := List.mem_map.mp hs
  · show 1 - x.1 < 2; omega
  · exact hb.ne x hx
  · exact hb.ln x hx
  · exact hb.inc x hx
  · rw [turned_len]; exact hb.lt x hx
theorem turned_turned {b : Bd} (h : ∀ s ∈ b, s.1 < 2) : turned (turned b) = b := by
  unfold turned
  rw [List.map_map]
  conv => rhs; rw [← List.map_id b]
  refine List.map_congr_left fun s hs => ?_
  have := h s hs
  obtain ⟨o, ws⟩ := s
  show (1 - (1 - o), ws) = (o, ws)
  dsimp only at this
  rw [show 1 - (1 - o) = o by omega]
theorem others_turned {b : Bd} {spots : List Nat} : others (turned b) spots = others b spots := by unfold others; rw [turned_len]
theorem ring_way {b c : Bd} {r : List Nat} (hl : c.length = b.length) (hw : ∀ x, wayN c x = wayN b x) (h : IsRing b r) : IsRing c r :=
  ⟨⟨h.ne, h.nd, fun x hx => by rw [hl]; exact h.lt x hx, h.fst, fun i x y hx hy => by rw [hw]; exact h.way i x y hx hy⟩, by rw [hw]; exact h.back⟩
theorem reach_way {b c : Bd} {s x : Nat} (hw : ∀ x, wayN c x = wayN b x) (h : Reach b s x) : Reach c s x := by
  induction h with
  | refl => exact .refl
  | step _ e h ih => exact ih.way (by rw [hw, wayN_of e]; exact h)
theorem good_way {b c : Bd} {k : Bool} {S T : List Nat} {s : Nat} (hl : c.length = b.length) (hw : ∀ x, wayN c x = wayN b x) (hST : ∀ x, x < b.length → (x ∈ S ↔ x ∈ T)) (h : Good b k S s) : Good c k T s := fun r hr hre => by
  have h1 := ring_way (b := c) (c := b) hl.symm (fun x => (hw x).symm) hr
  have h2 := h r h1 (reach_way (fun x => (hw x).symm) hre)
  cases k with
  | true =>
    obtain ⟨x, hx, hs⟩ : ∃ x ∈ r, x ∈ S := h2
    exact ⟨x, hx, (hST x (h1.lt x hx)).mp hs⟩
  | false =>
    have h3 : ∀ x ∈ r, x ∈ S := h2
    exact fun x hx => (hST x (h1.lt x hx)).mp (h3 x hx)
theorem strat_turn {b : Bd} {p : Nat} {row : List (Option Nat)} (ho : ∀ s ∈ b, s.1 < 2) (hp : p < 2) (h : Strat b p row) : Strat (turned b) (1 - p) row := by
  refine ⟨by rw [turned_len]; exact h.1, fun j o ws hj e => ?_⟩
  rw [turned_len] at hj
  rw [turned_get] at e
  obtain ⟨⟨o', ws'⟩, e1, e2⟩ := Option.map_eq_some_iff.mp e
  cases e2
  have h1 := ho _ (List.mem_of_getElem? e1)
  dsimp only at h1
  have h2 := h.2 j o' ws' hj e1
  exact ⟨fun q => h2.1 (by dsimp only at q; omega), fun q => h2.2 (by dsimp only at q; omega)⟩
theorem left_turn {b : Bd} {p : Nat} {row : List (Option Nat)} (ho : ∀ s ∈ b, s.1 < 2) (hp : p < 2) (h : Strat b p row) (x : Nat) : wayN (leftB (turned b) (1 - p) row) x = wayN (leftB b p row) x := by
  cases e : b[x]? with
  | none =>
    have h1 : (leftB b p row)[x]? = none := by
      rw [List.getElem?_eq_none_iff, left_len h]
      exact List.getElem?_eq_none_iff.mp e
    have h2 : (leftB (turned b) (1 - p) row)[x]? = none := by
      rw [List.getElem?_eq_none_iff, left_len (strat_turn ho hp h), turned_len]
      exact List.getElem?_eq_none_iff.mp e
    unfold wayN
    rw [h1, h2]
  | some y =>
    obtain ⟨o, ws⟩ := y
    have h1 := ho _ (List.mem_of_getElem? e)
    dsimp only at h1
    have e2 : (turned b)[x]? = some (1 - o, ws) := by rw [turned_get, e]; rfl
    have hx : x < row.length := by rw [h.1]; exact (List.getElem?_eq_some_iff.mp e).1
    have h3 := left_get (p := p) e (List.getElem?_eq_getElem hx)
    have h4 := left_get (p := 1 - p) e2 (List.getElem?_eq_getElem hx)
    rw [wayN_of h3, wayN_of h4]
    by_cases q : o = p
    · rw [if_pos q, if_pos (by omega)]
    · rw [if_neg q, if_neg (by omega)]
theorem wins_turn {b : Bd} {k : Bool} {S T : List Nat} {p s : Nat} (ho : ∀ s ∈ b, s.1 < 2) (hp : p < 2) (hST : ∀ x, x < b.length → (x ∈ S ↔ x ∈ T)) (h : Wins b k S p s) : Wins (turned b) k T (1 - p) s := by
  obtain ⟨row, hr, hg⟩ := h
  have hr2 := strat_turn ho hp hr
  exact ⟨row, hr2, good_way (by rw [left_len hr2, left_len hr, turned_len]) (left_turn ho hp hr) (fun x hx => by rw [left_len hr] at hx; exact hST x hx) hg⟩
theorem winsL_turn {b : Bd} {k : Bool} {S T : List Nat} {p : Nat} (ho : ∀ s ∈ b, s.1 < 2) (hp : p < 2) (hST : ∀ x, x < b.length → (x ∈ S ↔ x ∈ T)) : winsL (turned b) k T (1 - p) = winsL b k S p := by
  unfold winsL
  rw [turned_len]
  refine List.filter_congr fun s hs => ?_
  rw [decide_eq_decide]
  refine ⟨fun h => ?_, fun h => wins_turn ho hp hST h⟩
  have := wins_turn (b := turned b) (p := 1 - p) (S := T) (T := S) (fun s hs => by obtain ⟨x, hx, rfl⟩ := List.mem_map.mp hs; show 1 - x.1 < 2; omega) (by omega) (fun x hx => by rw [turned_len] at hx; exact (hST x hx).symm) h
  rwa [turned_turned ho, show 1 - (1 - p) = p by omega] at this
theorem others_others {b : Bd} {spots : List Nat} {x : Nat} (hx : x < b.length) : x ∈ spots ↔ x ∈ others b (others b spots) := by
  rw [mem_others, mem_others]
  exact ⟨fun h => ⟨hx, fun q => q.2 h⟩, fun h => Classical.byContradiction fun q => h.2 ⟨hx, q⟩⟩
theorem atlast_wins_eq {m : Nat} {b : Bd} {spots W : List Nat} (hb : BOk m b) (h : AtlastIs b spots W) : winsL b false spots 0 = W := by
  obtain ⟨V, hV, rfl⟩ := h
  have h1 := (again_wins_eq (turned_ok hb) hV).2
  rw [others_turned, others_turned] at h1
  rw [← h1, show (1 : Nat) = 1 - 0 from rfl]
  exact (winsL_turn hb.own (by omega) fun x hx => others_others hx).symm
theorem others_back {b : Bd} {c : Nat → Bool} : others b (others b ((List.range b.length).filter c)) = (List.range b.length).filter c := by
  unfold others
  refine List.filter_congr fun s hs => ?_
  rw [Bool.eq_iff_iff]
  simp only [Bool.not_eq_true', decide_eq_false_iff_not, List.mem_filter, decide_eq_true_eq]
  constructor
  · intro h
    exact Classical.byContradiction fun q => h ⟨hs, fun z => q z.2⟩
  · intro h z
    exact z.2 ⟨hs, h⟩
end DL
/-! P20: values that may be none: the best of the ways. -/
namespace DL
open PySem PySem.Spec PyProof.Rows L2
def pick (o : Nat) (near : List (Option Nat)) : Option Nat :=
  if near.filterMap id = [] ∨ (o = 1 ∧ (near.filterMap id).length < near.length) then none else if o = 0 then (near.filterMap id).min? else (near.filterMap id).max?
theorem mem_known {near : List (Option Nat)} {v : Nat} : v ∈ near.filterMap id ↔ some v ∈ near := by
  rw [List.mem_filterMap]
  exact ⟨fun ⟨a, h, e⟩ => by rw [show a = some v from e] at h; exact h, fun h => ⟨_, h, rfl⟩⟩
theorem known_all {near : List (Option Nat)} (h : ∀ x ∈ near, x ≠ none) : (near.filterMap id).length = near.length := by
  induction near with
  | nil => rfl
  | cons a r ih =>
    cases a with
    | none => exact absurd rfl (h none List.mem_cons_self)
    | some v =>
      rw [List.filterMap_cons]
      show (_ :: _).length = _
      rw [List.length_cons, List.length_cons, ih fun x hx => h x (List.mem_cons_of_mem _ hx)]
theorem pick0 {near : List (Option Nat)} {v : Nat} : pick 0 near = some v ↔ some v ∈ near ∧ ∀ u, some u ∈ near → v ≤ u := by
  unfold pick
  by_cases h : near.filterMap id = []
  · rw [if_pos (.inl h)]
    refine ⟨(fun h => nomatch h), fun ⟨h1, _⟩ => ?_⟩
    have := mem_known.mpr h1
    rw [h] at this
    cases this
  · rw [if_neg (fun z => z.elim h fun z => by omega), if_pos rfl, List.min?_eq_some_iff, mem_known]
    exact ⟨fun ⟨h1, h2⟩ => ⟨h1, fun u hu => h2 u (mem_known.mpr hu)⟩, fun ⟨h1, h2⟩ => ⟨h1, fun u hu => h2 u (mem_known.mp hu)⟩⟩
theorem pick1 {near : List (Option Nat)} {v : Nat} : pick 1 near = some v ↔ (∀ x ∈ near, x ≠ none) ∧ some v ∈ near ∧ ∀ u, some u ∈ near → u ≤ v := by
  unfold pick
  by_cases h : near.filterMap id = []
  · rw [if_pos (.inl h)]
    refine ⟨(fun h => nomatch h), fun ⟨_, h1, _⟩ => ?_⟩
    have := mem_known.mpr h1
    rw [h] at this
    cases this
  by_cases hl : (near.filterMap id).length < near.length
  · rw [if_pos (.inr ⟨rfl, hl⟩)]
    refine ⟨(fun h => nomatch h), fun ⟨h1, _, _⟩ => ?_⟩
    rw [known_all h1] at hl
    omega
  · rw [if_neg (fun z => z.elim h fun z => hl z.2), if_neg (by omega), List.max?_eq_some_iff, mem_known]
    have : ∀ x ∈ near, x ≠ none := fun x hx e => hl (fm_lt ⟨x, hx, e⟩)
    exact ⟨fun ⟨h1, h2⟩ => ⟨this, h1, fun u hu => h2 u (mem_known.mpr hu)⟩, fun ⟨_, h1, h2⟩ => ⟨h1, fun u hu => h2 u (mem_known.mp hu)⟩⟩
theorem pick0_ex {near : List (Option Nat)} {y : Nat} (h : some y ∈ near) : ∃ u, u ≤ y ∧ pick 0 near = some u := by
  cases e : (near.filterMap id).min? with
  | none =>
    rw [List.min?_eq_none_iff] at e
    have := mem_known.mpr h
    rw [e] at this
    cases this
  | some m =>
    obtain ⟨h1, h2⟩ := List.min?_eq_some_iff.mp e
    exact ⟨m, h2 y (mem_known.mpr h), pick0.mpr ⟨mem_known.mp h1, fun u hu => h2 u (mem_known.mpr hu)⟩⟩
theorem pick1_ex {near : List (Option Nat)} {b : Nat} (hne : near ≠ []) (h : ∀ x ∈ near, ∃ y, y ≤ b ∧ x = some y) : ∃ u, u ≤ b ∧ pick 1 near = some u := by
  cases e : (near.filterMap id).max? with
  | none =>
    rw [List.max?_eq_none_iff] at e
    cases hn : near with
    | nil => exact absurd hn hne
    | cons a r =>
      obtain ⟨y, _, hy⟩ := h a (by rw [hn]; exact List.mem_cons_self)
      have : y ∈ near.filterMap id := mem_known.mpr (by rw [hn, hy]; exact List.mem_cons_self)
      rw [e] at this
      cases this
  | some m =>
    obtain ⟨h1, h2⟩ := List.max?_eq_some_iff.mp e
    obtain ⟨y, hy, e2⟩ := h _ (mem_known.mp h1)
    cases e2
    exact ⟨m, hy, pick1.mpr ⟨fun x hx z => (by obtain ⟨y, _, e⟩ := h x hx; rw [z] at e; cases e), mem_known.mp h1, fun u hu => h2 u (mem_known.mpr hu)⟩⟩
theorem pick_cmp {o : Nat} (ho : o < 2) {ws : List Nat} (hne : ws ≠ []) {f f' : Nat → Option Nat} {u' : Nat} (h : ∀ w ∈ ws, ∀ x, f' w = some x → x ≤ u' → ∃ y, y ≤ x ∧ f w = some y) (e : pick o (ws.map f') = some u') : ∃ u, u ≤ u' ∧ pick o (ws.map f) = some u := by
  rcases (show o = 0 ∨ o = 1 by omega) with rfl | rfl
  · obtain ⟨h1, _⟩ := pick0.mp e
    obtain ⟨w, hw, h2⟩ := List.mem_map.mp h1
    obtain ⟨y, hy, h3⟩ := h w hw u' h2 (Nat.le_refl _)
    obtain ⟨u, hu, h4⟩ := pick0_ex (near := ws.map f) (y := y) (List.mem_map.mpr ⟨w, hw, h3⟩)
    exact ⟨u, by omega, h4⟩
  · obtain ⟨h1, _, h2⟩ := pick1.mp e
    refine pick1_ex (fun z => hne (List.map_eq_nil_iff.mp z)) fun x hx => ?_
    obtain ⟨w, hw, rfl⟩ := List.mem_map.mp hx
    cases q : f' w with
    | none => exact absurd q (h1 _ (List.mem_map.mpr ⟨w, hw, rfl⟩))
    | some z =>
      have hz := h2 z (List.mem_map.mpr ⟨w, hw, q⟩)
      obtain ⟨y, hy, h3⟩ := h w hw z q hz
      exact ⟨y, by omega, h3⟩
theorem pick_mem {o v : Nat} {near : List (Option Nat)} (h : pick o near = some v) : some v ∈ near := by
  unfold pick at h
  split at h
  · cases h
  · split at h
    · exact mem_known.mp (List.min?_eq_some_iff.mp h).1
    · exact mem_known.mp (List.max?_eq_some_iff.mp h).1
theorem pick_map {φ : Nat → Nat} (hφ : ∀ a b, a ≤ b → φ a ≤ φ b) (o : Nat) (near : List (Option Nat)) : pick o (near.map (Option.map φ)) = (pick o near).map φ := by
  have e : (near.map (Option.map φ)).filterMap id = (near.filterMap id).map φ := by
    rw [List.filterMap_map, List.map_filterMap]; rfl
  unfold pick
  rw [e, List.length_map, List.length_map]
  by_cases h : near.filterMap id = [] ∨ (o = 1 ∧ (near.filterMap id).length < near.length)
  · rw [if_pos h, if_pos (h.imp (fun z => by rw [z]; rfl) id)]; rfl
  · rw [if_neg h, if_neg (fun z => h (z.imp List.map_eq_nil_iff.mp id))]
    have hne : near.filterMap id ≠ [] := fun z => h (.inl z)
    by_cases ho : o = 0
    · rw [if_pos ho, if_pos ho]
      cases q : (near.filterMap id).min? with
      | none => exact absurd (List.min?_eq_none_iff.mp q) hne
      | some m =>
        obtain ⟨h1, h2⟩ := List.min?_eq_some_iff.mp q
        refine List.min?_eq_some_iff.mpr ⟨List.mem_map.mpr ⟨m, h1, rfl⟩, fun b hb => ?_⟩
        obtain ⟨c, hc, rfl⟩ := List.mem_map.mp hb
        exact hφ _ _ (h2 c hc)
    · rw [if_neg ho, if_neg ho]
      cases q : (near.filterMap id).max? with
      | none => exact absurd (List.max?_eq_none_iff.mp q) hne
      | some m =>
        obtain ⟨h1, h2⟩ := List.max?_eq_some_iff.mp q
        refine List.max?_eq_some_iff.mpr ⟨List.mem_map.mpr ⟨m, h1, rfl⟩, fun b hb => ?_⟩
        obtain ⟨c, hc, rfl⟩ := List.mem_map.mp hb
        exact hφ _ _ (h2 c hc)
/-! ### the built-ins -/
theorem allInts_n (l : List Nat) : allInts (l.map nI) = some (l.map fun (n : Nat) => (n : Int)) := by
  induction l with
  | nil => rfl
  | cons a r ih =>
    rw [List.map_cons, List.map_cons]
    show (allInts (r.map nI)).map _ = _
    rw [ih]; rfl
theorem b_minN {l : List Nat} {m : Nat} (h : l.min? = some m) : B1.run .min [.list (l.map nI)] = some (nI m) := by
  obtain ⟨h1, h2⟩ := List.min?_eq_some_iff.mp h
  show ((allInts (l.map nI)).bind fun ns => (minI ns).map PyData.int) = _
  rw [allInts_n, Option.bind_some, minI_of (m := (m : Int)) (List.mem_map.mpr ⟨m, h1, rfl⟩) fun y hy => by
    obtain ⟨c, hc, rfl⟩ := List.mem_map.mp hy
    have := h2 c hc
    omega]
  rfl
theorem b_maxN {l : List Nat} {m : Nat} (h : l.max? = some m) : B1.run .max [.list (l.map nI)] = some (nI m) := by
  obtain ⟨h1, h2⟩ := List.max?_eq_some_iff.mp h
  show ((allInts (l.map nI)).bind fun ns => (maxI ns).map PyData.int) = _
  rw [allInts_n, Option.bind_some, maxI_of (m := (m : Int)) (List.mem_map.mpr ⟨m, h1, rfl⟩) fun y hy => by
    obtain ⟨c, hc, rfl⟩ := List.mem_map.mp hy
    have := h2 c hc
    omega]
  rfl
/-! ### comparing values that may be none -/
theorem Sh.oD (o : Option Nat) : Sh 0 (oD o) := by cases o; exact .non; exact .nI _
theorem Sh.oT (f : List (Option Nat)) : Sh 1 (oT f) := Sh.tup fun x h => by
  obtain ⟨n, _, rfl⟩ := List.mem_map.mp h
  exact Sh.oD n
theorem eqv_oD (a b : Option Nat) : PyData.eqv (oD a) (oD b) = decide (a = b) := by
  cases a with
  | none =>
    cases b with
    | none => show PyData.eqv .none .none = _; unfold PyData.eqv; rfl
    | some b => show PyData.eqv .none (nI b) = _; unfold nI PyData.eqv; rfl
  | some a =>
    cases b with
    | none => show PyData.eqv (nI a) .none = _; unfold nI PyData.eqv; rfl
    | some b =>
      show PyData.eqv (nI a) (nI b) = _
      rw [eqv_nI, decide_eq_decide]
      exact ⟨fun h => h ▸ rfl, fun h => Option.some.inj h⟩
theorem eqvAll_o : ∀ a b : List (Option Nat), PyData.eqvAll (a.map DL.oD) (b.map DL.oD) = decide (a = b)
  | [], [] => by show PyData.eqvAll [] [] = _; unfold PyData.eqvAll; rfl
  | [], _ :: _ => by rw [List.map_cons]; show PyData.eqvAll [] (_ :: _) = _; unfold PyData.eqvAll; rfl
  | _ :: _, [] => by rw [List.map_cons]; show PyData.eqvAll (_ :: _) [] = _; unfold PyData.eqvAll; rfl
  | x :: a, y :: b => by
    rw [List.map_cons, List.map_cons]
    unfold PyData.eqvAll
    rw [eqv_oD, eqvAll_o a b, Bool.eq_iff_iff]
    simp
theorem eqv_oT (a b : List (Option Nat)) : PyData.eqv (oT a) (oT b) = decide (a = b) := by
  unfold oT PyData.eqv
  exact eqvAll_o a b
theorem eq_oT (a b : List (Option Nat)) : O2.run .eq (oT a) (oT b) = some (.bool (decide (a = b))) := by
  show (if (shp (oT a) && shp (oT b)) = true then some (PyData.bool (PyData.eqv (oT a) (oT b))) else none) = _
  rw [if_pos (by rw [Bool.and_eq_true]; exact ⟨(Sh.oT a).shp (by omega), (Sh.oT b).shp (by omega)⟩), eqv_oT]
theorem ne_oT (a b : List (Option Nat)) : O2.run .ne (oT a) (oT b) = some (.bool (!decide (a = b))) := by
  show (if (shp (oT a) && shp (oT b)) = true then some (PyData.bool (!PyData.eqv (oT a) (oT b))) else none) = _
  rw [if_pos (by rw [Bool.and_eq_true]; exact ⟨(Sh.oT a).shp (by omega), (Sh.oT b).shp (by omega)⟩), eqv_oT]
theorem eq_oD (a b : Option Nat) : O2.run .eq (oD a) (oD b) = some (.bool (decide (a = b))) := by
  show (if (bothS (oD a) (oD b) || (shp (oD a) && shp (oD b))) = true then some (PyData.bool (PyData.eqv (oD a) (oD b))) else none) = _
  rw [show bothS (oD a) (oD b) = false from by cases a <;> cases b <;> rfl, Bool.false_or]
  rw [if_pos (by rw [Bool.and_eq_true]; exact ⟨(Sh.oD a).shp (by omega), (Sh.oD b).shp (by omega)⟩), eqv_oD]
theorem ne_oD (a b : Option Nat) : O2.run .ne (oD a) (oD b) = some (.bool (!decide (a = b))) := by
  show (if (bothS (oD a) (oD b) || (shp (oD a) && shp (oD b))) = true then some (PyData.bool (!PyData.eqv (oD a) (oD b))) else none) = _
  rw [show bothS (oD a) (oD b) = false from by cases a <;> cases b <;> rfl, Bool.false_or]
  rw [if_pos (by rw [Bool.and_eq_true]; exact ⟨(Sh.oD a).shp (by omega), (Sh.oD b).shp (by omega)⟩), eqv_oD]
end DL
/-! P21: tolls, the mathematics. -/
namespace DL
open PySem PySem.Spec PyProof.Rows L2
def tollV (b : Bd) (t goal : List Nat) (f : List (Option Nat)) (s : Nat) : Option Nat :=
  if s ∈ goal then some 0 else match b[s]? with
  | some (o, ws) => (pick o (ws.map fun w => f.getD w none)).map fun u => t.getD s 0 + u
  | none => none
def after (b : Bd) (t goal : List Nat) (f : List (Option Nat)) : List (Option Nat) := (List.range b.length).map (tollV b t goal f)
def tollIt (b : Bd) (t goal : List Nat) : Nat → List (Option Nat)
  | 0 => (List.range b.length).map fun s => if s ∈ goal then some 0 else none
  | k + 1 => after b t goal (tollIt b t goal k)
def TFix (b : Bd) (t goal : List Nat) (f : List (Option Nat)) : Prop := f.length = b.length ∧ after b t goal f = f
theorem after_len (b : Bd) (t goal : List Nat) (f : List (Option Nat)) : (after b t goal f).length = b.length := by unfold after; rw [List.length_map, List.length_range]
theorem tollIt_len (b : Bd) (t goal : List Nat) (k : Nat) : (tollIt b t goal k).length = b.length := by
  cases k with
  | zero => unfold tollIt; rw [List.length_map, List.length_range]
  | succ k => exact after_len ..
theorem map_getD {n s : Nat} {g : Nat → Option Nat} (h : s < n) : ((List.range n).map g).getD s none = g s := by
  rw [List.getD_eq_getElem?_getD, List.getElem?_map, List.getElem?_range h]; rfl
theorem map_getD_no {n s : Nat} {g : Nat → Option Nat} (h : ¬ s < n) : ((List.range n).map g).getD s none = none := by
  rw [List.getD_eq_getElem?_getD, List.getElem?_eq_none (by rw [List.length_map, List.length_range]; omega)]; rfl
theorem after_get {b : Bd} {t goal : List Nat} {f : List (Option Nat)} {s : Nat} (h : s < b.length) : (after b t goal f).getD s none = tollV b t goal f s := map_getD h
theorem TFix.at {b : Bd} {t goal : List Nat} {f : List (Option Nat)} (hf : TFix b t goal f) {s : Nat} (h : s < b.length) : f.getD s none = tollV b t goal f s := by
  rw [← after_get h, hf.2]
theorem tollV_goal {b : Bd} {t goal : List Nat} {f : List (Option Nat)} {s : Nat} (h : s ∈ goal) : tollV b t goal f s = some 0 := by unfold tollV; rw [if_pos h]
theorem tollV_not {b : Bd} {t goal : List Nat} {f : List (Option Nat)} {s o : Nat} {ws : List Nat} (h : s ∉ goal) (e : b[s]? = some (o, ws)) : tollV b t goal f s = (pick o (ws.map fun w => f.getD w none)).map fun u => t.getD s 0 + u := by
  unfold tollV; rw [if_neg h, e]
/-- what is not less than itself by its ways is not less than a fixed point -/
theorem toll_cmp {m : Nat} {b : Bd} (hb : BOk m b) {t goal : List Nat} {f : List (Option Nat)} (hf : TFix b t goal f) {t' : Nat → Nat} {goal' : List Nat} {f' : Nat → Option Nat}
    (h1 : ∀ s, s < b.length → 1 ≤ t' s ∧ t.getD s 0 ≤ t' s) (hg : ∀ s ∈ goal', s ∈ goal)
    (h' : ∀ s v, s < b.length → f' s = some v → s ∈ goal' ∨ ∃ o ws u, b[s]? = some (o, ws) ∧ pick o (ws.map f') = some u ∧ u + t' s ≤ v) :
    ∀ v s, s < b.length → f' s = some v → ∃ u, u ≤ v ∧ f.getD s none = some u := fun v => by
  induction v using Nat.strongRecOn with
  | ind v ih =>
    intro s hs e
    by_cases hsg : s ∈ goal
    · exact ⟨0, Nat.zero_le _, by rw [hf.at hs, tollV_goal hsg]⟩
    · rcases h' s v hs e with hg' | ⟨o, ws, u, e1, e2, hu⟩
      · exact absurd (hg s hg') hsg
      · have hm := List.mem_of_getElem? e1
        have h1s := h1 s hs
        obtain ⟨u2, hu2, e3⟩ := pick_cmp (hb.own _ hm) (hb.ne _ hm) (f := fun w => f.getD w none) (fun w hw x hx hxu => ih x (by omega) w (hb.lt _ hm w hw) hx) e2
        refine ⟨t.getD s 0 + u2, by omega, ?_⟩
        rw [hf.at hs, tollV_not hsg e1, e3]; rfl
theorem TFix.post {b : Bd} {t goal : List Nat} {f : List (Option Nat)} (hf : TFix b t goal f) {s v : Nat} (hs : s < b.length) (e : f.getD s none = some v) : s ∈ goal ∨ ∃ o ws u, b[s]? = some (o, ws) ∧ pick o (ws.map fun w => f.getD w none) = some u ∧ u + t.getD s 0 ≤ v := by
  by_cases hsg : s ∈ goal
  · exact .inl hsg
  · obtain ⟨o, ws, e1, hm⟩ := spot_at hs
    rw [hf.at hs, tollV_not hsg e1] at e
    obtain ⟨u, h2, h3⟩ := Option.map_eq_some_iff.mp e
    exact .inr ⟨o, ws, u, e1, h2, by omega⟩
theorem list_ext_getD {f g : List (Option Nat)} (hl : f.length = g.length) (h : ∀ s, s < f.length → f.getD s none = g.getD s none) : f = g := by
  apply List.ext_getElem hl
  intro i h1 h2
  have := h i h1
  rw [List.getD_eq_getElem?_getD, List.getD_eq_getElem?_getD, List.getElem?_eq_getElem h1, List.getElem?_eq_getElem h2] at this
  exact this
/-- with tolls from one on there is one fixed point -/
theorem toll_uniq {m : Nat} {b : Bd} (hb : BOk m b) {t goal : List Nat} {f g : List (Option Nat)} (ht : ∀ s, s < b.length → 1 ≤ t.getD s 0) (hf : TFix b t goal f) (hg : TFix b t goal g) : f = g := by
  have h : ∀ {f g : List (Option Nat)}, TFix b t goal f → TFix b t goal g → ∀ v s, s < b.length → g.getD s none = some v → ∃ u, u ≤ v ∧ f.getD s none = some u := fun {f g} hf hg =>
    toll_cmp hb hf (t' := fun s => t.getD s 0) (goal' := goal) (f' := fun s => g.getD s none) (fun s hs => ⟨ht s hs, Nat.le_refl _⟩) (fun s h => h) fun s v hs e => hg.post hs e
  refine list_ext_getD (by rw [hf.1, hg.1]) fun s hs => ?_
  rw [hf.1] at hs
  cases e1 : f.getD s none with
  | none =>
    cases e2 : g.getD s none with
    | none => rfl
    | some v =>
      obtain ⟨u, _, e3⟩ := h hf hg v s hs e2
      rw [e1] at e3; cases e3
  | some u =>
    obtain ⟨v, h1, e2⟩ := h hg hf u s hs e1
    obtain ⟨u', h2, e3⟩ := h hf hg v s hs e2
    rw [e1] at e3; cases e3
    rw [e2, show v = u by omega]
/-- who is known: the drawn spots -/
theorem toll_att {m : Nat} {b : Bd} (hb : BOk m b) {t goal : List Nat} {f : List (Option Nat)} (ht : ∀ s, s < b.length → 1 ≤ t.getD s 0) (hf : TFix b t goal f) {s : Nat} (hs : s < b.length) : f.getD s none ≠ none ↔ Att b 0 goal s := by
  constructor
  · intro h
    cases e : f.getD s none with
    | none => exact absurd e h
    | some v =>
      clear h
      induction v using Nat.strongRecOn generalizing s with
      | ind v ih =>
        rcases hf.post hs e with hg | ⟨o, ws, u, e1, e2, hu⟩
        · exact .goal hg hs
        · have hm := List.mem_of_getElem? e1
          have h1 := ht s hs
          rcases (show o = 0 ∨ o = 1 by have := hb.own _ hm; dsimp only at this; omega) with rfl | rfl
          · obtain ⟨w, hw, e3⟩ := List.mem_map.mp (pick_mem e2)
            exact .some e1 rfl hw (ih u (by omega) (hb.lt _ hm w hw) e3)
          · obtain ⟨h3, _, h4⟩ := pick1.mp e2
            refine .all e1 (by omega) fun w hw => ?_
            cases e4 : f.getD w none with
            | none => exact absurd e4 (h3 _ (List.mem_map.mpr ⟨w, hw, rfl⟩))
            | some x =>
              have := h4 x (List.mem_map.mpr ⟨w, hw, e4⟩)
              exact ih x (by omega) (hb.lt _ hm w hw) e4
  · intro a
    induction a with
    | goal hg hl => rw [hf.at hl, tollV_goal hg]; exact fun z => nomatch z
    | @some s o w ws e ho hw _ ih =>
      subst ho
      have hm := List.mem_of_getElem? e
      have hsl := (List.getElem?_eq_some_iff.mp e).1
      rw [hf.at hsl]
      by_cases hg : s ∈ goal
      · rw [tollV_goal hg]; exact fun z => nomatch z
      · rw [tollV_not hg e]
        cases e2 : f.getD w none with
        | none => exact absurd e2 (ih (hb.lt _ hm w hw))
        | some y =>
          obtain ⟨u, _, e3⟩ := pick0_ex (near := ws.map fun w => f.getD w none) (y := y) (List.mem_map.mpr ⟨w, hw, e2⟩)
          rw [e3]; exact fun z => nomatch z
    | @all s o ws e ho _ ih =>
      have hm := List.mem_of_getElem? e
      have hsl := (List.getElem?_eq_some_iff.mp e).1
      have ho1 : o = 1 := by have := hb.own _ hm; dsimp only at this; omega
      subst ho1
      rw [hf.at hsl]
      by_cases hg : s ∈ goal
      · rw [tollV_goal hg]; exact fun z => nomatch z
      · rw [tollV_not hg e]
        have hk : ∀ x ∈ ws.map fun w => f.getD w none, x ≠ none := fun x hx => by
          obtain ⟨w, hw, rfl⟩ := List.mem_map.mp hx
          exact ih w hw (hb.lt _ hm w hw)
        have hne : (ws.map fun w => f.getD w none).filterMap id ≠ [] := fun z => by
          have := known_all hk
          rw [z, List.length_map] at this
          exact hb.ne _ hm (List.eq_nil_of_length_eq_zero this.symm)
        obtain ⟨u, _, e3⟩ := pick1_ex (b := ((ws.map fun w => f.getD w none).filterMap id).max?.getD 0) (near := ws.map fun w => f.getD w none) (fun z => hb.ne _ hm (List.map_eq_nil_iff.mp z)) fun x hx => by
          cases x with
          | none => exact absurd rfl (hk _ hx)
          | some y =>
            refine ⟨y, ?_, rfl⟩
            cases e5 : ((ws.map fun w => f.getD w none).filterMap id).max? with
            | none => exact absurd (List.max?_eq_none_iff.mp e5) hne
            | some M => exact (List.max?_eq_some_iff.mp e5).2 y (mem_known.mpr hx)
        rw [e3]; exact fun z => nomatch z
/-! ### the rounds come to a stand -/
def sumO (f : List (Option Nat)) : Nat := (f.map fun x => x.getD 0).sum
theorem sumO_le : ∀ (f' f : List (Option Nat)), f'.length = f.length → (∀ i, (f'.getD i none).isSome = (f.getD i none).isSome) → (∀ i u v, f'.getD i none = some u → f.getD i none = some v → u ≤ v) → sumO f' ≤ sumO f ∧ (sumO f' = sumO f → f' = f)
  | [], [], _, _, _ => ⟨Nat.le_refl _, fun _ => rfl⟩
  | [], _ :: _, h, _, _ => nomatch h
  | _ :: _, [], h, _, _ => nomatch h
  | x :: f', y :: f, h, hk, hv => by
    obtain ⟨h1, h2⟩ := sumO_le f' f (Nat.succ.inj h) (fun i => hk (i + 1)) (fun i => hv (i + 1))
    have k0 := hk 0
    have v0 := hv 0
    show x.getD 0 + sumO f' ≤ y.getD 0 + sumO f ∧ (x.getD 0 + sumO f' = y.getD 0 + sumO f → _)
    change x.isSome = y.isSome at k0
    cases x with
    | none =>
      cases y with
      | none => exact ⟨by show 0 + _ ≤ 0 + _; omega, fun e => by rw [h2 (by change 0 + _ = 0 + _ at e; omega)]⟩
      | some y => cases k0
    | some x =>
      cases y with
      | none => cases k0
      | some y =>
        have hxy : x ≤ y := v0 x y rfl rfl
        exact ⟨by show x + _ ≤ y + _; omega, fun e => by change x + _ = y + _ at e; rw [h2 (by omega), show x = y by omega]⟩
theorem sumO_bd {f : List (Option Nat)} {B : Nat} (h : ∀ i v, f.getD i none = some v → v ≤ B) : sumO f ≤ f.length * B := by
  induction f with
  | nil => exact Nat.zero_le _
  | cons x f ih =>
    have h1 := ih fun i v e => h (i + 1) v e
    show x.getD 0 + sumO f ≤ (f.length + 1) * B
    rw [Nat.add_mul, Nat.one_mul]
    cases x with
    | none => show 0 + _ ≤ _; omega
    | some v => have := h 0 v rfl; show v + _ ≤ _; omega
theorem tollIt_mono {m : Nat} {b : Bd} (hb : BOk m b) (t goal : List Nat) : ∀ (k s v : Nat), s < b.length → (tollIt b t goal k).getD s none = some v → ∃ u, u ≤ v ∧ (tollIt b t goal (k + 1)).getD s none = some u
  | 0, s, v, hs, e => by
    rw [show tollIt b t goal 0 = (List.range b.length).map fun s => if s ∈ goal then some 0 else none from rfl, map_getD hs] at e
    split at e
    · rename_i h
      exact ⟨0, Nat.zero_le _, by rw [show tollIt b t goal 1 = after b t goal (tollIt b t goal 0) from rfl, after_get hs, tollV_goal h]⟩
    · cases e
  | k + 1, s, v, hs, e => by
    rw [show tollIt b t goal (k + 1) = after b t goal (tollIt b t goal k) from rfl, after_get hs] at e
    rw [show tollIt b t goal (k + 2) = after b t goal (tollIt b t goal (k + 1)) from rfl, after_get hs]
    by_cases h : s ∈ goal
    · exact ⟨0, Nat.zero_le _, tollV_goal h⟩
    · obtain ⟨o, ws, e1, hm⟩ := spot_at hs
      rw [tollV_not h e1] at e ⊢
      obtain ⟨u, h2, h3⟩ := Option.map_eq_some_iff.mp e
      obtain ⟨u2, hu, e2⟩ := pick_cmp (hb.own _ hm) (hb.ne _ hm) (f := fun w => (tollIt b t goal (k + 1)).getD w none) (fun w hw x hx _ => tollIt_mono hb t goal k w x (hb.lt _ hm w hw) hx) h2
      exact ⟨t.getD s 0 + u2, by omega, by rw [e2]; rfl⟩
theorem tollIt_bd {m : Nat} {b : Bd} (hb : BOk m b) {t goal : List Nat} {T : Nat} (hT : ∀ s, t.getD s 0 ≤ T) : ∀ (k s v : Nat), (tollIt b t goal k).getD s none = some v → v ≤ k * T
  | 0, s, v, e => by
    by_cases hs : s < b.length
    · rw [show tollIt b t goal 0 = (List.range b.length).map fun s => if s ∈ goal then some 0 else none from rfl, map_getD hs] at e
      split at e
      · cases e; exact Nat.zero_le _
      · cases e
    · rw [show tollIt b t goal 0 = (List.range b.length).map fun s => if s ∈ goal then some 0 else none from rfl, map_getD_no hs] at e
      cases e
  | k + 1, s, v, e => by
    by_cases hs : s < b.length
    · rw [show tollIt b t goal (k + 1) = after b t goal (tollIt b t goal k) from rfl, after_get hs] at e
      by_cases h : s ∈ goal
      · rw [tollV_goal h] at e; cases e; exact Nat.zero_le _
      · obtain ⟨o, ws, e1, hm⟩ := spot_at hs
        rw [tollV_not h e1] at e
        obtain ⟨u, h2, h3⟩ := Option.map_eq_some_iff.mp e
        obtain ⟨w, hw, e2⟩ := List.mem_map.mp (pick_mem h2)
        have h4 := tollIt_bd hb hT k w u e2
        have h5 := hT s
        rw [Nat.add_mul, Nat.one_mul]
        omega
    · rw [show tollIt b t goal (k + 1) = (List.range b.length).map (tollV b t goal (tollIt b t goal k)) from rfl, map_getD_no hs] at e
      cases e
theorem tollIt_known {m : Nat} {b : Bd} (hb : BOk m b) (t goal : List Nat) : ∀ (k s : Nat), s < b.length → known (tollIt b t goal k) s = known (stF b 0 goal k) s
  | 0, s, hs => by
    rw [show stF b 0 goal 0 = st0 b goal from rfl, st0_known hs]
    unfold known
    rw [show tollIt b t goal 0 = (List.range b.length).map fun s => if s ∈ goal then some 0 else none from rfl, map_getD hs]
    by_cases h : s ∈ goal
    · rw [if_pos h, decide_eq_true h]; rfl
    · rw [if_neg h, decide_eq_false h]; rfl
  | k + 1, s, hs => by
    rw [show stF b 0 goal (k + 1) = rnd b 0 (stF b 0 goal k) (k + 1) from rfl, rnd_known hs]
    have ih := tollIt_known hb t goal k
    obtain ⟨o, ws, e1, hm⟩ := spot_at hs
    have hp : pull b 0 (stF b 0 goal k) s = (pick o (ws.map fun w => (tollIt b t goal k).getD w none)).isSome := by
      unfold pull
      rw [e1]
      dsimp only
      have hws : ∀ w ∈ ws, known (stF b 0 goal k) w = ((tollIt b t goal k).getD w none).isSome := fun w hw => (ih w (hb.lt _ hm w hw)).symm
      rcases (show o = 0 ∨ o = 1 by have := hb.own _ hm; dsimp only at this; omega) with rfl | rfl
      · rw [if_pos rfl, Bool.eq_iff_iff, List.any_eq_true]
        constructor
        · rintro ⟨w, hw, h⟩
          rw [hws w hw] at h
          obtain ⟨y, hy⟩ := Option.isSome_iff_exists.mp h
          obtain ⟨u, _, e⟩ := pick0_ex (near := ws.map fun w => (tollIt b t goal k).getD w none) (y := y) (List.mem_map.mpr ⟨w, hw, hy⟩)
          rw [e]; rfl
        · intro h
          obtain ⟨y, hy⟩ := Option.isSome_iff_exists.mp h
          obtain ⟨w, hw, e⟩ := List.mem_map.mp (pick_mem hy)
          exact ⟨w, hw, by rw [hws w hw, e]; rfl⟩
      · rw [if_neg (by omega), Bool.eq_iff_iff, List.all_eq_true]
        constructor
        · intro h
          cases e : pick 1 (ws.map fun w => (tollIt b t goal k).getD w none) with
          | some => rfl
          | none =>
            exfalso
            unfold pick at e
            have hk : ∀ x ∈ ws.map fun w => (tollIt b t goal k).getD w none, x ≠ none := fun x hx z => by
              obtain ⟨w, hw, e2⟩ := List.mem_map.mp hx
              have := h w hw
              rw [hws w hw, e2, z] at this
              cases this
            have hl := known_all hk
            have hne : (ws.map fun w => (tollIt b t goal k).getD w none).filterMap id ≠ [] := fun z => by
              rw [z, List.length_map] at hl
              exact hb.ne _ hm (List.eq_nil_of_length_eq_zero hl.symm)
            rw [if_neg (fun z => z.elim hne fun z => by rw [hl] at z; omega), if_neg (by omega)] at e
            exact hne (List.max?_eq_none_iff.mp e)
        · intro h w hw
          obtain ⟨y, hy⟩ := Option.isSome_iff_exists.mp h
          have := (pick1.mp hy).1 _ (List.mem_map.mpr ⟨w, hw, rfl⟩)
          rw [hws w hw]
          cases e : (tollIt b t goal k).getD w none with
          | none => exact absurd e this
          | some => rfl
    have hn : newly b 0 (stF b 0 goal k) s = (!known (stF b 0 goal k) s && (pick o (ws.map fun w => (tollIt b t goal k).getD w none)).isSome) := by unfold newly; rw [hp]
    have h1 : known (tollIt b t goal (k + 1)) s = (tollV b t goal (tollIt b t goal k) s).isSome := by
      unfold known
      rw [show tollIt b t goal (k + 1) = after b t goal (tollIt b t goal k) from rfl, after_get hs]
    rw [h1, hn]
    by_cases hg : s ∈ goal
    · rw [tollV_goal hg, known_goal hg hs k]; rfl
    · rw [tollV_not hg e1, Option.isSome_map]
      cases q : known (stF b 0 goal k) s with
      | false => rfl
      | true =>
        rw [← ih s hs] at q
        obtain ⟨v, hv⟩ := Option.isSome_iff_exists.mp (show ((tollIt b t goal k).getD s none).isSome = true from q)
        obtain ⟨u, _, e⟩ := tollIt_mono hb t goal k s v hs hv
        rw [show tollIt b t goal (k + 1) = after b t goal (tollIt b t goal k) from rfl, after_get hs, tollV_not hg e1] at e
        obtain ⟨x, hx, _⟩ := Option.map_eq_some_iff.mp e
        rw [hx]; rfl
/-- all that is known is known after as many rounds as there are spots -/
theorem stF_full {b : Bd} {p : Nat} {goal : List Nat} {k s : Nat} (hk : b.length ≤ k) : known (stF b p goal (k + 1)) s = known (stF b p goal k) s := by
  have step : ∀ j, stF b p goal (j + 1) = stF b p goal j ∨ unk (stF b p goal (j + 1)) < unk (stF b p goal j) := fun j => by
    by_cases h : 0 < ((List.range b.length).filter (newly b p (stF b p goal j))).length
    · exact .inr (unk_lt (stF_len b p goal j) h)
    · exact .inl (rnd_stable (stF_len b p goal j) h)
  have hstay : ∀ j d s, stF b p goal (j + 1) = stF b p goal j → known (stF b p goal (j + d)) s = known (stF b p goal j) s := fun j d s hj => by
    cases h : known (stF b p goal j) s with
    | true =>
      induction d with
      | zero => exact h
      | succ d ih => exact known_mono _ ih
    | false =>
      cases h2 : known (stF b p goal (j + d)) s with
      | false => rfl
      | true =>
        have := att_known hj (known_att _ _ h2)
        rw [h] at this; cases this
  have main : ∀ k, (∃ j, j < k ∧ stF b p goal (j + 1) = stF b p goal j) ∨ unk (stF b p goal k) + k ≤ b.length := fun k => by
    induction k with
    | zero =>
      right
      unfold unk
      have := List.length_filter_le (fun s => !known (stF b p goal 0) s) (List.range (stF b p goal 0).length)
      rw [List.length_range, stF_len] at this
      rw [stF_len]
      omega
    | succ k ih =>
      rcases ih with ⟨j, hj, e⟩ | h
      · exact .inl ⟨j, by omega, e⟩
      · rcases step k with e | e
        · exact .inl ⟨k, by omega, e⟩
        · right; omega
  rcases main k with ⟨j, hj, e⟩ | h
  · have h1 := hstay j (k - j) s e
    have h2 := hstay j (k + 1 - j) s e
    rw [show j + (k - j) = k by omega] at h1
    rw [show j + (k + 1 - j) = k + 1 by omega] at h2
    rw [h1, h2]
  · rcases step k with e | e
    · rw [e]
    · omega
/-- the first round that stands still -/
theorem toll_stand {m : Nat} {b : Bd} (hb : BOk m b) {t goal : List Nat} {T : Nat} (hT : ∀ s, t.getD s 0 ≤ T) : ∃ K, K ≤ b.length + b.length * (b.length * T) ∧ tollIt b t goal (K + 1) = tollIt b t goal K ∧ ∀ j, j < K → tollIt b t goal (j + 1) ≠ tollIt b t goal j := by
  have step : ∀ k, b.length ≤ k → tollIt b t goal (k + 1) = tollIt b t goal k ∨ sumO (tollIt b t goal (k + 1)) < sumO (tollIt b t goal k) := fun k hk => by
    have hkn : ∀ i, ((tollIt b t goal (k + 1)).getD i none).isSome = ((tollIt b t goal k).getD i none).isSome := fun i => by
      by_cases hi : i < b.length
      · have h1 := tollIt_known hb t goal (k + 1) i hi
        have h2 := tollIt_known hb t goal k i hi
        rw [stF_full hk] at h1
        exact h1.trans h2.symm
      · rw [List.getD_eq_getElem?_getD, List.getElem?_eq_none (by rw [tollIt_len]; omega), List.getD_eq_getElem?_getD, List.getElem?_eq_none (by rw [tollIt_len]; omega)]
    obtain ⟨h1, h2⟩ := sumO_le (tollIt b t goal (k + 1)) (tollIt b t goal k) (by rw [tollIt_len, tollIt_len]) hkn fun i u v e1 e2 => by
      by_cases hi : i < b.length
      · obtain ⟨u', hu, e3⟩ := tollIt_mono hb t goal k i v hi e2
        rw [e1] at e3; cases e3
        exact hu
      · rw [List.getD_eq_getElem?_getD, List.getElem?_eq_none (by rw [tollIt_len]; omega)] at e2
        cases e2
    rcases Nat.lt_or_eq_of_le h1 with h | h
    · exact .inr h
    · exact .inl (h2 h)
  have hsum : sumO (tollIt b t goal b.length) ≤ b.length * (b.length * T) := by
    have := sumO_bd (f := tollIt b t goal b.length) (tollIt_bd hb hT b.length)
    rwa [tollIt_len] at this
  have main : ∀ d, (∃ j, j ≤ b.length + d ∧ tollIt b t goal (j + 1) = tollIt b t goal j) ∨ sumO (tollIt b t goal (b.length + d + 1)) + d + 1 ≤ sumO (tollIt b t goal b.length) := fun d => by
    induction d with
    | zero =>
      rcases step b.length (Nat.le_refl _) with e | e
      · exact .inl ⟨b.length, by omega, e⟩
      · right; show sumO (tollIt b t goal (b.length + 1)) + 0 + 1 ≤ _; omega
    | succ d ih =>
      rcases ih with ⟨j, hj, e⟩ | h
      · exact .inl ⟨j, by omega, e⟩
      · rcases step (b.length + d + 1) (by omega) with e | e
        · exact .inl ⟨b.length + d + 1, by omega, e⟩
        · right; rw [show b.length + (d + 1) + 1 = b.length + d + 1 + 1 by omega]; omega
  obtain ⟨j, hj, e⟩ : ∃ j, j ≤ b.length + b.length * (b.length * T) ∧ tollIt b t goal (j + 1) = tollIt b t goal j := by
    rcases main (b.length * (b.length * T)) with h | h
    · exact h
    · omega
  obtain ⟨K, h1, h2, h3⟩ := least_of (P := fun j => tollIt b t goal (j + 1) = tollIt b t goal j) j e
  exact ⟨K, by omega, h1, h3⟩
end DL
/-! P22: tolls, the walk. -/
namespace DL
open PySem PySem.Spec PyProof.Rows L2
local macro_rules | `(tactic| walk_at "en") => `(tactic| ((simp -dsimp -implicitDefEqProofs only [↓wp_toX, wpX_ok, ↓bind_toX, ↓loopF_toX, ↓loopC_toX, ↓while_toX, bindX_ok, bindX_assoc, evS, evE, evO, evR, evL, evB, evA, evI, opt_some, opd_val, opd_bor, slotD_imm, slotD_own, fz_val, obind_some, omap_some, ofInt_int, ofBool_bool, items_list, items_tuple,
  run_add, run_sub, run_mul, run_fdiv, run_mod, run_lt, run_le, run_gt, run_ge, run_eqI, run_neI, run_isN, run_notN, run_not, run_neg, idx_list, idx_tuple, sli_list, sli_tuple, sli_scr, b_lenL, b_lenT, b_listS, b_listL, b_listT, b_tupL, b_tupT, b_max2, b_min2, b_int,
  argsOf_nil, argsOf_v, margs, retD_val, outs_nil, outs_f, outs_t, slotOf_f, slotOf_t, bindP_var, bindP_tup, bindPs_nil, bindPs_cons, wipe_nil, wipe_cons, back_nil, back_cons, mapM_nilO, mapM_consO, noOwn, isOwn, fz_bor,
  List.map_cons, List.map_nil, List.replicate_succ, List.replicate_zero, List.cons_append, List.nil_append, List.getElem?_cons_zero, List.getElem?_cons_succ, List.set_cons_zero, List.set_cons_succ, List.length_cons, List.length_nil, List.all_cons, List.all_nil, Option.getD_some,
  Nat.zero_add, Nat.reduceAdd, Nat.reduceLT, Nat.reduceLeDiff, Nat.lt_add_left_iff_pos, Nat.zero_lt_succ, Nat.reduceEqDiff, Int.reduceEq, Int.reduceLT, Int.reduceLE, Int.reduceNeg, inR_0, retD_bor, Bool.not_true, Bool.not_false, idx_sp0, idx_sp1, ofInt_nI, aug_n, eq_n, eq_n0, eq_n1, ne_n0, gt_n0, len_b, len_nT, len_nL, in_T, in_L, nin_T, nin_L, bindP_sp, items_b, items_nT, items_nL, isNone_oD, aug_i, sz0, sz1, sz2, sz3, sz4, sz5, argsOf_mE, argOf, putBack, omap_some, na5, putB_nil, at0, at1, at2, at3, at4, ix51, ix52, ix53, true_or, or_true, sm1, sm2, sm3, sm4, sm5, Bool.or_true, reduceIte, Bool.and_self, Bool.and_true, Bool.true_and, if_true, if_false, Bool.or_true, Bool.true_or, ne_eq, not_false_eq_true, not_true_eq_false, true_and, and_true,
  List.nodup_cons, List.nodup_nil, List.not_mem_nil, List.mem_cons, or_false, false_or]) <;> (try simp -dsimp only [wp_ofX])))
variable {gcs : Nat → Option D} {cd : CallSem}
def knD : Option Nat → Option D
  | some v => some (nI v)
  | none => none
theorem comp_known (l : List (Option Nat)) : l.filterMap knD = (l.filterMap id).map nI := by
  induction l with
  | nil => rfl
  | cons a r ih =>
    rw [List.filterMap_cons, List.filterMap_cons, ih]
    cases a <;> rfl
theorem lenz (l : List Nat) : decide (((l.map nI).length : Int) = 0) = decide (l = []) := by
  rw [List.length_map, decide_eq_decide]
  exact ⟨fun h => List.length_eq_zero_iff.mp (by omega), fun h => by rw [h]; rfl⟩
theorem lenlt (l : List Nat) (m : List (Option Nat)) : decide (((l.map nI).length : Int) < ((m.map oD).length : Int)) = decide (l.length < m.length) := by
  rw [List.length_map, List.length_map, decide_eq_decide]
  omega
theorem add_nn {a b : Nat} : O2.run .add (nI a) (nI b) = some (nI (a + b)) := rfl
theorem idx_oT' {f : List (Option Nat)} {s : Nat} (h : s < f.length) : idxD (oT f) (nI s) = some (oD (f.getD s none)) := idx_oT h
def CAfter (cd : CallSem) : Prop := ∀ (b : Bd) (t goal : List Nat) (f : List (Option Nat)), WB b → t.length = b.length → f.length = b.length → cd 188 [(false, bD b), (false, nT t), (false, nT goal), (false, oT f)] = .ok ([], true, oT (after b t goal f))
theorem after_ok (b : Bd) (t goal : List Nat) (f : List (Option Nat)) (hb : WB b) (ht : t.length = b.length) (hf : f.length = b.length) : runFn gcs cd fn_sums_after [(false, bD b), (false, nT t), (false, nT goal), (false, oT f)] = .ok ([], true, oT (after b t goal f)) := by
  have hn := hb.le
  refine ev_eq (wp_run rfl ?_)
  rw [show fn_sums_after.body = b_sums_after from rfl, show fn_sums_after.nl = 8 from rfl, b_sums_after]
  walk_at "en"
  rw [inR_nat (by omega), rng_n]
  walk_at "en"
  refine wp_bind (wp_loopFm nI (fun i d => ∃ (s5 s6 s7 s8 s10 : Slot), d = [.imm (bD b), .imm (nT t), .imm (nT goal), .imm (oT f), .own false (.list (((List.range i).map (tollV b t goal f)).map oD)), s5, s6, s7, s8, .emp, s10, .emp]) ⟨_, _, _, _, _, rfl⟩ ?_ ?_)
  · rintro i s d hs ⟨s5, s6, s7, s8, s10, rfl⟩
    obtain ⟨hil, hs⟩ := List.getElem?_eq_some_iff.mp hs
    rw [List.getElem_range] at hs
    subst hs
    rw [List.length_range] at hil
    obtain ⟨o, ws, e, hm⟩ := spot_at hil
    have hti : t.getD i 0 = t[i] := by rw [List.getD_eq_getElem?_getD, List.getElem?_eq_getElem (by omega)]; rfl
    have hwl := hb.ln _ hm
    dsimp only at hwl
    rw [b_sums_after_1]
    walk_at "en"
    rw [idx_b e]
    walk_at "en"
    refine wp_bind (wp_loopCm nI (fun w => some (oD (f.getD w none))) (fun w hw => ?_) (small_le (by omega)) ?_)
    · refine ev_eq ?_
      walk_at "en"
      rw [idx_oT' (by rw [hf]; exact hb.lt _ hm w hw)]
      walk_at "en"
    rw [comp_map]
    walk_at "en"
    rw [show (ws.map fun w => oD (f.getD w none)) = (ws.map fun w => f.getD w none).map oD from by rw [List.map_map]; rfl]
    generalize hN : (ws.map fun w => f.getD w none) = near
    have hNl : near.length ≤ 1000 := by rw [← hN, List.length_map]; exact hwl
    refine wp_bind (wp_loopCm oD knD (fun a ha => ?_) (small_le (by omega)) ?_)
    · refine ev_eq ?_
      walk_at "en"
      cases a <;> exact ⟨_, rfl, rfl⟩
    rw [comp_known]
    walk_at "en"
    have hsz : ((((List.range i).map (tollV b t goal f)).map oD).length < sizeLine) = True := eq_true (by
      rw [List.length_map, List.length_map, List.length_range]
      exact small_lt (by omega))
    have fin : ∀ x, tollV b t goal f i = x → (((List.range i).map (tollV b t goal f)).map oD ++ [oD x]) = ((List.range (i + 1)).map (tollV b t goal f)).map oD := fun x hx => by
      rw [List.range_succ, List.map_append, List.map_append]
      show _ = _ ++ [oD (tollV b t goal f i)]
      rw [hx]
    by_cases hg : i ∈ goal
    · rw [decide_eq_true hg]
      walk_at "en"
      simp only [hsz, if_true]
      walk_at "en"
      rw [show (PyData.int 0) = oD (some 0) from rfl, fin (some 0) (tollV_goal hg)]
      exact ⟨_, _, _, _, _, rfl⟩
    · rw [decide_eq_false hg]
      walk_at "en"
      have hv := tollV_not (t := t) (f := f) hg e
      rw [hN] at hv
      rw [lenz]
      by_cases hk : near.filterMap id = []
      · rw [decide_eq_true hk]
        walk_at "en"
        simp only [hsz, if_true]
        walk_at "en"
        have hp : pick o near = none := by unfold pick; rw [if_pos (.inl hk)]
        rw [show (PyData.none) = oD none from rfl, fin none (by rw [hv, hp]; rfl)]
        exact ⟨_, _, _, _, _, rfl⟩
      · rw [decide_eq_false hk]
        walk_at "en"
        by_cases ho : o = 1
        · rw [decide_eq_true ho]
          walk_at "en"
          rw [lenlt]
          by_cases hl : (near.filterMap id).length < near.length
          · rw [decide_eq_true hl]
            walk_at "en"
            simp only [hsz, if_true]
            walk_at "en"
            have hp : pick o near = none := by unfold pick; rw [if_pos (.inr ⟨ho, hl⟩)]
            rw [show (PyData.none) = oD none from rfl, fin none (by rw [hv, hp]; rfl)]
            exact ⟨_, _, _, _, _, rfl⟩
          · rw [decide_eq_false hl]
            walk_at "en"
            rw [idx_nT (by omega)]
            walk_at "en"
            rw [decide_eq_false (show ¬ o = 0 by omega)]
            walk_at "en"
            obtain ⟨m, hm2⟩ : ∃ m, (near.filterMap id).max? = some m := by
              cases q : (near.filterMap id).max? with
              | none => exact absurd (List.max?_eq_none_iff.mp q) hk
              | some m => exact ⟨m, rfl⟩
            have hp : pick o near = some m := by unfold pick; rw [if_neg (fun z => z.elim hk fun z => hl z.2), if_neg (by omega), hm2]
            rw [b_maxN hm2]
            walk_at "en"
            rw [add_nn]
            walk_at "en"
            simp only [hsz, if_true]
            walk_at "en"
            rw [show nI (t[i] + m) = oD (some (t[i] + m)) from rfl, fin (some (t[i] + m)) (by rw [hv, hp, hti]; rfl)]
            exact ⟨_, _, _, _, _, rfl⟩
        · rw [decide_eq_false ho]
          walk_at "en"
          rw [idx_nT (by omega)]
          walk_at "en"
          by_cases h0 : o = 0
          · rw [decide_eq_true h0]
            walk_at "en"
            obtain ⟨m, hm2⟩ : ∃ m, (near.filterMap id).min? = some m := by
              cases q : (near.filterMap id).min? with
              | none => exact absurd (List.min?_eq_none_iff.mp q) hk
              | some m => exact ⟨m, rfl⟩
            have hp : pick o near = some m := by unfold pick; rw [if_neg (fun z => z.elim hk fun z => ho z.1), if_pos h0, hm2]
            rw [b_minN hm2]
            walk_at "en"
            rw [add_nn]
            walk_at "en"
            simp only [hsz, if_true]
            walk_at "en"
            rw [show nI (t[i] + m) = oD (some (t[i] + m)) from rfl, fin (some (t[i] + m)) (by rw [hv, hp, hti]; rfl)]
            exact ⟨_, _, _, _, _, rfl⟩
          · rw [decide_eq_false h0]
            walk_at "en"
            obtain ⟨m, hm2⟩ : ∃ m, (near.filterMap id).max? = some m := by
              cases q : (near.filterMap id).max? with
              | none => exact absurd (List.max?_eq_none_iff.mp q) hk
              | some m => exact ⟨m, rfl⟩
            have hp : pick o near = some m := by unfold pick; rw [if_neg (fun z => z.elim hk fun z => ho z.1), if_neg h0, hm2]
            rw [b_maxN hm2]
            walk_at "en"
            rw [add_nn]
            walk_at "en"
            simp only [hsz, if_true]
            walk_at "en"
            rw [show nI (t[i] + m) = oD (some (t[i] + m)) from rfl, fin (some (t[i] + m)) (by rw [hv, hp, hti]; rfl)]
            exact ⟨_, _, _, _, _, rfl⟩
  · rintro d ⟨s5, s6, s7, s8, s10, rfl⟩
    rw [List.length_range]
    walk_at "en"
    rfl
/-- the rows of the sums -/
def CSums (cd : CallSem) : Prop := ∀ (b : Bd) (t goal : List Nat), (∃ m, BOk m b ∧ m ≤ 8) → t.length = b.length → (∀ x ∈ t, x ≤ 1000) → Wp (cd 189 [(false, bD b), (false, nT t), (false, nT goal)]) fun r => ∃ K, tollIt b t goal (K + 1) = tollIt b t goal K ∧ (∀ j, j < K → tollIt b t goal (j + 1) ≠ tollIt b t goal j) ∧ K ≤ 100000 ∧ r = ([], true, .list ((List.range (K + 1)).map fun j => oT (tollIt b t goal j)))
theorem getD_le {t : List Nat} {T : Nat} (h : ∀ x ∈ t, x ≤ T) (s : Nat) : t.getD s 0 ≤ T := by
  rw [List.getD_eq_getElem?_getD]
  cases e : t[s]? with
  | none => exact Nat.zero_le _
  | some x => exact h x (List.mem_of_getElem? e)
theorem sums_ok (h188 : CAfter cd) (b : Bd) (t goal : List Nat) (hbm : ∃ m, BOk m b ∧ m ≤ 8) (ht : t.length = b.length) (hT : ∀ x ∈ t, x ≤ 1000) : Wp (runFn gcs cd fn_sums_by_moves [(false, bD b), (false, nT t), (false, nT goal)]) fun r => ∃ K, tollIt b t goal (K + 1) = tollIt b t goal K ∧ (∀ j, j < K → tollIt b t goal (j + 1) ≠ tollIt b t goal j) ∧ K ≤ 100000 ∧ r = ([], true, .list ((List.range (K + 1)).map fun j => oT (tollIt b t goal j))) := by
  obtain ⟨m, hb, hm⟩ := hbm
  have wb := hb.wb (by omega)
  have hn := hb.le
  obtain ⟨K, hK1, hK2, hK3⟩ := toll_stand hb (t := t) (goal := goal) (getD_le hT)
  have hKb : K ≤ 100000 := by
    have h1 : b.length * 1000 ≤ 8000 := by omega
    have h2 := Nat.mul_le_mul (show b.length ≤ 8 by omega) h1
    omega
  refine wp_run rfl ?_
  rw [show fn_sums_by_moves.body = b_sums_by_moves from rfl, show fn_sums_by_moves.nl = 3 from rfl, b_sums_by_moves]
  walk_at "en"
  rw [inR_nat (by omega), rng_n]
  walk_at "en"
  refine wp_bind (wp_loopCm nI (fun s => some (oD (if s ∈ goal then some 0 else none))) (fun s hs => ?_) (by rw [List.length_range]; exact small_le (by omega)) ?_)
  · refine ev_eq ?_
    walk_at "en"
    by_cases h : s ∈ goal
    · simp only [h, decide_true, if_true]
      walk_at "en"
      rfl
    · simp only [h, decide_false, if_false]
      walk_at "en"
      rfl
  rw [comp_map]
  walk_at "en"
  rw [show (PyData.tuple ((List.range b.length).map fun s => oD (if s ∈ goal then some 0 else none))) = oT (tollIt b t goal 0) from by unfold oT tollIt; rw [List.map_map]; rfl]
  refine wp_bind (wp_whileR (fun n d => ∃ (k : Nat) (s5 : Slot), d = [.imm (bD b), .imm (nT t), .imm (nT goal), .own false (.list (((List.range k).map fun j => oT (tollIt b t goal j)) ++ [oT (tollIt b t goal k)])), .emp, s5] ∧ n = K - k ∧ k ≤ K)
    K ⟨0, _, rfl, rfl, Nat.zero_le _⟩ ?_)
  rintro n d ⟨k, s5, rfl, hnk, hk⟩
  rw [b_sums_by_moves_1c]
  walk_at "en"
  refine ⟨fun h => Bool.noConfusion h, fun _ => ?_⟩
  rw [b_sums_by_moves_1]
  walk_at "en"
  rw [at_last]
  walk_at "en"
  rw [h188 b t goal _ wb ht (tollIt_len ..)]
  walk_at "en"
  rw [at_last]
  walk_at "en"
  rw [show after b t goal (tollIt b t goal k) = tollIt b t goal (k + 1) from rfl, eq_oT]
  walk_at "en"
  by_cases he : tollIt b t goal (k + 1) = tollIt b t goal k
  · have : k = K := by
      rcases Nat.lt_or_eq_of_le hk with h | h
      · exact absurd he (hK3 k h)
      · exact h
    subst this
    rw [decide_eq_true he]
    walk_at "en"
    refine ⟨k, hK2, hK3, hKb, ?_⟩
    rw [List.range_succ, List.map_append]
    rfl
  · have hlt : k < K := by
      rcases Nat.lt_or_eq_of_le hk with h | h
      · exact h
      · rw [h] at he; exact absurd hK2 he
    rw [decide_eq_false he]
    walk_at "en"
    have hsz : ((((List.range k).map fun j => oT (tollIt b t goal j)) ++ [oT (tollIt b t goal k)]).length < sizeLine) = True := eq_true (by
      rw [List.length_append, List.length_map, List.length_range]
      exact small_lt (by show k + 1 < _; omega))
    simp only [hsz, if_true]
    walk_at "en"
    refine ⟨n - 1, by omega, k + 1, .imm (oT (tollIt b t goal (k + 1))), ?_, by omega, hlt⟩
    rw [List.range_succ, List.map_append]; rfl
def CTolls (cd : CallSem) : Prop := ∀ (b : Bd) (t goal : List Nat), (∃ m, BOk m b ∧ m ≤ 8) → t.length = b.length → (∀ x ∈ t, x ≤ 1000) → Wp (cd 190 [(false, bD b), (false, nT t), (false, nT goal)]) fun r => ∃ K, tollIt b t goal (K + 1) = tollIt b t goal K ∧ r = ([], false, oT (tollIt b t goal K))
theorem tolls_ok (h189 : CSums cd) (b : Bd) (t goal : List Nat) (hbm : ∃ m, BOk m b ∧ m ≤ 8) (ht : t.length = b.length) (hT : ∀ x ∈ t, x ≤ 1000) : Wp (runFn gcs cd fn_least_tolls [(false, bD b), (false, nT t), (false, nT goal)]) fun r => ∃ K, tollIt b t goal (K + 1) = tollIt b t goal K ∧ r = ([], false, oT (tollIt b t goal K)) := by
  refine wp_run rfl ?_
  rw [show fn_least_tolls.body = b_least_tolls from rfl, show fn_least_tolls.nl = 0 from rfl, b_least_tolls]
  walk_at "en"
  refine wp_bind (wp_mono (h189 b t goal hbm ht hT) ?_)
  rintro r ⟨K, hK, _, _, rfl⟩
  rw [List.range_succ, List.map_append]
  walk_at "en"
  rw [at_last]
  walk_at "en"
  exact ⟨K, hK, rfl⟩
end DL
/-! P23: stores: the least numbers that suffice, by rising. -/
namespace DL
open PySem PySem.Spec PyProof.Rows L2
local macro_rules | `(tactic| walk_at "en") => `(tactic| ((simp -dsimp -implicitDefEqProofs only [↓wp_toX, wpX_ok, ↓bind_toX, ↓loopF_toX, ↓loopC_toX, ↓while_toX, bindX_ok, bindX_assoc, evS, evE, evO, evR, evL, evB, evA, evI, opt_some, opd_val, opd_bor, slotD_imm, slotD_own, fz_val, obind_some, omap_some, ofInt_int, ofBool_bool, items_list, items_tuple,
  run_add, run_sub, run_mul, run_fdiv, run_mod, run_lt, run_le, run_gt, run_ge, run_eqI, run_neI, run_isN, run_notN, run_not, run_neg, idx_list, idx_tuple, sli_list, sli_tuple, sli_scr, b_lenL, b_lenT, b_listS, b_listL, b_listT, b_tupL, b_tupT, b_max2, b_min2, b_int,
  argsOf_nil, argsOf_v, margs, retD_val, outs_nil, outs_f, outs_t, slotOf_f, slotOf_t, bindP_var, bindP_tup, bindPs_nil, bindPs_cons, wipe_nil, wipe_cons, back_nil, back_cons, mapM_nilO, mapM_consO, noOwn, isOwn, fz_bor,
  List.map_cons, List.map_nil, List.replicate_succ, List.replicate_zero, List.cons_append, List.nil_append, List.getElem?_cons_zero, List.getElem?_cons_succ, List.set_cons_zero, List.set_cons_succ, List.length_cons, List.length_nil, List.all_cons, List.all_nil, Option.getD_some,
  Nat.zero_add, Nat.reduceAdd, Nat.reduceLT, Nat.reduceLeDiff, Nat.lt_add_left_iff_pos, Nat.zero_lt_succ, Nat.reduceEqDiff, Int.reduceEq, Int.reduceLT, Int.reduceLE, Int.reduceNeg, inR_0, retD_bor, Bool.not_true, Bool.not_false, idx_sp0, idx_sp1, ofInt_nI, aug_n, eq_n, eq_n0, eq_n1, ne_n0, gt_n0, len_b, len_nT, len_nL, in_T, in_L, nin_T, nin_L, bindP_sp, items_b, items_nT, items_nL, isNone_oD, aug_i, sz0, sz1, sz2, sz3, sz4, sz5, argsOf_mE, argOf, putBack, omap_some, na5, putB_nil, at0, at1, at2, at3, at4, ix51, ix52, ix53, true_or, or_true, sm1, sm2, sm3, sm4, sm5, Bool.or_true, reduceIte, Bool.and_self, Bool.and_true, Bool.true_and, if_true, if_false, Bool.or_true, Bool.true_or, ne_eq, not_false_eq_true, not_true_eq_false, true_and, and_true,
  List.nodup_cons, List.nodup_nil, List.not_mem_nil, List.mem_cons, or_false, false_or]) <;> (try simp -dsimp only [wp_ofX])))
variable {gcs : Nat → Option D} {cd : CallSem}
/-- none is the greatest -/
def LeO (a b : Option Nat) : Prop := ∀ v, b = some v → ∃ u, u ≤ v ∧ a = some u
theorem LeO.refl (a : Option Nat) : LeO a a := fun v h => ⟨v, Nat.le_refl _, h⟩
theorem LeO.trans {a b c : Option Nat} (h : LeO a b) (g : LeO b c) : LeO a c := fun v e => by
  obtain ⟨u, hu, e2⟩ := g v e
  obtain ⟨w, hw, e3⟩ := h u e2
  exact ⟨w, by omega, e3⟩
theorem LeO.map {a b : Option Nat} (h : LeO a b) {φ : Nat → Nat} (hφ : ∀ a b, a ≤ b → φ a ≤ φ b) : LeO (a.map φ) (b.map φ) := fun v e => by
  obtain ⟨x, e1, rfl⟩ := Option.map_eq_some_iff.mp e
  obtain ⟨u, hu, rfl⟩ := h x e1
  exact ⟨φ u, hφ _ _ hu, rfl⟩
theorem LeO.antisymm {a b : Option Nat} (h : LeO a b) (g : LeO b a) : a = b := by
  cases a with
  | none =>
    cases b with
    | none => rfl
    | some v => obtain ⟨u, _, e⟩ := h v rfl; cases e
  | some u =>
    obtain ⟨v, hv, rfl⟩ := g u rfl
    obtain ⟨w, hw, e⟩ := h v rfl
    cases e
    rw [show v = u by omega]
def cutV (top : Nat) (x : Option Nat) : Option Nat := x.bind fun v => if v ≤ top then some v else none
theorem cutV_some {top v : Nat} {x : Option Nat} : cutV top x = some v ↔ x = some v ∧ v ≤ top := by
  cases x with
  | none => exact ⟨(fun h => nomatch h), fun h => nomatch h.1⟩
  | some y =>
    show (if y ≤ top then some y else none) = some v ↔ _
    split
    · rename_i h
      exact ⟨fun e => by cases e; exact ⟨rfl, h⟩, fun e => e.1⟩
    · rename_i h
      exact ⟨(fun e => nomatch e), fun e => by cases e.1; exact absurd e.2 h⟩
theorem LeO.cut {top : Nat} {a b : Option Nat} (h : LeO a b) : LeO (cutV top a) (cutV top b) := fun v e => by
  obtain ⟨h1, h2⟩ := cutV_some.mp e
  obtain ⟨u, hu, e2⟩ := h v h1
  exact ⟨u, hu, cutV_some.mpr ⟨e2, by omega⟩⟩
def needN (g : Int) (u : Nat) : Nat := (max 0 (max (-g) ((u : Int) - g))).toNat
def needV (b : Bd) (g : List Int) (f : List (Option Nat)) (s : Nat) : Option Nat := match b[s]? with
  | some (o, ws) => (pick o (ws.map fun w => f.getD w none)).map (needN (g.getD s 0))
  | none => none
theorem needV_at {b : Bd} {g : List Int} {f : List (Option Nat)} {s o : Nat} {ws : List Nat} (e : b[s]? = some (o, ws)) : needV b g f s = (pick o (ws.map fun w => f.getD w none)).map (needN (g.getD s 0)) := by unfold needV; rw [e]
theorem needN_mono (g : Int) (a b : Nat) (h : a ≤ b) : needN g a ≤ needN g b := by unfold needN; omega
theorem pick_mono {o : Nat} (ho : o < 2) {ws : List Nat} (hne : ws ≠ []) {f f' : Nat → Option Nat} (h : ∀ w ∈ ws, LeO (f w) (f' w)) : LeO (pick o (ws.map f)) (pick o (ws.map f')) := fun v e =>
  pick_cmp ho hne (fun w hw x hx _ => h w hw x hx) e
theorem needV_mono {m : Nat} {b : Bd} (hb : BOk m b) {g : List Int} {f h : List (Option Nat)} (hf : ∀ s, s < b.length → LeO (f.getD s none) (h.getD s none)) {s : Nat} (hs : s < b.length) : LeO (needV b g f s) (needV b g h s) := by
  obtain ⟨o, ws, e, hm⟩ := spot_at hs
  rw [needV_at e, needV_at e]
  exact (pick_mono (hb.own _ hm) (hb.ne _ hm) fun w hw => hf w (hb.lt _ hm w hw)).map (needN_mono _)
def gD (g : List Int) : D := .tuple (g.map .int)
theorem idx_g {g : List Int} {s : Nat} (h : s < g.length) : idxD (gD g) (nI s) = some (.int (g.getD s 0)) := by
  have : g[s]? = some (g.getD s 0) := by rw [List.getD_eq_getElem?_getD, List.getElem?_eq_getElem h]; rfl
  exact atI_nat (by rw [List.getElem?_map, this]; rfl)
theorem max3_need (g : Int) (u : Nat) : B1.run .max [.int 0, .int (-g), .int ((u : Int) - g)] = some (nI (needN g u)) := by
  show some (PyData.int (if -g > 0 then (if (u : Int) - g > -g then (u : Int) - g else -g) else (if (u : Int) - g > 0 then (u : Int) - g else 0))) = some (PyData.int ((needN g u : Nat) : Int))
  unfold needN
  congr 2
  split <;> split <;> omega
def CNeed (cd : CallSem) : Prop := ∀ (b : Bd) (g : List Int) (f : List (Option Nat)) (s : Nat), WB b → g.length = b.length → f.length = b.length → s < b.length → cd 161 [(false, bD b), (false, gD g), (true, .list (f.map oD)), (false, nI s)] = .ok ([.list (f.map oD)], true, oD (needV b g f s))
theorem idx_oL {f : List (Option Nat)} {s : Nat} (h : s < f.length) : idxD (.list (f.map oD)) (nI s) = some (oD (f.getD s none)) := idx_o h
theorem need_ok (b : Bd) (g : List Int) (f : List (Option Nat)) (s : Nat) (hb : WB b) (hg : g.length = b.length) (hf : f.length = b.length) (hs : s < b.length) : runFn gcs cd fn_need_of [(false, bD b), (false, gD g), (true, .list (f.map oD)), (false, nI s)] = .ok ([.list (f.map oD)], true, oD (needV b g f s)) := by
  obtain ⟨o, ws, e, hm⟩ := spot_at hs
  have hwl := hb.ln _ hm
  dsimp only at hwl
  refine ev_eq (wp_run rfl ?_)
  rw [show fn_need_of.body = b_need_of from rfl, show fn_need_of.nl = 6 from rfl, b_need_of]
  walk_at "en"
  rw [idx_b e]
  walk_at "en"
  refine wp_bind (wp_loopCm nI (fun w => some (oD (f.getD w none))) (fun w hw => ?_) (small_le (by omega)) ?_)
  · refine ev_eq ?_
    walk_at "en"
    rw [idx_oL (by rw [hf]; exact hb.lt _ hm w hw)]
    walk_at "en"
  rw [comp_map]
  walk_at "en"
  rw [show (ws.map fun w => oD (f.getD w none)) = (ws.map fun w => f.getD w none).map oD from by rw [List.map_map]; rfl, needV_at e]
  generalize hN : (ws.map fun w => f.getD w none) = near
  have hNl : near.length ≤ 1000 := by rw [← hN, List.length_map]; exact hwl
  refine wp_bind (wp_loopCm oD knD (fun a ha => ?_) (small_le (by omega)) ?_)
  · refine ev_eq ?_
    walk_at "en"
    cases a <;> exact ⟨_, rfl, rfl⟩
  rw [comp_known]
  walk_at "en"
  rw [lenz]
  by_cases hk : near.filterMap id = []
  · rw [decide_eq_true hk]
    walk_at "en"
    have hp : pick o near = none := by unfold pick; rw [if_pos (.inl hk)]
    rw [hp]
    rfl
  · rw [decide_eq_false hk]
    walk_at "en"
    have fin : ∀ (u : Nat), pick o near = some u → (O1.run .neg (.int (g.getD s 0)) = some (.int (-(g.getD s 0)))) := fun u _ => rfl
    by_cases ho : o = 1
    · rw [decide_eq_true ho]
      walk_at "en"
      rw [lenlt]
      by_cases hl : (near.filterMap id).length < near.length
      · rw [decide_eq_true hl]
        walk_at "en"
        have hp : pick o near = none := by unfold pick; rw [if_pos (.inr ⟨ho, hl⟩)]
        rw [hp]
        rfl
      · rw [decide_eq_false hl]
        walk_at "en"
        rw [idx_g (by omega)]
        walk_at "en"
        rw [decide_eq_false (show ¬ o = 0 by omega)]
        walk_at "en"
        obtain ⟨m, hm2⟩ : ∃ m, (near.filterMap id).max? = some m := by
          cases q : (near.filterMap id).max? with
          | none => exact absurd (List.max?_eq_none_iff.mp q) hk
          | some m => exact ⟨m, rfl⟩
        have hp : pick o near = some m := by unfold pick; rw [if_neg (fun z => z.elim hk fun z => hl z.2), if_neg (by omega), hm2]
        rw [b_maxN hm2]
        walk_at "en"
        rw [idx_g (by omega)]
        walk_at "en"
        rw [show O2.run .sub (nI m) (.int (g.getD s 0)) = some (.int ((m : Int) - g.getD s 0)) from rfl]
        walk_at "en"
        rw [max3_need]
        walk_at "en"
        rw [hp]
        rfl
    · rw [decide_eq_false ho]
      walk_at "en"
      rw [idx_g (by omega)]
      walk_at "en"
      obtain ⟨m, hm2⟩ : ∃ m, (if o = 0 then (near.filterMap id).min? else (near.filterMap id).max?) = some m := by
        split
        · cases q : (near.filterMap id).min? with
          | none => exact absurd (List.min?_eq_none_iff.mp q) hk
          | some m => exact ⟨m, rfl⟩
        · cases q : (near.filterMap id).max? with
          | none => exact absurd (List.max?_eq_none_iff.mp q) hk
          | some m => exact ⟨m, rfl⟩
      have hp : pick o near = some m := by unfold pick; rw [if_neg (fun z => z.elim hk fun z => ho z.1), hm2]
      by_cases h0 : o = 0
      · rw [if_pos h0] at hm2
        rw [decide_eq_true h0]
        walk_at "en"
        rw [b_minN hm2]
        walk_at "en"
        rw [idx_g (by omega)]
        walk_at "en"
        rw [show O2.run .sub (nI m) (.int (g.getD s 0)) = some (.int ((m : Int) - g.getD s 0)) from rfl]
        walk_at "en"
        rw [max3_need]
        walk_at "en"
        rw [hp]
        rfl
      · rw [if_neg h0] at hm2
        rw [decide_eq_false h0]
        walk_at "en"
        rw [b_maxN hm2]
        walk_at "en"
        rw [idx_g (by omega)]
        walk_at "en"
        rw [show O2.run .sub (nI m) (.int (g.getD s 0)) = some (.int ((m : Int) - g.getD s 0)) from rfl]
        walk_at "en"
        rw [max3_need]
        walk_at "en"
        rw [hp]
        rfl
end DL
/-! P24: rising to the least fixed point. -/
namespace DL
open PySem PySem.Spec PyProof.Rows L2
local macro_rules | `(tactic| walk_at "en") => `(tactic| ((simp -dsimp -implicitDefEqProofs only [↓wp_toX, wpX_ok, ↓bind_toX, ↓loopF_toX, ↓loopC_toX, ↓while_toX, bindX_ok, bindX_assoc, evS, evE, evO, evR, evL, evB, evA, evI, opt_some, opd_val, opd_bor, slotD_imm, slotD_own, fz_val, obind_some, omap_some, ofInt_int, ofBool_bool, items_list, items_tuple,
  run_add, run_sub, run_mul, run_fdiv, run_mod, run_lt, run_le, run_gt, run_ge, run_eqI, run_neI, run_isN, run_notN, run_not, run_neg, idx_list, idx_tuple, sli_list, sli_tuple, sli_scr, b_lenL, b_lenT, b_listS, b_listL, b_listT, b_tupL, b_tupT, b_max2, b_min2, b_int,
  argsOf_nil, argsOf_v, margs, retD_val, outs_nil, outs_f, outs_t, slotOf_f, slotOf_t, bindP_var, bindP_tup, bindPs_nil, bindPs_cons, wipe_nil, wipe_cons, back_nil, back_cons, mapM_nilO, mapM_consO, noOwn, isOwn, fz_bor,
  List.map_cons, List.map_nil, List.replicate_succ, List.replicate_zero, List.cons_append, List.nil_append, List.getElem?_cons_zero, List.getElem?_cons_succ, List.set_cons_zero, List.set_cons_succ, List.length_cons, List.length_nil, List.all_cons, List.all_nil, Option.getD_some,
  Nat.zero_add, Nat.reduceAdd, Nat.reduceLT, Nat.reduceLeDiff, Nat.lt_add_left_iff_pos, Nat.zero_lt_succ, Nat.reduceEqDiff, Int.reduceEq, Int.reduceLT, Int.reduceLE, Int.reduceNeg, inR_0, retD_bor, Bool.not_true, Bool.not_false, idx_sp0, idx_sp1, ofInt_nI, aug_n, eq_n, eq_n0, eq_n1, ne_n0, gt_n0, len_b, len_nT, len_nL, in_T, in_L, nin_T, nin_L, bindP_sp, items_b, items_nT, items_nL, isNone_oD, aug_i, sz0, sz1, sz2, sz3, sz4, sz5, argsOf_mE, argOf, putBack, omap_some, na5, putB_nil, at0, at1, at2, at3, at4, ix51, ix52, ix53, true_or, or_true, sm1, sm2, sm3, sm4, sm5, Bool.or_true, reduceIte, Bool.and_self, Bool.and_true, Bool.true_and, if_true, if_false, Bool.or_true, Bool.true_or, ne_eq, not_false_eq_true, not_true_eq_false, true_and, and_true,
  List.nodup_cons, List.nodup_nil, List.not_mem_nil, List.mem_cons, or_false, false_or]) <;> (try simp -dsimp only [wp_ofX])))
variable {gcs : Nat → Option D} {cd : CallSem}
def remV (top : Nat) : Option Nat → Nat
  | some v => top + 1 - v
  | none => 0
def rem (top : Nat) (f : List (Option Nat)) : Nat := (f.map (remV top)).sum
theorem rem_set {top s : Nat} {x : Option Nat} : ∀ {f : List (Option Nat)}, s < f.length → rem top (f.set s x) + remV top (f.getD s none) = rem top f + remV top x := fun {f} => by
  induction f generalizing s with
  | nil => intro h; exact absurd h (Nat.not_lt_zero _)
  | cons a r ih =>
    intro h
    cases s with
    | zero =>
      show remV top x + rem top r + remV top a = remV top a + rem top r + remV top x
      omega
    | succ s =>
      have := ih (s := s) (Nat.lt_of_succ_lt_succ h)
      show remV top a + rem top (r.set s x) + remV top (r.getD s none) = remV top a + rem top r + remV top x
      omega
theorem getD_set {f : List (Option Nat)} {s j : Nat} {x : Option Nat} (hs : s < f.length) : (f.set s x).getD j none = if j = s then x else f.getD j none := by
  rw [List.getD_eq_getElem?_getD]
  by_cases h : j = s
  · subst h
    rw [List.getElem?_set_self hs, if_pos rfl]; rfl
  · rw [List.getElem?_set_ne (Ne.symm h), if_neg h, List.getD_eq_getElem?_getD]
structure RInv (b : Bd) (g : List Int) (top : Nat) (f : List (Option Nat)) : Prop where
  len : f.length = b.length
  post : ∀ s, s < b.length → LeO (f.getD s none) (cutV top (needV b g f s))
  le : ∀ h : List (Option Nat), h.length = b.length → (∀ s, s < b.length → LeO (cutV top (needV b g h s)) (h.getD s none)) → ∀ s, s < b.length → LeO (f.getD s none) (h.getD s none)
  bd : ∀ s v, f.getD s none = some v → v ≤ top
def Stand (b : Bd) (g : List Int) (top : Nat) (f : List (Option Nat)) (s : Nat) : Prop := f.getD s none = cutV top (needV b g f s)
theorem RInv.init {b : Bd} {g : List Int} {top : Nat} : RInv b g top (List.replicate b.length (some 0)) := by
  have h0 : ∀ s, s < b.length → (List.replicate b.length (some 0)).getD s none = some 0 := fun s hs => by
    rw [List.getD_eq_getElem?_getD, List.getElem?_replicate, if_pos hs]; rfl
  refine ⟨List.length_replicate, fun s hs v _ => ⟨0, Nat.zero_le _, h0 s hs⟩, fun h _ _ s hs v _ => ⟨0, Nat.zero_le _, h0 s hs⟩, fun s v e => ?_⟩
  by_cases hs : s < b.length
  · rw [h0 s hs] at e; cases e; exact Nat.zero_le _
  · rw [List.getD_eq_getElem?_getD, List.getElem?_replicate, if_neg hs] at e; cases e
theorem RInv.step {m : Nat} {b : Bd} (hb : BOk m b) {g : List Int} {top : Nat} {f : List (Option Nat)} (I : RInv b g top f) {s : Nat} (hs : s < b.length) (h1 : f.getD s none ≠ none) (h2 : cutV top (needV b g f s) ≠ f.getD s none) :
    RInv b g top (f.set s (cutV top (needV b g f s))) ∧ rem top (f.set s (cutV top (needV b g f s))) < rem top f := by
  have hsl : s < f.length := by rw [I.len]; exact hs
  have hup : ∀ j, j < b.length → LeO (f.getD j none) ((f.set s (cutV top (needV b g f s))).getD j none) := fun j hj => by
    rw [getD_set hsl]
    split
    · rename_i e; subst e; exact I.post j hj
    · exact LeO.refl _
  refine ⟨⟨by rw [List.length_set]; exact I.len, fun j hj => ?_, fun h hl hp j hj => ?_, fun j v e => ?_⟩, ?_⟩
  · have hm := (needV_mono hb (g := g) hup hj).cut (top := top)
    rw [getD_set hsl]
    split
    · rename_i e; subst e; exact hm
    · exact (I.post j hj).trans hm
  · rw [getD_set hsl]
    split
    · rename_i e
      subst e
      exact ((needV_mono hb (g := g) (I.le h hl hp) hj).cut (top := top)).trans (hp j hj)
    · exact I.le h hl hp j hj
  · rw [getD_set hsl] at e
    split at e
    · exact (cutV_some.mp e).2
    · exact I.bd j v e
  · have hr := rem_set (top := top) (x := cutV top (needV b g f s)) hsl
    cases e : f.getD s none with
    | none => exact absurd e h1
    | some v =>
      have hv := I.bd s v e
      rw [e] at hr
      cases ex : cutV top (needV b g f s) with
      | none =>
        rw [ex] at hr
        change rem top (f.set s none) + (top + 1 - v) = rem top f + 0 at hr
        omega
      | some u =>
        have hu := (cutV_some.mp ex).2
        obtain ⟨w, hw, e3⟩ := I.post s hs u ex
        rw [e] at e3; cases e3
        rw [ex] at hr
        change rem top (f.set s (some u)) + (top + 1 - v) = rem top f + (top + 1 - u) at hr
        have : u ≠ v := fun z => h2 (by rw [ex, e, z])
        omega
theorem RInv.stay {b : Bd} {g : List Int} {top : Nat} {f : List (Option Nat)} (I : RInv b g top f) {s : Nat} (hs : s < b.length) (h : cutV top (needV b g f s) = f.getD s none ∨ f.getD s none = none) : Stand b g top f s := by
  rcases h with h | h
  · exact h.symm
  · cases e : cutV top (needV b g f s) with
    | none => exact h.trans e.symm
    | some u =>
      obtain ⟨w, _, e3⟩ := I.post s hs u e
      rw [h] at e3; cases e3
/-- the least fixed point -/
structure Lfp (b : Bd) (g : List Int) (top : Nat) (f : List (Option Nat)) : Prop where
  len : f.length = b.length
  fix : ∀ s, s < b.length → Stand b g top f s
  le : ∀ h : List (Option Nat), h.length = b.length → (∀ s, s < b.length → LeO (cutV top (needV b g h s)) (h.getD s none)) → ∀ s, s < b.length → LeO (f.getD s none) (h.getD s none)
def CRisen (cd : CallSem) : Prop := ∀ (b : Bd) (g : List Int) (top : Nat), (∃ m, BOk m b ∧ m ≤ 1000) → g.length = b.length → Wp (cd 162 [(false, bD b), (false, gD g), (false, nI top)]) fun r => ∃ f, Lfp b g top f ∧ r = ([], true, oT f)
theorem mul_zeros {n : Nat} (h1 : 1 ≤ n) (h2 : n ≤ 1000) : O2.run .mul (.list [.int 0]) (nI n) = some (.list ((List.replicate n (some 0)).map oD)) := by
  show (if (1 : Int) ≤ (n : Int) ∧ (n : Int) ≤ 1000 ∧ [PyData.int 0] ≠ [] ∧ [PyData.int 0].length ≤ 1000 then some (PyData.list (List.replicate (n : Int).toNat [PyData.int 0]).flatten) else none) = _
  rw [if_pos ⟨by omega, by omega, List.cons_ne_nil _ _, by show 1 ≤ 1000; omega⟩, Int.toNat_natCast]
  congr 2
  clear h1 h2
  induction n with
  | zero => rfl
  | succ n ih => rw [List.replicate_succ, List.flatten_cons, ih]; rfl
theorem wp_seq2 {a b : I} {d : DS} {Q : Out × DS → Prop} (J : DS → Prop) (h1 : Wp (evS gcs cd a d) fun q => q.1 = .nx ∧ J q.2) (h2 : ∀ d', J d' → Wp (evS gcs cd b d') Q) : Wp (evS gcs cd (.cons a b) d) Q := by
  obtain ⟨⟨o, d'⟩, e, rfl, j⟩ := h1
  obtain ⟨r, e2, q⟩ := h2 d' j
  exact ⟨r, by rw [evS, e, bind_okE]; exact e2, q⟩
theorem body2_ok (h161 : CNeed cd) {m : Nat} {b : Bd} (hb : BOk m b) (hm : m ≤ 1000) {g : List Int} {top : Nat} (hg : g.length = b.length) {f : List (Option Nat)} (hf : f.length = b.length) {i : Nat} (hi : i < b.length) (gr : Bool) (s6 : Slot) :
    Wp (evS gcs cd b_risen_2 [.imm (bD b), .imm (gD g), .imm (nI top), .own false (.list (f.map oD)), .imm (.bool gr), .imm (nI i), s6]) fun q => q.1 = .nx ∧ ∃ (f2 : List (Option Nat)) (gr2 : Bool) (s6' : Slot), q.2 = [.imm (bD b), .imm (gD g), .imm (nI top), .own false (.list (f2.map oD)), .imm (.bool gr2), .imm (nI i), s6'] ∧
      (((cutV top (needV b g f i) = f.getD i none ∨ f.getD i none = none) ∧ f2 = f ∧ gr2 = gr) ∨ (cutV top (needV b g f i) ≠ f.getD i none ∧ f.getD i none ≠ none ∧ f2 = f.set i (cutV top (needV b g f i)) ∧ gr2 = true)) := by
  have wb := hb.wb hm
  rw [b_risen_2]
  refine wp_seq2 (fun d => d = [.imm (bD b), .imm (gD g), .imm (nI top), .own false (.list (f.map oD)), .imm (.bool gr), .imm (nI i), .imm (oD (needV b g f i))]) ?_ ?_
  · walk_at "en"
    rw [h161 b g f i wb hg hf hi]
    walk_at "en"
  rintro d rfl
  refine wp_seq2 (fun d => d = [.imm (bD b), .imm (gD g), .imm (nI top), .own false (.list (f.map oD)), .imm (.bool gr), .imm (nI i), .imm (oD (cutV top (needV b g f i)))]) ?_ ?_
  · cases hv : needV b g f i with
    | none =>
      rw [show oD none = .none from rfl, show cutV top none = none from rfl]
      walk_at "en"
      rw [show isNone PyData.none = true from rfl]
      walk_at "en"
      rfl
    | some v =>
      rw [show oD (some v) = nI v from rfl]
      walk_at "en"
      rw [show isNone (nI v) = false from rfl]
      walk_at "en"
      rw [gt_n]
      walk_at "en"
      by_cases hc : top < v
      · rw [decide_eq_true hc]
        walk_at "en"
        rw [show cutV top (some v) = none from if_neg (by omega)]
        rfl
      · rw [decide_eq_false hc]
        walk_at "en"
        rw [show cutV top (some v) = some v from if_pos (by omega)]
        rfl
  rintro d rfl
  generalize cutV top (needV b g f i) = x
  walk_at "en"
  rw [idx_oL (by omega)]
  walk_at "en"
  rw [ne_oD]
  walk_at "en"
  by_cases hx : x = f.getD i none
  · rw [decide_eq_true hx]
    walk_at "en"
    exact ⟨f, gr, _, rfl, .inl ⟨.inl hx, rfl, rfl⟩⟩
  · rw [decide_eq_false hx]
    walk_at "en"
    rw [idx_oL (by omega)]
    walk_at "en"
    by_cases h0 : f.getD i none = none
    · rw [show (f.getD i none).isNone = true from by rw [h0]; rfl]
      walk_at "en"
      exact ⟨f, gr, _, rfl, .inl ⟨.inr h0, rfl, rfl⟩⟩
    · rw [show (f.getD i none).isNone = false from by cases q : f.getD i none; exact absurd q h0; rfl]
      walk_at "en"
      rw [ixN_nat (by rw [List.length_map]; omega)]
      walk_at "en"
      exact ⟨f.set i x, true, _, by rw [List.map_set], .inr ⟨hx, h0, rfl, rfl⟩⟩
theorem risen_ok (h161 : CNeed cd) (b : Bd) (g : List Int) (top : Nat) (hbm : ∃ m, BOk m b ∧ m ≤ 1000) (hg : g.length = b.length) : Wp (runFn gcs cd fn_risen [(false, bD b), (false, gD g), (false, nI top)]) fun r => ∃ f, Lfp b g top f ∧ r = ([], true, oT f) := by
  obtain ⟨m, hb, hm⟩ := hbm
  have wb := hb.wb hm
  have hn := wb.le
  refine wp_run rfl ?_
  rw [show fn_risen.body = b_risen from rfl, show fn_risen.nl = 4 from rfl, b_risen]
  walk_at "en"
  rw [mul_zeros hb.pos hn]
  walk_at "en"
  refine wp_bind (wp_while (fun k d => ∃ (f : List (Option Nat)) (gr : Bool) (s5 s6 : Slot), d = [.imm (bD b), .imm (gD g), .imm (nI top), .own false (.list (f.map oD)), .imm (.bool gr), s5, s6] ∧ RInv b g top f ∧ (gr = true → rem top f < k) ∧ (gr = false → ∀ s, s < b.length → Stand b g top f s))
    (rem top (List.replicate b.length (some 0)) + 1) ⟨_, true, _, _, rfl, RInv.init, fun _ => Nat.lt_succ_self _, (fun h => nomatch h)⟩ ?_)
  rintro k d ⟨f, gr, s5, s6, rfl, hI, hk, hst⟩
  rw [b_risen_1c]
  walk_at "en"
  refine ⟨fun hgr => ?_, fun hgr => ?_⟩
  · exact ⟨f, ⟨hI.len, hst hgr, hI.le⟩, rfl⟩
  have hk := hk hgr
  refine ⟨k - 1, by omega, ?_⟩
  clear hst
  rw [b_risen_1]
  walk_at "en"
  rw [inR_nat (by omega), rng_n]
  walk_at "en"
  refine wp_bind (wp_loopFm nI (fun i d => ∃ (f' : List (Option Nat)) (gr : Bool) (s5 s6 : Slot), d = [.imm (bD b), .imm (gD g), .imm (nI top), .own false (.list (f'.map oD)), .imm (.bool gr), s5, s6] ∧ RInv b g top f' ∧ (gr = true → rem top f' < rem top f) ∧ (gr = false → f' = f ∧ ∀ s, s < i → Stand b g top f s))
    ⟨f, false, _, _, rfl, hI, (fun h => nomatch h), fun _ => ⟨rfl, fun s h => absurd h (Nat.not_lt_zero _)⟩⟩ ?_ ?_)
  · rintro i s d hs ⟨f', gr', s5, s6, rfl, hI', hr, hst⟩
    obtain ⟨hil, hs⟩ := List.getElem?_eq_some_iff.mp hs
    rw [List.getElem_range] at hs
    subst hs
    rw [List.length_range] at hil
    walk_at "en"
    refine wp_mono (body2_ok h161 hb hm hg hI'.len hil gr' s6) ?_
    rintro ⟨o, d'⟩ ⟨rfl, f2, gr2, s6', rfl, h⟩
    rcases h with ⟨h1, rfl, rfl⟩ | ⟨h1, h2, rfl, rfl⟩
    · refine ⟨.inl rfl, f2, gr2, _, _, rfl, hI', hr, fun hg2 => ?_⟩
      obtain ⟨e, h3⟩ := hst hg2
      refine ⟨e, fun s hs => ?_⟩
      by_cases hsi : s = i
      · rw [hsi, ← e]
        exact hI'.stay hil h1
      · exact h3 s (by omega)
    · obtain ⟨h3, h4⟩ := hI'.step hb hil h2 h1
      refine ⟨.inl rfl, _, true, _, _, rfl, h3, fun _ => ?_, (fun h => nomatch h)⟩
      cases gr' with
      | true => have := hr rfl; omega
      | false => obtain ⟨e, _⟩ := hst rfl; rw [← e]; exact h4
  · rintro d ⟨f', gr', s5, s6, rfl, hI', hr, hst⟩
    rw [List.length_range] at hst
    walk_at "en"
    refine ⟨f', gr', s5, s6, rfl, hI', fun h => by have := hr h; omega, fun h => ?_⟩
    obtain ⟨e, h2⟩ := hst h
    subst e
    exact h2
end DL
/-! P25: least stores; stores that pay tolls. -/
namespace DL
open PySem PySem.Spec PyProof.Rows L2
local macro_rules | `(tactic| walk_at "en") => `(tactic| ((simp -dsimp -implicitDefEqProofs only [↓wp_toX, wpX_ok, ↓bind_toX, ↓loopF_toX, ↓loopC_toX, ↓while_toX, bindX_ok, bindX_assoc, evS, evE, evO, evR, evL, evB, evA, evI, opt_some, opd_val, opd_bor, slotD_imm, slotD_own, fz_val, obind_some, omap_some, ofInt_int, ofBool_bool, items_list, items_tuple,
  run_add, run_sub, run_mul, run_fdiv, run_mod, run_lt, run_le, run_gt, run_ge, run_eqI, run_neI, run_isN, run_notN, run_not, run_neg, idx_list, idx_tuple, sli_list, sli_tuple, sli_scr, b_lenL, b_lenT, b_listS, b_listL, b_listT, b_tupL, b_tupT, b_max2, b_min2, b_int,
  argsOf_nil, argsOf_v, margs, retD_val, outs_nil, outs_f, outs_t, slotOf_f, slotOf_t, bindP_var, bindP_tup, bindPs_nil, bindPs_cons, wipe_nil, wipe_cons, back_nil, back_cons, mapM_nilO, mapM_consO, noOwn, isOwn, fz_bor,
  List.map_cons, List.map_nil, List.replicate_succ, List.replicate_zero, List.cons_append, List.nil_append, List.getElem?_cons_zero, List.getElem?_cons_succ, List.set_cons_zero, List.set_cons_succ, List.length_cons, List.length_nil, List.all_cons, List.all_nil, Option.getD_some,
  Nat.zero_add, Nat.reduceAdd, Nat.reduceLT, Nat.reduceLeDiff, Nat.lt_add_left_iff_pos, Nat.zero_lt_succ, Nat.reduceEqDiff, Int.reduceEq, Int.reduceLT, Int.reduceLE, Int.reduceNeg, inR_0, retD_bor, Bool.not_true, Bool.not_false, idx_sp0, idx_sp1, ofInt_nI, aug_n, eq_n, eq_n0, eq_n1, ne_n0, gt_n0, len_b, len_nT, len_nL, in_T, in_L, nin_T, nin_L, bindP_sp, items_b, items_nT, items_nL, isNone_oD, aug_i, sz0, sz1, sz2, sz3, sz4, sz5, argsOf_mE, argOf, putBack, omap_some, na5, putB_nil, at0, at1, at2, at3, at4, ix51, ix52, ix53, true_or, or_true, sm1, sm2, sm3, sm4, sm5, Bool.or_true, reduceIte, Bool.and_self, Bool.and_true, Bool.true_and, if_true, if_false, Bool.or_true, Bool.true_or, ne_eq, not_false_eq_true, not_true_eq_false, true_and, and_true,
  List.nodup_cons, List.nodup_nil, List.not_mem_nil, List.mem_cons, or_false, false_or]) <;> (try simp -dsimp only [wp_ofX])))
variable {gcs : Nat → Option D} {cd : CallSem}
def maxG (g : List Int) : Nat := (g.map Int.natAbs).max?.getD 0
theorem maxG_le {g : List Int} {z : Int} (h : z ∈ g) : z.natAbs ≤ maxG g := by
  unfold maxG
  have hm : z.natAbs ∈ g.map Int.natAbs := List.mem_map.mpr ⟨z, h, rfl⟩
  cases e : (g.map Int.natAbs).max? with
  | none => rw [List.max?_eq_none_iff.mp e] at hm; cases hm
  | some M => exact (List.max?_eq_some_iff.mp e).2 _ hm
theorem run_absI {z : Int} : B1.run .abs [.int z] = some (nI z.natAbs) := by
  show some (PyData.int (if z < 0 then -z else z)) = some (PyData.int ((z.natAbs : Nat) : Int))
  congr 2
  split <;> omega
def CStores (cd : CallSem) : Prop := ∀ (b : Bd) (g : List Int), (∃ m, BOk m b ∧ m ≤ 1000) → g.length = b.length → Wp (cd 163 [(false, bD b), (false, gD g)]) fun r => ∃ f, Lfp b g (b.length * maxG g) f ∧ r = ([], true, oT f)
theorem stores_ok (h162 : CRisen cd) (b : Bd) (g : List Int) (hbm : ∃ m, BOk m b ∧ m ≤ 1000) (hg : g.length = b.length) : Wp (runFn gcs cd fn_least_stores [(false, bD b), (false, gD g)]) fun r => ∃ f, Lfp b g (b.length * maxG g) f ∧ r = ([], true, oT f) := by
  obtain ⟨m, hb, hm⟩ := hbm
  have hn := hb.le
  have hpos := hb.pos
  refine wp_run rfl ?_
  rw [show fn_least_stores.body = b_least_stores from rfl, show fn_least_stores.nl = 1 from rfl, b_least_stores]
  walk_at "en"
  rw [show items (gD g) = some (g.map .int) from rfl]
  walk_at "en"
  refine wp_bind (wp_loopCm (PyData.int) (fun z => some (nI z.natAbs)) (fun z hz => ?_) (small_le (by omega)) ?_)
  · refine ev_eq ?_
    walk_at "en"
    rw [run_absI]
    walk_at "en"
    try rfl
  rw [comp_map]
  walk_at "en"
  have hM : (g.map Int.natAbs).max? = some (maxG g) := by
    cases e : (g.map Int.natAbs).max? with
    | none =>
      have := List.max?_eq_none_iff.mp e
      rw [List.map_eq_nil_iff] at this
      rw [this] at hg
      change 0 = b.length at hg
      omega
    | some M => unfold maxG; rw [e]; rfl
  rw [show (g.map fun z => nI z.natAbs) = (g.map Int.natAbs).map nI from by rw [List.map_map]; rfl, b_maxN hM]
  walk_at "en"
  rw [show O2.run .mul (nI b.length) (nI (maxG g)) = some (nI (b.length * maxG g)) from by
    show (if small (b.length : Int) || small (maxG g : Int) then some (PyData.int ((b.length : Int) * (maxG g : Int))) else none) = _
    rw [if_pos (by
      rw [Bool.or_eq_true]
      left
      unfold small
      rw [Bool.and_eq_true]
      exact ⟨decide_eq_true (by omega), decide_eq_true (by omega)⟩)]
    show _ = some (PyData.int ((b.length * maxG g : Nat) : Int))
    rw [Int.natCast_mul]]
  walk_at "en"
  refine wp_bind (wp_mono (h162 b g (b.length * maxG g) ⟨m, hb, hm⟩ hg) ?_)
  rintro r ⟨f, hf, rfl⟩
  walk_at "en"
  exact ⟨f, hf, rfl⟩
/-! ### tolls as gains -/
def endB (b : Bd) (goal : List Nat) : Bd := (List.range b.length).map fun s => if s ∈ goal then ((b.getD s (0, [])).1, [s]) else b.getD s (0, [])
def endG (t goal : List Nat) (n : Nat) : List Int := (List.range n).map fun s => if s ∈ goal then 0 else 0 - (t.getD s 0 : Int)
theorem endB_len (b : Bd) (goal : List Nat) : (endB b goal).length = b.length := by unfold endB; rw [List.length_map, List.length_range]
theorem endB_get {b : Bd} {goal : List Nat} {s o : Nat} {ws : List Nat} (e : b[s]? = some (o, ws)) : (endB b goal)[s]? = some (o, if s ∈ goal then [s] else ws) := by
  have hs := (List.getElem?_eq_some_iff.mp e).1
  unfold endB
  rw [List.getElem?_map, List.getElem?_range hs]
  have hd : b.getD s (0, []) = (o, ws) := by rw [List.getD_eq_getElem?_getD, e]; rfl
  rw [Option.map_some, hd]
  split <;> rfl
theorem endB_ok {m : Nat} {b : Bd} (hb : BOk m b) (goal : List Nat) : BOk m (endB b goal) := by
  have key : ∀ x ∈ endB b goal, ∃ (s o : Nat) (ws : List Nat), s < b.length ∧ (o, ws) ∈ b ∧ x = (o, if s ∈ goal then [s] else ws) := fun x hx => by
    obtain ⟨s, hs⟩ := List.getElem?_of_mem hx
    have hl := (List.getElem?_eq_some_iff.mp hs).1
    rw [endB_len] at hl
    obtain ⟨o, ws, e, hm⟩ := spot_at hl
    rw [endB_get e] at hs
    exact ⟨s, o, ws, hl, hm, (Option.some.inj hs).symm⟩
  refine ⟨by rw [endB_len]; exact hb.pos, by rw [endB_len]; exact hb.le, ?_, ?_, ?_, ?_, ?_⟩ <;> intro x hx <;> obtain ⟨s, o, ws, hl, hm, rfl⟩ := key x hx
  · exact hb.own (o, ws) hm
  · show (if s ∈ goal then [s] else ws) ≠ []
    split
    · exact List.cons_ne_nil _ _
    · exact hb.ne (o, ws) hm
  · show (if s ∈ goal then [s] else ws).length ≤ 3
    split
    · show 1 ≤ 3; omega
    · exact hb.ln (o, ws) hm
  · show (if s ∈ goal then [s] else ws).Pairwise (· < ·)
    split
    · exact List.pairwise_singleton _ _
    · exact hb.inc (o, ws) hm
  · intro w hw
    change w ∈ (if s ∈ goal then [s] else ws) at hw
    rw [endB_len]
    split at hw
    · rw [List.mem_singleton] at hw; subst hw; exact hl
    · exact hb.lt (o, ws) hm w hw
theorem endG_len (t goal : List Nat) (n : Nat) : (endG t goal n).length = n := by unfold endG; rw [List.length_map, List.length_range]
theorem endG_get {t goal : List Nat} {n s : Nat} (h : s < n) : (endG t goal n).getD s 0 = if s ∈ goal then 0 else 0 - (t.getD s 0 : Int) := by
  unfold endG
  rw [List.getD_eq_getElem?_getD, List.getElem?_map, List.getElem?_range h]; rfl
/-- how many spots have less -/
def lessN (f : List (Option Nat)) (n v : Nat) : Nat := ((List.range n).filter fun x => match f.getD x none with
  | some u => decide (u < v)
  | none => false).length
theorem toll_top {m : Nat} {b : Bd} (hb : BOk m b) {t goal : List Nat} {f : List (Option Nat)} (hf : TFix b t goal f) (ht : ∀ s, s < b.length → 1 ≤ t.getD s 0) {M : Nat} (hM : ∀ s, s < b.length → s ∉ goal → t.getD s 0 ≤ M) :
    ∀ v s, s < b.length → f.getD s none = some v → v ≤ lessN f b.length v * M := fun v => by
  induction v using Nat.strongRecOn with
  | ind v ih =>
    intro s hs e
    by_cases hg : s ∈ goal
    · rw [hf.at hs, tollV_goal hg] at e
      cases e
      exact Nat.zero_le _
    · obtain ⟨o, ws, e1, hm⟩ := spot_at hs
      rw [hf.at hs, tollV_not hg e1] at e
      obtain ⟨u, h2, h3⟩ := Option.map_eq_some_iff.mp e
      obtain ⟨w, hw, e2⟩ := List.mem_map.mp (pick_mem h2)
      have h1 := ht s hs
      have hMs := hM s hs hg
      have hwl := hb.lt _ hm w hw
      have h4 := ih u (by omega) w hwl e2
      have hlt : lessN f b.length u < lessN f b.length v := by
        unfold lessN
        refine filter_lt (fun x _ hx => ?_) (a := w) (List.mem_range.mpr hwl) (by rw [e2]; exact decide_eq_true (by omega)) (by rw [e2]; exact decide_eq_false (by omega))
        cases q : f.getD x none with
        | none => rw [q] at hx; cases hx
        | some y => rw [q] at hx; exact decide_eq_true (by have := of_decide_eq_true hx; omega)
      have h5 : (lessN f b.length u + 1) * M ≤ lessN f b.length v * M := Nat.mul_le_mul_right M hlt
      rw [Nat.add_mul, Nat.one_mul] at h5
      omega
theorem lessN_le (f : List (Option Nat)) (n v : Nat) : lessN f n v ≤ n := by
  unfold lessN
  exact Nat.le_trans (List.length_filter_le _ _) (by rw [List.length_range]; exact Nat.le_refl _)
theorem stores_tolls {m : Nat} {b : Bd} (hb : BOk m b) {t goal : List Nat} {f g : List (Option Nat)} {top : Nat} (hf : TFix b t goal f) (ht : ∀ s, s < b.length → 1 ≤ t.getD s 0) (hg : Lfp (endB b goal) (endG t goal b.length) top g) (hT : ∀ s v, s < b.length → f.getD s none = some v → v ≤ top) : g = f := by
  have hl := hg.len
  rw [endB_len] at hl
  have need_goal : ∀ (h : List (Option Nat)) s, s < b.length → s ∈ goal → needV (endB b goal) (endG t goal b.length) h s = h.getD s none := fun h s hs hsg => by
    obtain ⟨o, ws, e, hm⟩ := spot_at hs
    have e2 := endB_get (goal := goal) e
    rw [if_pos hsg] at e2
    rw [needV_at e2, endG_get hs, if_pos hsg]
    have ho := hb.own _ hm
    dsimp only at ho
    show (pick o [h.getD s none]).map (needN 0) = _
    have hid : ∀ u, needN 0 u = u := fun u => by unfold needN; omega
    cases q : h.getD s none with
    | none =>
      have : pick o [none] = none := by unfold pick; rw [if_pos (.inl rfl)]
      rw [this]; rfl
    | some v =>
      have : pick o [some v] = some v := by
        rcases (show o = 0 ∨ o = 1 by omega) with rfl | rfl
        · exact pick0.mpr ⟨List.mem_singleton.mpr rfl, fun u hu => by rw [List.mem_singleton] at hu; cases hu; exact Nat.le_refl _⟩
        · exact pick1.mpr ⟨(fun x hx => by rw [List.mem_singleton.mp hx]; exact fun z => nomatch z), List.mem_singleton.mpr rfl, fun u hu => by rw [List.mem_singleton] at hu; cases hu; exact Nat.le_refl _⟩
      rw [this, Option.map_some, hid]
  have need_not : ∀ (h : List (Option Nat)) s o ws, s < b.length → s ∉ goal → b[s]? = some (o, ws) → needV (endB b goal) (endG t goal b.length) h s = (pick o (ws.map fun w => h.getD w none)).map fun u => t.getD s 0 + u := fun h s o ws hs hsg e => by
    have e2 := endB_get (goal := goal) e
    rw [if_neg hsg] at e2
    rw [needV_at e2, endG_get hs, if_neg hsg]
    congr 1
    funext u
    unfold needN
    omega
  have h1 : ∀ s, s < b.length → LeO (g.getD s none) (f.getD s none) := fun s hs => by
    refine hg.le f (by rw [hf.1, endB_len]) (fun s hs => ?_) s (by rw [endB_len]; exact hs)
    rw [endB_len] at hs
    by_cases hsg : s ∈ goal
    · rw [need_goal f s hs hsg]
      exact fun v e => ⟨v, Nat.le_refl _, cutV_some.mpr ⟨e, hT s v hs e⟩⟩
    · obtain ⟨o, ws, e, hm⟩ := spot_at hs
      rw [need_not f s o ws hs hsg e, ← tollV_not hsg e, ← hf.at hs]
      exact fun v e => ⟨v, Nat.le_refl _, cutV_some.mpr ⟨e, hT s v hs e⟩⟩
  have h2 : ∀ s, s < b.length → LeO (f.getD s none) (g.getD s none) := fun s hs v e =>
    toll_cmp hb hf (t' := fun s => t.getD s 0) (goal' := goal) (f' := fun s => g.getD s none) (fun s hs => ⟨ht s hs, Nat.le_refl _⟩) (fun s h => h) (fun s v hs e => by
      by_cases hsg : s ∈ goal
      · exact .inl hsg
      · obtain ⟨o, ws, e1, hm⟩ := spot_at hs
        have hst := hg.fix s (by rw [endB_len]; exact hs)
        unfold Stand at hst
        rw [need_not g s o ws hs hsg e1] at hst
        rw [e] at hst
        obtain ⟨h3, _⟩ := cutV_some.mp hst.symm
        obtain ⟨u, h4, h5⟩ := Option.map_eq_some_iff.mp h3
        exact .inr ⟨o, ws, u, e1, h4, by omega⟩) v s hs e
  exact list_ext_getD (by rw [hl, hf.1]) fun s hs => (h1 s (by omega)).antisymm (h2 s (by omega))
end DL
/-! P26: drawing steps are tolls of one; scaled tolls. -/
namespace DL
open PySem PySem.Spec PyProof.Rows L2
theorem known_mono' {b : Bd} {p : Nat} {goal : List Nat} {s i j : Nat} (h : known (stF b p goal i) s = true) (hij : i ≤ j) : known (stF b p goal j) s = true := by
  induction hij with
  | refl => exact h
  | step _ ih => exact known_mono _ ih
theorem stF_val {b : Bd} {p : Nat} {goal : List Nat} {s : Nat} (hs : s < b.length) : ∀ (k v : Nat), (stF b p goal k).getD s none = some v ↔ v ≤ k ∧ known (stF b p goal v) s = true ∧ ∀ j, j < v → known (stF b p goal j) s = false
  | 0, v => by
    have hk : known (stF b p goal 0) s = decide (s ∈ goal) := st0_known hs
    have hv : (stF b p goal 0).getD s none = if s ∈ goal then some 0 else none := map_getD hs
    rw [hv]
    by_cases h : s ∈ goal
    · rw [if_pos h]
      constructor
      · intro e; cases e
        exact ⟨Nat.le_refl _, by rw [hk, decide_eq_true h], fun j hj => absurd hj (Nat.not_lt_zero _)⟩
      · rintro ⟨h1, _⟩
        rw [show v = 0 by omega]
    · rw [if_neg h]
      refine ⟨(fun e => nomatch e), fun ⟨h1, h2, _⟩ => ?_⟩
      rw [show v = 0 by omega, hk, decide_eq_false h] at h2
      cases h2
  | k + 1, v => by
    have hg : (stF b p goal (k + 1)).getD s none = if newly b p (stF b p goal k) s then some (k + 1) else (stF b p goal k).getD s none := rnd_get hs
    have hkn : known (stF b p goal (k + 1)) s = (known (stF b p goal k) s || newly b p (stF b p goal k) s) := rnd_known hs
    rw [hg]
    by_cases hn : newly b p (stF b p goal k) s = true
    · rw [if_pos hn]
      have hnk : known (stF b p goal k) s = false := by
        unfold newly at hn
        rw [Bool.and_eq_true, Bool.not_eq_true'] at hn
        exact hn.1
      have hno : ∀ j, j < k + 1 → known (stF b p goal j) s = false := fun j hj => by
        cases q : known (stF b p goal j) s with
        | false => rfl
        | true => rw [known_mono' q (show j ≤ k by omega)] at hnk; cases hnk
      constructor
      · intro e; cases e
        exact ⟨Nat.le_refl _, by rw [hkn, hn, Bool.or_true], hno⟩
      · rintro ⟨h1, h2, h3⟩
        rcases Nat.lt_or_eq_of_le h1 with h | h
        · rw [hno v h] at h2; cases h2
        · rw [h]
    · rw [if_neg hn, stF_val hs k v]
      constructor
      · rintro ⟨h1, h2⟩; exact ⟨by omega, h2⟩
      · rintro ⟨h1, h2, h3⟩
        refine ⟨?_, h2, h3⟩
        rcases Nat.lt_or_eq_of_le h1 with h | h
        · omega
        · rw [h, hkn, Bool.eq_false_iff.mpr hn, Bool.or_false] at h2
          have := h3 k (by omega)
          rw [h2] at this; cases this
theorem known_val {f : List (Option Nat)} {s : Nat} : known f s = (f.getD s none).isSome := rfl
theorem pull_known {b : Bd} {p : Nat} {goal : List Nat} {s j : Nat} (hs : s < b.length) (h : pull b p (stF b p goal j) s = true) : known (stF b p goal (j + 1)) s = true := by
  rw [show stF b p goal (j + 1) = rnd b p (stF b p goal j) (j + 1) from rfl, rnd_known hs]
  unfold newly
  rw [h, Bool.and_true]
  cases known (stF b p goal j) s <;> rfl
theorem known_pull {b : Bd} {p : Nat} {goal : List Nat} {s j : Nat} (hs : s < b.length) (h1 : known (stF b p goal (j + 1)) s = true) (h2 : known (stF b p goal j) s = false) : pull b p (stF b p goal j) s = true := by
  rw [show stF b p goal (j + 1) = rnd b p (stF b p goal j) (j + 1) from rfl, rnd_known hs, h2, Bool.false_or] at h1
  unfold newly at h1
  exact (Bool.and_eq_true_iff.mp h1).2
theorem ones_get {n s : Nat} (h : s < n) : (List.replicate n 1).getD s 0 = 1 := by
  rw [List.getD_eq_getElem?_getD, List.getElem?_replicate, if_pos h]; rfl
theorem steps_fix {m : Nat} {b : Bd} (hb : BOk m b) {goal : List Nat} {K : Nat} (hK : stF b 0 goal (K + 1) = stF b 0 goal K) : TFix b (List.replicate b.length 1) goal (stF b 0 goal K) := by
  refine ⟨stF_len .., list_ext_getD (by rw [after_len, stF_len]) fun s hs => ?_⟩
  rw [after_len] at hs
  rw [after_get hs]
  by_cases hg : s ∈ goal
  · rw [tollV_goal hg]
    exact ((stF_val hs K 0).mpr ⟨Nat.zero_le _, known_goal hg hs 0, fun j hj => absurd hj (Nat.not_lt_zero _)⟩).symm
  obtain ⟨o, ws, e, hm⟩ := spot_at hs
  rw [tollV_not hg e, ones_get hs]
  have hlt := hb.lt _ hm
  have ho : o = 0 ∨ o = 1 := by have := hb.own _ hm; dsimp only at this; omega
  have pull0 : ∀ j, o = 0 → (pull b 0 (stF b 0 goal j) s = true ↔ ∃ w ∈ ws, known (stF b 0 goal j) w = true) := fun j h => by
    unfold pull; rw [e]; dsimp only; rw [if_pos h, List.any_eq_true]
  have pull1 : ∀ j, o = 1 → (pull b 0 (stF b 0 goal j) s = true ↔ ∀ w ∈ ws, known (stF b 0 goal j) w = true) := fun j h => by
    unfold pull; rw [e]; dsimp only; rw [if_neg (by omega), List.all_eq_true]
  cases hD : (stF b 0 goal K).getD s none with
  | some v =>
    obtain ⟨h1, h2, h3⟩ := (stF_val hs K v).mp hD
    cases v with
    | zero =>
      rw [show stF b 0 goal 0 = st0 b goal from rfl, st0_known hs] at h2
      exact absurd (of_decide_eq_true h2) hg
    | succ j =>
      have hp := known_pull hs h2 (h3 j (by omega))
      have hback : ∀ i, i < j → pull b 0 (stF b 0 goal i) s = false := fun i hi => by
        cases q : pull b 0 (stF b 0 goal i) s with
        | false => rfl
        | true =>
          have := pull_known hs q
          rw [h3 (i + 1) (by omega)] at this; cases this
      have hpick : pick o (ws.map fun w => (stF b 0 goal K).getD w none) = some j := by
        rcases ho with rfl | rfl
        · have hge : ∀ w ∈ ws, ∀ u, (stF b 0 goal K).getD w none = some u → j ≤ u := fun w hw u hu => by
            obtain ⟨_, g2, _⟩ := (stF_val (hlt w hw) K u).mp hu
            refine Nat.le_of_not_lt fun q => ?_
            have := (pull0 u rfl).mpr ⟨w, hw, g2⟩
            rw [hback u q] at this; cases this
          obtain ⟨w, hw, hkw⟩ := (pull0 j rfl).mp hp
          refine pick0.mpr ⟨List.mem_map.mpr ⟨w, hw, ?_⟩, fun u hu => ?_⟩
          · refine (stF_val (hlt w hw) K j).mpr ⟨by omega, hkw, fun i hi => ?_⟩
            cases q : known (stF b 0 goal i) w with
            | false => rfl
            | true =>
              have := (pull0 i rfl).mpr ⟨w, hw, q⟩
              rw [hback i hi] at this; cases this
          · obtain ⟨w2, hw2, e2⟩ := List.mem_map.mp hu
            exact hge w2 hw2 u e2
        · have hall := (pull1 j rfl).mp hp
          have hval : ∀ w ∈ ws, ∃ u, u ≤ j ∧ (stF b 0 goal K).getD w none = some u := fun w hw => by
            obtain ⟨u, g1, g2, g3⟩ := least_of (P := fun u => known (stF b 0 goal u) w = true) j (hall w hw)
            refine ⟨u, g2, (stF_val (hlt w hw) K u).mpr ⟨by omega, g1, fun i hi => ?_⟩⟩
            cases q : known (stF b 0 goal i) w with
            | false => rfl
            | true => exact absurd q (g3 i hi)
          obtain ⟨u, hu, hpu⟩ := pick1_ex (b := j) (near := ws.map fun w => (stF b 0 goal K).getD w none) (fun z => hb.ne _ hm (List.map_eq_nil_iff.mp z)) fun x hx => by
            obtain ⟨w, hw, rfl⟩ := List.mem_map.mp hx
            exact hval w hw
          rw [hpu]
          rcases Nat.lt_or_eq_of_le hu with h | h
          · exfalso
            have hk : pull b 0 (stF b 0 goal u) s = true := (pull1 u rfl).mpr fun w hw => by
              obtain ⟨x, _, hx⟩ := hval w hw
              have hle := (pick1.mp hpu).2.2 x (List.mem_map.mpr ⟨w, hw, hx⟩)
              obtain ⟨_, g2, _⟩ := (stF_val (hlt w hw) K x).mp hx
              exact known_mono' g2 hle
            rw [hback u h] at hk; cases hk
          · rw [h]
      rw [hpick, Option.map_some, Nat.add_comm]
  | none =>
    have hnk : known (stF b 0 goal K) s = false := by rw [known_val, hD]; rfl
    have hnp : pull b 0 (stF b 0 goal K) s = false := by
      cases q : pull b 0 (stF b 0 goal K) s with
      | false => rfl
      | true => rw [stable_pull hK hs q] at hnk; cases hnk
    cases hpk : pick o (ws.map fun w => (stF b 0 goal K).getD w none) with
    | none => rfl
    | some u =>
      exfalso
      rcases ho with rfl | rfl
      · obtain ⟨w, hw, e2⟩ := List.mem_map.mp (pick_mem hpk)
        have := (pull0 K rfl).mpr ⟨w, hw, by rw [known_val, e2]; rfl⟩
        rw [hnp] at this; cases this
      · have := (pull1 K rfl).mpr fun w hw => by
          have := (pick1.mp hpk).1 _ (List.mem_map.mpr ⟨w, hw, rfl⟩)
          rw [known_val]
          cases q : (stF b 0 goal K).getD w none with
          | none => exact absurd q this
          | some => rfl
        rw [hnp] at this; cases this
theorem after_endB {b : Bd} {t goal : List Nat} {f : List (Option Nat)} : after (endB b goal) t goal f = after b t goal f := by
  unfold after
  rw [endB_len]
  refine List.map_congr_left fun s hs => ?_
  have hs := List.mem_range.mp hs
  by_cases hg : s ∈ goal
  · rw [tollV_goal hg, tollV_goal hg]
  · obtain ⟨o, ws, e, hm⟩ := spot_at hs
    have e2 := endB_get (goal := goal) e
    rw [if_neg hg] at e2
    rw [tollV_not hg e, tollV_not hg e2]
theorem TFix.ofEnd {b : Bd} {t goal : List Nat} {f : List (Option Nat)} (h : TFix (endB b goal) t goal f) : TFix b t goal f := ⟨by rw [h.1, endB_len], by rw [← after_endB]; exact h.2⟩
theorem getD_map_o {f : List (Option Nat)} {φ : Option Nat → Option Nat} (h : φ none = none) (s : Nat) : (f.map φ).getD s none = φ (f.getD s none) := by
  rw [List.getD_eq_getElem?_getD, List.getElem?_map, List.getD_eq_getElem?_getD]
  cases f[s]? with
  | none => exact h.symm
  | some x => rfl
theorem getD_map_n {t : List Nat} {k : Nat} (s : Nat) : (t.map fun x => k * x).getD s 0 = k * t.getD s 0 := by
  rw [List.getD_eq_getElem?_getD, List.getElem?_map, List.getD_eq_getElem?_getD]
  cases t[s]? <;> rfl
theorem scale_fix {b : Bd} {t goal : List Nat} {f : List (Option Nat)} (hf : TFix b t goal f) (k : Nat) : TFix b (t.map fun x => k * x) goal (f.map (Option.map fun x => k * x)) := by
  refine ⟨by rw [List.length_map]; exact hf.1, list_ext_getD (by rw [after_len, List.length_map, hf.1]) fun s hs => ?_⟩
  rw [after_len] at hs
  rw [after_get hs, getD_map_o (φ := Option.map fun x => k * x) rfl, hf.at hs]
  by_cases hg : s ∈ goal
  · rw [tollV_goal hg, tollV_goal hg]; rfl
  · obtain ⟨o, ws, e, hm⟩ := spot_at hs
    rw [tollV_not hg e, tollV_not hg e, show (ws.map fun w => (f.map (Option.map fun x => k * x)).getD w none) = (ws.map fun w => f.getD w none).map (Option.map fun x => k * x) from by
      rw [List.map_map]
      exact List.map_congr_left fun w _ => getD_map_o (φ := Option.map fun x => k * x) rfl w, pick_map (fun a b h => Nat.mul_le_mul_left k h), getD_map_n]
    cases pick o (ws.map fun w => f.getD w none) with
    | none => rfl
    | some u => show some (k * t.getD s 0 + k * u) = some (k * (t.getD s 0 + u)); rw [Nat.mul_add]
theorem mul_ones {n : Nat} (h1 : 1 ≤ n) (h2 : n ≤ 1000) : O2.run .mul (.tuple [.int 1]) (nI n) = some (nT (List.replicate n 1)) := by
  show (if (1 : Int) ≤ (n : Int) ∧ (n : Int) ≤ 1000 ∧ [PyData.int 1] ≠ [] ∧ [PyData.int 1].length ≤ 1000 then some (PyData.tuple (List.replicate (n : Int).toNat [PyData.int 1]).flatten) else none) = _
  rw [if_pos ⟨by omega, by omega, List.cons_ne_nil _ _, by show 1 ≤ 1000; omega⟩, Int.toNat_natCast]
  unfold nT
  congr 2
  clear h1 h2
  induction n with
  | zero => rfl
  | succ n ih => rw [List.replicate_succ, List.flatten_cons, ih]; rfl
end DL
/-! P38: stores with caps, and without. -/
namespace DL
open PySem PySem.Spec PyProof.Rows L2
theorem Lfp.need {b : Bd} {g : List Int} {top : Nat} {f : List (Option Nat)} (h : Lfp b g top f) {s v : Nat} (hs : s < b.length) (e : f.getD s none = some v) : needV b g f s = some v ∧ v ≤ top := by
  have := h.fix s hs
  unfold Stand at this
  rw [e] at this
  exact cutV_some.mp this.symm
theorem Lfp.lt {b : Bd} {g : List Int} {top : Nat} {f : List (Option Nat)} (h : Lfp b g top f) {s v : Nat} (e : f.getD s none = some v) : s < b.length := by
  refine Nat.lt_of_not_le fun hl => ?_
  rw [List.getD_eq_getElem?_getD, List.getElem?_eq_none (by rw [h.len]; exact hl)] at e
  cases e
theorem lfp_le {b : Bd} {g : List Int} {top top' : Nat} {f f' : List (Option Nat)} (h : Lfp b g top f) (h' : Lfp b g top' f') (hv : ∀ s v, s < b.length → f'.getD s none = some v → v ≤ top) : ∀ s, s < b.length → LeO (f.getD s none) (f'.getD s none) :=
  h.le f' h'.len fun s hs v e => ⟨v, Nat.le_refl _, cutV_some.mpr ⟨(h'.need hs e).1, hv s v hs e⟩⟩
def dropφ (v y : Nat) : Nat := if v ≤ y then y - 1 else y
theorem dropφ_mono (v a b : Nat) (h : a ≤ b) : dropφ v a ≤ dropφ v b := by
  unfold dropφ
  split <;> split <;> omega
theorem getD_map_o' {f : List (Option Nat)} {φ : Nat → Nat} (s : Nat) : (f.map (Option.map φ)).getD s none = (f.getD s none).map φ := by
  rw [List.getD_eq_getElem?_getD, List.getD_eq_getElem?_getD, List.getElem?_map]
  cases f[s]? <;> rfl
theorem g_le {g : List Int} {s : Nat} : (g.getD s 0).natAbs ≤ maxG g := by
  rw [List.getD_eq_getElem?_getD]
  cases e : g[s]? with
  | none => exact Nat.zero_le _
  | some z => exact maxG_le (List.mem_of_getElem? e)
/-- no gap is wider than the greatest gain -/
theorem lfp_gap {m : Nat} {b : Bd} (hb : BOk m b) {g : List Int} {top : Nat} {f : List (Option Nat)} (h : Lfp b g top f) {s v : Nat} (e : f.getD s none = some v) (hv : maxG g < v) : ∃ x u, f.getD x none = some u ∧ u < v ∧ v ≤ u + maxG g := by
  refine Classical.byContradiction fun hno => ?_
  have hs := h.lt e
  have hle := h.le (f.map (Option.map (dropφ v))) (by rw [List.length_map]; exact h.len) (fun s hs v' e' => ?_) s hs
  · rw [getD_map_o', e, Option.map_some] at hle
    obtain ⟨u, h1, h2⟩ := hle _ rfl
    cases h2
    unfold dropφ at h1
    rw [if_pos (Nat.le_refl _)] at h1
    omega
  · rw [getD_map_o'] at e'
    obtain ⟨y, ey, rfl⟩ := Option.map_eq_some_iff.mp e'
    obtain ⟨hn, ht⟩ := h.need hs ey
    obtain ⟨o, ws, eb, hm⟩ := spot_at hs
    rw [needV_at eb] at hn
    obtain ⟨u, hu, hy⟩ := Option.map_eq_some_iff.mp hn
    have hp : pick o (ws.map fun w => (f.map (Option.map (dropφ v))).getD w none) = some (dropφ v u) := by
      have := pick_map (φ := dropφ v) (dropφ_mono v) o (ws.map fun w => f.getD w none)
      rw [hu, List.map_map] at this
      exact (congrArg (pick o) (List.map_congr_left fun w _ => getD_map_o' w)).trans this
    have hg := g_le (g := g) (s := s)
    have key : needN (g.getD s 0) (dropφ v u) ≤ dropφ v y := by
      by_cases hy2 : v ≤ y
      · have h2 : dropφ v y = y - 1 := if_pos hy2
        rw [h2]
        have hu2 : (dropφ v u : Int) - g.getD s 0 ≤ (y : Int) - 1 := by
          by_cases huv : v ≤ u
          · have : dropφ v u = u - 1 := if_pos huv
            rw [this]
            have : (u : Int) - g.getD s 0 ≤ (y : Int) := by rw [← hy]; unfold needN; omega
            omega
          · have : dropφ v u = u := if_neg huv
            rw [this]
            obtain ⟨w, hw, ew⟩ := List.mem_map.mp (pick_mem hu)
            have : ¬ v ≤ u + maxG g := fun hc => hno ⟨w, u, ew, by omega, hc⟩
            omega
        unfold needN
        omega
      · have h2 : dropφ v y = y := if_neg hy2
        rw [h2]
        have h3 : dropφ v u ≤ u := by unfold dropφ; split <;> omega
        have := needN_mono (g.getD s 0) _ _ h3
        omega
    refine ⟨needN (g.getD s 0) (dropφ v u), key, cutV_some.mpr ⟨?_, ?_⟩⟩
    · rw [needV_at eb, hp]; rfl
    · have : dropφ v y ≤ y := by unfold dropφ; split <;> omega
      omega
theorem lessN_lt {f : List (Option Nat)} {n u v x : Nat} (hx : x < n) (e : f.getD x none = some u) (h : u < v) : lessN f n u < lessN f n v := by
  unfold lessN
  refine filter_lt (fun x _ hx => ?_) (a := x) (List.mem_range.mpr hx) (by rw [e]; exact decide_eq_true h) (by rw [e]; exact decide_eq_false (by omega))
  cases q : f.getD x none with
  | none => rw [q] at hx; cases hx
  | some y => rw [q] at hx; exact decide_eq_true (by have := of_decide_eq_true hx; omega)
/-- a store is no greater than all the gains together -/
theorem lfp_bd {m : Nat} {b : Bd} (hb : BOk m b) {g : List Int} {top : Nat} {f : List (Option Nat)} (h : Lfp b g top f) : ∀ v s, f.getD s none = some v → v ≤ (lessN f b.length v + 1) * maxG g := fun v => by
  induction v using Nat.strongRecOn with
  | ind v ih =>
    intro s e
    by_cases hv : maxG g < v
    · obtain ⟨x, u, ex, h1, h2⟩ := lfp_gap hb h e hv
      have h3 := ih u h1 x ex
      have h4 := lessN_lt (h.lt ex) ex h1
      have h5 : (lessN f b.length u + 1) * maxG g ≤ lessN f b.length v * maxG g := Nat.mul_le_mul_right _ h4
      rw [Nat.add_mul, Nat.one_mul]
      omega
    · rw [Nat.add_mul, Nat.one_mul]
      omega
theorem lfp_top {m : Nat} {b : Bd} (hb : BOk m b) {g : List Int} {top : Nat} {f : List (Option Nat)} (h : Lfp b g top f) {s v : Nat} (e : f.getD s none = some v) : v ≤ b.length * maxG g := by
  refine Nat.le_trans (lfp_bd hb h v s e) (Nat.mul_le_mul_right _ ?_)
  have h1 := lessN_lt (n := b.length) (v := v + 1) (h.lt e) e (by omega)
  have := lessN_le f b.length (v + 1)
  omega
/-! ### spots and stores -/
def after21 (cap : Nat) (g : List Int) (s x : Nat) : Int := min (cap : Int) ((x : Int) + g.getD s 0)
/-- what one look asks -/
def okAt (b : Bd) (cap : Nat) (g : List Int) (G : Nat → Nat → Bool) (s x : Nat) : Bool := match b[s]? with
  | some (o, ws) => decide (0 ≤ after21 cap g s x) && (if o = 0 then ws.any fun w => G w (after21 cap g s x).toNat else ws.all fun w => G w (after21 cap g s x).toNat)
  | none => true
theorem okAt_at {b : Bd} {cap : Nat} {g : List Int} {G : Nat → Nat → Bool} {s x o : Nat} {ws : List Nat} (e : b[s]? = some (o, ws)) : okAt b cap g G s x = (decide (0 ≤ after21 cap g s x) && (if o = 0 then ws.any fun w => G w (after21 cap g s x).toNat else ws.all fun w => G w (after21 cap g s x).toNat)) := by unfold okAt; rw [e]
/-- what the stores say -/
def InE (f : List (Option Nat)) (s x : Nat) : Prop := ∃ v, f.getD s none = some v ∧ v ≤ x
theorem inE_ok {m : Nat} {b : Bd} (hb : BOk m b) {cap : Nat} {g : List Int} {f : List (Option Nat)} (h : Lfp b g cap f) {G : Nat → Nat → Bool} (hG : ∀ s x, s < b.length → x ≤ cap → InE f s x → G s x = true) {s x : Nat} (hs : s < b.length) (hx : x ≤ cap) (hi : InE f s x) : okAt b cap g G s x = true := by
  obtain ⟨v, e, hvx⟩ := hi
  obtain ⟨hn, ht⟩ := h.need hs e
  obtain ⟨o, ws, eb, hm⟩ := spot_at hs
  rw [needV_at eb] at hn
  obtain ⟨u, hu, hy⟩ := Option.map_eq_some_iff.mp hn
  obtain ⟨w0, hw0, ew0⟩ := List.mem_map.mp (pick_mem hu)
  have hut := (h.need (h.lt ew0) ew0).2
  have ha : 0 ≤ after21 cap g s x ∧ u ≤ (after21 cap g s x).toNat ∧ (after21 cap g s x).toNat ≤ cap := by
    unfold after21
    unfold needN at hy
    omega
  rw [okAt_at eb, Bool.and_eq_true, decide_eq_true_eq]
  refine ⟨ha.1, ?_⟩
  have ho := hb.own _ hm
  dsimp only at ho
  by_cases h0 : o = 0
  · rw [if_pos h0, List.any_eq_true]
    exact ⟨w0, hw0, hG w0 _ (h.lt ew0) ha.2.2 ⟨u, ew0, ha.2.1⟩⟩
  · rw [if_neg h0, List.all_eq_true]
    have h1 : o = 1 := by omega
    subst h1
    obtain ⟨p1, p2, p3⟩ := pick1.mp hu
    intro w hw
    have hne := p1 _ (List.mem_map.mpr ⟨w, hw, rfl⟩)
    cases q : f.getD w none with
    | none => exact absurd q hne
    | some y =>
      have := p3 y (List.mem_map.mpr ⟨w, hw, q⟩)
      exact hG w _ (h.lt q) ha.2.2 ⟨y, q, by omega⟩
theorem find_min {P : Nat → Bool} {n : Nat} (h : ∃ x, x ≤ n ∧ P x = true) : ∃ x, x ≤ n ∧ P x = true ∧ ∀ y, P y = true → x ≤ y := by
  obtain ⟨x, hx, hp⟩ := h
  obtain ⟨y, h1, h2, h3⟩ := least_of (P := fun x => P x = true) x hp
  exact ⟨y, by omega, h1, fun z hz => Nat.le_of_not_lt fun hl => h3 z hl hz⟩
/-- what stands is what the stores say -/
theorem ok_inE {m : Nat} {b : Bd} (hb : BOk m b) {cap : Nat} {g : List Int} {f : List (Option Nat)} (h : Lfp b g cap f) {G : Nat → Nat → Bool} (hG : ∀ s x, s < b.length → x ≤ cap → G s x = true → okAt b cap g G s x = true) {s x : Nat} (hs : s < b.length) (hx : x ≤ cap) (hi : G s x = true) : InE f s x := by
  have hmin : ∀ s, ∃ o : Option Nat, (∀ v, o = some v → v ≤ cap ∧ G s v = true ∧ ∀ y, y ≤ cap → G s y = true → v ≤ y) ∧ (o = none → ∀ y, y ≤ cap → G s y = false) := fun s => by
    by_cases hex : ∃ y, y ≤ cap ∧ (G s y && decide (y ≤ cap)) = true
    · obtain ⟨v, h1, h2, h3⟩ := find_min hex
      rw [Bool.and_eq_true] at h2
      exact ⟨some v, fun u e => by cases e; exact ⟨h1, h2.1, fun y hy hg => h3 y (by rw [hg, decide_eq_true hy]; rfl)⟩, (fun e => nomatch e)⟩
    · refine ⟨none, (fun u e => nomatch e), fun _ y hy => ?_⟩
      cases q : G s y with
      | false => rfl
      | true => exact absurd ⟨y, hy, by rw [q, decide_eq_true hy]; rfl⟩ hex
  let H : List (Option Nat) := (List.range b.length).map fun s => (hmin s).choose
  have hH : ∀ s, s < b.length → H.getD s none = (hmin s).choose := fun s hs => map_getD hs
  have hle := h.le H (by rw [List.length_map, List.length_range]) (fun s hs v e => ?_) s hs
  · have hc := (hmin s).choose_spec
    rw [← hH s hs] at hc
    cases q : H.getD s none with
    | none => rw [hc.2 q x hx] at hi; cases hi
    | some v =>
      obtain ⟨u, hu, eu⟩ := hle v q
      exact ⟨u, eu, by have := (hc.1 v q).2.2 x hx hi; omega⟩
  · have hc := (hmin s).choose_spec
    rw [← hH s hs] at hc
    obtain ⟨hv1, hv2, hv3⟩ := hc.1 v e
    have hk := hG s v hs hv1 hv2
    obtain ⟨o, ws, eb, hm⟩ := spot_at hs
    rw [okAt_at eb, Bool.and_eq_true, decide_eq_true_eq] at hk
    obtain ⟨k1, k2⟩ := hk
    have hac : (after21 cap g s v).toNat ≤ cap := by unfold after21; omega
    have near : ∀ w ∈ ws, G w (after21 cap g s v).toNat = true → ∃ u, u ≤ (after21 cap g s v).toNat ∧ H.getD w none = some u := fun w hw hg => by
      have hwl := hb.lt _ hm w hw
      have hcw := (hmin w).choose_spec
      rw [← hH w hwl] at hcw
      cases q : H.getD w none with
      | none => rw [hcw.2 q _ hac] at hg; cases hg
      | some u => exact ⟨u, (hcw.1 u q).2.2 _ hac hg, rfl⟩
    have ho := hb.own _ hm
    dsimp only at ho
    have hpick : ∃ u, u ≤ (after21 cap g s v).toNat ∧ pick o (ws.map fun w => H.getD w none) = some u := by
      by_cases h0 : o = 0
      · rw [if_pos h0, List.any_eq_true] at k2
        obtain ⟨w, hw, hg⟩ := k2
        obtain ⟨u, hu, eu⟩ := near w hw hg
        subst h0
        obtain ⟨z, hz, ez⟩ := pick0_ex (List.mem_map.mpr ⟨w, hw, eu⟩ : some u ∈ ws.map fun w => H.getD w none)
        exact ⟨z, by omega, ez⟩
      · rw [if_neg h0, List.all_eq_true] at k2
        have h1 : o = 1 := by omega
        subst h1
        refine pick1_ex (fun e => hb.ne _ hm (List.map_eq_nil_iff.mp e)) fun x hx => ?_
        obtain ⟨w, hw, rfl⟩ := List.mem_map.mp hx
        obtain ⟨u, hu, eu⟩ := near w hw (k2 w hw)
        exact ⟨u, hu, eu⟩
    obtain ⟨u, hu, eu⟩ := hpick
    have hneed : needN (g.getD s 0) u ≤ v := by
      unfold needN
      unfold after21 at k1 hu
      omega
    exact ⟨needN (g.getD s 0) u, hneed, cutV_some.mpr ⟨by rw [needV_at eb, eu]; rfl, by omega⟩⟩
end DL
/-! P39: spots and stores played, the walk. -/
namespace DL
open PySem PySem.Spec PyProof.Rows L2
theorem allI2 {a c : Nat} : allInts [nI a, nI c] = some [(a : Int), (c : Int)] := rfl
theorem allI2b {a : Nat} {z : Int} : allInts [nI a, .int z] = some [(a : Int), z] := rfl
local macro_rules | `(tactic| walk_at "ed") => `(tactic| ((simp -dsimp -implicitDefEqProofs only [↓wp_toX, wpX_ok, ↓bind_toX, ↓loopF_toX, ↓loopC_toX, ↓while_toX, bindX_ok, bindX_assoc, evS, evE, evO, evR, evL, evB, evA, evI, opt_some, opd_val, opd_bor, slotD_imm, slotD_own, fz_val, obind_some, omap_some, ofInt_int, ofBool_bool, items_list, items_tuple,
  run_add, run_sub, run_mul, run_fdiv, run_mod, run_lt, run_le, run_gt, run_ge, run_eqI, run_neI, run_isN, run_notN, run_not, run_neg, idx_list, idx_tuple, sli_list, sli_tuple, sli_scr, b_lenL, b_lenT, b_listS, b_listL, b_listT, b_tupL, b_tupT, b_max2, b_min2, b_int,
  argsOf_nil, argsOf_v, margs, retD_val, outs_nil, outs_f, outs_t, slotOf_f, slotOf_t, bindP_var, bindP_tup, bindPs_nil, bindPs_cons, wipe_nil, wipe_cons, back_nil, back_cons, mapM_nilO, mapM_consO, noOwn, isOwn, isOwnD, isVal, dctT, dctG, allI2, allI2b, fz_bor,
  List.map_cons, List.map_nil, List.replicate_succ, List.replicate_zero, List.cons_append, List.nil_append, List.getElem?_cons_zero, List.getElem?_cons_succ, List.set_cons_zero, List.set_cons_succ, List.length_cons, List.length_nil, List.all_cons, List.all_nil, Option.getD_some,
  Nat.zero_add, Nat.reduceAdd, Nat.reduceLT, Nat.reduceLeDiff, Nat.lt_add_left_iff_pos, Nat.zero_lt_succ, Nat.reduceEqDiff, Int.reduceEq, Int.reduceLT, Int.reduceLE, Int.reduceNeg, inR_0, retD_bor, Bool.not_true, Bool.not_false, idx_sp0, idx_sp1, ofInt_nI, aug_n, eq_n, eq_n0, eq_n1, ne_n0, gt_n0, len_b, len_nT, len_nL, in_T, in_L, nin_T, nin_L, bindP_sp, items_b, items_nT, items_nL, isNone_oD, aug_i, sz0, sz1, sz2, sz3, sz4, sz5, argsOf_mE, argOf, putBack, omap_some, na5, putB_nil, at0, at1, at2, at3, at4, ix51, ix52, ix53, true_or, or_true, sm1, sm2, sm3, sm4, sm5, Bool.or_true, reduceIte, Bool.and_self, Bool.and_true, Bool.true_and, if_true, if_false, Bool.or_true, Bool.true_or, ne_eq, not_false_eq_true, not_true_eq_false, true_and, and_true,
  List.nodup_cons, List.nodup_nil, List.not_mem_nil, List.mem_cons, or_false, false_or]) <;> (try simp -dsimp only [wp_ofX])))
variable {gcs : Nat → Option D} {cd : CallSem}
theorem getI_map {j k : List Int} {v : D} : ∀ es : List (D × D), getI j (es.map fun p => if keyI p.1 = some k then (p.1, v) else p) = if j = k then (getI k es).map fun _ => v else getI j es
  | [] => by
    rw [List.map_nil]
    split <;> rfl
  | (a, u) :: r => by
    rw [List.map_cons]
    have ih := getI_map (j := j) (k := k) (v := v) r
    by_cases h1 : keyI a = some k
    · rw [if_pos h1, getI, getI, getI, h1, if_pos rfl]
      by_cases h2 : j = k
      · subst h2
        rw [if_pos rfl, if_pos rfl]; rfl
      · rw [if_neg (fun e => h2 (Option.some.inj e).symm), if_neg h2, if_neg (fun e => h2 (Option.some.inj e).symm), ih, if_neg h2]
    · rw [if_neg h1, getI, getI, getI, if_neg h1, ih]
      by_cases h2 : j = k
      · subst h2
        rw [if_neg h1, if_pos rfl, if_pos rfl]
      · rw [if_neg h2, if_neg h2]
theorem getI_snoc {j k : List Int} {v : D} : ∀ es : List (D × D), getI k es = none → getI j (es ++ [(.list (k.map .int), v)]) = if j = k then some v else getI j es
  | [], _ => by
    show (if keyI (.list (k.map .int)) = some j then some v else none) = if j = k then some v else none
    rw [keyI_int]
    by_cases h : j = k
    · rw [if_pos h, if_pos (by rw [h])]
    · rw [if_neg h, if_neg (fun e => h (Option.some.inj e).symm)]
  | (a, u) :: r, h => by
    rw [getI] at h
    split at h
    · cases h
    · rename_i hn
      rw [List.cons_append, getI, getI, getI_snoc r h]
      by_cases h2 : j = k
      · subst h2
        rw [if_neg hn, if_pos rfl, if_pos rfl]
      · rw [if_neg h2, if_neg h2]
theorem getI_put {j k : List Int} {v : D} {es : List (D × D)} : getI j (putI k v es) = if j = k then some v else getI j es := by
  unfold putI
  cases e : getI k es with
  | none =>
    rw [show (none : Option D).isSome = false from rfl, if_neg (by decide)]
    exact getI_snoc es e
  | some y =>
    rw [show (some y).isSome = true from rfl, if_pos rfl, getI_map, e]
    rfl
theorem putI_len {k : List Int} {v : D} {es : List (D × D)} : (putI k v es).length = if (getI k es).isSome then es.length else es.length + 1 := by
  unfold putI
  split
  · rw [List.length_map]
  · rw [List.length_append]; rfl
def upd2 (G : Nat → Nat → Bool) (s x : Nat) : Nat → Nat → Bool := fun s' x' => if s' = s ∧ x' = x then false else G s' x'
structure DI (n cap : Nat) (G : Nat → Nat → Bool) (es : List (D × D)) : Prop where
  len : es.length ≤ n * (cap + 1)
  get : ∀ s x, s < n → x ≤ cap → getI [(s : Int), (x : Int)] es = some (.bool (G s x))
theorem DI.put {n cap : Nat} {G : Nat → Nat → Bool} {es : List (D × D)} (h : DI n cap G es) {s x : Nat} (hs : s < n) (hx : x ≤ cap) : DI n cap (upd2 G s x) (putI [(s : Int), (x : Int)] (.bool false) es) := by
  refine ⟨?_, fun s' x' hs' hx' => ?_⟩
  · rw [putI_len, h.get s x hs hx]
    exact h.len
  · rw [getI_put, h.get s' x' hs' hx']
    unfold upd2
    by_cases e : s' = s ∧ x' = x
    · rw [if_pos (by rw [e.1, e.2]), if_pos e]
    · rw [if_neg (fun z => e (by
        injection z with z1 z2
        injection z2 with z2
        exact ⟨by omega, by omega⟩)), if_neg e]
def prs (n cap : Nat) : List (Nat × Nat) := (List.range n).flatMap fun s => (List.range (cap + 1)).map fun x => (s, x)
theorem mem_prs {n cap s x : Nat} : (s, x) ∈ prs n cap ↔ s < n ∧ x ≤ cap := by
  unfold prs
  rw [List.mem_flatMap]
  constructor
  · rintro ⟨s', h1, h2⟩
    obtain ⟨x', h3, h4⟩ := List.mem_map.mp h2
    cases h4
    exact ⟨List.mem_range.mp h1, by have := List.mem_range.mp h3; omega⟩
  · rintro ⟨h1, h2⟩
    exact ⟨s, List.mem_range.mpr h1, List.mem_map.mpr ⟨x, List.mem_range.mpr (by omega), rfl⟩⟩
def cntG (n cap : Nat) (G : Nat → Nat → Bool) : Nat := ((prs n cap).filter fun p => G p.1 p.2).length
theorem fil_lt {α : Type} {l : List α} {p q : α → Bool} (h : ∀ x ∈ l, p x = true → q x = true) {a : α} (ha : a ∈ l) (hq : q a = true) (hp : p a = false) : (l.filter p).length < (l.filter q).length := by
  induction l with
  | nil => cases ha
  | cons y r ih =>
    have hle : (r.filter p).length ≤ (r.filter q).length := by
      clear ih ha
      have h' : ∀ x ∈ r, p x = true → q x = true := fun x hx => h x (List.mem_cons_of_mem _ hx)
      clear h
      induction r with
      | nil => exact Nat.le_refl _
      | cons z t ih2 =>
        have := ih2 fun x hx => h' x (List.mem_cons_of_mem _ hx)
        rw [List.filter_cons, List.filter_cons]
        cases e : p z with
        | true => rw [h' z List.mem_cons_self e, if_pos rfl, if_pos rfl, List.length_cons, List.length_cons]; omega
        | false =>
          rw [if_neg (by decide)]
          split
          · rw [List.length_cons]; omega
          · exact this
    rw [List.filter_cons, List.filter_cons]
    rcases List.mem_cons.mp ha with rfl | ha
    · rw [hp, hq, if_neg (by decide), if_pos rfl, List.length_cons]; omega
    · have := ih (fun x hx => h x (List.mem_cons_of_mem _ hx)) ha
      cases e : p y with
      | true => rw [h y List.mem_cons_self e, if_pos rfl, if_pos rfl, List.length_cons, List.length_cons]; omega
      | false =>
        rw [if_neg (by decide)]
        split
        · rw [List.length_cons]; omega
        · exact this
theorem cnt_lt {n cap : Nat} {G H : Nat → Nat → Bool} (h : ∀ s x, s < n → x ≤ cap → H s x = true → G s x = true) {s x : Nat} (hs : s < n) (hx : x ≤ cap) (h1 : G s x = true) (h2 : H s x = false) : cntG n cap H < cntG n cap G :=
  fil_lt (fun p hp => by obtain ⟨s, x⟩ := p; obtain ⟨a, c⟩ := mem_prs.mp hp; exact h s x a c) (mem_prs.mpr ⟨hs, hx⟩) h1 h2
theorem inB (l : List Bool) (a : Bool) : O2.run .isin (.bool a) (.list (l.map PyData.bool)) = some (.bool (decide (a ∈ l))) := by
  have sh : ∀ c : Bool, Sh 0 (.bool c) := fun c => ⟨rfl, by rw [PyData.canLay0], by rw [PyData.depth]; exact Nat.le_refl _⟩
  have ev : ∀ c d : Bool, PyData.eqv (.bool c) (.bool d) = decide (c = d) := fun c d => by cases c <;> cases d <;> (unfold PyData.eqv; rfl)
  show (if _ then _ else _) = _
  rw [if_pos (by rw [Bool.and_eq_true]; exact ⟨(sh a).shp (by omega), (Sh.lst (k := 0) (fun x hx => by obtain ⟨c, _, rfl⟩ := List.mem_map.mp hx; exact sh c)).shp (by omega)⟩)]
  congr 2
  induction l with
  | nil => rfl
  | cons c r ih =>
    rw [List.map_cons, List.any_cons, ih, ev, Bool.eq_iff_iff, Bool.or_eq_true, decide_eq_true_eq, decide_eq_true_eq, decide_eq_true_eq, List.mem_cons]
    exact ⟨fun h => h.elim (fun h => .inl h.symm) .inr, fun h => h.elim (fun h => .inl h.symm) .inr⟩
theorem ninB (l : List Bool) (a : Bool) : O2.run .notin (.bool a) (.list (l.map PyData.bool)) = some (.bool (!decide (a ∈ l))) := by
  have := inB l a
  change (if _ then some (PyData.bool ((l.map PyData.bool).any fun z => PyData.eqv z (.bool a))) else none) = _ at this
  show (if _ then some (PyData.bool (!(l.map PyData.bool).any fun z => PyData.eqv z (.bool a))) else none) = _
  split at this
  · rename_i h
    rw [if_pos h]
    injection this with this
    injection this with this
    rw [this]
  · cases this
/-- the state of the walk -/
def S21 (b : Bd) (g : List Int) (cap : Nat) (es : List (D × D)) (s5 s6 s7 s8 s9 s11 s12 : Slot) : DS := [.imm (bD b), .imm (gD g), .imm (nI cap), .imm (nI b.length), .own false (dctT es), s5, s6, s7, s8, s9, .emp, s11, s12]
theorem fill_in {b : Bd} {g : List Int} {cap i : Nat} (hn : b.length ≤ 8) (hc : cap ≤ 1000) (hi : i < b.length) {es : List (D × D)} {s6 : Slot} (hl : es.length ≤ i * (cap + 1)) (hg : ∀ s x, s < i → x ≤ cap → getI [(s : Int), (x : Int)] es = some (.bool true)) :
    Wp (evS gcs cd b_law_capped_1 (S21 b g cap es (.imm (nI i)) s6 .emp .emp .emp .emp .emp)) fun q => q.1 = .nx ∧ ∃ es' s6', q.2 = S21 b g cap es' (.imm (nI i)) s6' .emp .emp .emp .emp .emp ∧ es'.length ≤ (i + 1) * (cap + 1) ∧ ∀ s x, s < i + 1 → x ≤ cap → getI [(s : Int), (x : Int)] es' = some (.bool true) := by
  unfold S21
  rw [b_law_capped_1]
  walk_at "ed"
  rw [add_n1]
  walk_at "ed"
  rw [inR_nat (by omega), rng_n]
  walk_at "ed"
  refine wp_bind (wp_loopFm nI (fun j d => ∃ es' s6', d = S21 b g cap es' (.imm (nI i)) s6' .emp .emp .emp .emp .emp ∧ es'.length ≤ i * (cap + 1) + j ∧ (∀ s x, s < i → x ≤ cap → getI [(s : Int), (x : Int)] es' = some (.bool true)) ∧ ∀ x, x < j → getI [(i : Int), (x : Int)] es' = some (.bool true)) ⟨es, s6, rfl, by omega, hg, fun x hx => absurd hx (Nat.not_lt_zero _)⟩ ?_ ?_)
  · rintro j x d hj ⟨es', s6', rfl, h1, h2, h3⟩
    obtain ⟨hjl, hx⟩ := List.getElem?_eq_some_iff.mp hj
    rw [List.getElem_range] at hx
    subst hx
    rw [List.length_range] at hjl
    unfold S21
    rw [b_law_capped_2]
    walk_at "ed"
    have hmul : i * (cap + 1) ≤ 8 * 1001 := Nat.mul_le_mul (by omega) (by omega)
    rw [if_pos (show es'.length < sizeLine from small_lt (by omega))]
    walk_at "ed"
    refine ⟨putI [(i : Int), (j : Int)] (.bool true) es', .imm (nI j), rfl, ?_, fun s x hs hx => ?_, fun x hx => ?_⟩
    · rw [putI_len]; split <;> omega
    · rw [getI_put]
      split
      · rfl
      · exact h2 s x hs hx
    · rw [getI_put]
      split
      · rfl
      · rename_i hne
        refine h3 x ?_
        have : x ≠ j := fun e => hne (by rw [e])
        omega
  · rintro d ⟨es', s6', rfl, h1, h2, h3⟩
    rw [List.length_range] at h1 h3
    unfold S21
    walk_at "ed"
    refine ⟨es', s6', rfl, by rw [Nat.add_mul, Nat.one_mul]; exact h1, fun s x hs hx => ?_⟩
    by_cases e : s = i
    · subst e; exact h3 x (by omega)
    · exact h2 s x (by omega) hx
theorem min21 {cap x : Nat} {g : List Int} {s : Nat} : (if (x : Int) + g.getD s 0 < (cap : Int) then (x : Int) + g.getD s 0 else (cap : Int)) = after21 cap g s x := by
  unfold after21
  split <;> omega
/-- one look -/
theorem look_ok {m : Nat} {b : Bd} (hb : BOk m b) {g : List Int} {cap s x : Nat} (hn : b.length ≤ 8) (hg : g.length = b.length) (hc : cap ≤ 1000) (hs : s < b.length) (hx : x ≤ cap) {G : Nat → Nat → Bool} {es : List (D × D)} (hD : DI b.length cap G es) {go : Bool} {s8 s9 : Slot} :
    Wp (evS gcs cd b_law_capped_5 (S21 b g cap es (.imm (nI s)) (.imm (nI x)) (.imm (.bool go)) s8 s9 .emp .emp)) fun q => q.1 = .nx ∧ ∃ es' s8' s9', q.2 = S21 b g cap es' (.imm (nI s)) (.imm (nI x)) (.imm (.bool (go || (G s x && !okAt b cap g G s x)))) s8' s9' .emp .emp ∧
      DI b.length cap (if G s x && !okAt b cap g G s x then upd2 G s x else G) es' := by
  obtain ⟨o, ws, eb, hm⟩ := spot_at hs
  have hwl := hb.ln _ hm
  dsimp only at hwl
  have hlen : es.length ≤ 8 * 1001 := Nat.le_trans hD.len (Nat.mul_le_mul hn (by omega))
  unfold S21
  rw [b_law_capped_5]
  walk_at "ed"
  rw [hD.get s x hs hx]
  walk_at "ed"
  cases hGsx : G s x with
  | false =>
    walk_at "ed"
    rw [Bool.false_and, Bool.or_false, if_neg (by decide)]
    exact ⟨es, _, _, rfl, hD⟩
  | true =>
    walk_at "ed"
    rw [idx_g (by rw [hg]; exact hs)]
    walk_at "ed"
    rw [show O2.run .add (nI x) (PyData.int (g.getD s 0)) = some (PyData.int ((x : Int) + g.getD s 0)) from rfl]
    walk_at "ed"
    rw [show B1.run .min [nI cap, PyData.int ((x : Int) + g.getD s 0)] = some (PyData.int (after21 cap g s x)) from by
      show some (PyData.int (if (x : Int) + g.getD s 0 < (cap : Int) then (x : Int) + g.getD s 0 else (cap : Int))) = _
      rw [min21]]
    walk_at "ed"
    have hok := okAt_at (cap := cap) (g := g) (G := G) (x := x) eb
    have hAc : after21 cap g s x ≤ cap := by unfold after21; omega
    generalize after21 cap g s x = A at hok hAc
    rw [idx_b eb]
    walk_at "ed"
    refine wp_bind (wp_loopCm nI (fun w => some (.bool (decide (0 ≤ A) && G w A.toNat))) (fun w hw => ?_) (small_le (by omega)) ?_)
    · refine ev_eq ?_
      walk_at "ed"
      by_cases hA : 0 ≤ A
      · rw [decide_eq_true hA]
        walk_at "ed"
        rw [show ([(w : Int), A] : List Int) = [(w : Int), ((A.toNat : Nat) : Int)] from by rw [Int.toNat_of_nonneg hA], hD.get w A.toNat (hb.lt _ hm w hw) (by omega)]
        walk_at "ed"
      · rw [decide_eq_false hA]
        walk_at "ed"
        rw [Bool.false_and]
    rw [comp_map]
    walk_at "ed"
    rw [show (ws.map fun w => PyData.bool (decide (0 ≤ A) && G w A.toNat)) = (ws.map fun w => (decide (0 ≤ A) && G w A.toNat)).map PyData.bool from by rw [List.map_map]; rfl]
    have ho := hb.own _ hm
    dsimp only at ho
    by_cases hA : 0 ≤ A
    · rw [show decide (A < 0) = false from decide_eq_false (by omega)]
      walk_at "ed"
      rw [idx_b eb]
      walk_at "ed"
      rw [decide_eq_true hA, Bool.true_and] at hok
      simp only [decide_eq_true hA, Bool.true_and]
      by_cases h0 : o = 0
      · rw [decide_eq_true h0]
        walk_at "ed"
        rw [ninB]
        walk_at "ed"
        rw [if_pos h0] at hok
        have hk : (!decide (true ∈ ws.map fun w => G w A.toNat)) = !okAt b cap g G s x := by
          rw [hok]
          congr 1
          rw [Bool.eq_iff_iff, decide_eq_true_eq, List.any_eq_true, List.mem_map]
        rw [hk]
        cases hf : okAt b cap g G s x with
        | false =>
          walk_at "ed"
          rw [if_pos (show es.length < sizeLine from small_lt (by omega))]
          walk_at "ed"
          exact ⟨_, _, _, rfl, hD.put hs hx⟩
        | true =>
          walk_at "ed"
          rw [Bool.or_false, if_neg (by decide)]
          exact ⟨_, _, _, rfl, hD⟩
      · rw [decide_eq_false h0]
        walk_at "ed"
        rw [inB]
        walk_at "ed"
        rw [if_neg h0] at hok
        have hk : decide (false ∈ ws.map fun w => G w A.toNat) = !okAt b cap g G s x := by
          rw [hok, Bool.eq_iff_iff, decide_eq_true_eq, Bool.not_eq_true', List.all_eq_false, List.mem_map]
          constructor
          · rintro ⟨w, h1, h2⟩
            exact ⟨w, h1, by rw [h2]; decide⟩
          · rintro ⟨w, h1, h2⟩
            exact ⟨w, h1, Bool.eq_false_iff.mpr h2⟩
        rw [hk]
        cases hf : okAt b cap g G s x with
        | false =>
          walk_at "ed"
          rw [if_pos (show es.length < sizeLine from small_lt (by omega))]
          walk_at "ed"
          exact ⟨_, _, _, rfl, hD.put hs hx⟩
        | true =>
          walk_at "ed"
          rw [Bool.or_false, if_neg (by decide)]
          exact ⟨_, _, _, rfl, hD⟩
    · rw [show decide (A < 0) = true from decide_eq_true (by omega)]
      walk_at "ed"
      have hf : okAt b cap g G s x = false := by rw [hok, decide_eq_false hA]; rfl
      rw [if_pos (show es.length < sizeLine from small_lt (by omega))]
      walk_at "ed"
      rw [hf, show (go || !false) = true from by cases go <;> rfl, show (!false) = true from rfl, if_pos rfl]
      exact ⟨_, _, _, rfl, hD.put hs hx⟩
end DL
/-! P41: plain data of any form, and what it is bent to. -/
namespace DL
open PySem PySem.Spec PyProof.Rows L2
theorem sli_strZ {z : Str} {lo hi : Option Int} (h : z.length ≤ sizeLine) : sliD (.str z) lo hi = some (.str (cutS z lo hi)) := if_pos h
theorem castLit {n : Nat} : (((no_index (OfNat.ofNat n)) : Nat) : Int) = OfNat.ofNat n := rfl
/-- plain data: nested at most n deep, ints of at most B -/
inductive Dn (B : Nat) : Nat → D → Prop
  | non {n : Nat} : Dn B n .none
  | bool {n : Nat} {b : Bool} : Dn B n (.bool b)
  | int {n : Nat} {i : Int} (h : i.natAbs ≤ B) : Dn B n (.int i)
  | str {n : Nat} {x : Str} (h : ∀ c ∈ x.cps.toList, c < 0x110000) : Dn B n (.str x)
  | tup {n : Nat} {xs : List D} (h : ∀ y ∈ xs, Dn B n y) : Dn B (n + 1) (.tuple xs)
  | lst {n : Nat} {xs : List D} (h : ∀ y ∈ xs, Dn B n y) : Dn B (n + 1) (.list xs)
mutual
/-- how much there is of it -/
def wt : D → Nat
  | .str x => x.length + 1
  | .tuple xs => wtA xs + 1
  | .list xs => wtA xs + 1
  | _ => 1
def wtA : List D → Nat
  | [] => 0
  | x :: xs => wt x + wtA xs
end
theorem wt_pos (d : D) : 1 ≤ wt d := by cases d <;> (unfold wt; omega)
theorem wtA_cons (x : D) (xs : List D) : wtA (x :: xs) = wt x + wtA xs := by rw [wtA]
theorem wtA_nil : wtA [] = 0 := by rw [wtA]
theorem wtA_app : ∀ xs ys : List D, wtA (xs ++ ys) = wtA xs + wtA ys
  | [], ys => by rw [List.nil_append, wtA_nil, Nat.zero_add]
  | x :: xs, ys => by rw [List.cons_append, wtA_cons, wtA_cons, wtA_app xs ys]; omega
theorem wtA_len : ∀ xs : List D, xs.length ≤ wtA xs
  | [] => Nat.zero_le _
  | x :: xs => by
    have := wtA_len xs
    have := wt_pos x
    rw [wtA_cons, List.length_cons]; omega
theorem wtA_mem {x : D} : ∀ {xs : List D}, x ∈ xs → wt x ≤ wtA xs
  | y :: xs, h => by
    rw [wtA_cons]
    rcases List.mem_cons.mp h with rfl | h
    · omega
    · have := wtA_mem h; omega
theorem wtA_take (xs : List D) (k : Nat) : wtA (xs.take k) ≤ wtA xs := by
  have := wtA_app (xs.take k) (xs.drop k)
  rw [List.take_append_drop] at this; omega
theorem wtA_drop (xs : List D) (k : Nat) : wtA (xs.drop k) ≤ wtA xs := by
  have := wtA_app (xs.take k) (xs.drop k)
  rw [List.take_append_drop] at this; omega
theorem wt_tup (xs : List D) : wt (.tuple xs) = wtA xs + 1 := by rw [wt]
theorem wt_lst (xs : List D) : wt (.list xs) = wtA xs + 1 := by rw [wt]
theorem wt_str (x : Str) : wt (.str x) = x.length + 1 := by rw [wt]
theorem wt_int (i : Int) : wt (.int i) = 1 := by rw [wt] <;> (intros; contradiction)
theorem Dn.mono {B C n m : Nat} {d : D} (h : Dn B n d) (hB : B ≤ C) : n ≤ m → Dn C m d := by
  induction h generalizing m with
  | non => exact fun _ => .non
  | bool => exact fun _ => .bool
  | int h => exact fun _ => .int (Nat.le_trans h hB)
  | str h => exact fun _ => .str h
  | tup h ih =>
    intro hm
    obtain ⟨k, rfl⟩ : ∃ k, m = k + 1 := ⟨m - 1, by omega⟩
    exact .tup fun y hy => ih y hy (by omega)
  | lst h ih =>
    intro hm
    obtain ⟨k, rfl⟩ : ∃ k, m = k + 1 := ⟨m - 1, by omega⟩
    exact .lst fun y hy => ih y hy (by omega)
theorem strOk_of {x : Str} (h : ∀ c ∈ x.cps.toList, c < 0x110000) : (PyData.str x).canLay0 = true := by
  rw [PyData.canLay0]
  show x.cps.all (· < 0x110000) = true
  rw [← Array.all_toList, List.all_eq_true]
  exact fun c hc => decide_eq_true (h c hc)
theorem Dn.sh {B n : Nat} {d : D} (h : Dn B n d) : Sh n d := by
  induction h with
  | non => exact ⟨rfl, by rw [PyData.canLay0], by rw [PyData.depth]; exact Nat.zero_le _⟩
  | bool => exact ⟨rfl, by rw [PyData.canLay0], by rw [PyData.depth]; exact Nat.zero_le _⟩
  | int => exact ⟨rfl, by rw [PyData.canLay0], by rw [PyData.depth]; exact Nat.zero_le _⟩
  | str h => exact ⟨rfl, strOk_of h, by rw [PyData.depth]; exact Nat.zero_le _⟩
  | tup _ ih => exact Sh.tup ih
  | lst _ ih => exact Sh.lst ih
theorem Dn.notDct {B n : Nat} {d : D} (h : Dn B n d) : isDct d = false := by cases h <;> rfl
theorem log_le {i : Int} (h : i.natAbs ≤ 1000000) : i.natAbs.log2 < 20 := by
  by_cases z : i.natAbs = 0
  · rw [z]; decide
  · exact (Nat.log2_lt z).mpr (by omega)
theorem weightAll_le {l : List D} (h : ∀ y ∈ l, y.weight + 1 ≤ 22 * wt y) : PyData.weightAll l ≤ 22 * wtA l := by
  induction l with
  | nil => rw [PyData.weightAll]; exact Nat.zero_le _
  | cons y r q =>
    rw [PyData.weightAll, wtA_cons]
    have h1 := h y List.mem_cons_self
    have h2 := q fun z hz => h z (List.mem_cons_of_mem _ hz)
    omega
theorem Dn.weight {B n : Nat} {d : D} (h : Dn B n d) (hB : B ≤ 1000000) : d.weight + 1 ≤ 22 * wt d := by
  induction h with
  | non => unfold wt PyData.weight; omega
  | bool => unfold wt PyData.weight; omega
  | int h =>
    rw [wt_int, PyData.weight]
    have := log_le (Nat.le_trans h hB)
    split <;> omega
  | @str n x h =>
    rw [wt_str, PyData.weight]
    show x.length + 1 ≤ _
    omega
  | tup h ih =>
    rw [wt_tup, PyData.weight]
    have := weightAll_le ih
    omega
  | lst h ih =>
    rw [wt_lst, PyData.weight]
    have := weightAll_le ih
    omega
theorem shortAll {l : List D} (h : ∀ y ∈ l, y.intsShort 13 = true) : PyData.intsShortAll 13 l = true := by
  induction l with
  | nil => rw [PyData.intsShortAll]
  | cons y r q => rw [PyData.intsShortAll, h y List.mem_cons_self, q fun z hz => h z (List.mem_cons_of_mem _ hz)]; rfl
theorem Dn.short {B n : Nat} {d : D} (h : Dn B n d) (hB : B ≤ 1000000) : d.intsShort 13 = true := by
  induction h with
  | non => rw [PyData.intsShort]
  | bool => rw [PyData.intsShort]
  | int h =>
    rw [PyData.intsShort]
    exact decide_eq_true (PyData.shown_int_le (by omega))
  | str h => rw [PyData.intsShort]
  | tup h ih => rw [PyData.intsShort]; exact shortAll ih
  | lst h ih => rw [PyData.intsShort]; exact shortAll ih
theorem showAll {l : List D} (h : ∀ y ∈ l, y.showable = true) : PyData.showableAll l = true := by
  induction l with
  | nil => rw [PyData.showableAll]
  | cons y r q => rw [PyData.showableAll, h y List.mem_cons_self, q fun z hz => h z (List.mem_cons_of_mem _ hz)]; rfl
theorem Dn.show {B n : Nat} {d : D} (h : Dn B n d) (hB : B ≤ 1000000) : d.showable = true := by
  induction h with
  | non => rw [PyData.showable]
  | bool => rw [PyData.showable]
  | int h =>
    rw [PyData.showable]
    have := log_le (Nat.le_trans h hB)
    exact decide_eq_true (by omega)
  | str h => rw [PyData.showable]
  | tup h ih => rw [PyData.showable]; exact showAll ih
  | lst h ih => rw [PyData.showable]; exact showAll ih
theorem Dn.fits {B n : Nat} {d : D} (h : Dn B n d) (hB : B ≤ 1000000) (hn : n ≤ 64) (hw : wt d ≤ 40000) : d.shown.length ≤ sizeLine := by
  refine PyData.shown_fits_of_layable0 (B := 13) (by omega) (by omega) ?_ (h.short hB)
  have sh := h.sh
  have w := h.weight hB
  unfold PyData.layable0
  rw [sh.lay, decide_eq_true (show d.depth ≤ 64 from Nat.le_trans sh.dep hn), decide_eq_true (show d.weight ≤ 2 ^ 20 by omega)]
  rfl
theorem run_repr {B n : Nat} {d : D} (h : Dn B n d) (hB : B ≤ 1000000) (hn : n ≤ 64) (hw : wt d ≤ 40000) : B1.run .repr [d] = some (.str d.shown) := by
  show (if (shp d && d.showable && decide (d.shown.length ≤ sizeLine)) = true then some (PyData.str d.shown) else none) = _
  rw [h.sh.shp hn, h.show hB, decide_eq_true (h.fits hB hn hw)]
  rfl
end DL
/-! P42: bent data. -/
namespace DL
open PySem PySem.Spec PyProof.Rows L2
local macro_rules | `(tactic| walk_at "ej") => `(tactic| ((simp -dsimp -implicitDefEqProofs only [↓wp_toX, wpX_ok, ↓bind_toX, ↓loopF_toX, ↓loopC_toX, ↓while_toX, bindX_ok, bindX_assoc, evS, evE, evO, evR, evL, evB, evA, evI, opt_some, opd_val, opd_bor, slotD_imm, slotD_own, fz_val, obind_some, omap_some, ofInt_int, ofBool_bool, items_list, items_tuple,
  run_add, run_sub, run_mul, run_fdiv, run_mod, run_lt, run_le, run_gt, run_ge, run_eqI, run_neI, run_isN, run_notN, run_not, run_neg, idx_list, idx_tuple, sli_list, sli_tuple, sli_scr, b_lenL, b_lenT, b_listS, b_listL, b_listT, b_tupL, b_tupT, b_max2, b_min2, b_int,
  argsOf_nil, argsOf_v, margs, retD_val, outs_nil, outs_f, outs_t, slotOf_f, slotOf_t, bindP_var, bindP_tup, bindPs_nil, bindPs_cons, wipe_nil, wipe_cons, back_nil, back_cons, mapM_nilO, mapM_consO, noOwn, isOwn, isOwnD, isVal, dctT, dctG, allI2, allI2b, fz_bor,
  List.map_cons, List.map_nil, List.replicate_succ, List.replicate_zero, List.cons_append, List.nil_append, List.getElem?_cons_zero, List.getElem?_cons_succ, List.set_cons_zero, List.set_cons_succ, List.length_cons, List.length_nil, List.all_cons, List.all_nil, Option.getD_some,
  isDct, Ty.has, ne_bb, beq_self_eq_true, decide_true, decide_false, Bool.false_eq_true, isNone, sli_strZ, castLit, Bool.not_not, Nat.zero_add, Nat.reduceAdd, Nat.reduceLT, Nat.reduceLeDiff, Nat.lt_add_left_iff_pos, Nat.zero_lt_succ, Nat.reduceEqDiff, Int.reduceEq, Int.reduceLT, Int.reduceLE, Int.reduceNeg, inR_0, retD_bor, Bool.not_true, Bool.not_false, idx_sp0, idx_sp1, ofInt_nI, aug_n, eq_n, eq_n0, eq_n1, ne_n0, gt_n0, len_b, len_nT, len_nL, in_T, in_L, nin_T, nin_L, bindP_sp, items_b, items_nT, items_nL, isNone_oD, aug_i, sz0, sz1, sz2, sz3, sz4, sz5, argsOf_mE, argOf, putBack, omap_some, na5, putB_nil, at0, at1, at2, at3, at4, ix51, ix52, ix53, true_or, or_true, sm1, sm2, sm3, sm4, sm5, Bool.or_true, reduceIte, Bool.and_self, Bool.and_true, Bool.true_and, if_true, if_false, Bool.or_true, Bool.true_or, ne_eq, not_false_eq_true, not_true_eq_false, true_and, and_true,
  List.nodup_cons, List.nodup_nil, List.not_mem_nil, List.mem_cons, or_false, false_or]) <;> (try simp -dsimp only [wp_ofX])))
variable {gcs : Nat → Option D} {cd : CallSem}
def isInt : D → Bool
  | .int _ => true
  | _ => false
/-- _law_is_integer (27) -/
def CLInt (k : Nat) (cd : CallSem) : Prop := ∀ d : D, isDct d = false → cd k [(false, d)] = .ok ([], true, .bool (isInt d))
theorem lint_ok (d : D) (hd : isDct d = false) : runFn gcs cd fn_law_is_integer [(false, d)] = .ok ([], true, .bool (isInt d)) := by
  refine ev_eq (wp_run rfl ?_)
  rw [show fn_law_is_integer.body = b_law_is_integer from rfl, show fn_law_is_integer.nl = 0 from rfl, b_law_is_integer]
  cases d with
  | dict es =>
    cases es with
    | nil => exact absurd hd (by decide)
    | cons => exact absurd hd (by intro h; cases h)
  | _ =>
    walk_at "ej"
    try rfl
def headI : I → I
  | .cons c _ => c
  | x => x
def tailI : I → I
  | .cons _ r => r
  | x => x
theorem idx_tupN {l : List D} {v : Nat} (h : v < l.length) : idxD (.tuple l) (.int (v : Int)) = some l[v] := atI_nat (List.getElem?_eq_getElem h)
def BentTo (B n : Nat) (d d' : D) : Prop := Dn (B + 2) (n + 1) d' ∧ wt d' ≤ 3 * wt d + 4
def CBent (n : Nat) (cd : CallSem) : Prop := ∀ (p : Pool) (B : Nat) (d : D), Dn B n d → wt d ≤ 5000 → Wp (cd 29 [(true, p.d), (false, d)]) fun r => ∃ (q : Pool) (d' : D) (f : Bool), BentTo B n d d' ∧ r = ([q.d], f, d')
theorem pick_at (l : List D) {v : Nat} (h : v < l.length) : ∃ x, x ∈ l ∧ atI l (v : Int) = some x := ⟨l[v], List.getElem_mem h, atI_nat (List.getElem?_eq_getElem h)⟩
theorem BentTo.leaf {B n : Nat} {d d' : D} (h : Dn (B + 2) (n + 1) d') (hw : wt d' ≤ 5) : BentTo B n d d' := ⟨h, by have := wt_pos d; omega⟩
theorem strAdd {x y : Str} (hx : ∀ c ∈ x.cps.toList, c < 0x110000) (hy : ∀ c ∈ y.cps.toList, c < 0x110000) : ∀ c ∈ (x ++ y).cps.toList, c < 0x110000 := by
  have e : (x ++ y).cps = x.cps ++ y.cps := rfl
  intro c hc
  rw [e, Array.toList_append, List.mem_append] at hc
  exact hc.elim (hx c) (hy c)
theorem strAdd_len (x y : Str) : (x ++ y).length = x.length + y.length := by
  show (x.cps ++ y.cps).size = _
  rw [Array.size_append]; rfl
theorem cutS_mem {z : Str} {lo hi : Option Int} {c : Nat} (h : c ∈ (cutS z lo hi).cps.toList) : c ∈ z.cps.toList := by
  unfold cutS at h
  rw [List.toList_toArray] at h
  exact List.mem_of_mem_drop (List.mem_of_mem_take h)
theorem wtA_set {x : D} : ∀ {l : List D} {i : Nat}, wtA (l.set i x) ≤ wtA l + wt x
  | [], _ => by rw [List.set_nil]; omega
  | y :: r, 0 => by rw [List.set_cons_zero, wtA_cons, wtA_cons]; omega
  | y :: r, i + 1 => by
    have := wtA_set (x := x) (l := r) (i := i)
    rw [List.set_cons_succ, wtA_cons, wtA_cons]; omega
theorem bent_rest (h8 : CDraw cd) (h27 : CLInt 27 cd) {n B : Nat} {d : D} (hd : Dn B n d) (hw : wt d ≤ 5000) (p : Pool) :
    Wp (evS gcs cd (tailI b_law_bent) [.own true p.d, .imm d, .emp, .emp, .emp, .emp]) fun r => ∃ (q : Pool) (d' : D) (f : Bool) (s2 s3 s4 s5 : Slot), BentTo B n d d' ∧ r = (.rt (.val f d'), [.own true q.d, .imm d, s2, s3, s4, s5]) := by
  rw [b_law_bent, tailI]
  walk_at "ej"
  refine wp_bind (wp_mono (h8 p 9 (by omega) (by omega)) ?_)
  rintro r ⟨q1, t, f1, ht, rfl⟩
  walk_at "ej"
  cases c0 : decide ((t : Int) = 0) with
  | true =>
    walk_at "ej"
    rw [if_pos (small_le (show 8 ≤ 1048576 by omega))]
    walk_at "ej"
    refine wp_bind (wp_mono (h8 q1 8 (by omega) (by omega)) ?_)
    rintro r ⟨q2, v, f2, hv, rfl⟩
    walk_at "ej"
    obtain ⟨x, hm, e⟩ := pick_at [PyData.str ⟨#[120]⟩, .bool true, .tuple [], .int 0, .int (-1), .none, .bool false, .list []] (v := v) hv
    rw [e]
    walk_at "ej"
    refine ⟨_, _, _, _, _, _, _, ?_, rfl⟩
    simp only [List.mem_cons, List.not_mem_nil, or_false] at hm
    rcases hm with rfl | rfl | rfl | rfl | rfl | rfl | rfl | rfl
    · exact .leaf (.str (by decide)) (by decide)
    · exact .leaf .bool (by decide)
    · exact .leaf (.tup fun _ h => nomatch h) (by decide)
    · exact .leaf (.int (Nat.zero_le _)) (by decide)
    · exact .leaf (.int (by show 1 ≤ _; omega)) (by decide)
    · exact .leaf .non (by decide)
    · exact .leaf .bool (by decide)
    · exact .leaf (.lst fun _ h => nomatch h) (by decide)
  | false =>
    walk_at "ej"
    rw [h27 d hd.notDct]
    walk_at "ej"
    have hw1 := wt_pos d
    cases hd with
    | int h =>
      rw [show isInt (.int _) = true from rfl]
      walk_at "ej"
      refine wp_bind (wp_mono (h8 q1 4 (by omega) (by omega)) ?_)
      rintro r ⟨q2, v, f2, hv, rfl⟩
      walk_at "ej"
      obtain ⟨x, hm, e⟩ := pick_at [PyData.int 1, .int (-1), .int 2, .int 0] (v := v) hv
      rw [e]
      simp only [List.mem_cons, List.not_mem_nil, or_false] at hm
      have : ∃ z : Int, x = .int z ∧ z.natAbs ≤ 2 := by rcases hm with rfl | rfl | rfl | rfl <;> exact ⟨_, rfl, by decide⟩
      obtain ⟨z, rfl, hz⟩ := this
      walk_at "ej"
      exact ⟨_, _, _, _, _, _, _, .leaf (.int (by omega)) (by rw [wt_int]; omega), rfl⟩
    | @str n x h =>
      rw [show isInt (.str _) = false from rfl]
      have hl : x.length ≤ 5000 := by rw [wt_str] at hw; omega
      have e1 : O2.run .add (.str x) (.str ⟨#[97]⟩) = some (.str (x ++ ⟨#[97]⟩)) := if_pos (small_le (show x.length + 1 ≤ 1048576 by omega))
      have e2 : O2.run .add (.str x) (.str ⟨#[65]⟩) = some (.str (x ++ ⟨#[65]⟩)) := if_pos (small_le (show x.length + 1 ≤ 1048576 by omega))
      have e3 : O2.run .add (.str x) (.str ⟨#[32]⟩) = some (.str (x ++ ⟨#[32]⟩)) := if_pos (small_le (show x.length + 1 ≤ 1048576 by omega))
      have e4 : ∀ lo hi, sliD (.str x) lo hi = some (.str (cutS x lo hi)) := fun lo hi => sli_strZ (small_le (by omega))
      walk_at "ej"
      rw [show (List.toArray [97] : Array Nat) = #[97] from rfl, e1]
      walk_at "ej"
      rw [e4]
      walk_at "ej"
      rw [show (List.toArray [65] : Array Nat) = #[65] from rfl, e2]
      walk_at "ej"
      rw [show (List.toArray [32] : Array Nat) = #[32] from rfl, e3]
      walk_at "ej"
      rw [e4]
      walk_at "ej"
      refine wp_bind (wp_mono (h8 q1 5 (by omega) (by omega)) ?_)
      rintro r ⟨q2, v, f2, hv, rfl⟩
      walk_at "ej"
      obtain ⟨y, hm, e⟩ := pick_at [PyData.str (x ++ ⟨#[97]⟩), .str (cutS x (some 1) none), .str (x ++ ⟨#[65]⟩), .str (x ++ ⟨#[32]⟩), .str (cutS x none (some 1))] (v := v) hv
      rw [e]
      walk_at "ej"
      refine ⟨_, _, _, _, _, _, _, ?_, rfl⟩
      have c1 : ∀ k : Nat, k < 0x110000 → ∀ c ∈ (⟨#[k]⟩ : Str).cps.toList, c < 0x110000 := fun k hk c hc => by
        rw [List.mem_singleton.mp hc]; exact hk
      have big : ∀ k : Nat, k < 0x110000 → BentTo B n (.str x) (.str (x ++ ⟨#[k]⟩)) := fun k hk =>
        ⟨.str (strAdd h (c1 k hk)), by rw [wt_str, wt_str, strAdd_len]; show x.length + 1 + 1 ≤ _; omega⟩
      have cut : ∀ lo hi, BentTo B n (.str x) (.str (cutS x lo hi)) := fun lo hi =>
        ⟨.str fun c hc => h c (cutS_mem hc), by rw [wt_str, wt_str]; have := cutS_length x lo hi; omega⟩
      simp only [List.mem_cons, List.not_mem_nil, or_false] at hm
      rcases hm with rfl | rfl | rfl | rfl | rfl
      · exact big 97 (by omega)
      · exact cut _ _
      · exact big 65 (by omega)
      · exact big 32 (by omega)
      · exact cut _ _
    | @tup n xs h =>
      rw [show isInt (.tuple _) = false from rfl]
      walk_at "ej"
      rw [wt_tup] at hw
      have hl := wtA_len xs
      by_cases hx : xs = []
      · subst hx
        walk_at "ej"
        by_cases c5 : t < 5
        · rw [decide_eq_true (show (t : Int) < 5 by omega)]
          walk_at "ej"
          exact ⟨_, _, _, _, _, _, _, ⟨.tup fun y hy => (by
            rcases List.mem_cons.mp hy with rfl | hy
            · exact .tup fun _ h => nomatch h
            · rw [List.mem_singleton.mp hy]; exact .int (Nat.zero_le _)), by decide⟩, rfl⟩
        · rw [decide_eq_false (show ¬ (t : Int) < 5 by omega)]
          walk_at "ej"
          exact ⟨_, _, _, _, _, _, _, .leaf (.tup fun _ h => by cases h) (by decide), rfl⟩
      · have hpos : 0 < xs.length := List.length_pos_iff.mpr hx
        rw [decide_eq_false (show ¬ (xs.length : Int) = 0 by omega)]
        walk_at "ej"
        refine wp_bind (wp_mono (h8 q1 xs.length hpos (by omega)) ?_)
        rintro r ⟨q2, v, f2, hv, rfl⟩
        walk_at "ej"
        have hsub : ∀ ys : List D, (∀ y ∈ ys, y ∈ xs) → wtA ys ≤ 3 * wtA xs → BentTo B (n + 1) (.tuple xs) (.tuple ys) := fun ys hy hl =>
          ⟨.tup fun y hyy => (h y (hy y hyy)).mono (by omega) (by omega), by rw [wt_tup, wt_tup]; omega⟩
        have ex : atI xs (v : Int) = some xs[v] := atI_nat (List.getElem?_eq_getElem hv)
        by_cases c3 : t < 3
        · rw [decide_eq_true (show (t : Int) < 3 by omega)]
          walk_at "ej"
          rw [slice_to, show (v : Int) + 1 = ((v + 1 : Nat) : Int) from rfl, slice_from, run_addT (small_le (by rw [List.length_take, List.length_drop]; omega))]
          walk_at "ej"
          refine ⟨_, _, _, _, _, _, _, hsub _ (fun y hy => ?_) ?_, rfl⟩
          · rcases List.mem_append.mp hy with hy | hy
            · exact List.mem_of_mem_take hy
            · exact List.mem_of_mem_drop hy
          · rw [wtA_app]
            have := wtA_take xs v
            have := wtA_drop xs (v + 1)
            omega
        · rw [decide_eq_false (show ¬ (t : Int) < 3 by omega)]
          walk_at "ej"
          by_cases c5 : t < 5
          · rw [decide_eq_true (show (t : Int) < 5 by omega)]
            walk_at "ej"
            rw [slice_to, ex]
            walk_at "ej"
            rw [run_addT (small_le (by rw [List.length_take]; show _ + 1 ≤ _; omega))]
            walk_at "ej"
            rw [slice_from, run_addT (small_le (by rw [List.length_append, List.length_take, List.length_drop]; show _ + 1 + _ ≤ _; omega))]
            walk_at "ej"
            refine ⟨_, _, _, _, _, _, _, hsub _ (fun y hy => ?_) ?_, rfl⟩
            · rcases List.mem_append.mp hy with hy | hy
              · rcases List.mem_append.mp hy with hy | hy
                · exact List.mem_of_mem_take hy
                · rw [List.mem_singleton.mp hy]; exact List.getElem_mem hv
              · exact List.mem_of_mem_drop hy
            · rw [wtA_app, wtA_app, wtA_cons, wtA_nil]
              have := wtA_take xs v
              have := wtA_drop xs v
              have := wtA_mem (List.getElem_mem hv)
              omega
          · rw [decide_eq_false (show ¬ (t : Int) < 5 by omega)]
            walk_at "ej"
            by_cases c6 : t = 5
            · rw [decide_eq_true (show (t : Int) = 5 by omega)]
              walk_at "ej"
              exact ⟨_, _, _, _, _, _, _, ⟨.lst fun y hy => (h y hy).mono (by omega) (by omega), by rw [wt_tup, wt_lst]; omega⟩, rfl⟩
            · rw [decide_eq_false (show ¬ (t : Int) = 5 by omega)]
              walk_at "ej"
              refine wp_bind (wp_mono (h8 q2 xs.length hpos (by omega)) ?_)
              rintro r ⟨q3, o, f3, ho, rfl⟩
              have ey : atI xs (o : Int) = some xs[o] := atI_nat (List.getElem?_eq_getElem ho)
              walk_at "ej"
              rw [ey]
              walk_at "ej"
              rw [ixN_nat hv]
              walk_at "ej"
              rw [ex]
              walk_at "ej"
              rw [ixN_nat (show o < (xs.set v xs[o]).length by rw [List.length_set]; exact ho)]
              walk_at "ej"
              refine ⟨_, _, _, _, _, _, _, hsub _ (fun y hy => ?_) ?_, rfl⟩
              · rcases List.mem_or_eq_of_mem_set hy with hy | rfl
                · rcases List.mem_or_eq_of_mem_set hy with hy | rfl
                  · exact hy
                  · exact List.getElem_mem ho
                · exact List.getElem_mem hv
              · have h1 := wtA_set (l := xs) (i := v) (x := xs[o])
                have h2 := wtA_set (l := xs.set v xs[o]) (i := o) (x := xs[v])
                have h3 := wtA_mem (List.getElem_mem hv)
                have h4 := wtA_mem (List.getElem_mem ho)
                omega
    | @lst n xs h =>
      rw [show isInt (.list _) = false from rfl]
      rw [wt_lst] at hw
      walk_at "ej"
      by_cases c5 : t < 5
      · rw [decide_eq_true (show (t : Int) < 5 by omega)]
        walk_at "ej"
        exact ⟨_, _, _, _, _, _, _, ⟨.tup fun y hy => (by
          rcases List.mem_cons.mp hy with rfl | hy
          · exact .lst fun y hy => (h y hy).mono (by omega) (by omega)
          · rw [List.mem_singleton.mp hy]; exact .int (Nat.zero_le _)), by rw [wt_tup, wtA_cons, wtA_cons, wtA_nil, wt_int]; omega⟩, rfl⟩
      · rw [decide_eq_false (show ¬ (t : Int) < 5 by omega)]
        walk_at "ej"
        exact ⟨_, _, _, _, _, _, _, .leaf (.tup fun _ h => by cases h) (by decide), rfl⟩
    | _ =>
      rw [show isInt _ = false from rfl]
      walk_at "ej"
      by_cases c5 : t < 5
      · rw [decide_eq_true (show (t : Int) < 5 by omega)]
        walk_at "ej"
        exact ⟨_, _, _, _, _, _, _, ⟨.tup fun y hy => (by
          rcases List.mem_cons.mp hy with rfl | hy
          · first | exact .non | exact .bool
          · rw [List.mem_singleton.mp hy]; exact .int (Nat.zero_le _)), by rw [wt_tup, wtA_cons, wtA_cons, wtA_nil, wt_int]; omega⟩, rfl⟩
      · rw [decide_eq_false (show ¬ (t : Int) < 5 by omega)]
        walk_at "ej"
        exact ⟨_, _, _, _, _, _, _, .leaf (.tup fun _ h => by cases h) (by decide), rfl⟩
theorem bent_ok (h8 : CDraw cd) (h27 : CLInt 27 cd) (n : Nat) (ih : ∀ m, n = m + 1 → CBent m cd) (p : Pool) (B : Nat) (d : D) (hd : Dn B n d) (hw : wt d ≤ 5000) :
    Wp (runFn gcs cd fn_law_bent [(true, p.d), (false, d)]) fun r => ∃ (q : Pool) (d' : D) (f : Bool), BentTo B n d d' ∧ r = ([q.d], f, d') := by
  refine wp_run rfl ?_
  rw [show fn_law_bent.body = b_law_bent from rfl, show fn_law_bent.nl = 4 from rfl]
  have fin : ∀ p0 p : Pool, Wp ((evS gcs cd (tailI b_law_bent) [.own true p.d, .imm d, .emp, .emp, .emp, .emp]).bind fun q => (R.opt (outs [(true, p0.d), (false, d)] q.2)).bind fun os => match q.1 with | .rt r => (R.opt (retD q.2 r)).bind fun v => .ok (os, v) | .nx => .ok (os, true, .none) | _ => .no) fun r => ∃ (q : Pool) (d' : D) (f : Bool), BentTo B n d d' ∧ r = ([q.d], f, d') := fun p0 p => by
    refine wp_bind (wp_mono (bent_rest h8 h27 hd hw p) ?_)
    rintro r ⟨q, d', f, s2, s3, s4, s5, hb, rfl⟩
    walk_at "ej"
    exact ⟨q, d', f, hb, rfl⟩
  rw [show b_law_bent = .cons (headI b_law_bent) (tailI b_law_bent) from rfl]
  generalize tailI b_law_bent = T at fin ⊢
  rw [b_law_bent, headI]
  cases hd with
  | @tup n xs h =>
    walk_at "ej"
    by_cases hx : xs = []
    · subst hx
      walk_at "ej"
      exact fin p p
    · have hpos : 0 < xs.length := List.length_pos_iff.mpr hx
      rw [wt_tup] at hw
      have hl := wtA_len xs
      rw [decide_eq_true (show (0 : Int) < (xs.length : Int) by omega)]
      walk_at "ej"
      refine wp_bind (wp_mono (h8 p 3 (by omega) (by omega)) ?_)
      rintro r ⟨q1, t, f1, ht, rfl⟩
      walk_at "ej"
      by_cases c0 : 0 < t
      · rw [decide_eq_true (show (0 : Int) < (t : Int) by omega)]
        walk_at "ej"
        refine wp_bind (wp_mono (h8 q1 xs.length hpos (by omega)) ?_)
        rintro r ⟨q2, v, f2, hv, rfl⟩
        walk_at "ej"
        have ex : atI xs (v : Int) = some xs[v] := atI_nat (List.getElem?_eq_getElem hv)
        have hv1 := wtA_mem (List.getElem_mem hv)
        rw [slice_to, ex]
        walk_at "ej"
        refine wp_bind (wp_mono (ih n rfl q2 B xs[v] (h _ (List.getElem_mem hv)) (by omega)) ?_)
        rintro r ⟨q3, y, f3, ⟨hy1, hy2⟩, rfl⟩
        walk_at "ej"
        rw [run_addT (small_le (by rw [List.length_take]; show _ + 1 ≤ _; omega))]
        walk_at "ej"
        rw [show (v : Int) + 1 = ((v + 1 : Nat) : Int) from rfl, slice_from, run_addT (small_le (by rw [List.length_append, List.length_take, List.length_drop]; show _ + 1 + _ ≤ _; omega))]
        walk_at "ej"
        refine ⟨_, _, _, ⟨.tup fun z hz => ?_, ?_⟩, rfl⟩
        · rcases List.mem_append.mp hz with hz | hz
          · rcases List.mem_append.mp hz with hz | hz
            · exact (h z (List.mem_of_mem_take hz)).mono (by omega) (by omega)
            · rw [List.mem_singleton.mp hz]; exact hy1
          · exact (h z (List.mem_of_mem_drop hz)).mono (by omega) (by omega)
        · have e0 : wtA xs = wtA (xs.take v) + (wt xs[v] + wtA (xs.drop (v + 1))) := by
            rw [← wtA_cons, ← List.drop_eq_getElem_cons hv, ← wtA_app, List.take_append_drop]
          rw [wt_tup, wt_tup, wtA_app, wtA_app, wtA_cons, wtA_nil]
          omega
      · rw [decide_eq_false (show ¬ (0 : Int) < (t : Int) by omega)]
        walk_at "ej"
        exact fin p q1
  | _ =>
    walk_at "ej"
    exact fin p p
end DL
/-! P43: talks told. -/
namespace DL
open PySem PySem.Spec PyProof.Rows L2
local macro_rules | `(tactic| walk_at "ej") => `(tactic| ((simp -dsimp -implicitDefEqProofs only [↓wp_toX, wpX_ok, ↓bind_toX, ↓loopF_toX, ↓loopC_toX, ↓while_toX, bindX_ok, bindX_assoc, evS, evE, evO, evR, evL, evB, evA, evI, opt_some, opd_val, opd_bor, slotD_imm, slotD_own, fz_val, obind_some, omap_some, ofInt_int, ofBool_bool, items_list, items_tuple,
  run_add, run_sub, run_mul, run_fdiv, run_mod, run_lt, run_le, run_gt, run_ge, run_eqI, run_neI, run_isN, run_notN, run_not, run_neg, idx_list, idx_tuple, sli_list, sli_tuple, sli_scr, b_lenL, b_lenT, b_listS, b_listL, b_listT, b_tupL, b_tupT, b_max2, b_min2, b_int,
  argsOf_nil, argsOf_v, margs, retD_val, outs_nil, outs_f, outs_t, slotOf_f, slotOf_t, bindP_var, bindP_tup, bindPs_nil, bindPs_cons, wipe_nil, wipe_cons, back_nil, back_cons, mapM_nilO, mapM_consO, noOwn, isOwn, isOwnD, isVal, dctT, dctG, allI2, allI2b, fz_bor,
  List.map_cons, List.map_nil, List.replicate_succ, List.replicate_zero, List.cons_append, List.nil_append, List.getElem?_cons_zero, List.getElem?_cons_succ, List.set_cons_zero, List.set_cons_succ, List.length_cons, List.length_nil, List.all_cons, List.all_nil, Option.getD_some,
  isDct, Ty.has, ne_bb, beq_self_eq_true, decide_true, decide_false, Bool.false_eq_true, isNone, sli_strZ, castLit, Bool.not_not, Nat.zero_add, Nat.reduceAdd, Nat.reduceLT, Nat.reduceLeDiff, Nat.lt_add_left_iff_pos, Nat.zero_lt_succ, Nat.reduceEqDiff, Int.reduceEq, Int.reduceLT, Int.reduceLE, Int.reduceNeg, inR_0, retD_bor, Bool.not_true, Bool.not_false, idx_sp0, idx_sp1, ofInt_nI, aug_n, eq_n, eq_n0, eq_n1, ne_n0, gt_n0, len_b, len_nT, len_nL, in_T, in_L, nin_T, nin_L, bindP_sp, items_b, items_nT, items_nL, isNone_oD, aug_i, sz0, sz1, sz2, sz3, sz4, sz5, argsOf_mE, argOf, putBack, omap_some, na5, putB_nil, at0, at1, at2, at3, at4, ix51, ix52, ix53, true_or, or_true, sm1, sm2, sm3, sm4, sm5, Bool.or_true, reduceIte, Bool.and_self, Bool.and_true, Bool.true_and, if_true, if_false, Bool.or_true, Bool.true_or, ne_eq, not_false_eq_true, not_true_eq_false, true_and, and_true,
  List.nodup_cons, List.nodup_nil, List.not_mem_nil, List.mem_cons, or_false, false_or]) <;> (try simp -dsimp only [wp_ofX])))
variable {gcs : Nat → Option D} {cd : CallSem}
/-- a loop whose turns hand back False where something is amiss -/
theorem loop_guard {b : D → DS → R (Out × DS)} (J : DS → Prop) (c : D → Bool) : ∀ {xs : List D} {d : DS}, J d → (∀ x ∈ xs, ∀ d, J d → Wp (b x d) fun q => J q.2 ∧ q.1 = if c x then .nx else .rt (.val true (.bool false))) →
    Wp (loopF b xs d) fun q => J q.2 ∧ q.1 = if xs.all c then .nx else .rt (.val true (.bool false))
  | [], d, h0, _ => ⟨_, rfl, h0, rfl⟩
  | x :: xs, d, h0, hs => by
    rw [loopF]
    refine wp_bind (wp_mono (hs x List.mem_cons_self d h0) ?_)
    rintro ⟨o, d1⟩ ⟨hj, ho⟩
    dsimp only at hj ho
    rw [List.all_cons]
    cases e : c x with
    | true =>
      rw [e] at ho
      subst ho
      rw [Bool.true_and]
      exact loop_guard J c hj fun y hy => hs y (List.mem_cons_of_mem _ hy)
    | false =>
      rw [e] at ho
      subst ho
      exact ⟨_, rfl, hj, rfl⟩
def intIn (m : Int) : D → Bool
  | .int z => decide (0 ≤ z) && decide (z < m)
  | _ => false
def rowB (outs m : Int) : D → Bool
  | .tuple xs => decide ((xs.length : Int) = outs) && xs.all (intIn m)
  | _ => false
def tableB (ins outs m : Int) : D → Bool
  | .tuple xs => decide ((xs.length : Int) = ins) && xs.all (rowB outs m)
  | _ => false
/-- is_table (249) -/
def CTable (cd : CallSem) : Prop := ∀ (B n : Nat) (d : D) (ins outs m : Int), Dn B n d → wt d ≤ 40000 → cd 249 [(false, d), (false, .int ins), (false, .int outs), (false, .int m)] = .ok ([], true, .bool (tableB ins outs m d))
theorem all_bools (xs : List D) (c : D → Bool) : B1.run .all [.list (xs.map fun x => PyData.bool (c x))] = some (.bool (xs.all c)) := by
  have := b_all (bs := xs.map c)
  rw [List.map_map] at this
  rw [show (xs.map fun x => PyData.bool (c x)) = xs.map (PyData.bool ∘ c) from rfl, this, List.all_map]
  try rfl
theorem Dn.tupMem {B n : Nat} {xs : List D} (h : Dn B n (.tuple xs)) : ∃ m, n = m + 1 ∧ ∀ x ∈ xs, Dn B m x := by
  cases h with
  | tup h => exact ⟨_, rfl, h⟩
theorem table_row (h15 : CLInt 15 cd) {B n : Nat} {x v : D} {ins outs m : Int} (hx : Dn B n x) (hw : wt x ≤ 40000) :
    Wp (evS gcs cd b_is_table_1 [.imm v, .imm (.int ins), .imm (.int outs), .imm (.int m), .imm x, .emp]) fun q => q.2 = [.imm v, .imm (.int ins), .imm (.int outs), .imm (.int m), .imm x, .emp] ∧ q.1 = if rowB outs m x then .nx else .rt (.val true (.bool false)) := by
  rw [b_is_table_1]
  cases hx with
  | @tup n xs h =>
    have hl := wtA_len xs
    rw [wt_tup] at hw
    walk_at "ej"
    by_cases c1 : (xs.length : Int) = outs
    · rw [decide_eq_true c1]
      walk_at "ej"
      refine wp_bind (wp_loopC (fun x => some (.bool (intIn m x))) (fun y hy => ?_) (small_le (by show 0 + _ ≤ _; omega)) ?_)
      · refine ev_eq ?_
        walk_at "ej"
        rw [h15 y (h y hy).notDct]
        walk_at "ej"
        have hy' := h y hy
        cases hy' with
        | @int _ z hz =>
          rw [show isInt (.int z) = true from rfl]
          walk_at "ej"
          rw [intIn]
          by_cases c2 : 0 ≤ z
          · rw [decide_eq_true c2]
            walk_at "ej"
            try rw [Bool.true_and]
          · rw [decide_eq_false c2]
            walk_at "ej"
            try rw [Bool.false_and]
        | _ =>
          rw [show isInt _ = false from rfl]
          walk_at "ej"
          try rfl
      rw [comp_map]
      walk_at "ej"
      rw [all_bools]
      walk_at "ej"
      cases c3 : xs.all (intIn m) with
      | true =>
        walk_at "ej"
        rw [rowB, decide_eq_true c1, c3]
        try rfl
      | false =>
        walk_at "ej"
        rw [rowB, decide_eq_true c1, c3]
        try rfl
    · rw [decide_eq_false c1]
      walk_at "ej"
      rw [rowB, decide_eq_false c1]
      try rfl
  | _ => 
    walk_at "ej"
    try rfl
theorem table_ok (h15 : CLInt 15 cd) (B n : Nat) (d : D) (ins outs m : Int) (hd : Dn B n d) (hw : wt d ≤ 40000) : runFn gcs cd fn_is_table [(false, d), (false, .int ins), (false, .int outs), (false, .int m)] = .ok ([], true, .bool (tableB ins outs m d)) := by
  refine ev_eq (wp_run rfl ?_)
  rw [show fn_is_table.body = b_is_table from rfl, show fn_is_table.nl = 2 from rfl, b_is_table]
  cases hd with
  | @tup n xs h =>
    rw [wt_tup] at hw
    walk_at "ej"
    by_cases c1 : (xs.length : Int) = ins
    · rw [decide_eq_true c1]
      walk_at "ej"
      refine wp_bind (wp_mono (loop_guard (fun d => ∃ s4, d = [.imm (.tuple xs), .imm (.int ins), .imm (.int outs), .imm (.int m), s4, .emp]) (rowB outs m) ⟨_, rfl⟩ ?_) ?_)
      · rintro x hx d ⟨s4, rfl⟩
        walk_at "ej"
        refine wp_mono (table_row h15 (h x hx) (by have := wtA_mem hx; omega)) ?_
        rintro ⟨o, d⟩ ⟨e1, e2⟩
        exact ⟨⟨_, e1⟩, e2⟩
      · rintro ⟨o, d⟩ ⟨⟨s4, e1⟩, e2⟩
        dsimp only at e1 e2
        subst e1
        rw [tableB, decide_eq_true c1, Bool.true_and]
        cases c3 : xs.all (rowB outs m) with
        | true =>
          rw [c3] at e2
          subst e2
          walk_at "ej"
        | false =>
          rw [c3] at e2
          subst e2
          walk_at "ej"
          try rfl
    · rw [decide_eq_false c1]
      walk_at "ej"
      rw [tableB, decide_eq_false c1]
      try rfl
  | _ =>
    walk_at "ej"
    try rfl
/-! ### is_talk -/
def stB (ins outs m : Int) : D → Bool
  | .tuple [.int l, t] => decide (0 ≤ l) && (decide (l ≤ 7) && tableB ins outs m t)
  | _ => false
def talkB : D → Bool
  | .tuple [.int ins, .int outs, .tuple sts] => decide (1 ≤ ins) && (decide (ins ≤ 3) && (decide (1 ≤ outs) && (decide (outs ≤ 3) && (decide (1 ≤ (sts.length : Int)) && (decide ((sts.length : Int) ≤ 5) && sts.all (stB ins outs (sts.length : Int)))))))
  | _ => false
theorem stB_len {ins outs m : Int} {xs : List D} (h : xs.length ≠ 2) : stB ins outs m (.tuple xs) = false := by
  match xs, h with
  | [], _ => rfl
  | [x], _ => cases x <;> rfl
  | [_, _], h => exact absurd rfl h
  | x :: _ :: _ :: _, _ => cases x <;> rfl
theorem stB_head {ins outs m : Int} {x y : D} (h : isInt x = false) : stB ins outs m (.tuple [x, y]) = false := by
  cases x <;> first | rfl | cases h
theorem talk_state (h15 : CLInt 15 cd) (h249 : CTable cd) {B n : Nat} {x v : D} {ins outs : Int} {sts : List D} (hx : Dn B n x) (hw : wt x ≤ 40000) :
    Wp (evS gcs cd b_is_talk_1 [.imm v, .emp, .imm (.int ins), .imm (.int outs), .imm (.tuple sts), .imm x]) fun q => q.2 = [.imm v, .emp, .imm (.int ins), .imm (.int outs), .imm (.tuple sts), .imm x] ∧ q.1 = if stB ins outs (sts.length : Int) x then .nx else .rt (.val true (.bool false)) := by
  rw [b_is_talk_1]
  cases hx with
  | @tup n xs h =>
    rw [wt_tup] at hw
    walk_at "ej"
    by_cases c1 : (xs.length : Int) = 2
    · rw [decide_eq_true c1]
      obtain ⟨a, b, rfl⟩ : ∃ a b, xs = [a, b] := by
        match xs, (show xs.length = 2 by omega) with
        | [a, b], _ => exact ⟨a, b, rfl⟩
      walk_at "ej"
      have ha := h a (by simp)
      have hb := h b (by simp)
      rw [h15 a ha.notDct]
      walk_at "ej"
      cases ha with
      | @int _ l hl =>
        rw [show isInt (.int l) = true from rfl]
        walk_at "ej"
        rw [stB]
        by_cases c2 : 0 ≤ l
        · rw [decide_eq_true c2]
          walk_at "ej"
          by_cases c3 : l ≤ 7
          · rw [decide_eq_true c3]
            walk_at "ej"
            rw [h249 B n b ins outs (sts.length : Int) hb (by rw [wtA_cons, wtA_cons] at hw; omega)]
            walk_at "ej"
            cases tableB ins outs (sts.length : Int) b
            · walk_at "ej"
              try rfl
            · walk_at "ej"
              try rfl
          · rw [decide_eq_false c3]
            walk_at "ej"
            try rfl
        · rw [decide_eq_false c2]
          walk_at "ej"
          try rfl
      | _ =>
        rw [stB_head rfl, show isInt _ = false from rfl]
        walk_at "ej"
        try rfl
    · rw [decide_eq_false c1]
      walk_at "ej"
      rw [stB_len (by omega)]
      try rfl
  | _ =>
    walk_at "ej"
    try rfl
theorem talkB_len {xs : List D} (h : xs.length ≠ 3) : talkB (.tuple xs) = false := by
  match xs, h with
  | [], _ => rfl
  | [x], _ => cases x <;> rfl
  | [x, y], _ => cases x <;> cases y <;> rfl
  | [_, _, _], h => exact absurd rfl h
  | x :: y :: z :: _ :: _, _ => cases x <;> cases y <;> cases z <;> rfl
theorem talkB_head {x y z : D} (h : (isInt x && isInt y) = false) : talkB (.tuple [x, y, z]) = false := by
  cases x <;> cases y <;> first | rfl | cases h
theorem isInt_ex {x : D} (h : isInt x = true) : ∃ z, x = .int z := by
  cases x <;> first | exact ⟨_, rfl⟩ | cases h
/-- is_talk (250) -/
def CTalk (cd : CallSem) : Prop := ∀ (B n : Nat) (d : D), Dn B n d → wt d ≤ 40000 → cd 250 [(false, d)] = .ok ([], true, .bool (talkB d))
theorem istalk_ok (h15 : CLInt 15 cd) (h249 : CTable cd) (B n : Nat) (d : D) (hd : Dn B n d) (hw : wt d ≤ 40000) : runFn gcs cd fn_is_talk [(false, d)] = .ok ([], true, .bool (talkB d)) := by
  refine ev_eq (wp_run rfl ?_)
  rw [show fn_is_talk.body = b_is_talk from rfl, show fn_is_talk.nl = 5 from rfl, b_is_talk]
  cases hd with
  | @tup n xs h =>
    rw [wt_tup] at hw
    walk_at "ej"
    by_cases c1 : (xs.length : Int) = 3
    · rw [decide_eq_true c1]
      obtain ⟨a, b, c, rfl⟩ : ∃ a b c, xs = [a, b, c] := by
        match xs, (show xs.length = 3 by omega) with
        | [a, b, c], _ => exact ⟨a, b, c, rfl⟩
      walk_at "ej"
      rw [show sliceD [a, b, c] none (some 2) = [a, b] from slice_to [a, b, c] 2]
      refine wp_bind (wp_loopC (fun x => some (.bool (isInt x))) (fun y hy => ?_) (small_le (by show 0 + 2 ≤ _; omega)) ?_)
      · refine ev_eq ?_
        walk_at "ej"
        rw [h15 y (h y (by rcases List.mem_cons.mp hy with rfl | hy; simp; rw [List.mem_singleton.mp hy]; simp)).notDct]
        walk_at "ej"
      rw [comp_map]
      walk_at "ej"
      have hab := all_bools [a, b] isInt
      rw [List.map_cons, List.map_cons, List.map_nil] at hab
      rw [hab, List.all_cons, List.all_cons, List.all_nil, Bool.and_true]
      walk_at "ej"
      cases cab : isInt a && isInt b with
      | false =>
        walk_at "ej"
        rw [talkB_head cab]
      | true =>
        rw [Bool.and_eq_true] at cab
        obtain ⟨i, rfl⟩ := isInt_ex cab.1
        obtain ⟨o, rfl⟩ := isInt_ex cab.2
        walk_at "ej"
        rw [wtA_cons, wtA_cons, wtA_cons, wtA_nil] at hw
        have fin : ∀ k : Bool, k = false → talkB (.tuple [.int i, .int o, c]) = k → talkB (.tuple [.int i, .int o, c]) = false := fun k h e => e.trans h
        have hc := h c (by simp)
        by_cases c2 : 1 ≤ i
        case neg => rw [decide_eq_false c2]; walk_at "ej"; cases c <;> first | rfl | (rw [talkB, decide_eq_false c2]; rfl)
        rw [decide_eq_true c2]
        walk_at "ej"
        by_cases c3 : i ≤ 3
        case neg => rw [decide_eq_false c3]; walk_at "ej"; cases c <;> first | rfl | (rw [talkB, decide_eq_true c2, decide_eq_false c3]; rfl)
        rw [decide_eq_true c3]
        walk_at "ej"
        by_cases c4 : 1 ≤ o
        case neg => rw [decide_eq_false c4]; walk_at "ej"; cases c <;> first | rfl | (rw [talkB, decide_eq_true c2, decide_eq_true c3, decide_eq_false c4]; rfl)
        rw [decide_eq_true c4]
        walk_at "ej"
        by_cases c5 : o ≤ 3
        case neg => rw [decide_eq_false c5]; walk_at "ej"; cases c <;> first | rfl | (rw [talkB, decide_eq_true c2, decide_eq_true c3, decide_eq_true c4, decide_eq_false c5]; rfl)
        rw [decide_eq_true c5]
        walk_at "ej"
        cases hc with
        | @tup n sts hss =>
          rw [wt_tup] at hw
          rw [talkB, decide_eq_true c2, decide_eq_true c3, decide_eq_true c4, decide_eq_true c5]
          walk_at "ej"
          by_cases c6 : 1 ≤ (sts.length : Int)
          case neg => rw [decide_eq_false c6]; walk_at "ej"; try rfl
          rw [decide_eq_true c6]
          walk_at "ej"
          by_cases c7 : (sts.length : Int) ≤ 5
          case neg => rw [decide_eq_false c7]; walk_at "ej"; try rfl
          rw [decide_eq_true c7]
          walk_at "ej"
          refine wp_bind (wp_mono (loop_guard (fun d => ∃ s5, d = [.imm (.tuple [.int i, .int o, .tuple sts]), .emp, .imm (.int i), .imm (.int o), .imm (.tuple sts), s5]) (stB i o (sts.length : Int)) ⟨_, rfl⟩ ?_) ?_)
          · rintro x hx d ⟨s4, rfl⟩
            walk_at "ej"
            refine wp_mono (talk_state h15 h249 (hss x hx) (by have := wtA_mem hx; omega)) ?_
            rintro ⟨o, d⟩ ⟨e1, e2⟩
            exact ⟨⟨_, e1⟩, e2⟩
          · rintro ⟨o, d⟩ ⟨⟨s4, e1⟩, e2⟩
            dsimp only at e1 e2
            subst e1
            cases c8 : sts.all (stB i _ (sts.length : Int)) with
            | true =>
              rw [c8] at e2
              subst e2
              walk_at "ej"
              try rfl
            | false =>
              rw [c8] at e2
              subst e2
              walk_at "ej"
              try rfl
        | _ =>
          walk_at "ej"
          try rfl
    · rw [decide_eq_false c1]
      walk_at "ej"
      rw [talkB_len (by omega)]
  | _ =>
    walk_at "ej"
    try rfl
end DL
/-! P44: talks told, by the law's own words. -/
namespace DL
open PySem PySem.Spec PyProof.Rows L2
local macro_rules | `(tactic| walk_at "ej") => `(tactic| ((simp -dsimp -implicitDefEqProofs only [↓wp_toX, wpX_ok, ↓bind_toX, ↓loopF_toX, ↓loopC_toX, ↓while_toX, bindX_ok, bindX_assoc, evS, evE, evO, evR, evL, evB, evA, evI, opt_some, opd_val, opd_bor, slotD_imm, slotD_own, fz_val, obind_some, omap_some, ofInt_int, ofBool_bool, items_list, items_tuple,
  run_add, run_sub, run_mul, run_fdiv, run_mod, run_lt, run_le, run_gt, run_ge, run_eqI, run_neI, run_isN, run_notN, run_not, run_neg, idx_list, idx_tuple, sli_list, sli_tuple, sli_scr, b_lenL, b_lenT, b_listS, b_listL, b_listT, b_tupL, b_tupT, b_max2, b_min2, b_int,
  argsOf_nil, argsOf_v, margs, retD_val, outs_nil, outs_f, outs_t, slotOf_f, slotOf_t, bindP_var, bindP_tup, bindPs_nil, bindPs_cons, wipe_nil, wipe_cons, back_nil, back_cons, mapM_nilO, mapM_consO, noOwn, isOwn, isOwnD, isVal, dctT, dctG, allI2, allI2b, fz_bor,
  List.map_cons, List.map_nil, List.replicate_succ, List.replicate_zero, List.cons_append, List.nil_append, List.getElem?_cons_zero, List.getElem?_cons_succ, List.set_cons_zero, List.set_cons_succ, List.length_cons, List.length_nil, List.all_cons, List.all_nil, Option.getD_some,
  isDct, Ty.has, ne_bb, beq_self_eq_true, decide_true, decide_false, Bool.false_eq_true, isNone, sli_strZ, castLit, Bool.not_not, Nat.zero_add, Nat.reduceAdd, Nat.reduceLT, Nat.reduceLeDiff, Nat.lt_add_left_iff_pos, Nat.zero_lt_succ, Nat.reduceEqDiff, Int.reduceEq, Int.reduceLT, Int.reduceLE, Int.reduceNeg, inR_0, retD_bor, Bool.not_true, Bool.not_false, idx_sp0, idx_sp1, ofInt_nI, aug_n, eq_n, eq_n0, eq_n1, ne_n0, gt_n0, len_b, len_nT, len_nL, in_T, in_L, nin_T, nin_L, bindP_sp, items_b, items_nT, items_nL, isNone_oD, aug_i, sz0, sz1, sz2, sz3, sz4, sz5, argsOf_mE, argOf, putBack, omap_some, na5, putB_nil, at0, at1, at2, at3, at4, ix51, ix52, ix53, true_or, or_true, sm1, sm2, sm3, sm4, sm5, Bool.or_true, reduceIte, Bool.and_self, Bool.and_true, Bool.true_and, if_true, if_false, Bool.or_true, Bool.true_or, ne_eq, not_false_eq_true, not_true_eq_false, true_and, and_true,
  List.nodup_cons, List.nodup_nil, List.not_mem_nil, List.mem_cons, or_false, false_or]) <;> (try simp -dsimp only [wp_ofX])))
variable {gcs : Nat → Option D} {cd : CallSem}
theorem filt_none {c : D → Bool} : ∀ {xs : List D}, (xs.filterMap fun x => if c x then none else some x) = [] ↔ xs.all c = true
  | [] => by simp
  | x :: xs => by
    have := filt_none (c := c) (xs := xs)
    rw [List.filterMap_cons, List.all_cons]
    cases c x with
    | true => rw [Bool.true_and]; exact this
    | false => simp
theorem lrow_ok (h27 : CLInt 27 cd) {B n : Nat} {x v w : D} {ins outs : Int} {sts : List D} (hx : Dn B n x) (hw : wt x ≤ 40000) :
    Wp (evS gcs cd b_law_is_talk_2 [.imm v, .imm (.int ins), .imm (.int outs), .imm (.tuple sts), .imm w, .imm x, .emp]) fun q => q.2 = [.imm v, .imm (.int ins), .imm (.int outs), .imm (.tuple sts), .imm w, .imm x, .emp] ∧ q.1 = if rowB outs (sts.length : Int) x then .nx else .rt (.val true (.bool false)) := by
  rw [b_law_is_talk_2]
  cases hx with
  | @tup n xs h =>
    have hl := wtA_len xs
    rw [wt_tup] at hw
    walk_at "ej"
    by_cases c1 : (xs.length : Int) = outs
    · rw [decide_eq_true c1]
      walk_at "ej"
      refine wp_bind (wp_loopC (fun x => if intIn (sts.length : Int) x then none else some x) (fun y hy => ?_) (small_le (by show 0 + _ ≤ _; omega)) ?_)
      · refine ev_eq ?_
        walk_at "ej"
        rw [h27 y (h y hy).notDct]
        walk_at "ej"
        have hy' := h y hy
        cases hy' with
        | @int _ z hz =>
          rw [show isInt (.int z) = true from rfl]
          walk_at "ej"
          rw [intIn]
          by_cases c2 : z < 0
          · rw [decide_eq_true c2, decide_eq_false (show ¬ 0 ≤ z by omega)]
            walk_at "ej"
            try rfl
          · rw [decide_eq_false c2, decide_eq_true (show 0 ≤ z by omega)]
            walk_at "ej"
            by_cases c3 : (sts.length : Int) ≤ z
            · rw [decide_eq_true c3, decide_eq_false (show ¬ z < (sts.length : Int) by omega)]
              walk_at "ej"
              try rfl
            · rw [decide_eq_false c3, decide_eq_true (show z < (sts.length : Int) by omega)]
              walk_at "ej"
              try rfl
        | _ =>
          rw [show isInt _ = false from rfl]
          walk_at "ej"
          try rfl
      walk_at "ej"
      cases c3 : xs.all (intIn (sts.length : Int)) with
      | true =>
        rw [filt_none.mpr c3]
        walk_at "ej"
        rw [rowB, decide_eq_true c1, c3]
        try rfl
      | false =>
        have hne : (xs.filterMap fun x => if intIn (sts.length : Int) x then none else some x) ≠ [] := fun e => by
          rw [filt_none.mp e] at c3; cases c3
        have hp := List.length_pos_iff.mpr hne
        rw [decide_eq_true (show (0 : Int) < ((xs.filterMap fun x => if intIn (sts.length : Int) x then none else some x).length : Int) by omega)]
        walk_at "ej"
        rw [rowB, decide_eq_true c1, c3]
        try rfl
    · rw [decide_eq_false c1]
      walk_at "ej"
      rw [rowB, decide_eq_false c1]
      try rfl
  | _ =>
    walk_at "ej"
    try rfl
theorem lstate_ok (h27 : CLInt 27 cd) {B n : Nat} {x v : D} {ins outs : Int} {sts : List D} (hx : Dn B n x) (hw : wt x ≤ 40000) (s5 : Slot) :
    Wp (evS gcs cd b_law_is_talk_1 [.imm v, .imm (.int ins), .imm (.int outs), .imm (.tuple sts), .imm x, s5, .emp]) fun q => (∃ s5', q.2 = [.imm v, .imm (.int ins), .imm (.int outs), .imm (.tuple sts), .imm x, s5', .emp]) ∧ q.1 = if stB ins outs (sts.length : Int) x then .nx else .rt (.val true (.bool false)) := by
  rw [b_law_is_talk_1]
  cases hx with
  | @tup n xs h =>
    rw [wt_tup] at hw
    walk_at "ej"
    by_cases c1 : (xs.length : Int) = 2
    · rw [decide_eq_true c1]
      obtain ⟨a, b, rfl⟩ : ∃ a b, xs = [a, b] := by
        match xs, (show xs.length = 2 by omega) with
        | [a, b], _ => exact ⟨a, b, rfl⟩
      walk_at "ej"
      have ha := h a (by simp)
      have hb := h b (by simp)
      rw [h27 a ha.notDct]
      walk_at "ej"
      cases ha with
      | @int _ l hl =>
        rw [show isInt (.int l) = true from rfl]
        walk_at "ej"
        rw [stB]
        by_cases c2 : l < 0
        · rw [decide_eq_true c2, decide_eq_false (show ¬ 0 ≤ l by omega)]
          walk_at "ej"
          first | exact ⟨⟨_, rfl⟩, rfl⟩ | exact ⟨_, rfl⟩
        rw [decide_eq_false c2, decide_eq_true (show 0 ≤ l by omega)]
        walk_at "ej"
        by_cases c3 : 7 < l
        · rw [decide_eq_true c3, decide_eq_false (show ¬ l ≤ 7 by omega)]
          walk_at "ej"
          first | exact ⟨⟨_, rfl⟩, rfl⟩ | exact ⟨_, rfl⟩
        rw [decide_eq_false c3, decide_eq_true (show l ≤ 7 by omega)]
        walk_at "ej"
        cases hb with
        | @tup n tab hh =>
          rw [wtA_cons, wtA_cons, wt_tup] at hw
          walk_at "ej"
          by_cases c4 : (tab.length : Int) = ins
          · rw [decide_eq_true c4]
            walk_at "ej"
            refine wp_bind (wp_mono (loop_guard (fun d => ∃ s5, d = [.imm v, .imm (.int ins), .imm (.int outs), .imm (.tuple sts), .imm (.tuple [.int l, .tuple tab]), s5, .emp]) (rowB outs (sts.length : Int)) ⟨_, rfl⟩ ?_) ?_)
            · rintro x hx d ⟨s5, rfl⟩
              walk_at "ej"
              refine wp_mono (lrow_ok h27 (hh x hx) (by have := wtA_mem hx; omega)) ?_
              rintro ⟨o, d⟩ ⟨e1, e2⟩
              exact ⟨⟨_, e1⟩, e2⟩
            · rintro ⟨o, d⟩ ⟨⟨s5', e1⟩, e2⟩
              dsimp only at e1 e2
              subst e1
              rw [tableB, decide_eq_true c4, Bool.true_and]
              cases c8 : tab.all (rowB outs (sts.length : Int)) with
              | true =>
                rw [c8] at e2
                subst e2
                walk_at "ej"
                first | exact ⟨⟨_, rfl⟩, rfl⟩ | exact ⟨_, rfl⟩
              | false =>
                rw [c8] at e2
                subst e2
                walk_at "ej"
                first | exact ⟨⟨_, rfl⟩, rfl⟩ | exact ⟨_, rfl⟩
          · rw [decide_eq_false c4]
            walk_at "ej"
            rw [tableB, decide_eq_false c4]
            first | exact ⟨⟨_, rfl⟩, rfl⟩ | exact ⟨_, rfl⟩
        | _ =>
          walk_at "ej"
          first | exact ⟨⟨_, rfl⟩, rfl⟩ | exact ⟨_, rfl⟩
      | _ =>
        rw [stB_head rfl, show isInt _ = false from rfl]
        walk_at "ej"
        first | exact ⟨⟨_, rfl⟩, rfl⟩ | exact ⟨_, rfl⟩
    · rw [decide_eq_false c1]
      walk_at "ej"
      rw [stB_len (by omega)]
      first | exact ⟨⟨_, rfl⟩, rfl⟩ | exact ⟨_, rfl⟩
  | _ =>
    walk_at "ej"
    first | exact ⟨⟨_, rfl⟩, rfl⟩ | exact ⟨_, rfl⟩
/-- _law_is_talk (254) -/
def CLTalk (cd : CallSem) : Prop := ∀ (B n : Nat) (d : D), Dn B n d → wt d ≤ 40000 → cd 254 [(false, d)] = .ok ([], true, .bool (talkB d))
theorem ltalk_ok (h27 : CLInt 27 cd) (B n : Nat) (d : D) (hd : Dn B n d) (hw : wt d ≤ 40000) : runFn gcs cd fn_law_is_talk [(false, d)] = .ok ([], true, .bool (talkB d)) := by
  refine ev_eq (wp_run rfl ?_)
  rw [show fn_law_is_talk.body = b_law_is_talk from rfl, show fn_law_is_talk.nl = 6 from rfl, b_law_is_talk]
  cases hd with
  | @tup n xs h =>
    rw [wt_tup] at hw
    walk_at "ej"
    by_cases c1 : (xs.length : Int) = 3
    · rw [decide_eq_true c1]
      obtain ⟨a, b, c, rfl⟩ : ∃ a b c, xs = [a, b, c] := by
        match xs, (show xs.length = 3 by omega) with
        | [a, b, c], _ => exact ⟨a, b, c, rfl⟩
      walk_at "ej"
      have ha := h a (by simp)
      have hb := h b (by simp)
      have hc := h c (by simp)
      rw [wtA_cons, wtA_cons, wtA_cons, wtA_nil] at hw
      rw [h27 a ha.notDct]
      walk_at "ej"
      cases ha with
      | @int _ i hi =>
        rw [show isInt (.int i) = true from rfl]
        walk_at "ej"
        rw [h27 b hb.notDct]
        walk_at "ej"
        cases hb with
        | @int _ o ho =>
          rw [show isInt (.int o) = true from rfl]
          walk_at "ej"
          cases hc with
          | @tup n sts hss =>
            rw [wt_tup] at hw
            rw [talkB]
            walk_at "ej"
            by_cases c2 : i < 1
            · rw [decide_eq_true c2, decide_eq_false (show ¬ 1 ≤ i by omega)]; walk_at "ej"; try rfl
            rw [decide_eq_false c2, decide_eq_true (show 1 ≤ i by omega)]
            walk_at "ej"
            by_cases c3 : 3 < i
            · rw [decide_eq_true c3, decide_eq_false (show ¬ i ≤ 3 by omega)]; walk_at "ej"; try rfl
            rw [decide_eq_false c3, decide_eq_true (show i ≤ 3 by omega)]
            walk_at "ej"
            by_cases c4 : o < 1
            · rw [decide_eq_true c4, decide_eq_false (show ¬ 1 ≤ o by omega)]; walk_at "ej"; try rfl
            rw [decide_eq_false c4, decide_eq_true (show 1 ≤ o by omega)]
            walk_at "ej"
            by_cases c5 : 3 < o
            · rw [decide_eq_true c5, decide_eq_false (show ¬ o ≤ 3 by omega)]; walk_at "ej"; try rfl
            rw [decide_eq_false c5, decide_eq_true (show o ≤ 3 by omega)]
            walk_at "ej"
            by_cases c6 : (sts.length : Int) < 1
            · rw [decide_eq_true c6, decide_eq_false (show ¬ 1 ≤ (sts.length : Int) by omega)]; walk_at "ej"; try rfl
            rw [decide_eq_false c6, decide_eq_true (show 1 ≤ (sts.length : Int) by omega)]
            walk_at "ej"
            by_cases c7 : 5 < (sts.length : Int)
            · rw [decide_eq_true c7, decide_eq_false (show ¬ (sts.length : Int) ≤ 5 by omega)]; walk_at "ej"; try rfl
            rw [decide_eq_false c7, decide_eq_true (show (sts.length : Int) ≤ 5 by omega)]
            walk_at "ej"
            refine wp_bind (wp_mono (loop_guard (fun d => ∃ s4 s5, d = [.imm (.tuple [.int i, .int o, .tuple sts]), .imm (.int i), .imm (.int o), .imm (.tuple sts), s4, s5, .emp]) (stB i o (sts.length : Int)) ⟨_, _, rfl⟩ ?_) ?_)
            · rintro x hx d ⟨s4, s5, rfl⟩
              walk_at "ej"
              refine wp_mono (lstate_ok h27 (hss x hx) (by have := wtA_mem hx; omega) s5) ?_
              rintro ⟨o, d⟩ ⟨⟨s5', e1⟩, e2⟩
              exact ⟨⟨_, _, e1⟩, e2⟩
            · rintro ⟨o, d⟩ ⟨⟨s4, s5, e1⟩, e2⟩
              dsimp only at e1 e2
              subst e1
              cases c8 : sts.all (stB i _ (sts.length : Int)) with
              | true =>
                rw [c8] at e2
                subst e2
                walk_at "ej"
                try rfl
              | false =>
                rw [c8] at e2
                subst e2
                walk_at "ej"
                try rfl
          | _ =>
            walk_at "ej"
            try rfl
        | _ =>
          rw [show isInt _ = false from rfl]
          walk_at "ej"
          try rfl
      | _ =>
        rw [talkB_head rfl, show isInt _ = false from rfl]
        walk_at "ej"
        try rfl
    · rw [decide_eq_false c1]
      walk_at "ej"
      rw [talkB_len (by omega)]
  | _ =>
    walk_at "ej"
    try rfl
end DL
/-! P45: talks drawn, their boards, answers. -/
namespace DL
open PySem PySem.Spec PyProof.Rows L2
local macro_rules | `(tactic| walk_at "ej") => `(tactic| ((simp -dsimp -implicitDefEqProofs only [↓wp_toX, wpX_ok, ↓bind_toX, ↓loopF_toX, ↓loopC_toX, ↓while_toX, bindX_ok, bindX_assoc, evS, evE, evO, evR, evL, evB, evA, evI, opt_some, opd_val, opd_bor, slotD_imm, slotD_own, fz_val, obind_some, omap_some, ofInt_int, ofBool_bool, items_list, items_tuple,
  run_add, run_sub, run_mul, run_fdiv, run_mod, run_lt, run_le, run_gt, run_ge, run_eqI, run_neI, run_isN, run_notN, run_not, run_neg, idx_list, idx_tuple, sli_list, sli_tuple, sli_scr, b_lenL, b_lenT, b_listS, b_listL, b_listT, b_tupL, b_tupT, b_max2, b_min2, b_int,
  argsOf_nil, argsOf_v, margs, retD_val, outs_nil, outs_f, outs_t, slotOf_f, slotOf_t, bindP_var, bindP_tup, bindPs_nil, bindPs_cons, wipe_nil, wipe_cons, back_nil, back_cons, mapM_nilO, mapM_consO, noOwn, isOwn, isOwnD, isVal, dctT, dctG, allI2, allI2b, fz_bor,
  List.map_cons, List.map_nil, List.replicate_succ, List.replicate_zero, List.cons_append, List.nil_append, List.getElem?_cons_zero, List.getElem?_cons_succ, List.set_cons_zero, List.set_cons_succ, List.length_cons, List.length_nil, List.all_cons, List.all_nil, Option.getD_some,
  isDct, Ty.has, ne_bb, beq_self_eq_true, decide_true, decide_false, Bool.false_eq_true, isNone, sli_strZ, castLit, Bool.not_not, Nat.zero_add, Nat.reduceAdd, Nat.reduceLT, Nat.reduceLeDiff, Nat.lt_add_left_iff_pos, Nat.zero_lt_succ, Nat.reduceEqDiff, Int.reduceEq, Int.reduceLT, Int.reduceLE, Int.reduceNeg, inR_0, retD_bor, Bool.not_true, Bool.not_false, idx_sp0, idx_sp1, ofInt_nI, aug_n, eq_n, eq_n0, eq_n1, ne_n0, gt_n0, len_b, len_nT, len_nL, in_T, in_L, nin_T, nin_L, bindP_sp, items_b, items_nT, items_nL, isNone_oD, aug_i, sz0, sz1, sz2, sz3, sz4, sz5, argsOf_mE, argOf, putBack, omap_some, na5, putB_nil, at0, at1, at2, at3, at4, ix51, ix52, ix53, true_or, or_true, sm1, sm2, sm3, sm4, sm5, Bool.or_true, reduceIte, Bool.and_self, Bool.and_true, Bool.true_and, if_true, if_false, Bool.or_true, Bool.true_or, ne_eq, not_false_eq_true, not_true_eq_false, true_and, and_true,
  List.nodup_cons, List.nodup_nil, List.not_mem_nil, List.mem_cons, or_false, false_or]) <;> (try simp -dsimp only [wp_ofX])))
variable {gcs : Nat → Option D} {cd : CallSem}
structure Talk where
  ins : Nat
  outs : Nat
  sts : List (Nat × List (List Nat))
def stD (s : Nat × List (List Nat)) : D := .tuple [nI s.1, .tuple (s.2.map nT)]
def Talk.d (t : Talk) : D := .tuple [nI t.ins, nI t.outs, .tuple (t.sts.map stD)]
/-- a state of a talk of many states -/
structure SOkT (ins outs m : Nat) (s : Nat × List (List Nat)) : Prop where
  lev : s.1 ≤ 7
  tab : s.2.length = ins
  row : ∀ r ∈ s.2, r.length = outs ∧ ∀ x ∈ r, x < m
structure TOk (t : Talk) : Prop where
  i1 : 1 ≤ t.ins
  i3 : t.ins ≤ 3
  o1 : 1 ≤ t.outs
  o3 : t.outs ≤ 3
  m1 : 1 ≤ t.sts.length
  m5 : t.sts.length ≤ 5
  st : ∀ s ∈ t.sts, SOkT t.ins t.outs t.sts.length s
/-- many draws -/
theorem draws (h8 : CDraw cd) {m n : Nat} (hm : 0 < m) (hm2 : m < 1048576) (hn : n ≤ 1000) (D0 : Pool → DS) (q : Pool) {body : D → DS → R (Option D × DS)}
    (hb : ∀ (x : D) (q : Pool), Wp (cd 8 [(true, q.d), (false, .int m)]) (fun r => ∃ (q' : Pool) (v : Nat) (f : Bool), v < m ∧ r = ([q'.d], f, .int v)) → Wp (body x (D0 q)) fun r => ∃ (q' : Pool) (v : Nat), v < m ∧ r = (some (nI v), D0 q')) :
    Wp (loopC body ((List.range n).map nI) (D0 q) []) fun r => ∃ (q' : Pool) (l : List Nat), l.length = n ∧ (∀ x ∈ l, x < m) ∧ r = (l.map nI, D0 q') := by
  refine wp_loopCI (fun i acc d => ∃ (q' : Pool) (l : List Nat), l.length = i ∧ (∀ x ∈ l, x < m) ∧ acc = l.map nI ∧ d = D0 q') ⟨q, [], rfl, (fun _ h => nomatch h), rfl, rfl⟩ (small_le (by rw [List.length_map, List.length_range]; show 0 + n ≤ _; omega)) ?_ ?_
  · rintro i x acc d hx ⟨q', l, hl, hlm, rfl, rfl⟩
    refine wp_mono (hb x q' (h8 q' m hm hm2)) ?_
    rintro r ⟨q2, v, hv, rfl⟩
    refine ⟨q2, l ++ [v], by rw [List.length_append, hl]; rfl, fun y hy => ?_, by rw [List.map_append]; rfl, rfl⟩
    rcases List.mem_append.mp hy with hy | hy
    · exact hlm y hy
    · rw [List.mem_singleton.mp hy]; exact hv
  · rintro acc d ⟨q', l, hl, hlm, rfl, rfl⟩
    rw [List.length_map, List.length_range] at hl
    exact ⟨q', l, hl, hlm, rfl⟩
/-- _law_talk (253) -/
def CDrawT (cd : CallSem) : Prop := ∀ p : Pool, Wp (cd 253 [(true, p.d)]) fun r => ∃ (q : Pool) (t : Talk) (f : Bool), TOk t ∧ (∀ s ∈ t.sts, s.1 < 5) ∧ t.sts.length ≤ 4 ∧ r = ([q.d], f, t.d)
theorem drawT_ok (h8 : CDraw cd) (p : Pool) : Wp (runFn gcs cd fn_law_talk [(true, p.d)]) fun r => ∃ (q : Pool) (t : Talk) (f : Bool), TOk t ∧ (∀ s ∈ t.sts, s.1 < 5) ∧ t.sts.length ≤ 4 ∧ r = ([q.d], f, t.d) := by
  refine wp_run rfl ?_
  rw [show fn_law_talk.body = b_law_talk from rfl, show fn_law_talk.nl = 8 from rfl, b_law_talk]
  walk_at "ej"
  refine wp_bind (wp_mono (h8 p 3 (by omega) (by omega)) ?_)
  rintro r ⟨q1, i, f1, hi, rfl⟩
  walk_at "ej"
  refine wp_bind (wp_mono (h8 q1 3 (by omega) (by omega)) ?_)
  rintro r ⟨q2, o, f2, ho, rfl⟩
  walk_at "ej"
  refine wp_bind (wp_mono (h8 q2 4 (by omega) (by omega)) ?_)
  rintro r ⟨q3, m, f3, hm, rfl⟩
  rw [show (1 + (i : Int)) = ((1 + i : Nat) : Int) from rfl, show (1 + (o : Int)) = ((1 + o : Nat) : Int) from rfl]
  walk_at "ej"
  rw [show (1 + (m : Int)) = ((1 + m : Nat) : Int) from rfl, inR_nat (show 1 + m ≤ 1048576 by omega), rng_n]
  walk_at "ej"
  refine wp_bind (wp_loopFm nI (fun k d => ∃ (q : Pool) (sts : List (Nat × List (List Nat))) (s5 s6 : Slot), d = [.own true q.d, .imm (nI (1 + i)), .imm (nI (1 + o)), .imm (nI (1 + m)), .imm (.tuple (sts.map stD)), s5, s6, .emp, .emp] ∧ sts.length = k ∧ ∀ s ∈ sts, SOkT (1 + i) (1 + o) (1 + m) s ∧ s.1 < 5)
    ⟨q3, [], _, _, rfl, rfl, fun _ h => nomatch h⟩ ?_ ?_)
  · rintro k x d hk ⟨q, sts, s5, s6, rfl, hsl, hst⟩
    obtain ⟨hkl, _⟩ := List.getElem?_eq_some_iff.mp hk
    rw [List.length_range] at hkl
    rw [b_law_talk_1]
    walk_at "ej"
    rw [show nI (1 + i) = PyData.int ((1 + i : Nat) : Int) from rfl]
    walk_at "ej"
    rw [inR_nat (show 1 + i ≤ 1048576 by omega), rng_n]
    walk_at "ej"
    refine wp_bind (wp_loopCI (fun j acc d => ∃ (q : Pool) (tab : List (List Nat)), d = [.own true q.d, .imm (nI (1 + i)), .imm (nI (1 + o)), .imm (nI (1 + m)), .imm (.tuple (sts.map stD)), .imm (nI x), s6, .emp, .emp] ∧ acc = tab.map nT ∧ tab.length = j ∧ ∀ r ∈ tab, r.length = 1 + o ∧ ∀ y ∈ r, y < 1 + m)
      ⟨q, [], rfl, rfl, rfl, fun _ h => nomatch h⟩ (small_le (by rw [List.length_map, List.length_range]; show 0 + _ ≤ _; omega)) ?_ ?_)
    · rintro j y acc d hj ⟨q', tab, rfl, rfl, htl, htr⟩
      walk_at "ej"
      rw [show nI (1 + o) = PyData.int ((1 + o : Nat) : Int) from rfl]
      walk_at "ej"
      rw [inR_nat (show 1 + o ≤ 1048576 by omega), rng_n]
      walk_at "ej"
      refine wp_bind (wp_mono (draws h8 (m := 1 + m) (n := 1 + o) (by omega) (by omega) (by omega) (fun q => [.own true q.d, .imm (nI (1 + i)), .imm (nI (1 + o)), .imm (nI (1 + m)), .imm (.tuple (sts.map stD)), .imm (nI x), s6, .imm y, .emp]) q' fun z q hq => ?_) ?_)
      · walk_at "ej"
        refine wp_bind (wp_mono hq ?_)
        rintro r ⟨q2, v, f, hv, rfl⟩
        walk_at "ej"
        exact ⟨q2, v, hv, rfl⟩
      · rintro r ⟨q2, l, hl, hlm, rfl⟩
        walk_at "ej"
        refine ⟨q2, tab ++ [l], rfl, by rw [List.map_append]; rfl, by rw [List.length_append, htl]; rfl, fun r hr => ?_⟩
        rcases List.mem_append.mp hr with hr | hr
        · exact htr r hr
        · rw [List.mem_singleton.mp hr]; exact ⟨hl, hlm⟩
    rintro acc d ⟨q', tab, rfl, rfl, htl, htr⟩
    rw [List.length_map, List.length_range] at htl
    walk_at "ej"
    refine wp_bind (wp_mono (h8 q' 5 (by omega) (by omega)) ?_)
    rintro r ⟨q2, v, f, hv, rfl⟩
    walk_at "ej"
    rw [run_addT (small_le (by rw [List.length_map, hsl]; show k + 1 ≤ _; omega))]
    walk_at "ej"
    refine ⟨q2, sts ++ [(v, tab)], _, _, by rw [List.map_append]; rfl, by rw [List.length_append, hsl]; rfl, fun s hs => ?_⟩
    rcases List.mem_append.mp hs with hs | hs
    · exact hst s hs
    · rw [List.mem_singleton.mp hs]; exact ⟨⟨by show v ≤ 7; omega, htl, htr⟩, hv⟩
  · rintro d ⟨q, sts, s5, s6, rfl, hsl, hst⟩
    rw [List.length_range] at hsl
    walk_at "ej"
    refine ⟨q, ⟨1 + i, 1 + o, sts⟩, _, ⟨by show 1 ≤ 1 + i; omega, by show 1 + i ≤ 3; omega, by show 1 ≤ 1 + o; omega, by show 1 + o ≤ 3; omega, by show 1 ≤ sts.length; omega, by show sts.length ≤ 5; omega, fun s hs => by show SOkT _ _ sts.length s; rw [hsl]; exact (hst s hs).1⟩, fun s hs => (hst s hs).2, by show sts.length ≤ 4; omega, rfl⟩
/-! ### boards of talks -/
def ssD (row : List Nat) : D := .list ((sortSet (row.map fun (n : Nat) => (n : Int))).map .int)
theorem allInts_row (row : List Nat) : allInts (row.map nI) = some (row.map fun (n : Nat) => (n : Int)) := by
  induction row with
  | nil => rfl
  | cons a r ih => rw [List.map_cons, nI, allInts, ih]; rfl
theorem run_ssT {row : List Nat} (h : row.length ≤ 60) : B1.run .sset [nT row] = some (ssD row) := by
  show ((allInts (row.map nI)).bind fun ns => if ns.length ≤ 60 then some (PyData.list ((sortSet ns).map .int)) else none) = _
  rw [allInts_row, Option.bind_some, if_pos (by rw [List.length_map]; exact h)]
  rfl
def setT (row : List Nat) : D := .tuple ((sortSet (row.map fun (n : Nat) => (n : Int))).map .int)
def spK (m ins k : Nat) : D := .tuple [.int 1, .tuple ((List.range ins).map fun c => nI (m + k * ins + c))]
def rwK (row : List Nat) : D := .tuple [.int 0, setT row]
def innerL (sts : List (Nat × List (List Nat))) : List D := sts.flatMap fun s => s.2.map rwK
def levD (sts : List (Nat × List (List Nat))) (ins : Nat) : D := .tuple (sts.map (fun s => nI s.1) ++ (List.replicate (sts.length * ins) [PyData.int 0]).flatten)
def Talk.tb (t : Talk) : D := .tuple [.tuple ((List.range t.sts.length).map (spK t.sts.length t.ins) ++ innerL t.sts), levD t.sts t.ins]
theorem innerL_app (a b : List (Nat × List (List Nat))) : innerL (a ++ b) = innerL a ++ innerL b := List.flatMap_append
theorem innerL_len {sts : List (Nat × List (List Nat))} {c : Nat} (h : ∀ s ∈ sts, s.2.length ≤ c) : (innerL sts).length ≤ sts.length * c := flat_len _ c sts fun s hs => by rw [List.length_map]; exact h s hs
theorem small_of_nat {n : Nat} (h : n ≤ 1000) : small (n : Int) = true := by unfold small; rw [decide_eq_true (by omega), decide_eq_true (by omega)]; rfl
theorem mul_nn {a b : Nat} (h : b ≤ 1000) : O2.run .mul (nI a) (nI b) = some (nI (a * b)) := by
  have e := run_mul (a := (a : Int)) (b := (b : Int))
  rw [small_of_nat h, Bool.or_true, if_pos rfl, ← Int.natCast_mul] at e
  exact e
def CTB (cd : CallSem) : Prop := ∀ t : Talk, TOk t → Wp (cd 251 [(false, t.d)]) fun r => ∃ f, r = ([], f, t.tb)
theorem tb_ok (t : Talk) (ht : TOk t) : Wp (runFn gcs cd fn_talk_board [(false, t.d)]) fun r => ∃ f, r = ([], f, t.tb) := by
  refine wp_run rfl ?_
  rw [show fn_talk_board.body = b_talk_board from rfl, show fn_talk_board.nl = 11 from rfl, b_talk_board]
  obtain ⟨i1, i3, o1, o3, m1, m5, st⟩ := ht
  obtain ⟨ins, outs, sts⟩ := t
  dsimp only at i1 i3 o1 o3 m1 m5 st
  unfold Talk.d
  dsimp only
  walk_at "ej"
  rw [List.length_map, inR_nat (show sts.length ≤ 1048576 by omega), rng_n]
  walk_at "ej"
  refine wp_bind (wp_loopFm nI (fun k d => ∃ (s7 : Slot), d = [.imm (.tuple [nI ins, nI outs, .tuple (sts.map stD)]), .imm (nI ins), .imm (nI outs), .imm (.tuple (sts.map stD)), .imm (nI sts.length), .own false (.list ((List.range k).map (spK sts.length ins))), .own false (.list (innerL (sts.take k))), s7, .emp, .emp, .emp, .emp])
    ⟨_, rfl⟩ ?_ ?_)
  · rintro k x d hk ⟨s7, rfl⟩
    obtain ⟨hkl, e⟩ := List.getElem?_eq_some_iff.mp hk
    rw [List.length_range] at hkl
    rw [List.getElem_range] at e
    subst e
    rw [b_talk_board_1]
    walk_at "ej"
    rw [inR_nat (show ins ≤ 1048576 by omega), rng_n]
    walk_at "ej"
    refine wp_bind (wp_loopCm nI (fun c => some (nI (sts.length + k * ins + c))) (fun c hc => ?_) (small_le (by rw [List.length_range]; omega)) ?_)
    · refine ev_eq ?_
      walk_at "ej"
      rw [mul_nn (show ins ≤ 1000 by omega)]
      walk_at "ej"
      rw [add_nn]
      walk_at "ej"
      rw [add_nn]
      walk_at "ej"
    rw [comp_map]
    walk_at "ej"
    rw [if_pos (small_lt (show ((List.range k).map (spK sts.length ins)).length < 1048576 by rw [List.length_map, List.length_range]; omega))]
    walk_at "ej"
    have hs : idxD (.tuple (sts.map stD)) (nI k) = some (stD sts[k]) := idx_m (List.getElem?_eq_getElem hkl)
    have hst := st _ (List.getElem_mem hkl)
    have hes : sts.take (k + 1) = sts.take k ++ [sts[k]] := by rw [List.take_add_one, List.getElem?_eq_getElem hkl]; rfl
    rw [hs]
    generalize sts[k] = s at hs hst hes
    rw [show stD s = .tuple [nI s.1, .tuple (s.2.map nT)] from rfl]
    walk_at "ej"
    have htl := hst.tab
    refine wp_bind (wp_loopCm nT (fun r => some (rwK r)) (fun r hr => ?_) (small_le (by omega)) ?_)
    · refine ev_eq ?_
      walk_at "ej"
      rw [run_ssT (by have := (hst.row r hr).1; omega)]
      unfold ssD
      walk_at "ej"
      try rfl
    rw [comp_map]
    walk_at "ej"
    have hin : (innerL (sts.take k)).length ≤ 15 := by
      have := innerL_len (sts := sts.take k) (c := 3) fun s hs => by rw [(st s (List.mem_of_mem_take hs)).tab]; exact i3
      have : (sts.take k).length ≤ 5 := by rw [List.length_take]; omega
      omega
    rw [if_pos (small_le (show (innerL (sts.take k)).length + (s.2.map rwK).length ≤ 1048576 by rw [List.length_map]; omega))]
    walk_at "ej"
    exact ⟨_, by rw [List.range_succ, List.map_append, hes, innerL_app, show innerL [s] = s.2.map rwK from List.append_nil _]; rfl⟩
  · rintro d ⟨s7, rfl⟩
    rw [List.length_range, List.take_length]
    walk_at "ej"
    refine wp_bind (wp_loopCm stD (fun s => some (nI s.1)) (fun s hs => ?_) (small_le (by omega)) ?_)
    · refine ev_eq ?_
      unfold stD
      walk_at "ej"
    rw [comp_map]
    walk_at "ej"
    rw [mul_nn (show ins ≤ 1000 by omega)]
    walk_at "ej"
    have h15 : sts.length * ins ≤ 15 := Nat.mul_le_mul m5 i3
    have h1 : 1 ≤ sts.length * ins := Nat.mul_le_mul m1 i1
    rw [show O2.run .mul (.tuple [PyData.int 0]) (nI (sts.length * ins)) = some (.tuple (List.replicate (sts.length * ins) [PyData.int 0]).flatten) from if_pos ⟨by omega, by omega, List.cons_ne_nil _ _, by show 1 ≤ 1000; omega⟩]
    walk_at "ej"
    have hfl : (List.replicate (sts.length * ins) [PyData.int 0]).flatten.length ≤ 15 := by rw [PyProof.Rows.lm_len_rep_flat]; show _ * 1 ≤ _; omega
    rw [run_addT (small_le (by rw [List.length_map]; omega))]
    walk_at "ej"
    have hin : (innerL sts).length ≤ 15 := by
      have := innerL_len (sts := sts) (c := 3) fun s hs => by rw [(st s hs).tab]; exact i3
      omega
    rw [run_addL (small_le (by rw [List.length_map, List.length_range]; omega))]
    walk_at "ej"
    exact ⟨_, rfl⟩
/-- answers_to (252): the answers, whatever they are -/
def ansL (t : Talk) (R : List (List Nat)) : Nat → List Nat → List Nat
  | _, [] => []
  | s, c :: cs => ((R.getD s []).getD c 0) :: ansL t R ((((t.sts.getD s (0, [])).2.getD c []).getD ((R.getD s []).getD c 0) 0)) cs
structure ROk (t : Talk) (R : List (List Nat)) : Prop where
  len : R.length = t.sts.length
  row : ∀ r ∈ R, r.length = t.ins ∧ ∀ x ∈ r, x < t.outs
def rsD (R : List (List Nat)) : D := .tuple (R.map nT)
theorem getD_row {R : List (List Nat)} {s : Nat} (h : s < R.length) : idxD (rsD R) (nI s) = some (nT (R.getD s [])) := by
  rw [show R.getD s [] = R[s] from by rw [List.getD_eq_getElem?_getD, List.getElem?_eq_getElem h]; rfl]
  exact idx_m (List.getElem?_eq_getElem h)
theorem getD_nT {l : List Nat} {s : Nat} (h : s < l.length) : idxD (nT l) (nI s) = some (nI (l.getD s 0)) := by
  rw [show l.getD s 0 = l[s] from by rw [List.getD_eq_getElem?_getD, List.getElem?_eq_getElem h]; rfl]
  exact idx_nT h
theorem getD_mem' {α : Type} {l : List α} {s : Nat} {d : α} (h : s < l.length) : l.getD s d ∈ l := by
  rw [List.getD_eq_getElem?_getD, List.getElem?_eq_getElem h]
  exact List.getElem_mem h
/-- one step of a talk -/
structure Stp (t : Talk) (R : List (List Nat)) (s c : Nat) : Prop where
  r1 : idxD (rsD R) (nI s) = some (nT (R.getD s []))
  r2 : idxD (nT (R.getD s [])) (nI c) = some (nI ((R.getD s []).getD c 0))
  s1 : idxD (.tuple (t.sts.map stD)) (nI s) = some (stD (t.sts.getD s (0, [])))
  s2 : idxD (.tuple ((t.sts.getD s (0, [])).2.map nT)) (nI c) = some (nT ((t.sts.getD s (0, [])).2.getD c []))
  s3 : idxD (nT ((t.sts.getD s (0, [])).2.getD c [])) (nI ((R.getD s []).getD c 0)) = some (nI (((t.sts.getD s (0, [])).2.getD c []).getD ((R.getD s []).getD c 0) 0))
  lt : ((t.sts.getD s (0, [])).2.getD c []).getD ((R.getD s []).getD c 0) 0 < t.sts.length
theorem stp {t : Talk} (ht : TOk t) {R : List (List Nat)} (hR : ROk t R) {s c : Nat} (hs : s < t.sts.length) (hc : c < t.ins) : Stp t R s c := by
  have hsR : s < R.length := by rw [hR.len]; exact hs
  obtain ⟨h1, h2⟩ := hR.row _ (getD_mem' (d := []) hsR)
  have h3 := h2 _ (getD_mem' (d := 0) (show c < (R.getD s []).length by omega))
  have st := ht.st _ (getD_mem' (d := (0, [])) hs)
  have hct : c < (t.sts.getD s (0, [])).2.length := by rw [st.tab]; exact hc
  obtain ⟨h4, h5⟩ := st.row _ (getD_mem' (d := []) hct)
  refine ⟨getD_row hsR, getD_nT (by omega), ?_, ?_, getD_nT (by omega), h5 _ (getD_mem' (by omega))⟩
  · rw [show t.sts.getD s (0, []) = t.sts[s] from by rw [List.getD_eq_getElem?_getD, List.getElem?_eq_getElem hs]; rfl]
    exact idx_m (List.getElem?_eq_getElem hs)
  · exact getD_row hct
def CAns (cd : CallSem) : Prop := ∀ (t : Talk) (R : List (List Nat)) (cs : List Nat), TOk t → ROk t R → (∀ c ∈ cs, c < t.ins) → cs.length ≤ 1000 → Wp (cd 252 [(false, rsD R), (false, t.d), (false, nT cs)]) fun r => ∃ f, r = ([], f, nT (ansL t R 0 cs))
theorem ans_ok (t : Talk) (R : List (List Nat)) (cs : List Nat) (ht : TOk t) (hR : ROk t R) (hcs : ∀ c ∈ cs, c < t.ins) (hl : cs.length ≤ 1000) : Wp (runFn gcs cd fn_answers_to [(false, rsD R), (false, t.d), (false, nT cs)]) fun r => ∃ f, r = ([], f, nT (ansL t R 0 cs)) := by
  refine wp_run rfl ?_
  rw [show fn_answers_to.body = b_answers_to from rfl, show fn_answers_to.nl = 4 from rfl, b_answers_to]
  walk_at "ej"
  refine wp_bind (wp_loopFm nI (fun k d => ∃ (s : Nat) (acc : List Nat) (s5 s6 : Slot), d = [.imm (rsD R), .imm t.d, .imm (nT cs), .own false (nL acc), .imm (nI s), s5, s6] ∧ s < t.sts.length ∧ acc.length = k ∧ acc ++ ansL t R s (cs.drop k) = ansL t R 0 cs)
    ⟨0, [], _, _, rfl, by have := ht.m1; omega, rfl, rfl⟩ ?_ ?_)
  · rintro k c d hk ⟨s, acc, s5, s6, rfl, hs, ha, he⟩
    obtain ⟨hkl, e⟩ := List.getElem?_eq_some_iff.mp hk
    have hc := hcs c (List.mem_of_getElem? hk)
    obtain ⟨r1, r2, q1, q2, q3, lt⟩ := stp ht hR hs hc
    rw [List.drop_eq_getElem_cons hkl, e, ansL] at he
    rw [b_answers_to_1]
    walk_at "ej"
    rw [r1]
    walk_at "ej"
    rw [r2]
    walk_at "ej"
    unfold nL
    walk_at "ej"
    rw [if_pos (small_lt (show (acc.map nI).length < 1048576 by rw [List.length_map]; omega))]
    walk_at "ej"
    unfold Talk.d
    walk_at "ej"
    rw [q1]
    unfold stD
    walk_at "ej"
    rw [q2]
    walk_at "ej"
    rw [q3]
    walk_at "ej"
    exact ⟨_, acc ++ [_], _, _, by rw [List.map_append]; rfl, lt, by rw [List.length_append, ha]; rfl, by rw [List.append_assoc]; exact he⟩
  · rintro d ⟨s, acc, s5, s6, rfl, hs, ha, he⟩
    rw [List.drop_length] at he
    rw [ansL, List.append_nil] at he
    unfold nL
    walk_at "ej"
    rw [← he]
    exact ⟨_, rfl⟩
end DL
/-! L35: law k35 over contracts. -/
namespace DL
open PySem PySem.Spec PyProof.Rows L2
local macro_rules | `(tactic| walk_at "ej") => `(tactic| ((simp -dsimp -implicitDefEqProofs only [↓wp_toX, wpX_ok, ↓bind_toX, ↓loopF_toX, ↓loopC_toX, ↓while_toX, bindX_ok, bindX_assoc, evS, evE, evO, evR, evL, evB, evA, evI, opt_some, opd_val, opd_bor, slotD_imm, slotD_own, fz_val, obind_some, omap_some, ofInt_int, ofBool_bool, items_list, items_tuple,
  run_add, run_sub, run_mul, run_fdiv, run_mod, run_lt, run_le, run_gt, run_ge, run_eqI, run_neI, run_isN, run_notN, run_not, run_neg, idx_list, idx_tuple, sli_list, sli_tuple, sli_scr, b_lenL, b_lenT, b_listS, b_listL, b_listT, b_tupL, b_tupT, b_max2, b_min2, b_int,
  argsOf_nil, argsOf_v, margs, retD_val, outs_nil, outs_f, outs_t, slotOf_f, slotOf_t, bindP_var, bindP_tup, bindPs_nil, bindPs_cons, wipe_nil, wipe_cons, back_nil, back_cons, mapM_nilO, mapM_consO, noOwn, isOwn, isOwnD, isVal, dctT, dctG, allI2, allI2b, fz_bor,
  List.map_cons, List.map_nil, List.replicate_succ, List.replicate_zero, List.cons_append, List.nil_append, List.getElem?_cons_zero, List.getElem?_cons_succ, List.set_cons_zero, List.set_cons_succ, List.length_cons, List.length_nil, List.all_cons, List.all_nil, Option.getD_some,
  isDct, Ty.has, ne_bb, beq_self_eq_true, decide_true, decide_false, Bool.false_eq_true, isNone, sli_strZ, castLit, Bool.not_not, Nat.zero_add, Nat.reduceAdd, Nat.reduceLT, Nat.reduceLeDiff, Nat.lt_add_left_iff_pos, Nat.zero_lt_succ, Nat.reduceEqDiff, Int.reduceEq, Int.reduceLT, Int.reduceLE, Int.reduceNeg, inR_0, retD_bor, Bool.not_true, Bool.not_false, idx_sp0, idx_sp1, ofInt_nI, aug_n, eq_n, eq_n0, eq_n1, ne_n0, gt_n0, len_b, len_nT, len_nL, in_T, in_L, nin_T, nin_L, bindP_sp, items_b, items_nT, items_nL, isNone_oD, aug_i, sz0, sz1, sz2, sz3, sz4, sz5, argsOf_mE, argOf, putBack, omap_some, na5, putB_nil, at0, at1, at2, at3, at4, ix51, ix52, ix53, true_or, or_true, sm1, sm2, sm3, sm4, sm5, Bool.or_true, reduceIte, Bool.and_self, Bool.and_true, Bool.true_and, if_true, if_false, Bool.or_true, Bool.true_or, ne_eq, not_false_eq_true, not_true_eq_false, true_and, and_true,
  List.nodup_cons, List.nodup_nil, List.not_mem_nil, List.mem_cons, or_false, false_or]) <;> (try simp -dsimp only [wp_ofX])))
variable {gcs : Nat → Option D} {cd : CallSem}
theorem wtA_rep (l : List D) : ∀ n : Nat, wtA (List.replicate n l).flatten = n * wtA l
  | 0 => by rw [List.replicate_zero, List.flatten_nil, wtA_nil, Nat.zero_mul]
  | n + 1 => by rw [List.replicate_succ, List.flatten_cons, wtA_app, wtA_rep l n, Nat.succ_mul]; omega
theorem mem_rep {l : List D} {n : Nat} {x : D} (h : x ∈ (List.replicate n l).flatten) : x ∈ l := by
  obtain ⟨m, hm, hx⟩ := List.mem_flatten.mp h
  rw [List.mem_replicate] at hm
  rw [← hm.2]; exact hx
theorem wtA_nI (l : List Nat) : wtA (l.map nI) = l.length := by
  induction l with
  | nil => rw [List.map_nil, wtA_nil]; rfl
  | cons a r ih => rw [List.map_cons, wtA_cons, ih, List.length_cons, nI, wt_int]; omega
theorem wtA_map_le {α : Type} {f : α → D} {c : Nat} : ∀ {l : List α}, (∀ a ∈ l, wt (f a) ≤ c) → wtA (l.map f) ≤ l.length * c
  | [], _ => by rw [List.map_nil, wtA_nil]; exact Nat.zero_le _
  | a :: r, h => by
    have := wtA_map_le (l := r) fun b hb => h b (List.mem_cons_of_mem _ hb)
    have := h a List.mem_cons_self
    rw [List.map_cons, wtA_cons, List.length_cons, Nat.succ_mul]; omega
theorem Dn.nI' {n k : Nat} (h : k ≤ 20) : Dn 20 n (nI k) := .int (by show (k : Int).natAbs ≤ 20; omega)
theorem Dn.nT' {n : Nat} {l : List Nat} (h : ∀ x ∈ l, x ≤ 20) : Dn 20 (n + 1) (nT l) := .tup fun y hy => by
  obtain ⟨x, hx, rfl⟩ := List.mem_map.mp hy
  exact .nI' (h x hx)
/-- what the states of a talk are as data -/
theorem st_dn {t : Talk} (ht : TOk t) {s : Nat × List (List Nat)} (hs : s ∈ t.sts) : Dn 20 3 (.tuple (s.2.map nT)) ∧ wt (.tuple (s.2.map nT)) ≤ 13 ∧ Dn 20 3 (stD s) ∧ wt (stD s) ≤ 15 := by
  obtain ⟨lev, tab, row⟩ := ht.st s hs
  have hi := ht.i3
  have ho := ht.o3
  have hm := ht.m5
  have h1 : Dn 20 2 (.tuple (s.2.map nT)) := .tup fun y hy => by
    obtain ⟨r, hr, rfl⟩ := List.mem_map.mp hy
    exact .nT' fun x hx => by have := (row r hr).2 x hx; omega
  have h2 : wt (.tuple (s.2.map nT)) ≤ 13 := by
    have := wtA_map_le (f := nT) (c := 4) (l := s.2) fun r hr => by
      rw [nT, wt_tup, wtA_nI]
      have := (row r hr).1; omega
    rw [wt_tup]; omega
  refine ⟨h1.mono (by omega) (by omega), h2, .tup fun y hy => ?_, ?_⟩
  · rcases List.mem_cons.mp hy with rfl | hy
    · exact .nI' (by omega)
    · rw [List.mem_singleton.mp hy]; exact h1
  · rw [stD, wt_tup, wtA_cons, wtA_cons, wtA_nil, nI, wt_int]; omega
def Fit (x : D) : Prop := Dn 22 6 x ∧ wt x ≤ 1000
theorem Fit.of {x : D} (h : Dn 20 6 x) (hw : wt x ≤ 1000) : Fit x := ⟨h.mono (by omega) (by omega), hw⟩
theorem Fit.three {a b c : D} (ha : Dn 20 5 a) (hb : Dn 20 5 b) (hc : Dn 20 5 c) (w : wt a + wt b + wt c ≤ 900) : Fit (.tuple [a, b, c]) :=
  .of (.tup fun y hy => (by
    simp only [List.mem_cons, List.not_mem_nil, or_false] at hy
    rcases hy with rfl | rfl | rfl <;> assumption)) (by rw [wt_tup, wtA_cons, wtA_cons, wtA_cons, wtA_nil]; omega)
theorem talkB_ok {t : Talk} (ht : TOk t) : talkB t.d = true := by
  have row : ∀ r : List Nat, r.length = t.outs → (∀ x ∈ r, x < t.sts.length) → rowB (t.outs : Int) (t.sts.length : Int) (nT r) = true := fun r h1 h2 => by
    rw [nT, rowB, List.length_map, h1, decide_eq_true rfl, Bool.true_and, List.all_eq_true]
    intro x hx
    obtain ⟨k, hk, rfl⟩ := List.mem_map.mp hx
    have := h2 k hk
    rw [nI, intIn, decide_eq_true (by omega), decide_eq_true (by omega)]; rfl
  have i1 := ht.i1
  have i3 := ht.i3
  have o1 := ht.o1
  have o3 := ht.o3
  have m1 := ht.m1
  have m5 := ht.m5
  rw [Talk.d, nI, nI, talkB, List.length_map, decide_eq_true (by omega), decide_eq_true (by omega), decide_eq_true (by omega), decide_eq_true (by omega), decide_eq_true (by omega), decide_eq_true (by omega)]
  simp only [Bool.true_and]
  rw [List.all_eq_true]
  intro x hx
  obtain ⟨s, hs, rfl⟩ := List.mem_map.mp hx
  obtain ⟨lev, tab, rw_⟩ := ht.st s hs
  rw [stD, nI, stB, tableB, List.length_map, tab, decide_eq_true (by omega), decide_eq_true (by omega), decide_eq_true rfl, Bool.true_and, Bool.true_and, Bool.true_and, List.all_eq_true]
  intro y hy
  obtain ⟨r, hr, rfl⟩ := List.mem_map.mp hy
  exact row r (rw_ r hr).1 (rw_ r hr).2
/-- one value is judged -/
theorem value_ok (h250 : CTalk cd) (h254 : CLTalk cd) (h5 : ∀ x, Cm 5 x → cd 5 [(false, x), (false, x)] = .ok ([], true, .bool true)) {x : D} (hx : Fit x) {s23 : Slot} (s0 s1 s2 s3 s4 s5 s6 s7 s8 s9 s10 s11 s12 s13 s14 s15 s16 s17 s18 s19 s20 s22 : Slot) :
    Wp (evS gcs cd b_law_k35_3 [s0, s1, s2, s3, s4, s5, s6, s7, s8, s9, s10, s11, s12, s13, s14, s15, s16, s17, s18, s19, s20, .imm x, s22, s23]) fun q => q = (.nx, [s0, s1, s2, s3, s4, s5, s6, s7, s8, s9, s10, s11, s12, s13, s14, s15, s16, s17, s18, s19, s20, .imm x, s22, .imm (.str x.shown)]) := by
  rw [b_law_k35_3]
  walk_at "ej"
  rw [run_repr hx.1 (by omega) (by omega) (by have := hx.2; omega)]
  walk_at "ej"
  rw [h250 22 6 x hx.1 (by have := hx.2; omega)]
  walk_at "ej"
  rw [h254 22 6 x hx.1 (by have := hx.2; omega)]
  walk_at "ej"
  rw [h5 _ .bool]
  walk_at "ej"
  rw [run_repr hx.1 (by omega) (by omega) (by have := hx.2; omega)]
  walk_at "ej"
  rw [show O2.run .ne (.str x.shown) (.str x.shown) = some (.bool false) from by
    show some (PyData.bool (!PyData.eqv (.str x.shown) (.str x.shown))) = _
    unfold PyData.eqv
    rw [beq_self_eq_true]; rfl]
  walk_at "ej"
theorem insI_len (a : Int) : ∀ l : List Int, (insI a l).length ≤ l.length + 1
  | [] => Nat.le_refl _
  | b :: r => by
    have := insI_len a r
    rw [insI]
    split
    · exact Nat.le_refl _
    split
    · exact Nat.le_succ _
    · rw [List.length_cons, List.length_cons]; omega
theorem sortSet_len : ∀ l : List Int, (sortSet l).length ≤ l.length
  | [] => Nat.le_refl _
  | a :: r => by
    have := sortSet_len r
    have h : sortSet (a :: r) = insI a (sortSet r) := rfl
    have := insI_len a (sortSet r)
    rw [h, List.length_cons]; omega
theorem law35 (h6 : CPool cd) (h8 : CDraw cd) (h253 : CDrawT cd) (h250 : CTalk cd) (h251 : CTB cd) (h252 : CAns cd) (h254 : CLTalk cd) (h29 : CBent 5 cd)
    (h5 : ∀ x, Cm 5 x → cd 5 [(false, x), (false, x)] = .ok ([], true, .bool true)) (ns : List Int) :
    Wp (runFn gcs cd fn_law [(false, scrD (ns.map .int))]) fun r => ∃ f, r = ([], f, .bool true) := by
  refine wp_run rfl ?_
  rw [show fn_law.body = b_law from rfl, show fn_law.nl = 23 from rfl, b_law]
  walk_at "ej"
  refine wp_bind (wp_mono (h6 ns) ?_)
  rintro r ⟨q, rfl⟩
  unfold Pool.d
  walk_at "ej"
  refine wp_bind (wp_mono (h253 q) ?_)
  rintro r ⟨q1, t, f1, ht, ht5, ht4, rfl⟩
  walk_at "ej"
  have hsd : ∀ s ∈ t.sts, _ := fun s hs => st_dn ht hs
  have hst := ht.st
  have i1 := ht.i1
  have i3 := ht.i3
  have o1 := ht.o1
  have o3 := ht.o3
  have m1 := ht.m1
  have m5 := ht.m5
  have htd : t.d = .tuple [nI t.ins, nI t.outs, .tuple (t.sts.map stD)] := rfl
  have scr : ∃ S : D, scrD (ns.map .int) = S := ⟨_, rfl⟩
  obtain ⟨S, hS⟩ := scr
  rw [hS]
  rw [show bindP (.tup (.cons (.var 3) (.cons (.var 4) (.cons (.var 5) .nil)))) t.d [.imm S, .own false q1.d, .imm t.d, .emp, .emp, .emp, .emp, .emp, .emp, .emp, .emp, .emp, .emp, .emp, .emp, .emp, .emp, .emp, .emp, .emp, .emp, .emp, .emp, .emp] =
    .ok [.imm S, .own false q1.d, .imm t.d, .imm (nI t.ins), .imm (nI t.outs), .imm (.tuple (t.sts.map stD)), .emp, .emp, .emp, .emp, .emp, .emp, .emp, .emp, .emp, .emp, .emp, .emp, .emp, .emp, .emp, .emp, .emp, .emp] from rfl]
  walk_at "ej"
  rw [List.length_map, show PyData.int (t.sts.length : Int) = nI t.sts.length from rfl]
  walk_at "ej"
  rw [inR_nat (show t.sts.length ≤ 1048576 by omega), rng_n]
  walk_at "ej"
  refine wp_bind (wp_loopFm nI (fun k d => ∃ (s9 : Slot), d = [.imm S, .own false q1.d, .imm t.d, .imm (nI t.ins), .imm (nI t.outs), .imm (.tuple (t.sts.map stD)), .imm (nI t.sts.length), .own false (.list ((List.range k).map (spK t.sts.length t.ins))), .imm (.list (innerL (t.sts.take k))), s9, .emp, .emp, .emp, .emp, .emp, .emp, .emp, .emp, .emp, .emp, .emp, .emp, .emp, .emp] ∧ (0 < k → ∃ y, s9 = .imm y))
    ⟨_, rfl, fun h => absurd h (Nat.lt_irrefl 0)⟩ ?_ ?_)
  · rintro k x d hk ⟨s9, rfl, _⟩
    obtain ⟨hkl, e⟩ := List.getElem?_eq_some_iff.mp hk
    rw [List.length_range] at hkl
    rw [List.getElem_range] at e
    subst e
    rw [b_law_k35_1]
    walk_at "ej"
    rw [show nI t.ins = PyData.int (t.ins : Int) from rfl]
    walk_at "ej"
    rw [inR_nat (show t.ins ≤ 1048576 by omega), rng_n]
    walk_at "ej"
    rw [show PyData.int (t.ins : Int) = nI t.ins from rfl]
    refine wp_bind (wp_loopCm nI (fun c => some (nI (t.sts.length + k * t.ins + c))) (fun c hc => ?_) (small_le (by rw [List.length_range]; omega)) ?_)
    · refine ev_eq ?_
      walk_at "ej"
      rw [mul_nn (show t.ins ≤ 1000 by omega)]
      walk_at "ej"
      rw [add_nn]
      walk_at "ej"
      rw [add_nn]
      walk_at "ej"
    rw [comp_map]
    walk_at "ej"
    rw [if_pos (small_lt (show ((List.range k).map (spK t.sts.length t.ins)).length < 1048576 by rw [List.length_map, List.length_range]; omega))]
    walk_at "ej"
    have hs : idxD (.tuple (t.sts.map stD)) (nI k) = some (stD t.sts[k]) := idx_m (List.getElem?_eq_getElem hkl)
    have hst := hst _ (List.getElem_mem hkl)
    have hes : t.sts.take (k + 1) = t.sts.take k ++ [t.sts[k]] := by rw [List.take_add_one, List.getElem?_eq_getElem hkl]; rfl
    rw [hs]
    generalize t.sts[k] = s at hs hst hes
    rw [show stD s = .tuple [nI s.1, .tuple (s.2.map nT)] from rfl]
    walk_at "ej"
    have htl := hst.tab
    refine wp_bind (wp_loopCm nT (fun r => some (rwK r)) (fun r hr => ?_) (small_le (by omega)) ?_)
    · refine ev_eq ?_
      walk_at "ej"
      rw [run_ssT (by have := (hst.row r hr).1; omega)]
      unfold ssD
      walk_at "ej"
      try rfl
    rw [comp_map]
    walk_at "ej"
    have hin : (innerL (t.sts.take k)).length ≤ 15 := by
      have := innerL_len (sts := t.sts.take k) (c := 3) fun s hs => by rw [(ht.st s (List.mem_of_mem_take hs)).tab]; exact i3
      have : (t.sts.take k).length ≤ 5 := by rw [List.length_take]; omega
      omega
    rw [run_addL (small_le (show (innerL (t.sts.take k)).length + (s.2.map rwK).length ≤ 1048576 by rw [List.length_map]; omega))]
    walk_at "ej"
    exact ⟨_, by rw [List.range_succ, List.map_append, hes, innerL_app, show innerL [s] = s.2.map rwK from List.append_nil _]; rfl, fun _ => ⟨_, rfl⟩⟩
  rintro d ⟨s9, rfl, h9⟩
  rw [List.length_range] at h9
  obtain ⟨y9, rfl⟩ := h9 (by omega)
  rw [List.length_range, List.take_length]
  walk_at "ej"
  refine wp_bind (wp_loopCm stD (fun s => some (nI s.1)) (fun s hs => ?_) (small_le (by omega)) ?_)
  · refine ev_eq ?_
    unfold stD
    walk_at "ej"
  rw [comp_map]
  walk_at "ej"
  rw [mul_nn (show t.ins ≤ 1000 by omega)]
  walk_at "ej"
  have h15 : t.sts.length * t.ins ≤ 15 := Nat.mul_le_mul m5 i3
  have h1 : 1 ≤ t.sts.length * t.ins := Nat.mul_le_mul m1 i1
  rw [show O2.run .mul (.tuple [PyData.int 0]) (nI (t.sts.length * t.ins)) = some (.tuple (List.replicate (t.sts.length * t.ins) [PyData.int 0]).flatten) from if_pos ⟨by omega, by omega, List.cons_ne_nil _ _, by show 1 ≤ 1000; omega⟩]
  walk_at "ej"
  have hfl : (List.replicate (t.sts.length * t.ins) [PyData.int 0]).flatten.length ≤ 15 := by rw [PyProof.Rows.lm_len_rep_flat]; show _ * 1 ≤ _; omega
  rw [run_addT (small_le (by rw [List.length_map]; omega))]
  walk_at "ej"
  have tw : wt t.d ≤ 100 ∧ Dn 20 5 t.d ∧ Dn 20 4 (.tuple (t.sts.map stD)) ∧ wtA (t.sts.map stD) ≤ 75 := by
    have h2 := wtA_map_le (f := stD) (c := 15) (l := t.sts) fun s hs => (st_dn ht hs).2.2.2
    have h3 : Dn 20 4 (.tuple (t.sts.map stD)) := .tup fun y hy => by
      obtain ⟨s, hs, rfl⟩ := List.mem_map.mp hy
      exact (st_dn ht hs).2.2.1
    refine ⟨?_, .tup fun y hy => ?_, h3, by omega⟩
    · rw [htd, wt_tup, wtA_cons, wtA_cons, wtA_cons, wtA_nil, wt_tup, nI, nI, wt_int, wt_int]; omega
    · simp only [List.mem_cons, List.not_mem_nil, or_false] at hy
      rcases hy with rfl | rfl | rfl
      · exact .nI' (by omega)
      · exact .nI' (by omega)
      · exact h3
  obtain ⟨tw1, tw2, tw3, tw4⟩ := tw
  rw [h250 20 5 t.d tw2 (by omega), talkB_ok ht]
  walk_at "ej"
  refine wp_bind (wp_mono (h251 t ht) ?_)
  rintro r ⟨fb, rfl⟩
  walk_at "ej"
  have hin : (innerL t.sts).length ≤ 15 := by
    have := innerL_len (sts := t.sts) (c := 3) fun s hs => by rw [(ht.st s hs).tab]; exact i3
    omega
  rw [run_addL (small_le (by rw [List.length_map, List.length_range]; omega))]
  walk_at "ej"
  have hcm : Cm 5 (.list [.bool true, t.tb]) := .lst (fun y hy => by
    simp only [List.mem_cons, List.not_mem_nil, or_false] at hy
    rcases hy with rfl | rfl
    · exact .bool
    · refine .tup (fun z hz => ?_) (by show 2 ≤ 1048576; omega)
      simp only [List.mem_cons, List.not_mem_nil, or_false] at hz
      rcases hz with rfl | rfl
      · refine .tup (fun u hu => ?_) (by rw [List.length_append, List.length_map, List.length_range]; omega)
        rcases List.mem_append.mp hu with hu | hu
        · obtain ⟨k, _, rfl⟩ := List.mem_map.mp hu
          refine .tup (fun v hv => ?_) (by show 2 ≤ 1048576; omega)
          simp only [List.mem_cons, List.not_mem_nil, or_false] at hv
          rcases hv with rfl | rfl
          · exact .int
          · refine .tup (fun w hw => ?_) (by rw [List.length_map, List.length_range]; omega)
            obtain ⟨c, _, rfl⟩ := List.mem_map.mp hw
            exact Cm.nI
        · obtain ⟨s, hs, hu⟩ := List.mem_flatMap.mp hu
          obtain ⟨r, hr, rfl⟩ := List.mem_map.mp hu
          refine .tup (fun v hv => ?_) (by show 2 ≤ 1048576; omega)
          simp only [List.mem_cons, List.not_mem_nil, or_false] at hv
          rcases hv with rfl | rfl
          · exact .int
          · refine .tup (fun w hw => ?_) ?_
            · obtain ⟨c, _, rfl⟩ := List.mem_map.mp hw
              exact .int
            · rw [List.length_map]
              have h1 := sortSet_len (r.map fun (n : Nat) => (n : Int))
              rw [List.length_map] at h1
              have := ((hst s hs).row r hr).1
              omega
      · refine .tup (fun u hu => ?_) (by rw [List.length_append, List.length_map]; omega)
        rcases List.mem_append.mp hu with hu | hu
        · obtain ⟨k, _, rfl⟩ := List.mem_map.mp hu
          exact Cm.nI
        · rw [List.mem_singleton.mp (mem_rep hu)]; exact .int) (by show 2 ≤ 1048576; omega)
  rw [show PyData.tuple [PyData.tuple (List.map (spK t.sts.length t.ins) (List.range t.sts.length) ++ innerL t.sts), PyData.tuple (List.map (fun s => nI s.fst) t.sts ++ (List.replicate (t.sts.length * t.ins) [PyData.int 0]).flatten)] = t.tb from rfl]
  rw [h5 _ hcm]
  walk_at "ej"
  generalize (List.range t.sts.length).map (spK t.sts.length t.ins) = SP
  generalize innerL t.sts = IN
  generalize PyData.tuple (List.map (fun s => nI s.fst) t.sts ++ (List.replicate (t.sts.length * t.ins) [PyData.int 0]).flatten) = LV
  rw [inR_nat (show t.sts.length ≤ 1048576 by omega), rng_n]
  walk_at "ej"
  refine wp_bind (wp_loopCI (fun j acc d => ∃ (q : Pool) (R : List (List Nat)), d = [.imm S, .own false q.d, .imm t.d, .imm (nI t.ins), .imm (nI t.outs), .imm (.tuple (t.sts.map stD)), .imm (nI t.sts.length), .own false (.list SP), .imm (.list IN), .imm y9, .emp, .emp, .imm LV, .emp, .emp, .emp, .emp, .emp, .emp, .emp, .emp, .emp, .emp, .emp] ∧ acc = R.map nT ∧ R.length = j ∧ ∀ r ∈ R, r.length = t.ins ∧ ∀ y ∈ r, y < t.outs)
      ⟨q1, [], rfl, rfl, rfl, fun _ h => nomatch h⟩ (small_le (by rw [List.length_map, List.length_range]; show 0 + _ ≤ _; omega)) ?_ ?_)
  · rintro j y acc d hj ⟨q', R, rfl, rfl, htl, htr⟩
    walk_at "ej"
    rw [show nI t.ins = PyData.int (t.ins : Int) from rfl]
    walk_at "ej"
    rw [inR_nat (show t.ins ≤ 1048576 by omega), rng_n]
    walk_at "ej"
    rw [show PyData.int (t.ins : Int) = nI t.ins from rfl]
    refine wp_bind (wp_mono (draws h8 (m := t.outs) (n := t.ins) (by omega) (by omega) (by omega) (fun q => [.imm S, .own false q.d, .imm t.d, .imm (nI t.ins), .imm (nI t.outs), .imm (.tuple (t.sts.map stD)), .imm (nI t.sts.length), .own false (.list SP), .imm (.list IN), .imm y, .emp, .emp, .imm LV, .emp, .emp, .emp, .emp, .emp, .emp, .emp, .emp, .emp, .emp, .emp]) q' fun z q hq => ?_) ?_)
    · walk_at "ej"
      refine wp_bind (wp_mono hq ?_)
      rintro r ⟨q2, v, f, hv, rfl⟩
      walk_at "ej"
      exact ⟨q2, v, hv, rfl⟩
    · rintro r ⟨q2, l, hl, hlm, rfl⟩
      walk_at "ej"
      refine ⟨q2, R ++ [l], rfl, by rw [List.map_append]; rfl, by rw [List.length_append, htl]; rfl, fun r hr => ?_⟩
      rcases List.mem_append.mp hr with hr | hr
      · exact htr r hr
      · rw [List.mem_singleton.mp hr]; exact ⟨hl, hlm⟩
  rintro acc d ⟨q2, R, rfl, rfl, hRl, hRr⟩
  rw [List.length_map, List.length_range] at hRl
  have hR : ROk t R := ⟨hRl, hRr⟩
  walk_at "ej"
  refine wp_bind (wp_mono (h8 q2 9 (by omega) (by omega)) ?_)
  rintro r ⟨q3, w, f3, hw, rfl⟩
  walk_at "ej"
  rw [inR_nat (show w ≤ 1048576 by omega), rng_n]
  walk_at "ej"
  refine wp_bind (wp_mono (draws h8 (m := t.ins) (n := w) (by omega) (by omega) (by omega) (fun q => [.imm S, .own false q.d, .imm t.d, .imm (nI t.ins), .imm (nI t.outs), .imm (.tuple (t.sts.map stD)), .imm (nI t.sts.length), .own false (.list SP), .imm (.list IN), .imm y9, .emp, .emp, .imm LV, .emp, .imm (rsD R), .emp, .emp, .emp, .emp, .emp, .emp, .emp, .emp, .emp]) q3 fun z q hq => ?_) ?_)
  · walk_at "ej"
    refine wp_bind (wp_mono hq ?_)
    rintro r ⟨q2, v, f, hv, rfl⟩
    walk_at "ej"
    exact ⟨q2, v, hv, rfl⟩
  rintro r ⟨q4, cs, hcl, hcs, rfl⟩
  walk_at "ej"
  rw [show PyData.tuple (cs.map nI) = nT cs from rfl]
  refine wp_bind (wp_loopFm nI (fun k d => ∃ (s : Nat) (acc : List Nat) (s10 : Slot), d = [.imm S, .own false q4.d, .imm t.d, .imm (nI t.ins), .imm (nI t.outs), .imm (.tuple (t.sts.map stD)), .imm (nI t.sts.length), .own false (.list SP), .imm (.list IN), .imm y9, s10, .emp, .imm LV, .emp, .imm (rsD R), .imm (nT cs), .imm (nI s), .own false (nL acc), .emp, .emp, .emp, .emp, .emp, .emp] ∧ s < t.sts.length ∧ acc.length = k ∧ acc ++ ansL t R s (cs.drop k) = ansL t R 0 cs)
    ⟨0, [], _, rfl, by omega, rfl, rfl⟩ ?_ ?_)
  · rintro k c d hk ⟨s, acc, s10, rfl, hs, ha, he⟩
    obtain ⟨hkl, e⟩ := List.getElem?_eq_some_iff.mp hk
    have hc := hcs c (List.mem_of_getElem? hk)
    obtain ⟨r1, r2, p1, p2, p3, lt⟩ := stp ht hR hs hc
    rw [List.drop_eq_getElem_cons hkl, e, ansL] at he
    rw [b_law_k35_2]
    walk_at "ej"
    rw [r1]
    walk_at "ej"
    rw [r2]
    walk_at "ej"
    unfold nL
    walk_at "ej"
    rw [if_pos (small_lt (show (acc.map nI).length < 1048576 by rw [List.length_map]; omega))]
    walk_at "ej"
    rw [p1]
    unfold stD
    walk_at "ej"
    rw [p2]
    walk_at "ej"
    rw [r1]
    walk_at "ej"
    rw [r2]
    walk_at "ej"
    rw [p3]
    walk_at "ej"
    exact ⟨_, acc ++ [_], _, by rw [List.map_append]; rfl, lt, by rw [List.length_append, ha]; rfl, by rw [List.append_assoc]; exact he⟩
  rintro d ⟨s, acc, s10, rfl, hs, ha, he⟩
  rw [List.drop_length] at he
  rw [ansL, List.append_nil] at he
  walk_at "ej"
  refine wp_bind (wp_mono (h252 t R cs ht hR hcs (by omega)) ?_)
  rintro r ⟨fa, rfl⟩
  rw [← he]
  unfold nL
  walk_at "ej"
  rw [show PyData.tuple (acc.map nI) = nT acc from rfl, h5 _ (Cm.nT (by omega))]
  walk_at "ej"
  have h0l : 0 < t.sts.length := by omega
  have h0 : atI (t.sts.map stD) 0 = some (stD t.sts[0]) := idx_m (s := 0) (List.getElem?_eq_getElem h0l)
  have hs0 := st_dn ht (List.getElem_mem h0l)
  have ht0 := hst _ (List.getElem_mem h0l)
  rw [h0]
  generalize t.sts[0] = s0 at hs0 ht0
  rw [show stD s0 = .tuple [nI s0.1, .tuple (s0.2.map nT)] from rfl]
  walk_at "ej"
  rw [htd]
  rw [htd] at tw1 tw2
  generalize hST : t.sts.map stD = ST at *
  have hSTl : ST.length = t.sts.length := by rw [← hST, List.length_map]
  have addT : ∀ u v : List D, u.length + v.length ≤ 1000 → O2.run .add (.tuple u) (.tuple v) = some (.tuple (u ++ v)) := fun u v h => run_addT (small_le (by omega))
  have addL : ∀ u v : List D, u.length + v.length ≤ 1000 → O2.run .add (.list u) (.list v) = some (.list (u ++ v)) := fun u v h => run_addL (small_le (by omega))
  walk_at "ej"
  rw [show sliceD [nI t.ins, nI t.outs, PyData.tuple ST] none (some 2) = [nI t.ins, nI t.outs] from slice_to _ 2]
  walk_at "ej"
  rw [addT _ _ (by simp only [List.length_cons, List.length_nil]; omega)]
  walk_at "ej"
  rw [show O2.run .mul (.tuple ST) (.int 6) = some (.tuple (List.replicate 6 ST).flatten) from if_pos ⟨by omega, by omega, fun e => by rw [e] at hSTl; simp at hSTl; omega, by omega⟩]
  walk_at "ej"
  rw [if_pos (small_le (show 9 ≤ 1048576 by omega))]
  walk_at "ej"
  have hsl : ∀ l : List D, sliceD l (some 1) none = l.drop 1 := fun l => slice_from l 1
  rw [hsl, addT _ _ (by rw [List.length_drop]; simp only [List.length_cons, List.length_nil]; omega)]
  walk_at "ej"
  rw [hsl, addT _ _ (by rw [List.length_drop]; simp only [List.length_cons, List.length_nil]; omega)]
  walk_at "ej"
  rw [addL _ _ (by simp only [List.length_cons, List.length_nil]; omega)]
  walk_at "ej"
  have rep : ∀ (l : List D) (k : Nat), l ≠ [] → l.length ≤ 10 → 1 ≤ k → k ≤ 10 → O2.run .mul (.tuple l) (nI k) = some (.tuple (List.replicate k l).flatten) := fun l k h1 h2 h3 h4 => if_pos ⟨by omega, by omega, h1, by omega⟩
  rw [rep [nI t.sts.length] t.outs (List.cons_ne_nil _ _) (by show 1 ≤ 10; omega) (by omega) (by omega)]
  walk_at "ej"
  rw [rep _ t.ins (List.cons_ne_nil _ _) (by show 1 ≤ 10; omega) (by omega) (by omega)]
  walk_at "ej"
  rw [hsl, addT _ _ (by rw [List.length_drop]; simp only [List.length_cons, List.length_nil]; omega)]
  walk_at "ej"
  rw [addL _ _ (by simp only [List.length_append, List.length_cons, List.length_nil]; omega)]
  walk_at "ej"
  have dI : Dn 20 5 (nI t.ins) := .nI' (by omega)
  have dO : Dn 20 5 (nI t.outs) := .nI' (by omega)
  have wI : ∀ k, wt (nI k) = 1 := fun k => wt_int _
  have dm : ∀ x ∈ ST, Dn 20 3 x := fun x hx => by
    obtain ⟨m, hm, h⟩ := Dn.tupMem tw3
    cases hm
    exact h x hx
  have tri : ∀ l : List D, (∀ x ∈ l, Dn 20 4 x) → wtA l ≤ 800 → Fit (.tuple [nI t.ins, nI t.outs, .tuple l]) := fun l h hw => .three dI dO (.tup h) (by rw [wI, wI, wt_tup]; omega)
  have tri0 : ∀ (a b : D), Dn 20 3 a → Dn 20 3 b → wt a + wt b ≤ 500 → Fit (.tuple [nI t.ins, nI t.outs, .tuple (.tuple [a, b] :: ST.drop 1)]) := fun a b ha hb hw => tri _ (fun x hx => by
    rcases List.mem_cons.mp hx with rfl | hx
    · exact .tup fun y hy => by
        simp only [List.mem_cons, List.not_mem_nil, or_false] at hy
        rcases hy with rfl | rfl <;> assumption
    · exact (dm x (List.mem_of_mem_drop hx)).mono (by omega) (by omega)) (by
    have := wtA_drop ST 1
    rw [wtA_cons, wt_tup, wtA_cons, wtA_cons, wtA_nil]; omega)
  obtain ⟨q1', q2', q3', q4'⟩ := hs0
  rw [wt_tup] at q2'
  have hrow : ∀ l : List D, (∀ x ∈ l, x ∈ s0.2.map nT) → wtA l ≤ 13 → Dn 20 3 (.tuple l) ∧ wt (.tuple l) ≤ 14 := fun l h hw => ⟨.tup fun x hx => by
    obtain ⟨m, hm, hh⟩ := Dn.tupMem q1'
    cases hm
    exact hh x (h x hx), by rw [wt_tup]; omega⟩
  have hfit : ∀ x ∈ [PyData.tuple [nI t.ins, nI t.outs, PyData.tuple ST],
                    PyData.list [nI t.ins, nI t.outs, PyData.tuple ST], PyData.tuple [nI t.ins, nI t.outs],
                    PyData.tuple [nI t.ins, nI t.outs, PyData.tuple ST, PyData.int 0],
                    PyData.tuple [nI t.ins, nI t.outs, PyData.tuple []],
                    PyData.tuple [nI t.ins, nI t.outs, PyData.tuple [ST, ST, ST, ST, ST, ST].flatten],
                    PyData.tuple [PyData.int 4, nI t.outs, PyData.tuple ST],
                    PyData.tuple [nI t.ins, PyData.int 0, PyData.tuple ST],
                    PyData.tuple [PyData.bool true, nI t.outs, PyData.tuple ST],
                    PyData.tuple
                      [nI t.ins, nI t.outs,
                        PyData.tuple
                          (PyData.tuple [PyData.int 8, PyData.tuple (List.map nT s0.snd)] :: List.drop 1 ST)],
                    PyData.tuple
                      [nI t.ins, nI t.outs,
                        PyData.tuple
                          (PyData.tuple [nI s0.fst, PyData.tuple (sliceD (List.map nT s0.snd) none (some (-1)))] ::
                            List.drop 1 ST)],
                    PyData.tuple
                      [nI t.ins, nI t.outs,
                        PyData.tuple (PyData.tuple [nI s0.fst, PyData.tuple (List.replicate t.ins [PyData.tuple (List.replicate t.outs [nI t.sts.length]).flatten]).flatten] :: List.drop 1 ST)],
                    PyData.tuple [nI t.ins, nI t.outs, PyData.list ST], PyData.none], Fit x := by
    intro x hx
    simp only [List.mem_cons, List.not_mem_nil, or_false] at hx
    rcases hx with rfl | rfl | rfl | rfl | rfl | rfl | rfl | rfl | rfl | rfl | rfl | rfl | rfl | rfl
    · exact .of (tw2.mono (by omega) (by omega)) (by omega)
    · obtain ⟨m, hm, hh⟩ := Dn.tupMem tw2
      cases hm
      exact .of (.lst fun y hy => (hh y hy).mono (by omega) (by omega)) (by rw [wt_lst]; rw [wt_tup] at tw1; omega)
    · exact .of (.tup fun y hy => (by
        simp only [List.mem_cons, List.not_mem_nil, or_false] at hy
        rcases hy with rfl | rfl <;> assumption)) (by rw [wt_tup, wtA_cons, wtA_cons, wtA_nil, wI, wI]; omega)
    · exact .of (.tup fun y hy => (by
        simp only [List.mem_cons, List.not_mem_nil, or_false] at hy
        rcases hy with rfl | rfl | rfl | rfl
        · exact dI
        · exact dO
        · exact tw3.mono (by omega) (by omega)
        · exact .int (Nat.zero_le _))) (by rw [wt_tup, wtA_cons, wtA_cons, wtA_cons, wtA_cons, wtA_nil, wI, wI, wt_tup, wt_int]; omega)
    · exact tri [] (fun _ h => nomatch h) (by rw [wtA_nil]; omega)
    · have hf : [ST, ST, ST, ST, ST, ST] = List.replicate 6 ST := rfl
      rw [hf]
      exact tri _ (fun x hx => (dm x (mem_rep hx)).mono (by omega) (by omega)) (by rw [wtA_rep]; omega)
    · exact .three (.int (by show 4 ≤ 20; omega)) dO (tw3.mono (by omega) (by omega)) (by rw [wt_int, wI, wt_tup]; omega)
    · exact .three dI (.int (Nat.zero_le _)) (tw3.mono (by omega) (by omega)) (by rw [wt_int, wI, wt_tup]; omega)
    · exact .three .bool dO (tw3.mono (by omega) (by omega)) (by rw [wI, wt_tup]; show 1 + 1 + _ ≤ _; omega)
    · exact tri0 _ _ (.int (by show 8 ≤ 20; omega)) q1' (by rw [wt_int, wt_tup]; omega)
    · have hm : ∀ x ∈ sliceD (s0.2.map nT) none (some (-1)), x ∈ s0.2.map nT := fun x hx => List.mem_of_mem_drop (List.mem_of_mem_take hx)
      obtain ⟨a1, a2⟩ := hrow _ hm (Nat.le_trans (Nat.le_trans (wtA_take _ _) (wtA_drop _ _)) (by omega))
      exact tri0 _ _ (.nI' (by have := ht0.lev; omega)) a1 (by rw [wI]; omega)
    · have hr1 : Dn 20 2 (.tuple (List.replicate t.outs [nI t.sts.length]).flatten) := .tup fun x hx => by
        rw [List.mem_singleton.mp (mem_rep hx)]; exact .nI' (by omega)
      have hr2 : wt (.tuple (List.replicate t.outs [nI t.sts.length]).flatten) ≤ 4 := by rw [wt_tup, wtA_rep, wtA_cons, wtA_nil, wI]; omega
      refine tri0 _ _ (.nI' (by have := ht0.lev; omega)) (.tup fun x hx => ?_) ?_
      · rw [List.mem_singleton.mp (mem_rep hx)]; exact hr1
      · rw [wI, wt_tup, wtA_rep, wtA_cons, wtA_nil]
        have h12 := Nat.mul_le_mul i3 hr2
        rw [Nat.add_zero]
        exact Nat.le_trans (Nat.add_le_add_left (Nat.add_le_add_right h12 1) 1) (by omega)
    · exact .three dI dO (.lst fun x hx => (dm x hx).mono (by omega) (by omega)) (by rw [wI, wI, wt_lst]; omega)
    · exact .of .non (by show 1 ≤ 1000; omega)
  revert hfit
  generalize hTR : ([PyData.tuple [nI t.ins, nI t.outs, PyData.tuple ST], PyData.list [nI t.ins, nI t.outs, PyData.tuple ST], _, _, _, _, _, _, _, _, _, _, _, _] : List D) = TR
  intro hfit
  have hTl : TR.length = 14 := by rw [← hTR]; rfl
  rw [show inR 6 = true from rfl, show rangeD 0 6 = (List.range 6).map nI from rng_n 6]
  walk_at "ej"
  generalize hAC : (acc.map nI) = AC
  generalize hX18 : nI s0.1 = X18
  generalize hX19 : PyData.tuple (s0.2.map nT) = X19
  generalize hX2 : PyData.tuple [nI t.ins, nI t.outs, PyData.tuple ST] = X2 at tw1 tw2 ⊢
  refine wp_bind (wp_loopCI (fun j l d => ∃ (q : Pool), d = [.imm S, .own false q.d, .imm X2, .imm (nI t.ins), .imm (nI t.outs), .imm (.tuple ST), .imm (nI t.sts.length), .own false (.list SP), .imm (.list IN), .imm y9, s10, .emp, .imm LV, .emp, .imm (rsD R), .imm (nT cs), .imm (nI s), .own false (.list AC), .imm X18, .imm X19, .imm (.list TR), .emp, .emp, .emp] ∧ l.length = j ∧ ∀ x ∈ l, Fit x)
    ⟨q4, rfl, rfl, fun _ h => nomatch h⟩ (small_le (by rw [List.length_map, List.length_range]; show 6 ≤ _; omega)) ?_ ?_)
  · rintro j x l d hj ⟨q5, rfl, hl, hlf⟩
    walk_at "ej"
    refine wp_bind (wp_mono (h29 q5 20 X2 tw2 (by omega)) ?_)
    rintro r ⟨q6, y, f6, ⟨hy1, hy2⟩, rfl⟩
    walk_at "ej"
    refine ⟨q6, rfl, by rw [List.length_append, hl]; rfl, fun z hz => ?_⟩
    rcases List.mem_append.mp hz with hz | hz
    · exact hlf z hz
    · rw [List.mem_singleton.mp hz]; exact ⟨hy1, by omega⟩
  · rintro l d ⟨q5, rfl, hl, hlf⟩
    rw [List.length_map, List.length_range] at hl
    walk_at "ej"
    rw [addL _ _ (by omega)]
    walk_at "ej"
    refine wp_bind (wp_loopF (fun j d => ∃ (s21 s23 : Slot), d = [.imm S, .own false q5.d, .imm X2, .imm (nI t.ins), .imm (nI t.outs), .imm (.tuple ST), .imm (nI t.sts.length), .own false (.list SP), .imm (.list IN), .imm y9, s10, .emp, .imm LV, .emp, .imm (rsD R), .imm (nT cs), .imm (nI s), .own false (.list AC), .imm X18, .imm X19, .imm (.list TR), s21, .emp, s23]) ⟨_, _, rfl⟩ ?_ ?_)
    · rintro j x d hj ⟨s21, s23, rfl⟩
      have hx : Fit x := by
        rcases List.mem_append.mp (List.mem_of_getElem? hj) with hx | hx
        · exact hfit x hx
        · exact hlf x hx
      walk_at "ej"
      refine wp_mono (value_ok h250 h254 h5 hx _ _ _ _ _ _ _ _ _ _ _ _ _ _ _ _ _ _ _ _ _ _) ?_
      rintro r rfl
      exact ⟨.inl rfl, _, _, rfl⟩
    · rintro d ⟨s21, s23, rfl⟩
      walk_at "ej"
      exact ⟨_, rfl⟩
end DL
namespace DL
open PySem PySem.Spec PyProof.Rows L2
theorem lvl {gcs : Nat → Option D} {T : Nat → Option Fn} {g j : Nat} {f : Fn} (h : T g = some f) (args : List (Bool × D)) : callD gcs T (j + 1) g args = runFn gcs (callD gcs T j) f args := by
  rw [callD, h]
section
variable {gcs : Nat → Option D} {T : Nat → Option Fn}
theorem c_spread (h : T 7 = some fn_law_spread) (k : Nat) : CSpread (callD gcs T (k + 1)) := fun c => by rw [lvl h]; exact spread_ok c
theorem c_draw (h7 : T 7 = some fn_law_spread) (h : T 8 = some fn_law_draw) (k : Nat) : CDraw (callD gcs T (k + 2)) := fun p m h0 h1 => by rw [lvl h]; exact draw_ok (c_spread h7 k) p m h0 h1
theorem c_pool (h : T 6 = some fn_law_pool) (k : Nat) : CPool (callD gcs T (k + 1)) := fun ns => by rw [lvl h]; exact pool_ok ns
theorem c_shuf (h7 : T 7 = some fn_law_spread) (h8 : T 8 = some fn_law_draw) (h : T 9 = some fn_law_shuffled) (k : Nat) : CShuf (callD gcs T (k + 3)) := fun p it xs h0 h1 => by rw [lvl h]; exact shuf_ok (c_draw h7 h8 k) p it xs h0 h1
theorem c_board (h7 : T 7 = some fn_law_spread) (h8 : T 8 = some fn_law_draw) (h9 : T 9 = some fn_law_shuffled) (h : T 10 = some fn_law_board) (k : Nat) : CBoard (callD gcs T (k + 4)) := fun p m h0 h1 => by
  rw [lvl h]; exact board_ok (c_draw h7 h8 (k + 1)) (c_shuf h7 h8 h9 k) p m h0 h1
theorem c_set (h7 : T 7 = some fn_law_spread) (h8 : T 8 = some fn_law_draw) (h : T 11 = some fn_law_set) (k : Nat) : CSet (callD gcs T (k + 3)) := fun p m h1 => by rw [lvl h]; exact set_ok (c_draw h7 h8 k) p m h1
theorem c_steps (h : T 0 = some fn_drawing_steps) (k : Nat) : CSteps (callD gcs T (k + 1)) := fun b p goal hb => by rw [lvl h]; exact steps_ok b p goal hb
theorem c_drawn (h0 : T 0 = some fn_drawing_steps) (h : T 1 = some fn_drawn_in) (k : Nat) : CDrawn (callD gcs T (k + 2)) := fun b p goal hb => by rw [lvl h]; exact drawn_ok (c_steps h0 k) b p goal hb
theorem c_others (h : T 2 = some fn_other_spots) (k : Nat) : COthers (callD gcs T (k + 1)) := fun b spots hb => by rw [lvl h]; exact others_ok b spots hb
theorem c_keeps (h0 : T 0 = some fn_drawing_steps) (h1 : T 1 = some fn_drawn_in) (h2 : T 2 = some fn_other_spots) (h : T 3 = some fn_keep_wins) (k : Nat) : CKeeps (callD gcs T (k + 3)) := fun b spots hb => by
  rw [lvl h]; exact keeps_ok (c_others h2 (k + 1)) (c_drawn h0 h1 k) b spots hb
theorem c_free (h0 : T 0 = some fn_drawing_steps) (h1 : T 1 = some fn_drawn_in) (h2 : T 2 = some fn_other_spots) (h3 : T 3 = some fn_keep_wins) (h : T 4 = some fn_free_moves) (k : Nat) : CFree (callD gcs T (k + 4)) := fun b spots hb => by
  rw [lvl h]; exact free_ok (c_keeps h0 h1 h2 h3 k) b spots hb
theorem c_strats (h : T 12 = some fn_law_strategies) (k : Nat) : CStrats (callD gcs T (k + 1)) := fun b p m hb hm => by rw [lvl h]; exact strats_ok b p m hb hm
theorem c_left (h : T 13 = some fn_law_left) (k : Nat) : CLeft (callD gcs T (k + 1)) := fun b p row hn hr => by rw [lvl h]; exact left_ok b p row hn hr
theorem c_reach (h : T 14 = some fn_law_reach) (k : Nat) : CReach (callD gcs T (k + 1)) := fun b s hb hd hs => by rw [lvl h]; exact reach_ok b s hb hd hs
end
end DL
namespace DL
open PySem PySem.Spec PyProof.Rows L2
section
variable {gcs : Nat → Option D} {T : Nat → Option Fn}
theorem c_lint (h : T 27 = some fn_law_is_integer) (k : Nat) : CLInt 27 (callD gcs T (k + 1)) := fun d hd => by rw [lvl h]; exact lint_ok d hd
theorem bent_all (h7 : T 7 = some fn_law_spread) (h8 : T 8 = some fn_law_draw) (h27 : T 27 = some fn_law_is_integer) (h29 : T 29 = some fn_law_bent) : ∀ n k : Nat, CBent n (callD gcs T (n + k + 3))
  | n, k => fun p B d hd hw => by
    rw [lvl (j := n + k + 2) h29]
    refine bent_ok (c_draw h7 h8 (n + k)) (c_lint h27 (n + k + 1)) n (fun m hm => ?_) p B d hd hw
    subst hm
    have := bent_all h7 h8 h27 h29 m k
    rw [show m + 1 + k + 2 = m + k + 3 by omega]
    exact this
end
end DL
namespace DL
open PySem PySem.Spec PyProof.Rows L2
section
variable {gcs : Nat → Option D} {T : Nat → Option Fn}
theorem c_whole (h : T 15 = some fn_is_whole) (k : Nat) : CLInt 15 (callD gcs T (k + 1)) := fun d hd => by rw [lvl h]; exact lint_ok d hd
theorem c_table (h15 : T 15 = some fn_is_whole) (h : T 249 = some fn_is_table) (k : Nat) : CTable (callD gcs T (k + 2)) := fun B n d i o m hd hw => by rw [lvl h]; exact table_ok (c_whole h15 k) B n d i o m hd hw
theorem c_istalk (h15 : T 15 = some fn_is_whole) (h249 : T 249 = some fn_is_table) (h : T 250 = some fn_is_talk) (k : Nat) : CTalk (callD gcs T (k + 3)) := fun B n d hd hw => by rw [lvl h]; exact istalk_ok (c_whole h15 (k + 1)) (c_table h15 h249 k) B n d hd hw
theorem c_ltalk (h27 : T 27 = some fn_law_is_integer) (h : T 254 = some fn_law_is_talk) (k : Nat) : CLTalk (callD gcs T (k + 2)) := fun B n d hd hw => by rw [lvl h]; exact ltalk_ok (c_lint h27 k) B n d hd hw
theorem c_drawT (h7 : T 7 = some fn_law_spread) (h8 : T 8 = some fn_law_draw) (h : T 253 = some fn_law_talk) (k : Nat) : CDrawT (callD gcs T (k + 3)) := fun p => by rw [lvl h]; exact drawT_ok (c_draw h7 h8 k) p
theorem c_tb (h : T 251 = some fn_talk_board) (k : Nat) : CTB (callD gcs T (k + 1)) := fun t ht => by rw [lvl h]; exact tb_ok t ht
theorem c_ans (h : T 252 = some fn_answers_to) (k : Nat) : CAns (callD gcs T (k + 1)) := fun t R cs ht hR hc hl => by rw [lvl h]; exact ans_ok t R cs ht hR hc hl
end
end DL
namespace DL
open PySem PySem.Spec PyProof.Rows L2
abbrev PP : Program := PySem.Challenge.pw_wishgames_k35_talks_told_and_led
def l_is_whole : LD := ⟨15, "is_whole", 1, ["value"], 1, [], [], [], false, b_is_whole⟩
def l_is_table : LD := ⟨249, "is_table", 4, ["value", "ins", "outs", "many", "row", "item"], 4, [], [], [], false, b_is_table⟩
def l_is_talk : LD := ⟨250, "is_talk", 5, ["value", "item", "ins", "outs", "states", "state"], 1, [], [], [(("MOST_LEVEL" : Str), (7 : Int))], false, b_is_talk⟩
def l_talk_board : LD := ⟨251, "talk_board", 6, ["talk", "ins", "_", "states", "many", "spots", "inner", "k", "call", "row", "levels", "level"], 1, [5, 6], [], [], false, b_talk_board⟩
def l_answers_to : LD := ⟨252, "answers_to", 7, ["responder", "talk", "calls", "found", "state", "call", "answer"], 3, [3], [], [], false, b_answers_to⟩
def l_law_same : LD := ⟨5, "_law_same", 9, ["actual", "due", "k"], 2, [], [], [], false, b_law_same⟩
def l_law_is_integer : LD := ⟨27, "_law_is_integer", 10, ["actual"], 1, [], [], [], false, b_law_is_integer⟩
def l_law_pool : LD := ⟨6, "_law_pool", 11, ["script", "salt", "cell"], 1, [], [], [], false, b_law_pool⟩
def l_law_spread : LD := ⟨7, "_law_spread", 12, ["cell", "mixed", "total", "k"], 1, [], [], [], false, b_law_spread⟩
def l_law_draw : LD := ⟨8, "_law_draw", 13, ["pool", "many", "cell", "mixed", "value"], 2, [0], [], [], false, b_law_draw⟩
def l_law_bent : LD := ⟨29, "_law_bent", 14, ["pool", "value", "at", "turn", "other", "items"], 2, [0, 5], [], [], false, b_law_bent⟩
def l_law_talk : LD := ⟨253, "_law_talk", 15, ["pool", "ins", "outs", "many", "states", "k", "table", "x", "y"], 1, [0], [], [], false, b_law_talk⟩
def l_law_is_talk : LD := ⟨254, "_law_is_talk", 16, ["value", "ins", "outs", "states", "state", "row", "x"], 1, [], [], [], false, b_law_is_talk⟩
def l_law : LD := ⟨9999, "law", 17, ["script", "pool", "talk", "ins", "outs", "states", "many", "spots", "inner", "k", "x", "row", "levels", "state", "responder", "calls", "now", "due", "level", "table", "tried", "value", "j", "kept"], 1, [1, 7, 17], [], [], true, b_law⟩
def LL : List LD := [l_is_whole, l_is_table, l_is_talk, l_talk_board, l_answers_to, l_law_same, l_law_is_integer, l_law_pool, l_law_spread, l_law_draw, l_law_bent, l_law_talk, l_law_is_talk, l_law]
theorem bindsL : ∀ d ∈ LL, BindOk PP d := by
  unfold LL
  simp only [List.forall_mem_cons]
  exact ⟨(fun _ _ _ _ _ _ us hl => match us, hl with | [_], _ => rfl), (fun _ _ _ _ _ _ us hl => match us, hl with | [_, _, _, _], _ => rfl), (fun _ _ _ _ _ _ us hl => match us, hl with | [_], _ => rfl), (fun _ _ _ _ _ _ us hl => match us, hl with | [_], _ => rfl), (fun _ _ _ _ _ _ us hl => match us, hl with | [_, _, _], _ => rfl), (fun _ _ _ _ _ _ us hl => match us, hl with | [_, _], _ => rfl), (fun _ _ _ _ _ _ us hl => match us, hl with | [_], _ => rfl), (fun _ _ _ _ _ _ us hl => match us, hl with | [_], _ => rfl), (fun _ _ _ _ _ _ us hl => match us, hl with | [_], _ => rfl), (fun _ _ _ _ _ _ us hl => match us, hl with | [_, _], _ => rfl), (fun _ _ _ _ _ _ us hl => match us, hl with | [_, _], _ => rfl), (fun _ _ _ _ _ _ us hl => match us, hl with | [_], _ => rfl), (fun _ _ _ _ _ _ us hl => match us, hl with | [_], _ => rfl), (fun _ _ _ _ _ _ us hl => match us, hl with | [_], _ => rfl), fun _ h => nomatch h⟩
end DL
namespace DL
open PySem PySem.Spec PyProof.Rows L2
theorem lawX : ∀ ns : List Int, ns.length ≤ 63 → ∀ gcs, FnC LL gcs → ∃ (os : List D) (f : Bool), callD gcs (tbl LL) 12 9999 [(false, scrD (ns.map .int))] = .ok (os, f, .bool true) := fun ns _ gcs _ => by
  obtain ⟨r, e, f, rfl⟩ := law35 (gcs := gcs) (cd := callD gcs (tbl LL) 11) (c_pool (by rfl) 10) (c_draw (by rfl) (by rfl) 9) (c_drawT (by rfl) (by rfl) (by rfl) 8) (c_istalk (by rfl) (by rfl) (by rfl) 8) (c_tb (by rfl) 10) (c_ans (by rfl) 10) (c_ltalk (by rfl) (by rfl) 9)
    (bent_all (by rfl) (by rfl) (by rfl) (by rfl) 5 3) (fun x hx => same_all (T := tbl LL) (by rfl) 5 x hx (by omega) 5) ns
  exact ⟨[], f, (lvl (j := 11) (by rfl) _).trans e⟩
end DL
namespace DL
open PySem PySem.Spec PyProof.Rows L2
theorem chkL : chk PP LL = true := by kernel_rfl
theorem hL : findG LL 9999 = some l_law := by kernel_rfl
theorem hx : l_law.x = "law" := rfl
theorem hp : l_law.N.take l_law.np = [("script" : Str)] := by kernel_rfl
section
open PySem PySem.W PySem.Calls PyProof.Rows
abbrev R0 : PySem.W.OpenRow := PySem.W.OpenLaw.row PySem.Challenge.rw_wishgames_k35_talks_told_and_led
abbrev q0 : Program := view R0.prog [17]
abbrev loose0 : List Str := List.filter (fun (x : Str) => x != ("law" : Str)) (LL.map fun d => d.x) ++ ([("MOST_LEVEL" : Str)] : List Str)
abbrev hk : PySem.W.Hook := He.hookD 4 (faL LL) (fnL PP LL)
abbrev d0 : DefRec := HandSHeadRun.topDef R0.prog 17
def ob (s : PySem.W.SharedT) : He.AlD := He.obsDG 4 (faL LL) (fnL PP LL) (HandSHeadRun.getT s)
theorem ob_eq (s : PySem.W.SharedT) : ob s = hk.obs s.abs := He.obsDG_eq (HandSHeadRun.getT_eq s)
theorem run0 (w : World) : HandSHeadRun.RunEq R0 q0 hk ob 8000 loose0 w := by
  intro os
  kernel_rfl
theorem t1 : opening R0.prog = plainProg R0.prog.main.scope.names := by kernel_rfl
theorem t2 (s) : fenceModules? R0.prog s = some s := by kernel_rfl
theorem t3 : defOf q0 R0.name = some (d0, []) := by kernel_rfl
theorem t4 : R0.prog.theDef R0.name = some (d0.params, d0.body, d0.scope) := by kernel_rfl
theorem t5 : kwWritten? d0.params.kwonlyargs d0.params.kw_defaults = some [] := by kernel_rfl
theorem t6 : (!R0.writes || R0.records.isEmpty) = true := by kernel_rfl
theorem t7 : R0.wellSaid = true := by decide +kernel
theorem t8 : (chainsOk q0 && opensWell R0.prog && (frees R0.toRowW && R0.within.isEmpty)) = true := by decide +kernel
theorem t9 : R0.prog.bare := ⟨rfl, rfl, rfl, rfl, rfl, by decide +kernel⟩
theorem hdA (hw : R0.toRowW.promised) (hc : WalkO q0 loose0 (XL q0 []) hk.says R0.toRowW d0 [] fun f vs => PySem.call f vs) : R0.Holds :=
  HandSHeadRun.head_any (r := R0) (q := q0) (H := hk) (ob := ob) (M := 8000) (loose := loose0) (d := d0) (kwd := []) ob_eq t1 t2 run0 t3 t4 t5 t6 t7 t8 t9 hw hc
theorem hmgE : d0.name = ("law" : PySem.Str) := by kernel_rfl
theorem hdf : d0.params.defaults = [] := by kernel_rfl
theorem hcX : WalkO q0 loose0 (XL q0 []) hk.says R0.toRowW d0 [] fun f vs => PySem.call f vs :=
  law_walk (l := PySem.Challenge.rw_wishgames_k35_talks_told_and_led) (p := PP) (L := LL) (k := 11) (gL := 9999) (dl := l_law) rfl hdf ⟨rfl, by decide, by decide⟩ hmgE (fun w h Y => by
    obtain ⟨K, KX, c⟩ := Y
    exact ⟨K, KX, c⟩) chkL bindsL hL hx hp lawX
end
end DL
open PySem PySem.W PyProof.Rows
set_option maxHeartbeats 0 in
theorem PySem.Challenge.cw_wishgames_k35_talks_told_and_led_holds : PySem.Challenge.rw_wishgames_k35_talks_told_and_led.Holds := by
  w_on; o_law
  refine DL.hdA ?hw ?hc
  case hw => w_witness2
  case hc => exact DL.hcX

