import PyProof.Rows.All
import Wide.All
import OpenK.AllK
import Wide.FinOn
import HandS.ForMost
import HandS.Zip
import HandS.IsInst
import HandS.TupAny
import HandS.TupMul
import HandS.Rev
import HandS.Style
import HandS.Flow
import HandS.SetKeys
import HandS.DictComp
import HandS.MakeKw
import HandS.MakeKwOnly
import HandS.Wide
import HandS.SortKw
import HandS.Walk
import KE.DataMinMax
import KE.KUnpackStar
import PyProof.ListRange
import KE.GoesNew
import KE.GoesEnum
import KE.GoesEnumKw
import PySem.Challenge.RW_viewgrid_k45_whole_as_a_copy_ahead
import HandS.Conv
set_option Elab.async false
set_option linter.all false
set_option maxRecDepth 100000
set_option maxHeartbeats 4000000
namespace VG
open PySem PySem.Spec PyProof.Rows L2

section
variable {X : Cx}
/-! ### powers of a greater base -/
def CPowW (i j : Int) : Prop := j = 3 ∧ i.natAbs < 2 ^ 1000
theorem bits_1000 {i : Int} (h : i.natAbs < 2 ^ 1000) : (Builtin.Int.intBits i : Int) ≤ 1000 := by
  have b : Builtin.Int.intBits i ≤ i.natAbs.log2 + 1 := by
    unfold Builtin.Int.intBits
    split <;> omega
  have c : i.natAbs.log2 < 1000 := PySem.Flt.log2_lt_of (by decide) h
  omega
theorem op_powW : OpR X (binaryOp .Pow) (rI CPowW fun i j => .int (i ^ j.toNat)) := opI fun i j _ _ _ _ _ hc q => by
  obtain ⟨h1, h2⟩ := hc
  have := bits_1000 h2
  exact pow_int (by omega) (by subst h1; omega) q

/-! ### xs[i] op= e of a list -/
theorem get_list : PGet X (rIxL X.K) := by
  intro pins s σ H o i ov iv Q I ro ri h
  obtain ⟨p, xs, k, z, e1, e2, hq, he, q⟩ := h
  subst e1
  subst e2
  cases ro
  obtain ⟨t, rfl⟩ := ri
  obtain ⟨its, r, pl, hz⟩ := I.list hq
  obtain ⟨j, h1, h2, h3, h4, h5⟩ := atI_get he
  obtain ⟨w, ew, rw'⟩ := r.get h2
  have hl := r.length
  have hn := line63
  have fin : EP X pins σ Q w s := ⟨z, H, I, rw', q⟩
  by_cases h0 : 0 ≤ k
  · have hj : k.toNat = j := by
      rw [seqIndex_of h0 h5] at h1
      exact Option.some.inj h1
    exact wpAny_getItem_list pl.isList h0 (by omega) (by rw [hj]; simpa using ew) fin
  · have hj : (k + (its.toArray.size : Int)).toNat = j := by
      rw [seqIndex_neg (by omega) h4] at h1
      rw [List.size_toArray, ← hl]
      exact Option.some.inj h1
    exact wpAny_getItem_list_neg pl.isList (by omega) (by rw [List.size_toArray, ← hl]; omega) (by omega) (by rw [hj]; simpa using ew) fin

/-! ### range(n) as a value, its len -/
theorem cr_range1 : CallR X (.type "range") (fun vs H Q => ∃ j, vs = [V.int j] ∧ ∀ p, H p = none → Q (.ref p) (upd H p (.rng 0 j))) := by
  intro pins s σ H vs us Q I r h
  obtain ⟨j, rfl, q⟩ := h
  obtain ⟨u1, rfl, ri⟩ := vals1 r
  obtain ⟨t, rfl⟩ := ri
  refine call_range_1 ⟨.ref s.heap.objs.size, upd H s.heap.objs.size (.rng 0 j), I.laid (t' := s.toks + 1 + 1) (fun b o e => Heap.get?_push_of_some _ e) (Nat.le_refl _) ?_, rfl, q _ (I.hok.fresh (Nat.le_refl _))⟩
  exact ⟨s.toks, t, s.toks + 1, Heap.get?_push_size _ rfl⟩
theorem cr_lenRng : CallR X (.builtin "len") (fun vs H Q => ∃ (p : Addr) (n : Nat), vs = [V.ref p] ∧ H p = some (.rng 0 (n : Int)) ∧ n < 2 ^ 62 ∧ Q (.int (n : Int)) H) := by
  intro pins s σ H vs us Q I r h
  obtain ⟨p, n, rfl, hp, hn, q⟩ := h
  obtain ⟨u1, rfl, ri⟩ := vals1 r
  cases ri
  obtain ⟨t, u, v, hr⟩ := (show ObjOk X.prog X.w H s.heap p (.rng 0 (n : Int)) from I.hok p _ hp)
  refine call_len_range (n := n) (a := 0) (b := n) (c := 1) hr (by rw [rangeSize_one]; split <;> omega) (by omega) ⟨.int n, H, I.tok _, ⟨_, rfl⟩, q⟩

/-! ### either of two derivations of one expression -/
theorem pe_or2 {e : Expr} {t u : TE} (h1 : PE X e t) (h2 : PE X e u) : PE X e (fun σ H Q => t σ H Q ∨ u σ H Q) :=
  ⟨fun pins s σ H Q I h => h.elim (fun q => h1.run pins s σ H Q I q) fun q => h2.run pins s σ H Q I q⟩
def tFar : TE := fun _ _ _ => False
/-- an expression that is never reached -/
theorem pe_far {e : Expr} : PE X e tFar := ⟨fun _ _ _ _ _ _ h => h.elim⟩
def tFarA : TA := fun _ _ _ => False
theorem pa_far {es : List Expr} : PA X es tFarA := ⟨fun _ _ _ _ _ _ _ h => h.elim⟩

/-! ### len of an instance with its own __len__ -/
theorem cr_lenI {CX : CXT} {k : Nat} {C f : Addr} {fd : FuncData} {ps : List Str} {sp : Sp} {E : XK} (c : Cls X.K C) (hm : Meth X.K C "__len__" f) (F : FnOk X.prog X.w X.K X.mg X.base CX k f fd ps sp) (hr : Room (k + 1) X.A) (hb : Binds X.K fd ps [])
    (hx : Passes CX X E) : CallR X (.builtin "len") (fun vs H Q => ∃ (a dx : Addr) (fs : List (Str × V)), vs = [V.ref a] ∧ H a = some (.ins C dx fs) ∧ sp [.ref a] H (fun v H' => ∃ n : Nat, v = .int (n : Int) ∧ n < 2 ^ 62 ∧ Q (.int (n : Int)) H') E) := by
  intro pins s σ H vs us Q I r h
  obtain ⟨a, dx, fs, rfl, ha, q⟩ := h
  obtain ⟨u1, rfl, ri⟩ := vals1 r
  cases ri
  obtain ⟨mA, O, _⟩ := ins_get I.hok ha
  obtain ⟨od, J, _⟩ := O.look
  obtain ⟨m, F0⟩ := I.fr
  refine PySem.W.len_K F0 I.ok.mod.kin J hm.at_ hm.fn ?_
  have r1 : Vals [V.ref a] [Value.ref a] := .cons rfl .nil
  have hl : ([Value.ref a] ++ ([] : List Value)).length = ps.length := by
    have := F.len _ _ _ _ q
    simpa using this
  have rr : Room k X.A.in1 := hr.in1
  refine wpAny_call (codeAny_mono (F.run X.A.in1 X.stack s H ⟨[Value.ref a], []⟩ ([Value.ref a] ++ []) [V.ref a] _ E rr I.env0.in1 (hb s [Value.ref a] I.kIn hl) r1 q) fun r s' hq => ?_)
  cases r with
  | error e => exact hx pins σ H s e s' I hq
  | ok fl =>
    cases fl with
    | ret u =>
      obtain ⟨v, H', I', rv, n, rfl, hn, q3⟩ := I.after hq
      obtain ⟨t, rfl⟩ := rv
      exact ⟨⟨by omega, by omega⟩, .int n, H', I'.tok _, ⟨_, rfl⟩, q3⟩
    | next => exact False.elim hq
    | brk => exact False.elim hq
    | cont => exact False.elim hq

/-! ### a != a of an instance without own comparisons -/
def NoCmp (K : PySem.W.Frag) (C : Addr) : Prop := ∃ (nm q : Str) (N : Addr) (bs : List Value) (hdct : Bool) (sn : List Str) (sub : List Value) (ab : Bool) (col : Option Bool) (dd : Option Addr) (k0 k1 k2 k3 k5 : Option Value) (newId : String),
  K.lookup C = some (excClassObj nm q C N bs [.type "object"] hdct sn sub ab col dd k0 k1 k2 k3 k5 newId) ∧ PySem.W.nsOkIn K N = true ∧ PySem.W.nsIn K N "__eq__" = some none ∧ PySem.W.nsIn K N "__ne__" = some none
theorem op_neSame {C : Addr} (c : NoCmp X.K C) (hu : X.A.units + 1 < cLine) : OpR X (compareOp .NotEq) (fun x y H Q => ∃ a dx fs, x = .ref a ∧ y = .ref a ∧ H a = some (.ins C dx fs) ∧ Q (.bl false) H) := by
  intro pins s σ H x y v u Q I rx ry h
  obtain ⟨a, dx, fs, rfl, rfl, ha, q⟩ := h
  cases rx
  cases ry
  obtain ⟨nm, qn, N, bs, hdct, sn, sub, ab, col, dd, k0, k1, k2, k3, k5, newId, hC, hN, h1, h2⟩ := c
  obtain ⟨mA, O, _⟩ := ins_get I.hok ha
  have X1 := I.kIn
  have ns : s.heap.Ns N (s.heap.nsMap N) := Heap.Ns.of_isNs (PySem.W.isNs_of_in X1 hN)
  have fin : EP X pins σ Q (.bool false) s := ⟨.bl false, H, I, rfl, q⟩
  obtain ⟨hh, g, d, t, os⟩ := s
  refine compareOp_ne_same PySem.F.cmp_object (x := a) (C := C) ⟨_, nm, qn, N, bs, hdct, sn, sub, ab, col, dd, k0, k1, k2, k3, k5, newId, _, O.obj, rfl, X1 _ _ hC, ns, PySem.W.ns_none_of X1 ns h1, PySem.W.ns_none_of X1 ns h2⟩ hu fin
end
end VG

set_option Elab.async false
set_option linter.all false
set_option maxRecDepth 100000
set_option maxHeartbeats 4000000
namespace VG
open PySem PySem.Spec PyProof.Rows L2
/-! ### len(set(xs)), xs a list of ints: the answer is no more than its length, and just its length where no two are alike -/
theorem met_len (ns : List Int) : ∀ i, i ≤ ns.length → (firstMet (fun i => ns.getD i 0) i).length = i → (ns.take i).Nodup
  | 0, _, _ => by simp
  | i + 1, hi, h => by
    have hlt : i < ns.length := hi
    have e1 : ns.getD i 0 = ns[i] := by
      rw [List.getD_eq_getElem?_getD, List.getElem?_eq_getElem hlt]; rfl
    have le := firstMet_length_le (fun i => ns.getD i 0) i
    rw [firstMet_succ] at h
    unfold step_dedup at h
    by_cases hb : (firstMet (fun i => ns.getD i 0) i).any (· == ns.getD i 0) = true
    · rw [if_pos hb] at h
      omega
    · rw [if_neg hb, List.length_append, List.length_singleton] at h
      have ih := met_len ns i (Nat.le_of_lt hlt) (by omega)
      rw [List.take_add_one, List.getElem?_eq_getElem hlt]
      show (ns.take i ++ [ns[i]]).Nodup
      rw [List.nodup_append]
      refine ⟨ih, by simp, fun a ha b hb2 e => hb ?_⟩
      have eb : b = ns[i] := by simpa using hb2
      rw [firstMet_any]
      rw [List.any_eq_true]
      obtain ⟨j, hj, e3⟩ := List.getElem_of_mem ha
      rw [List.length_take] at hj
      refine ⟨ns.getD j 0, List.mem_map.mpr ⟨j, List.mem_range.mpr (by omega), rfl⟩, ?_⟩
      rw [beq_iff_eq, e1, ← eb, ← e, ← e3, List.getElem_take, List.getD_eq_getElem?_getD, List.getElem?_eq_getElem (by omega)]
      rfl
def tLenSetG (K : PySem.W.Frag) (ta : TE) : TE := fun σ H Q => ta σ H fun x H1 => ∃ (l : Addr) (ns : List Int), x = .ref l ∧ SqL K H1 l (ns.map V.int) ∧ ns.length ≤ 4000 ∧ ∀ n : Nat, (n = ns.length ↔ ns.Nodup) → Q (.int (n : Int)) H1
theorem pe_lenSetG {X : Cx} {a : Expr} {ta : TE} {p p2 q pos : Pos} (hg : Gl X "len") (hm : X.mg "len" = none) (hg2 : Gl X "set") (hm2 : X.mg "set" = none) (ha : PE X a ta) (hc : X.calm = true := by rfl)
    (na : starEach [a] X.env = (false, eval a X.env) :: starEach [] X.env := by rfl) : PE X (.Call (.Name "len" p) [.Call (.Name "set" p2) [a] [] q] [] pos) (tLenSetG X.K ta) := by
  refine ⟨fun pins s σ H Q I h => ?_⟩
  refine Call_ (ld_blt I hg hm PySem.boot_len ?_)
  refine PyProof.Rows.callWith_builtin1 (PyProof.Rows.args_cons ?_ rfl) rfl rfl
  refine Call_ (ld_blt I hg2 hm2 PyProof.Rows.boot_set ?_)
  refine PyProof.Rows.callWith_type1 (PyProof.Rows.args_cons (thn (ha.run pins s σ H _ I h) fun v s1 ⟨x, H1, I1, r1, q1⟩ => PyProof.Rows.args_nil ?_) na) na rfl
  obtain ⟨l, ns, e0, hq, hl, q1⟩ := q1
  subst e0
  cases r1
  obtain ⟨its, r, pl, hz⟩ := I1.list hq
  have hlen : its.toArray.size = ns.length := by rw [List.size_toArray, ← r.length, List.length_map]
  refine call_set_list (I1.ok.hd hc) pl.isList (by simpa using RZ.intsAre_vals r) (by rw [hlen]; unfold scanBound; omega) fun h' tk hS hk => ?_
  refine PyProof.Rows.args_nil ?_
  rw [hlen] at hS
  obtain ⟨o, es, ep, t, ho, hex, hd, _, _, _, hf, hn⟩ := hS
  have I2 : Inv X pins σ H1 { s1 with heap := h', toks := tk } := I1.kept fun b o e => hk b o (Heap.lt_size e) e
  have le := firstMet_length_le (fun i => ns.getD i 0) ns.length
  refine call_len_set ho hex hd hf (by rw [hn] <;> omega) ⟨.int ((firstMet (fun i => ns.getD i 0) ns.length).length : Nat), H1, I2.tok _, ⟨_, by rw [hn]⟩, q1 _ ⟨fun e => ?_, fun nd => ?_⟩⟩
  · have := met_len ns ns.length (Nat.le_refl _) e
    rwa [List.take_length] at this
  · rw [RZ.firstMet_nodup nd ns.length (Nat.le_refl _), List.take_length]
end VG

set_option Elab.async false
set_option linter.all false
set_option maxRecDepth 100000
set_option maxHeartbeats 4000000
namespace VG
open PySem PySem.Spec PyProof.Rows L2
/-! ### t * 1 is t -/
theorem tuple_mul1 (l : Addr) (items : Array Value) (n : Nat) (dd : Option Addr) (sl : Array (Option Value)) (u : Tok) :
    Meets (Builtin.«tuple.__mul__» ⟨[.ref l, .int 1 u], []⟩) (fun _ R s => s.heap.get? l = some { cls := .type "tuple", dict := dd, data := .seq items n, slots := sl } ∧ R (.ok (.ret (Value.ref l))) s) :=
  .of_wp fun prog w A R s h => by
    obtain ⟨hp, g, d, tk, os⟩ := s
    obtain ⟨hl, h⟩ := h
    have f1 := AutoSeq1.idx_int
    have c1 : (items.isEmpty || (1 : Int) == 1) = true := by simp
    wp_walk using wpAny_loadPart' hl
    exact ⟨_, rfl, h⟩
/-- t * k, k from 1 on -/
def rRepT1 (K : PySem.W.Frag) : R2 := fun x y H Q => ∃ l k xs, x = .ref l ∧ y = .int k ∧ SqT K H l xs ∧ xs ≠ [] ∧ 1 ≤ k ∧ k ≤ 1000 ∧ xs.length ≤ 1000 ∧ (k = 1 → Q (.ref l) H) ∧ (2 ≤ k → ∀ p, H p = none → Q (.ref p) (upd H p (.tup (List.replicate k.toNat xs).flatten)))
theorem op_repT1 {X : Cx} : OpR X (binaryOp .Mult) (rRepT1 X.K) := by
  intro pins s σ H x y v u Q I rx ry h
  obtain ⟨l, k, xs, e1, e2, hT, hne, h1, h2, hz, q1, q2⟩ := h
  by_cases hk : k = 1
  · subst e1
    subst e2
    subst hk
    cases rx
    obtain ⟨t, rfl⟩ := ry
    obtain ⟨its, r, ⟨⟨cls, dd, data, sl⟩, ho, hc, n, hd⟩, hs⟩ := I.tuple hT
    simp only at hc hd
    subst hc hd
    refine wpAny_binaryOp_repeat_ref (T := "tuple") (U := "int") (by decide) ⟨_, ho, rfl⟩ (fun s' => typeIs_int s' 1 t) noFill_tuple_mul F.fills_int_mul F.slot_int_rmul repeat_tuple F.slot_int_index.lookup
      (call_meets F.slot_int_rmul (typeIs_int s 1 t) F.entry_int_rmul (F.args_int_rmul_2 _ _) (int_rmul_tuple 1 t l its.toArray n dd sl)
        ⟨ho, rfl, ⟨_, ho, rfl⟩, call_meets F.slot_tuple_mul ⟨_, ho, rfl⟩ F.entry_tuple_mul (F.args_tuple_mul_2 _ _) (tuple_mul1 l its.toArray n dd sl t) ⟨ho, ?_⟩⟩)
    exact ⟨.ref l, H, I, rfl, q1 rfl⟩
  · exact op_repT pins s σ H x y v u Q I rx ry ⟨l, k, xs, e1, e2, hT, hne, by omega, h2, hz, q2 (by omega)⟩

/-! ### max(t, default=d), t a tuple of ints; min(xs, default=None) of an empty list -/
theorem alike_ints (ns : List Int) : PySem.W.AlikeAll (ns.map PyData.int) := by
  refine ⟨fun x hx y hy => ?_, fun x hx => ?_⟩
  · obtain ⟨i, _, rfl⟩ := List.mem_map.mp hx
    obtain ⟨j, _, rfl⟩ := List.mem_map.mp hy
    rfl
  · obtain ⟨i, _, rfl⟩ := List.mem_map.mp hx
    exact fun z => nomatch z
theorem depth_ints : ∀ ns : List Int, PyData.depthAll (ns.map PyData.int) ≤ 1
  | [] => by decide
  | n :: ns => by
    have ih := depth_ints ns
    show max _ _ ≤ 1
    exact Nat.max_le.mpr ⟨by simp [PyData.depth], ih⟩
def rMaxTD (K : PySem.W.Frag) : List V → List V → Hp → VK → Prop := fun vs zs H Q => ∃ (a : Addr) (ns : List Int) (d : Int), vs = [.ref a] ∧ zs = [.int d] ∧ SqT K H a (ns.map V.int) ∧ ∀ m : Int, (m = d ∨ m ∈ ns) → Q (.int m) H
theorem cr_maxTD {X : Cx} {k : Nat} (hc : X.calm = true) (hr : Room k X.A) : CallRK X (.builtin "max") [Str.ofString "default"] (rMaxTD X.K) := by
  intro pins s σ H vs zs us ws Q I r rz h
  obtain ⟨a, ns, d, e1, e2, hs, q⟩ := h
  subst e1
  subst e2
  obtain rfl := Vals.ref1 r
  obtain ⟨w1, rfl, t, rfl⟩ := vals1 rz
  obtain ⟨its, rv, p, hz⟩ := I.tuple hs
  have hu := hr.units
  have hd := depth_ints ns
  refine PySem.W.max_tuple_default (xs := ns.map PyData.int) (as := []) (I.ok.hd hc) p (by simpa using (RZ.intsAre_vals rv).reads s.heap) (alike_ints ns) (by omega) (fun e h' tk hk => ?_) fun y ys i v h' tk bs e hv rd hk => ?_
  · exact ⟨.int d, H, I.kept (t' := tk) hk, ⟨t, rfl⟩, q d (.inl rfl)⟩
  · have hv' : its[i]? = some v := by simpa using hv
    have hlt : i < (ns.map V.int).length := by
      rw [rv.length]
      exact (List.getElem?_eq_some_iff.mp hv').1
    obtain ⟨u, hu2, ru⟩ := rv.get (List.getElem?_eq_getElem hlt)
    rw [hv'] at hu2
    cases hu2
    rw [List.getElem_map] at ru
    exact ⟨.int _, H, I.kept (t' := tk) hk, ru, q _ (.inr (List.getElem_mem _))⟩
def rMinLD (K : PySem.W.Frag) : List V → List V → Hp → VK → Prop := fun vs zs H Q => ∃ (a : Addr), vs = [.ref a] ∧ zs = [.non] ∧ SqL K H a [] ∧ Q .non H
theorem cr_minLD {X : Cx} {k : Nat} (hc : X.calm = true) (hr : Room k X.A) : CallRK X (.builtin "min") [Str.ofString "default"] (rMinLD X.K) := by
  intro pins s σ H vs zs us ws Q I r rz h
  obtain ⟨a, e1, e2, hs, q⟩ := h
  subst e1
  subst e2
  obtain rfl := Vals.ref1 r
  obtain ⟨w1, rfl, e3⟩ := vals1 rz
  obtain rfl : w1 = Value.none := e3
  obtain ⟨its, rv, p, hz⟩ := I.list hs
  cases rv
  have hu := hr.units
  refine PySem.W.min_list_default (xs := []) (as := []) (I.ok.hd hc) p.isList .nil ⟨fun x hx => by simp at hx, fun x hx => by simp at hx⟩ (by show X.A.units + 1 + 0 < cLine; omega) (fun e h' tk hk => ?_) fun y ys i v h' tk bs e hv rd hk => nomatch e
  exact ⟨.non, H, I.kept (t' := tk) hk, rfl, q⟩
end VG

set_option Elab.async false
set_option linter.all false
set_option maxRecDepth 100000
set_option maxHeartbeats 4000000
namespace VG
open PySem PySem.Spec PyProof.Rows L2
/-! ### a, *b = xs of a list -/
section
variable {prog : Program} {w : World} {A : Around} {E : Value → Shared → Prop} {s : Shared}
theorem star_list {l : Addr} {x : Value} {rs : List Value} {Q : List Value → Shared → Prop} (hl : s.heap.IsList l (x :: rs).toArray) (hh : A.handled = none) (hz : rs.length ≤ 10000)
    (h : ∀ (h2 : Heap) (tk : Nat), (∀ b o, s.heap.get? b = some o → h2.get? b = some o) → Q [x, .ref h2.objs.size] { s with heap := h2.push { cls := .type "list", data := .seq rs.toArray }, toks := tk }) :
    wpAny (model prog w) A (unpackItems (.ref l) 2 (some 1)) Q E s := by
  have hlt : l ≠ s.heap.objs.size := by
    obtain ⟨o, ho, _⟩ := hl
    exact Nat.ne_of_lt (Heap.lt_size ho)
  unfold unpackItems
  refine wpAny_bind ?_
  unfold notIterableAtAll
  refine wpAny_bind (wpAny_specialOf hl.typeIs slot_list_iter.lookup ?_)
  refine wpAny_pure ?_
  simp only [Bool.false_eq_true, if_false]
  refine wpAny_bind (wpAny_holding (wpAny_pyIter_list hl ?_))
  refine wpAny_bind (wpAny_holding (PySem.W.kun_draw hlt 1 0 _ _ ⟨_, Heap.get?_push_size _ rfl, rfl, rfl⟩ (hl.push _) (by simp) fun h1 hit1 hs1 => ?_))
  have hl1 : h1.IsList l (x :: rs).toArray := (hl.push _).extBut hs1.extBut hlt
  obtain ⟨oi, hoi, _⟩ := id hit1
  obtain ⟨ol, hol, _⟩ := id hl1
  have e1 : ((x :: rs).toArray.toList.drop 0).take 1 = [x] := by simp
  rw [e1]
  rw [if_neg (show ¬ (([x] : List Value).length < 1) by simp)]
  refine wpAny_bind (wpAny_holding (PySem.W.kun_collect (s := { s with heap := h1 }) (T := "list_iterator") (.inr (.inr (.inl rfl))) (Walks.list (A := A.in1) hh s.heap.objs.size l hlt (x :: rs).toArray) (fun j u st => st.1.typeIs) (k := 1) (by simp) ⟨hit1, hl1⟩ (Heap.lt_size hoi) (Heap.lt_size hol) (fun h2 tk hk => ?_) (by rw [sizeLine_eq, List.size_toArray, List.length_cons]; omega)))
  have e2 : (x :: rs).toArray.toList.drop 1 = rs := by simp
  rw [e2]
  show wpAny _ _ (if rs.length < 2 - 1 - 1 then _ else _) _ _ _
  rw [if_neg (by omega)]
  show wpAny _ _ (newList (rs.take (rs.length - (2 - 1 - 1))) >>= fun d => pure ([x] ++ [d] ++ rs.drop (rs.length - (2 - 1 - 1)))) _ _ _
  have e3 : rs.take (rs.length - (2 - 1 - 1)) = rs := by
    rw [show rs.length - (2 - 1 - 1) = rs.length by omega, List.take_length]
  have e4 : rs.drop (rs.length - (2 - 1 - 1)) = [] := by
    rw [show rs.length - (2 - 1 - 1) = rs.length by omega, List.drop_length]
  rw [e3, e4]
  have he : ∀ b o, s.heap.get? b = some o → h2.get? b = some o := fun b o e => hk b o (Nat.ne_of_lt (Heap.lt_size e)) (hs1.extBut b o (Nat.ne_of_lt (Heap.lt_size e)) (Heap.get?_push_of_some _ e))
  refine wpAny_bind (wpAny_newList ?_ (by rw [sizeLine_eq]; omega))
  exact wpAny_pure (h h2 tk he)
end
def gStar (K : PySem.W.Frag) (g1 g2 : TG) : TG := fun v σ H Q => ∃ a y ys, v = .ref a ∧ SqL K H a (y :: ys) ∧ ys.length ≤ 10000 ∧ ∀ D, H D = none → g1 y σ (upd H D (.lst ys)) fun σ' H' => g2 (.ref D) σ' H' Q
theorem pg_star {X : Cx} {e1 e2 : Expr} {sp pos : Pos} {k : Nat} {g1 g2 : TG} (hc : X.calm = true) (h1 : PG X e1 g1) (h2 : PG X e2 g2) (hn : assignEach [e1, .Starred e2 sp] X.env = [(false, assign e1 X.env), (true, assign e2 X.env)] := by rfl) : PG X (.Tuple [e1, .Starred e2 sp] k pos) (gStar X.K g1 g2) := by
  refine ⟨fun pins s σ H v u Q I r hw => ?_⟩
  obtain ⟨a, y, ys, e0, hq, hl, hw⟩ := hw
  subst e0
  cases r
  obtain ⟨its, rv, pl, hz⟩ := I.list hq
  cases rv with
  | @cons _ x _ rs rx rr =>
  have hlr := Paired.length rr
  rw [PyProof.Rows.assign_Tuple]
  refine wpAny_bind (wpAny_standAt ?_)
  unfold unpack
  rw [hn]
  refine wpAny_bind (wpAny_holding (star_list (x := x) (rs := rs) pl.isList (I.ok.hd hc) (by omega) fun h' tk hk => ?_))
  have I1 : Inv X pins σ H { s with heap := h', toks := tk } := I.kept hk
  have hf : H h'.objs.size = none := I1.hok.fresh (Nat.le_refl _)
  have I2 : Inv X pins σ (upd H h'.objs.size (.lst ys)) { s with heap := h'.push { cls := .type "list", data := .seq rs.toArray }, toks := tk } :=
    I1.laid (t' := tk) (fun b o e => Heap.get?_push_of_some _ e) (Nat.le_refl _) ⟨by rw [sizeLine_eq]; omega, rs, 0, rr, Heap.get?_push_size _ rfl⟩
  show wpAny _ _ (assignInOrder [assign e1 X.env, assign e2 X.env] [x, .ref h'.objs.size]) _ _ _
  refine assignInOrder_cons (thn (h1.run pins _ σ _ y x _ I2 rx (hw _ hf)) fun _ s1 ⟨σ1, H1, I3, q1⟩ => ?_)
  refine assignInOrder_cons (thn (h2.run pins _ σ1 _ (.ref h'.objs.size) (.ref h'.objs.size) _ I3 rfl q1) fun _ s2 ⟨σ2, H2, I4, q2⟩ => ?_)
  exact assignInOrder_nil ⟨σ2, H2, I4, q2⟩
end VG

set_option Elab.async false
set_option linter.all false
set_option maxRecDepth 100000
set_option maxHeartbeats 4000000
namespace VG
open PySem PySem.Spec PyProof.Rows L2
/-! ### enumerate(t), t a tuple -/
theorem meets_enum1 {v : Value} {o : Obj} {H : Heap → Prop} (B : Begins v o H) :
    Meets (Builtin.«enumerate.__new__» ⟨[.type "enumerate", v], []⟩) (fun _ R s => H s.heap ∧
      R (.ok (.ret (.ref (s.heap.push o).objs.size))) { s with heap := (s.heap.push o).push { cls := .type "enumerate", data := .fields #[.none, .bool false, .ref s.heap.objs.size, rawInt 0, .none, .none] } }) :=
  .of_wp fun prog w A R s h => by
    obtain ⟨hp, g, d, tk, os⟩ := s
    obtain ⟨h1, h⟩ := h
    have hsub := sub_enumerate
    have qi : ∀ {A' : Around} {E : Value → Shared → Prop} {Q : Value → Shared → Prop}, Q (.ref hp.objs.size) ⟨hp.push o, g, d, tk, os⟩ → wpAny (model prog w) A' (pyIter v) Q E ⟨hp, g, d, tk, os⟩ :=
      fun q => B.iter prog w _ _ ⟨hp, g, d, tk, os⟩ _ h1 q
    wp_walk using qi
    refine wpAny_stack_any fun st => wpAny_pure ?_
    split
    · rename_i c _ _ _ _ _
      cases (c == Value.type "enumerate")
      all_goals
        wp_walk using qi
        exact ⟨_, rfl, h⟩
    · wp_walk using qi
      exact ⟨_, rfl, h⟩
section
variable {prog : Program} {w : World} {A : Around} {E : Value → Shared → Prop} {s : Shared}
theorem call_enum1 {v : Value} {o : Obj} {H : Heap → Prop} {Q : Value → Shared → Prop} (B : Begins v o H) (h1 : H s.heap)
    (h : ∀ h', IsEnum h' (s.heap.objs.size + 1) s.heap.objs.size 0 .none → h'.get? s.heap.objs.size = some o → (∀ b o, s.heap.get? b = some o → h'.get? b = some o) → Q (.ref (s.heap.objs.size + 1)) { s with heap := h' }) :
    wpAny (model prog w) A (call (.type "enumerate") [v]) Q E s := by
  refine callType_new F.called_enumerate (by decide) (F.typeCall_enumerate_1 _) (F.newCall_enumerate_1 _) (fun obj => F.args_object_init_2 obj _) F.entry_enumerate_new
    (meets_enum1 B) ⟨h1, ?_⟩
  have hz : (s.heap.push o).objs.size = s.heap.objs.size + 1 := Heap.size_push ..
  show _ ∧ _
  rw [hz]
  have he := Heap.get?_push_size (s.heap.push o) (o := { cls := .type "enumerate", data := .fields #[.none, .bool false, .ref s.heap.objs.size, rawInt 0, .none, .none] }) rfl
  rw [hz] at he
  exact ⟨⟨_, he, rfl⟩, h _ he (Heap.get?_push_of_some _ (Heap.get?_push_size _ B.free)) fun b o x => Heap.get?_push_of_some _ (Heap.get?_push_of_some _ x)⟩
end
def IteT (K : PySem.W.Frag) (a : Addr) (xs : List V) : It :=
  ⟨fun i H => SqT K H a xs ∧ i < xs.length, fun i H v H' => ∃ T x, v = .ref T ∧ H T = none ∧ H' = upd H T (.tup [.int (i : Nat), x]) ∧ xs[i]? = some x, fun i H => SqT K H a xs ∧ xs.length ≤ i⟩
theorem turn_enumT {P : Program} {w : World} {K : PySem.W.Frag} {elts : List Expr} {kk : Nat} {tpos : Pos} (a e it : Addr) (xs : List V) (hea : e ≠ a) (hia : a ≠ it) :
    Turn P w K (.Tuple elts kk tpos) (IteT K a xs) [e, it] e (fun i h => (∃ old, IsEnum h e it (0 + (i : Nat)) old) ∧ h.IsTupleIter it a i ∧ e ≠ it ∧ i ≤ xs.length) where
  mem := by simp
  obj := fun i h st b hb => by
    obtain ⟨⟨old, he⟩, ⟨o, ho, hc, hd⟩, _⟩ := st
    have e' : b = e ∨ b = it := by simpa using hb
    rcases e' with z | z
    · rw [z]
      exact ⟨_, he, fun v q => nomatch q⟩
    · rw [z]
      exact ⟨o, ho, fun v q => by rw [hd] at q; cases q⟩
  keep := fun i h h' st k => by
    obtain ⟨⟨old, he⟩, hi, hne⟩ := st
    exact ⟨⟨old, k e (by simp) _ he⟩, hi.at fun o q => k it (by simp) o q, hne⟩
  item := by
    intro X hP hw hK hc i pins s σ H E I hf st hg
    subst hP hw hK
    obtain ⟨he, hit, hne, hi⟩ := st
    obtain ⟨hq, hx⟩ := hg
    obtain ⟨its, rv, p, hz⟩ := I.tuple hq
    have hh := I.ok.hd hc
    have D := Draws.tuple (prog := X.prog) (w := X.w) (A := X.A.in1) (show X.A.in1.handled = none from hh) it a hia its.toArray
    have G := GoesN.enumFrom (elts := elts) (x1 := kk) (pos := tpos) (A := X.A) 0 D e hne (by simp [hne, hea]) (by simp)
    have hlt : i < its.toArray.size := by
      rw [List.size_toArray, ← rv.length]
      exact hx
    refine thn (G.goes i s (fun v s2 => ∃ x H', Inv X pins σ H' s2 ∧ RelV x v ∧ (IteT X.K a xs).yld i H x H' ∧ ((∃ old, IsEnum s2.heap e it (0 + ((i + 1 : Nat) : Int)) old) ∧ s2.heap.IsTupleIter it a (i + 1) ∧ e ≠ it ∧ i + 1 ≤ xs.length) ∧ ∀ b ∈ [e, it], H' b = none) E hlt ⟨he, hit, p⟩ fun v h' tk hY st' hk htk => ?_) fun r s1 hr => hr
    obtain ⟨T, t, u, ev, hT, hu, hp⟩ := hY
    obtain ⟨he', hit', _⟩ := st'
    subst ev
    obtain ⟨u', hu', ru⟩ := rv.get (List.getElem?_eq_getElem hx)
    have eu : u' = u := by
      have : its[i]? = some u := by simpa using hu
      rw [hu'] at this
      exact Option.some.inj this
    subst eu
    have new : ObjOk X.prog X.w (upd H T (.tup [.int (i : Nat), xs[i]])) h' T (.tup [.int (i : Nat), xs[i]]) :=
      ⟨by show 2 ≤ sizeLine; decide, [.int (0 + (i : Int)) t, u'], .cons ⟨t, by rw [Int.zero_add]⟩ (.cons ru .nil), hp⟩
    refine ⟨.ref T, _, I.turnedNew (t' := tk) (ch := [e, it]) hk hf hT new, rfl, ⟨T, xs[i], rfl, I.hok.fresh hT, rfl, List.getElem?_eq_getElem hx⟩, ⟨he', hit', hne, hx⟩, fun b hb => ?_⟩
    have hb' : b < s.heap.objs.size := by
      have e' : b = e ∨ b = it := by simpa using hb
      rcases e' with z | z
      · obtain ⟨old, q⟩ := he
        rw [z]
        exact Heap.lt_size q
      · obtain ⟨_, q, _⟩ := hit
        rw [z]
        exact Heap.lt_size q
    rw [upd_ne (Nat.ne_of_lt (Nat.lt_of_lt_of_le hb' hT))]
    exact (hf b hb).1
  done := by
    intro X hP hw hK hc i pins s σ H E I hf st hg
    subst hP hw hK
    obtain ⟨he, hit, hne, hi⟩ := st
    obtain ⟨hq, hx⟩ := hg
    obtain ⟨its, rv, p, hz⟩ := I.tuple hq
    have hh := I.ok.hd hc
    have D := Draws.tuple (prog := X.prog) (w := X.w) (A := X.A.in1) (show X.A.in1.handled = none from hh) it a hia its.toArray
    have G := GoesN.enumFrom (elts := elts) (x1 := kk) (pos := tpos) (A := X.A) 0 D e hne (by simp [hne, hea]) (by simp)
    have ei : i = its.toArray.size := by
      rw [List.size_toArray, ← rv.length]
      omega
    refine G.stops s (fun s1 => Inv X pins σ H s1) E ?_ fun h' tk hk htk => I.turnedL (t' := tk) (ch := [e, it]) hk hf
    rw [← ei]
    exact ⟨he, hit, p⟩
  self := fun A i s Q E st h => by
    obtain ⟨⟨_, he⟩, _⟩ := st
    exact wpAny_pyIter_enum he h
def iEnumT (K : PySem.W.Frag) (ta : TA) : TI := fun σ H R => ta σ H fun vs H1 => ∃ a xs, vs = [.ref a] ∧ SqT K H1 a xs ∧ R (IteT K a xs) H1
theorem pi_enumT {X : Cx} {e : Expr} {ta : TA} {p pos tpos : Pos} {elts : List Expr} {kk : Nat} (hg : Gl X "enumerate") (hm : X.mg "enumerate" = none) (ha : PA X [e] ta) (hs : starEach [e] X.env = [(false, eval e X.env)] := by rfl) :
    PI X (.Tuple elts kk tpos) (.Call (.Name "enumerate" p) [e] [] pos) (iEnumT X.K ta) := by
  refine ⟨fun pins s σ H R I h => ?_⟩
  refine Call_ (ld_blt I hg hm boot_enumerate (PyProof.Rows.callWith_type1 (thn (ha.run pos pins s σ H _ I h) fun us s1 ⟨vs, H1, I1, r1, q1⟩ => ?_) hs rfl))
  obtain ⟨a, xs, ex, hq, q⟩ := q1
  subst ex
  cases r1 with
  | cons r rr =>
    cases rr
    cases r
    obtain ⟨its, rv, p', hz⟩ := I1.tuple hq
    obtain ⟨oa, hoa, _⟩ := id p'
    have hal : a < s1.heap.objs.size := Heap.lt_size hoa
    refine call_enum1 (begins_tuple a its.toArray) p' fun h' he hit hk => wpAny_pyIter_enum he ?_
    have I2 : Inv X pins σ H1 { s1 with heap := h' } := I1.kept (t' := s1.toks) hk
    refine ⟨s1.heap.objs.size + 1, [s1.heap.objs.size + 1, s1.heap.objs.size], _, _, H1, rfl, I2, turn_enumT a (s1.heap.objs.size + 1) s1.heap.objs.size xs (Nat.ne_of_gt (Nat.lt_succ_of_lt hal)) (Nat.ne_of_lt hal), ⟨⟨.none, he⟩, ⟨_, hit, rfl, rfl⟩, Nat.succ_ne_self _, Nat.zero_le _⟩, fun b hb => ?_, q⟩
    have e' : b = s1.heap.objs.size + 1 ∨ b = s1.heap.objs.size := by simpa using hb
    have hle : s1.heap.objs.size ≤ b := by
      rcases e' with z | z
      · rw [z]
        exact Nat.le_add_right _ _
      · rw [z]
        exact Nat.le_refl _
    exact I1.fpOk hle (I1.hok.fresh hle)
end VG

set_option Elab.async false
set_option linter.all false
set_option maxRecDepth 100000
set_option maxHeartbeats 4000000
namespace VG
open PySem PySem.Spec PyProof.Rows L2
abbrev IsZipS (h : Heap) (z TI TO : Addr) (f0 : Value) : Prop :=
  h.get? z = some { cls := .type "zip", dict := none, data := .fields #[f0, .bool false, .bool true, .ref TI, .ref TO], slots := #[] }
section
variable {prog : Program} {w : World} {A : Around} {E : Value → Shared → Prop} {s : Shared}
theorem orEnd_item {it l : Addr} {i : Nat} {items : Array Value} {x : Value} {Q : Option Value → Shared → Prop} (hit : s.heap.IsListIter it l i) (hl : s.heap.IsList l items) (hx : items[i]? = some x)
    (hQ : ∀ h', h'.IsListIter it l (i + 1) → Heap.SameBut it s.heap h' → Q (some x) { s with heap := h' }) : wpAny (model prog w) A (Builtin.SmallTypes.nextOrEnd (.ref it)) Q E s := by
  unfold Builtin.SmallTypes.nextOrEnd
  exact wpAny_bind (wpAny_attempt (wpAny_nextOf_list_item hit hl hx fun h' a b => wpAny_pure (hQ h' a b)))
theorem orEnd_end {it l : Addr} {i : Nat} {items : Array Value} {Q : Option Value → Shared → Prop} (hh : A.handled = none) (hit : s.heap.IsListIter it l i) (hl : s.heap.IsList l items) (hx : items[i]? = none)
    (hQ : ∀ h', Heap.ExtBut it s.heap h' → Q none { s with heap := h' }) : wpAny (model prog w) A (Builtin.SmallTypes.nextOrEnd (.ref it)) Q E s := by
  unfold Builtin.SmallTypes.nextOrEnd
  refine wpAny_bind (wpAny_attempt (wpAny_nextOf_list_end hh hit hl hx fun h' e a b => ?_))
  obtain ⟨o, ho, hc⟩ := b
  refine wpAny_bind (wpAny_isInstance (T := "StopIteration") (b := true) ⟨o, ho, hc⟩ isSubtype_stop ?_)
  exact wpAny_pure (hQ _ a)
end
section
variable {prog : Program} {w : World} {A : Around} {E : Value → Shared → Prop} {s : Shared}
theorem zipS_item {z TI TO i1 i2 l1 l2 : Addr} {k1 k2 : Nat} {xs ys : Array Value} {x y a b : Value} {Q : Value → Shared → Prop} (D : ZipApart z TI TO i1 i2 l1 l2)
    (hz : IsZipS s.heap z TI TO .none) (hTI : IsPair s.heap TI (.ref i1) (.ref i2)) (hTO : IsPair s.heap TO a b)
    (h1 : s.heap.IsListIter i1 l1 k1) (h2 : s.heap.IsListIter i2 l2 k2) (hl1 : s.heap.IsList l1 xs) (hl2 : s.heap.IsList l2 ys) (hx : xs[k1]? = some x) (hy : ys[k2]? = some y)
    (hQ : ∀ h', IsZipS h' z TI TO (rawInt s.heap.objs.size) → IsPair h' TO x y → h'.IsListIter i1 l1 (k1 + 1) → h'.IsListIter i2 l2 (k2 + 1) → IsPair h' s.heap.objs.size x y → h'.objs.size = s.heap.objs.size + 1 →
      (∀ c o, c ≠ z → c ≠ TO → c ≠ i1 → c ≠ i2 → s.heap.get? c = some o → h'.get? c = some o) → Q (.ref s.heap.objs.size) { s with heap := h' }) :
    wpAny (model prog w) A (Builtin.«zip.__next__» ⟨[.ref z], []⟩) (fun fin s' => ∃ v, fin = .done (.ret v) ∧ Q v s') E s := by
  show wpAny _ _ (field (.ref z) 2 >>= _) _ _ _
  refine wpAny_bind (wpAny_field hz rfl (x := .bool true) rfl ?_)
  show wpAny _ _ (field (.ref z) 3 >>= _) _ _ _
  refine wpAny_bind (wpAny_field hz rfl (x := .ref TI) rfl ?_)
  refine wpAny_bind (wpAny_seqItems hTI rfl ?_)
  show wpAny _ _ (Builtin.SmallTypes.ownedTupleIsFree (.ref z) >>= _) _ _ _
  refine wpAny_bind ?_
  unfold Builtin.SmallTypes.ownedTupleIsFree
  refine wpAny_bind (wpAny_field hz rfl (x := .none) rfl (wpAny_pure ?_))
  simp only [if_true]
  refine wpAny_bind (wpAny_rule ?_)
  refine wpAny_bind (wpAny_field hz rfl (x := .ref TO) rfl ?_)
  refine wpAny_bind (wpAny_setField_rec hz (by simp) fun ha hza hsa => ?_)
  replace hza : IsZipS ha z TI TO .ellipsis := hza
  refine wpAny_bind ?_
  simp only [List.zipIdx_cons, List.zipIdx_nil, List.forIn_cons, List.forIn_nil]
  refine wpAny_bind (wpAny_bind (wpAny_onRaise ?_))
  show wpAny _ _ (Builtin.SmallTypes.nextOrEnd (.ref i1)) _ _ _
  refine orEnd_item (h1.extBut hsa.extBut D.i1z) (hl1.extBut hsa.extBut D.l1z) hx fun hb h1b hsb => ?_
  have hTOb : IsPair hb TO a b := hsb.extBut _ _ D.TOi1 (hsa.extBut _ _ D.TOz hTO)
  refine wpAny_bind (wpAny_seqItems hTOb rfl ?_)
  refine wpAny_bind (wpAny_updateSeq_pair hTOb fun hc hTOc hsc => ?_)
  replace hTOc : IsPair hc TO x b := hTOc
  refine wpAny_bind (wpAny_letGo (wpAny_pure ?_))
  refine wpAny_bind (wpAny_bind (wpAny_onRaise ?_))
  show wpAny _ _ (Builtin.SmallTypes.nextOrEnd (.ref i2)) _ _ _
  refine orEnd_item (((h2.extBut hsa.extBut D.i2z).extBut hsb.extBut D.i12.symm).extBut hsc.extBut D.TOi2.symm)
    (((hl2.extBut hsa.extBut D.l2z).extBut hsb.extBut D.l2i1).extBut hsc.extBut D.l2TO) hy fun hd h2d hsd => ?_
  have hTOd : IsPair hd TO x b := hsd.extBut _ _ D.TOi2 hTOc
  refine wpAny_bind (wpAny_seqItems hTOd rfl ?_)
  refine wpAny_bind (wpAny_updateSeq_pair hTOd fun he hTOe hse => ?_)
  replace hTOe : IsPair he TO x y := hTOe
  refine wpAny_bind (wpAny_letGo (wpAny_pure (wpAny_pure ?_)))
  refine wpAny_bind (wpAny_seqItems hTOe rfl ?_)
  refine wpAny_bind (wpAny_newTuple ?_)
  have hsz : he.objs.size = s.heap.objs.size := by rw [hse.1, hsd.1, hsc.1, hsb.1, hsa.1]
  have hze : IsZipS he z TI TO .ellipsis := hse.extBut _ _ D.TOz.symm (hsd.extBut _ _ D.i2z.symm (hsc.extBut _ _ D.TOz.symm (hsb.extBut _ _ D.i1z.symm hza)))
  have hke : ∀ c o, c ≠ z → c ≠ TO → c ≠ i1 → c ≠ i2 → s.heap.get? c = some o → he.get? c = some o := fun c o c1 c2 c3 c4 e =>
    hse.extBut _ _ c2 (hsd.extBut _ _ c4 (hsc.extBut _ _ c2 (hsb.extBut _ _ c3 (hsa.extBut _ _ c1 e))))
  have h1e : he.IsListIter i1 l1 (k1 + 1) := ((h1b.extBut hsc.extBut D.TOi1.symm).extBut hsd.extBut D.i12).extBut hse.extBut D.TOi1.symm
  have h2e : he.IsListIter i2 l2 (k2 + 1) := h2d.extBut hse.extBut D.TOi2.symm
  have hzlt : z < he.objs.size := Heap.lt_size hze
  show wpAny _ _ (Builtin.SmallTypes.ownedTupleHandOut (.ref z) (.ref he.objs.size) >>= _) _ _ _
  refine wpAny_bind ?_
  unfold Builtin.SmallTypes.ownedTupleHandOut
  have hzf : IsZipS (he.push { cls := .type "tuple", data := .seq #[x, y] }) z TI TO .ellipsis := Heap.get?_push_of_some _ hze
  refine wpAny_bind (wpAny_setField_rec hzf (by simp) fun hg hzg hsg => ?_)
  replace hzg : IsZipS hg z TI TO (rawInt he.objs.size) := hzg
  refine wpAny_setField_rec hzg (by simp) fun hh hzh hsh => ?_
  replace hzh : IsZipS hh z TI TO (rawInt he.objs.size) := hzh
  have up : ∀ c o, c ≠ z → he.get? c = some o → hh.get? c = some o := fun c o c1 e => hsh.extBut _ _ c1 (hsg.extBut _ _ c1 (Heap.get?_push_of_some _ e))
  have hT8 : IsPair hh he.objs.size x y := hsh.extBut _ _ (Nat.ne_of_gt hzlt) (hsg.extBut _ _ (Nat.ne_of_gt hzlt) (Heap.get?_push_size _ rfl))
  have hz8 : hh.objs.size = he.objs.size + 1 := by rw [hsh.1, hsg.1, Heap.size_push]
  rw [hsz] at hzh hT8 hz8
  refine wpAny_pure ⟨_, rfl, ?_⟩
  show Q (.ref he.objs.size) _
  rw [hsz]
  exact hQ hh hzh (up _ _ D.TOz hTOe) (h1e.at fun o e => up _ o D.i1z e) (h2e.at fun o e => up _ o D.i2z e) hT8 hz8 fun c o c1 c2 c3 c4 e => up c o c1 (hke c o c1 c2 c3 c4 e)
theorem zipS_end {z TI TO i1 i2 l1 l2 : Addr} {k1 k2 : Nat} {xs ys : Array Value} {a b : Value} {Q : PySem.Fin → Shared → Prop} (hh : A.handled = none) (D : ZipApart z TI TO i1 i2 l1 l2)
    (hz : IsZipS s.heap z TI TO .none) (hTI : IsPair s.heap TI (.ref i1) (.ref i2)) (hTO : IsPair s.heap TO a b)
    (h1 : s.heap.IsListIter i1 l1 k1) (h2 : s.heap.IsListIter i2 l2 k2) (hl1 : s.heap.IsList l1 xs) (hl2 : s.heap.IsList l2 ys) (hx : xs[k1]? = none) (hy : ys[k2]? = none)
    (hE : ∀ h' e, (∀ c o, c ≠ z → c ≠ TO → c ≠ i1 → c ≠ i2 → s.heap.get? c = some o → h'.get? c = some o) → (∃ o, h'.get? e = some o ∧ o.cls = .type "StopIteration") → E (.ref e) { s with heap := h' }) :
    wpAny (model prog w) A (Builtin.«zip.__next__» ⟨[.ref z], []⟩) Q E s := by
  show wpAny _ _ (field (.ref z) 2 >>= _) _ _ _
  refine wpAny_bind (wpAny_field hz rfl (x := .bool true) rfl ?_)
  show wpAny _ _ (field (.ref z) 3 >>= _) _ _ _
  refine wpAny_bind (wpAny_field hz rfl (x := .ref TI) rfl ?_)
  refine wpAny_bind (wpAny_seqItems hTI rfl ?_)
  show wpAny _ _ (Builtin.SmallTypes.ownedTupleIsFree (.ref z) >>= _) _ _ _
  refine wpAny_bind ?_
  unfold Builtin.SmallTypes.ownedTupleIsFree
  refine wpAny_bind (wpAny_field hz rfl (x := .none) rfl (wpAny_pure ?_))
  simp only [if_true]
  refine wpAny_bind (wpAny_rule ?_)
  refine wpAny_bind (wpAny_field hz rfl (x := .ref TO) rfl ?_)
  refine wpAny_bind (wpAny_setField_rec hz (by simp) fun ha hza hsa => ?_)
  replace hza : IsZipS ha z TI TO .ellipsis := hza
  refine wpAny_bind ?_
  simp only [List.zipIdx_cons, List.zipIdx_nil, List.forIn_cons, List.forIn_nil]
  refine wpAny_bind (wpAny_bind (wpAny_onRaise ?_))
  show wpAny _ _ (Builtin.SmallTypes.nextOrEnd (.ref i1)) _ _ _
  refine orEnd_end hh (h1.extBut hsa.extBut D.i1z) (hl1.extBut hsa.extBut D.l1z) hx fun hb hsb => ?_
  have hzb : IsZipS hb z TI TO .ellipsis := hsb _ _ D.i1z.symm hza
  refine wpAny_bind (wpAny_setField_rec hzb (by simp) fun hc hzc hsc => ?_)
  refine wpAny_bind ?_
  show wpAny _ _ (forIn ([Value.ref i2].zipIdx 1) PUnit.unit _ >>= _) _ _ _
  refine wpAny_bind ?_
  simp only [List.zipIdx_cons, List.zipIdx_nil, List.forIn_cons, List.forIn_nil]
  refine wpAny_bind (wpAny_bind ?_)
  have e2 : hc.IsListIter i2 l2 k2 := ((h2.extBut hsa.extBut D.i2z).extBut hsb D.i12.symm).extBut hsc.extBut D.i2z
  have e3 : hc.IsList l2 ys := ((hl2.extBut hsa.extBut D.l2z).extBut hsb D.l2i1).extBut hsc.extBut D.l2z
  refine orEnd_end hh e2 e3 hy fun hd hsd => ?_
  simp only [Option.isSome_none, Bool.false_eq_true, if_false]
  refine wpAny_pure (wpAny_pure ?_)
  refine wpAny_bind (wpAny_rule ?_)
  show wpAny _ _ (newExc (.type "StopIteration") [] >>= _) _ _ _
  refine wpAny_bind ?_
  simp only [newExc, newTuple]
  refine wpAny_bind (wpAny_newObj_type ?_ (by size_fits))
  refine wpAny_bind (m := firstArgMember _ _) (wpAny_of_eq (a := Value.none) (by first | rfl | (simp only [firstArgMember]; rfl)) ?_)
  refine wpAny_newObj_type ?_ (by size_fits)
  simp only [raiseNew]
  refine wpAny_bind (wpAny_handled ?_)
  rw [hh]
  refine wpAny_bind (wpAny_pure (wpAny_throw ?_))
  refine hE _ _ (fun c o c1 c2 c3 c4 e => ?_) ⟨_, Heap.get?_push_size _ rfl, rfl⟩
  exact Heap.get?_push_of_some _ (Heap.get?_push_of_some _ (hsd _ _ c4 (hsc.extBut _ _ c1 (hsb _ _ c3 (hsa.extBut _ _ c1 e)))))
theorem nextS_item {z TI TO i1 i2 l1 l2 : Addr} {k1 k2 : Nat} {xs ys : Array Value} {x y a b : Value} {Q : Option Value → Shared → Prop} (D : ZipApart z TI TO i1 i2 l1 l2)
    (hz : IsZipS s.heap z TI TO .none) (hTI : IsPair s.heap TI (.ref i1) (.ref i2)) (hTO : IsPair s.heap TO a b)
    (h1 : s.heap.IsListIter i1 l1 k1) (h2 : s.heap.IsListIter i2 l2 k2) (hl1 : s.heap.IsList l1 xs) (hl2 : s.heap.IsList l2 ys) (hx : xs[k1]? = some x) (hy : ys[k2]? = some y)
    (hQ : ∀ h', IsZipS h' z TI TO (rawInt s.heap.objs.size) → IsPair h' TO x y → h'.IsListIter i1 l1 (k1 + 1) → h'.IsListIter i2 l2 (k2 + 1) → IsPair h' s.heap.objs.size x y → h'.objs.size = s.heap.objs.size + 1 →
      (∀ c o, c ≠ z → c ≠ TO → c ≠ i1 → c ≠ i2 → s.heap.get? c = some o → h'.get? c = some o) → Q (some (.ref s.heap.objs.size)) { s with heap := h' }) :
    wpAny (model prog w) A (pyNext (.ref z)) Q E s := by
  have hT : s.TypeIs (.ref z) "zip" := ⟨_, hz, rfl⟩
  unfold pyNext
  exact wpAny_bind (wpAny_attempt (wpAny_callSpecial?_slot (name := Str.ofString "__next__") hT F.slot_zip_next
    (wpAny_call_entry F.slot_zip_next hT F.entry_zip_next
      (zipS_item D hz hTI hTO h1 h2 hl1 hl2 hx hy fun h' a1 a2 a3 a4 a5 a6 a7 => wpAny_pure (hQ h' a1 a2 a3 a4 a5 a6 a7)) (F.args_zip_next_1 _))))
theorem nextS_end {z TI TO i1 i2 l1 l2 : Addr} {k1 k2 : Nat} {xs ys : Array Value} {a b : Value} {Q : Option Value → Shared → Prop} (hh : A.handled = none) (D : ZipApart z TI TO i1 i2 l1 l2)
    (hz : IsZipS s.heap z TI TO .none) (hTI : IsPair s.heap TI (.ref i1) (.ref i2)) (hTO : IsPair s.heap TO a b)
    (h1 : s.heap.IsListIter i1 l1 k1) (h2 : s.heap.IsListIter i2 l2 k2) (hl1 : s.heap.IsList l1 xs) (hl2 : s.heap.IsList l2 ys) (hx : xs[k1]? = none) (hy : ys[k2]? = none)
    (hQ : ∀ h', (∀ c o, c ≠ z → c ≠ TO → c ≠ i1 → c ≠ i2 → s.heap.get? c = some o → h'.get? c = some o) → Q none { s with heap := h' }) : wpAny (model prog w) A (pyNext (.ref z)) Q E s := by
  have hT : s.TypeIs (.ref z) "zip" := ⟨_, hz, rfl⟩
  unfold pyNext
  refine wpAny_bind (wpAny_attempt (wpAny_callSpecial?_slot (name := Str.ofString "__next__") hT F.slot_zip_next
    (wpAny_call_entry F.slot_zip_next hT F.entry_zip_next (zipS_end hh D hz hTI hTO h1 h2 hl1 hl2 hx hy fun h' e hk he => ?_) (F.args_zip_next_1 _))))
  obtain ⟨o, ho, hc⟩ := he
  refine wpAny_bind (wpAny_isInstance (T := "StopIteration") (b := true) ⟨o, ho, hc⟩ isSubtype_stop ?_)
  exact wpAny_pure (hQ _ hk)
theorem goS_zip {elts : List Expr} {x1} {pos : Pos} {z TI TO T : Addr} {Q : Unit → Shared → Prop} (hz : IsZipS s.heap z TI TO (rawInt T))
    (hQ : ∀ h', IsZipS h' z TI TO .none → Heap.SameBut z s.heap h' → Q () { s with heap := h' }) :
    wpAny (model prog w) A (letOwnedTupleGo (.Tuple elts x1 pos) (.ref z) (.ref T)) Q E s := by
  unfold letOwnedTupleGo
  refine wpAny_bind (wpAny_load hz ?_)
  refine wpAny_ite ?_
  rw [if_pos (by simp)]
  refine wpAny_bind (wpAny_rule ?_)
  exact wpAny_setField_rec hz (by simp) fun h' hz' hs' => hQ h' hz' hs'
theorem iterS_zip {z TI TO : Addr} {f0 : Value} {Q : Value → Shared → Prop} (hz : IsZipS s.heap z TI TO f0) (h : Q (.ref z) s) : wpAny (model prog w) A (pyIter (.ref z)) Q E s := by
  have hT : s.TypeIs (.ref z) "zip" := ⟨_, hz, rfl⟩
  refine wpAny_pyIter_slot hT F.slot_zip_iter (wpAny_call_entry F.slot_zip_iter hT F.entry_zip_iter ?_ (F.args_zip_iter_1 _))
  show wpAny _ _ (ret (.ref z)) _ _ s
  exact wpAny_pure ⟨_, rfl, "zip", _, hT, F.slot_zip_next.lookup, h⟩
end
abbrev zipS5 (h : Heap) (l1 l2 : Addr) : Heap := (zipH4 h l1 l2).push { cls := .type "zip", data := .fields #[.none, .bool false, .bool true, .ref (zipH2 h l1 l2).objs.size, .ref (zipH3 h l1 l2).objs.size] }
theorem meets_zipS (l1 l2 : Addr) (xs ys : Array Value) :
    Meets (Builtin.«zip.__new__» ⟨[.type "zip", .ref l1, .ref l2], [(Str.ofString "strict", .bool true)]⟩) (fun _ R s => s.heap.IsList l1 xs ∧ s.heap.IsList l2 ys ∧
      R (.ok (.ret (.ref (zipH4 s.heap l1 l2).objs.size))) { s with heap := zipS5 s.heap l1 l2 }) :=
  .of_wp fun prog w A R s h => by
    obtain ⟨hp, g, d, tk, os⟩ := s
    obtain ⟨hl1, hl2, h⟩ := h
    have hsub := sub_zip
    have hL1 : Heap.IsList (Shared.heap ⟨hp, g, d, tk, os⟩) l1 xs := hl1
    have hL2 : Heap.IsList (Shared.heap ⟨hp.push { cls := .type "list_iterator", data := .fields #[.ref l1, .int 0 0] }, g, d, tk, os⟩) l2 ys := Heap.IsList.push hl2 _
    wp_walk using wpAny_pyIter_list hL1, wpAny_pyIter_list hL2
    exact ⟨_, rfl, h⟩
end VG

set_option Elab.async false
set_option linter.all false
set_option maxRecDepth 100000
set_option maxHeartbeats 4000000
namespace VG
open PySem PySem.Spec PyProof.Rows L2
section
variable {M : Model} {A : Around} {E : Value → Shared → Prop} {s : Shared} {env : Env}
theorem callWith_tyK {pos : Pos} {T : String} {e : Expr} {rest : List Expr} {kws : List Keyword} {Q : Value → Shared → Prop} (hall : (backToKw pos (keywordEach kws env)).all (·.1.isSome) = true)
    (h : wpAny M A (spliced (backTo pos (starEach (e :: rest) env))) (fun vs s1 => wpAny M A (evalAll ((backToKw pos (keywordEach kws env)).map (·.2)))
      (fun ks s2 => wpAny M A (call (.type T) vs (((backToKw pos (keywordEach kws env)).filterMap (·.1)).zip ks)) Q E s2) E s1) E s)
    (hp : (backTo pos (starEach (e :: rest) env)).any (·.1) = false) (hk : (backToKw pos (keywordEach kws env)).any (·.1.isNone) = false) (he : starEach (e :: rest) env = (false, eval e env) :: starEach rest env) :
    wpAny M A (callWith pos (.type T) [] (backTo pos (starEach (e :: rest) env)) (backToKw pos (keywordEach kws env))) Q E s := by
  have g := evalArgs_kw2 (f := .type T) (Q := fun a s2 => wpAny M A (call (.type T) ([] ++ a.pos) a.kw) Q E s2) hall h he
  unfold callWith
  refine wpAny_bind (wpAny_holding (wpAny_mono g (fun a s1 h1 => wpAny_bind (wpAny_standAt ?_)) fun _ _ x => x))
  simp only [hp, hk, Bool.or_false]
  refine wpAny_bind (wpAny_pure ?_)
  exact wpAny_bind (wpAny_mono h1 (fun r s2 hr => wpAny_bind (wpAny_holding (wpAny_point (wpAny_pure hr)))) fun _ _ x => x)
end
section
variable {prog : Program} {w : World} {A : Around} {E : Value → Shared → Prop} {s : Shared}
theorem typeCall_zipS (a b v : Value) : checkTypeCall "zip" ⟨[a, b], [(Str.ofString "strict", v)]⟩ = pure () := by kernel_rfl
theorem newCall_zipS (a b v : Value) : checkBuiltinCall "zip.__new__" ⟨[.type "zip", a, b], [(Str.ofString "strict", v)]⟩ = pure () := by kernel_rfl
theorem initArgs_zipS (o a b v : Value) : argsOk "object.__init__" ⟨[o, a, b], [(Str.ofString "strict", v)]⟩ := by
  unfold argsOk
  rw [signature?_of (id := "object.__init__") (n := ['_', '_', 't', 'i', 'n', 'i', '_', '_']) (o := ['t', 'c', 'e', 'j', 'b', 'o']) (by kernel_rfl) PySem.F.owner_object]
  kernel_rfl
theorem call_zipS {l1 l2 : Addr} {xs ys : Array Value} {Q : Value → Shared → Prop} (hl1 : s.heap.IsList l1 xs) (hl2 : s.heap.IsList l2 ys)
    (h : ∀ h', IsZipS h' (s.heap.objs.size + 4) (s.heap.objs.size + 2) (s.heap.objs.size + 3) .none → IsPair h' (s.heap.objs.size + 2) (.ref s.heap.objs.size) (.ref (s.heap.objs.size + 1)) →
      IsPair h' (s.heap.objs.size + 3) .none .none → h'.IsListIter s.heap.objs.size l1 0 → h'.IsListIter (s.heap.objs.size + 1) l2 0 →
      (∀ c o, s.heap.get? c = some o → h'.get? c = some o) → Q (.ref (s.heap.objs.size + 4)) { s with heap := h' }) :
    wpAny (model prog w) A (call (.type "zip") [.ref l1, .ref l2] [(Str.ofString "strict", .bool true)]) Q E s := by
  refine callType_newKw F.called_zip (by decide) (typeCall_zipS _ _ _) (newCall_zipS _ _ _) (fun obj => initArgs_zipS obj _ _ _) F.entry_zip_new
    (meets_zipS l1 l2 xs ys) ⟨hl1, hl2, ?_⟩
  have z1 : (zipH1 s.heap l1).objs.size = s.heap.objs.size + 1 := Heap.size_push ..
  have z2 : (zipH2 s.heap l1 l2).objs.size = s.heap.objs.size + 2 := by rw [Heap.size_push, z1]
  have z3 : (zipH3 s.heap l1 l2).objs.size = s.heap.objs.size + 3 := by rw [Heap.size_push, z2]
  have z4 : (zipH4 s.heap l1 l2).objs.size = s.heap.objs.size + 4 := by rw [Heap.size_push, z3]
  have g5 : (zipS5 s.heap l1 l2).get? (zipH4 s.heap l1 l2).objs.size = some _ := Heap.get?_push_size _ rfl
  have g4 : (zipS5 s.heap l1 l2).get? (zipH3 s.heap l1 l2).objs.size = some _ := Heap.get?_push_of_some _ (Heap.get?_push_size _ rfl)
  have g3 : (zipS5 s.heap l1 l2).get? (zipH2 s.heap l1 l2).objs.size = some _ := Heap.get?_push_of_some _ (Heap.get?_push_of_some _ (Heap.get?_push_size _ rfl))
  have g2 : (zipS5 s.heap l1 l2).get? (zipH1 s.heap l1).objs.size = some _ := Heap.get?_push_of_some _ (Heap.get?_push_of_some _ (Heap.get?_push_of_some _ (Heap.get?_push_size _ rfl)))
  have g1 : (zipS5 s.heap l1 l2).get? s.heap.objs.size = some _ := Heap.get?_push_of_some _ (Heap.get?_push_of_some _ (Heap.get?_push_of_some _ (Heap.get?_push_of_some _ (Heap.get?_push_size _ rfl))))
  show _ ∧ _
  rw [z2, z3, z4] at g5
  rw [z1, z2] at g3
  rw [z3] at g4
  rw [z1] at g2
  rw [z4]
  exact ⟨⟨_, g5, rfl⟩, h _ g5 g3 g4 ⟨_, g1, rfl, rfl⟩ ⟨_, g2, rfl, rfl⟩ fun c o x =>
    Heap.get?_push_of_some _ (Heap.get?_push_of_some _ (Heap.get?_push_of_some _ (Heap.get?_push_of_some _ (Heap.get?_push_of_some _ x))))⟩
end
/-- two lists of one length, as they stand; the items in new pairs -/
def ItzS (K : PySem.W.Frag) (a b : Addr) : It :=
  ⟨fun i H => ∃ (xs ys : List V), SqL K H a xs ∧ SqL K H b ys ∧ i < xs.length ∧ i < ys.length,
    fun i H v H' => ∃ T x y, v = .ref T ∧ H T = none ∧ H' = upd H T (.tup [x, y]) ∧ (∀ xs, SqL K H a xs → xs[i]? = some x) ∧ ∀ ys, SqL K H b ys → ys[i]? = some y,
    fun i H => ∃ xs ys : List V, SqL K H a xs ∧ SqL K H b ys ∧ xs.length ≤ i ∧ ys.length ≤ i⟩
theorem turn_zipS {P : Program} {w : World} {K : PySem.W.Frag} {elts : List Expr} {kk : Nat} {tpos : Pos} {a b z TI TO i1 i2 : Addr} (D : ZipApart z TI TO i1 i2 a b) :
    Turn P w K (.Tuple elts kk tpos) (ItzS K a b) [z, TI, TO, i1, i2] z (fun i h => IsZipS h z TI TO .none ∧ IsPair h TI (.ref i1) (.ref i2) ∧ (∃ x y, IsPair h TO x y) ∧ h.IsListIter i1 a i ∧ h.IsListIter i2 b i) where
  mem := by simp
  obj := fun i h st c hc => by
    obtain ⟨hz, hTI, ⟨x, y, hTO⟩, ⟨o1, e1, _, d1⟩, ⟨o2, e2, _, d2⟩⟩ := st
    have e' : c = z ∨ c = TI ∨ c = TO ∨ c = i1 ∨ c = i2 := by simpa using hc
    rcases e' with q | q | q | q | q
    · subst q
      exact ⟨_, hz, fun v q => nomatch q⟩
    · subst q
      exact ⟨_, hTI, fun v q => nomatch q⟩
    · subst q
      exact ⟨_, hTO, fun v q => nomatch q⟩
    · subst q
      exact ⟨o1, e1, fun v q => by rw [d1] at q; cases q⟩
    · subst q
      exact ⟨o2, e2, fun v q => by rw [d2] at q; cases q⟩
  keep := fun i h h' st k => by
    obtain ⟨hz, hTI, ⟨x, y, hTO⟩, h1, h2⟩ := st
    exact ⟨k z (by simp) _ hz, k TI (by simp) _ hTI, ⟨x, y, k TO (by simp) _ hTO⟩, h1.at fun o q => k i1 (by simp) o q, h2.at fun o q => k i2 (by simp) o q⟩
  item := by
    intro X hP hw hK hc i pins s σ H E I hf st hg
    subst hP hw hK
    obtain ⟨hz, hTI, ⟨x0, y0, hTO⟩, h1, h2⟩ := st
    obtain ⟨xs, ys, hqx, hqy, hx, hy⟩ := hg
    obtain ⟨its, rv, p, _⟩ := I.list hqx
    obtain ⟨its2, rv2, p2, _⟩ := I.list hqy
    obtain ⟨u, hu, ru⟩ := rv.get (List.getElem?_eq_getElem hx)
    obtain ⟨u2, hu2, ru2⟩ := rv2.get (List.getElem?_eq_getElem hy)
    have hzl : z < s.heap.objs.size := Heap.lt_size hz
    refine nextS_item D hz hTI hTO h1 h2 p.isList p2.isList (x := u) (y := u2) (by simpa using hu) (by simpa using hu2) fun h' z' TO' h1' h2' hT hsz hk => ?_
    refine ⟨_, rfl, goS_zip (s := { s with heap := h' }) z' fun h'' z'' sb => ?_⟩
    have hT2 : h''.get? s.heap.objs.size = some { cls := .type "tuple", data := .seq #[u, u2] } := (sb.2 _ (Nat.ne_of_gt hzl)).trans hT
    have new : ObjOk X.prog X.w (upd H s.heap.objs.size (.tup [xs[i], ys[i]])) h'' s.heap.objs.size (.tup [xs[i], ys[i]]) :=
      ⟨by show 2 ≤ sizeLine; decide, [u, u2], .cons ru (.cons ru2 .nil), ⟨_, hT2, rfl, _, rfl⟩⟩
    have I1 : Inv X pins σ (upd H s.heap.objs.size (.tup [xs[i], ys[i]])) { s with heap := h'' } :=
      I.turnedNew (t' := s.toks) (ch := [z, TI, TO, i1, i2]) (fun c o hb q => (sb.2 c (fun q' => hb (by simp [q']))).trans (hk c o (fun q' => hb (by simp [q'])) (fun q' => hb (by simp [q'])) (fun q' => hb (by simp [q'])) (fun q' => hb (by simp [q'])) q)) hf (Nat.le_refl _) new
    refine ⟨.ref s.heap.objs.size, _, I1, rfl, ⟨_, xs[i], ys[i], rfl, I.hok.fresh (Nat.le_refl _), rfl, fun l hl => by rw [I.list_inj hl hqx]; exact List.getElem?_eq_getElem hx, fun l hl => by rw [I.list_inj hl hqy]; exact List.getElem?_eq_getElem hy⟩, ⟨z'', ?_, ⟨u, u2, ?_⟩, ?_, ?_⟩, fun c hcm => ?_⟩
    · exact (sb.2 _ D.TIz).trans (hk _ _ D.TIz D.TITO D.TIi1 D.TIi2 hTI)
    · exact (sb.2 _ D.TOz).trans TO'
    · exact h1'.at fun o q => (sb.2 _ D.i1z).trans q
    · exact h2'.at fun o q => (sb.2 _ D.i2z).trans q
    · have hlt : c < s.heap.objs.size := by
        have e' : c = z ∨ c = TI ∨ c = TO ∨ c = i1 ∨ c = i2 := by simpa using hcm
        rcases e' with q | q | q | q | q
        · rw [q]
          exact hzl
        · rw [q]
          exact Heap.lt_size hTI
        · rw [q]
          exact Heap.lt_size hTO
        · obtain ⟨_, e1, _⟩ := h1
          rw [q]
          exact Heap.lt_size e1
        · obtain ⟨_, e2, _⟩ := h2
          rw [q]
          exact Heap.lt_size e2
      rw [upd_ne (Nat.ne_of_lt hlt)]
      exact (hf c hcm).1
  done := by
    intro X hP hw hK hc i pins s σ H E I hf st hg
    subst hP hw hK
    obtain ⟨hz, hTI, ⟨x0, y0, hTO⟩, h1, h2⟩ := st
    obtain ⟨xs, ys, hqx, hqy, ha, hb⟩ := hg
    obtain ⟨its, rv, p, _⟩ := I.list hqx
    obtain ⟨its2, rv2, p2, _⟩ := I.list hqy
    have l1 := rv.length
    have l2 := rv2.length
    exact nextS_end (I.ok.hd hc) D hz hTI hTO h1 h2 p.isList p2.isList (by simp; omega) (by simp; omega) fun h' hk => ⟨rfl, I.turnedL (t' := s.toks) (ch := [z, TI, TO, i1, i2]) (fun c o hb q =>
      hk c o (fun q' => hb (by simp [q'])) (fun q' => hb (by simp [q'])) (fun q' => hb (by simp [q'])) (fun q' => hb (by simp [q'])) q) hf⟩
  self := fun A i s Q E st h => iterS_zip st.1 h
def iZipS (K : PySem.W.Frag) (ta : TA) : TI := fun σ H R => ta σ H fun vs H1 => ∃ a b xs ys, vs = [.ref a, .ref b] ∧ SqL K H1 a xs ∧ SqL K H1 b ys ∧ R (ItzS K a b) H1
theorem pi_zipS {X : Cx} {e e2 : Expr} {ta : TA} {p pos tpos kpos cp : Pos} {j : Nat} {elts : List Expr} {kk : Nat} (hg : Gl X "zip") (hm : X.mg "zip" = none) (ha : PA X [e, e2] ta)
    (hs : starEach [e, e2] X.env = (false, eval e X.env) :: starEach [e2] X.env := by rfl) (hp : (backTo pos (starEach [e, e2] X.env)).any (·.1) = false := by rfl)
    (hall : (backToKw pos (keywordEach [⟨some (Str.ofString "strict"), .Constant (.bool true) j cp, kpos⟩] X.env)).all (·.1.isSome) = true := by rfl) (hk : (backToKw pos (keywordEach [⟨some (Str.ofString "strict"), .Constant (.bool true) j cp, kpos⟩] X.env)).any (·.1.isNone) = false := by rfl)
    (hks : (backToKw pos (keywordEach [⟨some (Str.ofString "strict"), .Constant (.bool true) j cp, kpos⟩] X.env)).filterMap (·.1) = [Str.ofString "strict"] := by rfl) :
    PI X (.Tuple elts kk tpos) (.Call (.Name "zip" p) [e, e2] [⟨some (Str.ofString "strict"), .Constant (.bool true) j cp, kpos⟩] pos) (iZipS X.K ta) := by
  have pk : PK X [⟨some (Str.ofString "strict"), .Constant (.bool true) j cp, kpos⟩] (tCons (tC (.bl true)) tNil) := pk_cons pe_bl pk_nil
  refine ⟨fun pins s σ H R I h => ?_⟩
  refine wpAny_Call_Name_kw (ld_blt I hg hm PyProof.Rows.boot_zip ?_)
  refine callWith_tyK hall (thn (ha.run pos pins s σ H _ I h) fun us s1 ⟨vs, H1, I1, r1, q1⟩ => ?_) hp hk hs
  refine thn (pk.run pos pins s1 σ H1 (fun zs H2 => H2 = H1 ∧ zs = [.bl true]) I1 ⟨rfl, rfl⟩) fun ws s2 ⟨zs, H2, I2, rz, eH, ez⟩ => ?_
  subst eH ez
  rw [hks]
  obtain ⟨a, b, xs, ys, ex, hqx, hqy, q⟩ := q1
  subst ex
  obtain ⟨wz, rfl, ew⟩ := vals1 rz
  obtain rfl : wz = Value.bool true := ew
  cases r1 with
  | cons r rr =>
    cases rr with
    | cons r' rr =>
      cases rr
      cases r
      cases r'
      obtain ⟨its, rv, p1, _⟩ := I2.list hqx
      obtain ⟨its2, rv2, p2, _⟩ := I2.list hqy
      refine call_zipS p1.isList p2.isList fun h' hz hTI hTO h1 h2 hk2 => iterS_zip hz ?_
      have I3 : Inv X pins σ H2 { s2 with heap := h' } := I2.kept (t' := s2.toks) hk2
      refine ⟨s2.heap.objs.size + 4, [s2.heap.objs.size + 4, s2.heap.objs.size + 2, s2.heap.objs.size + 3, s2.heap.objs.size, s2.heap.objs.size + 1], _, _, H2, rfl, I3, turn_zipS (PySem.W.ktu_apart s2.heap.objs.size a b p1.lt p2.lt), ⟨hz, hTI, ⟨_, _, hTO⟩, h1, h2⟩, fun c hcm => ?_, q⟩
      have e' : c = s2.heap.objs.size + 4 ∨ c = s2.heap.objs.size + 2 ∨ c = s2.heap.objs.size + 3 ∨ c = s2.heap.objs.size ∨ c = s2.heap.objs.size + 1 := by simpa using hcm
      have hle : s2.heap.objs.size ≤ c := by
        rcases e' with z | z | z | z | z
        · rw [z]
          exact Nat.le_add_right _ _
        · rw [z]
          exact Nat.le_add_right _ _
        · rw [z]
          exact Nat.le_add_right _ _
        · rw [z]
          exact Nat.le_refl _
        · rw [z]
          exact Nat.le_add_right _ _
      exact I2.fpOk hle (I2.hok.fresh hle)
/-! ### what is walked, as Walks -/
section
variable {K : PySem.W.Frag} {a b : Addr} {xs ys : List V}
theorem walk_enumT : Walk (IteT K a xs) xs.length (fun H => SqT K H a xs) (YPair (fun i => some (.int (i : Nat))) (fun i => xs[i]?)) := by
  refine ⟨fun i _ hi q => ⟨q, hi⟩, fun _ q => ⟨q, Nat.le_refl _⟩, fun i H v H' _ q y => ?_⟩
  obtain ⟨T, x, h1, h2, h3, h4⟩ := y
  exact ⟨T, .int (i : Nat), x, h1, h2, h3, rfl, h4⟩
theorem walk_zipS {n : Nat} (hx : n = xs.length) (hy : n = ys.length) : Walk (ItzS K a b) n (fun H => SqL K H a xs ∧ SqL K H b ys) (YPair (fun i => xs[i]?) (fun i => ys[i]?)) := by
  refine ⟨fun i _ hi q => ⟨xs, ys, q.1, q.2, by omega, by omega⟩, fun _ q => ⟨xs, ys, q.1, q.2, by omega, by omega⟩, fun i H v H' _ q y => ?_⟩
  obtain ⟨T, x, z, h1, h2, h3, h4, h5⟩ := y
  exact ⟨T, x, z, h1, h2, h3, h4 xs q.1, h5 ys q.2⟩
theorem walk_zipT {n : Nat} (hn : n = min xs.length ys.length) : Walk (RZ.ItzT K a b) n (fun H => SqT K H a xs ∧ SqT K H b ys) (YPair (fun i => xs[i]?) (fun i => ys[i]?)) := by
  subst hn
  refine ⟨fun i _ hi q => ?_, fun _ q => ⟨xs, ys, q.1, q.2, by omega⟩, fun i H v H' _ q y => ?_⟩
  · have h1 : i < xs.length := by omega
    have h2 : i < ys.length := by omega
    exact ⟨xs, ys, xs[i], ys[i], q.1, q.2, by simp [h1], by simp [h2]⟩
  · obtain ⟨T, x, z, h1, h2, h3, h4, h5⟩ := y
    exact ⟨T, x, z, h1, h2, h3, h4 xs q.1, h5 ys q.2⟩
end
end VG

set_option Elab.async false
set_option linter.all false
set_option maxRecDepth 100000
set_option maxHeartbeats 4000000
namespace VG
open PySem PySem.Spec PyProof.Rows L2
/-! ### the text by places -/
def top (i : Nat) : Stmt := PySem.Challenge.pw_viewgrid_k45_whole_as_a_copy_ahead.main.body.getD i (.Pass ⟨0, 0, 0, 0⟩)
abbrev s_is_whole : Stmt := top 14
abbrev s_size_of : Stmt := top 15
abbrev s_vet_size : Stmt := top 16
abbrev s_vet_sides : Stmt := top 17
abbrev s_places_of : Stmt := top 18
abbrev s_whole_place : Stmt := top 19
abbrev s_dense_strides : Stmt := top 20
abbrev s_Page_init : Stmt := inClass (top 23) 0
abbrev s_Room_init : Stmt := inClass (top 24) 0
abbrev s_Room_len : Stmt := inClass (top 24) 1
abbrev s_Room_need : Stmt := inClass (top 24) 2
abbrev s_Room_read : Stmt := inClass (top 24) 3
abbrev s_Room_own_page : Stmt := inClass (top 24) 4
abbrev s_Room_write : Stmt := inClass (top 24) 5
abbrev s_Room_numbers : Stmt := inClass (top 24) 6
abbrev s_Room_twin : Stmt := inClass (top 24) 7
abbrev s_Room_is_shut : Stmt := inClass (top 24) 10
abbrev s_vet_strides : Stmt := top 27
abbrev s_cells_by : Stmt := top 28
abbrev s_vet_cells : Stmt := top 29
abbrev s_View_init : Stmt := inClass (top 30) 0
abbrev s_View_tell : Stmt := inClass (top 30) 1
abbrev s_View_room : Stmt := inClass (top 30) 2
abbrev s_View_sides : Stmt := inClass (top 30) 3
abbrev s_View_first : Stmt := inClass (top 30) 4
abbrev s_View_strides : Stmt := inClass (top 30) 5
abbrev s_View_cells : Stmt := inClass (top 30) 6
abbrev s_View_cell : Stmt := inClass (top 30) 7
abbrev s_View_at : Stmt := inClass (top 30) 8
abbrev s_View_put : Stmt := inClass (top 30) 9
abbrev s_View_numbers : Stmt := inClass (top 30) 10
abbrev s_View_twin : Stmt := inClass (top 30) 16
abbrev s_plain_view : Stmt := top 31
abbrev s_wide_stride : Stmt := top 33
abbrev s_widened : Stmt := top 34
abbrev s_twice_in : Stmt := top 36
abbrev s_need_unlike : Stmt := top 38
abbrev s_need_open : Stmt := top 39
abbrev s_written : Stmt := top 40
abbrev s_filled : Stmt := top 41
abbrev s_readers : Stmt := top 42
abbrev s_moved_first : Stmt := top 43
abbrev s_rings_left : Stmt := top 44
abbrev s_way_of : Stmt := top 45
abbrev s_l_purse : Stmt := top 47
abbrev s_l_take : Stmt := top 48
abbrev s_l_places : Stmt := top 49
abbrev s_l_cells : Stmt := top 50
abbrev s_l_lengths : Stmt := top 51
abbrev s_l_number : Stmt := top 52
abbrev s_l_steps : Stmt := top 53
abbrev s_l_reach : Stmt := top 54
abbrev s_l_room : Stmt := top 55
abbrev s_l_unlike_steps : Stmt := top 57
abbrev s_l_source : Stmt := top 58
abbrev s_l_over : Stmt := top 59
abbrev s_l_wide : Stmt := top 60
abbrev s_l_unfit : Stmt := top 61
abbrev s_l_more : Stmt := top 62
abbrev s_l_walk : Stmt := top 63
abbrev s_l_deed : Stmt := top 64
abbrev s_law : Stmt := top 65
theorem sc_is_whole : FnScope ["thing"] ["thing"] (defScope s_is_whole) := ⟨rfl, rfl, rfl, by decide +kernel, rfl, by decide +kernel, by decide +kernel⟩
theorem sc_size_of : FnScope ["sides", "size", "length"] ["sides"] (defScope s_size_of) := ⟨rfl, rfl, rfl, by decide +kernel, rfl, by decide +kernel, by decide +kernel⟩
theorem sc_vet_size : FnScope ["lengths", "size"] ["lengths"] (defScope s_vet_size) := ⟨rfl, rfl, rfl, by decide +kernel, rfl, by decide +kernel, by decide +kernel⟩
theorem sc_vet_sides : FnScope ["thing", "spot", "length"] ["thing"] (defScope s_vet_sides) := ⟨rfl, rfl, rfl, by decide +kernel, rfl, by decide +kernel, by decide +kernel⟩
theorem sc_places_of : FnScope ["sides", "found", "length", "place", "k"] ["sides"] (defScope s_places_of) := ⟨rfl, rfl, rfl, by decide +kernel, rfl, by decide +kernel, by decide +kernel⟩
theorem sc_whole_place : FnScope ["lengths", "place", "k", "length"] ["lengths", "place"] (defScope s_whole_place) := ⟨rfl, rfl, rfl, by decide +kernel, rfl, by decide +kernel, by decide +kernel⟩
theorem sc_dense_strides : FnScope ["lengths", "found", "step", "length"] ["lengths"] (defScope s_dense_strides) := ⟨rfl, rfl, rfl, by decide +kernel, rfl, by decide +kernel, by decide +kernel⟩
theorem sc_Page_init : FnScope ["self", "kept"] ["self", "kept"] (defScope s_Page_init) := ⟨rfl, rfl, rfl, by decide +kernel, rfl, by decide +kernel, by decide +kernel⟩
theorem sc_Room_init : FnScope ["self", "numbers", "page", "at"] ["self", "numbers", "page"] (defScope s_Room_init) := ⟨rfl, rfl, rfl, by decide +kernel, rfl, by decide +kernel, by decide +kernel⟩
theorem sc_Room_len : FnScope ["self"] ["self"] (defScope s_Room_len) := ⟨rfl, rfl, rfl, by decide +kernel, rfl, by decide +kernel, by decide +kernel⟩
theorem sc_Room_need : FnScope ["self", "cell"] ["self", "cell"] (defScope s_Room_need) := ⟨rfl, rfl, rfl, by decide +kernel, rfl, by decide +kernel, by decide +kernel⟩
theorem sc_Room_read : FnScope ["self", "cell"] ["self", "cell"] (defScope s_Room_read) := ⟨rfl, rfl, rfl, by decide +kernel, rfl, by decide +kernel, by decide +kernel⟩
theorem sc_Room_own_page : FnScope ["self", "at", "page"] ["self", "at"] (defScope s_Room_own_page) := ⟨rfl, rfl, rfl, by decide +kernel, rfl, by decide +kernel, by decide +kernel⟩
theorem sc_Room_write : FnScope ["self", "cell", "number"] ["self", "cell", "number"] (defScope s_Room_write) := ⟨rfl, rfl, rfl, by decide +kernel, rfl, by decide +kernel, by decide +kernel⟩
theorem sc_Room_numbers : FnScope ["self", "page", "number"] ["self"] (defScope s_Room_numbers) := ⟨rfl, rfl, rfl, by decide +kernel, rfl, by decide +kernel, by decide +kernel⟩
theorem sc_Room_twin : FnScope ["self", "found", "page"] ["self"] (defScope s_Room_twin) := ⟨rfl, rfl, rfl, by decide +kernel, rfl, by decide +kernel, by decide +kernel⟩
theorem sc_Room_is_shut : FnScope ["self"] ["self"] (defScope s_Room_is_shut) := ⟨rfl, rfl, rfl, by decide +kernel, rfl, by decide +kernel, by decide +kernel⟩
theorem sc_vet_strides : FnScope ["thing", "many", "spot", "step"] ["thing", "many"] (defScope s_vet_strides) := ⟨rfl, rfl, rfl, by decide +kernel, rfl, by decide +kernel, by decide +kernel⟩
theorem sc_cells_by : FnScope ["lengths", "begin", "steps", "found", "length", "step", "cell", "k"] ["lengths", "begin", "steps"] (defScope s_cells_by) := ⟨rfl, rfl, rfl, by decide +kernel, rfl, by decide +kernel, by decide +kernel⟩
theorem sc_vet_cells : FnScope ["many", "lengths", "begin", "steps", "place", "cell"] ["many", "lengths", "begin", "steps"] (defScope s_vet_cells) := ⟨rfl, rfl, rfl, by decide +kernel, rfl, by decide +kernel, by decide +kernel⟩
theorem sc_View_init : FnScope ["self", "room", "sides", "first", "strides", "lengths", "steps"] ["self", "room", "sides", "first", "strides"] (defScope s_View_init) := ⟨rfl, rfl, rfl, by decide +kernel, rfl, by decide +kernel, by decide +kernel⟩
theorem sc_View_tell : FnScope ["self", "lengths", "begin", "steps", "length", "step"] ["self", "lengths", "begin", "steps"] (defScope s_View_tell) := ⟨rfl, rfl, rfl, by decide +kernel, rfl, by decide +kernel, by decide +kernel⟩
theorem sc_View_room : FnScope ["self"] ["self"] (defScope s_View_room) := ⟨rfl, rfl, rfl, by decide +kernel, rfl, by decide +kernel, by decide +kernel⟩
theorem sc_View_sides : FnScope ["self"] ["self"] (defScope s_View_sides) := ⟨rfl, rfl, rfl, by decide +kernel, rfl, by decide +kernel, by decide +kernel⟩
theorem sc_View_first : FnScope ["self"] ["self"] (defScope s_View_first) := ⟨rfl, rfl, rfl, by decide +kernel, rfl, by decide +kernel, by decide +kernel⟩
theorem sc_View_strides : FnScope ["self"] ["self"] (defScope s_View_strides) := ⟨rfl, rfl, rfl, by decide +kernel, rfl, by decide +kernel, by decide +kernel⟩
theorem sc_View_cells : FnScope ["self"] ["self"] (defScope s_View_cells) := ⟨rfl, rfl, rfl, by decide +kernel, rfl, by decide +kernel, by decide +kernel⟩
theorem sc_View_cell : FnScope ["self", "place", "whole", "k", "step"] ["self", "place"] (defScope s_View_cell) := ⟨rfl, rfl, rfl, by decide +kernel, rfl, by decide +kernel, by decide +kernel⟩
theorem sc_View_at : FnScope ["self", "place"] ["self", "place"] (defScope s_View_at) := ⟨rfl, rfl, rfl, by decide +kernel, rfl, by decide +kernel, by decide +kernel⟩
theorem sc_View_put : FnScope ["self", "place", "number"] ["self", "place", "number"] (defScope s_View_put) := ⟨rfl, rfl, rfl, by decide +kernel, rfl, by decide +kernel, by decide +kernel⟩
theorem sc_View_numbers : FnScope ["self", "cell"] ["self"] (defScope s_View_numbers) := ⟨rfl, rfl, rfl, by decide +kernel, rfl, by decide +kernel, by decide +kernel⟩
theorem sc_View_twin : FnScope ["self"] ["self"] (defScope s_View_twin) := ⟨rfl, rfl, rfl, by decide +kernel, rfl, by decide +kernel, by decide +kernel⟩
theorem sc_plain_view : FnScope ["room", "lengths", "begin", "steps", "found"] ["room", "lengths", "begin", "steps"] (defScope s_plain_view) := ⟨rfl, rfl, rfl, by decide +kernel, rfl, by decide +kernel, by decide +kernel⟩
theorem sc_wide_stride : FnScope ["own", "stride", "asked", "side"] ["own", "stride", "asked", "side"] (defScope s_wide_stride) := ⟨rfl, rfl, rfl, by decide +kernel, rfl, by decide +kernel, by decide +kernel⟩
theorem sc_widened : FnScope ["view", "sides", "own", "steps", "behind", "length", "stride", "asked"] ["view", "sides"] (defScope s_widened) := ⟨rfl, rfl, rfl, by decide +kernel, rfl, by decide +kernel, by decide +kernel⟩
theorem sc_twice_in : FnScope ["view", "first", "later", "place", "cell", "found"] ["view"] (defScope s_twice_in) := ⟨rfl, rfl, rfl, by decide +kernel, rfl, by decide +kernel, by decide +kernel⟩
theorem sc_need_unlike : FnScope ["target", "found", "one", "other"] ["target"] (defScope s_need_unlike) := ⟨rfl, rfl, rfl, by decide +kernel, rfl, by decide +kernel, by decide +kernel⟩
theorem sc_need_open : FnScope ["room"] ["room"] (defScope s_need_open) := ⟨rfl, rfl, rfl, by decide +kernel, rfl, by decide +kernel, by decide +kernel⟩
theorem sc_written : FnScope ["target", "source", "laid", "place", "number"] ["target", "source"] (defScope s_written) := ⟨rfl, rfl, rfl, by decide +kernel, rfl, by decide +kernel, by decide +kernel⟩
theorem sc_filled : FnScope ["target", "number", "place"] ["target", "number"] (defScope s_filled) := ⟨rfl, rfl, rfl, by decide +kernel, rfl, by decide +kernel, by decide +kernel⟩
theorem sc_readers : FnScope ["target", "laid", "places", "places_by_cell", "found", "at", "place", "there"] ["target", "laid", "places"] (defScope s_readers) := ⟨rfl, rfl, rfl, by decide +kernel, rfl, by decide +kernel, by decide +kernel⟩
theorem sc_moved_first : FnScope ["goes", "waits", "there", "found", "done", "at", "many"] ["goes"] (defScope s_moved_first) := ⟨rfl, rfl, rfl, by decide +kernel, rfl, by decide +kernel, by decide +kernel⟩
theorem sc_rings_left : FnScope ["goes", "moved", "met", "found", "start", "ring", "at"] ["goes", "moved"] (defScope s_rings_left) := ⟨rfl, rfl, rfl, by decide +kernel, rfl, by decide +kernel, by decide +kernel⟩
theorem sc_way_of : FnScope ["target", "source", "laid", "places", "goes", "moved", "steps", "rings", "hand", "first", "others", "at", "ring"] ["target", "source"] (defScope s_way_of) := ⟨rfl, rfl, rfl, by decide +kernel, rfl, by decide +kernel, by decide +kernel⟩
theorem sc_l_purse : FnScope ["_law_script", "_law_at", "_law_cell", "_law_far"] ["_law_script", "_law_at"] (defScope s_l_purse) := ⟨rfl, rfl, rfl, by decide +kernel, rfl, by decide +kernel, by decide +kernel⟩
theorem sc_l_take : FnScope ["_law_purse_here", "_law_many", "_law_digit", "_law_primes", "_law_step", "_law_base", "_law_mixed"] ["_law_purse_here", "_law_many"] (defScope s_l_take) := ⟨rfl, rfl, rfl, by decide +kernel, rfl, by decide +kernel, by decide +kernel⟩
theorem sc_l_places : FnScope ["_law_lengths_here", "_law_found", "_law_length", "_law_longer", "_law_place", "_law_number_here"] ["_law_lengths_here"] (defScope s_l_places) := ⟨rfl, rfl, rfl, by decide +kernel, rfl, by decide +kernel, by decide +kernel⟩
theorem sc_l_cells : FnScope ["_law_lengths_here", "_law_begin", "_law_steps_here", "_law_found", "_law_place", "_law_cell", "_law_number_here", "_law_step"] ["_law_lengths_here", "_law_begin", "_law_steps_here"] (defScope s_l_cells) := ⟨rfl, rfl, rfl, by decide +kernel, rfl, by decide +kernel, by decide +kernel⟩
theorem sc_l_lengths : FnScope ["_law_purse_here", "_law_most", "_law_found", "_law_size", "_law_turn", "_law_wide_here", "_law_length"] ["_law_purse_here", "_law_most"] (defScope s_l_lengths) := ⟨rfl, rfl, rfl, by decide +kernel, rfl, by decide +kernel, by decide +kernel⟩
theorem sc_l_number : FnScope ["_law_purse_here", "_law_wide_here"] ["_law_purse_here"] (defScope s_l_number) := ⟨rfl, rfl, rfl, by decide +kernel, rfl, by decide +kernel, by decide +kernel⟩
theorem sc_l_steps : FnScope ["_law_purse_here", "_law_lengths_here", "_law_way", "_law_left", "_law_step", "_law_found", "_law_at", "_law_length"] ["_law_purse_here", "_law_lengths_here"] (defScope s_l_steps) := ⟨rfl, rfl, rfl, by decide +kernel, rfl, by decide +kernel, by decide +kernel⟩
theorem sc_l_reach : FnScope ["_law_lengths_here", "_law_steps_here", "_law_way", "_law_found", "_law_length", "_law_step"] ["_law_lengths_here", "_law_steps_here", "_law_way"] (defScope s_l_reach) := ⟨rfl, rfl, rfl, by decide +kernel, rfl, by decide +kernel, by decide +kernel⟩
theorem sc_l_room : FnScope ["_law_purse_here", "_law_many", "_law_k"] ["_law_purse_here", "_law_many"] (defScope s_l_room) := ⟨rfl, rfl, rfl, by decide +kernel, rfl, by decide +kernel, by decide +kernel⟩
theorem sc_l_unlike_steps : FnScope ["_law_purse_here", "_law_lengths_here", "_law_left", "_law_step", "_law_found", "_law_at", "_law_length"] ["_law_purse_here", "_law_lengths_here"] (defScope s_l_unlike_steps) := ⟨rfl, rfl, rfl, by decide +kernel, rfl, by decide +kernel, by decide +kernel⟩
theorem sc_l_source : FnScope ["_law_purse_here", "_law_many", "_law_lengths_here", "_law_steps_here", "_law_lens", "_law_own", "_law_found", "_law_at", "_law_length", "_law_some", "_law_step", "_law_far", "_law_low", "_law_high"] ["_law_purse_here", "_law_many", "_law_lengths_here", "_law_steps_here"] (defScope s_l_source) := ⟨rfl, rfl, rfl, by decide +kernel, rfl, by decide +kernel, by decide +kernel⟩
theorem sc_l_over : FnScope ["_law_purse_here", "_law_most", "_law_apart", "_law_lengths_here", "_law_steps_here", "_law_low", "_law_high", "_law_ahead", "_law_many", "_law_room_here", "_law_target_look", "_law_hall", "_law_lens", "_law_begin", "_law_found", "_law_source_look", "_law_mine"] ["_law_purse_here", "_law_most", "_law_apart"] (defScope s_l_over) := ⟨rfl, rfl, rfl, by decide +kernel, rfl, by decide +kernel, by decide +kernel⟩
theorem sc_l_wide : FnScope ["_law_lengths_here", "_law_lens", "_law_cells_here", "_law_found", "_law_place", "_law_at", "_law_number_here", "_law_length"] ["_law_lengths_here", "_law_lens", "_law_cells_here"] (defScope s_l_wide) := ⟨rfl, rfl, rfl, by decide +kernel, rfl, by decide +kernel, by decide +kernel⟩
theorem sc_l_unfit : FnScope ["_law_lengths_here", "_law_lens", "_law_behind", "_law_own", "_law_asked"] ["_law_lengths_here", "_law_lens"] (defScope s_l_unfit) := ⟨rfl, rfl, rfl, by decide +kernel, rfl, by decide +kernel, by decide +kernel⟩
theorem sc_l_more : FnScope ["_law_purse_here", "_law_room_here", "_law_most", "_law_lengths_here", "_law_steps_here", "_law_low", "_law_high", "_law_begin", "_law_look_here", "_law_length"] ["_law_purse_here", "_law_room_here", "_law_most"] (defScope s_l_more) := ⟨rfl, rfl, rfl, by decide +kernel, rfl, by decide +kernel, by decide +kernel⟩
theorem sc_l_walk : FnScope ["_law_target", "_law_source_here", "_law_steps_here", "_law_hands", "_law_lens", "_law_step", "_law_place", "_law_own", "_law_theirs", "_law_number_here", "_law_length"] ["_law_target", "_law_source_here", "_law_steps_here"] (defScope s_l_walk) := ⟨rfl, rfl, rfl, by decide +kernel, rfl, by decide +kernel, by decide +kernel⟩
theorem sc_l_deed : FnScope ["_law_purse_here", "_law_looks", "_law_kept", "_law_last", "_law_to", "_law_target", "_law_way", "_law_cells_here", "_law_number_here", "_law_spot", "_law_source_here", "_law_brought", "_law_cell", "_law_own"] ["_law_purse_here", "_law_looks", "_law_kept", "_law_last"] (defScope s_l_deed) := ⟨rfl, rfl, rfl, by decide +kernel, rfl, by decide +kernel, by decide +kernel⟩
theorem sc_law : FnScope ["_law_script", "_law_k", "_law_purse_here", "_law_looks", "_law_room_here", "_law_turn", "_law_kept", "_law_last", "_law_turns", "_law_moment", "_law_twin", "_law_ahead", "_law_look_here", "_law_cell"] ["_law_script"] (defScope s_law) := ⟨rfl, rfl, rfl, by decide +kernel, rfl, by decide +kernel, by decide +kernel⟩
/-! ### where all stands behind the top -/
structure Adr where
  Page : Addr
  Room : Addr
  View : Addr
  T0 : Addr
  is_whole : Addr
  fd_is_whole : FuncData
  size_of : Addr
  fd_size_of : FuncData
  vet_size : Addr
  fd_vet_size : FuncData
  vet_sides : Addr
  fd_vet_sides : FuncData
  places_of : Addr
  fd_places_of : FuncData
  whole_place : Addr
  fd_whole_place : FuncData
  dense_strides : Addr
  fd_dense_strides : FuncData
  Page_init : Addr
  fd_Page_init : FuncData
  Room_init : Addr
  fd_Room_init : FuncData
  Room_len : Addr
  fd_Room_len : FuncData
  Room_need : Addr
  fd_Room_need : FuncData
  Room_read : Addr
  fd_Room_read : FuncData
  Room_own_page : Addr
  fd_Room_own_page : FuncData
  Room_write : Addr
  fd_Room_write : FuncData
  Room_numbers : Addr
  fd_Room_numbers : FuncData
  Room_twin : Addr
  fd_Room_twin : FuncData
  Room_is_shut : Addr
  fd_Room_is_shut : FuncData
  vet_strides : Addr
  fd_vet_strides : FuncData
  cells_by : Addr
  fd_cells_by : FuncData
  vet_cells : Addr
  fd_vet_cells : FuncData
  View_init : Addr
  fd_View_init : FuncData
  View_tell : Addr
  fd_View_tell : FuncData
  View_room : Addr
  fd_View_room : FuncData
  View_sides : Addr
  fd_View_sides : FuncData
  View_first : Addr
  fd_View_first : FuncData
  View_strides : Addr
  fd_View_strides : FuncData
  View_cells : Addr
  fd_View_cells : FuncData
  View_cell : Addr
  fd_View_cell : FuncData
  View_at : Addr
  fd_View_at : FuncData
  View_put : Addr
  fd_View_put : FuncData
  View_numbers : Addr
  fd_View_numbers : FuncData
  View_twin : Addr
  fd_View_twin : FuncData
  plain_view : Addr
  fd_plain_view : FuncData
  wide_stride : Addr
  fd_wide_stride : FuncData
  widened : Addr
  fd_widened : FuncData
  twice_in : Addr
  fd_twice_in : FuncData
  need_unlike : Addr
  fd_need_unlike : FuncData
  need_open : Addr
  fd_need_open : FuncData
  written : Addr
  fd_written : FuncData
  filled : Addr
  fd_filled : FuncData
  readers : Addr
  fd_readers : FuncData
  moved_first : Addr
  fd_moved_first : FuncData
  rings_left : Addr
  fd_rings_left : FuncData
  way_of : Addr
  fd_way_of : FuncData
  l_purse : Addr
  fd_l_purse : FuncData
  l_take : Addr
  fd_l_take : FuncData
  l_places : Addr
  fd_l_places : FuncData
  l_cells : Addr
  fd_l_cells : FuncData
  l_lengths : Addr
  fd_l_lengths : FuncData
  l_number : Addr
  fd_l_number : FuncData
  l_steps : Addr
  fd_l_steps : FuncData
  l_reach : Addr
  fd_l_reach : FuncData
  l_room : Addr
  fd_l_room : FuncData
  l_unlike_steps : Addr
  fd_l_unlike_steps : FuncData
  l_source : Addr
  fd_l_source : FuncData
  l_over : Addr
  fd_l_over : FuncData
  l_wide : Addr
  fd_l_wide : FuncData
  l_unfit : Addr
  fd_l_unfit : FuncData
  l_more : Addr
  fd_l_more : FuncData
  l_walk : Addr
  fd_l_walk : FuncData
  l_deed : Addr
  fd_l_deed : FuncData
  law : Addr
  fd_law : FuncData
structure Tx (K : PySem.W.Frag) (mg : Str → Option Value) (a : Adr) : Prop where
  n_isinstance : mg "isinstance" = none
  n_int : mg "int" = none
  n_bool : mg "bool" = none
  n_len : mg "len" = none
  n_max : mg "max" = none
  n_min : mg "min" = none
  n_tuple : mg "tuple" = none
  n_list : mg "list" = none
  n_range : mg "range" = none
  n_zip : mg "zip" = none
  n_enumerate : mg "enumerate" = none
  n_reversed : mg "reversed" = none
  n_sum : mg "sum" = none
  n_abs : mg "abs" = none
  n_set : mg "set" = none
  m_MOST_PLACES : ∃ t, mg "MOST_PLACES" = some (.int 600 t)
  m_MOST_SIDES : ∃ t, mg "MOST_SIDES" = some (.int 5 t)
  m_MOST_STRIDE : ∃ t, mg "MOST_STRIDE" = some (.int 600 t)
  cl_Page : Cls K a.Page
  m_Page : mg "Page" = some (.ref a.Page)
  mk_Page : Mk K a.Page a.Page_init
  na_Page_kept : NoAttr K a.Page "kept"
  na_Page_holders : NoAttr K a.Page "holders"
  cl_Room : Cls K a.Room
  m_Room : mg "Room" = some (.ref a.Room)
  mk_Room : Mk K a.Room a.Room_init
  na_Room_many : NoAttr K a.Room "many"
  na_Room_width : NoAttr K a.Room "width"
  na_Room_pages : NoAttr K a.Room "pages"
  na_Room_copies : NoAttr K a.Room "copies"
  na_Room_shuts : NoAttr K a.Room "shuts"
  cl_View : Cls K a.View
  m_View : mg "View" = some (.ref a.View)
  mk_View : Mk K a.View a.View_init
  na_View_held : NoAttr K a.View "held"
  na_View_lengths : NoAttr K a.View "lengths"
  na_View_begin : NoAttr K a.View "begin"
  na_View_steps : NoAttr K a.View "steps"
  nc_Room : NoCmp K a.Room
  F_is_whole : Fun K "is_whole" "is_whole" s_is_whole a.is_whole a.fd_is_whole
  m_is_whole : mg "is_whole" = some (.ref a.is_whole)
  F_size_of : Fun K "size_of" "size_of" s_size_of a.size_of a.fd_size_of
  m_size_of : mg "size_of" = some (.ref a.size_of)
  F_vet_size : Fun K "vet_size" "vet_size" s_vet_size a.vet_size a.fd_vet_size
  m_vet_size : mg "vet_size" = some (.ref a.vet_size)
  F_vet_sides : Fun K "vet_sides" "vet_sides" s_vet_sides a.vet_sides a.fd_vet_sides
  m_vet_sides : mg "vet_sides" = some (.ref a.vet_sides)
  F_places_of : Fun K "places_of" "places_of" s_places_of a.places_of a.fd_places_of
  m_places_of : mg "places_of" = some (.ref a.places_of)
  F_whole_place : Fun K "whole_place" "whole_place" s_whole_place a.whole_place a.fd_whole_place
  m_whole_place : mg "whole_place" = some (.ref a.whole_place)
  F_dense_strides : Fun K "dense_strides" "dense_strides" s_dense_strides a.dense_strides a.fd_dense_strides
  m_dense_strides : mg "dense_strides" = some (.ref a.dense_strides)
  F_Page_init : Fun K "__init__" "Page.__init__" s_Page_init a.Page_init a.fd_Page_init
  F_Room_init : FunD K "__init__" "Room.__init__" (defArgs s_Room_init) (defBody s_Room_init) (defScope s_Room_init) [.ref a.T0] [("page", .int 8)] a.Room_init a.fd_Room_init
  F_Room_len : Fun K "__len__" "Room.__len__" s_Room_len a.Room_len a.fd_Room_len
  me_Room_len : Meth K a.Room "__len__" a.Room_len
  F_Room_need : Fun K "need" "Room.need" s_Room_need a.Room_need a.fd_Room_need
  me_Room_need : Meth K a.Room "need" a.Room_need
  F_Room_read : Fun K "read" "Room.read" s_Room_read a.Room_read a.fd_Room_read
  me_Room_read : Meth K a.Room "read" a.Room_read
  F_Room_own_page : Fun K "own_page" "Room.own_page" s_Room_own_page a.Room_own_page a.fd_Room_own_page
  me_Room_own_page : Meth K a.Room "own_page" a.Room_own_page
  F_Room_write : Fun K "write" "Room.write" s_Room_write a.Room_write a.fd_Room_write
  me_Room_write : Meth K a.Room "write" a.Room_write
  F_Room_numbers : Fun K "numbers" "Room.numbers" s_Room_numbers a.Room_numbers a.fd_Room_numbers
  me_Room_numbers : Meth K a.Room "numbers" a.Room_numbers
  F_Room_twin : Fun K "twin" "Room.twin" s_Room_twin a.Room_twin a.fd_Room_twin
  me_Room_twin : Meth K a.Room "twin" a.Room_twin
  F_Room_is_shut : Fun K "is_shut" "Room.is_shut" s_Room_is_shut a.Room_is_shut a.fd_Room_is_shut
  me_Room_is_shut : Meth K a.Room "is_shut" a.Room_is_shut
  F_vet_strides : Fun K "vet_strides" "vet_strides" s_vet_strides a.vet_strides a.fd_vet_strides
  m_vet_strides : mg "vet_strides" = some (.ref a.vet_strides)
  F_cells_by : Fun K "cells_by" "cells_by" s_cells_by a.cells_by a.fd_cells_by
  m_cells_by : mg "cells_by" = some (.ref a.cells_by)
  F_vet_cells : Fun K "vet_cells" "vet_cells" s_vet_cells a.vet_cells a.fd_vet_cells
  m_vet_cells : mg "vet_cells" = some (.ref a.vet_cells)
  F_View_init : FunD K "__init__" "View.__init__" (defArgs s_View_init) (defBody s_View_init) (defScope s_View_init) [.non] [("first", .int 0), ("strides", .non)] a.View_init a.fd_View_init
  F_View_tell : Fun K "tell" "View.tell" s_View_tell a.View_tell a.fd_View_tell
  me_View_tell : Meth K a.View "tell" a.View_tell
  F_View_room : Fun K "room" "View.room" s_View_room a.View_room a.fd_View_room
  me_View_room : Meth K a.View "room" a.View_room
  F_View_sides : Fun K "sides" "View.sides" s_View_sides a.View_sides a.fd_View_sides
  me_View_sides : Meth K a.View "sides" a.View_sides
  F_View_first : Fun K "first" "View.first" s_View_first a.View_first a.fd_View_first
  me_View_first : Meth K a.View "first" a.View_first
  F_View_strides : Fun K "strides" "View.strides" s_View_strides a.View_strides a.fd_View_strides
  me_View_strides : Meth K a.View "strides" a.View_strides
  F_View_cells : Fun K "cells" "View.cells" s_View_cells a.View_cells a.fd_View_cells
  me_View_cells : Meth K a.View "cells" a.View_cells
  F_View_cell : Fun K "cell" "View.cell" s_View_cell a.View_cell a.fd_View_cell
  me_View_cell : Meth K a.View "cell" a.View_cell
  F_View_at : Fun K "at" "View.at" s_View_at a.View_at a.fd_View_at
  me_View_at : Meth K a.View "at" a.View_at
  F_View_put : Fun K "put" "View.put" s_View_put a.View_put a.fd_View_put
  me_View_put : Meth K a.View "put" a.View_put
  F_View_numbers : Fun K "numbers" "View.numbers" s_View_numbers a.View_numbers a.fd_View_numbers
  me_View_numbers : Meth K a.View "numbers" a.View_numbers
  F_View_twin : Fun K "twin" "View.twin" s_View_twin a.View_twin a.fd_View_twin
  me_View_twin : Meth K a.View "twin" a.View_twin
  F_plain_view : Fun K "plain_view" "plain_view" s_plain_view a.plain_view a.fd_plain_view
  m_plain_view : mg "plain_view" = some (.ref a.plain_view)
  F_wide_stride : Fun K "wide_stride" "wide_stride" s_wide_stride a.wide_stride a.fd_wide_stride
  m_wide_stride : mg "wide_stride" = some (.ref a.wide_stride)
  F_widened : Fun K "widened" "widened" s_widened a.widened a.fd_widened
  m_widened : mg "widened" = some (.ref a.widened)
  F_twice_in : Fun K "twice_in" "twice_in" s_twice_in a.twice_in a.fd_twice_in
  m_twice_in : mg "twice_in" = some (.ref a.twice_in)
  F_need_unlike : Fun K "need_unlike" "need_unlike" s_need_unlike a.need_unlike a.fd_need_unlike
  m_need_unlike : mg "need_unlike" = some (.ref a.need_unlike)
  F_need_open : Fun K "need_open" "need_open" s_need_open a.need_open a.fd_need_open
  m_need_open : mg "need_open" = some (.ref a.need_open)
  F_written : Fun K "written" "written" s_written a.written a.fd_written
  m_written : mg "written" = some (.ref a.written)
  F_filled : Fun K "filled" "filled" s_filled a.filled a.fd_filled
  m_filled : mg "filled" = some (.ref a.filled)
  F_readers : Fun K "readers" "readers" s_readers a.readers a.fd_readers
  m_readers : mg "readers" = some (.ref a.readers)
  F_moved_first : Fun K "moved_first" "moved_first" s_moved_first a.moved_first a.fd_moved_first
  m_moved_first : mg "moved_first" = some (.ref a.moved_first)
  F_rings_left : Fun K "rings_left" "rings_left" s_rings_left a.rings_left a.fd_rings_left
  m_rings_left : mg "rings_left" = some (.ref a.rings_left)
  F_way_of : Fun K "way_of" "way_of" s_way_of a.way_of a.fd_way_of
  m_way_of : mg "way_of" = some (.ref a.way_of)
  F_l_purse : Fun K "_law_purse" "_law_purse" s_l_purse a.l_purse a.fd_l_purse
  m_l_purse : mg "_law_purse" = some (.ref a.l_purse)
  F_l_take : Fun K "_law_take" "_law_take" s_l_take a.l_take a.fd_l_take
  m_l_take : mg "_law_take" = some (.ref a.l_take)
  F_l_places : Fun K "_law_places" "_law_places" s_l_places a.l_places a.fd_l_places
  m_l_places : mg "_law_places" = some (.ref a.l_places)
  F_l_cells : Fun K "_law_cells" "_law_cells" s_l_cells a.l_cells a.fd_l_cells
  m_l_cells : mg "_law_cells" = some (.ref a.l_cells)
  F_l_lengths : Fun K "_law_lengths" "_law_lengths" s_l_lengths a.l_lengths a.fd_l_lengths
  m_l_lengths : mg "_law_lengths" = some (.ref a.l_lengths)
  F_l_number : Fun K "_law_number" "_law_number" s_l_number a.l_number a.fd_l_number
  m_l_number : mg "_law_number" = some (.ref a.l_number)
  F_l_steps : Fun K "_law_steps" "_law_steps" s_l_steps a.l_steps a.fd_l_steps
  m_l_steps : mg "_law_steps" = some (.ref a.l_steps)
  F_l_reach : Fun K "_law_reach" "_law_reach" s_l_reach a.l_reach a.fd_l_reach
  m_l_reach : mg "_law_reach" = some (.ref a.l_reach)
  F_l_room : Fun K "_law_room" "_law_room" s_l_room a.l_room a.fd_l_room
  m_l_room : mg "_law_room" = some (.ref a.l_room)
  F_l_unlike_steps : Fun K "_law_unlike_steps" "_law_unlike_steps" s_l_unlike_steps a.l_unlike_steps a.fd_l_unlike_steps
  m_l_unlike_steps : mg "_law_unlike_steps" = some (.ref a.l_unlike_steps)
  F_l_source : Fun K "_law_source" "_law_source" s_l_source a.l_source a.fd_l_source
  m_l_source : mg "_law_source" = some (.ref a.l_source)
  F_l_over : Fun K "_law_over" "_law_over" s_l_over a.l_over a.fd_l_over
  m_l_over : mg "_law_over" = some (.ref a.l_over)
  F_l_wide : Fun K "_law_wide" "_law_wide" s_l_wide a.l_wide a.fd_l_wide
  m_l_wide : mg "_law_wide" = some (.ref a.l_wide)
  F_l_unfit : Fun K "_law_unfit" "_law_unfit" s_l_unfit a.l_unfit a.fd_l_unfit
  m_l_unfit : mg "_law_unfit" = some (.ref a.l_unfit)
  F_l_more : Fun K "_law_more" "_law_more" s_l_more a.l_more a.fd_l_more
  m_l_more : mg "_law_more" = some (.ref a.l_more)
  F_l_walk : Fun K "_law_walk" "_law_walk" s_l_walk a.l_walk a.fd_l_walk
  m_l_walk : mg "_law_walk" = some (.ref a.l_walk)
  F_l_deed : Fun K "_law_deed" "_law_deed" s_l_deed a.l_deed a.fd_l_deed
  m_l_deed : mg "_law_deed" = some (.ref a.l_deed)
  F_law : Fun K "law" "law" s_law a.law a.fd_law
  m_law : mg "law" = some (.ref a.law)
section
variable {K : PySem.W.Frag} {mg : Str → Option Value} {a : Adr}
theorem b_is_whole (T : Tx K mg a) : Binds K a.fd_is_whole ["thing"] [] := T.F_is_whole.binds fun _ _ _ _ _ _ us hl => match us, hl with | [_], _ => rfl
theorem b_size_of (T : Tx K mg a) : Binds K a.fd_size_of ["sides"] [] := T.F_size_of.binds fun _ _ _ _ _ _ us hl => match us, hl with | [_], _ => rfl
theorem b_vet_size (T : Tx K mg a) : Binds K a.fd_vet_size ["lengths"] [] := T.F_vet_size.binds fun _ _ _ _ _ _ us hl => match us, hl with | [_], _ => rfl
theorem b_vet_sides (T : Tx K mg a) : Binds K a.fd_vet_sides ["thing"] [] := T.F_vet_sides.binds fun _ _ _ _ _ _ us hl => match us, hl with | [_], _ => rfl
theorem b_places_of (T : Tx K mg a) : Binds K a.fd_places_of ["sides"] [] := T.F_places_of.binds fun _ _ _ _ _ _ us hl => match us, hl with | [_], _ => rfl
theorem b_whole_place (T : Tx K mg a) : Binds K a.fd_whole_place ["lengths", "place"] [] := T.F_whole_place.binds fun _ _ _ _ _ _ us hl => match us, hl with | [_, _], _ => rfl
theorem b_dense_strides (T : Tx K mg a) : Binds K a.fd_dense_strides ["lengths"] [] := T.F_dense_strides.binds fun _ _ _ _ _ _ us hl => match us, hl with | [_], _ => rfl
theorem b_Page_init (T : Tx K mg a) : Binds K a.fd_Page_init ["self", "kept"] [] := T.F_Page_init.binds fun _ _ _ _ _ _ us hl => match us, hl with | [_, _], _ => rfl
theorem b_Room_len (T : Tx K mg a) : Binds K a.fd_Room_len ["self"] [] := T.F_Room_len.binds fun _ _ _ _ _ _ us hl => match us, hl with | [_], _ => rfl
theorem b_Room_need (T : Tx K mg a) : Binds K a.fd_Room_need ["self", "cell"] [] := T.F_Room_need.binds fun _ _ _ _ _ _ us hl => match us, hl with | [_, _], _ => rfl
theorem b_Room_read (T : Tx K mg a) : Binds K a.fd_Room_read ["self", "cell"] [] := T.F_Room_read.binds fun _ _ _ _ _ _ us hl => match us, hl with | [_, _], _ => rfl
theorem b_Room_own_page (T : Tx K mg a) : Binds K a.fd_Room_own_page ["self", "at"] [] := T.F_Room_own_page.binds fun _ _ _ _ _ _ us hl => match us, hl with | [_, _], _ => rfl
theorem b_Room_write (T : Tx K mg a) : Binds K a.fd_Room_write ["self", "cell", "number"] [] := T.F_Room_write.binds fun _ _ _ _ _ _ us hl => match us, hl with | [_, _, _], _ => rfl
theorem b_Room_numbers (T : Tx K mg a) : Binds K a.fd_Room_numbers ["self"] [] := T.F_Room_numbers.binds fun _ _ _ _ _ _ us hl => match us, hl with | [_], _ => rfl
theorem b_Room_twin (T : Tx K mg a) : Binds K a.fd_Room_twin ["self"] [] := T.F_Room_twin.binds fun _ _ _ _ _ _ us hl => match us, hl with | [_], _ => rfl
theorem b_Room_is_shut (T : Tx K mg a) : Binds K a.fd_Room_is_shut ["self"] [] := T.F_Room_is_shut.binds fun _ _ _ _ _ _ us hl => match us, hl with | [_], _ => rfl
theorem b_vet_strides (T : Tx K mg a) : Binds K a.fd_vet_strides ["thing", "many"] [] := T.F_vet_strides.binds fun _ _ _ _ _ _ us hl => match us, hl with | [_, _], _ => rfl
theorem b_cells_by (T : Tx K mg a) : Binds K a.fd_cells_by ["lengths", "begin", "steps"] [] := T.F_cells_by.binds fun _ _ _ _ _ _ us hl => match us, hl with | [_, _, _], _ => rfl
theorem b_vet_cells (T : Tx K mg a) : Binds K a.fd_vet_cells ["many", "lengths", "begin", "steps"] [] := T.F_vet_cells.binds fun _ _ _ _ _ _ us hl => match us, hl with | [_, _, _, _], _ => rfl
theorem b_View_tell (T : Tx K mg a) : Binds K a.fd_View_tell ["self", "lengths", "begin", "steps"] [] := T.F_View_tell.binds fun _ _ _ _ _ _ us hl => match us, hl with | [_, _, _, _], _ => rfl
theorem b_View_room (T : Tx K mg a) : Binds K a.fd_View_room ["self"] [] := T.F_View_room.binds fun _ _ _ _ _ _ us hl => match us, hl with | [_], _ => rfl
theorem b_View_sides (T : Tx K mg a) : Binds K a.fd_View_sides ["self"] [] := T.F_View_sides.binds fun _ _ _ _ _ _ us hl => match us, hl with | [_], _ => rfl
theorem b_View_first (T : Tx K mg a) : Binds K a.fd_View_first ["self"] [] := T.F_View_first.binds fun _ _ _ _ _ _ us hl => match us, hl with | [_], _ => rfl
theorem b_View_strides (T : Tx K mg a) : Binds K a.fd_View_strides ["self"] [] := T.F_View_strides.binds fun _ _ _ _ _ _ us hl => match us, hl with | [_], _ => rfl
theorem b_View_cells (T : Tx K mg a) : Binds K a.fd_View_cells ["self"] [] := T.F_View_cells.binds fun _ _ _ _ _ _ us hl => match us, hl with | [_], _ => rfl
theorem b_View_cell (T : Tx K mg a) : Binds K a.fd_View_cell ["self", "place"] [] := T.F_View_cell.binds fun _ _ _ _ _ _ us hl => match us, hl with | [_, _], _ => rfl
theorem b_View_at (T : Tx K mg a) : Binds K a.fd_View_at ["self", "place"] [] := T.F_View_at.binds fun _ _ _ _ _ _ us hl => match us, hl with | [_, _], _ => rfl
theorem b_View_put (T : Tx K mg a) : Binds K a.fd_View_put ["self", "place", "number"] [] := T.F_View_put.binds fun _ _ _ _ _ _ us hl => match us, hl with | [_, _, _], _ => rfl
theorem b_View_numbers (T : Tx K mg a) : Binds K a.fd_View_numbers ["self"] [] := T.F_View_numbers.binds fun _ _ _ _ _ _ us hl => match us, hl with | [_], _ => rfl
theorem b_View_twin (T : Tx K mg a) : Binds K a.fd_View_twin ["self"] [] := T.F_View_twin.binds fun _ _ _ _ _ _ us hl => match us, hl with | [_], _ => rfl
theorem b_plain_view (T : Tx K mg a) : Binds K a.fd_plain_view ["room", "lengths", "begin", "steps"] [] := T.F_plain_view.binds fun _ _ _ _ _ _ us hl => match us, hl with | [_, _, _, _], _ => rfl
theorem b_wide_stride (T : Tx K mg a) : Binds K a.fd_wide_stride ["own", "stride", "asked", "side"] [] := T.F_wide_stride.binds fun _ _ _ _ _ _ us hl => match us, hl with | [_, _, _, _], _ => rfl
theorem b_widened (T : Tx K mg a) : Binds K a.fd_widened ["view", "sides"] [] := T.F_widened.binds fun _ _ _ _ _ _ us hl => match us, hl with | [_, _], _ => rfl
theorem b_twice_in (T : Tx K mg a) : Binds K a.fd_twice_in ["view"] [] := T.F_twice_in.binds fun _ _ _ _ _ _ us hl => match us, hl with | [_], _ => rfl
theorem b_need_unlike (T : Tx K mg a) : Binds K a.fd_need_unlike ["target"] [] := T.F_need_unlike.binds fun _ _ _ _ _ _ us hl => match us, hl with | [_], _ => rfl
theorem b_need_open (T : Tx K mg a) : Binds K a.fd_need_open ["room"] [] := T.F_need_open.binds fun _ _ _ _ _ _ us hl => match us, hl with | [_], _ => rfl
theorem b_written (T : Tx K mg a) : Binds K a.fd_written ["target", "source"] [] := T.F_written.binds fun _ _ _ _ _ _ us hl => match us, hl with | [_, _], _ => rfl
theorem b_filled (T : Tx K mg a) : Binds K a.fd_filled ["target", "number"] [] := T.F_filled.binds fun _ _ _ _ _ _ us hl => match us, hl with | [_, _], _ => rfl
theorem b_readers (T : Tx K mg a) : Binds K a.fd_readers ["target", "laid", "places"] [] := T.F_readers.binds fun _ _ _ _ _ _ us hl => match us, hl with | [_, _, _], _ => rfl
theorem b_moved_first (T : Tx K mg a) : Binds K a.fd_moved_first ["goes"] [] := T.F_moved_first.binds fun _ _ _ _ _ _ us hl => match us, hl with | [_], _ => rfl
theorem b_rings_left (T : Tx K mg a) : Binds K a.fd_rings_left ["goes", "moved"] [] := T.F_rings_left.binds fun _ _ _ _ _ _ us hl => match us, hl with | [_, _], _ => rfl
theorem b_way_of (T : Tx K mg a) : Binds K a.fd_way_of ["target", "source"] [] := T.F_way_of.binds fun _ _ _ _ _ _ us hl => match us, hl with | [_, _], _ => rfl
theorem b_l_purse (T : Tx K mg a) : Binds K a.fd_l_purse ["_law_script", "_law_at"] [] := T.F_l_purse.binds fun _ _ _ _ _ _ us hl => match us, hl with | [_, _], _ => rfl
theorem b_l_take (T : Tx K mg a) : Binds K a.fd_l_take ["_law_purse_here", "_law_many"] [] := T.F_l_take.binds fun _ _ _ _ _ _ us hl => match us, hl with | [_, _], _ => rfl
theorem b_l_places (T : Tx K mg a) : Binds K a.fd_l_places ["_law_lengths_here"] [] := T.F_l_places.binds fun _ _ _ _ _ _ us hl => match us, hl with | [_], _ => rfl
theorem b_l_cells (T : Tx K mg a) : Binds K a.fd_l_cells ["_law_lengths_here", "_law_begin", "_law_steps_here"] [] := T.F_l_cells.binds fun _ _ _ _ _ _ us hl => match us, hl with | [_, _, _], _ => rfl
theorem b_l_lengths (T : Tx K mg a) : Binds K a.fd_l_lengths ["_law_purse_here", "_law_most"] [] := T.F_l_lengths.binds fun _ _ _ _ _ _ us hl => match us, hl with | [_, _], _ => rfl
theorem b_l_number (T : Tx K mg a) : Binds K a.fd_l_number ["_law_purse_here"] [] := T.F_l_number.binds fun _ _ _ _ _ _ us hl => match us, hl with | [_], _ => rfl
theorem b_l_steps (T : Tx K mg a) : Binds K a.fd_l_steps ["_law_purse_here", "_law_lengths_here"] [] := T.F_l_steps.binds fun _ _ _ _ _ _ us hl => match us, hl with | [_, _], _ => rfl
theorem b_l_reach (T : Tx K mg a) : Binds K a.fd_l_reach ["_law_lengths_here", "_law_steps_here", "_law_way"] [] := T.F_l_reach.binds fun _ _ _ _ _ _ us hl => match us, hl with | [_, _, _], _ => rfl
theorem b_l_room (T : Tx K mg a) : Binds K a.fd_l_room ["_law_purse_here", "_law_many"] [] := T.F_l_room.binds fun _ _ _ _ _ _ us hl => match us, hl with | [_, _], _ => rfl
theorem b_l_unlike_steps (T : Tx K mg a) : Binds K a.fd_l_unlike_steps ["_law_purse_here", "_law_lengths_here"] [] := T.F_l_unlike_steps.binds fun _ _ _ _ _ _ us hl => match us, hl with | [_, _], _ => rfl
theorem b_l_source (T : Tx K mg a) : Binds K a.fd_l_source ["_law_purse_here", "_law_many", "_law_lengths_here", "_law_steps_here"] [] := T.F_l_source.binds fun _ _ _ _ _ _ us hl => match us, hl with | [_, _, _, _], _ => rfl
theorem b_l_over (T : Tx K mg a) : Binds K a.fd_l_over ["_law_purse_here", "_law_most", "_law_apart"] [] := T.F_l_over.binds fun _ _ _ _ _ _ us hl => match us, hl with | [_, _, _], _ => rfl
theorem b_l_wide (T : Tx K mg a) : Binds K a.fd_l_wide ["_law_lengths_here", "_law_lens", "_law_cells_here"] [] := T.F_l_wide.binds fun _ _ _ _ _ _ us hl => match us, hl with | [_, _, _], _ => rfl
theorem b_l_unfit (T : Tx K mg a) : Binds K a.fd_l_unfit ["_law_lengths_here", "_law_lens"] [] := T.F_l_unfit.binds fun _ _ _ _ _ _ us hl => match us, hl with | [_, _], _ => rfl
theorem b_l_more (T : Tx K mg a) : Binds K a.fd_l_more ["_law_purse_here", "_law_room_here", "_law_most"] [] := T.F_l_more.binds fun _ _ _ _ _ _ us hl => match us, hl with | [_, _, _], _ => rfl
theorem b_l_walk (T : Tx K mg a) : Binds K a.fd_l_walk ["_law_target", "_law_source_here", "_law_steps_here"] [] := T.F_l_walk.binds fun _ _ _ _ _ _ us hl => match us, hl with | [_, _, _], _ => rfl
theorem b_l_deed (T : Tx K mg a) : Binds K a.fd_l_deed ["_law_purse_here", "_law_looks", "_law_kept", "_law_last"] [] := T.F_l_deed.binds fun _ _ _ _ _ _ us hl => match us, hl with | [_, _, _, _], _ => rfl
theorem b_law (T : Tx K mg a) : Binds K a.fd_law ["_law_script"] [] := T.F_law.binds fun _ _ _ _ _ _ us hl => match us, hl with | [_], _ => rfl
end
end VG

set_option Elab.async false
set_option linter.all false
set_option maxRecDepth 100000
set_option maxHeartbeats 4000000
namespace VG
open PySem PySem.Spec PyProof.Rows L2
section
variable {K : PySem.W.Frag} {mg : Str → Option Value} {a : Adr}
theorem b_Room_init (T : Tx K mg a) : ∃ its : List Value, KBn K a.fd_Room_init ["self", "numbers", "page"] 2 ["page"] (fun us ws => us ++ ws) (fun vs zs => vs ++ zs) := by
  refine T.F_Room_init.kbindsD 2 ["page"] (fun us _ ws => us ++ ws) (by simp) (fun r1 _ r3 => r1.append r3) fun T0 kV doc pm an cdv ct us its ws h1 h2 h3 => ?_
  match us, its, ws, h1, h2, h3 with
  | [_, _], [_], [_], _, _, _ => exact ⟨_, rfl, rfl⟩
theorem b_View_init4 (T : Tx K mg a) : ∃ its : List Value, KBn K a.fd_View_init ["self", "room", "sides", "first", "strides"] 3 ["first", "strides"] (fun us ws => us ++ ws) (fun vs zs => vs ++ zs) := by
  refine T.F_View_init.kbindsD 3 ["first", "strides"] (fun us _ ws => us ++ ws) (by simp) (fun r1 _ r3 => r1.append r3) fun T0 kV doc pm an cdv ct us its ws h1 h2 h3 => ?_
  match us, its, ws, h1, h2, h3 with
  | [_, _, _], [_], [_, _], _, _, _ => exact ⟨_, rfl, rfl⟩
theorem b_View_init2 (T : Tx K mg a) : ∃ ds, Vals [.int 0, .non] ds ∧ Binds K a.fd_View_init ["self", "room", "sides", "first", "strides"] ds := by
  refine T.F_View_init.binds 3 1 (by simp) rfl (fun T0 D doc pm an cdv ct us its ks h1 h2 h3 => ?_) (by simp)
  match us, its, ks, h1, h2, h3 with
  | [_, _, _], [_], [_, _], _, _, _ => exact ⟨_, rfl, ⟨_, _, _, _, _, _, rfl, rfl, ⟨_, _, _, _, _, _, rfl, rfl, rfl⟩⟩⟩
end
end VG

set_option linter.all false
/-! The plain law: sides, places, cells. -/
namespace VG
/-! ### sizes -/
def size (ls : List Nat) : Nat := ls.foldl (· * ·) 1
theorem foldl_mul (ls : List Nat) : ∀ a : Nat, ls.foldl (· * ·) a = a * ls.foldl (· * ·) 1 := by
  induction ls with
  | nil => intro a; simp
  | cons x r ih =>
    intro a
    rw [List.foldl_cons, List.foldl_cons, ih (a * x), ih (1 * x), Nat.one_mul, Nat.mul_assoc]
theorem size_nil : size [] = 1 := rfl
theorem size_cons (x : Nat) (r : List Nat) : size (x :: r) = x * size r := by
  unfold size
  rw [List.foldl_cons, Nat.one_mul, foldl_mul]
theorem size_append (xs ys : List Nat) : size (xs ++ ys) = size xs * size ys := by
  induction xs with
  | nil => rw [List.nil_append, size_nil, Nat.one_mul]
  | cons x r ih => rw [List.cons_append, size_cons, size_cons, ih, Nat.mul_assoc]
theorem size_snoc (xs : List Nat) (y : Nat) : size (xs ++ [y]) = size xs * y := by
  rw [size_append, size_cons, size_nil, Nat.mul_one]
theorem size_pos {ls : List Nat} : 0 < size ls ↔ ∀ l ∈ ls, 0 < l := by
  induction ls with
  | nil => simp [size_nil]
  | cons x r ih =>
    rw [size_cons]
    constructor
    · intro h l hl
      have h1 : 0 < x := Nat.pos_of_mul_pos_right h
      have h2 : 0 < size r := Nat.pos_of_mul_pos_left h
      rcases List.mem_cons.mp hl with e | e
      · rw [e]; exact h1
      · exact ih.mp h2 l e
    · intro h
      exact Nat.mul_pos (h x (by simp)) (ih.mpr fun l hl => h l (by simp [hl]))
theorem size_take_le {ls : List Nat} (h : 0 < size ls) (i : Nat) : size (ls.take i) ≤ size ls := by
  have e : size ls = size (ls.take i) * size (ls.drop i) := by rw [← size_append, List.take_append_drop]
  have hd : 0 < size (ls.drop i) := by
    rw [size_pos] at h ⊢
    exact fun l hl => h l (List.mem_of_mem_drop hl)
  rw [e]
  exact Nat.le_mul_of_pos_right _ hd
theorem mem_le_size {ls : List Nat} (h : 0 < size ls) {l : Nat} (hl : l ∈ ls) : l ≤ size ls := by
  obtain ⟨i, hi, e⟩ := List.getElem_of_mem hl
  have e1 := size_take_le h (i + 1)
  have e2 : ls.take (i + 1) = ls.take i ++ [l] := by
    rw [List.take_add_one, List.getElem?_eq_getElem hi, e]; rfl
  rw [e2, size_snoc] at e1
  have e3 : 0 < size (ls.take i) := by
    rw [size_pos] at h ⊢
    exact fun l hl => h l (List.mem_of_mem_take hl)
  exact Nat.le_trans (Nat.le_mul_of_pos_left _ e3) e1
/-! ### places -/
def ext1 (p : List Nat) (l : Nat) : List (List Nat) := (List.range l).map fun k => p ++ [k]
def ext (found : List (List Nat)) (l : Nat) : List (List Nat) := found.flatMap fun p => ext1 p l
def places (ls : List Nat) : List (List Nat) := ls.foldl ext [[]]
theorem places_nil : places [] = [[]] := rfl
theorem places_snoc (ls : List Nat) (l : Nat) : places (ls ++ [l]) = ext (places ls) l := by
  unfold places
  rw [List.foldl_append]; rfl
theorem ext_length (f : List (List Nat)) (l : Nat) : (ext f l).length = f.length * l := by
  unfold ext
  induction f with
  | nil => simp
  | cons p r ih =>
    rw [List.flatMap_cons, List.length_append, ih, List.length_cons, Nat.succ_mul, Nat.add_comm]
    simp [ext1]
theorem snoc_ind {α : Type} {P : List α → Prop} (h0 : P []) (hs : ∀ xs x, P xs → P (xs ++ [x])) : ∀ xs, P xs := by
  intro xs
  have : ∀ n (xs : List α), xs.length = n → P xs := by
    intro n
    induction n with
    | zero => intro xs h; rw [List.eq_nil_of_length_eq_zero h]; exact h0
    | succ n ih =>
      intro xs h
      have hne : xs ≠ [] := by intro e; rw [e] at h; simp at h
      rw [← List.dropLast_concat_getLast hne]
      exact hs _ _ (ih _ (by rw [List.length_dropLast, h]; rfl))
  exact this _ xs rfl
theorem places_length (ls : List Nat) : (places ls).length = size ls := by
  refine snoc_ind (P := fun ls => (places ls).length = size ls) rfl (fun xs x ih => ?_) ls
  rw [places_snoc, ext_length, ih, size_snoc]
theorem places_zero {ls : List Nat} (h : size ls = 0) : places ls = [] := List.eq_nil_of_length_eq_zero (by rw [places_length, h])
/-- p is a place of ls -/
def IsPlace (ls p : List Nat) : Prop := p.length = ls.length ∧ ∀ i (h1 : i < p.length) (h2 : i < ls.length), p[i] < ls[i]
theorem isPlace_snoc {ls p : List Nat} {l k : Nat} (h : IsPlace ls p) (hk : k < l) : IsPlace (ls ++ [l]) (p ++ [k]) := by
  obtain ⟨h1, h2⟩ := h
  refine ⟨by simp [h1], fun i a b => ?_⟩
  by_cases e : i < p.length
  · rw [List.getElem_append_left e, List.getElem_append_left (by omega)]
    exact h2 i e (by omega)
  · rw [List.length_append, List.length_singleton] at a
    have ei : i = p.length := by omega
    subst ei
    rw [List.getElem_append_right (Nat.le_refl _), List.getElem_append_right (by omega)]
    simp [h1, hk]
theorem places_isPlace (ls : List Nat) : ∀ p ∈ places ls, IsPlace ls p := by
  refine snoc_ind (P := fun ls => ∀ p ∈ places ls, IsPlace ls p) ?_ (fun xs x ih => ?_) ls
  · intro p hp
    rw [places_nil] at hp
    have : p = [] := by simpa using hp
    subst this
    exact ⟨rfl, fun i h => by simp at h⟩
  · intro p hp
    rw [places_snoc] at hp
    unfold ext at hp
    rw [List.mem_flatMap] at hp
    obtain ⟨q, hq, hp⟩ := hp
    unfold ext1 at hp
    rw [List.mem_map] at hp
    obtain ⟨k, hk, e⟩ := hp
    rw [← e]
    exact isPlace_snoc (ih q hq) (List.mem_range.mp hk)
/-! ### cells -/
def dot (p : List Nat) (ss : List Int) : Int := ((p.zip ss).map fun q => (q.1 : Int) * q.2).sum
def cellAt (b : Int) (ss : List Int) (p : List Nat) : Int := b + dot p ss
def cext (found : List Int) (l : Nat) (s : Int) : List Int := found.flatMap fun c => (List.range l).map fun k : Nat => c + s * (k : Int)
def cells (ls : List Nat) (ss : List Int) (b : Int) : List Int := (ls.zip ss).foldl (fun f p => cext f p.1 p.2) [b]
theorem sum_append (xs ys : List Int) : (xs ++ ys).sum = xs.sum + ys.sum := by
  induction xs with
  | nil => simp
  | cons x r ih => rw [List.cons_append, List.sum_cons, List.sum_cons, ih, Int.add_assoc]
theorem dot_snoc {p : List Nat} {ss : List Int} (h : p.length = ss.length) (k : Nat) (s : Int) : dot (p ++ [k]) (ss ++ [s]) = dot p ss + (k : Int) * s := by
  unfold dot
  rw [List.zip_append h, List.map_append, sum_append]
  simp
theorem cells_places (ls : List Nat) : ∀ (ss : List Int) (b : Int), ls.length = ss.length → cells ls ss b = (places ls).map (cellAt b ss) := by
  refine snoc_ind (P := fun ls => ∀ (ss : List Int) (b : Int), ls.length = ss.length → cells ls ss b = (places ls).map (cellAt b ss)) ?_ (fun xs x ih => ?_) ls
  · intro ss b h
    have : ss = [] := List.eq_nil_of_length_eq_zero h.symm
    subst this
    simp [cells, places_nil, cellAt, dot]
  · intro ss b h
    have hne : ss ≠ [] := by intro e; rw [e] at h; simp at h
    rw [← List.dropLast_concat_getLast hne] at h ⊢
    generalize ss.dropLast = ss' at h ⊢
    generalize ss.getLast hne = s at h ⊢
    have h' : xs.length = ss'.length := by simpa using h
    have e1 : cells (xs ++ [x]) (ss' ++ [s]) b = cext (cells xs ss' b) x s := by
      unfold cells
      rw [List.zip_append h', List.foldl_append]; rfl
    rw [e1, ih ss' b h', places_snoc]
    unfold cext ext
    rw [List.map_flatMap, List.flatMap_map]
    have key : ∀ (ps : List (List Nat)), (∀ p ∈ ps, p.length = xs.length) → (List.flatMap (fun p => (List.range x).map fun k : Nat => cellAt b ss' p + s * (k : Int)) ps) = (List.flatMap (fun p => List.map (cellAt b (ss' ++ [s])) (ext1 p x)) ps) := by
      intro ps hps
      induction ps with
      | nil => rfl
      | cons p r ihr =>
        rw [List.flatMap_cons, List.flatMap_cons, ihr fun q hq => hps q (by simp [hq])]
        congr 1
        unfold ext1
        rw [List.map_map]
        refine List.map_congr_left fun k _ => ?_
        show cellAt b ss' p + s * (k : Int) = cellAt b (ss' ++ [s]) (p ++ [k])
        unfold cellAt
        rw [dot_snoc (by rw [hps p (by simp), h']), Int.add_assoc, Int.mul_comm]
    exact key _ fun p hp => (places_isPlace xs p hp).1
theorem cells_length {ls : List Nat} {ss : List Int} (b : Int) (h : ls.length = ss.length) : (cells ls ss b).length = size ls := by
  rw [cells_places ls ss b h, List.length_map, places_length]
/-! ### told in one way -/
def norm (ls : List Nat) (ss : List Int) : List Int := List.zipWith (fun l s => if l = 1 then 0 else s) ls ss
theorem norm_length {ls : List Nat} {ss : List Int} (h : ls.length = ss.length) : (norm ls ss).length = ls.length := by
  unfold norm; rw [List.length_zipWith, ← h, Nat.min_self]
theorem dot_cons (k : Nat) (p : List Nat) (s : Int) (ss : List Int) : dot (k :: p) (s :: ss) = (k : Int) * s + dot p ss := by
  unfold dot; simp
theorem dot_norm : ∀ {ls p : List Nat} {ss : List Int}, ls.length = ss.length → IsPlace ls p → dot p (norm ls ss) = dot p ss
  | [], p, ss, h, hp => by
    have : ss = [] := List.eq_nil_of_length_eq_zero h.symm
    subst this; rfl
  | l :: ls, [], ss, h, hp => by simp [IsPlace] at hp
  | l :: ls, k :: p, [], h, hp => by simp at h
  | l :: ls, k :: p, s :: ss, h, hp => by
    have hk : k < l := hp.2 0 (by simp) (by simp)
    have hp' : IsPlace ls p := ⟨by simpa using hp.1, fun i a b => hp.2 (i + 1) (by simpa using a) (by simpa using b)⟩
    have ih := dot_norm (ls := ls) (p := p) (ss := ss) (by simpa using h) hp'
    have e : norm (l :: ls) (s :: ss) = (if l = 1 then 0 else s) :: norm ls ss := rfl
    rw [e, dot_cons, dot_cons, ih]
    by_cases h1 : l = 1
    · rw [if_pos h1]
      have : k = 0 := by omega
      subst this; simp
    · rw [if_neg h1]
def tb (ls : List Nat) (b : Int) : Int := if size ls = 0 then 0 else b
def ts (ls : List Nat) (ss : List Int) : List Int := if size ls = 0 then List.replicate ls.length 0 else norm ls ss
theorem ts_length {ls : List Nat} {ss : List Int} (h : ls.length = ss.length) : (ts ls ss).length = ls.length := by
  unfold ts
  split
  · simp
  · exact norm_length h
theorem cellAt_told {ls p : List Nat} {ss : List Int} {b : Int} (h : ls.length = ss.length) (hp : p ∈ places ls) : cellAt (tb ls b) (ts ls ss) p = cellAt b ss p := by
  have hz : size ls ≠ 0 := by
    intro e
    rw [places_zero e] at hp
    simp at hp
  unfold tb ts
  rw [if_neg hz, if_neg hz]
  unfold cellAt
  rw [dot_norm h (places_isPlace ls p hp)]
theorem cells_told {ls : List Nat} {ss : List Int} {b : Int} (h : ls.length = ss.length) : cells ls (ts ls ss) (tb ls b) = cells ls ss b := by
  rw [cells_places ls _ _ (by rw [ts_length h]), cells_places ls ss b h]
  exact List.map_congr_left fun p hp => cellAt_told h hp
end VG

set_option Elab.async false
set_option linter.all false
set_option maxRecDepth 100000
set_option maxHeartbeats 4000000
namespace VG
open PySem PySem.Spec PyProof.Rows L2
abbrev St := L2.St
/-- whole numbers as values -/
abbrev iv (ls : List Nat) : List V := (ls.map fun n : Nat => (n : Int)).map V.int
abbrev zv (ss : List Int) : List V := ss.map V.int
theorem iv_get {ls : List Nat} {i : Nat} {x : V} (h : (iv ls)[i]? = some x) : ∃ n : Nat, ls[i]? = some n ∧ x = .int (n : Int) := by
  rw [List.getElem?_map, List.getElem?_map] at h
  cases e : ls[i]? with
  | none => rw [e] at h; cases h
  | some n => rw [e] at h; exact ⟨n, rfl, (Option.some.inj h).symm⟩
theorem zv_get {ss : List Int} {i : Nat} {x : V} (h : (zv ss)[i]? = some x) : ∃ n : Int, ss[i]? = some n ∧ x = .int n := by
  rw [List.getElem?_map] at h
  cases e : ss[i]? with
  | none => rw [e] at h; cases h
  | some n => rw [e] at h; exact ⟨n, rfl, (Option.some.inj h).symm⟩
theorem iv_len (ls : List Nat) : (iv ls).length = ls.length := by simp
theorem zv_len (ls : List Int) : (zv ls).length = ls.length := by simp
theorem iv_at {ls : List Nat} {i n : Nat} (h : ls[i]? = some n) : (iv ls)[i]? = some (.int (n : Int)) := by simp [iv, h]
theorem zv_at {ls : List Int} {i : Nat} {n : Int} (h : ls[i]? = some n) : (zv ls)[i]? = some (.int n) := by simp [zv, h]
/-! ### what stands stays -/
theorem sm_new {H : Hp} {p : Addr} {o : HO} (hp : H p = none) : Same H (upd H p o) := fun b u e => by
  rw [upd_ne (ne_of_none e hp)]
  exact e
theorem sm_mut {H H' : Hp} {p : Addr} {o : HO} (h : Same H H') (hp : H p = none) : Same H (upd H' p o) := fun b u e => by
  rw [upd_ne (ne_of_none e hp)]
  exact h b u e
theorem sm_upd {H H' : Hp} {p : Addr} {o : HO} (h : Same H H') (hp : H' p = none) : Same H (upd H' p o) := sm_mut h (h.free hp)
theorem big {n : Nat} (h : n ≤ 1000000) : n ≤ sizeLine := Nat.le_trans h (by decide)
theorem bigL {n : Nat} (h : n ≤ 1000000) : n < sizeLine := Nat.lt_of_le_of_lt h (by decide)
theorem ifF {c A B : Prop} [Decidable c] (hc : ¬ c) (h : B) : if decide c = true then A else B := by
  rw [decide_eq_false hc]
  exact iteF h
theorem ifT {c A B : Prop} [Decidable c] (hc : c) (h : A) : if decide c = true then A else B := by
  rw [decide_eq_true hc]
  exact iteT h
theorem ifNF {c A B : Prop} [Decidable c] (hc : c) (h : B) : if (!decide c) = true then A else B := iteNS hc h
theorem ifNT {c A B : Prop} [Decidable c] (hc : ¬ c) (h : A) : if (!decide c) = true then A else B := by
  rw [decide_eq_false hc]
  exact iteT h
/-! ### comprehensions -/
section
variable {J : It} {n : Nat} {G : Hp → Prop} {Y : Nat → Hp → V → Hp → Prop}
theorem lc_mut (w : Walk J n G Y) {g : TG} {te : TE} {vs : List Nat} {σ : St} {H1 : Hp} {D : Addr} {Qd : Hp → Prop} (I : Nat → List V → Hp → Prop) (hn : n ≤ 100000) (h0 : I 0 [] (upd H1 D (.lst []))) (hG : ∀ i acc H, I i acc H → G H)
    (hI : ∀ i acc H ys zs, I i acc H → H D = some (.lst ys) → I i acc (upd H D (.lst zs)))
    (hs : ∀ i x H H' acc (k : VK), i < n → acc.length = i → I i acc H → H D = some (.lst acc) → Y i H x H' → (∀ y H4, H4 D = some (.lst acc) → I (i + 1) (acc ++ [y]) H4 → k y H4) →
      g x (wipe σ vs) H' fun σ2 H2 => wipe σ2 vs = wipe σ vs ∧ te σ2 H2 k)
    (hd : ∀ acc H, H D = some (.lst acc) → acc.length = n → I n acc H → Qd H) :
    ∃ W : Nat → Nat → Hp → Prop, (∃ m, W 0 m (upd H1 D (.lst []))) ∧ ∀ i m H, W i m H →
      (J.stop i H ∧ Qd H) ∨ (J.go i H ∧ ∃ Nx : Hp → Prop, (∀ H', Nx H' → ∃ m', m' < m ∧ W (i + 1) m' H') ∧ ∀ x H', J.yld i H x H' → g x (wipe σ vs) H' fun σ2 H2 => wipe σ2 vs = wipe σ vs ∧ tYes σ2 H2 fun b H3 =>
        if b = true then te σ2 H3 fun y H4 => ∃ acc, H4 D = some (.lst acc) ∧ acc.length < sizeLine ∧ Nx (upd H4 D (.lst (acc ++ [y]))) else Nx H3) := by
  refine ⟨fun i m H => m = n - i ∧ i ≤ n ∧ ∃ acc, H D = some (.lst acc) ∧ acc.length = i ∧ I i acc H, ⟨n, by simp, Nat.zero_le _, [], upd_same, rfl, h0⟩, ?_⟩
  rintro i m H ⟨rfl, hi, acc, hacc, hl, hI0⟩
  by_cases hlt : i < n
  · refine .inr ⟨w.goes i H hlt (hG i acc H hI0), fun H' => ∃ acc, H' D = some (.lst acc) ∧ acc.length = i + 1 ∧ I (i + 1) acc H', fun H' p' => ⟨n - (i + 1), by omega, rfl, hlt, p'⟩, fun x H' y => ?_⟩
    refine hs i x H H' acc _ hlt hl hI0 hacc (w.yields i H x H' hlt (hG i acc H hI0) y) fun y H4 h4 hI4 => ?_
    exact ⟨acc, h4, bigL (by omega), acc ++ [y], upd_same, by rw [List.length_append, List.length_singleton, hl], hI _ _ _ _ _ hI4 h4⟩
  · have e : i = n := by omega
    subst e
    exact .inl ⟨w.stops H (hG _ _ _ hI0), hd acc H hacc hl hI0⟩
theorem lc_pure (w : Walk J n G Y) {g : TG} {te : TE} {vs : List Nat} {σ : St} {H1 : Hp} {D : Addr} {Qd : Hp → Prop} (f : Nat → V) (hn : n ≤ 100000) (hD : H1 D = none) (hG : ∀ H, Same H1 H → G H)
    (hs : ∀ i x H H' (k : VK), i < n → Same H1 H → Y i H x H' → (∀ H4, Same H H4 → k (f i) H4) → g x (wipe σ vs) H' fun σ2 H2 => wipe σ2 vs = wipe σ vs ∧ te σ2 H2 k)
    (hd : ∀ H, Same H1 H → H D = some (.lst ((List.range n).map f)) → Qd H) :
    ∃ W : Nat → Nat → Hp → Prop, (∃ m, W 0 m (upd H1 D (.lst []))) ∧ ∀ i m H, W i m H →
      (J.stop i H ∧ Qd H) ∨ (J.go i H ∧ ∃ Nx : Hp → Prop, (∀ H', Nx H' → ∃ m', m' < m ∧ W (i + 1) m' H') ∧ ∀ x H', J.yld i H x H' → g x (wipe σ vs) H' fun σ2 H2 => wipe σ2 vs = wipe σ vs ∧ tYes σ2 H2 fun b H3 =>
        if b = true then te σ2 H3 fun y H4 => ∃ acc, H4 D = some (.lst acc) ∧ acc.length < sizeLine ∧ Nx (upd H4 D (.lst (acc ++ [y]))) else Nx H3) :=
  lc_mut w (fun i acc H => Same H1 H ∧ acc = (List.range i).map f) hn ⟨sm_new hD, rfl⟩ (fun _ _ H p => hG H p.1) (fun _ _ _ _ _ p _ => ⟨sm_mut p.1 hD, p.2⟩)
    (fun i x H H' acc k hi hl p hacc y hk => hs i x H H' k hi p.1 y fun H4 e4 => hk _ _ (e4 _ _ hacc) ⟨p.1.trans e4, by rw [p.2, List.range_succ, List.map_append]; rfl⟩)
    fun acc H hacc hl p => hd H p.1 (by rw [hacc, p.2])
/-- the inner loop of a comprehension with two fors -/
theorem lc2_in (w : Walk J n G Y) {g : TG} {te : TE} {vs : List Nat} {σ : St} {Hb H4 : Hp} {D : Addr} {Nx : Hp → Prop} (f : Nat → V) (acc0 : List V) (hn : acc0.length + n ≤ 100000) (hD : Hb D = none) (hS : Same Hb H4) (h0 : H4 D = some (.lst acc0)) (hG : ∀ H, Same Hb H → G H)
    (hs : ∀ j x H H' (k : VK), j < n → Same Hb H → Y j H x H' → (∀ H7, Same H H7 → k (f j) H7) → g x (wipe σ vs) H' fun σ3 H5 => wipe σ3 vs = wipe σ vs ∧ te σ3 H5 k)
    (hd : ∀ H, Same Hb H → H D = some (.lst (acc0 ++ (List.range n).map f)) → Nx H) :
    ∃ W1 : Nat → Nat → Hp → Prop, (∃ m, W1 0 m H4) ∧ ∀ j k H, W1 j k H →
      (J.stop j H ∧ Nx H) ∨ (J.go j H ∧ ∃ Nx1 : Hp → Prop, (∀ H', Nx1 H' → ∃ k', k' < k ∧ W1 (j + 1) k' H') ∧ ∀ x H', J.yld j H x H' → g x (wipe σ vs) H' fun σ3 H5 => wipe σ3 vs = wipe σ vs ∧ tYes σ3 H5 fun b H6 =>
        if b = true then te σ3 H6 fun y H7 => ∃ acc, H7 D = some (.lst acc) ∧ acc.length < sizeLine ∧ Nx1 (upd H7 D (.lst (acc ++ [y]))) else Nx1 H6) := by
  refine ⟨fun j m H => m = n - j ∧ j ≤ n ∧ Same Hb H ∧ H D = some (.lst (acc0 ++ (List.range j).map f)), ⟨n, by simp, Nat.zero_le _, hS, by simpa using h0⟩, ?_⟩
  rintro j m H ⟨rfl, hj, hS, hacc⟩
  by_cases hlt : j < n
  · refine .inr ⟨w.goes j H hlt (hG H hS), fun H' => Same Hb H' ∧ H' D = some (.lst (acc0 ++ (List.range (j + 1)).map f)), fun H' p' => ⟨n - (j + 1), by omega, rfl, hlt, p'⟩, fun x H' y => ?_⟩
    refine hs j x H H' _ hlt hS (w.yields j H x H' hlt (hG H hS) y) fun H7 e7 => ⟨_, e7 _ _ hacc, bigL (by simp; omega), sm_mut (hS.trans e7) hD, ?_⟩
    rw [upd_same, List.range_succ, List.map_append, List.append_assoc]; rfl
  · have e : j = n := by omega
    subst e
    exact .inl ⟨w.stops H (hG H hS), hd H hS hacc⟩
theorem lc2_pure (w : Walk J n G Y) {g g1 : TG} {wi1 : TI} {tt1 : TT} {te : TE} {vs vs1 : List Nat} {σ : St} {H1 : Hp} {D : Addr} {Qd : Hp → Prop} (F : Nat → List V) (hD : H1 D = none) (hG : ∀ H, Same H1 H → G H)
    (hs : ∀ i x H H' (Nx : Hp → Prop), i < n → Same H1 H → H D = some (.lst ((List.range i).flatMap F)) → Y i H x H' → (∀ H4, Same H1 H4 → H4 D = some (.lst ((List.range i).flatMap F ++ F i)) → Nx H4) →
      g x (wipe σ vs) H' fun σ2 H2 => wipe σ2 vs = wipe σ vs ∧ wi1 σ2 H2 fun J1 H4 => ∃ W1 : Nat → Nat → Hp → Prop, (∃ m, W1 0 m H4) ∧ ∀ j k H, W1 j k H →
        (J1.stop j H ∧ Nx H) ∨ (J1.go j H ∧ ∃ Nx1 : Hp → Prop, (∀ H', Nx1 H' → ∃ k', k' < k ∧ W1 (j + 1) k' H') ∧ ∀ x H', J1.yld j H x H' → g1 x (wipe σ2 vs1) H' fun σ3 H5 => wipe σ3 vs1 = wipe σ2 vs1 ∧ tt1 σ3 H5 fun b H6 =>
          if b = true then te σ3 H6 fun y H7 => ∃ acc, H7 D = some (.lst acc) ∧ acc.length < sizeLine ∧ Nx1 (upd H7 D (.lst (acc ++ [y]))) else Nx1 H6))
    (hd : ∀ H, Same H1 H → H D = some (.lst ((List.range n).flatMap F)) → Qd H) :
    ∃ W : Nat → Nat → Hp → Prop, (∃ m, W 0 m (upd H1 D (.lst []))) ∧ ∀ i m H, W i m H →
      (J.stop i H ∧ Qd H) ∨ (J.go i H ∧ ∃ Nx : Hp → Prop, (∀ H', Nx H' → ∃ m', m' < m ∧ W (i + 1) m' H') ∧ ∀ x H', J.yld i H x H' → g x (wipe σ vs) H' fun σ2 H2 => wipe σ2 vs = wipe σ vs ∧ tYes σ2 H2 fun b H3 =>
        if b = true then wi1 σ2 H3 fun J1 H4 => ∃ W1 : Nat → Nat → Hp → Prop, (∃ m, W1 0 m H4) ∧ ∀ j k H, W1 j k H →
          (J1.stop j H ∧ Nx H) ∨ (J1.go j H ∧ ∃ Nx1 : Hp → Prop, (∀ H', Nx1 H' → ∃ k', k' < k ∧ W1 (j + 1) k' H') ∧ ∀ x H', J1.yld j H x H' → g1 x (wipe σ2 vs1) H' fun σ3 H5 => wipe σ3 vs1 = wipe σ2 vs1 ∧ tt1 σ3 H5 fun b H6 =>
            if b = true then te σ3 H6 fun y H7 => ∃ acc, H7 D = some (.lst acc) ∧ acc.length < sizeLine ∧ Nx1 (upd H7 D (.lst (acc ++ [y]))) else Nx1 H6)
        else Nx H3) := by
  refine ⟨fun i m H => m = n - i ∧ i ≤ n ∧ Same H1 H ∧ H D = some (.lst ((List.range i).flatMap F)), ⟨n, by simp, Nat.zero_le _, sm_new hD, upd_same⟩, ?_⟩
  rintro i m H ⟨rfl, hi, hS, hacc⟩
  by_cases hlt : i < n
  · refine .inr ⟨w.goes i H hlt (hG H hS), fun H' => Same H1 H' ∧ H' D = some (.lst ((List.range (i + 1)).flatMap F)), fun H' p' => ⟨n - (i + 1), by omega, rfl, hlt, p'⟩, fun x H' y => ?_⟩
    refine hs i x H H' _ hlt hS hacc (w.yields i H x H' hlt (hG H hS) y) fun H4 e4 h4 => ⟨e4, ?_⟩
    rw [h4, List.range_succ, List.flatMap_append]
    simp
  · have e : i = n := by omega
    subst e
    exact .inl ⟨w.stops H (hG H hS), hd H hS hacc⟩
end
/-! ### two names from a new pair -/
theorem g_pair {K : PySem.W.Frag} {i j : Nat} {x y : V} {T : Addr} {H : Hp} {σ : St} {Q : St → Hp → Prop} (h : Q ((σ.set i (some x)).set j (some y)) (upd H T (.tup [x, y]))) :
    gTup K 2 (gCons (gName i) (gCons (gName j) gNil)) (.ref T) σ (upd H T (.tup [x, y])) Q :=
  ⟨T, [x, y], rfl, SqT.of upd_same, rfl, x, [y], rfl, y, [], rfl, rfl, h⟩
theorem rg_map {α : Type} {β : Type} (xs : List α) (f : α → β) (d : α) : (List.range xs.length).map (fun i => f (xs.getD i d)) = xs.map f := by
  apply List.ext_getElem?
  intro i
  rw [List.getElem?_map, List.getElem?_map]
  by_cases h : i < xs.length
  · simp [h, List.getElem?_range, List.getD_eq_getElem?_getD]
  · simp [h]
theorem rg_flat {α : Type} {β : Type} (xs : List α) (f : α → List β) (d : α) : (List.range xs.length).flatMap (fun i => f (xs.getD i d)) = xs.flatMap f := by
  rw [List.flatMap_def, List.flatMap_def, rg_map]
theorem getD_of {α : Type} {xs : List α} {i : Nat} {x d : α} (h : xs[i]? = some x) : xs.getD i d = x := by
  rw [List.getD_eq_getElem?_getD, h]; rfl
end VG

set_option Elab.async false
set_option linter.all false
set_option maxRecDepth 100000
set_option maxHeartbeats 4000000
namespace VG
open PySem PySem.Spec PyProof.Rows L2
theorem ip_mulS {X : Cx} : PIp X .Mult (rI CMul fun i j => .int (i * j)) := iop_mul
/-- whole numbers are whole -/
def sp_is_whole : Sp := fun vs H Q _ => ∃ i : Int, vs = [.int i] ∧ Q (.bl true) H
def sp_size_of : Sp := fun vs H Q _ => ∃ (p : Addr) (ls : List Nat), vs = [.ref p] ∧ H p = some (.tup (iv ls)) ∧ (∀ l ∈ ls, l ≤ 600) ∧ Q (.int (size ls : Nat)) H
section
variable {P : Program} {w : World} {K : PySem.W.Frag} {mg : Str → Option Value} {base : Heap} {a : Adr}
theorem ok_is_whole (T : Tx K mg a) : FnOk P w K mg base CX0 1 a.is_whole a.fd_is_whole ["thing"] sp_is_whole := by
  refine T.F_is_whole.ok sc_is_whole (fun vs H Q E h => ?_) (fun cdv A outer s H vs Q E hr h => ?_)
  · obtain ⟨i, rfl, _⟩ := h
    rfl
  · obtain ⟨i, rfl, k⟩ := h
    refine ⟨_, (pss_one (ps_ret (pe_and (pe_callB call_isi (by rfl) T.n_isinstance (by decide +kernel) (pa_cons (pv 0) (pa_cons (pe_bltn (v := .ty "int") (by rfl) T.n_int (by decide +kernel) rfl) pa_nil))) (pe_one (pe_not (pe_callB call_isi (by rfl) T.n_isinstance (by decide +kernel) (pa_cons (pv 0) (pa_cons (pe_bltn (v := .ty "bool") (by rfl) T.n_bool (by decide +kernel) rfl) pa_nil)))))))), ?_⟩
    refine ⟨_, rfl, .int i, .ty "int", .type "int", .type "int", true, rfl, .ty _, .base (.int i), kit_ty (by decide +kernel), true, rfl, iteT ?_⟩
    exact ⟨_, rfl, .int i, .ty "bool", .type "int", .type "bool", false, rfl, .ty _, .base (.int i), kit_ty (by decide +kernel), false, rfl, k⟩
theorem ok_size_of (T : Tx K mg a) : FnOk P w K mg base CX0 1 a.size_of a.fd_size_of ["sides"] sp_size_of := by
  refine T.F_size_of.ok sc_size_of (fun vs H Q E h => ?_) (fun cdv A outer s H vs Q E hr h => ?_)
  · obtain ⟨i, ls, rfl, _⟩ := h
    rfl
  · obtain ⟨p, ls, rfl, hp, hb, k⟩ := h
    refine ⟨_, (pss_cons (ps_set (i := 1) sc_size_of.nd rfl (Or.inl rfl) pe_int)
          (pss_cons (ps_for PassesOwn.never rfl (pi_tup (pv 0)) (pg_name (i := 2) sc_size_of.nd rfl (Or.inl rfl))
            (pss_one (ps_aug (i := 1) sc_size_of.nd rfl (Or.inl rfl) (pv 2) ip_mulS)))
          (pss_one (ps_ret (pv 1))))), ?_⟩
    refine ⟨_, rfl, p, rfl, ⟨_, SqT.of hp⟩, for_it walk_tup (fun i σ H' => H' = H ∧ ∃ v : Option V, σ = [some (.ref p), some (.int (size (ls.take i) : Nat)), v]) ⟨rfl, none, rfl⟩ (fun i σ H' _ q => by rw [q.1]; exact SqT.of hp) ?_ ?_⟩
    · rintro i x σ H1 H2 hi ⟨rfl, v, rfl⟩ ⟨rfl, hx⟩
      obtain ⟨n, hn, rfl⟩ := iv_get hx
      have e : size (ls.take (i + 1)) = size (ls.take i) * n := by
        rw [List.take_add_one, hn]
        exact size_snoc _ _
      have hn6 : n ≤ 600 := hb n (List.mem_of_getElem? hn)
      refine ⟨_, rfl, _, rfl, _, _, rfl, rfl, .inr ⟨by omega, by omega⟩, rfl, some (.int (n : Int)), ?_⟩
      rw [e, Int.natCast_mul]
      rfl
    · rintro σ H1 ⟨rfl, v, rfl⟩
      rw [iv_len, List.take_length]
      exact ⟨_, rfl, k⟩
end
end VG

set_option Elab.async false
set_option linter.all false
set_option maxRecDepth 100000
set_option maxHeartbeats 4000000
namespace VG
open PySem PySem.Spec PyProof.Rows L2
/-- good sides: at most five, their size (and each length) at most 600 -/
def Sides (ls : List Nat) : Prop := ls.length ≤ 5 ∧ size ls ≤ 600 ∧ ∀ l ∈ ls, l ≤ 600
def sp_vet_size : Sp := fun vs H Q _ => ∃ (p : Addr) (ls : List Nat), vs = [.ref p] ∧ H p = some (.tup (iv ls)) ∧ Sides ls ∧ Q .non H
def sp_vet_sides : Sp := fun vs H Q _ => ∃ (p : Addr) (ls : List Nat), vs = [.ref p] ∧ H p = some (.tup (iv ls)) ∧ Sides ls ∧ ∀ H', Same H H' → Q .non H'
section
variable {P : Program} {w : World} {K : PySem.W.Frag} {mg : Str → Option Value} {base : Heap} {a : Adr}
theorem ok_vet_size (T : Tx K mg a) : FnOk P w K mg base CX0 2 a.vet_size a.fd_vet_size ["lengths"] sp_vet_size := by
  obtain ⟨_, hc_MOST_PLACES⟩ := T.m_MOST_PLACES
  obtain ⟨_, hc_MOST_SIDES⟩ := T.m_MOST_SIDES
  have G_size_of := ok_size_of (P := P) (w := w) (base := base) T
  refine T.F_vet_size.ok sc_vet_size (fun vs H Q E h => ?_) (fun cdv A outer s H vs Q E hr h => ?_)
  · obtain ⟨i, ls, rfl, _⟩ := h
    rfl
  · obtain ⟨p, ls, rfl, hp, ⟨h5, h6, hb⟩, k⟩ := h
    refine ⟨_, (pss_cons (ps_set (i := 1) sc_vet_size.nd rfl (Or.inl rfl) (pe_call G_size_of (hr.mono (by decide)) rfl T.m_size_of T.F_size_of.kp (b_size_of T) .nil pass0 (pa_cons (pv 0) pa_nil)))
          (pss_one (ps_if (PW.pt (pw_or (pt_cmpR op_gt (pe_callB call_len_seq (by rfl) T.n_len (by decide +kernel) (pa_cons (pv 0) pa_nil)) (pe_glob (v := .int 5) (by rfl) hc_MOST_SIDES ⟨_, rfl⟩) (nomark _)) (pw_or (pt_cmpR op_gt (pv 1) (pe_glob (v := .int 600) (by rfl) hc_MOST_PLACES ⟨_, rfl⟩) (nomark _)) (pw_or1 (pt_cmpR op_gt (pe_callBK (cr_maxTD rfl hr) (by rfl) T.n_max (by decide +kernel) (pa_cons (pv 0) pa_nil) (pk_cons pe_int pk_nil)) (pe_glob (v := .int 600) (by rfl) hc_MOST_PLACES ⟨_, rfl⟩) (nomark _)))))) (pss_one ps_never) pss_nil))), ?_⟩
    refine ⟨_, rfl, p, ls, rfl, hp, hb, ?_⟩
    refine ⟨_, rfl, p, _, rfl, .inr (SqT.of hp), _, _, rfl, rfl, _, rfl, ifF (by rw [iv_len]; omega) ?_⟩
    refine ⟨_, rfl, _, _, rfl, rfl, _, rfl, ifF (by omega) ?_⟩
    refine ⟨_, rfl, p, _, _, rfl, rfl, SqT.of hp, fun m hm => ⟨_, _, rfl, rfl, _, rfl, ifF ?_ k⟩⟩
    rcases hm with e | e
    · omega
    · obtain ⟨n, hn, rfl⟩ := List.mem_map.mp e
      have := hb n hn
      omega
theorem ok_vet_sides (T : Tx K mg a) : FnOk P w K mg base CX0 3 a.vet_sides a.fd_vet_sides ["thing"] sp_vet_sides := by
  obtain ⟨_, hc_MOST_PLACES⟩ := T.m_MOST_PLACES
  have G_is_whole := ok_is_whole (P := P) (w := w) (base := base) T
  have G_vet_size := ok_vet_size (P := P) (w := w) (base := base) T
  refine T.F_vet_sides.ok sc_vet_sides (fun vs H Q E h => ?_) (fun cdv A outer s H vs Q E hr h => ?_)
  · obtain ⟨i, ls, rfl, _⟩ := h
    rfl
  · obtain ⟨p, ls, rfl, hp, ⟨h5, h6, hb⟩, k⟩ := h
    refine ⟨_, (pss_cons (ps_if (pt_not (pt_val (pe_callB call_isi (by rfl) T.n_isinstance (by decide +kernel) (pa_cons (pv 0) (pa_cons (pe_bltn (v := .ty "tuple") (by rfl) T.n_tuple (by decide +kernel) rfl) pa_nil))))) (pss_one ps_never) pss_nil)
          (pss_cons (ps_for PassesOwn.never rfl (pi_enumT (by rfl) T.n_enumerate (pa_cons (pv 0) pa_nil)) (pg_tup rfl (pgs_cons (pg_name (i := 1) sc_vet_sides.nd rfl (Or.inl rfl)) (pgs_cons (pg_name (i := 2) sc_vet_sides.nd rfl (Or.inl rfl)) pgs_nil)))
            (pss_one (ps_if (PW.pt (pw_or (pt_not (pt_val (pe_call G_is_whole (hr.mono (by decide)) rfl T.m_is_whole T.F_is_whole.kp (b_is_whole T) .nil pass0 (pa_cons (pv 2) pa_nil)))) (pw_or1 (pt_not (pt_chain op_le op_le pe_int (pv 2) (pe_glob (v := .int 600) (by rfl) hc_MOST_PLACES ⟨_, rfl⟩)))))) (pss_one ps_never) pss_nil)))
          (pss_one (ps_expr (pe_call G_vet_size (hr.mono (by decide)) rfl T.m_vet_size T.F_vet_size.kp (b_vet_size T) .nil pass0 (pa_cons (pv 0) pa_nil)))))), ?_⟩
    refine ⟨_, rfl, .ref p, .ty "tuple", .type "tuple", .type "tuple", true, rfl, .ty _, .base (.tup hp), kit_ty (by decide +kernel), true, rfl, iteF ?_⟩
    refine ⟨_, rfl, p, _, rfl, SqT.of hp, for_it walk_enumT (fun i σ H' => Same H H' ∧ ∃ v1 v2, σ = [some (.ref p), v1, v2]) ⟨Same.refl H, none, none, rfl⟩ (fun i σ H' _ q => SqT.of (q.1 _ _ hp)) ?_ ?_⟩
    · rintro i x σ H1 H2 hi ⟨s1, v1, v2, rfl⟩ ⟨T', x1, x2, rfl, hT, rfl, e1, e2⟩
      obtain ⟨n, hn, rfl⟩ := iv_get e2
      have hn6 : n ≤ 600 := hb n (List.mem_of_getElem? hn)
      refine g_pair ?_
      refine ⟨_, rfl, n, rfl, true, rfl, iteF ?_⟩
      refine ⟨_, rfl, _, _, rfl, rfl, _, rfl, ifT (by omega) ⟨_, _, rfl, rfl, _, rfl, ifNF (by omega) ?_⟩⟩
      exact ⟨sm_upd s1 hT, _, _, rfl⟩
    · rintro σ H1 ⟨s1, v1, v2, rfl⟩
      exact ⟨_, rfl, p, ls, rfl, s1 _ _ hp, ⟨h5, h6, hb⟩, k _ s1⟩
end
end VG

set_option Elab.async false
set_option linter.all false
set_option maxRecDepth 100000
set_option maxHeartbeats 4000000
namespace VG
open PySem PySem.Spec PyProof.Rows L2
section
variable {J : It} {n : Nat} {G : Hp → Prop} {Y : Nat → Hp → V → Hp → Prop}
theorem lc_inG (w : Walk J n G Y) {g : TG} {te : TE} {vs : List Nat} {σ : St} {H4 : Hp} {D : Addr} {Nx : Hp → Prop} (I : Nat → List V → Hp → Prop) (acc0 : List V) (hn : acc0.length + n ≤ 100000) (h0 : H4 D = some (.lst acc0)) (hi0 : I 0 acc0 H4)
    (hG : ∀ j acc H, I j acc H → G H) (hI : ∀ j acc H ys zs, I j acc H → H D = some (.lst ys) → I j acc (upd H D (.lst zs)))
    (hs : ∀ j x H H' acc (k : VK), j < n → I j acc H → H D = some (.lst acc) → Y j H x H' → (∀ y H7, H7 D = some (.lst acc) → I (j + 1) (acc ++ [y]) H7 → k y H7) → g x (wipe σ vs) H' fun σ3 H5 => wipe σ3 vs = wipe σ vs ∧ te σ3 H5 k)
    (hd : ∀ acc H, H D = some (.lst acc) → acc.length = acc0.length + n → I n acc H → Nx H) :
    ∃ W1 : Nat → Nat → Hp → Prop, (∃ m, W1 0 m H4) ∧ ∀ j k H, W1 j k H →
      (J.stop j H ∧ Nx H) ∨ (J.go j H ∧ ∃ Nx1 : Hp → Prop, (∀ H', Nx1 H' → ∃ k', k' < k ∧ W1 (j + 1) k' H') ∧ ∀ x H', J.yld j H x H' → g x (wipe σ vs) H' fun σ3 H5 => wipe σ3 vs = wipe σ vs ∧ tYes σ3 H5 fun b H6 =>
        if b = true then te σ3 H6 fun y H7 => ∃ acc, H7 D = some (.lst acc) ∧ acc.length < sizeLine ∧ Nx1 (upd H7 D (.lst (acc ++ [y]))) else Nx1 H6) := by
  refine ⟨fun j m H => m = n - j ∧ j ≤ n ∧ ∃ acc, H D = some (.lst acc) ∧ acc.length = acc0.length + j ∧ I j acc H, ⟨n, by simp, Nat.zero_le _, acc0, h0, rfl, hi0⟩, ?_⟩
  rintro j m H ⟨rfl, hj, acc, hacc, hl, hI0⟩
  by_cases hlt : j < n
  · refine .inr ⟨w.goes j H hlt (hG j acc H hI0), fun H' => ∃ acc, H' D = some (.lst acc) ∧ acc.length = acc0.length + (j + 1) ∧ I (j + 1) acc H', fun H' p' => ⟨n - (j + 1), by omega, rfl, hlt, p'⟩, fun x H' y => ?_⟩
    refine hs j x H H' acc _ hlt hI0 hacc (w.yields j H x H' hlt (hG j acc H hI0) y) fun y H7 h7 hI7 => ?_
    exact ⟨acc, h7, bigL (by omega), acc ++ [y], upd_same, by rw [List.length_append, List.length_singleton]; omega, hI _ _ _ _ _ hI7 h7⟩
  · have e : j = n := by omega
    subst e
    exact .inl ⟨w.stops H (hG _ _ _ hI0), hd acc H hacc hl hI0⟩
theorem lc2_gen (w : Walk J n G Y) {g g1 : TG} {wi1 : TI} {tt1 : TT} {te : TE} {vs vs1 : List Nat} {σ : St} {H1 : Hp} {D : Addr} {Qd : Hp → Prop} (I : Nat → List V → Hp → Prop) (h0 : I 0 [] (upd H1 D (.lst []))) (hG : ∀ i acc H, I i acc H → G H)
    (hs : ∀ i x H H' acc (Nx : Hp → Prop), i < n → I i acc H → H D = some (.lst acc) → Y i H x H' → (∀ acc' H4, H4 D = some (.lst acc') → I (i + 1) acc' H4 → Nx H4) →
      g x (wipe σ vs) H' fun σ2 H2 => wipe σ2 vs = wipe σ vs ∧ wi1 σ2 H2 fun J1 H4 => ∃ W1 : Nat → Nat → Hp → Prop, (∃ m, W1 0 m H4) ∧ ∀ j k H, W1 j k H →
        (J1.stop j H ∧ Nx H) ∨ (J1.go j H ∧ ∃ Nx1 : Hp → Prop, (∀ H', Nx1 H' → ∃ k', k' < k ∧ W1 (j + 1) k' H') ∧ ∀ x H', J1.yld j H x H' → g1 x (wipe σ2 vs1) H' fun σ3 H5 => wipe σ3 vs1 = wipe σ2 vs1 ∧ tt1 σ3 H5 fun b H6 =>
          if b = true then te σ3 H6 fun y H7 => ∃ acc, H7 D = some (.lst acc) ∧ acc.length < sizeLine ∧ Nx1 (upd H7 D (.lst (acc ++ [y]))) else Nx1 H6))
    (hd : ∀ acc H, H D = some (.lst acc) → I n acc H → Qd H) :
    ∃ W : Nat → Nat → Hp → Prop, (∃ m, W 0 m (upd H1 D (.lst []))) ∧ ∀ i m H, W i m H →
      (J.stop i H ∧ Qd H) ∨ (J.go i H ∧ ∃ Nx : Hp → Prop, (∀ H', Nx H' → ∃ m', m' < m ∧ W (i + 1) m' H') ∧ ∀ x H', J.yld i H x H' → g x (wipe σ vs) H' fun σ2 H2 => wipe σ2 vs = wipe σ vs ∧ tYes σ2 H2 fun b H3 =>
        if b = true then wi1 σ2 H3 fun J1 H4 => ∃ W1 : Nat → Nat → Hp → Prop, (∃ m, W1 0 m H4) ∧ ∀ j k H, W1 j k H →
          (J1.stop j H ∧ Nx H) ∨ (J1.go j H ∧ ∃ Nx1 : Hp → Prop, (∀ H', Nx1 H' → ∃ k', k' < k ∧ W1 (j + 1) k' H') ∧ ∀ x H', J1.yld j H x H' → g1 x (wipe σ2 vs1) H' fun σ3 H5 => wipe σ3 vs1 = wipe σ2 vs1 ∧ tt1 σ3 H5 fun b H6 =>
            if b = true then te σ3 H6 fun y H7 => ∃ acc, H7 D = some (.lst acc) ∧ acc.length < sizeLine ∧ Nx1 (upd H7 D (.lst (acc ++ [y]))) else Nx1 H6)
        else Nx H3) := by
  refine ⟨fun i m H => m = n - i ∧ i ≤ n ∧ ∃ acc, H D = some (.lst acc) ∧ I i acc H, ⟨n, by simp, Nat.zero_le _, [], upd_same, h0⟩, ?_⟩
  rintro i m H ⟨rfl, hi, acc, hacc, hI0⟩
  by_cases hlt : i < n
  · refine .inr ⟨w.goes i H hlt (hG _ _ H hI0), fun H' => ∃ acc, H' D = some (.lst acc) ∧ I (i + 1) acc H', fun H' p' => ⟨n - (i + 1), by omega, rfl, hlt, p'⟩, fun x H' y => ?_⟩
    exact hs i x H H' acc _ hlt hI0 hacc (w.yields i H x H' hlt (hG _ _ H hI0) y) fun acc' H4 h4 hI4 => ⟨acc', h4, hI4⟩
  · have e : i = n := by omega
    subst e
    exact .inl ⟨w.stops H (hG _ _ H hI0), hd acc H hacc hI0⟩
end
def rListOf (K : PySem.W.Frag) : List V → Hp → VK → Prop := fun xs H Q => ∃ p ys, xs = [.ref p] ∧ (SqL K H p ys ∨ SqT K H p ys) ∧ ∀ l, H l = none → Q (.ref l) (upd H l (.lst ys))
/-! ### lists of tuples -/
/-- the values xs are tuples that hold ps -/
def Tups (H : Hp) (xs : List V) (ps : List (List Nat)) : Prop := xs.length = ps.length ∧ ∀ (i : Nat) (x : V), xs[i]? = some x → ∃ (t : Addr) (p : List Nat), x = .ref t ∧ ps[i]? = some p ∧ H t = some (.tup (iv p))
theorem Tups.same {H H' : Hp} {xs : List V} {ps : List (List Nat)} (h : Tups H xs ps) (e : Same H H') : Tups H' xs ps :=
  ⟨h.1, fun i x hx => let ⟨t, p, h1, h2, h3⟩ := h.2 i x hx; ⟨t, p, h1, h2, e _ _ h3⟩⟩
theorem Tups.nil {H : Hp} : Tups H [] [] := ⟨rfl, fun i x h => by simp at h⟩
theorem Tups.snoc {H : Hp} {xs : List V} {ps : List (List Nat)} {t : Addr} {p : List Nat} (h : Tups H xs ps) (e : H t = some (.tup (iv p))) : Tups H (xs ++ [.ref t]) (ps ++ [p]) := by
  refine ⟨by rw [List.length_append, List.length_append, h.1]; rfl, fun i x hx => ?_⟩
  by_cases hi : i < xs.length
  · rw [List.getElem?_append_left hi] at hx
    obtain ⟨t', p', h1, h2, h3⟩ := h.2 i x hx
    exact ⟨t', p', h1, by rw [List.getElem?_append_left (by rw [← h.1]; exact hi)]; exact h2, h3⟩
  · rw [List.getElem?_append_right (by omega)] at hx
    have e0 : i - xs.length = 0 := by
      have := (List.getElem?_eq_some_iff.mp hx).1
      simp at this
      omega
    rw [e0] at hx
    have ex : V.ref t = x := Option.some.inj hx
    exact ⟨t, p, ex.symm, by rw [List.getElem?_append_right (by rw [← h.1]; omega), ← h.1, e0]; rfl, e⟩
theorem Tups.mutD {H : Hp} {xs : List V} {ps : List (List Nat)} {D : Addr} {ys zs : List V} (h : Tups H xs ps) (hD : H D = some (.lst ys)) : Tups (upd H D (.lst zs)) xs ps :=
  ⟨h.1, fun i x hx => let ⟨t, p, h1, h2, h3⟩ := h.2 i x hx; ⟨t, p, h1, h2, by rw [upd_ne (ne_of h3 hD (by intro q; cases q))]; exact h3⟩⟩
theorem Tups.get {H : Hp} {xs : List V} {ps : List (List Nat)} {i : Nat} {p : List Nat} (h : Tups H xs ps) (hp : ps[i]? = some p) : ∃ t, xs[i]? = some (.ref t) ∧ H t = some (.tup (iv p)) := by
  have hi : i < xs.length := by rw [h.1]; exact (List.getElem?_eq_some_iff.mp hp).1
  obtain ⟨t, p', h1, h2, h3⟩ := h.2 i _ (List.getElem?_eq_getElem hi)
  rw [hp] at h2
  cases h2
  exact ⟨t, by rw [List.getElem?_eq_getElem hi, h1], h3⟩
end VG

set_option Elab.async false
set_option linter.all false
set_option maxRecDepth 100000
set_option maxHeartbeats 4000000
namespace VG
open PySem PySem.Spec PyProof.Rows L2
theorem places_len {ls : List Nat} {p : List Nat} {i : Nat} (h : (places ls)[i]? = some p) : p.length = ls.length := (places_isPlace ls p (List.mem_of_getElem? h)).1
def sp_places_of : Sp := fun vs H Q _ => ∃ (p : Addr) (ls : List Nat), vs = [.ref p] ∧ H p = some (.tup (iv ls)) ∧ Sides ls ∧ ∀ H' q xs, Same H H' → H q = none → H' q = some (.lst xs) → Tups H' xs (places ls) → Q (.ref q) H'
section
variable {P : Program} {w : World} {K : PySem.W.Frag} {mg : Str → Option Value} {base : Heap} {a : Adr}
theorem ok_places_of (T : Tx K mg a) : FnOk P w K mg base CX0 2 a.places_of a.fd_places_of ["sides"] sp_places_of := by
  have G_size_of := ok_size_of (P := P) (w := w) (base := base) T
  refine T.F_places_of.ok sc_places_of (fun vs H Q E h => ?_) (fun cdv A outer s H vs Q E hr h => ?_)
  · obtain ⟨i, ls, rfl, _⟩ := h
    rfl
  · obtain ⟨p, ls, rfl, hp, ⟨h5, h6, hb⟩, k⟩ := h
    refine ⟨_, (pss_cons (ps_if (pt_cmpR op_eq (pe_call G_size_of (hr.mono (by decide)) rfl T.m_size_of T.F_size_of.kp (b_size_of T) .nil pass0 (pa_cons (pv 0) pa_nil)) pe_int (nomark _)) (pss_one (ps_ret (pe_lst pa_nil))) pss_nil)
          (pss_cons (ps_set (i := 1) sc_places_of.nd rfl (Or.inl rfl) (pe_lst (pa_cons (pe_tup pa_nil) pa_nil)))
          (pss_cons (ps_for PassesOwn.never rfl (pi_tup (pv 0)) (pg_name (i := 2) sc_places_of.nd rfl (Or.inr rfl))
            (pss_one (ps_setLc2 (i := 1) (own := [("place", 3), ("k", 4)]) rfl sc_places_of.nd rfl rfl (sw_true rfl rfl rfl (by decide +kernel)) (pi_list (pv 1)) (blkOk_by (N := ["sides", "found", "length", "place", "k"]) (sc := defScope s_places_of) (own := [("place", 3), ("k", 4)]) (by decide +kernel)) (vs1 := [4]) (by decide) (fun _ _ _ _ _ => (pg_name (i := 3) sc_places_of.nd rfl (Or.inl rfl))) (fun _ _ _ _ _ => pts_nil) (fun _ _ _ _ _ => (pi_range1 (by rfl) T.n_range (pa_cons (pv 2) pa_nil))) (fun _ _ _ _ _ => (pg_name (i := 4) sc_places_of.nd rfl (Or.inl rfl))) (fun _ _ _ _ _ => pts_nil) (fun _ _ _ _ _ => (pe_op (r := rCatA K) op_catA (pv 3) (pe_tup (pa_cons (pv 4) pa_nil)))))))
          (pss_one (ps_ret (pv 1)))))), ?_⟩
    refine ⟨_, rfl, p, ls, rfl, hp, hb, rfl, _, rfl, ?_⟩
    refine ite2 (fun hz => ?_) (fun hz => ?_)
    · have hz' : size ls = 0 := by
        have := of_decide_eq_true hz
        injection this with h1
        omega
      refine ⟨Nat.zero_le _, fun q hq => k _ q [] (sm_new hq) hq upd_same ?_⟩
      rw [places_zero hz']
      exact Tups.nil
    · have hz' : 0 < size ls := by
        apply Nat.pos_of_ne_zero
        intro e
        apply hz
        rw [e]
        exact decide_eq_true rfl
      refine ⟨Nat.zero_le _, fun t0 ht0 => ⟨by show 1 ≤ sizeLine; decide, fun q0 hq0 => ?_⟩⟩
      have s0 : Same H (upd (upd H t0 (.tup [])) q0 (.lst [.ref t0])) := sm_upd (sm_new ht0) hq0
      refine ⟨_, rfl, p, rfl, ⟨_, SqT.of (s0 _ _ hp)⟩, for_it walk_tup (fun i σ H' => Same H H' ∧ ∃ q xs v, H q = none ∧ σ = [some (.ref p), some (.ref q), v, none, none] ∧ H' q = some (.lst xs) ∧ Tups H' xs (places (ls.take i)))
        ⟨s0, q0, [.ref t0], none, ?_, rfl, upd_same, ?_⟩ (fun i σ H' _ q => SqT.of (q.1 _ _ hp)) ?_ ?_⟩
      · exact (sm_new ht0).free hq0
      · exact Tups.snoc (xs := []) (ps := []) Tups.nil (p := []) (by rw [upd_ne (ne_of_none upd_same hq0), upd_same]; rfl)
      · rintro i x σ H0 H1 hi ⟨s1, q, xs, v, fq, rfl, hq, tq⟩ ⟨rfl, hx⟩
        obtain ⟨l, hl, rfl⟩ := iv_get hx
        have e1 : ls.take (i + 1) = ls.take i ++ [l] := by rw [List.take_add_one, hl]; rfl
        have hsz : size (ls.take (i + 1)) ≤ 600 := Nat.le_trans (size_take_le hz' _) h6
        have hl6 : l ≤ 600 := hb l (List.mem_of_getElem? hl)
        have hlen : (places (ls.take i)).length * l ≤ 600 := by
          rw [places_length]
          rwa [e1, size_snoc] at hsz
        generalize hps : places (ls.take i) = ps at tq hlen
        refine ⟨_, rfl, q, rfl, ⟨xs, SqL.of hq⟩, fun D hD => ?_⟩
        have Dq : q ≠ D := ne_of_none hq hD
        refine lc2_gen (walk_list (xs := xs)) (fun i acc H' => Same H1 H' ∧ Tups H' acc ((ps.take i).flatMap fun p => ext1 p l)) ⟨sm_new hD, Tups.nil⟩ (fun i acc H' p => SqL.of (p.1 _ _ hq)) ?_ ?_
        · rintro i2 x H0 H2 acc Nx hi2 ⟨s2, t2⟩ hacc ⟨rfl, hx2⟩ hk
          obtain ⟨t, pl, rfl, hpl, ht⟩ := tq.2 i2 x hx2
          have hacl : acc.length = i2 * l := by
            rw [t2.1]
            have : ((ps.take i2).flatMap fun p => ext1 p l) = ext (ps.take i2) l := rfl
            rw [this, ext_length, List.length_take, Nat.min_eq_left]
            have := (List.getElem?_eq_some_iff.mp hpl).1
            omega
          have hi3 : i2 < ps.length := (List.getElem?_eq_some_iff.mp hpl).1
          have hb1 : i2 * l ≤ 600 := Nat.le_trans (Nat.mul_le_mul_right _ (Nat.le_of_lt hi3)) hlen
          refine ⟨rfl, _, rfl, _, rfl, by omega, by omega, ?_⟩
          have el : (l : Int).toNat = l := by omega
          rw [el]
          have s3 := s2
          refine lc_inG walk_range (fun j acc H' => Same H1 H' ∧ Tups H' acc (((ps.take i2).flatMap fun p => ext1 p l) ++ (List.range j).map fun k => pl ++ [k])) acc (by omega) hacc ⟨s2, by simpa using t2⟩ (fun _ _ _ _ => trivial) ?_ ?_ ?_
          · rintro j acc' H' ys zs ⟨s', t'⟩ hy
            exact ⟨sm_mut s' hD, t'.mutD hy⟩
          · rintro j x H0 H3 acc' k' hj ⟨s4, t4⟩ hacc' ⟨rfl, rfl⟩ hk'
            have ht4 : H3 t = some (.tup (iv pl)) := s4 _ _ ht
            have ej : (0 : Int) + (j : Int) = (j : Int) := Int.zero_add _
            refine ⟨rfl, _, rfl, _, rfl, by show 1 ≤ sizeLine; decide, fun t5 ht5 => ?_⟩
            have s5 : Same H3 (upd H3 t5 (.tup [.int (0 + (j : Int))])) := sm_new ht5
            have e5 : ((List.range (j + 1)).map fun k => pl ++ [k]) = ((List.range j).map fun k => pl ++ [k]) ++ [pl ++ [j]] := by rw [List.range_succ, List.map_append]; rfl
            refine ⟨t, t5, iv pl, [.int (0 + (j : Int))], rfl, rfl, SqT.of (s5 _ _ ht4), SqT.of upd_same, big (by have := places_len (hps ▸ hpl); simp; rw [this, List.length_take]; omega), fun en => ?_, fun _ en => (nomatch en), fun _ _ t6 ht6 => ?_⟩
            · have en' : pl = [] := by simpa using en
              subst en'
              refine hk' _ _ (s5 _ _ hacc') ⟨s4.trans s5, ?_⟩
              rw [e5, ← List.append_assoc]
              exact (t4.same s5).snoc (by rw [upd_same, ej]; rfl)
            · have s6 := sm_upd (o := .tup (iv pl ++ [.int (0 + (j : Int))])) s5 ht6
              refine hk' _ _ (s6 _ _ hacc') ⟨s4.trans s6, ?_⟩
              rw [e5, ← List.append_assoc]
              exact (t4.same s6).snoc (by rw [upd_same, ej]; simp [iv])
          · rintro acc' H3 hacc' hl' ⟨s4, t4⟩
            refine hk acc' H3 hacc' ⟨s4, ?_⟩
            rw [List.take_add_one, hpl, List.flatMap_append]
            simpa [ext1] using t4
        · rintro acc H2 hacc ⟨s2, t2⟩
          have e2 : ps.take xs.length = ps := by rw [tq.1, List.take_length]
          rw [e2] at t2
          refine ⟨s1.trans s2, D, acc, _, s1.free hD, rfl, hacc, ?_⟩
          rw [e1, places_snoc, hps]
          exact t2
      · rintro σ H1 ⟨s1, q, xs, v, fq, rfl, hq, tq⟩
        rw [iv_len, List.take_length] at tq
        exact ⟨_, rfl, k H1 q xs s1 fq hq tq⟩
end
end VG

set_option Elab.async false
set_option linter.all false
set_option maxRecDepth 100000
set_option maxHeartbeats 4000000
namespace VG
open PySem PySem.Spec PyProof.Rows L2
/-! ### the attributes of pages, rooms, views -/
def pgf (kl : Addr) (h : Int) : List (Str × V) := [("kept", .ref kl), ("holders", .int h)]
def rf (many : Nat) (w : Nat) (pl : Addr) (cp : Int) : List (Str × V) := [("many", .int (many : Int)), ("width", .int (w : Int)), ("pages", .ref pl), ("copies", .int cp), ("shuts", .int 0)]
def vf (r tl : Addr) (b : Int) (ts : Addr) : List (Str × V) := [("held", .ref r), ("lengths", .ref tl), ("begin", .int b), ("steps", .ref ts)]
/-! ### rooms -/
def chunk (cs : List Int) (w j : Nat) : List Int := (cs.drop (j * w)).take w
/-- a page: its object at p.1, its list at p.2 -/
def PgAt (a : Adr) (H : Hp) (p : Addr × Addr) (ch : List Int) : Prop := ∃ (dx : Addr) (hold : Int), 1 ≤ hold ∧ H p.1 = some (.ins a.Page dx (pgf p.2 hold)) ∧ H p.2 = some (.lst (zv ch))
structure RoomAt (a : Adr) (H : Hp) (r pl : Addr) (ps : List (Addr × Addr)) (w : Nat) (cs : List Int) : Prop where
  ob : ∃ dx cp, H r = some (.ins a.Room dx (rf cs.length w pl cp))
  lst : H pl = some (.lst (ps.map fun p => V.ref p.1))
  np : cs.length ≤ ps.length * w
  pg : ∀ (j : Nat) (p : Addr × Addr), ps[j]? = some p → PgAt a H p (chunk cs w j)
  nd1 : (ps.map (·.1)).Nodup
  nd2 : (ps.map (·.2)).Nodup
  npl : ∀ p ∈ ps, p.2 ≠ pl
  w0 : 1 ≤ w
  w1 : w ≤ 64
  big : cs.length ≤ 20000
def guts (r pl : Addr) (ps : List (Addr × Addr)) (b : Addr) : Prop := b = r ∨ b = pl ∨ ∃ p ∈ ps, b = p.1 ∨ b = p.2
theorem RoomAt.same {a : Adr} {H H' : Hp} {r pl : Addr} {ps : List (Addr × Addr)} {w : Nat} {cs : List Int} (R : RoomAt a H r pl ps w cs) (e : Same H H') : RoomAt a H' r pl ps w cs :=
  ⟨let ⟨dx, cp, h⟩ := R.ob; ⟨dx, cp, e _ _ h⟩, e _ _ R.lst, R.np, fun j p h => let ⟨dx, hold, h0, h1, h2⟩ := R.pg j p h; ⟨dx, hold, h0, e _ _ h1, e _ _ h2⟩, R.nd1, R.nd2, R.npl, R.w0, R.w1, R.big⟩
theorem RoomAt.known {a : Adr} {H : Hp} {r pl : Addr} {ps : List (Addr × Addr)} {w : Nat} {cs : List Int} (R : RoomAt a H r pl ps w cs) {b : Addr} (g : guts r pl ps b) : ∃ o, H b = some o := by
  rcases g with e | e | ⟨p, hp, e⟩
  · obtain ⟨dx, cp, h⟩ := R.ob
    exact ⟨_, e ▸ h⟩
  · exact ⟨_, e ▸ R.lst⟩
  · obtain ⟨j, hj, ej⟩ := List.getElem_of_mem hp
    obtain ⟨dx, hold, _, h1, h2⟩ := R.pg j p (by rw [List.getElem?_eq_getElem hj, ej])
    rcases e with e | e
    · exact ⟨_, e ▸ h1⟩
    · exact ⟨_, e ▸ h2⟩
/-- of a cell: its page and place -/
theorem RoomAt.at_ {a : Adr} {H : Hp} {r pl : Addr} {ps : List (Addr × Addr)} {w : Nat} {cs : List Int} (R : RoomAt a H r pl ps w cs) {c : Nat} (hc : c < cs.length) :
    ∃ p, ps[c / w]? = some p ∧ PgAt a H p (chunk cs w (c / w)) ∧ (chunk cs w (c / w))[c % w]? = some cs[c] := by
  have hw : 0 < w := R.w0
  have h1 : c / w < ps.length := (Nat.div_lt_iff_lt_mul hw).mpr (Nat.lt_of_lt_of_le hc R.np)
  refine ⟨ps[c / w], List.getElem?_eq_getElem h1, R.pg _ _ (List.getElem?_eq_getElem h1), ?_⟩
  unfold chunk
  rw [List.getElem?_take_of_lt (Nat.mod_lt _ hw), List.getElem?_drop, Nat.mul_comm, Nat.div_add_mod, List.getElem?_eq_getElem hc]
/-! ### views -/
def ViewAt (a : Adr) (H : Hp) (v r : Addr) (ls : List Nat) (b : Int) (ss : List Int) : Prop :=
  ∃ dx tl ts, H v = some (.ins a.View dx (vf r tl b ts)) ∧ H tl = some (.tup (iv ls)) ∧ H ts = some (.tup (zv ss))
theorem ViewAt.same {a : Adr} {H H' : Hp} {v r : Addr} {ls : List Nat} {b : Int} {ss : List Int} (R : ViewAt a H v r ls b ss) (e : Same H H') : ViewAt a H' v r ls b ss :=
  let ⟨dx, tl, ts, h1, h2, h3⟩ := R; ⟨dx, tl, ts, e _ _ h1, e _ _ h2, e _ _ h3⟩
/-! ### what a writer of a room keeps -/
def Kg (r pl : Addr) (ps : List (Addr × Addr)) (H H' : Hp) (ps' : List (Addr × Addr)) : Prop :=
  (∀ b o, H b = some o → ¬ guts r pl ps b → H' b = some o) ∧ ∀ b, guts r pl ps' b → guts r pl ps b ∨ H b = none
theorem Kg.refl (r pl : Addr) (ps : List (Addr × Addr)) (H : Hp) : Kg r pl ps H H ps := ⟨fun _ _ h _ => h, fun _ h => .inl h⟩
theorem Kg.of_same {r pl : Addr} {ps : List (Addr × Addr)} {H H' : Hp} (e : Same H H') : Kg r pl ps H H' ps := ⟨fun b o h _ => e b o h, fun _ h => .inl h⟩
theorem Kg.trans {r pl : Addr} {ps ps1 ps2 : List (Addr × Addr)} {H H1 H2 : Hp} (a : Kg r pl ps H H1 ps1) (b : Kg r pl ps1 H1 H2 ps2) : Kg r pl ps H H2 ps2 := by
  have key : ∀ c, guts r pl ps1 c ∨ H1 c = none → guts r pl ps c ∨ H c = none := by
    intro c h
    rcases h with h | h
    · exact a.2 c h
    · by_cases g : guts r pl ps c
      · exact .inl g
      · cases e : H c with
        | none => exact .inr rfl
        | some o =>
          have := a.1 c o e g
          rw [h] at this
          cases this
  refine ⟨fun c o h g => b.1 c o (a.1 c o h g) fun g1 => ?_, fun c h => key c (b.2 c h)⟩
  rcases a.2 c g1 with q | q
  · exact g q
  · rw [h] at q
    cases q
theorem Kg.keep {r pl : Addr} {ps ps' : List (Addr × Addr)} {H H' : Hp} (k : Kg r pl ps H H' ps') {b : Addr} {o : HO} (h : H b = some o) (g : ¬ guts r pl ps b) : H' b = some o ∧ ¬ guts r pl ps' b := by
  refine ⟨k.1 b o h g, fun g' => ?_⟩
  rcases k.2 b g' with q | q
  · exact g q
  · rw [h] at q
    cases q
/-- tuples and views are not among a room's own -/
theorem RoomAt.no_tup {a : Adr} {H : Hp} {r pl : Addr} {ps : List (Addr × Addr)} {w : Nat} {cs : List Int} (R : RoomAt a H r pl ps w cs) {b : Addr} {xs : List V} (h : H b = some (.tup xs)) : ¬ guts r pl ps b := by
  intro g
  rcases g with e | e | ⟨p, hp, e⟩
  · obtain ⟨dx, cp, h1⟩ := R.ob
    rw [e, h1] at h; cases h
  · rw [e, R.lst] at h; cases h
  · obtain ⟨j, hj, ej⟩ := List.getElem_of_mem hp
    obtain ⟨dx, hold, _, h1, h2⟩ := R.pg j p (by rw [List.getElem?_eq_getElem hj, ej])
    rcases e with e | e
    · rw [e, h1] at h; cases h
    · rw [e, h2] at h; cases h
theorem RoomAt.no_view {a : Adr} {H : Hp} {r pl : Addr} {ps : List (Addr × Addr)} {w : Nat} {cs : List Int} (R : RoomAt a H r pl ps w cs) {b C dx r' tl ts : Addr} {z : Int} (h : H b = some (.ins C dx (vf r' tl z ts))) : ¬ guts r pl ps b := by
  intro g
  rcases g with e | e | ⟨p, hp, e⟩
  · obtain ⟨dx', cp, h1⟩ := R.ob
    rw [e, h1] at h
    injection h with h
    injection h with _ _ h
    unfold rf vf at h
    injection h with h _
    injection h with h _
    exact absurd h (by decide)
  · rw [e, R.lst] at h; cases h
  · obtain ⟨j, hj, ej⟩ := List.getElem_of_mem hp
    obtain ⟨dx', hold, _, h1, h2⟩ := R.pg j p (by rw [List.getElem?_eq_getElem hj, ej])
    rcases e with e | e
    · rw [e, h1] at h
      injection h with h
      injection h with _ _ h
      unfold pgf vf at h
      injection h with h _
      injection h with h _
      exact absurd h (by decide)
    · rw [e, h2] at h; cases h
theorem ViewAt.keep {a : Adr} {H H' : Hp} {v r : Addr} {ls : List Nat} {b : Int} {ss : List Int} {r' pl : Addr} {ps ps' : List (Addr × Addr)} {w : Nat} {cs : List Int} (V : ViewAt a H v r ls b ss) (R : RoomAt a H r' pl ps w cs) (k : Kg r' pl ps H H' ps') : ViewAt a H' v r ls b ss := by
  obtain ⟨dx, tl, ts, h1, h2, h3⟩ := V
  exact ⟨dx, tl, ts, k.1 _ _ h1 (R.no_view h1), k.1 _ _ h2 (R.no_tup h2), k.1 _ _ h3 (R.no_tup h3)⟩
theorem Tups.keep {H H' : Hp} {xs : List V} {qs : List (List Nat)} {a : Adr} {r' pl : Addr} {ps ps' : List (Addr × Addr)} {w : Nat} {cs : List Int} (h : Tups H xs qs) (R : RoomAt a H r' pl ps w cs) (k : Kg r' pl ps H H' ps') : Tups H' xs qs :=
  ⟨h.1, fun i x hx => let ⟨t, p, h1, h2, h3⟩ := h.2 i x hx; ⟨t, p, h1, h2, k.1 _ _ h3 (R.no_tup h3)⟩⟩
/-! ### a room and a twin of it -/
structure Sys (a : Adr) (H : Hp) (r pl : Addr) (ps : List (Addr × Addr)) (w : Nat) (cs : List Int) (t plt : Addr) (pst : List (Addr × Addr)) (wt : Nat) (as : List Int) : Prop where
  main : RoomAt a H r pl ps w cs
  twin : RoomAt a H t plt pst wt as
  rt : r ≠ t
  pp : pl ≠ plt
  x1 : ∀ p ∈ ps, p.2 ≠ plt
  x2 : ∀ q ∈ pst, q.2 ≠ pl
  x3 : ∀ p ∈ ps, ∀ q ∈ pst, p.1 = q.1 ∨ p.2 = q.2 → p = q
  x4 : ∀ p ∈ ps, p ∈ pst → ∃ dx hold, 2 ≤ hold ∧ H p.1 = some (.ins a.Page dx (pgf p.2 hold))
theorem Sys.same {a : Adr} {H H' : Hp} {r pl : Addr} {ps : List (Addr × Addr)} {w : Nat} {cs : List Int} {t plt : Addr} {pst : List (Addr × Addr)} {wt : Nat} {as : List Int} (S : Sys a H r pl ps w cs t plt pst wt as) (e : Same H H') : Sys a H' r pl ps w cs t plt pst wt as :=
  ⟨S.main.same e, S.twin.same e, S.rt, S.pp, S.x1, S.x2, S.x3, fun p h1 h2 => let ⟨dx, hold, g1, g2⟩ := S.x4 p h1 h2; ⟨dx, hold, g1, e _ _ g2⟩⟩
end VG

set_option Elab.async false
set_option linter.all false
set_option maxRecDepth 100000
set_option maxHeartbeats 4000000
namespace VG
open PySem PySem.Spec PyProof.Rows L2
theorem isPlace_get {ls p : List Nat} (h : IsPlace ls p) {i k l : Nat} (h1 : p[i]? = some k) (h2 : ls[i]? = some l) : k < l := by
  obtain ⟨a, b⟩ := List.getElem?_eq_some_iff.mp h1
  obtain ⟨c, d⟩ := List.getElem?_eq_some_iff.mp h2
  have := h.2 i a c
  rwa [b, d] at this
theorem iv_eq (ls : List Nat) : iv ls = ls.map fun n : Nat => V.int (n : Int) := by simp [iv]
def sp_whole_place : Sp := fun vs H Q _ => ∃ (p q : Addr) (ls pl : List Nat), vs = [.ref p, .ref q] ∧ H p = some (.tup (iv ls)) ∧ H q = some (.tup (iv pl)) ∧ IsPlace ls pl ∧ ls.length ≤ 5 ∧ ∀ H' t, Same H H' → H' t = some (.tup (iv pl)) → Q (.ref t) H'
/-- dense strides, asked of (0,) only -/
def sp_dense_strides : Sp := fun vs H Q _ => ∃ p : Addr, vs = [.ref p] ∧ H p = some (.tup (iv [0])) ∧ ∀ H' t z, Same H H' → H' t = some (.tup (zv [z])) → Q (.ref t) H'
def sp_Page_init (a : Adr) : Sp := fun vs H Q _ => ∃ (x dx kl : Addr), vs = [.ref x, .ref kl] ∧ H x = some (.ins a.Page dx []) ∧ Q .non (upd H x (.ins a.Page dx (pgf kl 1)))
theorem walk_revT {K : PySem.W.Frag} {b : Addr} {xs : List V} : Walk (RT.ItvT K b xs.length) xs.length (fun H => SqT K H b xs) (fun i H x H' => H' = H ∧ xs[xs.length - 1 - i]? = some x) :=
  ⟨fun i _ hi q => ⟨hi, xs, xs[xs.length - 1 - i]'(by omega), q, by simp [show xs.length - 1 - i < xs.length by omega]⟩, fun _ _ => Nat.le_refl _, fun _ _ _ _ _ q y => ⟨y.1, y.2 xs q⟩⟩
section
variable {P : Program} {w : World} {K : PySem.W.Frag} {mg : Str → Option Value} {base : Heap} {a : Adr}
theorem ok_whole_place (T : Tx K mg a) : FnOk P w K mg base CX0 2 a.whole_place a.fd_whole_place ["lengths", "place"] sp_whole_place := by
  have G_is_whole := ok_is_whole (P := P) (w := w) (base := base) T
  refine T.F_whole_place.ok sc_whole_place (fun vs H Q E h => ?_) (fun cdv A outer s H vs Q E hr h => ?_)
  · obtain ⟨p, q, ls, pl, rfl, _⟩ := h
    rfl
  · obtain ⟨p, q, ls, pl, rfl, hp, hq, hpl, h5, k⟩ := h
    refine ⟨_, (pss_cons (ps_if (PW.pt (pw_or (pt_not (pt_val (pe_callB call_isi (by rfl) T.n_isinstance (by decide +kernel) (pa_cons (pv 1) (pa_cons (pe_bltn (v := .ty "tuple") (by rfl) T.n_tuple (by decide +kernel) rfl) pa_nil))))) (pw_or1 (pt_cmpR op_ne (pe_callB call_len_seq (by rfl) T.n_len (by decide +kernel) (pa_cons (pv 1) pa_nil)) (pe_callB call_len_seq (by rfl) T.n_len (by decide +kernel) (pa_cons (pv 0) pa_nil)) (nomark _))))) (pss_one ps_never) pss_nil)
          (pss_cons (ps_for PassesOwn.never rfl (RZ.pi_zipA (by rfl) T.n_zip (pa_cons (pv 1) (pa_cons (pv 0) pa_nil))) (pg_tup rfl (pgs_cons (pg_name (i := 2) sc_whole_place.nd rfl (Or.inl rfl)) (pgs_cons (pg_name (i := 3) sc_whole_place.nd rfl (Or.inl rfl)) pgs_nil)))
            (pss_one (ps_if (PW.pt (pw_or (pt_not (pt_val (pe_call G_is_whole (hr.mono (by decide)) rfl T.m_is_whole T.F_is_whole.kp (b_is_whole T) .nil pass0 (pa_cons (pv 2) pa_nil)))) (pw_or1 (pt_not (pt_chain op_le op_lt (pe_un un_neg (pv 3)) (pv 2) (pv 3)))))) (pss_one ps_never) pss_nil)))
          (pss_one (ps_ret (pe_callTy call_tuple_of (by rfl) T.n_tuple (by decide +kernel) (pa_cons (pe_lc (own := [("k", 2), ("length", 3)]) rfl sc_whole_place.nd (RZ.pi_zipA (by rfl) T.n_zip (pa_cons (pv 1) (pa_cons (pv 0) pa_nil))) (blkOk_by (N := ["lengths", "place", "k", "length"]) (sc := defScope s_whole_place) (own := [("k", 2), ("length", 3)]) (by decide +kernel)) (fun _ _ _ _ _ => (show PG _ _ (gTup K 2 _) from pg_tup rfl (pgs_cons (pg_name (i := 2) sc_whole_place.nd rfl (Or.inl rfl)) (pgs_cons (pg_name (i := 3) sc_whole_place.nd rfl (Or.inl rfl)) pgs_nil)))) (fun _ _ _ _ _ => pts_nil) (fun _ _ _ _ _ => (pe_op op_mod (pv 2) (pv 3)))) pa_nil)))))), ?_⟩
    have hlen := hpl.1
    refine ⟨_, rfl, .ref q, .ty "tuple", .type "tuple", .type "tuple", true, rfl, .ty _, .base (.tup hq), kit_ty (by decide +kernel), true, rfl, iteF ?_⟩
    refine ⟨_, rfl, q, _, rfl, .inr (SqT.of hq), _, rfl, p, _, rfl, .inr (SqT.of hp), rfl, _, rfl, ifNF (by rw [iv_len, iv_len, hlen]) ?_⟩
    have hmin : ls.length = min (iv pl).length (iv ls).length := by rw [iv_len, iv_len]; omega
    refine ⟨_, rfl, _, rfl, q, p, _, _, rfl, .inr ⟨SqT.of hq, SqT.of hp, for_it (walk_zipT hmin) (fun i σ H' => Same H H' ∧ ∃ v1 v2, σ = [some (.ref p), some (.ref q), v1, v2]) ⟨Same.refl H, none, none, rfl⟩ (fun i σ H' _ z => ⟨SqT.of (z.1 _ _ hq), SqT.of (z.1 _ _ hp)⟩) ?_ ?_⟩⟩
    · rintro i x σ H1 H2 hi ⟨s1, v1, v2, rfl⟩ ⟨T', x1, x2, rfl, hT, rfl, e1, e2⟩
      obtain ⟨n, hn, rfl⟩ := iv_get e1
      obtain ⟨l, hl, rfl⟩ := iv_get e2
      have hk := isPlace_get hpl hn hl
      refine g_pair ?_
      refine ⟨_, rfl, n, rfl, true, rfl, iteF ?_⟩
      refine ⟨_, rfl, _, rfl, _, rfl, _, _, rfl, rfl, _, rfl, ifT (by omega) ⟨_, rfl, _, _, rfl, rfl, _, rfl, ifNF (by omega) ?_⟩⟩
      exact ⟨sm_upd s1 hT, _, _, rfl⟩
    · rintro σ H1 ⟨s1, v1, v2, rfl⟩
      refine ⟨_, rfl, _, rfl, q, p, _, _, rfl, .inr ⟨SqT.of (s1 _ _ hq), SqT.of (s1 _ _ hp), fun D hD => ?_⟩⟩
      refine lc_pure (walk_zipT hmin) (fun i => .int ((pl.getD i 0 : Nat) : Int)) (by omega) hD (fun H' e => ⟨SqT.of (e _ _ (s1 _ _ hq)), SqT.of (e _ _ (s1 _ _ hp))⟩) ?_ ?_
      · rintro i x H2 H3 k' hi s2 ⟨T', x1, x2, rfl, hT, rfl, e1, e2⟩ hk'
        obtain ⟨n, hn, rfl⟩ := iv_get e1
        obtain ⟨l, hl, rfl⟩ := iv_get e2
        have hk := isPlace_get hpl hn hl
        refine g_pair ⟨rfl, ?_⟩
        refine ⟨_, rfl, _, rfl, _, _, rfl, rfl, by omega, ?_⟩
        have e : ((n : Int) % (l : Int)) = ((pl.getD i 0 : Nat) : Int) := by
          rw [getD_of hn]
          exact Int.emod_eq_of_lt (by omega) (by omega)
        show k' (.int ((n : Int) % (l : Int))) _
        rw [e]
        exact hk' _ (sm_new hT)
      · intro H2 s2 hD2
        have e : ((List.range ls.length).map fun i => V.int ((pl.getD i 0 : Nat) : Int)) = iv pl := by
          rw [← hlen, rg_map pl (fun n : Nat => V.int (n : Int)) 0]
          exact (iv_eq pl).symm
        rw [e] at hD2
        exact ⟨D, _, rfl, .inl ⟨SqL.of hD2, fun t ht => k _ t (s1.trans (s2.trans (sm_new ht))) upd_same⟩⟩
theorem ok_dense_strides (T : Tx K mg a) : FnOk P w K mg base CX0 1 a.dense_strides a.fd_dense_strides ["lengths"] sp_dense_strides := by
  refine T.F_dense_strides.ok sc_dense_strides (fun vs H Q E h => ?_) (fun cdv A outer s H vs Q E hr h => ?_)
  · obtain ⟨p, rfl, _⟩ := h
    rfl
  · obtain ⟨p, rfl, hp, k⟩ := h
    refine ⟨_, (pss_cons (ps_set (i := 1) sc_dense_strides.nd rfl (Or.inl rfl) (pe_lst pa_nil))
          (pss_cons (ps_set (i := 2) sc_dense_strides.nd rfl (Or.inl rfl) pe_int)
          (pss_cons (ps_for PassesOwn.never rfl (RT.pi_revA (by rfl) T.n_reversed (pv 0)) (pg_name (i := 3) sc_dense_strides.nd rfl (Or.inl rfl))
            (pss_cons (ps_expr (pe_bm PySem.F.plainAttrs_list PySem.F.slot_list_append PySem.F.type_list_append mt_append (pv 1) (pa_cons (pv 2) pa_nil)))
          (pss_one (ps_aug (i := 2) sc_dense_strides.nd rfl (Or.inl rfl) (pv 3) ip_mulS))))
          (pss_one (ps_ret (pe_callTy call_tuple_of (by rfl) T.n_tuple (by decide +kernel) (pa_cons (pe_revL (pv 1)) pa_nil))))))), ?_⟩
    refine ⟨Nat.zero_le _, fun D hD => ?_⟩
    have s0 := sm_new (o := .lst []) hD
    refine ⟨_, rfl, p, iv [0], rfl, .inr ⟨SqT.of (s0 _ _ hp), for_it walk_revT (fun i σ H' => Same H H' ∧ ∃ ss v z, ss.length = i ∧ z = (1 - (i : Int)) ∧ σ = [some (.ref p), some (.ref D), some (.int z), v] ∧ H' D = some (.lst (zv ss))) ⟨s0, [], none, 1, rfl, rfl, rfl, upd_same⟩ (fun i σ H' _ z => SqT.of (z.1 _ _ hp)) ?_ ?_⟩⟩
    · rintro i x σ H1 H2 hi ⟨s1, ss, v, z, hl, hz, rfl, hD1⟩ ⟨rfl, hx⟩
      have hi0 : i = 0 := by
        have : (iv [0]).length = 1 := rfl
        omega
      subst hi0
      have hx0 : x = .int 0 := by
        have : (iv [0])[1 - 1 - 0]? = some (.int 0) := rfl
        exact (Option.some.inj (this.symm.trans hx)).symm
      subst hx0
      obtain rfl := List.eq_nil_of_length_eq_zero hl
      refine ⟨_, rfl, .inl ⟨rfl, _, SqL.of hD1⟩, _, rfl, D, _, _, rfl, rfl, hD1, by decide, ?_⟩
      refine ⟨_, rfl, _, rfl, _, _, rfl, rfl, .inr ⟨by subst hz; decide, by subst hz; decide⟩, sm_mut s1 hD, [z], _, z * 0, rfl, by simp, rfl, upd_same⟩
    · rintro σ H1 ⟨s1, ss, v, z, hl, hz, rfl, hD1⟩
      match ss, hl with
      | [s0], _ =>
      refine ⟨_, rfl, D, _, rfl, SqL.of hD1, fun q hq => ⟨q, _, rfl, .inl ⟨SqL.of upd_same, fun t ht => k _ t s0 (sm_upd (sm_upd s1 hq) ht) upd_same⟩⟩⟩
theorem ok_Page_init (T : Tx K mg a) : FnOk P w K mg base CX0 1 a.Page_init a.fd_Page_init ["self", "kept"] (sp_Page_init a) := by
  refine T.F_Page_init.ok sc_Page_init (fun vs H Q E h => ?_) (fun cdv A outer s H vs Q E hr h => ?_)
  · obtain ⟨x, dx, kl, rfl, _⟩ := h
    rfl
  · obtain ⟨x, dx, kl, rfl, hx, k⟩ := h
    refine ⟨_, (pss_cons (ps_fld (pv 0) (pv 1) rfl)
          (pss_one (ps_fld (pv 0) pe_int rfl))), ?_⟩
    refine ⟨_, rfl, _, rfl, x, _, dx, _, rfl, hx, T.cl_Page, T.na_Page_kept, by show (0 : Nat) < 1000; decide, ?_⟩
    refine ⟨_, rfl, x, _, dx, _, rfl, upd_same, T.cl_Page, T.na_Page_holders, by show (1 : Nat) < 1000; decide, ?_⟩
    rw [upd_upd]
    exact k
end
end VG

set_option Elab.async false
set_option linter.all false
set_option maxRecDepth 100000
set_option maxHeartbeats 4000000
namespace VG
open PySem PySem.Spec PyProof.Rows L2
/-! ### pieces of a list -/
theorem chunk_flat (cs : List Int) (w : Nat) : ∀ n : Nat, (List.range n).flatMap (fun j => chunk cs w j) = cs.take (n * w)
  | 0 => by simp
  | n + 1 => by
    rw [List.range_succ, List.flatMap_append, chunk_flat cs w n, Nat.succ_mul, List.take_add]
    simp [chunk]
theorem chunk_set {cs : List Int} {c w j : Nat} {z : Int} (hw : 0 < w) : chunk (cs.set c z) w j = if j = c / w then (chunk cs w j).set (c % w) z else chunk cs w j := by
  apply List.ext_getElem?
  intro i
  have hd := Nat.div_add_mod c w
  have hm := Nat.mod_lt c hw
  by_cases hj : j = c / w
  · rw [if_pos hj]
    unfold chunk
    rw [List.getElem?_set, List.getElem?_take, List.getElem?_drop, List.getElem?_set, List.length_take, List.length_drop]
    have e : j * w = w * (c / w) := by rw [hj, Nat.mul_comm]
    by_cases hi : i < w
    · rw [if_pos hi]
      by_cases h : c % w = i
      · rw [if_pos h, if_pos (by omega)]
        by_cases hc : c < cs.length
        · rw [if_pos hc, if_pos (by omega)]
        · rw [if_neg hc, if_neg (by omega)]
      · rw [if_neg h, if_neg (by omega), List.getElem?_take, if_pos hi, List.getElem?_drop]
    · rw [if_neg hi, if_neg (by omega), List.getElem?_take, if_neg hi]
  · rw [if_neg hj]
    unfold chunk
    rw [List.getElem?_take, List.getElem?_take, List.getElem?_drop, List.getElem?_drop, List.getElem?_set]
    by_cases hi : i < w
    · rw [if_pos hi, if_pos hi, if_neg]
      intro e
      apply hj
      rw [e, Nat.mul_comm, Nat.mul_add_div hw, Nat.div_eq_of_lt hi, Nat.add_zero]
    · rw [if_neg hi, if_neg hi]
theorem nodup_set {α : Type} {x : α} : ∀ {xs : List α} {j : Nat}, xs.Nodup → x ∉ xs → (xs.set j x).Nodup
  | [], j, h, hx => by simpa using h
  | y :: ys, 0, h, hx => by
    rw [List.set_cons_zero, List.nodup_cons]
    exact ⟨fun q => hx (by simp [q]), (List.nodup_cons.mp h).2⟩
  | y :: ys, j + 1, h, hx => by
    rw [List.nodup_cons] at h
    rw [List.set_cons_succ, List.nodup_cons]
    refine ⟨fun q => ?_, nodup_set h.2 fun q => hx (by simp [q])⟩
    rcases List.mem_or_eq_of_mem_set q with e | e
    · exact h.1 e
    · exact hx (by simp [e])
/-! ### kinds -/
theorem rf_pgf {m w : Nat} {pl kl : Addr} {cp h : Int} : rf m w pl cp ≠ pgf kl h := by
  intro e
  unfold rf pgf at e
  injection e with e1 e2
  injection e1 with e1 e2
  exact absurd e1 (by decide)
section
variable {a : Adr} {H H' : Hp} {b c : Addr}
theorem ne_lst_ins {xs : List V} {C dx : Addr} {fs : List (Str × V)} (h1 : H b = some (.lst xs)) (h2 : H c = some (.ins C dx fs)) : b ≠ c := ne_of h1 h2 (by intro q; cases q)
theorem ne_ins_lst {xs : List V} {C dx : Addr} {fs : List (Str × V)} (h2 : H b = some (.ins C dx fs)) (h1 : H c = some (.lst xs)) : b ≠ c := ne_of h2 h1 (by intro q; cases q)
theorem ne_room_page {C C' dx dx' : Addr} {m w : Nat} {pl kl : Addr} {cp h : Int} (h1 : H b = some (.ins C dx (rf m w pl cp))) (h2 : H c = some (.ins C' dx' (pgf kl h))) : b ≠ c :=
  ne_of h1 h2 (by intro q; injection q with _ _ q; exact rf_pgf q)
end
section
variable {a : Adr} {H H' : Hp} {r pl : Addr} {ps : List (Addr × Addr)} {w : Nat} {cs : List Int} {t plt : Addr} {pst : List (Addr × Addr)} {wt : Nat} {as : List Int}
theorem RoomAt.mem (R : RoomAt a H r pl ps w cs) {p : Addr × Addr} (h : p ∈ ps) : ∃ ch, PgAt a H p ch := by
  obtain ⟨j, hj, ej⟩ := List.getElem_of_mem h
  exact ⟨_, R.pg j p (by rw [List.getElem?_eq_getElem hj, ej])⟩
theorem map_set_fst {α β : Type} (f : α → β) (xs : List α) (j : Nat) (x : α) : (xs.set j x).map f = (xs.map f).set j (f x) := List.map_set
theorem nd_inj {α β : Type} {f : α → β} {xs : List α} (h : (xs.map f).Nodup) {i j : Nat} {x y : α} (hx : xs[i]? = some x) (hy : xs[j]? = some y) (e : f x = f y) : i = j := by
  have h1 : (xs.map f)[i]? = some (f x) := by rw [List.getElem?_map, hx]; rfl
  have h2 : (xs.map f)[j]? = some (f x) := by rw [List.getElem?_map, hy, e]; rfl
  obtain ⟨a1, b1⟩ := List.getElem?_eq_some_iff.mp h1
  obtain ⟨a2, b2⟩ := List.getElem?_eq_some_iff.mp h2
  have pw := List.pairwise_iff_getElem.mp h
  rcases Nat.lt_trichotomy i j with q | q | q
  · exact absurd (b1.trans b2.symm) (pw i j a1 a2 q)
  · exact q
  · exact absurd (b2.trans b1.symm) (pw j i a2 a1 q)
theorem nd_inj' {α β : Type} {f : α → β} {xs : List α} (h : (xs.map f).Nodup) {x y : α} (hx : x ∈ xs) (hy : y ∈ xs) (e : f x = f y) : x = y := by
  obtain ⟨i, hi, ei⟩ := List.getElem_of_mem hx
  obtain ⟨j, hj, ej⟩ := List.getElem_of_mem hy
  have := nd_inj h (List.getElem?_eq_getElem hi) (List.getElem?_eq_getElem hj) (by rw [ei, ej, e])
  subst this
  rw [← ei, ← ej]
theorem Sys.put (S : Sys a H r pl ps w cs t plt pst wt as) {c : Nat} {z : Int} {p : Addr × Addr} (hp : ps[c / w]? = some p) (hn : p ∉ pst) :
    Sys a (upd H p.2 (.lst (zv ((chunk cs w (c / w)).set (c % w) z)))) r pl ps w (cs.set c z) t plt pst wt as ∧ Kg r pl ps H (upd H p.2 (.lst (zv ((chunk cs w (c / w)).set (c % w) z)))) ps := by
  have hw : 0 < w := S.main.w0
  have mp : p ∈ ps := List.mem_of_getElem? hp
  obtain ⟨dx, hold, hh, h1, h2⟩ := S.main.pg _ _ hp
  obtain ⟨dr, cp, hr⟩ := S.main.ob
  obtain ⟨dt, ct, ht⟩ := S.twin.ob
  have np : p.2 ≠ pl := S.main.npl p mp
  refine ⟨⟨⟨⟨dr, cp, ?_⟩, ?_, ?_, ?_, S.main.nd1, S.main.nd2, S.main.npl, hw, S.main.w1, ?_⟩, ⟨⟨dt, ct, ?_⟩, ?_, S.twin.np, ?_, S.twin.nd1, S.twin.nd2, S.twin.npl, S.twin.w0, S.twin.w1, S.twin.big⟩, S.rt, S.pp, S.x1, S.x2, S.x3, ?_⟩, ?_, ?_⟩
  · rw [upd_ne (ne_ins_lst hr h2), List.length_set]
    exact hr
  · rw [upd_ne (Ne.symm np)]
    exact S.main.lst
  · rw [List.length_set]
    exact S.main.np
  · intro j q hq
    obtain ⟨dx', hold', hh', h1', h2'⟩ := S.main.pg j q hq
    refine ⟨dx', hold', hh', by rw [upd_ne (ne_ins_lst h1' h2)]; exact h1', ?_⟩
    rw [chunk_set hw]
    by_cases e : j = c / w
    · rw [if_pos e]
      subst e
      rw [hp] at hq
      obtain rfl := Option.some.inj hq
      exact upd_same
    · rw [if_neg e, upd_ne fun eq => e (nd_inj S.main.nd2 hq hp eq)]
      exact h2'
  · rw [List.length_set]
    exact S.main.big
  · rw [upd_ne (ne_ins_lst ht h2)]
    exact ht
  · rw [upd_ne fun e => S.x1 p mp e.symm]
    exact S.twin.lst
  · intro j q hq
    obtain ⟨dx', hold', hh', h1', h2'⟩ := S.twin.pg j q hq
    refine ⟨dx', hold', hh', by rw [upd_ne (ne_ins_lst h1' h2)]; exact h1', ?_⟩
    rw [upd_ne fun e => hn ?_]
    · exact h2'
    · rw [S.x3 p mp q (List.mem_of_getElem? hq) (.inr e.symm)]
      exact List.mem_of_getElem? hq
  · intro q hq hq'
    obtain ⟨dx', hold', g1, g2⟩ := S.x4 q hq hq'
    exact ⟨dx', hold', g1, by rw [upd_ne (ne_ins_lst g2 h2)]; exact g2⟩
  · intro b o hb g
    rw [upd_ne fun e => g (.inr (.inr ⟨p, mp, .inr e⟩))]
    exact hb
  · exact fun b g => .inl g
theorem Sys.own (S : Sys a H r pl ps w cs t plt pst wt as) {j : Nat} {p : Addr × Addr} {dx x l : Addr} {hold : Int} (hp : ps[j]? = some p) (ho : H p.1 = some (.ins a.Page dx (pgf p.2 hold))) (h2 : 2 ≤ hold)
    (hx : H x = none) (hl : H l = none) (hxl : x ≠ l) (k : ∀ b o, H b = some o → b ≠ r → b ≠ pl → b ≠ p.1 → H' b = some o)
    (hr : ∃ dx cp, H' r = some (.ins a.Room dx (rf cs.length w pl cp))) (hpl : H' pl = some (.lst ((ps.set j (x, l)).map fun p => V.ref p.1)))
    (hp1 : H' p.1 = some (.ins a.Page dx (pgf p.2 (hold - 1)))) (hx' : ∃ dx', H' x = some (.ins a.Page dx' (pgf l 1))) (hl' : H' l = some (.lst (zv (chunk cs w j)))) :
    Sys a H' r pl (ps.set j (x, l)) w cs t plt pst wt as ∧ Kg r pl ps H H' (ps.set j (x, l)) ∧ (x, l) ∉ pst := by
  have mp : p ∈ ps := List.mem_of_getElem? hp
  obtain ⟨dr, cp, hro⟩ := S.main.ob
  obtain ⟨dt, ct, hto⟩ := S.twin.ob
  have hpl0 := S.main.lst
  have hplt0 := S.twin.lst
  obtain ⟨dp, holdp, _, hp1o, hp2o⟩ := S.main.pg _ _ hp
  -- pages other than p are kept
  have keep : ∀ q ch, PgAt a H q ch → q.1 ≠ p.1 → q.2 ≠ pl → PgAt a H' q ch := by
    rintro q ch ⟨d, h, g0, g1, g2⟩ n1 n2
    exact ⟨d, h, g0, k _ _ g1 (fun e => ne_room_page hro g1 e.symm) (ne_ins_lst g1 hpl0) n1, k _ _ g2 (fun e => ne_ins_lst hro g2 e.symm) n2 (fun e => ne_ins_lst ho g2 e.symm)⟩
  have mem : ∀ q ∈ ps.set j (x, l), q = (x, l) ∨ (q ∈ ps ∧ q.1 ≠ p.1) := by
    intro q hq
    obtain ⟨i, hi, ei⟩ := List.getElem_of_mem hq
    have hq' : (ps.set j (x, l))[i]? = some q := by rw [List.getElem?_eq_getElem hi, ei]
    rw [List.getElem?_set] at hq'
    by_cases e : j = i
    · rw [if_pos e] at hq'
      split at hq'
      · exact .inl (Option.some.inj hq').symm
      · cases hq'
    · rw [if_neg e] at hq'
      exact .inr ⟨List.mem_of_getElem? hq', fun e' => e (nd_inj S.main.nd1 hp hq' e'.symm)⟩
  have xn : x ∉ ps.map (·.1) := by
    intro h
    obtain ⟨q, hq, e⟩ := List.mem_map.mp h
    obtain ⟨ch, d, h', _, g1, _⟩ := S.main.mem hq
    rw [e, hx] at g1
    cases g1
  have ln : l ∉ ps.map (·.2) := by
    intro h
    obtain ⟨q, hq, e⟩ := List.mem_map.mp h
    obtain ⟨ch, d, h', _, _, g1⟩ := S.main.mem hq
    rw [e, hl] at g1
    cases g1
  have xt : ∀ q ∈ pst, q.1 ≠ x ∧ q.2 ≠ l := by
    intro q hq
    obtain ⟨ch, d, h', _, g1, g2⟩ := S.twin.mem hq
    exact ⟨ne_of_none g1 hx, ne_of_none g2 hl⟩
  refine ⟨⟨⟨hr, hpl, by rw [List.length_set]; exact S.main.np, ?_, ?_, ?_, ?_, S.main.w0, S.main.w1, S.main.big⟩, ⟨⟨dt, ct, ?_⟩, ?_, S.twin.np, ?_, S.twin.nd1, S.twin.nd2, S.twin.npl, S.twin.w0, S.twin.w1, S.twin.big⟩, S.rt, S.pp, ?_, S.x2, ?_, ?_⟩, ⟨?_, ?_⟩, ?_⟩
  · intro i q hq
    rw [List.getElem?_set] at hq
    by_cases e : j = i
    · rw [if_pos e] at hq
      split at hq
      · obtain rfl := Option.some.inj hq
        obtain ⟨dx', hx'⟩ := hx'
        subst e
        exact ⟨dx', 1, by omega, hx', hl'⟩
      · cases hq
    · rw [if_neg e] at hq
      exact keep q _ (S.main.pg i q hq) (fun e' => e (nd_inj S.main.nd1 hp hq e'.symm)) (S.main.npl q (List.mem_of_getElem? hq))
  · rw [map_set_fst]
    exact nodup_set S.main.nd1 xn
  · rw [map_set_fst]
    exact nodup_set S.main.nd2 ln
  · intro q hq
    rcases mem q hq with e | ⟨e, _⟩
    · rw [e]
      exact (ne_of_none hpl0 hl).symm
    · exact S.main.npl q e
  · exact k _ _ hto (Ne.symm S.rt) (ne_ins_lst hto hpl0) (ne_room_page hto ho)
  · exact k _ _ hplt0 (fun e => ne_ins_lst hro hplt0 e.symm) (Ne.symm S.pp) (fun e => ne_ins_lst ho hplt0 e.symm)
  · intro i q hq
    have mq := List.mem_of_getElem? hq
    by_cases e : q.1 = p.1
    · have := S.x3 p mp q mq (.inl e.symm)
      subst this
      obtain ⟨d, h, g0, g1, g2⟩ := S.twin.pg i p hq
      exact ⟨dx, hold - 1, by omega, hp1, k _ _ g2 (fun e => ne_ins_lst hro g2 e.symm) (S.main.npl p mp) (fun e => ne_ins_lst ho g2 e.symm)⟩
    · exact keep q _ (S.twin.pg i q hq) e (S.x2 q mq)
  · intro q hq
    rcases mem q hq with e | ⟨e, _⟩
    · rw [e]
      exact (ne_of_none hplt0 hl).symm
    · exact S.x1 q e
  · intro q hq q' hq' e
    rcases mem q hq with e1 | ⟨e1, _⟩
    · subst e1
      rcases e with e | e
      · exact absurd e.symm (xt q' hq').1
      · exact absurd e.symm (xt q' hq').2
    · exact S.x3 q e1 q' hq' e
  · intro q hq hq'
    rcases mem q hq with e1 | ⟨e1, e2⟩
    · subst e1
      exact absurd rfl (xt _ hq').1
    · obtain ⟨d, h, g0, g1⟩ := S.x4 q e1 hq'
      exact ⟨d, h, g0, k _ _ g1 (fun e => ne_room_page hro g1 e.symm) (ne_ins_lst g1 hpl0) e2⟩
  · intro b o hb g
    exact k b o hb (fun e => g (.inl e)) (fun e => g (.inr (.inl e))) (fun e => g (.inr (.inr ⟨p, mp, .inl e⟩)))
  · intro b g
    rcases g with e | e | ⟨q, hq, e⟩
    · exact .inl (.inl e)
    · exact .inl (.inr (.inl e))
    · rcases mem q hq with e1 | ⟨e1, _⟩
      · subst e1
        rcases e with e | e
        · exact .inr (e ▸ hx)
        · exact .inr (e ▸ hl)
      · exact .inl (.inr (.inr ⟨q, e1, e⟩))
  · exact fun h => (xt _ h).1 rfl
theorem Sys.twin_of (R : RoomAt a H r pl ps w cs) (ht : H t = none) (hplt : H plt = none) (k : ∀ b o, H b = some o → (∀ p ∈ ps, b ≠ p.1) → H' b = some o)
    (hp : ∀ p ∈ ps, ∃ dx hold, 2 ≤ hold ∧ H' p.1 = some (.ins a.Page dx (pgf p.2 hold))) (ht' : ∃ dx cp, H' t = some (.ins a.Room dx (rf cs.length w plt cp))) (hplt' : H' plt = some (.lst (ps.map fun p => V.ref p.1))) :
    Sys a H' r pl ps w cs t plt ps w cs ∧ Kg r pl ps H H' ps := by
  obtain ⟨dr, cp, hro⟩ := R.ob
  have np : ∀ b xs, H b = some (.lst xs) → ∀ p ∈ ps, b ≠ p.1 := by
    intro b xs hb p hq
    obtain ⟨ch, d, h', _, g1, g2⟩ := R.mem hq
    exact ne_lst_ins hb g1
  have hr' : H' r = some (.ins a.Room dr (rf cs.length w pl cp)) := by
    refine k _ _ hro fun p hq => ?_
    obtain ⟨ch, d, h', _, g1, g2⟩ := R.mem hq
    exact ne_room_page hro g1
  have pg : ∀ (j : Nat) (p : Addr × Addr), ps[j]? = some p → PgAt a H' p (chunk cs w j) := by
    intro j p hj
    obtain ⟨d, h, g0, g1⟩ := hp p (List.mem_of_getElem? hj)
    obtain ⟨_, _, _, _, g2⟩ := R.pg j p hj
    exact ⟨d, h, by omega, g1, k _ _ g2 (np _ _ g2)⟩
  have nq : ∀ p ∈ ps, p.2 ≠ plt := by
    intro p hq
    obtain ⟨ch, d, h', _, g1, g2⟩ := R.mem hq
    exact ne_of_none g2 hplt
  refine ⟨⟨⟨⟨dr, cp, hr'⟩, k _ _ R.lst (np _ _ R.lst), R.np, pg, R.nd1, R.nd2, R.npl, R.w0, R.w1, R.big⟩, ⟨ht', hplt', R.np, pg, R.nd1, R.nd2, nq, R.w0, R.w1, R.big⟩, ne_of_none hro ht, ne_of_none R.lst hplt, nq, R.npl, ?_, fun p h _ => hp p h⟩, ?_, fun _ g => .inl g⟩
  · intro p h q h' e
    rcases e with e | e
    · exact nd_inj' R.nd1 h h' e
    · exact nd_inj' R.nd2 h h' e
  · exact fun b o hb g => k b o hb fun p h e => g (.inr (.inr ⟨p, h, .inl e⟩))
end
end VG

set_option Elab.async false
set_option linter.all false
set_option maxRecDepth 100000
set_option maxHeartbeats 4000000
namespace VG
open PySem PySem.Spec PyProof.Rows L2
def sp_Room_len (a : Adr) : Sp := fun vs H Q _ => ∃ (r pl : Addr) (ps : List (Addr × Addr)) (w : Nat) (cs : List Int), vs = [.ref r] ∧ RoomAt a H r pl ps w cs ∧ ∀ H', Same H H' → Q (.int (cs.length : Int)) H'
def sp_Room_need (a : Adr) : Sp := fun vs H Q _ => ∃ (r pl : Addr) (ps : List (Addr × Addr)) (w : Nat) (cs : List Int) (c : Nat), vs = [.ref r, .int (c : Int)] ∧ RoomAt a H r pl ps w cs ∧ c < cs.length ∧ Q .non H
def sp_Room_read (a : Adr) : Sp := fun vs H Q _ => ∃ (r pl : Addr) (ps : List (Addr × Addr)) (w : Nat) (cs : List Int) (c : Nat) (z : Int), vs = [.ref r, .int (c : Int)] ∧ RoomAt a H r pl ps w cs ∧ cs[c]? = some z ∧ Q (.int z) H
def sp_Room_is_shut (a : Adr) : Sp := fun vs H Q _ => ∃ (r pl : Addr) (ps : List (Addr × Addr)) (w : Nat) (cs : List Int), vs = [.ref r] ∧ RoomAt a H r pl ps w cs ∧ Q (.bl false) H
def sp_Room_numbers (a : Adr) : Sp := fun vs H Q _ => ∃ (r pl : Addr) (ps : List (Addr × Addr)) (w : Nat) (cs : List Int), vs = [.ref r] ∧ RoomAt a H r pl ps w cs ∧ ∀ H' q, Same H H' → H q = none → H' q = some (.lst (zv cs)) → Q (.ref q) H'
theorem zv_flat (cs : List Int) (w n : Nat) : ((List.range n).flatMap fun j => zv (chunk cs w j)) = zv (cs.take (n * w)) := by
  rw [← chunk_flat]
  unfold zv
  rw [List.map_flatMap]
section
variable {P : Program} {w : World} {K : PySem.W.Frag} {mg : Str → Option Value} {base : Heap} {a : Adr}
theorem ok_Room_len (T : Tx K mg a) : FnOk P w K mg base CX0 1 a.Room_len a.fd_Room_len ["self"] (sp_Room_len a) := by
  refine T.F_Room_len.ok sc_Room_len (fun vs H Q E h => ?_) (fun cdv A outer s H vs Q E hr h => ?_)
  · obtain ⟨r, pl, ps, wd, cs, rfl, _⟩ := h
    rfl
  · obtain ⟨r, pl, ps, wd, cs, rfl, R, k⟩ := h
    refine ⟨_, (pss_one (ps_ret (pe_callB cr_lenRng (by rfl) T.n_len (by decide +kernel) (pa_cons (pe_callTy cr_range1 (by rfl) T.n_range (by decide +kernel) (pa_cons (pe_fld (pv 0) (by rfl)) pa_nil)) pa_nil)))), ?_⟩
    obtain ⟨dx, cp, ho⟩ := R.ob
    have hb := R.big
    refine ⟨_, rfl, r, _, dx, _, _, rfl, ho, T.cl_Room, T.na_Room_many, rfl, _, rfl, fun p hp => ?_⟩
    exact ⟨p, cs.length, rfl, upd_same, by omega, k _ (sm_new hp)⟩
theorem ok_Room_need (T : Tx K mg a) : FnOk P w K mg base CX0 2 a.Room_need a.fd_Room_need ["self", "cell"] (sp_Room_need a) := by
  have G_is_whole := ok_is_whole (P := P) (w := w) (base := base) T
  refine T.F_Room_need.ok sc_Room_need (fun vs H Q E h => ?_) (fun cdv A outer s H vs Q E hr h => ?_)
  · obtain ⟨r, pl, ps, wd, cs, c, rfl, _⟩ := h
    rfl
  · obtain ⟨r, pl, ps, wd, cs, c, rfl, R, hc, k⟩ := h
    refine ⟨_, (pss_one (ps_if (PW.pt (pw_or (pt_not (pt_val (pe_call G_is_whole (hr.mono (by decide)) rfl T.m_is_whole T.F_is_whole.kp (b_is_whole T) .nil pass0 (pa_cons (pv 1) pa_nil)))) (pw_or1 (pt_not (pt_chain op_le op_lt pe_int (pv 1) (pe_fld (pv 0) (by rfl))))))) (pss_one ps_never) pss_nil)), ?_⟩
    obtain ⟨dx, cp, ho⟩ := R.ob
    refine ⟨_, rfl, _, rfl, true, rfl, iteF ?_⟩
    refine ⟨_, rfl, _, _, rfl, rfl, _, rfl, ifT (by omega) ⟨_, rfl, r, _, dx, _, _, rfl, ho, T.cl_Room, T.na_Room_many, rfl, _, _, rfl, rfl, _, rfl, ifNF (by omega) ?_⟩⟩
    exact k
theorem ok_Room_read (T : Tx K mg a) : FnOk P w K mg base CX0 3 a.Room_read a.fd_Room_read ["self", "cell"] (sp_Room_read a) := by
  have G_Room_need := ok_Room_need (P := P) (w := w) (base := base) T
  refine T.F_Room_read.ok sc_Room_read (fun vs H Q E h => ?_) (fun cdv A outer s H vs Q E hr h => ?_)
  · obtain ⟨r, pl, ps, wd, cs, c, z, rfl, _⟩ := h
    rfl
  · obtain ⟨r, pl, ps, wd, cs, c, z, rfl, R, hz, k⟩ := h
    refine ⟨_, (pss_cons (ps_expr (pe_meth (pv 0) T.cl_Room T.me_Room_need G_Room_need (hr.mono (by decide)) (b_Room_need T) .nil pass0 (pa_cons (pv 1) pa_nil)))
          (pss_one (ps_ret (pe_ix ix_list (pe_fld (pe_ix ix_list (pe_fld (pv 0) (by rfl)) (pe_op op_fdiv (pv 1) (pe_fld (pv 0) (by rfl))) (fun _ _ => rfl)) (by rfl)) (pe_op op_mod (pv 1) (pe_fld (pv 0) (by rfl))) (fun _ _ => rfl))))), ?_⟩
    obtain ⟨dx, cp, ho⟩ := R.ob
    obtain ⟨hc, ez⟩ := List.getElem?_eq_some_iff.mp hz
    obtain ⟨p, hp, ⟨dp, hold, h1, h2, h3⟩, h4⟩ := R.at_ hc
    rw [ez] at h4
    have hw := R.w0
    have hw1 := R.w1
    refine ⟨_, rfl, r, dx, _, rfl, ho, rfl, _, rfl, r, pl, ps, wd, cs, c, rfl, R, hc, ?_⟩
    have e1 : ((c : Int) / (wd : Int)) = ((c / wd : Nat) : Int) := rfl
    have e2 : ((c : Int) % (wd : Int)) = ((c % wd : Nat) : Int) := rfl
    refine ⟨_, rfl, r, _, dx, _, _, rfl, ho, T.cl_Room, T.na_Room_pages, rfl, ?_⟩
    refine ⟨_, rfl, _, rfl, r, _, dx, _, _, rfl, ho, T.cl_Room, T.na_Room_width, rfl, _, _, rfl, rfl, ⟨by omega, by omega⟩, ?_⟩
    refine ⟨pl, _, ((c / wd : Nat) : Int), _, rfl, rfl, SqL.of R.lst, atI_nat (by rw [List.getElem?_map, hp]; rfl), ?_⟩
    refine ⟨p.1, _, dp, _, _, rfl, h2, T.cl_Page, T.na_Page_kept, rfl, ?_⟩
    refine ⟨_, rfl, _, rfl, r, _, dx, _, _, rfl, ho, T.cl_Room, T.na_Room_width, rfl, _, _, rfl, rfl, by omega, ?_⟩
    exact ⟨p.2, _, ((c % wd : Nat) : Int), _, rfl, rfl, SqL.of h3, atI_nat (zv_at h4), k⟩
theorem ok_Room_is_shut (T : Tx K mg a) : FnOk P w K mg base CX0 1 a.Room_is_shut a.fd_Room_is_shut ["self"] (sp_Room_is_shut a) := by
  refine T.F_Room_is_shut.ok sc_Room_is_shut (fun vs H Q E h => ?_) (fun cdv A outer s H vs Q E hr h => ?_)
  · obtain ⟨r, pl, ps, wd, cs, rfl, _⟩ := h
    rfl
  · obtain ⟨r, pl, ps, wd, cs, rfl, R, k⟩ := h
    refine ⟨_, (pss_one (ps_ret (pe_cmpR op_gt (pe_fld (pv 0) (by rfl)) pe_int (nomark _)))), ?_⟩
    obtain ⟨dx, cp, ho⟩ := R.ob
    exact ⟨_, rfl, r, _, dx, _, _, rfl, ho, T.cl_Room, T.na_Room_shuts, rfl, _, _, rfl, rfl, k⟩
theorem ok_Room_numbers (T : Tx K mg a) : FnOk P w K mg base CX0 1 a.Room_numbers a.fd_Room_numbers ["self"] (sp_Room_numbers a) := by
  refine T.F_Room_numbers.ok sc_Room_numbers (fun vs H Q E h => ?_) (fun cdv A outer s H vs Q E hr h => ?_)
  · obtain ⟨r, pl, ps, wd, cs, rfl, _⟩ := h
    rfl
  · obtain ⟨r, pl, ps, wd, cs, rfl, R, k⟩ := h
    refine ⟨_, (pss_one (ps_ret (pe_lc2 (own := [("page", 1), ("number", 2)]) rfl sc_Room_numbers.nd (pi_list (pe_fld (pv 0) (by rfl))) (blkOk_by (N := ["self", "page", "number"]) (sc := defScope s_Room_numbers) (own := [("page", 1), ("number", 2)]) (by decide +kernel)) (vs1 := [2]) (by decide) (fun _ _ _ _ _ => (pg_name (i := 1) sc_Room_numbers.nd rfl (Or.inl rfl))) (fun _ _ _ _ _ => pts_nil) (fun _ _ _ _ _ => (show PI _ _ _ (iList K _) from pi_list (show PE _ _ (tFld K _ _) from (pe_fld (pv 1) (by rfl))))) (fun _ _ _ _ _ => (pg_name (i := 2) sc_Room_numbers.nd rfl (Or.inl rfl))) (fun _ _ _ _ _ => pts_nil) (fun _ _ _ _ _ => (pv 2))))), ?_⟩
    obtain ⟨dx, cp, ho⟩ := R.ob
    refine ⟨_, rfl, r, _, dx, _, _, rfl, ho, T.cl_Room, T.na_Room_pages, rfl, pl, rfl, ⟨_, SqL.of R.lst⟩, fun D hD => ?_⟩
    refine lc2_pure (walk_list (xs := ps.map fun p => V.ref p.1)) (fun j => zv (chunk cs wd j)) hD (fun H' e => SqL.of (e _ _ R.lst)) ?_ ?_
    · rintro i x H1 H2 Nx hi s1 hacc ⟨rfl, hx⟩ hk
      rw [List.getElem?_map] at hx
      cases hp : ps[i]? with
      | none => rw [hp] at hx; cases hx
      | some p =>
        rw [hp] at hx
        obtain rfl := Option.some.inj hx
        obtain ⟨dp, hold, h1, h2, h3⟩ := R.pg i p hp
        refine ⟨rfl, _, rfl, p.1, _, dp, _, _, rfl, s1 _ _ h2, T.cl_Page, T.na_Page_kept, rfl, p.2, rfl, ⟨_, SqL.of (s1 _ _ h3)⟩, ?_⟩
        have hz := R.big
        have hfl : ((List.range i).flatMap fun j => zv (chunk cs wd j)).length ≤ 20000 := by
          rw [zv_flat, zv_len, List.length_take]
          omega
        have hcl : (chunk cs wd i).length ≤ 64 := by
          have := R.w1
          unfold chunk
          rw [List.length_take]
          omega
        refine lc2_in (Hb := H) (walk_list (xs := zv (chunk cs wd i))) (fun j => .int ((chunk cs wd i).getD j 0)) _ (by rw [zv_len]; omega) hD s1 hacc (fun H' e => SqL.of (e _ _ h3)) ?_ ?_
        · rintro j x H4 H5 k' hj s4 ⟨rfl, hx⟩ hk'
          obtain ⟨z, hz, rfl⟩ := zv_get hx
          refine ⟨rfl, _, rfl, ?_⟩
          have := hk' _ (Same.refl _)
          rwa [getD_of hz] at this
        · intro H4 s4 h4
          refine hk H4 s4 ?_
          rw [h4, zv_len, rg_map (chunk cs wd i) V.int 0]
    · intro H1 s1 hD1
      rw [List.length_map, zv_flat, List.take_of_length_le R.np] at hD1
      exact k H1 D s1 hD hD1
end
end VG

set_option Elab.async false
set_option linter.all false
set_option maxRecDepth 100000
set_option maxHeartbeats 4000000
namespace VG
open PySem PySem.Spec PyProof.Rows L2
def sp_Room_own_page (a : Adr) : Sp := fun vs H Q _ => ∃ (r pl : Addr) (ps : List (Addr × Addr)) (w : Nat) (cs : List Int) (t plt : Addr) (pst : List (Addr × Addr)) (wt : Nat) (as : List Int) (j : Nat) (p : Addr × Addr),
  vs = [.ref r, .int (j : Int)] ∧ Sys a H r pl ps w cs t plt pst wt as ∧ ps[j]? = some p ∧
  ∀ H' ps' p', Sys a H' r pl ps' w cs t plt pst wt as → Kg r pl ps H H' ps' → ps'[j]? = some p' → p' ∉ pst → Q (.ref p'.1) H'
def sp_Room_write (a : Adr) : Sp := fun vs H Q _ => ∃ (r pl : Addr) (ps : List (Addr × Addr)) (w : Nat) (cs : List Int) (t plt : Addr) (pst : List (Addr × Addr)) (wt : Nat) (as : List Int) (c : Nat) (z : Int),
  vs = [.ref r, .int (c : Int), .int z] ∧ Sys a H r pl ps w cs t plt pst wt as ∧ c < cs.length ∧
  ∀ H' ps', Sys a H' r pl ps' w (cs.set c z) t plt pst wt as → Kg r pl ps H H' ps' → Q .non H'
theorem ixn_at {n j : Nat} (hj : j < n) : ixN n (j : Int) = some j := by
  unfold ixN
  rw [if_pos (Int.natCast_nonneg j), if_pos (by omega)]
  rfl
theorem free_upd {H : Hp} {p b : Addr} {o : HO} (h : upd H p o b = none) : H b = none := by
  by_cases e : b = p
  · subst e
    rw [upd_same] at h
    cases h
  · rwa [upd_ne e] at h
section
variable {P : Program} {w : World} {K : PySem.W.Frag} {mg : Str → Option Value} {base : Heap} {a : Adr}
theorem ok_Room_own_page (T : Tx K mg a) : FnOk P w K mg base CX0 3 a.Room_own_page a.fd_Room_own_page ["self", "at"] (sp_Room_own_page a) := by
  have G_Page_init := ok_Page_init (P := P) (w := w) (base := base) T
  refine T.F_Room_own_page.ok sc_Room_own_page (fun vs H Q E h => ?_) (fun cdv A outer s H vs Q E hr h => ?_)
  · obtain ⟨r, pl, ps, wd, cs, t, plt, pst, wt, as, j, p, rfl, _⟩ := h
    rfl
  · obtain ⟨r, pl, ps, wd, cs, t, plt, pst, wt, as, j, p, rfl, S, hp, k⟩ := h
    refine ⟨_, (pss_cons (ps_set (i := 2) sc_Room_own_page.nd rfl (Or.inl rfl) (pe_ix ix_list (pe_fld (pv 0) (by rfl)) (pv 1) (fun _ _ => rfl)))
          (pss_cons (ps_if (pt_cmpR op_gt (pe_fld (pv 2) (by rfl)) pe_int (nomark _)) (pss_cons (ps_fldaug (pv 2) pe_int in_sub)
          (pss_cons (ps_set (i := 2) sc_Room_own_page.nd rfl (Or.inl rfl) (pe_make T.mk_Page G_Page_init (hr.mono (by decide)) rfl T.m_Page (b_Page_init T) .nil pass0 (pa_cons (pe_callTy call_list_of (by rfl) T.n_list (by decide +kernel) (pa_cons (pe_fld (pv 2) (by rfl)) pa_nil)) pa_nil)))
          (pss_cons (ps_asg (pv 2) (pg_sub (pe_fld (pv 0) (by rfl)) (pv 1) set_list))
          (pss_one (ps_fldaug (pv 0) pe_int in_add))))) pss_nil)
          (pss_one (ps_ret (pv 2))))), ?_⟩
    have R := S.main
    obtain ⟨dr, cp, ho⟩ := R.ob
    obtain ⟨dx, hold, h1, h2, h3⟩ := R.pg j p hp
    refine ⟨_, rfl, r, _, dr, _, _, rfl, ho, T.cl_Room, T.na_Room_pages, rfl, _, rfl, ?_⟩
    refine ⟨pl, _, (j : Int), _, rfl, rfl, SqL.of R.lst, atI_nat (by rw [List.getElem?_map, hp]; rfl), ?_⟩
    refine ⟨_, rfl, p.1, _, dx, _, _, rfl, h2, T.cl_Page, T.na_Page_holders, rfl, _, _, rfl, rfl, _, rfl, ?_⟩
    by_cases hh : hold > 1
    · refine ifT hh ?_
      have npl : p.1 ≠ pl := ne_ins_lst h2 R.lst
      have nr : r ≠ p.1 := ne_room_page ho h2
      have nrl : r ≠ pl := ne_ins_lst ho R.lst
      have n2 : p.2 ≠ p.1 := ne_lst_ins h3 h2
      refine ⟨_, rfl, p.1, _, dx, _, _, rfl, h2, T.cl_Page, T.na_Page_holders, rfl, _, _, rfl, rfl, _, _, h2, by show (2 : Nat) < 1000; decide, ?_⟩
      refine ⟨_, rfl, p.1, _, dx, _, _, rfl, upd_same, T.cl_Page, T.na_Page_kept, rfl, p.2, _, rfl, .inl (SqL.of (by rw [upd_ne n2]; exact h3)), fun l hl x dx' hx hdx hne => ?_⟩
      refine ⟨x, dx', l, rfl, upd_same, rfl, ?_⟩
      have hl0 : H l = none := free_upd hl
      have hx1 : upd H p.1 (.ins a.Page dx (putF (Str.ofString "holders") (.int (hold - 1)) (pgf p.2 hold))) x = none := free_upd hx
      have hx0 : H x = none := free_upd hx1
      have hd0 : H dx' = none := free_upd (free_upd hdx)
      have hxl : x ≠ l := fun e => by
        subst e
        rw [upd_same] at hx
        cases hx
      have hdl : dx' ≠ l := fun e => by
        subst e
        rw [upd_same] at hdx
        cases hdx
      have nx : ∀ {b o}, H b = some o → b ≠ x := fun e => ne_of_none e hx0
      have nl : ∀ {b o}, H b = some o → b ≠ l := fun e => ne_of_none e hl0
      have nd : ∀ {b o}, H b = some o → b ≠ dx' := fun e => ne_of_none e hd0
      have hj := (List.getElem?_eq_some_iff.mp hp).1
      rw [upd_upd]
      refine ⟨_, rfl, _, rfl, r, _, dr, _, _, rfl, by rw [upd_ne (nx ho), upd_ne (nd ho), upd_ne (nl ho), upd_ne nr]; exact ho, T.cl_Room, T.na_Room_pages, rfl, _, rfl, ?_⟩
      refine ⟨pl, ps.map fun p => V.ref p.1, (j : Int), j, rfl, rfl, by rw [upd_ne (nx R.lst), upd_ne (nd R.lst), upd_ne (nl R.lst), upd_ne (Ne.symm npl)]; exact R.lst, ixn_at (by rw [List.length_map]; exact hj), ?_⟩
      have hro : ∀ o, (upd (upd (upd (upd (upd H p.1 (.ins a.Page dx (putF (Str.ofString "holders") (.int (hold - 1)) (pgf p.2 hold)))) l (.lst (zv (chunk cs wd j)))) dx' (.own x)) x (.ins a.Page dx' (pgf l 1))) pl o) r = some (.ins a.Room dr (rf cs.length wd pl cp)) := fun o => by
        rw [upd_ne nrl, upd_ne (nx ho), upd_ne (nd ho), upd_ne (nl ho), upd_ne nr]; exact ho
      refine ⟨_, rfl, r, _, dr, _, _, rfl, hro _, T.cl_Room, T.na_Room_copies, rfl, _, _, rfl, rfl, _, _, hro _, by show (5 : Nat) < 1000; decide, ?_⟩
      refine ⟨_, rfl, ?_⟩
      refine (fun q => k _ (ps.set j (x, l)) (x, l) q.1 q.2.1 (by rw [List.getElem?_set, if_pos rfl, if_pos hj]) q.2.2) (S.own hp h2 (by omega) hx0 hl0 hxl ?_ ?_ ?_ ?_ ?_ ?_)
      · intro b o hb n1 n2 n3
        rw [upd_ne n1, upd_ne n2, upd_ne (nx hb), upd_ne (nd hb), upd_ne (nl hb), upd_ne n3]
        exact hb
      · exact ⟨dr, cp + 1, upd_same⟩
      · rw [upd_ne (Ne.symm nrl), upd_same, map_set_fst]
      · rw [upd_ne (Ne.symm nr), upd_ne npl, upd_ne (nx h2), upd_ne (nd h2), upd_ne (nl h2), upd_same]
        rfl
      · exact ⟨dx', by rw [upd_ne (Ne.symm (nx ho)), upd_ne (Ne.symm (nx R.lst)), upd_same]⟩
      · rw [upd_ne (Ne.symm (nl ho)), upd_ne (Ne.symm (nl R.lst)), upd_ne (Ne.symm hxl), upd_ne (Ne.symm hdl), upd_same]
    · refine ifF hh ⟨_, rfl, k H ps p S (Kg.refl ..) hp fun hn => ?_⟩
      obtain ⟨dx', hold', g1, g2⟩ := S.x4 p (List.mem_of_getElem? hp) hn
      rw [h2] at g2
      injection g2 with g2
      injection g2 with _ _ g2
      unfold pgf at g2
      injection g2 with _ g2
      injection g2 with g2 _
      injection g2 with _ g2
      injection g2 with g2
      omega
theorem ok_Room_write (T : Tx K mg a) : FnOk P w K mg base CX0 4 a.Room_write a.fd_Room_write ["self", "cell", "number"] (sp_Room_write a) := by
  have G_Room_need := ok_Room_need (P := P) (w := w) (base := base) T
  have G_Room_read := ok_Room_read (P := P) (w := w) (base := base) T
  have G_Room_own_page := ok_Room_own_page (P := P) (w := w) (base := base) T
  refine T.F_Room_write.ok sc_Room_write (fun vs H Q E h => ?_) (fun cdv A outer s H vs Q E hr h => ?_)
  · obtain ⟨r, pl, ps, wd, cs, t, plt, pst, wt, as, c, z, rfl, _⟩ := h
    rfl
  · obtain ⟨r, pl, ps, wd, cs, t, plt, pst, wt, as, c, z, rfl, S, hc, k⟩ := h
    refine ⟨_, (pss_cons (ps_expr (pe_meth (pv 0) T.cl_Room T.me_Room_need G_Room_need (hr.mono (by decide)) (b_Room_need T) .nil pass0 (pa_cons (pv 1) pa_nil)))
          (pss_cons (ps_if (pt_cmpR op_gt (pe_fld (pv 0) (by rfl)) pe_int (nomark _)) (pss_one ps_never) pss_nil)
          (pss_one (ps_if (pt_cmpR op_ne (pe_meth (pv 0) T.cl_Room T.me_Room_read G_Room_read (hr.mono (by decide)) (b_Room_read T) .nil pass0 (pa_cons (pv 1) pa_nil)) (pv 2) (nomark _)) (pss_one (ps_asg (pv 2) (pg_sub (pe_fld (pe_meth (pv 0) T.cl_Room T.me_Room_own_page G_Room_own_page (hr.mono (by decide)) (b_Room_own_page T) .nil pass0 (pa_cons (pe_op op_fdiv (pv 1) (pe_fld (pv 0) (by rfl))) pa_nil)) (by rfl)) (pe_op op_mod (pv 1) (pe_fld (pv 0) (by rfl))) set_list))) pss_nil)))), ?_⟩
    have R := S.main
    obtain ⟨dr, cp, ho⟩ := R.ob
    have hw := R.w0
    have hw1 := R.w1
    obtain ⟨p, hp, hpg, h4⟩ := R.at_ hc
    refine ⟨_, rfl, r, dr, _, rfl, ho, rfl, _, rfl, r, pl, ps, wd, cs, c, rfl, R, hc, ?_⟩
    refine ⟨_, rfl, r, _, dr, _, _, rfl, ho, T.cl_Room, T.na_Room_shuts, rfl, _, _, rfl, rfl, _, rfl, ifF (by omega) ?_⟩
    refine ⟨_, rfl, r, dr, _, rfl, ho, rfl, _, rfl, r, pl, ps, wd, cs, c, cs[c], rfl, R, List.getElem?_eq_getElem hc, _, rfl, rfl, _, rfl, ?_⟩
    by_cases hz : cs[c] = z
    · refine ifNF (by rw [hz]) ?_
      refine k H ps ?_ (Kg.refl ..)
      have e : cs.set c z = cs := by rw [← hz]; exact List.set_getElem_self _
      rw [e]
      exact S
    · refine ifNT (fun e => hz (by injection e)) ?_
      refine ⟨_, rfl, _, rfl, r, dr, _, rfl, ho, rfl, _, rfl, _, rfl, r, _, dr, _, _, rfl, ho, T.cl_Room, T.na_Room_width, rfl, _, _, rfl, rfl, ⟨by omega, by omega⟩, ?_⟩
      refine ⟨r, pl, ps, wd, cs, t, plt, pst, wt, as, c / wd, p, rfl, S, hp, fun H' ps' p' S' kg hp' hn' => ?_⟩
      obtain ⟨dr', cp', ho'⟩ := S'.main.ob
      obtain ⟨dx', hold', _, h2', h3'⟩ := S'.main.pg _ _ hp'
      refine ⟨p'.1, _, dx', _, _, rfl, h2', T.cl_Page, T.na_Page_kept, rfl, ?_⟩
      refine ⟨_, rfl, _, rfl, r, _, dr', _, _, rfl, ho', T.cl_Room, T.na_Room_width, rfl, _, _, rfl, rfl, by omega, ?_⟩
      have hlt : c % wd < (chunk cs wd (c / wd)).length := (List.getElem?_eq_some_iff.mp h4).1
      refine ⟨p'.2, zv (chunk cs wd (c / wd)), ((c % wd : Nat) : Int), c % wd, rfl, rfl, h3', ixn_at (by rw [zv_len]; exact hlt), ?_⟩
      obtain ⟨q1, q2⟩ := S'.put (z := z) hp' hn'
      have e : (zv (chunk cs wd (c / wd))).set (c % wd) (.int z) = zv ((chunk cs wd (c / wd)).set (c % wd) z) := by
        unfold zv
        rw [List.map_set]
      rw [e]
      exact k _ ps' q1 (kg.trans q2)
end
end VG

set_option Elab.async false
set_option linter.all false
set_option maxRecDepth 100000
set_option maxHeartbeats 4000000
namespace VG
open PySem PySem.Spec PyProof.Rows L2
def sp_Room_init (a : Adr) : Sp := fun vs H Q _ => ∃ (x dx q : Addr) (w : Nat) (cs : List Int), vs = [.ref x, .ref q, .int (w : Int)] ∧ H x = some (.ins a.Room dx []) ∧ (H q = some (.lst (zv cs)) ∨ (H q = some (.tup []) ∧ cs = [])) ∧ 1 ≤ w ∧ w ≤ 64 ∧ cs.length ≤ 20000 ∧
  ∀ H' pl ps, RoomAt a H' x pl ps w cs → (∀ b, guts x pl ps b → b = x ∨ H b = none) → (∀ b o, b ≠ x → H b = some o → H' b = some o) → Q .non H'
def sp_Room_twin (a : Adr) : Sp := fun vs H Q _ => ∃ (r pl : Addr) (ps : List (Addr × Addr)) (w : Nat) (cs : List Int), vs = [.ref r] ∧ RoomAt a H r pl ps w cs ∧
  ∀ H' t plt, Sys a H' r pl ps w cs t plt ps w cs → Kg r pl ps H H' ps → H t = none → H plt = none → Q (.ref t) H'
theorem exists_nox {X : Cx} {body : List Stmt} {D : Ends} {σ : St} {H : Hp} (h : ∃ t, PSs X.nox body t ∧ t D σ H) : ∃ t, PSs X body t ∧ t D σ H := let ⟨t, a, b⟩ := h; ⟨t, a.nox, b⟩
theorem rgC_up {n w : Nat} (h1 : 1 ≤ w) (h2 : w ≤ 64) (h3 : n ≤ 20000) : RgC 0 (n : Int) (w : Int) ((n + w - 1) / w) := by
  have e : Builtin.Range.rangeSize 0 (n : Int) (w : Int) = (((n + w - 1) / w : Nat) : Int) := by
    rw [rangeSize_pos (by omega) (by omega)]
    have : (n : Int) + (w : Int) - 1 = ((n + w - 1 : Nat) : Int) := by omega
    rw [this]
    rfl
  have hle : (n + w - 1) / w ≤ n + w - 1 := Nat.div_le_self ..
  refine ⟨by omega, by omega, ?_, e⟩
  unfold Builtin.Range.small
  rw [e]
  generalize (n + w - 1) / w = m at hle
  have h0 : (w : Int) > 0 := by omega
  simp only [Builtin.Range.rangeFitsLong, Bool.and_eq_true, Bool.or_eq_true, decide_eq_true_eq, beq_iff_eq, h0, if_true]
  omega
theorem turns_np {n w : Nat} (h1 : 1 ≤ w) : n ≤ (n + w - 1) / w * w := by
  have h := Nat.div_add_mod (n + w - 1) w
  have h' := Nat.mod_lt (n + w - 1) (show 0 < w by omega)
  rw [Nat.mul_comm]
  omega
theorem cut_chunk (cs : List Int) (w i : Nat) : cutV (zv cs) (some (0 + (i : Nat) * (w : Int))) (some (0 + (i : Nat) * (w : Int) + (w : Int))) = zv (chunk cs w i) := by
  have e1 : (0 + (i : Int) * (w : Int)) = ((i * w : Nat) : Int) := by rw [Int.zero_add]; rfl
  have e2 : ((i * w : Nat) : Int) + (w : Int) = ((i * w + w : Nat) : Int) := rfl
  unfold cutV
  rw [e1, e2, HT.sIx_nat, HT.sIx_nat, zv_len]
  unfold zv chunk
  rw [← List.map_drop, ← List.map_take]
  congr 1
  apply List.ext_getElem?
  intro j
  rw [List.getElem?_take, List.getElem?_drop, List.getElem?_take, List.getElem?_drop]
  by_cases h : i * w ≤ cs.length
  · rw [Nat.min_eq_left h]
    by_cases hj : j < w
    · rw [if_pos hj]
      by_cases hk : i * w + j < cs.length
      · rw [if_pos (by omega)]
      · rw [List.getElem?_eq_none (by omega)]
        simp
    · rw [if_neg hj, if_neg (by omega)]
  · rw [List.getElem?_eq_none (l := cs) (i := i * w + j) (by omega)]
    rw [if_neg (by omega)]
    simp
section
variable {P : Program} {w : World} {K : PySem.W.Frag} {mg : Str → Option Value} {base : Heap} {a : Adr}
theorem ok_Room_init (T : Tx K mg a) : FnOk P w K mg base CX0 3 a.Room_init a.fd_Room_init ["self", "numbers", "page"] (sp_Room_init a) := by
  have G_Page_init := ok_Page_init (P := P) (w := w) (base := base) T
  refine T.F_Room_init.ok sc_Room_init (fun vs H Q E h => ?_) (fun cdv A outer s H vs Q E hr h => exists_nox ?_)
  · obtain ⟨x, dx, q, wd, cs, rfl, _⟩ := h
    rfl
  · obtain ⟨x, dx, q, wd, cs, rfl, hx, hq, w0, w1, hb, k⟩ := h
    refine ⟨_, (pss_cons (ps_fld (pv 0) (pe_callB call_len_seq (by rfl) T.n_len (by decide +kernel) (pa_cons (pv 1) pa_nil)) rfl)
          (pss_cons (ps_fld (pv 0) (pv 2) rfl)
          (pss_cons (ps_fld (pv 0) (pe_lc (own := [("at", 3)]) rfl sc_Room_init.nd (pi_range3 (by rfl) T.n_range (pa_cons pe_int (pa_cons (pe_callB call_len_seq (by rfl) T.n_len (by decide +kernel) (pa_cons (pv 1) pa_nil)) (pa_cons (pv 2) pa_nil)))) (blkOk_by (N := ["self", "numbers", "page", "at"]) (sc := defScope s_Room_init) (own := [("at", 3)]) (by decide +kernel)) (fun _ _ _ _ _ => (pg_name (i := 3) sc_Room_init.nd rfl (Or.inl rfl))) (fun _ _ _ _ _ => pts_nil) (fun _ _ _ _ _ => (pe_make T.mk_Page G_Page_init (hr.mono (by decide)) rfl T.m_Page (b_Page_init T) .nil pass0 (pa_cons (pe_callTy (show CallR _ _ (rListOf K) from call_list_of) (by rfl) T.n_list (by decide +kernel) (pa_cons (pe_slice (r := rSlL K) sl_list (pv 1) (po_some (pv 3)) (po_some (pe_op op_add (pv 3) (pv 2)))) pa_nil)) pa_nil)))) rfl)
          (pss_cons (ps_fld (pv 0) pe_int rfl)
          (pss_one (ps_fld (pv 0) pe_int rfl)))))), ?_⟩
    have xq : q ≠ x := by
      rcases hq with hq | ⟨hq, _⟩
      · exact ne_lst_ins hq hx
      · exact ne_of hq hx (by intro z; cases z)
    have hqs : ∀ H', (∀ o, H q = some o → H' q = some o) → SqL K H' q (zv cs) ∨ SqT K H' q (zv cs) := by
      intro H' e
      rcases hq with hq | ⟨hq, e2⟩
      · exact .inl (SqL.of (e _ hq))
      · subst e2
        exact .inr (SqT.of (e _ hq))
    refine ⟨_, rfl, q, zv cs, rfl, hqs H (fun _ e => e), _, rfl, x, _, dx, _, rfl, hx, T.cl_Room, T.na_Room_many, by show (0 : Nat) < 1000; decide, ?_⟩
    rw [zv_len]
    refine ⟨_, rfl, _, rfl, x, _, dx, _, rfl, upd_same, T.cl_Room, T.na_Room_width, by show (1 : Nat) < 1000; decide, ?_⟩
    rw [upd_upd]
    generalize hHb : upd H x _ = Hb
    have hxb : Hb x = some (.ins a.Room dx [("many", .int (cs.length : Int)), ("width", .int (wd : Int))]) := by rw [← hHb]; exact upd_same
    have kb : ∀ b o, b ≠ x → H b = some o → Hb b = some o := fun b o n e => by rw [← hHb, upd_ne n]; exact e
    have fb : ∀ b, Hb b = none → H b = none := fun b e => by rw [← hHb] at e; exact free_upd e
    refine ⟨_, rfl, q, zv cs, rfl, hqs Hb (kb q · xq), _, rfl, _, _, _, (cs.length + wd - 1) / wd, rfl, by rw [zv_len]; exact rgC_up w0 w1 hb, fun D hD => ?_⟩
    have nxD : x ≠ D := ne_of_none hxb hD
    refine lc_mut walk_rangeC (fun i acc H' => Same Hb H' ∧ ∃ ps : List (Addr × Addr), ps.length = i ∧ acc = (ps.map fun p => V.ref p.1) ∧ (∀ j p, ps[j]? = some p → PgAt a H' p (chunk cs wd j)) ∧ (∀ p ∈ ps, Hb p.1 = none ∧ Hb p.2 = none ∧ p.2 ≠ D) ∧ (ps.map (·.1)).Nodup ∧ (ps.map (·.2)).Nodup)
      (by have := Nat.div_le_self (cs.length + wd - 1) wd; generalize (cs.length + wd - 1) / wd = m at this ⊢; omega) ⟨sm_new hD, [], rfl, rfl, by simp, by simp, by simp, by simp⟩ (fun _ _ _ _ => trivial) ?_ ?_ ?_
    · rintro i acc H' ys' zs ⟨s1, ps, h1, h2, h3, h4, h5, h6⟩ hy
      refine ⟨sm_mut s1 hD, ps, h1, h2, fun j p hj => ?_, h4, h5, h6⟩
      obtain ⟨dp, hold, g0, g1, g2⟩ := h3 j p hj
      exact ⟨dp, hold, g0, by rw [upd_ne (ne_ins_lst g1 hy)]; exact g1, by rw [upd_ne (h4 p (List.mem_of_getElem? hj)).2.2]; exact g2⟩
    · rintro i v H1 H2 acc k' hi hacl ⟨s1, ps, h1, h2, h3, h4, h5, h6⟩ hacc ⟨rfl, rfl⟩ hk
      have hqc : H q = some (.lst (zv cs)) := by
        rcases hq with hq | ⟨hq, e⟩
        · exact hq
        · subst e
          have : (([] : List Int).length + wd - 1) / wd = 0 := Nat.div_eq_of_lt (by simp; omega)
          omega
      have hqb := s1 _ _ (kb _ _ xq hqc)
      refine ⟨rfl, _, rfl, _, rfl, _, rfl, _, rfl, _, rfl, _, _, rfl, rfl, _, rfl, ?_⟩
      refine ⟨q, _, rfl, SqL.of hqb, fun p1 hp1 => ⟨p1, _, rfl, .inl (SqL.of upd_same), fun l hl y dy hy hdy hne => ⟨y, dy, l, rfl, upd_same, rfl, ?_⟩⟩⟩
      rw [cut_chunk] at hl hy hdy ⊢
      rw [upd_upd]
      have s2 : Same H2 (upd H2 p1 (.lst (zv (chunk cs wd i)))) := sm_new hp1
      have s3 := sm_upd (o := .lst (zv (chunk cs wd i))) s2 hl
      have hdy' : upd (upd H2 p1 (.lst (zv (chunk cs wd i)))) l (.lst (zv (chunk cs wd i))) dy = none := hdy
      have hy' : upd (upd H2 p1 (.lst (zv (chunk cs wd i)))) l (.lst (zv (chunk cs wd i))) y = none := hy
      have s4 := sm_upd (o := .own y) s3 hdy'
      have hy2 : upd (upd (upd H2 p1 (.lst (zv (chunk cs wd i)))) l (.lst (zv (chunk cs wd i)))) dy (.own y) y = none := by rw [upd_ne (Ne.symm hne)]; exact hy'
      have s5 := sm_upd (o := .ins a.Page dy (pgf l 1)) s4 hy2
      have ly : l ≠ y := fun e => by
        subst e
        rw [upd_same] at hy'
        cases hy'
      have ld : l ≠ dy := fun e => by
        subst e
        rw [upd_same] at hdy'
        cases hdy'
      have hl0 : H2 l = none := free_upd hl
      have hy0 : H2 y = none := free_upd (free_upd hy')
      refine hk _ _ (s5 _ _ hacc) ⟨s1.trans s5, ps ++ [(y, l)], by rw [List.length_append, h1]; rfl, by rw [h2, List.map_append]; rfl, ?_, ?_, ?_, ?_⟩
      · intro j p hj
        by_cases hjl : j < ps.length
        · rw [List.getElem?_append_left hjl] at hj
          obtain ⟨dp, hold, g0, g1, g2⟩ := h3 j p hj
          exact ⟨dp, hold, g0, s5 _ _ g1, s5 _ _ g2⟩
        · rw [List.getElem?_append_right (by omega)] at hj
          have hj0 : j - ps.length = 0 := by
            have := (List.getElem?_eq_some_iff.mp hj).1
            simp at this
            omega
          rw [hj0] at hj
          obtain rfl := Option.some.inj hj
          have : j = i := by omega
          subst this
          exact ⟨dy, 1, by omega, upd_same, by rw [upd_ne ly, upd_ne ld]; exact upd_same⟩
      · intro p hp
        rcases List.mem_append.mp hp with e | e
        · exact h4 p e
        · obtain rfl : p = (y, l) := by simpa using e
          exact ⟨s1.free hy0, s1.free hl0, fun e => by
            have e' : l = D := e
            rw [e', hacc] at hl0
            cases hl0⟩
      · rw [List.map_append, List.nodup_append]
        refine ⟨h5, by simp, ?_⟩
        intro u hu v hv e
        obtain ⟨p, hp, rfl⟩ := List.mem_map.mp hu
        have : v = y := by simpa using hv
        obtain ⟨j, hj, ej⟩ := List.getElem_of_mem hp
        obtain ⟨dp, hold, g0, g1, g2⟩ := h3 j p (by rw [List.getElem?_eq_getElem hj, ej])
        rw [e, this, hy0] at g1
        cases g1
      · rw [List.map_append, List.nodup_append]
        refine ⟨h6, by simp, ?_⟩
        intro u hu v hv e
        obtain ⟨p, hp, rfl⟩ := List.mem_map.mp hu
        have : v = l := by simpa using hv
        obtain ⟨j, hj, ej⟩ := List.getElem_of_mem hp
        obtain ⟨dp, hold, g0, g1, g2⟩ := h3 j p (by rw [List.getElem?_eq_getElem hj, ej])
        rw [e, this, hl0] at g2
        cases g2
    · rintro acc H1 hacc hacl ⟨s1, ps, h1, h2, h3, h4, h5, h6⟩
      have hx1 := s1 _ _ hxb
      refine ⟨_, rfl, x, _, dx, _, rfl, hx1, T.cl_Room, T.na_Room_pages, by show (2 : Nat) < 1000; decide, ?_⟩
      refine ⟨_, rfl, x, _, dx, _, rfl, upd_same, T.cl_Room, T.na_Room_copies, by show (3 : Nat) < 1000; decide, ?_⟩
      refine ⟨_, rfl, x, _, dx, _, rfl, upd_same, T.cl_Room, T.na_Room_shuts, by show (4 : Nat) < 1000; decide, ?_⟩
      rw [upd_upd, upd_upd]
      have keep : ∀ b o, b ≠ x → H b = some o → upd H1 x (.ins a.Room dx (rf cs.length wd D 0)) b = some o := fun b o n e => by rw [upd_ne n]; exact s1 _ _ (kb _ _ n e)
      have pn : ∀ {b : Addr} {o}, H1 b = some o → Hb b = none → b ≠ x := fun h1 h2 => by
        intro e
        rw [e, hxb] at h2
        cases h2
      refine k _ D ps ⟨⟨dx, 0, upd_same⟩, by rw [upd_ne (Ne.symm nxD), hacc, h2], by rw [h1]; exact turns_np w0, ?_, h5, h6, fun p hp => (h4 p hp).2.2, w0, w1, hb⟩ ?_ keep
      · intro j p hj
        obtain ⟨dp, hold, g0, g1, g2⟩ := h3 j p hj
        have g3 := h4 p (List.mem_of_getElem? hj)
        exact ⟨dp, hold, g0, by rw [upd_ne (pn g1 g3.1)]; exact g1, by rw [upd_ne (pn g2 g3.2.1)]; exact g2⟩
      · intro b g
        rcases g with e | e | ⟨p, hp, e⟩
        · exact .inl e
        · exact .inr (fb _ (e ▸ hD))
        · have g3 := h4 p hp
          rcases e with e | e
          · exact .inr (fb _ (e ▸ g3.1))
          · exact .inr (fb _ (e ▸ g3.2.1))
end
end VG

set_option Elab.async false
set_option linter.all false
set_option maxRecDepth 100000
set_option maxHeartbeats 4000000
namespace VG
open PySem PySem.Spec PyProof.Rows L2
section
variable {P : Program} {w : World} {K : PySem.W.Frag} {mg : Str → Option Value} {base : Heap} {a : Adr}
theorem ok_Room_twin (T : Tx K mg a) : FnOk P w K mg base CX0 5 a.Room_twin a.fd_Room_twin ["self"] (sp_Room_twin a) := by
  have G_Room_init := ok_Room_init (P := P) (w := w) (base := base) T
  obtain ⟨_, hbR⟩ := b_Room_init T
  refine T.F_Room_twin.ok sc_Room_twin (fun vs H Q E h => ?_) (fun cdv A outer s H vs Q E hr h => ?_)
  · obtain ⟨r, pl, ps, wd, cs, rfl, _⟩ := h
    rfl
  · obtain ⟨r, pl, ps, wd, cs, rfl, R, k⟩ := h
    refine ⟨_, (pss_cons (ps_set (i := 1) sc_Room_twin.nd rfl (Or.inl rfl) (pe_makeN T.mk_Room G_Room_init (hr.mono (by decide)) rfl T.m_Room hbR pass0 (pa_cons (pe_tup pa_nil) pa_nil) (pk_cons (pe_fld (pv 0) (by rfl)) pk_nil)))
          (pss_cons (ps_fld (pv 1) (pe_fld (pv 0) (by rfl)) rfl)
          (pss_cons (ps_fld (pv 1) (pe_callTy call_list_of (by rfl) T.n_list (by decide +kernel) (pa_cons (pe_fld (pv 0) (by rfl)) pa_nil)) rfl)
          (pss_cons (ps_for PassesOwn.never rfl (pi_list (pe_fld (pv 1) (by rfl))) (pg_name (i := 2) sc_Room_twin.nd rfl (Or.inl rfl))
            (pss_one (ps_fldaug (pv 2) pe_int in_add)))
          (pss_one (ps_ret (pv 1))))))), ?_⟩
    obtain ⟨dr, cp, ho⟩ := R.ob
    refine ⟨by decide, fun t0 ht0 => ?_⟩
    have s0 := sm_new (o := .tup []) ht0
    refine ⟨_, rfl, r, _, dr, _, _, rfl, s0 _ _ ho, T.cl_Room, T.na_Room_width, rfl, rfl, rfl, fun x dx hx hdx hne => ?_⟩
    have h0x : H x = none := free_upd hx
    refine ⟨x, dx, t0, wd, [], rfl, upd_same, .inr ⟨?_, rfl⟩, R.w0, R.w1, Nat.zero_le _, fun H3 plx psx Rx fx kx => ⟨rfl, ?_⟩⟩
    · have n1 : t0 ≠ x := ne_of_none upd_same hx
      have n2 : t0 ≠ dx := ne_of_none upd_same hdx
      rw [upd_ne n1, upd_ne n2]
      exact upd_same
    have s3 : Same H H3 := by
      intro b o e
      have nb : b ≠ x := ne_of_none e h0x
      refine kx b o nb ?_
      rw [upd_ne nb]
      exact (sm_upd s0 hdx) b o e
    obtain ⟨dxx, cpx, hox⟩ := Rx.ob
    have hro := s3 _ _ ho
    have nrx : r ≠ x := ne_of_none ho h0x
    have npx : pl ≠ x := ne_of_none R.lst h0x
    refine ⟨_, rfl, r, _, dr, _, _, rfl, hro, T.cl_Room, T.na_Room_many, rfl, _, rfl, x, _, dxx, _, rfl, hox, T.cl_Room, T.na_Room_many, by show (5 : Nat) < 1000; decide, ?_⟩
    refine ⟨_, rfl, r, _, dr, _, _, rfl, by rw [upd_ne nrx]; exact hro, T.cl_Room, T.na_Room_pages, rfl, pl, _, rfl, .inl (SqL.of (by rw [upd_ne npx]; exact s3 _ _ R.lst)), fun l hl => ?_⟩
    have hl3 : H3 l = none := free_upd hl
    have nlx : x ≠ l := ne_of_none hox hl3
    refine ⟨_, rfl, x, _, dxx, _, rfl, by rw [upd_ne nlx]; exact upd_same, T.cl_Room, T.na_Room_pages, by show (5 : Nat) < 1000; decide, ?_⟩
    generalize hH4 : upd (upd (upd H3 x _) l _) x _ = H4
    have hx4 : H4 x = some (.ins a.Room dxx (rf cs.length wd l cpx)) := by
      rw [← hH4]
      exact upd_same
    have hl4 : H4 l = some (.lst (ps.map fun p => V.ref p.1)) := by
      rw [← hH4, upd_ne (Ne.symm nlx)]
      exact upd_same
    have s4 : Same H H4 := by
      intro b o e
      have nb : b ≠ x := ne_of_none e h0x
      rw [← hH4, upd_ne nb, upd_ne (ne_of_none (s3 b o e) hl3), upd_ne nb]
      exact s3 b o e
    refine ⟨_, rfl, x, _, dxx, _, _, rfl, hx4, T.cl_Room, T.na_Room_pages, rfl, l, rfl, ⟨_, SqL.of hl4⟩, ?_⟩
    have key : ∀ (j : Nat) (p : Addr × Addr), ps[j]? = some p → p.1 ≠ x ∧ p.1 ≠ l := by
      intro j p hj
      obtain ⟨dp, hold, g0, g1, g2⟩ := R.pg j p hj
      exact ⟨ne_of_none g1 h0x, ne_of_none g1 (s3.free hl3)⟩
    refine for_it (walk_list (xs := ps.map fun p => V.ref p.1)) (fun i σ H' => (∃ v, σ = [some (.ref r), some (.ref x), v]) ∧ (∀ b o, H4 b = some o → (∀ p ∈ ps, b ≠ p.1) → H' b = some o) ∧ ∀ (j : Nat) (p : Addr × Addr), ps[j]? = some p → ∃ dp hold, (if j < i then 2 else 1) ≤ hold ∧ H' p.1 = some (.ins a.Page dp (pgf p.2 hold)))
      ⟨⟨none, rfl⟩, fun b o e _ => e, fun j p hj => ?_⟩ (fun i σ H' _ q => SqL.of (q.2.1 _ _ hl4 fun p hp e => ?_)) ?_ ?_
    · obtain ⟨dp, hold, g0, g1, g2⟩ := R.pg j p hj
      exact ⟨dp, hold, by rw [if_neg (Nat.not_lt_zero j)]; exact g0, s4 _ _ g1⟩
    · obtain ⟨j, hj, ej⟩ := List.getElem_of_mem hp
      exact (key j p (by rw [List.getElem?_eq_getElem hj, ej])).2 e.symm
    · rintro i v σ H1 H2 hi ⟨⟨v0, rfl⟩, k1, k2⟩ ⟨rfl, hx⟩
      rw [List.getElem?_map] at hx
      cases hp : ps[i]? with
      | none => rw [hp] at hx; cases hx
      | some p =>
        rw [hp] at hx
        obtain rfl := Option.some.inj hx
        obtain ⟨dp, hold, g0, g1⟩ := k2 i p hp
        rw [if_neg (Nat.lt_irrefl i)] at g0
        refine ⟨_, rfl, p.1, _, dp, _, _, rfl, g1, T.cl_Page, T.na_Page_holders, rfl, _, _, rfl, rfl, _, _, g1, by show (2 : Nat) < 1000; decide, ⟨_, rfl⟩, ?_, ?_⟩
        · intro b o e n
          rw [upd_ne (n p (List.mem_of_getElem? hp))]
          exact k1 b o e n
        · intro j q hq
          by_cases e : j = i
          · subst e
            rw [hp] at hq
            obtain rfl := Option.some.inj hq
            exact ⟨dp, hold + 1, by rw [if_pos (Nat.lt_succ_self j)]; omega, upd_same⟩
          · obtain ⟨dq, hold', g0', g1'⟩ := k2 j q hq
            refine ⟨dq, hold', ?_, by rw [upd_ne fun eq => e (nd_inj R.nd1 hq hp eq)]; exact g1'⟩
            by_cases hji : j < i
            · rw [if_pos hji] at g0'
              rw [if_pos (by omega)]
              exact g0'
            · rw [if_neg hji] at g0'
              rw [if_neg (by omega)]
              exact g0'
    · rintro σ H1 ⟨⟨v0, rfl⟩, k1, k2⟩
      refine ⟨_, rfl, ?_⟩
      have nt : ∀ p ∈ ps, x ≠ p.1 ∧ l ≠ p.1 := by
        intro p hp
        obtain ⟨j, hj, ej⟩ := List.getElem_of_mem hp
        have := key j p (by rw [List.getElem?_eq_getElem hj, ej])
        exact ⟨this.1.symm, this.2.symm⟩
      have q := Sys.twin_of (H' := H1) (t := x) (plt := l) R h0x (s3.free hl3) (fun b o e n => k1 b o (s4 b o e) n) (fun p hp => ?_) ⟨dxx, cpx, k1 _ _ hx4 fun p hp => (nt p hp).1⟩ (k1 _ _ hl4 fun p hp => (nt p hp).2)
      · exact k H1 x l q.1 q.2 h0x (s3.free hl3)
      · obtain ⟨j, hj, ej⟩ := List.getElem_of_mem hp
        obtain ⟨dp, hold, g0, g1⟩ := k2 j p (by rw [List.getElem?_eq_getElem hj, ej])
        rw [if_pos (by rw [List.length_map]; exact hj)] at g0
        exact ⟨dp, hold, g0, g1⟩
end
end VG

set_option Elab.async false
set_option linter.all false
set_option maxRecDepth 100000
set_option maxHeartbeats 4000000
namespace VG
open PySem PySem.Spec PyProof.Rows L2
/-- good strides -/
def Strides (ss : List Int) : Prop := ∀ s ∈ ss, -600 ≤ s ∧ s ≤ 600
def sp_vet_strides : Sp := fun vs H Q _ => ∃ (q : Addr) (ss : List Int), vs = [.ref q, .int (ss.length : Int)] ∧ H q = some (.tup (zv ss)) ∧ Strides ss ∧ ∀ H', Same H H' → Q .non H'
def sp_cells_by : Sp := fun vs H Q _ => ∃ (p q : Addr) (b : Int) (ls : List Nat) (ss : List Int), vs = [.ref p, .int b, .ref q] ∧ H p = some (.tup (iv ls)) ∧ H q = some (.tup (zv ss)) ∧ ls.length = ss.length ∧ Sides ls ∧
  ∀ H' l, Same H H' → H l = none → H' l = some (.lst (zv (cells ls ss b))) → Q (.ref l) H'
def sp_vet_cells : Sp := fun vs H Q _ => ∃ (n : Nat) (p q : Addr) (b : Int) (ls : List Nat) (ss : List Int), vs = [.int (n : Int), .ref p, .int b, .ref q] ∧ H p = some (.tup (iv ls)) ∧ H q = some (.tup (zv ss)) ∧ ls.length = ss.length ∧ Sides ls ∧
  (∀ c ∈ cells ls ss b, 0 ≤ c ∧ c < n) ∧ ∀ H', Same H H' → Q .non H'
theorem cells_take {ls : List Nat} {ss : List Int} {b : Int} {i l : Nat} {s : Int} (hl : ls[i]? = some l) (hs : ss[i]? = some s) : cells (ls.take (i + 1)) (ss.take (i + 1)) b = cext (cells (ls.take i) (ss.take i) b) l s := by
  have h1 : i < ls.length := (List.getElem?_eq_some_iff.mp hl).1
  have h2 : i < ss.length := (List.getElem?_eq_some_iff.mp hs).1
  unfold cells
  rw [List.take_add_one, List.take_add_one, hl, hs, List.zip_append (by rw [List.length_take, List.length_take]; omega), List.foldl_append]
  rfl
theorem cells_zero {ls : List Nat} {ss : List Int} {b : Int} (h : ls.length = ss.length) (hz : size ls = 0) : cells ls ss b = [] := List.eq_nil_of_length_eq_zero (by rw [cells_length b h, hz])
section
variable {P : Program} {w : World} {K : PySem.W.Frag} {mg : Str → Option Value} {base : Heap} {a : Adr}
theorem ok_vet_strides (T : Tx K mg a) : FnOk P w K mg base CX0 2 a.vet_strides a.fd_vet_strides ["thing", "many"] sp_vet_strides := by
  obtain ⟨_, hc_MOST_STRIDE⟩ := T.m_MOST_STRIDE
  have G_is_whole := ok_is_whole (P := P) (w := w) (base := base) T
  refine T.F_vet_strides.ok sc_vet_strides (fun vs H Q E h => ?_) (fun cdv A outer s H vs Q E hr h => ?_)
  · obtain ⟨q, ss, rfl, _⟩ := h
    rfl
  · obtain ⟨q, ss, rfl, hq, hb, k⟩ := h
    refine ⟨_, (pss_cons (ps_if (pt_not (pt_val (pe_callB call_isi (by rfl) T.n_isinstance (by decide +kernel) (pa_cons (pv 0) (pa_cons (pe_bltn (v := .ty "tuple") (by rfl) T.n_tuple (by decide +kernel) rfl) pa_nil))))) (pss_one ps_never) pss_nil)
          (pss_cons (ps_for PassesOwn.never rfl (pi_enumT (by rfl) T.n_enumerate (pa_cons (pv 0) pa_nil)) (pg_tup rfl (pgs_cons (pg_name (i := 2) sc_vet_strides.nd rfl (Or.inl rfl)) (pgs_cons (pg_name (i := 3) sc_vet_strides.nd rfl (Or.inl rfl)) pgs_nil)))
            (pss_one (ps_if (PW.pt (pw_or (pt_not (pt_val (pe_call G_is_whole (hr.mono (by decide)) rfl T.m_is_whole T.F_is_whole.kp (b_is_whole T) .nil pass0 (pa_cons (pv 3) pa_nil)))) (pw_or1 (pt_not (pt_chain op_le op_le (pe_un un_neg (pe_glob (v := .int 600) (by rfl) hc_MOST_STRIDE ⟨_, rfl⟩)) (pv 3) (pe_glob (v := .int 600) (by rfl) hc_MOST_STRIDE ⟨_, rfl⟩)))))) (pss_one ps_never) pss_nil)))
          (pss_one (ps_if (pt_cmpR op_ne (pe_callB call_len_seq (by rfl) T.n_len (by decide +kernel) (pa_cons (pv 0) pa_nil)) (pv 1) (nomark _)) (pss_one ps_never) pss_nil)))), ?_⟩
    refine ⟨_, rfl, .ref q, .ty "tuple", .type "tuple", .type "tuple", true, rfl, .ty _, .base (.tup hq), kit_ty (by decide +kernel), true, rfl, iteF ?_⟩
    refine ⟨_, rfl, q, _, rfl, SqT.of hq, for_it walk_enumT (fun i σ H' => Same H H' ∧ ∃ v1 v2, σ = [some (.ref q), some (.int (ss.length : Int)), v1, v2]) ⟨Same.refl H, none, none, rfl⟩ (fun i σ H' _ z => SqT.of (z.1 _ _ hq)) ?_ ?_⟩
    · rintro i x σ H1 H2 hi ⟨s1, v1, v2, rfl⟩ ⟨T', x1, x2, rfl, hT, rfl, e1, e2⟩
      obtain ⟨n, hn, rfl⟩ := zv_get e2
      have hn6 := hb n (List.mem_of_getElem? hn)
      refine g_pair ?_
      refine ⟨_, rfl, n, rfl, true, rfl, iteF ?_⟩
      refine ⟨_, rfl, _, rfl, _, _, rfl, rfl, _, rfl, ifT (by omega) ⟨_, _, rfl, rfl, _, rfl, ifNF (by omega) ?_⟩⟩
      exact ⟨sm_upd s1 hT, _, _, rfl⟩
    · rintro σ H1 ⟨s1, v1, v2, rfl⟩
      refine ⟨_, rfl, q, _, rfl, .inr (SqT.of (s1 _ _ hq)), _, rfl, rfl, _, rfl, ifNF (by rw [zv_len]) ?_⟩
      exact k _ s1
theorem ok_cells_by (T : Tx K mg a) : FnOk P w K mg base CX0 2 a.cells_by a.fd_cells_by ["lengths", "begin", "steps"] sp_cells_by := by
  have G_size_of := ok_size_of (P := P) (w := w) (base := base) T
  refine T.F_cells_by.ok sc_cells_by (fun vs H Q E h => ?_) (fun cdv A outer s H vs Q E hr h => ?_)
  · obtain ⟨p, q, b, ls, ss, rfl, _⟩ := h
    rfl
  · obtain ⟨p, q, b, ls, ss, rfl, hp, hq, hls, ⟨h5, h6, hb⟩, k⟩ := h
    refine ⟨_, (pss_cons (ps_if (pt_cmpR op_eq (pe_call G_size_of (hr.mono (by decide)) rfl T.m_size_of T.F_size_of.kp (b_size_of T) .nil pass0 (pa_cons (pv 0) pa_nil)) pe_int (nomark _)) (pss_one (ps_ret (pe_lst pa_nil))) pss_nil)
          (pss_cons (ps_set (i := 3) sc_cells_by.nd rfl (Or.inl rfl) (pe_lst (pa_cons (pv 1) pa_nil)))
          (pss_cons (ps_for PassesOwn.never rfl (RZ.pi_zipA (by rfl) T.n_zip (pa_cons (pv 0) (pa_cons (pv 2) pa_nil))) (pg_tup rfl (pgs_cons (pg_name (i := 4) sc_cells_by.nd rfl (Or.inr rfl)) (pgs_cons (pg_name (i := 5) sc_cells_by.nd rfl (Or.inr rfl)) pgs_nil)))
            (pss_one (ps_setLc2 (i := 3) (own := [("cell", 6), ("k", 7)]) rfl sc_cells_by.nd rfl rfl (sw_true rfl rfl rfl (by decide +kernel)) (pi_list (pv 3)) (blkOk_by (N := ["lengths", "begin", "steps", "found", "length", "step", "cell", "k"]) (sc := defScope s_cells_by) (own := [("cell", 6), ("k", 7)]) (by decide +kernel)) (vs1 := [7]) (by decide) (fun _ _ _ _ _ => (pg_name (i := 6) sc_cells_by.nd rfl (Or.inl rfl))) (fun _ _ _ _ _ => pts_nil) (fun _ _ _ _ _ => (pi_range1 (by rfl) T.n_range (pa_cons (pv 4) pa_nil))) (fun _ _ _ _ _ => (pg_name (i := 7) sc_cells_by.nd rfl (Or.inl rfl))) (fun _ _ _ _ _ => pts_nil) (fun _ _ _ _ _ => (pe_op op_add (pv 6) (pe_op op_mul (pv 5) (pv 7)))))))
          (pss_one (ps_ret (pv 3)))))), ?_⟩
    refine ⟨_, rfl, p, ls, rfl, hp, hb, rfl, _, rfl, ?_⟩
    refine ite2 (fun hz => ?_) (fun hz => ?_)
    · have hz' : size ls = 0 := by
        have := of_decide_eq_true hz
        injection this with h1
        omega
      refine ⟨Nat.zero_le _, fun l hl => k _ l (sm_new hl) hl ?_⟩
      rw [cells_zero hls hz']
      exact upd_same
    · have hz' : 0 < size ls := by
        apply Nat.pos_of_ne_zero
        intro e
        apply hz
        rw [e]
        exact decide_eq_true rfl
      refine ⟨_, rfl, by show 1 ≤ sizeLine; decide, fun q0 hq0 => ?_⟩
      have s0 : Same H (upd H q0 (.lst [.int b])) := sm_new hq0
      have hmin : ls.length = min (iv ls).length (zv ss).length := by rw [iv_len, zv_len]; omega
      refine ⟨_, rfl, _, rfl, p, q, _, _, rfl, .inr ⟨SqT.of (s0 _ _ hp), SqT.of (s0 _ _ hq), for_it (walk_zipT hmin) (fun i σ H' => Same H H' ∧ ∃ l v1 v2, H l = none ∧ σ = [some (.ref p), some (.int b), some (.ref q), some (.ref l), v1, v2, none, none] ∧ H' l = some (.lst (zv (cells (ls.take i) (ss.take i) b))))
        ⟨s0, q0, none, none, hq0, rfl, upd_same⟩ (fun i σ H' _ z => ⟨SqT.of (z.1 _ _ hp), SqT.of (z.1 _ _ hq)⟩) ?_ ?_⟩⟩
      · rintro i x σ H1 H2 hi ⟨s1, l0, v1, v2, fl, rfl, hl0⟩ ⟨T', x1, x2, rfl, hT, rfl, e1, e2⟩
        obtain ⟨l, hl, rfl⟩ := iv_get e1
        obtain ⟨st, hs, rfl⟩ := zv_get e2
        refine g_pair ?_
        have s2 := sm_upd (o := .tup [.int (l : Int), .int st]) s1 hT
        have hl6 : l ≤ 600 := hb l (List.mem_of_getElem? hl)
        have e3 := cells_take (b := b) hl hs
        have hlen1 : (cells (ls.take i) (ss.take i) b).length * l ≤ 600 := by
          have h1 : size (ls.take (i + 1)) ≤ 600 := Nat.le_trans (size_take_le hz' _) h6
          have h2 : ls.take (i + 1) = ls.take i ++ [l] := by rw [List.take_add_one, hl]; rfl
          rw [h2, size_snoc] at h1
          rw [cells_length b (by rw [List.length_take, List.length_take, hls])]
          exact h1
        generalize hcs : cells (ls.take i) (ss.take i) b = cs at hl0 hlen1 e3
        have hl0' : upd H1 T' (.tup [.int (l : Int), .int st]) l0 = some (.lst (zv cs)) := by rw [upd_ne (ne_of_none hl0 hT)]; exact hl0
        refine ⟨_, rfl, l0, rfl, ⟨_, SqL.of hl0'⟩, fun D hD => ?_⟩
        refine lc2_pure (walk_list (xs := zv cs)) (fun j => (List.range l).map fun k : Nat => V.int (cs.getD j 0 + st * (k : Int))) hD (fun H' e => SqL.of (e _ _ hl0')) ?_ ?_
        · rintro j x H3 H4 Nx hj s3 hacc ⟨rfl, hx⟩ hk
          obtain ⟨c, hc, rfl⟩ := zv_get hx
          rw [getD_of hc] at hk
          refine ⟨rfl, _, rfl, _, rfl, by omega, by omega, ?_⟩
          have el : (l : Int).toNat = l := by omega
          rw [el]
          have hj' : j < cs.length := by rwa [zv_len] at hj
          have hfl : (((List.range j).flatMap fun j => (List.range l).map fun k : Nat => V.int (cs.getD j 0 + st * (k : Int)))).length ≤ 1000 := by
            have : ∀ n, (((List.range n).flatMap fun j => (List.range l).map fun k : Nat => V.int (cs.getD j 0 + st * (k : Int)))).length = n * l := by
              intro n
              induction n with
              | zero => simp
              | succ n ih => rw [List.range_succ, List.flatMap_append, List.length_append, ih, Nat.succ_mul]; simp
            rw [this]
            have := Nat.mul_le_mul_right l (Nat.le_of_lt hj')
            omega
          refine lc2_in (Hb := upd H1 T' (.tup [.int (l : Int), .int st])) walk_range (fun k => V.int (c + st * (k : Int))) _ (by omega) hD s3 hacc (fun _ _ => trivial) ?_ ?_
          · rintro m x H5 H6 k' hm s5 ⟨rfl, rfl⟩ hk'
            refine ⟨rfl, _, rfl, _, rfl, _, rfl, _, _, rfl, rfl, .inr ⟨by omega, by omega⟩, _, _, rfl, rfl, ?_⟩
            have := hk' _ (Same.refl _)
            rw [← Int.zero_add (m : Int)] at this
            exact this
          · intro H5 s5 h5
            exact hk H5 s5 h5
        · intro H3 s3 hD3
          refine ⟨s2.trans s3, D, _, _, s2.free hD, rfl, ?_⟩
          rw [hD3, e3, zv_len]
          unfold cext zv
          rw [List.map_flatMap, ← rg_flat cs _ 0]
          congr 2
          simp
          rfl
      · rintro σ H1 ⟨s1, l0, v1, v2, fl, rfl, hl0⟩
        rw [List.take_length, hls, List.take_length] at hl0
        exact ⟨_, rfl, k H1 l0 s1 fl hl0⟩
theorem ok_vet_cells (T : Tx K mg a) : FnOk P w K mg base CX0 3 a.vet_cells a.fd_vet_cells ["many", "lengths", "begin", "steps"] sp_vet_cells := by
  have G_cells_by := ok_cells_by (P := P) (w := w) (base := base) T
  have G_places_of := ok_places_of (P := P) (w := w) (base := base) T
  refine T.F_vet_cells.ok sc_vet_cells (fun vs H Q E h => ?_) (fun cdv A outer s H vs Q E hr h => ?_)
  · obtain ⟨n, p, q, b, ls, ss, rfl, _⟩ := h
    rfl
  · obtain ⟨n, p, q, b, ls, ss, rfl, hp, hq, hls, hS, hc, k⟩ := h
    refine ⟨_, (pss_one (ps_for PassesOwn.never rfl (pi_zip (by rfl) T.n_zip (pa_cons (pe_call G_places_of (hr.mono (by decide)) rfl T.m_places_of T.F_places_of.kp (b_places_of T) .nil pass0 (pa_cons (pv 1) pa_nil)) (pa_cons (pe_call G_cells_by (hr.mono (by decide)) rfl T.m_cells_by T.F_cells_by.kp (b_cells_by T) .nil pass0 (pa_cons (pv 1) (pa_cons (pv 2) (pa_cons (pv 3) pa_nil)))) pa_nil))) (pg_tup rfl (pgs_cons (pg_name (i := 4) sc_vet_cells.nd rfl (Or.inl rfl)) (pgs_cons (pg_name (i := 5) sc_vet_cells.nd rfl (Or.inl rfl)) pgs_nil)))
            (pss_one (ps_if (pt_not (pt_chain op_le op_lt pe_int (pv 5) (pv 0))) (pss_one ps_never) pss_nil)))), ?_⟩
    refine ⟨_, rfl, p, ls, rfl, hp, hS, fun H1 q1 xs s1 f1 hq1 t1 => ?_⟩
    refine ⟨_, rfl, _, rfl, _, rfl, p, q, b, ls, ss, rfl, s1 _ _ hp, s1 _ _ hq, hls, hS, fun H2 l s2 f2 hl => ?_⟩
    have hmin : size ls = min xs.length (zv (cells ls ss b)).length := by
      rw [zv_len, cells_length b hls, t1.1, places_length, Nat.min_self]
    refine ⟨q1, l, _, _, rfl, SqL.of (s2 _ _ hq1), SqL.of hl, for_it (walk_zip hmin) (fun i σ H' => Same H2 H' ∧ ∃ v1 v2, σ = [some (.int (n : Int)), some (.ref p), some (.int b), some (.ref q), v1, v2]) ⟨Same.refl _, none, none, rfl⟩ (fun i σ H' _ z => ⟨SqL.of (z.1 _ _ (s2 _ _ hq1)), SqL.of (z.1 _ _ hl)⟩) ?_ ?_⟩
    · rintro i x σ H3 H4 hi ⟨s3, v1, v2, rfl⟩ ⟨T', x1, x2, rfl, hT, rfl, e1, e2⟩
      obtain ⟨c, hcc, rfl⟩ := zv_get e2
      have hc2 := hc c (List.mem_of_getElem? hcc)
      refine g_pair ?_
      refine ⟨_, rfl, _, _, rfl, rfl, _, rfl, ifT (by omega) ⟨_, rfl, _, _, rfl, rfl, _, rfl, ifNF (by omega) ?_⟩⟩
      exact ⟨sm_upd s3 hT, _, _, rfl⟩
    · rintro σ H3 ⟨s3, v1, v2, rfl⟩
      exact k _ (s1.trans (s2.trans s3))
end
end VG

set_option Elab.async false
set_option linter.all false
set_option maxRecDepth 100000
set_option maxHeartbeats 4000000
namespace VG
open PySem PySem.Spec PyProof.Rows L2
/-- of x only is anything told anew -/
def But (x : Addr) (H H' : Hp) : Prop := ∀ b o, b ≠ x → H b = some o → H' b = some o
def hf (r : Addr) : List (Str × V) := [("held", .ref r)]
theorem dot_rg {p : List Nat} {ss : List Int} (h : p.length = ss.length) : ((List.range p.length).map fun i => ((p.getD i 0 : Nat) * ss.getD i 0 : Int)) = (p.zip ss).map fun q => (q.1 : Int) * q.2 := by
  apply List.ext_getElem
  · simp [h]
  · intro i h1 h2
    have a1 : i < p.length := by simpa using h1
    have a2 : i < ss.length := by omega
    simp [List.getElem?_eq_getElem a1, List.getElem?_eq_getElem a2]
def sp_View_tell (a : Adr) : Sp := fun vs H Q _ => ∃ (x dx r p q : Addr) (b : Int) (ls : List Nat) (ss : List Int) (fs : List (Str × V)), vs = [.ref x, .ref p, .int b, .ref q] ∧ H x = some (.ins a.View dx fs) ∧
  (fs = hf r ∨ ∃ tl b0 ts0, fs = vf r tl b0 ts0) ∧ H p = some (.tup (iv ls)) ∧ H q = some (.tup (zv ss)) ∧ ls.length = ss.length ∧ Sides ls ∧
  ∀ H', But x H H' → ViewAt a H' x r ls (tb ls b) (ts ls ss) → Q .non H'
def sp_View_room (a : Adr) : Sp := fun vs H Q _ => ∃ (v r : Addr) (ls : List Nat) (b : Int) (ss : List Int), vs = [.ref v] ∧ ViewAt a H v r ls b ss ∧ Q (.ref r) H
def sp_View_sides (a : Adr) : Sp := fun vs H Q _ => ∃ (v r : Addr) (ls : List Nat) (b : Int) (ss : List Int), vs = [.ref v] ∧ ViewAt a H v r ls b ss ∧ ∀ t, H t = some (.tup (iv ls)) → Q (.ref t) H
def sp_View_first (a : Adr) : Sp := fun vs H Q _ => ∃ (v r : Addr) (ls : List Nat) (b : Int) (ss : List Int), vs = [.ref v] ∧ ViewAt a H v r ls b ss ∧ Q (.int b) H
def sp_View_strides (a : Adr) : Sp := fun vs H Q _ => ∃ (v r : Addr) (ls : List Nat) (b : Int) (ss : List Int), vs = [.ref v] ∧ ViewAt a H v r ls b ss ∧ ∀ t, H t = some (.tup (zv ss)) → Q (.ref t) H
def sp_View_cells (a : Adr) : Sp := fun vs H Q _ => ∃ (v r : Addr) (ls : List Nat) (b : Int) (ss : List Int), vs = [.ref v] ∧ ViewAt a H v r ls b ss ∧ ls.length = ss.length ∧ Sides ls ∧
  ∀ H' l, Same H H' → H l = none → H' l = some (.lst (zv (cells ls ss b))) → Q (.ref l) H'
def sp_View_cell (a : Adr) : Sp := fun vs H Q _ => ∃ (v r q : Addr) (ls : List Nat) (b : Int) (ss : List Int) (p : List Nat), vs = [.ref v, .ref q] ∧ ViewAt a H v r ls b ss ∧ ls.length = ss.length ∧ ls.length ≤ 5 ∧ H q = some (.tup (iv p)) ∧ IsPlace ls p ∧ (∀ k ∈ p, k ≤ 600) ∧
  ∀ H', Same H H' → Q (.int (cellAt b ss p)) H'
section
variable {P : Program} {w : World} {K : PySem.W.Frag} {mg : Str → Option Value} {base : Heap} {a : Adr}
theorem ok_View_room (T : Tx K mg a) : FnOk P w K mg base CX0 1 a.View_room a.fd_View_room ["self"] (sp_View_room a) := by
  refine T.F_View_room.ok sc_View_room (fun vs H Q E h => ?_) (fun cdv A outer s H vs Q E hr h => ?_)
  · obtain ⟨v, r, ls, b, ss, rfl, _⟩ := h
    rfl
  · obtain ⟨v, r, ls, b, ss, rfl, ⟨dx, tl, ts', h1, h2, h3⟩, k⟩ := h
    refine ⟨_, (pss_one (ps_ret (pe_fld (pv 0) (by rfl)))), ?_⟩
    exact ⟨_, rfl, v, _, dx, _, _, rfl, h1, T.cl_View, T.na_View_held, rfl, k⟩
theorem ok_View_sides (T : Tx K mg a) : FnOk P w K mg base CX0 1 a.View_sides a.fd_View_sides ["self"] (sp_View_sides a) := by
  refine T.F_View_sides.ok sc_View_sides (fun vs H Q E h => ?_) (fun cdv A outer s H vs Q E hr h => ?_)
  · obtain ⟨v, r, ls, b, ss, rfl, _⟩ := h
    rfl
  · obtain ⟨v, r, ls, b, ss, rfl, ⟨dx, tl, ts', h1, h2, h3⟩, k⟩ := h
    refine ⟨_, (pss_one (ps_ret (pe_fld (pv 0) (by rfl)))), ?_⟩
    exact ⟨_, rfl, v, _, dx, _, _, rfl, h1, T.cl_View, T.na_View_lengths, rfl, k tl h2⟩
theorem ok_View_first (T : Tx K mg a) : FnOk P w K mg base CX0 1 a.View_first a.fd_View_first ["self"] (sp_View_first a) := by
  refine T.F_View_first.ok sc_View_first (fun vs H Q E h => ?_) (fun cdv A outer s H vs Q E hr h => ?_)
  · obtain ⟨v, r, ls, b, ss, rfl, _⟩ := h
    rfl
  · obtain ⟨v, r, ls, b, ss, rfl, ⟨dx, tl, ts', h1, h2, h3⟩, k⟩ := h
    refine ⟨_, (pss_one (ps_ret (pe_fld (pv 0) (by rfl)))), ?_⟩
    exact ⟨_, rfl, v, _, dx, _, _, rfl, h1, T.cl_View, T.na_View_begin, rfl, k⟩
theorem ok_View_strides (T : Tx K mg a) : FnOk P w K mg base CX0 1 a.View_strides a.fd_View_strides ["self"] (sp_View_strides a) := by
  refine T.F_View_strides.ok sc_View_strides (fun vs H Q E h => ?_) (fun cdv A outer s H vs Q E hr h => ?_)
  · obtain ⟨v, r, ls, b, ss, rfl, _⟩ := h
    rfl
  · obtain ⟨v, r, ls, b, ss, rfl, ⟨dx, tl, ts', h1, h2, h3⟩, k⟩ := h
    refine ⟨_, (pss_one (ps_ret (pe_fld (pv 0) (by rfl)))), ?_⟩
    exact ⟨_, rfl, v, _, dx, _, _, rfl, h1, T.cl_View, T.na_View_steps, rfl, k ts' h3⟩
theorem ok_View_cells (T : Tx K mg a) : FnOk P w K mg base CX0 3 a.View_cells a.fd_View_cells ["self"] (sp_View_cells a) := by
  have G_cells_by := ok_cells_by (P := P) (w := w) (base := base) T
  refine T.F_View_cells.ok sc_View_cells (fun vs H Q E h => ?_) (fun cdv A outer s H vs Q E hr h => ?_)
  · obtain ⟨v, r, ls, b, ss, rfl, _⟩ := h
    rfl
  · obtain ⟨v, r, ls, b, ss, rfl, ⟨dx, tl, ts', h1, h2, h3⟩, hls, hS, k⟩ := h
    refine ⟨_, (pss_one (ps_ret (pe_call G_cells_by (hr.mono (by decide)) rfl T.m_cells_by T.F_cells_by.kp (b_cells_by T) .nil pass0 (pa_cons (pe_fld (pv 0) (by rfl)) (pa_cons (pe_fld (pv 0) (by rfl)) (pa_cons (pe_fld (pv 0) (by rfl)) pa_nil)))))), ?_⟩
    refine ⟨_, rfl, v, _, dx, _, _, rfl, h1, T.cl_View, T.na_View_lengths, rfl, _, rfl, v, _, dx, _, _, rfl, h1, T.cl_View, T.na_View_begin, rfl, _, rfl, v, _, dx, _, _, rfl, h1, T.cl_View, T.na_View_steps, rfl, ?_⟩
    exact ⟨tl, ts', b, ls, ss, rfl, h2, h3, hls, hS, k⟩
theorem ok_View_cell (T : Tx K mg a) : FnOk P w K mg base CX0 3 a.View_cell a.fd_View_cell ["self", "place"] (sp_View_cell a) := by
  have G_whole_place := ok_whole_place (P := P) (w := w) (base := base) T
  refine T.F_View_cell.ok sc_View_cell (fun vs H Q E h => ?_) (fun cdv A outer s H vs Q E hr h => ?_)
  · obtain ⟨v, r, q, ls, b, ss, p, rfl, _⟩ := h
    rfl
  · obtain ⟨v, r, q, ls, b, ss, p, rfl, ⟨dx, tl, ts', h1, h2, h3⟩, hls, h5, hq, hp, hk6, k⟩ := h
    refine ⟨_, (pss_cons (ps_set (i := 2) sc_View_cell.nd rfl (Or.inl rfl) (pe_call G_whole_place (hr.mono (by decide)) rfl T.m_whole_place T.F_whole_place.kp (b_whole_place T) .nil pass0 (pa_cons (pe_fld (pv 0) (by rfl)) (pa_cons (pv 1) pa_nil))))
          (pss_one (ps_ret (pe_op op_add (pe_fld (pv 0) (by rfl)) (pe_callB (cr_sum rfl) (by rfl) T.n_sum (by decide +kernel) (pa_cons (pe_lc (own := [("k", 3), ("step", 4)]) rfl sc_View_cell.nd (RZ.pi_zipA (by rfl) T.n_zip (pa_cons (pv 2) (pa_cons (pe_fld (pv 0) (by rfl)) pa_nil))) (blkOk_by (N := ["self", "place", "whole", "k", "step"]) (sc := defScope s_View_cell) (own := [("k", 3), ("step", 4)]) (by decide +kernel)) (fun _ _ _ _ _ => (show PG _ _ (gTup K 2 _) from pg_tup rfl (pgs_cons (pg_name (i := 3) sc_View_cell.nd rfl (Or.inl rfl)) (pgs_cons (pg_name (i := 4) sc_View_cell.nd rfl (Or.inl rfl)) pgs_nil)))) (fun _ _ _ _ _ => pts_nil) (fun _ _ _ _ _ => (pe_op op_mul (pv 3) (pv 4)))) pa_nil)))))), ?_⟩
    refine ⟨_, rfl, v, _, dx, _, _, rfl, h1, T.cl_View, T.na_View_lengths, rfl, _, rfl, tl, q, ls, p, rfl, h2, hq, hp, h5, fun H1 t s1 ht => ?_⟩
    refine ⟨_, rfl, v, _, dx, _, _, rfl, s1 _ _ h1, T.cl_View, T.na_View_begin, rfl, ?_⟩
    have hmin : p.length = min (iv p).length (zv ss).length := by
      have := hp.1
      rw [iv_len, zv_len]
      omega
    refine ⟨_, rfl, _, rfl, v, _, dx, _, _, rfl, s1 _ _ h1, T.cl_View, T.na_View_steps, rfl, t, ts', _, _, rfl, .inr ⟨SqT.of ht, SqT.of (s1 _ _ h3), fun D hD => ?_⟩⟩
    refine lc_pure (walk_zipT hmin) (fun i => .int ((p.getD i 0 : Nat) * ss.getD i 0 : Int)) (by have := hp.1; omega) hD (fun H' e => ⟨SqT.of (e _ _ ht), SqT.of (e _ _ (s1 _ _ h3))⟩) ?_ ?_
    · rintro i x H2 H3 k' hi s2 ⟨T', x1, x2, rfl, hT, rfl, e1, e2⟩ hk'
      obtain ⟨n, hn, rfl⟩ := iv_get e1
      obtain ⟨z, hz, rfl⟩ := zv_get e2
      have hn6 := hk6 n (List.mem_of_getElem? hn)
      refine g_pair ⟨rfl, ?_⟩
      refine ⟨_, rfl, _, rfl, _, _, rfl, rfl, .inl ⟨by omega, by omega⟩, ?_⟩
      have := hk' _ (sm_new (o := .tup [.int (n : Int), .int z]) hT)
      rw [getD_of hn, getD_of hz] at this
      exact this
    · intro H2 s2 hD2
      refine ⟨D, (List.range p.length).map fun i => ((p.getD i 0 : Nat) * ss.getD i 0 : Int), rfl, SqL.of (by rw [hD2, List.map_map]; rfl), _, _, rfl, rfl, ?_⟩
      have e : ((List.range p.length).map fun i => ((p.getD i 0 : Nat) * ss.getD i 0 : Int)).sum = dot p ss := by
        unfold dot
        rw [dot_rg (by have := hp.1; omega)]
      rw [e]
      exact k _ (s1.trans s2)
end
end VG

set_option Elab.async false
set_option linter.all false
set_option maxRecDepth 100000
set_option maxHeartbeats 4000000
namespace VG
open PySem PySem.Spec PyProof.Rows L2
def nums (cs : List Int) (cells : List Int) : List Int := cells.map fun c => cs.getD c.toNat 0
def sp_View_at (a : Adr) : Sp := fun vs H Q _ => ∃ (v r q : Addr) (ls : List Nat) (b : Int) (ss : List Int) (p : List Nat) (pl : Addr) (ps : List (Addr × Addr)) (w : Nat) (cs : List Int) (c : Nat) (z : Int), vs = [.ref v, .ref q] ∧ ViewAt a H v r ls b ss ∧ ls.length = ss.length ∧ ls.length ≤ 5 ∧ H q = some (.tup (iv p)) ∧ IsPlace ls p ∧ (∀ k ∈ p, k ≤ 600) ∧
  RoomAt a H r pl ps w cs ∧ cellAt b ss p = (c : Int) ∧ cs[c]? = some z ∧ ∀ H', Same H H' → Q (.int z) H'
def sp_View_put (a : Adr) : Sp := fun vs H Q _ => ∃ (v r q : Addr) (ls : List Nat) (b : Int) (ss : List Int) (p : List Nat) (pl : Addr) (ps : List (Addr × Addr)) (w : Nat) (cs : List Int) (t plt : Addr) (pst : List (Addr × Addr)) (wt : Nat) (as : List Int) (c : Nat) (z : Int), vs = [.ref v, .ref q, .int z] ∧ ViewAt a H v r ls b ss ∧ ls.length = ss.length ∧ ls.length ≤ 5 ∧ H q = some (.tup (iv p)) ∧ IsPlace ls p ∧ (∀ k ∈ p, k ≤ 600) ∧
  Sys a H r pl ps w cs t plt pst wt as ∧ cellAt b ss p = (c : Int) ∧ c < cs.length ∧
  ∀ H' ps', Sys a H' r pl ps' w (cs.set c z) t plt pst wt as → Kg r pl ps H H' ps' → Q .non H'
def sp_View_numbers (a : Adr) : Sp := fun vs H Q _ => ∃ (v r : Addr) (ls : List Nat) (b : Int) (ss : List Int) (pl : Addr) (ps : List (Addr × Addr)) (w : Nat) (cs : List Int), vs = [.ref v] ∧ ViewAt a H v r ls b ss ∧ ls.length = ss.length ∧ Sides ls ∧
  RoomAt a H r pl ps w cs ∧ (∀ c ∈ cells ls ss b, 0 ≤ c ∧ c < cs.length) ∧ ∀ H' l, Same H H' → H l = none → H' l = some (.lst (zv (nums cs (cells ls ss b)))) → Q (.ref l) H'
theorem rep_flat (n : Nat) (v : V) : (List.replicate n [v]).flatten = List.replicate n v := by
  induction n with
  | zero => rfl
  | succ n ih => rw [List.replicate_succ, List.flatten_cons, ih]; rfl
section
variable {P : Program} {w : World} {K : PySem.W.Frag} {mg : Str → Option Value} {base : Heap} {a : Adr}
theorem ok_View_tell (T : Tx K mg a) : FnOk P w K mg base CX0 2 a.View_tell a.fd_View_tell ["self", "lengths", "begin", "steps"] (sp_View_tell a) := by
  have G_size_of := ok_size_of (P := P) (w := w) (base := base) T
  refine T.F_View_tell.ok sc_View_tell (fun vs H Q E h => ?_) (fun cdv A outer s H vs Q E hr h => ?_)
  · obtain ⟨x, dx, r, p, q, b, ls, ss, fs, rfl, _⟩ := h
    rfl
  · obtain ⟨x, dx, r, p, q, b, ls, ss, fs, rfl, hx, hfs, hp, hq, hls, ⟨h5, h6, hb⟩, k⟩ := h
    refine ⟨_, (pss_cons (ps_fld (pv 0) (pv 1) rfl)
          (pss_one (ps_if (pt_cmpR op_eq (pe_call G_size_of (hr.mono (by decide)) rfl T.m_size_of T.F_size_of.kp (b_size_of T) .nil pass0 (pa_cons (pv 1) pa_nil)) pe_int (nomark _)) (pss_cons (ps_fld (pv 0) pe_int rfl)
          (pss_one (ps_fld (pv 0) (pe_op op_repT1 (pe_tup (pa_cons pe_int pa_nil)) (pe_callB call_len_seq (by rfl) T.n_len (by decide +kernel) (pa_cons (pv 1) pa_nil))) rfl))) (pss_cons (ps_fld (pv 0) (pv 2) rfl)
          (pss_one (ps_fld (pv 0) (pe_callTy call_tuple_of (by rfl) T.n_tuple (by decide +kernel) (pa_cons (pe_lc (own := [("length", 4), ("step", 5)]) rfl sc_View_tell.nd (RZ.pi_zipA (by rfl) T.n_zip (pa_cons (pv 1) (pa_cons (pv 3) pa_nil))) (blkOk_by (N := ["self", "lengths", "begin", "steps", "length", "step"]) (sc := defScope s_View_tell) (own := [("length", 4), ("step", 5)]) (by decide +kernel)) (fun _ _ _ _ _ => (show PG _ _ (gTup K 2 _) from pg_tup rfl (pgs_cons (pg_name (i := 4) sc_View_tell.nd rfl (Or.inl rfl)) (pgs_cons (pg_name (i := 5) sc_View_tell.nd rfl (Or.inl rfl)) pgs_nil)))) (fun _ _ _ _ _ => pts_nil) (fun _ _ _ _ _ => (pe_ifExp (pt_cmpR op_eq (pv 4) pe_int (nomark _)) pe_int (pv 5)))) pa_nil)) rfl)))))), ?_⟩
    have hl4 : fs.length < 1000 := by
      rcases hfs with e | ⟨_, _, _, e⟩ <;> rw [e] <;> first | (show (1 : Nat) < 1000; decide) | (show (4 : Nat) < 1000; decide)
    have px : p ≠ x := ne_of hp hx (by intro z; cases z)
    have qx : q ≠ x := ne_of hq hx (by intro z; cases z)
    refine ⟨_, rfl, _, rfl, x, _, dx, _, rfl, hx, T.cl_View, T.na_View_lengths, hl4, ?_⟩
    have hpL : ∃ g1 : List (Str × V), putF (Str.ofString "lengths") (.ref p) fs = g1 ∧ g1.length < 1000 ∧ ∀ (b' : Int) (t : Addr), putF (Str.ofString "steps") (.ref t) (putF (Str.ofString "begin") (.int b') g1) = vf r p b' t ∧ (putF (Str.ofString "begin") (.int b') g1).length < 1000 := by
      rcases hfs with e | ⟨_, _, _, e⟩
      · rw [e]
        exact ⟨_, rfl, by show (2 : Nat) < 1000; decide, fun b' t => ⟨rfl, by show (3 : Nat) < 1000; decide⟩⟩
      · rw [e]
        exact ⟨_, rfl, by show (4 : Nat) < 1000; decide, fun b' t => ⟨rfl, by show (4 : Nat) < 1000; decide⟩⟩
    obtain ⟨g1, e1, l1, hg⟩ := hpL
    rw [e1]
    refine ⟨_, rfl, p, ls, rfl, by rw [upd_ne px]; exact hp, hb, rfl, _, rfl, ?_⟩
    have fin : ∀ (b' : Int) (t : Addr) (ss' : List Int) (H4 : Hp), Same (upd (upd H x (.ins a.View dx g1)) x (.ins a.View dx (putF (Str.ofString "begin") (.int b') g1))) H4 → H4 t = some (.tup (zv ss')) → b' = tb ls b → ss' = ts ls ss →
        ∃ a_1 C dx_1 fs_1, V.ref x = V.ref a_1 ∧ H4 a_1 = some (.ins C dx_1 fs_1) ∧ Cls K C ∧ NoAttr K C "steps" ∧ fs_1.length < 1000 ∧ Q .non (upd H4 a_1 (.ins C dx_1 (putF (Str.ofString "steps") (.ref t) fs_1))) := by
      intro b' t ss' H4 s4 ht eb es
      rw [upd_upd] at s4
      have hx4 := s4 x _ upd_same
      refine ⟨x, _, dx, _, rfl, hx4, T.cl_View, T.na_View_steps, (hg b' t).2, ?_⟩
      rw [(hg b' t).1]
      subst eb es
      have tx : t ≠ x := ne_of ht hx4 (by intro z; cases z)
      refine k _ (fun c o n e => ?_) ⟨dx, p, t, upd_same, ?_, ?_⟩
      · rw [upd_ne n]
        exact s4 _ _ (by rw [upd_ne n]; exact e)
      · rw [upd_ne px]
        exact s4 _ _ (by rw [upd_ne px]; exact hp)
      · rw [upd_ne tx]
        exact ht
    refine ite2 (fun hz => ?_) (fun hz => ?_)
    · have hz' : size ls = 0 := by
        have := of_decide_eq_true hz
        injection this with h1
        omega
      refine ⟨_, rfl, x, _, dx, _, rfl, upd_same, T.cl_View, T.na_View_begin, l1, ?_⟩
      have hlen : 1 ≤ ls.length := by
        rcases ls with _ | ⟨y, ys⟩
        · rw [size_nil] at hz'
          omega
        · simp
      refine ⟨by show 1 ≤ sizeLine; decide, fun t0 ht0 => ?_⟩
      have sA := sm_new (o := .tup [.int 0]) ht0
      have hp0 := sA p (.tup (iv ls)) (by rw [upd_upd, upd_ne px]; exact hp)
      refine ⟨_, rfl, p, _, rfl, .inr (SqT.of hp0), t0, _, [.int 0], rfl, rfl, SqT.of upd_same, by simp, by rw [iv_len]; omega, by rw [iv_len]; omega, by simp, fun e => ?_, fun e t1 ht1 => ?_⟩
      · rw [iv_len] at e
        refine ⟨_, rfl, fin 0 t0 [0] _ sA upd_same (by rw [tb, if_pos hz']) ?_⟩
        have e' : ls.length = 1 := by omega
        rw [ts, if_pos hz', e']
        rfl
      · refine ⟨_, rfl, fin 0 t1 (List.replicate ls.length 0) _ (sm_upd sA ht1) ?_ (by rw [tb, if_pos hz']) (by rw [ts, if_pos hz'])⟩
        rw [upd_same, iv_len, rep_flat]
        unfold zv
        rw [List.map_replicate]
        rfl
    · have hz' : size ls ≠ 0 := by
        intro e
        apply hz
        rw [e]
        exact decide_eq_true rfl
      refine ⟨_, rfl, _, rfl, x, _, dx, _, rfl, upd_same, T.cl_View, T.na_View_begin, l1, ?_⟩
      have hp0 : upd (upd H x (.ins a.View dx g1)) x (.ins a.View dx (putF (Str.ofString "begin") (.int b) g1)) p = some (.tup (iv ls)) := by rw [upd_upd, upd_ne px]; exact hp
      have hq0 : upd (upd H x (.ins a.View dx g1)) x (.ins a.View dx (putF (Str.ofString "begin") (.int b) g1)) q = some (.tup (zv ss)) := by rw [upd_upd, upd_ne qx]; exact hq
      have hmin : ls.length = min (iv ls).length (zv ss).length := by rw [iv_len, zv_len]; omega
      refine ⟨_, rfl, _, rfl, p, q, _, _, rfl, .inr ⟨SqT.of hp0, SqT.of hq0, fun D hD => ?_⟩⟩
      refine lc_pure (walk_zipT hmin) (fun i => .int (if ls.getD i 0 = 1 then 0 else ss.getD i 0)) (by omega) hD (fun H' e => ⟨SqT.of (e _ _ hp0), SqT.of (e _ _ hq0)⟩) ?_ ?_
      · rintro i x' H2 H3 k' hi s2 ⟨T', x1, x2, rfl, hT, rfl, e1, e2⟩ hk'
        obtain ⟨n, hn, rfl⟩ := iv_get e1
        obtain ⟨z, hzz, rfl⟩ := zv_get e2
        have hk2 := hk' _ (sm_new (o := .tup [.int (n : Int), .int z]) hT)
        rw [getD_of hn, getD_of hzz] at hk2
        refine g_pair ⟨rfl, ?_⟩
        refine ⟨_, rfl, rfl, _, rfl, ?_⟩
        by_cases h1 : n = 1
        · subst h1
          rw [if_pos rfl] at hk2
          exact ifT rfl hk2
        · rw [if_neg h1] at hk2
          exact ifF (fun e => h1 (by injection e with e; omega)) ⟨_, rfl, hk2⟩
      · intro H2 s2 hD2
        have e : ((List.range ls.length).map fun i => V.int (if ls.getD i 0 = 1 then 0 else ss.getD i 0)) = zv (norm ls ss) := by
          apply List.ext_getElem
          · simp [norm]; omega
          · intro i h1 h2
            have a1 : i < ls.length := by simpa using h1
            have a2 : i < ss.length := by omega
            simp [norm, List.getElem?_eq_getElem a1, List.getElem?_eq_getElem a2]
        rw [e] at hD2
        exact ⟨D, _, rfl, .inl ⟨SqL.of hD2, fun t ht => ⟨_, rfl, fin b t (norm ls ss) _ (s2.trans (sm_new ht)) upd_same (by rw [tb, if_neg hz']) (by rw [ts, if_neg hz'])⟩⟩⟩
theorem ok_View_at (T : Tx K mg a) : FnOk P w K mg base CX0 4 a.View_at a.fd_View_at ["self", "place"] (sp_View_at a) := by
  have G_Room_read := ok_Room_read (P := P) (w := w) (base := base) T
  have G_View_cell := ok_View_cell (P := P) (w := w) (base := base) T
  refine T.F_View_at.ok sc_View_at (fun vs H Q E h => ?_) (fun cdv A outer s H vs Q E hr h => ?_)
  · obtain ⟨v, r, q, ls, b, ss, p, pl, ps, wd, cs, c, z, rfl, _⟩ := h
    rfl
  · obtain ⟨v, r, q, ls, b, ss, p, pl, ps, wd, cs, c, z, rfl, V, hls, h5, hq, hp, hk6, R, hc, hz, k⟩ := h
    refine ⟨_, (pss_one (ps_ret (pe_meth (pe_fld (pv 0) (by rfl)) T.cl_Room T.me_Room_read G_Room_read (hr.mono (by decide)) (b_Room_read T) .nil pass0 (pa_cons (pe_meth (pv 0) T.cl_View T.me_View_cell G_View_cell (hr.mono (by decide)) (b_View_cell T) .nil pass0 (pa_cons (pv 1) pa_nil)) pa_nil)))), ?_⟩
    obtain ⟨dx, tl, ts', h1, h2, h3⟩ := id V
    obtain ⟨dr, cp, ho⟩ := R.ob
    refine ⟨_, rfl, v, _, dx, _, _, rfl, h1, T.cl_View, T.na_View_held, rfl, r, dr, _, rfl, ho, rfl, _, rfl, v, dx, _, rfl, h1, rfl, _, rfl, v, r, q, ls, b, ss, p, rfl, V, hls, h5, hq, hp, hk6, fun H1 s1 => ?_⟩
    rw [hc]
    exact ⟨r, pl, ps, wd, cs, c, z, rfl, R.same s1, hz, k _ s1⟩
theorem ok_View_put (T : Tx K mg a) : FnOk P w K mg base CX0 5 a.View_put a.fd_View_put ["self", "place", "number"] (sp_View_put a) := by
  have G_Room_write := ok_Room_write (P := P) (w := w) (base := base) T
  have G_View_cell := ok_View_cell (P := P) (w := w) (base := base) T
  refine T.F_View_put.ok sc_View_put (fun vs H Q E h => ?_) (fun cdv A outer s H vs Q E hr h => ?_)
  · obtain ⟨v, r, q, ls, b, ss, p, pl, ps, wd, cs, t, plt, pst, wt, as, c, z, rfl, _⟩ := h
    rfl
  · obtain ⟨v, r, q, ls, b, ss, p, pl, ps, wd, cs, t, plt, pst, wt, as, c, z, rfl, V, hls, h5, hq, hp, hk6, S, hc, hz, k⟩ := h
    refine ⟨_, (pss_one (ps_expr (pe_meth (pe_fld (pv 0) (by rfl)) T.cl_Room T.me_Room_write G_Room_write (hr.mono (by decide)) (b_Room_write T) .nil pass0 (pa_cons (pe_meth (pv 0) T.cl_View T.me_View_cell G_View_cell (hr.mono (by decide)) (b_View_cell T) .nil pass0 (pa_cons (pv 1) pa_nil)) (pa_cons (pv 2) pa_nil))))), ?_⟩
    obtain ⟨dx, tl, ts', h1, h2, h3⟩ := id V
    obtain ⟨dr, cp, ho⟩ := S.main.ob
    refine ⟨_, rfl, v, _, dx, _, _, rfl, h1, T.cl_View, T.na_View_held, rfl, r, dr, _, rfl, ho, rfl, _, rfl, v, dx, _, rfl, h1, rfl, _, rfl, v, r, q, ls, b, ss, p, rfl, V, hls, h5, hq, hp, hk6, fun H1 s1 => ?_⟩
    rw [hc]
    exact ⟨_, rfl, r, pl, ps, wd, cs, t, plt, pst, wt, as, c, z, rfl, S.same s1, hz, fun H' ps' S' kg => k H' ps' S' ((Kg.of_same s1).trans kg)⟩
theorem ok_View_numbers (T : Tx K mg a) : FnOk P w K mg base CX0 4 a.View_numbers a.fd_View_numbers ["self"] (sp_View_numbers a) := by
  have G_View_cells := ok_View_cells (P := P) (w := w) (base := base) T
  have G_Room_read := ok_Room_read (P := P) (w := w) (base := base) T
  refine T.F_View_numbers.ok sc_View_numbers (fun vs H Q E h => ?_) (fun cdv A outer s H vs Q E hr h => ?_)
  · obtain ⟨v, r, ls, b, ss, pl, ps, wd, cs, rfl, _⟩ := h
    rfl
  · obtain ⟨v, r, ls, b, ss, pl, ps, wd, cs, rfl, hV, hls, hS, R, hc, k⟩ := h
    refine ⟨_, (pss_one (ps_ret (pe_lc (own := [("cell", 1)]) rfl sc_View_numbers.nd (pi_list (pe_meth0 (pv 0) T.cl_View T.me_View_cells G_View_cells (hr.mono (by decide)) (b_View_cells T) .nil pass0)) (blkOk_by (N := ["self", "cell"]) (sc := defScope s_View_numbers) (own := [("cell", 1)]) (by decide +kernel)) (fun _ _ _ _ _ => (pg_name (i := 1) sc_View_numbers.nd rfl (Or.inl rfl))) (fun _ _ _ _ _ => pts_nil) (fun _ _ _ _ _ => (pe_meth (show PE _ _ (tFld K _ _) from (pe_fld (pv 0) (by rfl))) T.cl_Room T.me_Room_read G_Room_read (hr.mono (by decide)) (b_Room_read T) .nil pass0 (pa_cons (pv 1) pa_nil)))))), ?_⟩
    obtain ⟨dx, tl, ts', h1, h2, h3⟩ := id hV
    refine ⟨_, rfl, v, dx, _, rfl, h1, rfl, v, r, ls, b, ss, rfl, hV, hls, hS, fun H1 l s1 f1 hl => ⟨l, rfl, ⟨_, SqL.of hl⟩, fun D hD => ?_⟩⟩
    have hlen : (cells ls ss b).length ≤ 600 := by rw [cells_length b hls]; exact hS.2.1
    refine lc_pure (walk_list (xs := zv (cells ls ss b))) (fun i => .int (cs.getD ((cells ls ss b).getD i 0).toNat 0)) (by rw [zv_len]; omega) hD (fun H' e => SqL.of (e _ _ hl)) ?_ ?_
    · rintro i x H2 H3 k' hi s2 ⟨rfl, hx⟩ hk'
      obtain ⟨c, hcc, rfl⟩ := zv_get hx
      have hc2 := hc c (List.mem_of_getElem? hcc)
      have R3 := (R.same s1).same s2
      obtain ⟨dr, cp, ho⟩ := R3.ob
      have h13 := s2 _ _ (s1 _ _ h1)
      refine ⟨rfl, _, rfl, v, _, dx, _, _, rfl, h13, T.cl_View, T.na_View_held, rfl, r, dr, _, rfl, ho, rfl, _, rfl, r, pl, ps, wd, cs, c.toNat, cs[c.toNat]'(by omega), ?_, R3, List.getElem?_eq_getElem _, ?_⟩
      · rw [Int.toNat_of_nonneg hc2.1]
        rfl
      · have := hk' _ (Same.refl _)
        rw [getD_of hcc, getD_of (List.getElem?_eq_getElem (show c.toNat < cs.length by omega))] at this
        exact this
    · intro H2 s2 hD2
      refine k H2 D (s1.trans s2) (s1.free hD) ?_
      rw [hD2, zv_len, rg_map (cells ls ss b) (fun c => V.int (cs.getD c.toNat 0)) 0]
      unfold nums zv
      rw [List.map_map]
      rfl
end
end VG

set_option Elab.async false
set_option linter.all false
set_option maxRecDepth 100000
set_option maxHeartbeats 4000000
namespace VG
open PySem PySem.Spec PyProof.Rows L2
def sp_View_init (a : Adr) : Sp := fun vs H Q _ => ∃ (x dx r p : Addr) (b : Int) (sv : V) (ls : List Nat) (ss : List Int) (pl : Addr) (ps : List (Addr × Addr)) (w : Nat) (cs : List Int), vs = [.ref x, .ref r, .ref p, .int b, sv] ∧ H x = some (.ins a.View dx []) ∧ RoomAt a H r pl ps w cs ∧
  H p = some (.tup (iv ls)) ∧ ((sv = .non ∧ ls = [0] ∧ ss = [0]) ∨ ∃ q, sv = .ref q ∧ H q = some (.tup (zv ss))) ∧ ls.length = ss.length ∧ Sides ls ∧ Strides ss ∧ (∀ c ∈ cells ls ss b, 0 ≤ c ∧ c < cs.length) ∧
  ∀ H', But x H H' → ViewAt a H' x r ls (tb ls b) (ts ls ss) → Q .non H'
def sp_plain_view (a : Adr) : Sp := fun vs H Q _ => ∃ (r p q : Addr) (b : Int) (ls : List Nat) (ss : List Int) (pl : Addr) (ps : List (Addr × Addr)) (w : Nat) (cs : List Int), vs = [.ref r, .ref p, .int b, .ref q] ∧ RoomAt a H r pl ps w cs ∧
  H p = some (.tup (iv ls)) ∧ H q = some (.tup (zv ss)) ∧ ls.length = ss.length ∧ Sides ls ∧ ∀ H' v, Same H H' → H v = none → ViewAt a H' v r ls (tb ls b) (ts ls ss) → Q (.ref v) H'
def sp_View_twin (a : Adr) : Sp := fun vs H Q _ => ∃ (v r : Addr) (ls : List Nat) (b : Int) (ss : List Int) (pl : Addr) (ps : List (Addr × Addr)) (w : Nat) (cs : List Int), vs = [.ref v] ∧ ViewAt a H v r ls b ss ∧ ls.length = ss.length ∧ Sides ls ∧ RoomAt a H r pl ps w cs ∧
  ∀ H' t plt v', Sys a H' r pl ps w cs t plt ps w cs → Kg r pl ps H H' ps → H t = none → H plt = none → ViewAt a H' v' t ls (tb ls b) (ts ls ss) → Q (.ref v') H'
theorem But.same {x : Addr} {H H' : Hp} (h : But x H H') (hx : H x = none) : Same H H' := fun b o e => h b o (ne_of_none e hx) e
theorem Same.but {x : Addr} {H H' : Hp} (h : Same H H') : But x H H' := fun b o _ e => h b o e
section
variable {P : Program} {w : World} {K : PySem.W.Frag} {mg : Str → Option Value} {base : Heap} {a : Adr}
theorem ok_View_init (T : Tx K mg a) : FnOk P w K mg base CX0 4 a.View_init a.fd_View_init ["self", "room", "sides", "first", "strides"] (sp_View_init a) := by
  have G_Room_len := ok_Room_len (P := P) (w := w) (base := base) T
  have G_vet_sides := ok_vet_sides (P := P) (w := w) (base := base) T
  have G_dense_strides := ok_dense_strides (P := P) (w := w) (base := base) T
  have G_vet_strides := ok_vet_strides (P := P) (w := w) (base := base) T
  have G_vet_cells := ok_vet_cells (P := P) (w := w) (base := base) T
  have G_View_tell := ok_View_tell (P := P) (w := w) (base := base) T
  refine T.F_View_init.ok sc_View_init (fun vs H Q E h => ?_) (fun cdv A outer s H vs Q E hr h => exists_nox ?_)
  · obtain ⟨x, dx, r, p, b, sv, ls, ss, pl, ps, wd, cs, rfl, _⟩ := h
    rfl
  · obtain ⟨x, dx, r, p, b, sv, ls, ss, pl, ps, wd, cs, rfl, hx, R, hp, hsv, hls, hS, hst, hc, k⟩ := h
    refine ⟨_, (pss_cons (ps_set (i := 5) sc_View_init.nd rfl (Or.inl rfl) (pv 2))
          (pss_cons (ps_if (pt_cmpR op_isN (pv 2) pe_non (nomark _)) (pss_one (ps_set (i := 5) sc_View_init.nd rfl (Or.inl rfl) (pe_tup (pa_cons (pe_callB (cr_lenI T.cl_Room T.me_Room_len G_Room_len (hr.mono (by decide)) (b_Room_len T) pass0) (by rfl) T.n_len (by decide +kernel) (pa_cons (pv 1) pa_nil)) pa_nil)))) (pss_one (ps_expr (pe_call G_vet_sides (hr.mono (by decide)) rfl T.m_vet_sides T.F_vet_sides.kp (b_vet_sides T) .nil pass0 (pa_cons (pv 2) pa_nil)))))
          (pss_cons (ps_set (i := 6) sc_View_init.nd rfl (Or.inl rfl) (pv 4))
          (pss_cons (ps_if (pt_cmpR op_isN (pv 4) pe_non (nomark _)) (pss_one (ps_set (i := 6) sc_View_init.nd rfl (Or.inl rfl) (pe_call G_dense_strides (hr.mono (by decide)) rfl T.m_dense_strides T.F_dense_strides.kp (b_dense_strides T) .nil pass0 (pa_cons (pv 5) pa_nil)))) (pss_one (ps_expr (pe_call G_vet_strides (hr.mono (by decide)) rfl T.m_vet_strides T.F_vet_strides.kp (b_vet_strides T) .nil pass0 (pa_cons (pv 4) (pa_cons (pe_callB call_len_seq (by rfl) T.n_len (by decide +kernel) (pa_cons (pv 5) pa_nil)) pa_nil))))))
          (pss_cons (ps_expr (pe_call G_vet_cells (hr.mono (by decide)) rfl T.m_vet_cells T.F_vet_cells.kp (b_vet_cells T) .nil pass0 (pa_cons (pe_callB (cr_lenI T.cl_Room T.me_Room_len G_Room_len (hr.mono (by decide)) (b_Room_len T) pass0) (by rfl) T.n_len (by decide +kernel) (pa_cons (pv 1) pa_nil)) (pa_cons (pv 5) (pa_cons (pv 3) (pa_cons (pv 6) pa_nil))))))
          (pss_cons (ps_fld (pv 0) (pv 1) rfl)
          (pss_one (ps_expr (pe_meth (pv 0) T.cl_View T.me_View_tell G_View_tell (hr.mono (by decide)) (b_View_tell T) .nil pass0 (pa_cons (pv 5) (pa_cons (pv 3) (pa_cons (pv 6) pa_nil)))))))))))), ?_⟩
    refine ⟨_, rfl, _, rfl, rfl, _, rfl, ifF (by nofun) ⟨_, rfl, p, ls, rfl, hp, hS, fun H1 s1 => ?_⟩⟩
    obtain ⟨dr, cp, ho⟩ := R.ob
    have px : p ≠ x := ne_of hp hx (by intro z; cases z)
    rcases hsv with ⟨e1, e2, e3⟩ | ⟨q, e1, hq⟩
    · subst e1 e2 e3
      refine ⟨_, rfl, _, rfl, rfl, _, rfl, ifT rfl ⟨_, rfl, p, rfl, s1 _ _ hp, fun H2 q z s2 hq2 => ?_⟩⟩
      have s02 := s1.trans s2
      obtain ⟨ss', hss⟩ : ∃ ss', ss' = [z] := ⟨_, rfl⟩
      rw [← hss] at hq2
      have hls2 : [0].length = ss'.length := by rw [hss]; rfl
      have hc2 : ∀ c ∈ cells [0] ss' b, 0 ≤ c ∧ c < (cs.length : Int) := by
        intro c hcc
        rw [cells_zero hls2 rfl] at hcc
        cases hcc
      have hts : ts [0] ss' = ts [0] [0] := rfl
      clear hss
      refine ⟨_, rfl, r, dr, _, rfl, s02 _ _ ho, r, pl, ps, wd, cs, rfl, R.same s02, fun H3 s3 => ⟨cs.length, rfl, by have := R.big; omega, ?_⟩⟩
      have s03 := s02.trans s3
      refine ⟨_, rfl, _, rfl, _, rfl, cs.length, p, q, b, [0], ss', rfl, s03 _ _ hp, s3 _ _ hq2, hls2, hS, hc2, fun H4 s4 => ?_⟩
      have s04 := s03.trans s4
      refine ⟨_, rfl, _, rfl, x, _, dx, _, rfl, s04 _ _ hx, T.cl_View, T.na_View_held, by show (0 : Nat) < 1000; decide, ?_⟩
      have qx : q ≠ x := ne_of hq2 (s02 _ _ hx) (by intro z; cases z)
      refine ⟨_, rfl, x, dx, _, rfl, upd_same, rfl, _, rfl, _, rfl, _, rfl, x, dx, r, p, q, b, [0], ss', _, rfl, upd_same, .inl rfl, by rw [upd_ne px]; exact s04 _ _ hp, by rw [upd_ne qx]; exact s4 _ _ (s3 _ _ hq2), hls2, hS, fun H5 k5 V5 => ?_⟩
      rw [hts] at V5
      exact k H5 (fun c o n e => k5 c o n (by rw [upd_ne n]; exact s04 c o e)) V5
    · subst e1
      refine ⟨_, rfl, _, rfl, rfl, _, rfl, ifF (by nofun) ⟨_, rfl, _, rfl, p, _, rfl, .inr (SqT.of (s1 _ _ hp)), q, ss, by rw [iv_len, hls]; rfl, s1 _ _ hq, hst, fun H2 s2 => ?_⟩⟩
      have s02 := s1.trans s2
      refine ⟨_, rfl, r, dr, _, rfl, s02 _ _ ho, r, pl, ps, wd, cs, rfl, R.same s02, fun H3 s3 => ⟨cs.length, rfl, by have := R.big; omega, ?_⟩⟩
      have s03 := s02.trans s3
      refine ⟨_, rfl, _, rfl, _, rfl, cs.length, p, q, b, ls, ss, rfl, s03 _ _ hp, s03 _ _ hq, hls, hS, hc, fun H4 s4 => ?_⟩
      have s04 := s03.trans s4
      refine ⟨_, rfl, _, rfl, x, _, dx, _, rfl, s04 _ _ hx, T.cl_View, T.na_View_held, by show (0 : Nat) < 1000; decide, ?_⟩
      have qx : q ≠ x := ne_of hq hx (by intro z; cases z)
      refine ⟨_, rfl, x, dx, _, rfl, upd_same, rfl, _, rfl, _, rfl, _, rfl, x, dx, r, p, q, b, ls, ss, _, rfl, upd_same, .inl rfl, by rw [upd_ne px]; exact s04 _ _ hp, by rw [upd_ne qx]; exact s04 _ _ hq, hls, hS, fun H5 k5 V5 => ?_⟩
      exact k H5 (fun c o n e => k5 c o n (by rw [upd_ne n]; exact s04 c o e)) V5
theorem ok_plain_view (T : Tx K mg a) : FnOk P w K mg base CX0 6 a.plain_view a.fd_plain_view ["room", "lengths", "begin", "steps"] (sp_plain_view a) := by
  have G_View_init := ok_View_init (P := P) (w := w) (base := base) T
  obtain ⟨_, hdV, hbV2⟩ := b_View_init2 T
  have G_View_tell := ok_View_tell (P := P) (w := w) (base := base) T
  refine T.F_plain_view.ok sc_plain_view (fun vs H Q E h => ?_) (fun cdv A outer s H vs Q E hr h => ?_)
  · obtain ⟨r, p, q, b, ls, ss, pl, ps, wd, cs, rfl, _⟩ := h
    rfl
  · obtain ⟨r, p, q, b, ls, ss, pl, ps, wd, cs, rfl, R, hp, hq, hls, hS, k⟩ := h
    refine ⟨_, (pss_cons (ps_set (i := 4) sc_plain_view.nd rfl (Or.inl rfl) (pe_make T.mk_View G_View_init (hr.mono (by decide)) rfl T.m_View hbV2 hdV pass0 (pa_cons (pv 0) (pa_cons (pe_tup (pa_cons pe_int pa_nil)) pa_nil))))
          (pss_cons (ps_expr (pe_meth (pv 4) T.cl_View T.me_View_tell G_View_tell (hr.mono (by decide)) (b_View_tell T) .nil pass0 (pa_cons (pv 1) (pa_cons (pv 2) (pa_cons (pv 3) pa_nil)))))
          (pss_one (ps_ret (pv 4))))), ?_⟩
    refine ⟨_, rfl, by show 1 ≤ sizeLine; decide, fun t0 ht0 x dx hx hdx hne => ?_⟩
    have s0 := sm_new (o := .tup [.int 0]) ht0
    have s1 := sm_upd (o := .own x) s0 hdx
    have hx1 : upd (upd H t0 (.tup [.int 0])) dx (.own x) x = none := by rw [upd_ne (Ne.symm hne)]; exact hx
    have s2 := sm_upd (o := .ins a.View dx []) s1 hx1
    have h0x : H x = none := free_upd hx
    refine ⟨x, dx, r, t0, 0, .non, [0], [0], pl, ps, wd, cs, rfl, upd_same, R.same s2, ?_, .inl ⟨rfl, rfl, rfl⟩, rfl, ⟨by decide, by decide, by decide⟩, ?_, ?_, fun H3 k3 V3 => ⟨rfl, ?_⟩⟩
    · rw [upd_ne (ne_of_none upd_same hx), upd_ne (ne_of_none upd_same hdx)]
      exact upd_same
    · intro s hs
      have : s = 0 := by simpa using hs
      omega
    · intro c hc
      have : cells [0] [0] 0 = [] := rfl
      rw [this] at hc
      cases hc
    have s3 : Same H H3 := fun c o e => k3 c o (ne_of_none e h0x) (s2 c o e)
    obtain ⟨dx', tl, ts', g1, g2, g3⟩ := V3
    refine ⟨_, rfl, x, dx', _, rfl, g1, rfl, _, rfl, _, rfl, _, rfl, x, dx', r, p, q, b, ls, ss, _, rfl, g1, .inr ⟨_, _, _, rfl⟩, s3 _ _ hp, s3 _ _ hq, hls, hS, fun H4 k4 V4 => ?_⟩
    exact ⟨_, rfl, k H4 x (fun c o e => k4 c o (ne_of_none e h0x) (s3 c o e)) h0x V4⟩
theorem ok_View_twin (T : Tx K mg a) : FnOk P w K mg base CX0 7 a.View_twin a.fd_View_twin ["self"] (sp_View_twin a) := by
  have G_plain_view := ok_plain_view (P := P) (w := w) (base := base) T
  have G_Room_twin := ok_Room_twin (P := P) (w := w) (base := base) T
  refine T.F_View_twin.ok sc_View_twin (fun vs H Q E h => ?_) (fun cdv A outer s H vs Q E hr h => ?_)
  · obtain ⟨v, r, ls, b, ss, pl, ps, wd, cs, rfl, _⟩ := h
    rfl
  · obtain ⟨v, r, ls, b, ss, pl, ps, wd, cs, rfl, hV, hls, hS, R, k⟩ := h
    refine ⟨_, (pss_one (ps_ret (pe_call G_plain_view (hr.mono (by decide)) rfl T.m_plain_view T.F_plain_view.kp (b_plain_view T) .nil pass0 (pa_cons (pe_meth0 (pe_fld (pv 0) (by rfl)) T.cl_Room T.me_Room_twin G_Room_twin (hr.mono (by decide)) (b_Room_twin T) .nil pass0) (pa_cons (pe_fld (pv 0) (by rfl)) (pa_cons (pe_fld (pv 0) (by rfl)) (pa_cons (pe_fld (pv 0) (by rfl)) pa_nil))))))), ?_⟩
    obtain ⟨dx, tl, ts', h1, h2, h3⟩ := id hV
    obtain ⟨dr, cp, ho⟩ := R.ob
    refine ⟨_, rfl, v, _, dx, _, _, rfl, h1, T.cl_View, T.na_View_held, rfl, r, dr, _, rfl, ho, rfl, r, pl, ps, wd, cs, rfl, R, fun H1 t plt S1 kg ft fpt => ?_⟩
    have g1 := kg.1 _ _ h1 (R.no_view h1)
    refine ⟨_, rfl, v, _, dx, _, _, rfl, g1, T.cl_View, T.na_View_lengths, rfl, _, rfl, v, _, dx, _, _, rfl, g1, T.cl_View, T.na_View_begin, rfl, _, rfl, v, _, dx, _, _, rfl, g1, T.cl_View, T.na_View_steps, rfl, ?_⟩
    exact ⟨t, tl, ts', b, ls, ss, plt, ps, wd, cs, rfl, S1.twin, kg.1 _ _ h2 (R.no_tup h2), kg.1 _ _ h3 (R.no_tup h3), hls, hS, fun H2 v' s2 fv V2 => k H2 t plt v' (S1.same s2) (kg.trans (Kg.of_same s2)) ft fpt V2⟩
end
end VG

set_option Elab.async false
set_option linter.all false
set_option maxRecDepth 100000
set_option maxHeartbeats 4000000
namespace VG
open PySem PySem.Spec PyProof.Rows L2
theorem iv_rev (ls : List Nat) : (iv ls).reverse = iv ls.reverse := by simp [iv]
theorem zv_rev (ls : List Int) : (zv ls).reverse = zv ls.reverse := by simp [zv]
theorem atI_back {α : Type} {xs : List α} {i : Nat} {v : α} (h : xs.reverse[i]? = some v) : atI xs (-((i + 1 : Nat) : Int)) = some v := by
  have hi : i < xs.length := by
    have := (List.getElem?_eq_some_iff.mp h).1
    rwa [List.length_reverse] at this
  rw [List.getElem?_reverse hi] at h
  have e : ixN xs.length (-((i + 1 : Nat) : Int)) = some (xs.length - 1 - i) := by
    unfold ixN
    rw [if_neg (by omega), if_pos (by omega)]
    congr 1
    omega
  unfold atI
  rw [e]
  exact h
/-- a view of sides lo fits the sides ls -/
def Fit (ls lo : List Nat) : Prop := lo.length ≤ ls.length ∧ ∀ (i l : Nat), lo.reverse[i]? = some l → l = 1 ∨ ls.reverse[i]? = some l
def wide (ls lo : List Nat) (ss : List Int) : List Int := List.replicate (ls.length - lo.length) 0 ++ norm lo ss
theorem wide_length {ls lo : List Nat} {ss : List Int} (h : lo.length ≤ ls.length) (h2 : lo.length = ss.length) : (wide ls lo ss).length = ls.length := by
  unfold wide
  rw [List.length_append, List.length_replicate, norm_length h2]
  omega
theorem wide_rev {ls lo : List Nat} {ss : List Int} (h : lo.length ≤ ls.length) (h2 : lo.length = ss.length) {i : Nat} (hi : i < ls.length) :
    (wide ls lo ss).reverse[i]? = some (if i < lo.length then (if lo.reverse.getD i 0 = 1 then 0 else ss.reverse.getD i 0) else 0) := by
  unfold wide
  rw [List.reverse_append, List.reverse_replicate]
  have e : (norm lo ss).reverse = List.zipWith (fun l s => if l = 1 then 0 else s) lo.reverse ss.reverse := by
    unfold norm
    rw [List.reverse_zipWith h2]
  rw [e]
  by_cases hl : i < lo.length
  · rw [if_pos hl, List.getElem?_append_left (by rw [List.length_zipWith, List.length_reverse, List.length_reverse]; omega)]
    have a1 : i < lo.reverse.length := by rw [List.length_reverse]; exact hl
    have a2 : i < ss.reverse.length := by rw [List.length_reverse]; omega
    rw [List.getElem?_zipWith, List.getElem?_eq_getElem a1, List.getElem?_eq_getElem a2, List.getD_eq_getElem?_getD, List.getD_eq_getElem?_getD, List.getElem?_eq_getElem a1, List.getElem?_eq_getElem a2]
    rfl
  · rw [if_neg hl, List.getElem?_append_right (by rw [List.length_zipWith, List.length_reverse, List.length_reverse]; omega), List.length_zipWith, List.length_reverse, List.length_reverse, List.getElem?_replicate, if_pos (by omega)]
def ov : Option Nat → V
  | none => .non
  | some l => .int (l : Int)
def sp_wide_stride : Sp := fun vs H Q _ => ∃ (o : Option Nat) (st side : Int) (asked : Nat), vs = [ov o, .int st, .int (asked : Int), .int side] ∧ (∀ l, o = some l → l = 1 ∨ l = asked) ∧
  Q (.int (match o with | none => 0 | some l => if l = 1 then 0 else st)) H
def sp_widened (a : Adr) : Sp := fun vs H Q _ => ∃ (v r p : Addr) (lo : List Nat) (b : Int) (ss : List Int) (ls : List Nat) (pl : Addr) (ps : List (Addr × Addr)) (w : Nat) (cs : List Int), vs = [.ref v, .ref p] ∧ ViewAt a H v r lo b ss ∧ lo.length = ss.length ∧ RoomAt a H r pl ps w cs ∧
  H p = some (.tup (iv ls)) ∧ Sides ls ∧ Fit ls lo ∧ ∀ H' v', Same H H' → H v' = none → ViewAt a H' v' r ls (tb ls b) (ts ls (wide ls lo ss)) → Q (.ref v') H'
section
variable {P : Program} {w : World} {K : PySem.W.Frag} {mg : Str → Option Value} {base : Heap} {a : Adr}
theorem ok_wide_stride (T : Tx K mg a) : FnOk P w K mg base CX0 1 a.wide_stride a.fd_wide_stride ["own", "stride", "asked", "side"] sp_wide_stride := by
  refine T.F_wide_stride.ok sc_wide_stride (fun vs H Q E h => ?_) (fun cdv A outer s H vs Q E hr h => ?_)
  · obtain ⟨o, st, side, asked, rfl, _⟩ := h
    rfl
  · obtain ⟨o, st, side, asked, rfl, ho, k⟩ := h
    refine ⟨_, (pss_cons (ps_if (PW.pt (pw_or (pt_cmpR op_isN (pv 2) pe_non (nomark _)) (pw_or1 (PW.pt (pw_and (pt_cmpR op_notN (pv 0) pe_non (nomark _)) (pw_and (pt_cmpR op_ne (pv 0) pe_int (nomark _)) (pw_and1 (pt_cmpR op_ne (pv 0) (pv 2) (nomark _))))))))) (pss_one ps_never) pss_nil)
          (pss_cons (ps_if (PW.pt (pw_or (pt_cmpR op_isN (pv 0) pe_non (nomark _)) (pw_or1 (pt_cmpR op_eq (pv 0) pe_int (nomark _))))) (pss_one (ps_ret pe_int)) pss_nil)
          (pss_one (ps_ret (pv 1))))), ?_⟩
    cases o with
    | none =>
      refine ⟨_, rfl, rfl, _, rfl, ifF (by nofun) ⟨_, rfl, rfl, _, rfl, ifNF rfl (iteF ?_)⟩⟩
      exact ⟨_, rfl, rfl, _, rfl, ifT rfl (iteT k)⟩
    | some l =>
      refine ⟨_, rfl, rfl, _, rfl, ifF (by nofun) ⟨_, rfl, rfl, _, rfl, ifNT (by nofun) ⟨_, rfl, rfl, _, rfl, ?_⟩⟩⟩
      by_cases h1 : l = 1
      · subst h1
        refine ifNF rfl (iteF ?_)
        exact ⟨_, rfl, rfl, _, rfl, ifF (by nofun) ⟨_, rfl, rfl, _, rfl, ifT rfl k⟩⟩
      · have h2 : l = asked := (ho l rfl).resolve_left h1
        subst h2
        have n1 : ¬ (V.int (l : Int) = V.int 1) := fun e => h1 (by injection e with e; omega)
        refine ifNT n1 ⟨_, rfl, _, rfl, rfl, _, rfl, ifNF rfl ?_⟩
        refine ⟨_, rfl, rfl, _, rfl, ifF (by nofun) ⟨_, rfl, rfl, _, rfl, ifF n1 ⟨_, rfl, ?_⟩⟩⟩
        have k' : Q (.int (if l = 1 then 0 else st)) H := k
        rw [if_neg h1] at k'
        exact k'
theorem ok_widened (T : Tx K mg a) : FnOk P w K mg base CX0 7 a.widened a.fd_widened ["view", "sides"] (sp_widened a) := by
  have G_vet_sides := ok_vet_sides (P := P) (w := w) (base := base) T
  have G_View_sides := ok_View_sides (P := P) (w := w) (base := base) T
  have G_View_strides := ok_View_strides (P := P) (w := w) (base := base) T
  have G_wide_stride := ok_wide_stride (P := P) (w := w) (base := base) T
  have G_plain_view := ok_plain_view (P := P) (w := w) (base := base) T
  have G_View_first := ok_View_first (P := P) (w := w) (base := base) T
  have G_View_room := ok_View_room (P := P) (w := w) (base := base) T
  refine T.F_widened.ok sc_widened (fun vs H Q E h => ?_) (fun cdv A outer s H vs Q E hr h => ?_)
  · obtain ⟨v, r, p, lo, b, ss, ls, pl, ps, wd, cs, rfl, _⟩ := h
    rfl
  · obtain ⟨v, r, p, lo, b, ss, ls, pl, ps, wd, cs, rfl, hV, hlo, R, hp, hS, hF, k⟩ := h
    refine ⟨_, (pss_cons (ps_expr (pe_call G_vet_sides (hr.mono (by decide)) rfl T.m_vet_sides T.F_vet_sides.kp (b_vet_sides T) .nil pass0 (pa_cons (pv 1) pa_nil)))
          (pss_cons (ps_set (i := 2) sc_widened.nd rfl (Or.inl rfl) (pe_meth0 (pv 0) T.cl_View T.me_View_sides G_View_sides (hr.mono (by decide)) (b_View_sides T) .nil pass0))
          (pss_cons (ps_set (i := 3) sc_widened.nd rfl (Or.inl rfl) (pe_lst pa_nil))
          (pss_cons (ps_for PassesOwn.never rfl (pi_range2 (by rfl) T.n_range (pa_cons pe_int (pa_cons (pe_op op_add pe_int (pe_callB (call_max2 rfl) (by rfl) T.n_max (by decide +kernel) (pa_cons (pe_callB call_len_seq (by rfl) T.n_len (by decide +kernel) (pa_cons (pv 2) pa_nil)) (pa_cons (pe_callB call_len_seq (by rfl) T.n_len (by decide +kernel) (pa_cons (pv 1) pa_nil)) pa_nil)))) pa_nil))) (pg_name (i := 4) sc_widened.nd rfl (Or.inl rfl))
            (pss_cons (ps_set (i := 5) sc_widened.nd rfl (Or.inl rfl) (pe_ifExp (pt_cmpR op_le (pv 4) (pe_callB call_len_seq (by rfl) T.n_len (by decide +kernel) (pa_cons (pv 2) pa_nil)) (nomark _)) (pe_ix ix_tup (pv 2) (pe_un un_neg (pv 4)) (fun _ _ => rfl)) pe_non))
          (pss_cons (ps_set (i := 6) sc_widened.nd rfl (Or.inl rfl) (pe_ifExp (pt_cmpR op_le (pv 4) (pe_callB call_len_seq (by rfl) T.n_len (by decide +kernel) (pa_cons (pv 2) pa_nil)) (nomark _)) (pe_ix ix_tup (pe_meth0 (pv 0) T.cl_View T.me_View_strides G_View_strides (hr.mono (by decide)) (b_View_strides T) .nil pass0) (pe_un un_neg (pv 4)) (fun _ _ => rfl)) pe_int))
          (pss_cons (ps_set (i := 7) sc_widened.nd rfl (Or.inl rfl) (pe_ifExp (pt_cmpR op_le (pv 4) (pe_callB call_len_seq (by rfl) T.n_len (by decide +kernel) (pa_cons (pv 1) pa_nil)) (nomark _)) (pe_ix ix_tup (pv 1) (pe_un un_neg (pv 4)) (fun _ _ => rfl)) pe_non))
          (pss_one (ps_expr (pe_bm PySem.F.plainAttrs_list PySem.F.slot_list_append PySem.F.type_list_append mt_append (pv 3) (pa_cons (pe_call G_wide_stride (hr.mono (by decide)) rfl T.m_wide_stride T.F_wide_stride.kp (b_wide_stride T) .nil pass0 (pa_cons (pv 5) (pa_cons (pv 6) (pa_cons (pv 7) (pa_cons (pe_un un_neg (pv 4)) pa_nil))))) pa_nil))))))))
          (pss_one (ps_ret (pe_call G_plain_view (hr.mono (by decide)) rfl T.m_plain_view T.F_plain_view.kp (b_plain_view T) .nil pass0 (pa_cons (pe_meth0 (pv 0) T.cl_View T.me_View_room G_View_room (hr.mono (by decide)) (b_View_room T) .nil pass0) (pa_cons (pv 1) (pa_cons (pe_meth0 (pv 0) T.cl_View T.me_View_first G_View_first (hr.mono (by decide)) (b_View_first T) .nil pass0) (pa_cons (pe_callTy call_tuple_of (by rfl) T.n_tuple (by decide +kernel) (pa_cons (pe_revL (pv 3)) pa_nil)) pa_nil))))))))))), ?_⟩
    refine ⟨_, rfl, p, ls, rfl, hp, hS, fun H1 s1 => ?_⟩
    obtain ⟨dx, tl, ts', h1, h2, h3⟩ := id hV
    refine ⟨_, rfl, v, dx, _, rfl, s1 _ _ h1, rfl, v, r, lo, b, ss, rfl, hV.same s1, fun t ht => ?_⟩
    refine ⟨Nat.zero_le _, fun D hD => ?_⟩
    have s2 := sm_upd (o := .lst []) s1 hD
    have ht2 := (sm_new (o := .lst []) hD) _ _ ht
    have hmax : (1 : Int) + (if ((iv ls).length : Int) > ((iv lo).length : Int) then ((iv ls).length : Int) else ((iv lo).length : Int)) = ((ls.length + 1 : Nat) : Int) := by
      have := hF.1
      rw [iv_len, iv_len]
      split <;> omega
    refine ⟨_, rfl, t, _, rfl, .inr (SqT.of ht2), _, rfl, p, _, rfl, .inr (SqT.of (s2 _ _ hp)), _, _, rfl, _, _, rfl, rfl, 1, ((ls.length + 1 : Nat) : Int), by show [V.int 1, V.int (1 + _)] = _; rw [hmax], ?_, ?_⟩
    · have := hS.1
      exact ⟨by omega, by omega, by omega, by omega⟩
    have en : (((ls.length + 1 : Nat) : Int) - 1).toNat = ls.length := by omega
    rw [en]
    refine for_it walk_range (fun i σ H' => Same H H' ∧ H t = H t ∧ H' t = some (.tup (iv lo)) ∧ H D = none ∧ (∃ v1 v2 v3 v4, σ = [some (.ref v), some (.ref p), some (.ref t), some (.ref D), v1, v2, v3, v4]) ∧ H' D = some (.lst (zv ((wide ls lo ss).reverse.take i)))) ⟨s2, rfl, ht2, s1.free hD, ⟨none, none, none, none, rfl⟩, upd_same⟩ (fun _ _ _ _ _ => trivial) ?_ ?_
    · rintro i x σ H2 H3 hi ⟨s3, _, ht3, fD, ⟨v1, v2, v3, v4, rfl⟩, hD3⟩ ⟨rfl, rfl⟩
      have h55 := hS.1
      have hasked : ∃ l, ls.reverse[i]? = some l := by
        have : i < ls.reverse.length := by rw [List.length_reverse]; exact hi
        exact ⟨_, List.getElem?_eq_getElem this⟩
      obtain ⟨la, hla⟩ := hasked
      have eneg : -(1 + (i : Int)) = -((i + 1 : Nat) : Int) := by omega
      have hrev : ∀ z : Int, (wide ls lo ss).reverse[i]? = some z → zv ((wide ls lo ss).reverse.take (i + 1)) = zv ((wide ls lo ss).reverse.take i) ++ [.int z] := by
        intro z hz
        rw [List.take_add_one, hz]
        unfold zv
        rw [List.map_append]
        rfl
      have hlen : (zv ((wide ls lo ss).reverse.take i)).length ≤ 1000 := by
        rw [zv_len, List.length_take]
        omega
      have tD : t ≠ D := ne_of ht3 hD3 (by intro z; cases z)
      by_cases hil : i < lo.length
      · have a1 : i < lo.reverse.length := by rw [List.length_reverse]; exact hil
        have a2 : i < ss.reverse.length := by rw [List.length_reverse]; omega
        obtain ⟨l, hl⟩ : ∃ l, lo.reverse[i]? = some l := ⟨_, List.getElem?_eq_getElem a1⟩
        obtain ⟨st, hst⟩ : ∃ st, ss.reverse[i]? = some st := ⟨_, List.getElem?_eq_getElem a2⟩
        have hwr := wide_rev hF.1 hlo hi
        rw [if_pos hil, getD_of hl, getD_of hst] at hwr
        refine ⟨_, rfl, _, rfl, t, _, rfl, .inr (SqT.of ht3), _, _, rfl, rfl, _, rfl, ifT (by rw [iv_len]; omega) ⟨_, rfl, _, rfl, _, rfl, t, iv lo, _, .int (l : Int), rfl, rfl, SqT.of ht3, by rw [eneg]; exact atI_back (by rw [iv_rev]; exact iv_at hl), ?_⟩⟩
        refine ⟨_, rfl, _, rfl, t, _, rfl, .inr (SqT.of ht3), _, _, rfl, rfl, _, rfl, ifT (by rw [iv_len]; omega) ⟨_, rfl, v, dx, _, rfl, s3 _ _ h1, rfl, v, r, lo, b, ss, rfl, hV.same s3, fun t1 ht1 => ⟨_, rfl, _, rfl, t1, zv ss, _, .int st, rfl, rfl, SqT.of ht1, by rw [eneg]; exact atI_back (by rw [zv_rev]; exact zv_at hst), ?_⟩⟩⟩
        refine ⟨_, rfl, _, rfl, p, _, rfl, .inr (SqT.of (s3 _ _ hp)), _, _, rfl, rfl, _, rfl, ifT (by rw [iv_len]; omega) ⟨_, rfl, _, rfl, _, rfl, p, iv ls, _, .int (la : Int), rfl, rfl, SqT.of (s3 _ _ hp), by rw [eneg]; exact atI_back (by rw [iv_rev]; exact iv_at hla), ?_⟩⟩
        refine ⟨_, rfl, .inl ⟨rfl, _, SqL.of hD3⟩, _, rfl, _, rfl, _, rfl, _, rfl, _, rfl, some l, st, _, la, rfl, ?_, D, _, _, rfl, rfl, hD3, bigL (by omega), ?_⟩
        · intro l' e
          obtain rfl := Option.some.inj e
          rcases hF.2 i l hl with q | q
          · exact .inl q
          · rw [hla] at q
            exact .inr (Option.some.inj q).symm
        · refine ⟨sm_mut s3 fD, rfl, by rw [upd_ne tD]; exact ht3, fD, ⟨_, _, _, _, rfl⟩, ?_⟩
          rw [hrev _ hwr]
          exact upd_same
      · have hwr := wide_rev hF.1 hlo hi
        rw [if_neg hil] at hwr
        refine ⟨_, rfl, _, rfl, t, _, rfl, .inr (SqT.of ht3), _, _, rfl, rfl, _, rfl, ifF (by rw [iv_len]; omega) ?_⟩
        refine ⟨_, rfl, _, rfl, t, _, rfl, .inr (SqT.of ht3), _, _, rfl, rfl, _, rfl, ifF (by rw [iv_len]; omega) ?_⟩
        refine ⟨_, rfl, _, rfl, p, _, rfl, .inr (SqT.of (s3 _ _ hp)), _, _, rfl, rfl, _, rfl, ifT (by rw [iv_len]; omega) ⟨_, rfl, _, rfl, _, rfl, p, iv ls, _, .int (la : Int), rfl, rfl, SqT.of (s3 _ _ hp), by rw [eneg]; exact atI_back (by rw [iv_rev]; exact iv_at hla), ?_⟩⟩
        refine ⟨_, rfl, .inl ⟨rfl, _, SqL.of hD3⟩, _, rfl, _, rfl, _, rfl, _, rfl, _, rfl, none, 0, _, la, rfl, (fun l e => nomatch e), D, _, _, rfl, rfl, hD3, bigL (by omega), ?_⟩
        refine ⟨sm_mut s3 fD, rfl, by rw [upd_ne tD]; exact ht3, fD, ⟨_, _, _, _, rfl⟩, ?_⟩
        rw [hrev _ hwr]
        exact upd_same
    · rintro σ H2 ⟨s3, _, ht3, fD, ⟨v1, v2, v3, v4, rfl⟩, hD3⟩
      have hw := wide_length hF.1 hlo (ss := ss)
      have e : (wide ls lo ss).reverse.take ls.length = (wide ls lo ss).reverse := List.take_of_length_le (by rw [List.length_reverse, hw]; exact Nat.le_refl _)
      rw [e] at hD3
      refine ⟨_, rfl, v, dx, _, rfl, s3 _ _ h1, rfl, v, r, lo, b, ss, rfl, hV.same s3, ?_⟩
      refine ⟨_, rfl, _, rfl, v, dx, _, rfl, s3 _ _ h1, rfl, v, r, lo, b, ss, rfl, hV.same s3, ?_⟩
      refine ⟨_, rfl, D, _, rfl, SqL.of hD3, fun q hq => ⟨q, _, rfl, .inl ⟨SqL.of upd_same, fun t2 ht2 => ?_⟩⟩⟩
      have s4 := sm_upd (o := .lst (zv (wide ls lo ss).reverse).reverse) s3 hq
      have s5 := sm_upd (o := .tup (zv (wide ls lo ss).reverse).reverse) s4 ht2
      refine ⟨r, p, t2, b, ls, wide ls lo ss, pl, ps, wd, cs, rfl, R.same s5, s5 _ _ hp, ?_, by rw [hw], hS, fun H' v' s6 fv V6 => k H' v' (s5.trans s6) (s5.free fv) V6⟩
      rw [upd_same, ← List.map_reverse, List.reverse_reverse]
end
end VG

set_option Elab.async false
set_option linter.all false
set_option maxRecDepth 100000
set_option maxHeartbeats 4000000
namespace VG
open PySem PySem.Spec PyProof.Rows L2
/-- a view's numbers: its sides are good, its cells are among n -/
def VOk (n : Nat) (ls : List Nat) (b : Int) (ss : List Int) : Prop := ls.length = ss.length ∧ Sides ls ∧ ∀ c ∈ cells ls ss b, 0 ≤ c ∧ c < n
theorem place_le {ls p : List Nat} (hS : Sides ls) (hp : IsPlace ls p) : ∀ k ∈ p, k ≤ 600 := by
  intro k hk
  obtain ⟨i, hi, e⟩ := List.getElem_of_mem hk
  have h2 : i < ls.length := by rw [← hp.1]; exact hi
  have h3 := hp.2 i hi h2
  have h4 := hS.2.2 _ (List.getElem_mem h2)
  omega
theorem cell_get {ls p : List Nat} {b : Int} {ss : List Int} {i : Nat} (h : ls.length = ss.length) (hp : (places ls)[i]? = some p) : (cells ls ss b)[i]? = some (cellAt b ss p) := by
  rw [cells_places ls ss b h, List.getElem?_map, hp]
  rfl
theorem place_ok {ls p : List Nat} {b : Int} {ss : List Int} {n i : Nat} (h : VOk n ls b ss) (hp : (places ls)[i]? = some p) : IsPlace ls p ∧ (∀ k ∈ p, k ≤ 600) ∧ ∃ c : Nat, cellAt b ss p = (c : Int) ∧ c < n ∧ (cells ls ss b)[i]? = some (c : Int) := by
  have h1 := places_isPlace ls p (List.mem_of_getElem? hp)
  have h2 := cell_get (b := b) h.1 hp
  have h3 := h.2.2 _ (List.mem_of_getElem? h2)
  refine ⟨h1, place_le h.2.1 h1, (cellAt b ss p).toNat, by omega, by omega, ?_⟩
  rw [h2]
  congr 1
  omega
theorem VOk.big {n : Nat} {ls : List Nat} {b : Int} {ss : List Int} (h : VOk n ls b ss) : (cells ls ss b).length ≤ 600 := by
  rw [cells_length b h.1]
  exact h.2.1.2.1
def fillc (cs : List Int) (T : List Int) (z : Int) : List Int := T.foldl (fun c t => c.set t.toNat z) cs
def putAll (cs : List Int) (T zs : List Int) : List Int := (T.zip zs).foldl (fun c q => c.set q.1.toNat q.2) cs
theorem fillc_length (cs T : List Int) (z : Int) : (fillc cs T z).length = cs.length := by
  unfold fillc
  induction T generalizing cs with
  | nil => rfl
  | cons t r ih => rw [List.foldl_cons, ih, List.length_set]
theorem foldset_length (qs : List (Int × Int)) : ∀ cs : List Int, (qs.foldl (fun c q => c.set q.1.toNat q.2) cs).length = cs.length := by
  induction qs with
  | nil => intro cs; rfl
  | cons q r ih => intro cs; rw [List.foldl_cons, ih, List.length_set]
theorem putAll_length (cs T zs : List Int) : (putAll cs T zs).length = cs.length := foldset_length _ _
theorem fillc_take {cs T : List Int} {z c : Int} {i : Nat} (h : T[i]? = some c) : fillc cs (T.take (i + 1)) z = (fillc cs (T.take i) z).set c.toNat z := by
  unfold fillc
  rw [List.take_add_one, h, List.foldl_append]
  rfl
theorem putAll_take {cs T zs : List Int} {z c : Int} {i : Nat} (h : T[i]? = some c) (h2 : zs[i]? = some z) : putAll cs (T.take (i + 1)) (zs.take (i + 1)) = (putAll cs (T.take i) (zs.take i)).set c.toNat z := by
  have h1 : i < T.length := (List.getElem?_eq_some_iff.mp h).1
  have h3 : i < zs.length := (List.getElem?_eq_some_iff.mp h2).1
  unfold putAll
  rw [List.take_add_one, List.take_add_one, h, h2, List.zip_append (by rw [List.length_take, List.length_take]; omega), List.foldl_append]
  rfl
def sp_twice_in (a : Adr) : Sp := fun vs H Q _ => ∃ (v r : Addr) (ls : List Nat) (b : Int) (ss : List Int) (n : Nat), vs = [.ref v] ∧ ViewAt a H v r ls b ss ∧ VOk n ls b ss ∧ (cells ls ss b).Nodup ∧ ∀ H', Same H H' → Q .non H'
def sp_need_open (a : Adr) : Sp := fun vs H Q _ => ∃ (r pl : Addr) (ps : List (Addr × Addr)) (w : Nat) (cs : List Int), vs = [.ref r] ∧ RoomAt a H r pl ps w cs ∧ Q .non H
def sp_filled (a : Adr) : Sp := fun vs H Q _ => ∃ (v r : Addr) (ls : List Nat) (b : Int) (ss : List Int) (pl : Addr) (ps : List (Addr × Addr)) (w : Nat) (cs : List Int) (t plt : Addr) (pst : List (Addr × Addr)) (wt : Nat) (as : List Int) (z : Int),
  vs = [.ref v, .int z] ∧ ViewAt a H v r ls b ss ∧ VOk cs.length ls b ss ∧ Sys a H r pl ps w cs t plt pst wt as ∧ ∀ H' ps', Sys a H' r pl ps' w (fillc cs (cells ls ss b) z) t plt pst wt as → Kg r pl ps H H' ps' → Q .non H'
def sp_written (a : Adr) : Sp := fun vs H Q _ => ∃ (v s r : Addr) (ls : List Nat) (b : Int) (ss : List Int) (lo : List Nat) (b2 : Int) (ss2 : List Int) (pl : Addr) (ps : List (Addr × Addr)) (w : Nat) (cs : List Int) (t plt : Addr) (pst : List (Addr × Addr)) (wt : Nat) (as : List Int),
  vs = [.ref v, .ref s] ∧ ViewAt a H v r ls b ss ∧ VOk cs.length ls b ss ∧ ViewAt a H s r lo b2 ss2 ∧ lo.length = ss2.length ∧ Fit ls lo ∧ VOk cs.length ls b2 (wide ls lo ss2) ∧ (cells ls ss b).Nodup ∧ Sys a H r pl ps w cs t plt pst wt as ∧
  ∀ H' ps', Sys a H' r pl ps' w (putAll cs (cells ls ss b) (nums cs (cells ls (wide ls lo ss2) b2))) t plt pst wt as → Kg r pl ps H H' ps' → Q .non H'
theorem VOk.told {n : Nat} {ls : List Nat} {b : Int} {ss : List Int} (h : VOk n ls b ss) : VOk n ls (tb ls b) (ts ls ss) := ⟨(ts_length h.1).symm, h.2.1, by rw [cells_told h.1]; exact h.2.2⟩
theorem valV_put {kvs : List (Key × V)} {k k' : Key} {v : V} : valV (putK kvs k v) k' ≠ none → valV kvs k' ≠ none ∨ k' = k := by
  intro h
  by_cases e : k' = k
  · exact .inr e
  · refine .inl fun q => h ?_
    unfold valV at q ⊢
    rw [Option.map_eq_none_iff, List.find?_eq_none] at q ⊢
    intro x hx
    unfold putK at hx
    split at hx
    · rw [List.mem_map] at hx
      obtain ⟨y, hy, ey⟩ := hx
      have := q y hy
      split at ey
      · rw [← ey]; exact this
      · rw [← ey]; exact this
    · rcases List.mem_append.mp hx with hx | hx
      · exact q x hx
      · have ex : x = (k, v) := by simpa using hx
        rw [ex]
        simpa using fun e2 => e e2.symm
theorem putK_len {kvs : List (Key × V)} {k : Key} {v : V} : (putK kvs k v).length ≤ kvs.length + 1 := by
  unfold putK
  split
  · rw [List.length_map]; omega
  · rw [List.length_append]; simp
section
variable {P : Program} {w : World} {K : PySem.W.Frag} {mg : Str → Option Value} {base : Heap} {a : Adr}
theorem ok_twice_in (T : Tx K mg a) : FnOk P w K mg base CX0 4 a.twice_in a.fd_twice_in ["view"] (sp_twice_in a) := by
  have G_places_of := ok_places_of (P := P) (w := w) (base := base) T
  have G_View_sides := ok_View_sides (P := P) (w := w) (base := base) T
  have G_View_cell := ok_View_cell (P := P) (w := w) (base := base) T
  refine T.F_twice_in.ok sc_twice_in (fun vs H Q E h => ?_) (fun cdv A outer s H vs Q E hr h => ?_)
  · obtain ⟨v, r, ls, b, ss, n, rfl, _⟩ := h
    rfl
  · obtain ⟨v, r, ls, b, ss, n, rfl, hV, hO, hN, k⟩ := h
    refine ⟨_, (pss_cons (ps_set (i := 1) sc_twice_in.nd rfl (Or.inr rfl) pe_dnewK)
          (pss_cons (ps_set (i := 2) sc_twice_in.nd rfl (Or.inr rfl) pe_dnewK)
          (pss_cons (ps_for PassesOwn.never rfl (pi_list (pe_call G_places_of (hr.mono (by decide)) rfl T.m_places_of T.F_places_of.kp (b_places_of T) .nil pass0 (pa_cons (pe_meth0 (pv 0) T.cl_View T.me_View_sides G_View_sides (hr.mono (by decide)) (b_View_sides T) .nil pass0) pa_nil))) (pg_name (i := 3) sc_twice_in.nd rfl (Or.inl rfl))
            (pss_cons (ps_set (i := 4) sc_twice_in.nd rfl (Or.inl rfl) (pe_meth (pv 0) T.cl_View T.me_View_cell G_View_cell (hr.mono (by decide)) (b_View_cell T) .nil pass0 (pa_cons (pv 3) pa_nil)))
          (pss_one (ps_if (pt_cmp (pc_din (hu_of hr) (pv 4) (pv 1))) (pss_one (ps_expr pe_far)) (pss_one (ps_dput (hu_of hr) (pv 1) (pv 4) (pv 3) rfl))))))
          (pss_cons (ps_lock (ps_setLc (i := 5) (own := [("cell", 4)]) rfl sc_twice_in.nd rfl rfl (sw_true rfl rfl rfl (by decide +kernel)) (pi_keys (pv 2)) (blkOk_by (N := ["view", "first", "later", "place", "cell", "found"]) (sc := defScope s_twice_in) (own := [("cell", 4)]) (by decide +kernel)) (fun _ _ _ _ _ => (pg_name (i := 4) sc_twice_in.nd rfl (Or.inl rfl))) (fun _ _ _ _ _ => pts_nil) (fun _ _ _ _ _ => (pe_tup (pa_cons (pe_dget (hu_of hr) (pv 1) (pv 4) (fun _ _ => rfl)) (pa_cons (pe_dget (hu_of hr) (pv 2) (pv 4) (fun _ _ => rfl)) pa_nil))))))
          (pss_one (ps_ret (pe_callBK (cr_minLD rfl hr) (by rfl) T.n_min (by decide +kernel) (pa_cons (pv 5) pa_nil) (pk_cons pe_non pk_nil)))))))), ?_⟩
    obtain ⟨dx, tl, ts', h1, h2, h3⟩ := id hV
    intro F hF L hL
    have s0 := sm_new (o := .dK []) hF
    have s1 := sm_upd (o := .dK []) s0 hL
    have FL : F ≠ L := ne_of_none upd_same hL
    refine ⟨_, rfl, v, dx, _, rfl, s1 _ _ h1, rfl, v, r, ls, b, ss, rfl, hV.same s1, fun t ht => ?_⟩
    refine ⟨t, ls, rfl, ht, hO.2.1, fun H2 q xs s2 fq hq tq => ⟨q, rfl, ⟨xs, SqL.of hq⟩, ?_⟩⟩
    have s02 := s1.trans s2
    have hF2 : H2 F = some (.dK []) := s2 _ _ (by rw [upd_ne FL]; exact upd_same)
    have hL2 : H2 L = some (.dK []) := s2 _ _ upd_same
    have hL0 : H L = none := free_upd hL
    have qF : q ≠ F := ne_of hq hF2 (by intro z; cases z)
    have big := hO.big
    refine for_it (walk_list (xs := xs)) (fun i σ H' => Same H H' ∧ (∃ v1 v2, σ = [some (.ref v), some (.ref F), some (.ref L), v1, v2, none]) ∧ H' q = some (.lst xs) ∧ Tups H' xs (places ls) ∧ H' L = some (.dK []) ∧
      ∃ kvs, H' F = some (.dK kvs) ∧ kvs.length ≤ i ∧ ∀ c : Int, valV kvs (.inl c) ≠ none → c ∈ (cells ls ss b).take i) ⟨s02, ⟨none, none, rfl⟩, hq, tq, hL2, [], hF2, Nat.le_refl _, fun c hc => absurd rfl hc⟩ (fun i σ H' _ z => SqL.of z.2.2.1) ?_ ?_
    · rintro i x σ H3 H4 hi ⟨s3, ⟨v1, v2, rfl⟩, hq3, tq3, hL3, kvs, hF3, hkl, hk⟩ ⟨rfl, hx⟩
      obtain ⟨tp, p, rfl, hp, htp⟩ := tq3.2 i x hx
      obtain ⟨hp1, hp2, c, hc, hcn, hci⟩ := place_ok hO hp
      refine ⟨_, rfl, v, dx, _, rfl, s3 _ _ h1, rfl, _, rfl, v, r, tp, ls, b, ss, p, rfl, hV.same s3, hO.1, hO.2.1.1, htp, hp1, hp2, fun H5 s5 => ?_⟩
      rw [hc]
      have hF5 := s5 _ _ hF3
      have hno : valV kvs (.inl (c : Int)) = none := by
        apply Classical.byContradiction
        intro hne
        have hmem := hk _ hne
        obtain ⟨j, hj, ej⟩ := List.getElem_of_mem hmem
        rw [List.length_take] at hj
        rw [List.getElem_take] at ej
        obtain ⟨hi', ei⟩ := List.getElem?_eq_some_iff.mp hci
        have := (List.pairwise_iff_getElem.mp hN) j i (by omega) hi' (by omega)
        exact this (ej.trans ei.symm)
      refine ⟨_, rfl, _, rfl, F, none, rfl, .inl ⟨kvs, .inl (c : Int), .inl hF5, rfl, hno.symm⟩, false, rfl, iteF ?_⟩
      have hil : i < (places ls).length := (List.getElem?_eq_some_iff.mp hp).1
      rw [places_length] at hil
      have := hO.2.1.2.1
      refine ⟨_, rfl, _, rfl, _, rfl, F, _, rfl, .inl ⟨kvs, .inl (c : Int), hF5, rfl, bigL (by omega), rfl⟩, ?_⟩
      have s35 := s3.trans s5
      refine ⟨sm_mut s35 hF, ⟨_, _, rfl⟩, by rw [upd_ne qF]; exact s5 _ _ hq3, ?_, by rw [upd_ne (Ne.symm FL)]; exact s5 _ _ hL3, _, upd_same, ?_, ?_⟩
      · refine ⟨tq3.1, fun i' x' hx' => ?_⟩
        obtain ⟨t', p', g1, g2, g3⟩ := tq3.2 i' x' hx'
        have g4 := s5 _ _ g3
        exact ⟨t', p', g1, g2, by rw [upd_ne (ne_of g4 hF5 (by intro z; cases z))]; exact g4⟩
      · have := @putK_len kvs (.inl (c : Int)) (.ref tp)
        omega
      · intro c' hc'
        rw [List.take_add_one, hci]
        rcases valV_put hc' with q | q
        · exact List.mem_append_left _ (hk c' q)
        · have : c' = (c : Int) := by injection q
          rw [this]
          exact List.mem_append_right _ (by simp)
    · rintro σ H3 ⟨s3, ⟨v1, v2, rfl⟩, hq3, tq3, hL3, kvs, hF3, hkl, hk⟩
      refine ⟨L, .dK [], hL3, trivial, fun od => ?_⟩
      refine ⟨_, rfl, L, od, rfl, .inl ⟨[], upd_same, fun D hD => ?_⟩⟩
      have LD : L ≠ D := ne_of_none upd_same hD
      have hD3 : H3 D = none := free_upd hD
      refine lc_mut walk_keys (fun i acc H' => H' L = some (.frz od (.dK [])) ∧ ∀ c o, c ≠ L → H3 c = some o → H' c = some o) (by simp) ⟨by rw [upd_ne LD]; exact upd_same, fun c o n e => by rw [upd_ne (ne_of_none e hD3), upd_ne n]; exact e⟩ (fun _ _ _ p => p.1) ?_ ?_ ?_
      · rintro i acc H' ys zs ⟨g1, g2⟩ hy
        exact ⟨by rw [upd_ne LD]; exact g1, fun c o n e => by rw [upd_ne (ne_of_none e hD3)]; exact g2 c o n e⟩
      · rintro i x H4 H5 acc k' hi
        exact absurd hi (Nat.not_lt_zero i)
      · rintro acc H4 hacc hl ⟨g1, g2⟩
        obtain rfl := List.eq_nil_of_length_eq_zero hl
        refine ⟨g1, _, rfl, D, rfl, rfl, SqL.of (by rw [upd_ne (Ne.symm LD)]; exact hacc), k _ ?_⟩
        intro c o e
        have := g2 c o (ne_of_none e hL0) (s3 c o e)
        rw [upd_ne (ne_of_none e hL0)]
        exact this
end
end VG

set_option Elab.async false
set_option linter.all false
set_option maxRecDepth 100000
set_option maxHeartbeats 4000000
namespace VG
open PySem PySem.Spec PyProof.Rows L2
theorem RoomAt.fresh {a : Adr} {H : Hp} {r pl : Addr} {ps : List (Addr × Addr)} {w : Nat} {cs : List Int} (R : RoomAt a H r pl ps w cs) {b : Addr} (h : H b = none) : ¬ guts r pl ps b := by
  intro g
  obtain ⟨o, e⟩ := R.known g
  rw [h] at e
  cases e
theorem nums_length (cs : List Int) (T : List Int) : (nums cs T).length = T.length := by unfold nums; rw [List.length_map]
section
variable {P : Program} {w : World} {K : PySem.W.Frag} {mg : Str → Option Value} {base : Heap} {a : Adr}
theorem ok_need_unlike (T : Tx K mg a) : FnOk P w K mg base CX0 5 a.need_unlike a.fd_need_unlike ["target"] (sp_twice_in a) := by
  have G_twice_in := ok_twice_in (P := P) (w := w) (base := base) T
  refine T.F_need_unlike.ok sc_need_unlike (fun vs H Q E h => ?_) (fun cdv A outer s H vs Q E hr h => ?_)
  · obtain ⟨v, r, ls, b, ss, n, rfl, _⟩ := h
    rfl
  · obtain ⟨v, r, ls, b, ss, n, rfl, hV, hO, hN, k⟩ := h
    refine ⟨_, (pss_cons (ps_set (i := 1) sc_need_unlike.nd rfl (Or.inl rfl) (pe_call G_twice_in (hr.mono (by decide)) rfl T.m_twice_in T.F_twice_in.kp (b_twice_in T) .nil pass0 (pa_cons (pv 0) pa_nil)))
          (pss_one (ps_if (pt_cmpR op_notN (pv 1) pe_non (nomark _)) (pss_cons (ps_asg (pv 1) (pg_tup rfl (pgs_cons (pg_name (i := 2) sc_need_unlike.nd rfl (Or.inl rfl)) (pgs_cons (pg_name (i := 3) sc_need_unlike.nd rfl (Or.inl rfl)) pgs_nil))))
          (pss_one ps_never)) pss_nil))), ?_⟩
    exact ⟨_, rfl, v, r, ls, b, ss, n, rfl, hV, hO, hN, fun H1 s1 => ⟨_, rfl, rfl, _, rfl, ifNF rfl (k _ s1)⟩⟩
theorem ok_need_open (T : Tx K mg a) : FnOk P w K mg base CX0 2 a.need_open a.fd_need_open ["room"] (sp_need_open a) := by
  have G_Room_is_shut := ok_Room_is_shut (P := P) (w := w) (base := base) T
  refine T.F_need_open.ok sc_need_open (fun vs H Q E h => ?_) (fun cdv A outer s H vs Q E hr h => ?_)
  · obtain ⟨r, pl, ps, wd, cs, rfl, _⟩ := h
    rfl
  · obtain ⟨r, pl, ps, wd, cs, rfl, R, k⟩ := h
    refine ⟨_, (pss_one (ps_if (pt_val (pe_meth0 (pv 0) T.cl_Room T.me_Room_is_shut G_Room_is_shut (hr.mono (by decide)) (b_Room_is_shut T) .nil pass0)) (pss_one ps_never) pss_nil)), ?_⟩
    obtain ⟨dr, cp, ho⟩ := R.ob
    exact ⟨_, rfl, r, dr, _, rfl, ho, rfl, r, pl, ps, wd, cs, rfl, R, false, rfl, iteF k⟩
theorem ok_filled (T : Tx K mg a) : FnOk P w K mg base CX0 6 a.filled a.fd_filled ["target", "number"] (sp_filled a) := by
  have G_need_open := ok_need_open (P := P) (w := w) (base := base) T
  have G_View_room := ok_View_room (P := P) (w := w) (base := base) T
  have G_places_of := ok_places_of (P := P) (w := w) (base := base) T
  have G_View_sides := ok_View_sides (P := P) (w := w) (base := base) T
  have G_View_put := ok_View_put (P := P) (w := w) (base := base) T
  refine T.F_filled.ok sc_filled (fun vs H Q E h => ?_) (fun cdv A outer s H vs Q E hr h => ?_)
  · obtain ⟨v, r, ls, b, ss, pl, ps, wd, cs, t, plt, pst, wt, as, z, rfl, _⟩ := h
    rfl
  · obtain ⟨v, r, ls, b, ss, pl, ps, wd, cs, t, plt, pst, wt, as, z, rfl, hV, hO, S, k⟩ := h
    refine ⟨_, (pss_cons (ps_expr (pe_call G_need_open (hr.mono (by decide)) rfl T.m_need_open T.F_need_open.kp (b_need_open T) .nil pass0 (pa_cons (pe_meth0 (pv 0) T.cl_View T.me_View_room G_View_room (hr.mono (by decide)) (b_View_room T) .nil pass0) pa_nil)))
          (pss_one (ps_for PassesOwn.never rfl (pi_list (pe_call G_places_of (hr.mono (by decide)) rfl T.m_places_of T.F_places_of.kp (b_places_of T) .nil pass0 (pa_cons (pe_meth0 (pv 0) T.cl_View T.me_View_sides G_View_sides (hr.mono (by decide)) (b_View_sides T) .nil pass0) pa_nil))) (pg_name (i := 2) sc_filled.nd rfl (Or.inl rfl))
            (pss_one (ps_expr (pe_meth (pv 0) T.cl_View T.me_View_put G_View_put (hr.mono (by decide)) (b_View_put T) .nil pass0 (pa_cons (pv 2) (pa_cons (pv 1) pa_nil)))))))), ?_⟩
    obtain ⟨dx, tl, ts', h1, h2, h3⟩ := id hV
    refine ⟨_, rfl, v, dx, _, rfl, h1, rfl, v, r, ls, b, ss, rfl, hV, r, pl, ps, wd, cs, rfl, S.main, ?_⟩
    refine ⟨_, rfl, v, dx, _, rfl, h1, rfl, v, r, ls, b, ss, rfl, hV, fun tq htq => ⟨tq, ls, rfl, htq, hO.2.1, fun H2 q xs s2 fq hq tq2 => ⟨q, rfl, ⟨xs, SqL.of hq⟩, ?_⟩⟩⟩
    have S2 := S.same s2
    have V2 := hV.same s2
    have gq : ¬ guts r pl ps q := S.main.fresh fq
    refine for_it (walk_list (xs := xs)) (fun i σ H' => (∃ v1, σ = [some (.ref v), some (.int z), v1]) ∧ ∃ ps', Sys a H' r pl ps' wd (fillc cs ((cells ls ss b).take i) z) t plt pst wt as ∧ Kg r pl ps H2 H' ps') ⟨⟨none, rfl⟩, ps, S2, Kg.refl ..⟩ (fun i σ H' _ zz => ?_) ?_ ?_
    · obtain ⟨_, ps', _, kg⟩ := zz
      exact SqL.of (kg.1 _ _ hq gq)
    · rintro i x σ H3 H4 hi ⟨⟨v1, rfl⟩, ps', S3, kg⟩ ⟨rfl, hx⟩
      obtain ⟨tp, p, rfl, hp, htp⟩ := tq2.2 i x hx
      obtain ⟨hp1, hp2, c, hc, hcn, hci⟩ := place_ok hO hp
      have V3 := V2.keep S2.main kg
      obtain ⟨dx3, tl3, ts3, g1, g2, g3⟩ := id V3
      refine ⟨_, rfl, v, dx3, _, rfl, g1, rfl, _, rfl, _, rfl, v, r, tp, ls, b, ss, p, pl, ps', wd, _, t, plt, pst, wt, as, c, z, rfl, V3, hO.1, hO.2.1.1, kg.1 _ _ htp (S2.main.no_tup htp), hp1, hp2, S3, hc, by rw [fillc_length]; exact hcn, fun H5 ps5 S5 kg5 => ?_⟩
      refine ⟨⟨_, rfl⟩, ps5, ?_, kg.trans kg5⟩
      rw [fillc_take hci]
      exact S5
    · rintro σ H3 ⟨⟨v1, rfl⟩, ps', S3, kg⟩
      refine k H3 ps' ?_ ((Kg.of_same s2).trans kg)
      have e : (cells ls ss b).take xs.length = cells ls ss b := List.take_of_length_le (by rw [cells_length b hO.1, tq2.1, places_length]; exact Nat.le_refl _)
      rw [e] at S3
      exact S3
theorem ok_written (T : Tx K mg a) : FnOk P w K mg base CX0 8 a.written a.fd_written ["target", "source"] (sp_written a) := by
  have G_widened := ok_widened (P := P) (w := w) (base := base) T
  have G_View_sides := ok_View_sides (P := P) (w := w) (base := base) T
  have G_need_unlike := ok_need_unlike (P := P) (w := w) (base := base) T
  have G_need_open := ok_need_open (P := P) (w := w) (base := base) T
  have G_View_room := ok_View_room (P := P) (w := w) (base := base) T
  have G_View_numbers := ok_View_numbers (P := P) (w := w) (base := base) T
  have G_places_of := ok_places_of (P := P) (w := w) (base := base) T
  have G_View_put := ok_View_put (P := P) (w := w) (base := base) T
  refine T.F_written.ok sc_written (fun vs H Q E h => ?_) (fun cdv A outer s H vs Q E hr h => ?_)
  · obtain ⟨v, sv, r, ls, b, ss, lo, b2, ss2, pl, ps, wd, cs, t, plt, pst, wt, as, rfl, _⟩ := h
    rfl
  · obtain ⟨v, sv, r, ls, b, ss, lo, b2, ss2, pl, ps, wd, cs, t, plt, pst, wt, as, rfl, hV, hO, hV2, hlo, hF, hO2, hN, S, k⟩ := h
    refine ⟨_, (pss_cons (ps_set (i := 2) sc_written.nd rfl (Or.inl rfl) (pe_call G_widened (hr.mono (by decide)) rfl T.m_widened T.F_widened.kp (b_widened T) .nil pass0 (pa_cons (pv 1) (pa_cons (pe_meth0 (pv 0) T.cl_View T.me_View_sides G_View_sides (hr.mono (by decide)) (b_View_sides T) .nil pass0) pa_nil))))
          (pss_cons (ps_expr (pe_call G_need_unlike (hr.mono (by decide)) rfl T.m_need_unlike T.F_need_unlike.kp (b_need_unlike T) .nil pass0 (pa_cons (pv 0) pa_nil)))
          (pss_cons (ps_expr (pe_call G_need_open (hr.mono (by decide)) rfl T.m_need_open T.F_need_open.kp (b_need_open T) .nil pass0 (pa_cons (pe_meth0 (pv 0) T.cl_View T.me_View_room G_View_room (hr.mono (by decide)) (b_View_room T) .nil pass0) pa_nil)))
          (pss_one (ps_for PassesOwn.never rfl (pi_zipS (by rfl) T.n_zip (pa_cons (pe_call G_places_of (hr.mono (by decide)) rfl T.m_places_of T.F_places_of.kp (b_places_of T) .nil pass0 (pa_cons (pe_meth0 (pv 0) T.cl_View T.me_View_sides G_View_sides (hr.mono (by decide)) (b_View_sides T) .nil pass0) pa_nil)) (pa_cons (pe_meth0 (pv 2) T.cl_View T.me_View_numbers G_View_numbers (hr.mono (by decide)) (b_View_numbers T) .nil pass0) pa_nil))) (pg_tup rfl (pgs_cons (pg_name (i := 3) sc_written.nd rfl (Or.inl rfl)) (pgs_cons (pg_name (i := 4) sc_written.nd rfl (Or.inl rfl)) pgs_nil)))
            (pss_one (ps_expr (pe_meth (pv 0) T.cl_View T.me_View_put G_View_put (hr.mono (by decide)) (b_View_put T) .nil pass0 (pa_cons (pv 3) (pa_cons (pv 4) pa_nil)))))))))), ?_⟩
    obtain ⟨dx, tl, ts', h1, h2, h3⟩ := id hV
    refine ⟨_, rfl, _, rfl, v, dx, _, rfl, h1, rfl, v, r, ls, b, ss, rfl, hV, fun tq htq => ?_⟩
    refine ⟨sv, r, tq, lo, b2, ss2, ls, pl, ps, wd, cs, rfl, hV2, hlo, S.main, htq, hO.2.1, hF, fun H1 lv s1 fl V1 => ?_⟩
    have hO1 := hO2.told
    refine ⟨_, rfl, v, r, ls, b, ss, cs.length, rfl, hV.same s1, hO, hN, fun H2 s2 => ?_⟩
    have s12 := s1.trans s2
    refine ⟨_, rfl, v, dx, _, rfl, s12 _ _ h1, rfl, v, r, ls, b, ss, rfl, hV.same s12, r, pl, ps, wd, cs, rfl, S.main.same s12, ?_⟩
    refine ⟨_, rfl, v, dx, _, rfl, s12 _ _ h1, rfl, v, r, ls, b, ss, rfl, hV.same s12, fun tq2 htq2 => ⟨tq2, ls, rfl, htq2, hO.2.1, fun H3 q xs s3 fq hq tq3 => ?_⟩⟩
    have V13 := (V1.same s2).same s3
    obtain ⟨dl, tll, tsl, l1, l2, l3⟩ := id V13
    have s13 := s12.trans s3
    refine ⟨_, rfl, lv, dl, _, rfl, l1, rfl, lv, r, ls, _, _, pl, ps, wd, cs, rfl, V13, hO1.1, hO.2.1, S.main.same s13, hO1.2.2, fun H4 nl s4 fnl hnl => ?_⟩
    rw [cells_told hO2.1] at hnl
    have s14 := s13.trans s4
    have S4 := S.same s14
    have V4 := hV.same s14
    have hq4 := s4 _ _ hq
    have tq4 := tq3.same s4
    have gq : ¬ guts r pl ps q := S.main.fresh (s12.free fq)
    have gnl : ¬ guts r pl ps nl := S.main.fresh (s13.free fnl)
    have hxl : size ls = xs.length := by rw [tq3.1, places_length]
    have hzl : size ls = (zv (nums cs (cells ls (wide ls lo ss2) b2))).length := by rw [zv_len, nums_length, cells_length b2 hO2.1]
    refine ⟨q, nl, _, _, rfl, SqL.of hq4, SqL.of hnl, for_it (walk_zipS hxl hzl) (fun i σ H' => (∃ v1 v2, σ = [some (.ref v), some (.ref sv), some (.ref lv), v1, v2]) ∧ ∃ ps', Sys a H' r pl ps' wd (putAll cs ((cells ls ss b).take i) ((nums cs (cells ls (wide ls lo ss2) b2)).take i)) t plt pst wt as ∧ Kg r pl ps H4 H' ps') ⟨⟨none, none, rfl⟩, ps, S4, Kg.refl ..⟩ (fun i σ H' _ zz => ?_) ?_ ?_⟩
    · obtain ⟨_, ps', _, kg⟩ := zz
      exact ⟨SqL.of (kg.1 _ _ hq4 gq), SqL.of (kg.1 _ _ hnl gnl)⟩
    · rintro i x σ H5 H6 hi ⟨⟨v1, v2, rfl⟩, ps', S5, kg⟩ ⟨T', x1, x2, rfl, hT, rfl, e1, e2⟩
      obtain ⟨tp, p, rfl, hp, htp⟩ := tq4.2 i x1 e1
      obtain ⟨z, hz, rfl⟩ := zv_get e2
      obtain ⟨hp1, hp2, c, hc, hcn, hci⟩ := place_ok hO hp
      have sT := sm_new (o := .tup [.ref tp, .int z]) hT
      have V5 := (V4.keep S4.main kg).same sT
      have S6 := S5.same sT
      have htp5 := sT _ _ (kg.1 _ _ htp (S4.main.no_tup htp))
      obtain ⟨dx3, tl3, ts3, g1, g2, g3⟩ := id V5
      refine g_pair ?_
      refine ⟨_, rfl, v, dx3, _, rfl, g1, rfl, _, rfl, _, rfl, v, r, tp, ls, b, ss, p, pl, ps', wd, _, t, plt, pst, wt, as, c, z, rfl, V5, hO.1, hO.2.1.1, htp5, hp1, hp2, S6, hc, by rw [putAll_length]; exact hcn, fun H7 ps7 S7 kg7 => ?_⟩
      refine ⟨⟨_, _, rfl⟩, ps7, ?_, (kg.trans (Kg.of_same sT)).trans kg7⟩
      rw [putAll_take hci hz]
      exact S7
    · rintro σ H5 ⟨⟨v1, v2, rfl⟩, ps', S5, kg⟩
      refine k H5 ps' ?_ ((Kg.of_same s14).trans kg)
      have e : (cells ls ss b).take (size ls) = cells ls ss b := List.take_of_length_le (by rw [cells_length b hO.1]; exact Nat.le_refl _)
      have e2 : (nums cs (cells ls (wide ls lo ss2) b2)).take (size ls) = nums cs (cells ls (wide ls lo ss2) b2) := List.take_of_length_le (by rw [nums_length, cells_length b2 hO2.1]; exact Nat.le_refl _)
      rw [e, e2] at S5
      exact S5
end
end VG

set_option Elab.async false
set_option linter.all false
set_option maxRecDepth 100000
set_option maxHeartbeats 4000000
namespace VG
open PySem PySem.Spec PyProof.Rows L2
section
variable {Z : Cx}
abbrev AllPE (Z : Cx) (scope : Scope) (e : Expr) (t : TE) : Prop := ∀ (s : Shared) (H : Hp) (C : Addr) (cl : List (Str × Addr)) (fp : List Addr), PE (Z.blk s H scope (compEnvC scope cl C Z.env) fp) e t
/-- y = {k: v for ..}, y a local that no inner scope uses -/
theorem ps_setDc {i : Nat} {nm : Str} {np : Pos} {ek ev et ei : Expr} {es : List Expr} {scope : Scope} {own : List (Str × Nat)} {cp sp : Pos} {wi : TI} {g : TG} {tt : TT} {tk tv : TE} (calm : Z.calm = true) (nd : Z.N.Nodup) (at_ : Z.N[i]? = some nm) (lo : Z.env.scope.names.lookup nm = some .local)
    (sw : swapsWith (.DictComp ek ev [⟨et, ei, es, 0⟩] scope cp) (some (.Name nm np)) sp.line Z.env = pure true) (hi : PI Z et ei wi) (ok : BlkOk Z.N Z.env.scope scope own)
    (pg : ∀ (s : Shared) (H : Hp) (C : Addr) (cl : List (Str × Addr)) (fp : List Addr), PG (Z.blk s H scope (compEnvC scope cl C Z.env) fp) et g) (pt : ∀ (s : Shared) (H : Hp) (C : Addr) (cl : List (Str × Addr)) (fp : List Addr), PTs (Z.blk s H scope (compEnvC scope cl C Z.env) fp) es tt)
    (pk : AllPE Z scope ek tk) (pv' : AllPE Z scope ev tv) (fo : ∀ x, foldedSetIterable ei Z.env x = pure x := by intro _; rfl) :
    PS Z (.Assign [.Name nm np] (.DictComp ek ev [⟨et, ei, es, 0⟩] scope cp) sp) (tAsg (tDc wi g tt tk tv (own.map (·.2))) (gName i)) := by
  refine ⟨fun pins s σ H D inv goal => ?_⟩
  have g0 : tDc wi g tt tk tv (own.map (·.2)) σ H (fun x H1 => gName i x σ H1 D.nx) := goal
  rw [exec_Assign_Name_used _ _ _ _ sw]
  refine wpAny_bind (wpAny_standAt (wpAny_bind ?_))
  have run := dc_core (use := some (assign (.Name nm np) Z.env)) (pos := cp) (pos' := firstIterPos [⟨et, ei, es, 0⟩] cp) (Qf := fun _ s' => SP Z pins D .next s') calm nd inv hi ok pg pt pk pv' fo g0 fun L C s1 m H1 inv1 q nsC fpC => by
    show wpAny _ _ (assign (.Name nm np) Z.env (.ref L)) _ _ _
    refine wpAny_assign_Name (store_ok2 (v := V.ref L) inv1 nd at_ (.inl lo) rfl (fun s2 inv2 ⟨b, same, hb⟩ => ?_) (.inr lo))
    have ne : C ≠ b := by
      rcases hb with z | z
      · exact z ▸ fpC.2.1
      · exact fun e => fpC.2.2.2.2.1 nm b z e.symm
    refine ⟨m, nsC.sameBut same ne, fun h3 same3 => ?_⟩
    exact ⟨_, H1, inv2.turned (t' := s2.toks) (fun b' o hb' e => (same3.2 b' hb').trans e) fpC.1 fpC.2.1 fpC.2.2.2.1 fpC.2.2.2.2.1 fpC.2.2.2.2.2, q⟩
  exact wpAny_bind (thn run fun _ s1 hq => wpAny_pure (wpAny_pure hq))
theorem sw_dict {ek ev : Expr} {cs : List Comprehension} {scope : Scope} {cp np : Pos} {nm : Str} {l : Nat} {env : Env} (k : env.scope.kind = .function) (lo : env.scope.names.lookup nm = some .local) (sl : (np.line == cp.line) = true)
    (no : (scope.names.any fun (n, k) => n == nm && (k == .local || k == .cell)) = false) : swapsWith (.DictComp ek ev cs scope cp) (some (.Name nm np)) l env = pure true := by
  have k1 : env.blockKind = .function := by unfold Env.blockKind; rw [k]; rfl
  have k2 : env.kindOf nm = some .local := lo
  unfold swapsWith
  simp only [k1, k2, no, Expr.pos, sl]
  rfl
end
end VG

set_option linter.all false
/-! The plain law of a told way: who reads whose cell, what is moved first, rings. -/
namespace VG
theorem perm_of_cover : ∀ {xs ys : List Nat}, xs.Nodup → (∀ x ∈ xs, x ∈ ys) → ys.length ≤ xs.length → ys.Perm xs
  | [], ys, _, _, h => by
    have : ys = [] := List.eq_nil_of_length_eq_zero (by simpa using h)
    rw [this]
  | x :: xs, ys, hn, hs, h => by
    have hx : x ∈ ys := hs x (by simp)
    rw [List.nodup_cons] at hn
    have l := List.length_erase_of_mem hx
    refine (List.perm_cons_erase hx).trans (List.Perm.cons x (perm_of_cover hn.2 (fun y hy => ?_) (by simp at h; omega)))
    have : y ≠ x := fun e => hn.1 (e ▸ hy)
    exact (List.mem_erase_of_ne this).mpr (hs y (by simp [hy]))
/-- gs.getD i = some j: the place i reads the cell of the place j -/
def Ptr (gs : List (Option Nat)) : Prop := ∀ (i j : Nat), gs[i]? = some (some j) → j < gs.length ∧ j ≠ i
structure MovedOk (gs : List (Option Nat)) (ms : List Nat) : Prop where
  nd : ms.Nodup
  lt : ∀ i ∈ ms, i < gs.length
  ord : ∀ (k i j : Nat), ms[k]? = some i → gs[i]? = some (some j) → j ∉ ms.take k
  rest : ∀ j, j < gs.length → j ∉ ms → ∃ i, i < gs.length ∧ i ∉ ms ∧ gs[i]? = some (some j)
theorem MovedOk.perm {gs : List (Option Nat)} {ms : List Nat} (M : MovedOk gs ms) : (((List.range gs.length).filter fun i => decide (i ∉ ms)).filterMap fun i => gs.getD i none).Perm ((List.range gs.length).filter fun i => decide (i ∉ ms)) := by
  refine perm_of_cover (List.nodup_range.sublist List.filter_sublist) (fun j hj => ?_) (List.length_filterMap_le _ _)
  rw [List.mem_filter, List.mem_range] at hj
  obtain ⟨i, hi, h1, h2⟩ := M.rest j hj.1 (by simpa using hj.2)
  rw [List.mem_filterMap]
  exact ⟨i, List.mem_filter.mpr ⟨List.mem_range.mpr hi, by simpa using h1⟩, by rw [List.getD_eq_getElem?_getD, h2]; rfl⟩
theorem MovedOk.total {gs : List (Option Nat)} {ms : List Nat} (M : MovedOk gs ms) {i : Nat} (hi : i < gs.length) (hn : i ∉ ms) : ∃ j, gs[i]? = some (some j) ∧ j < gs.length ∧ j ∉ ms := by
  have p := M.perm
  have l := p.length_eq
  have mi : i ∈ (List.range gs.length).filter fun i => decide (i ∉ ms) := List.mem_filter.mpr ⟨List.mem_range.mpr hi, by simpa using hn⟩
  have s := List.filterMap_length_eq_length.mp l i mi
  cases e : gs.getD i none with
  | none => rw [e] at s; cases s
  | some j =>
    have mj : j ∈ (List.range gs.length).filter fun i => decide (i ∉ ms) := p.mem_iff.mp (List.mem_filterMap.mpr ⟨i, mi, e⟩)
    rw [List.mem_filter, List.mem_range] at mj
    refine ⟨j, ?_, mj.1, by simpa using mj.2⟩
    rw [List.getD_eq_getElem?_getD, List.getElem?_eq_getElem hi] at e
    rw [List.getElem?_eq_getElem hi]
    exact congrArg some e
theorem MovedOk.inj {gs : List (Option Nat)} {ms : List Nat} (M : MovedOk gs ms) {i i' j : Nat} (hn : i ∉ ms) (hn' : i' ∉ ms) (h : gs[i]? = some (some j)) (h' : gs[i']? = some (some j)) : i = i' := by
  have nd := M.perm.nodup_iff.mpr (List.nodup_range.sublist List.filter_sublist)
  rw [List.Nodup, List.pairwise_filterMap] at nd
  have hi := (List.getElem?_eq_some_iff.mp h).1
  have hi' := (List.getElem?_eq_some_iff.mp h').1
  have mi : i ∈ (List.range gs.length).filter fun i => decide (i ∉ ms) := List.mem_filter.mpr ⟨List.mem_range.mpr hi, by simpa using hn⟩
  have mi' : i' ∈ (List.range gs.length).filter fun i => decide (i ∉ ms) := List.mem_filter.mpr ⟨List.mem_range.mpr hi', by simpa using hn'⟩
  obtain ⟨a, ha, ea⟩ := List.getElem_of_mem mi
  obtain ⟨b, hb, eb⟩ := List.getElem_of_mem mi'
  have g : gs.getD i none = some j := by rw [List.getD_eq_getElem?_getD, h]; rfl
  have g' : gs.getD i' none = some j := by rw [List.getD_eq_getElem?_getD, h']; rfl
  rw [List.pairwise_iff_getElem] at nd
  rcases Nat.lt_trichotomy a b with q | q | q
  · exact absurd rfl (nd a b ha hb q j (by rw [ea]; exact g) j (by rw [eb]; exact g'))
  · subst q
    exact ea.symm.trans eb
  · exact absurd rfl (nd b a hb ha q j (by rw [eb]; exact g') j (by rw [ea]; exact g))
/-! ### rings -/
def RChain (gs : List (Option Nat)) (r : List Nat) : Prop := ∀ (k i j : Nat), r[k]? = some i → r[k + 1]? = some j → gs[i]? = some (some j)
def Ring (gs : List (Option Nat)) (r : List Nat) : Prop := RChain gs r ∧ ∃ l h, r.getLast? = some l ∧ r.head? = some h ∧ gs[l]? = some (some h)
theorem Ring.pred {gs : List (Option Nat)} {r : List Nat} (R : Ring gs r) {x : Nat} (h : x ∈ r) : ∃ p ∈ r, gs[p]? = some (some x) := by
  obtain ⟨k, hk, e⟩ := List.getElem_of_mem h
  obtain ⟨c, l, hd, h1, h2, h3⟩ := R
  cases k with
  | zero =>
    have : r.head? = some x := by rw [List.head?_eq_getElem?, List.getElem?_eq_getElem hk, e]
    rw [h2] at this
    obtain rfl := Option.some.inj this
    exact ⟨l, List.mem_of_getLast? h1, h3⟩
  | succ k =>
    exact ⟨r[k], List.getElem_mem _, c k _ _ (List.getElem?_eq_getElem (by omega)) (by rw [List.getElem?_eq_getElem hk, e])⟩
structure RingsOk (gs : List (Option Nat)) (ms : List Nat) (rs : List (List Nat)) : Prop where
  nd : (ms ++ rs.flatten).Nodup
  lt : ∀ i ∈ rs.flatten, i < gs.length
  ring : ∀ r ∈ rs, Ring gs r
/-- a ring is closed when its next place is met -/
theorem ring_close {gs : List (Option Nat)} {ms c : List Nat} {rs : List (List Nat)} {l x : Nat} (M : MovedOk gs ms) (R : RingsOk gs ms rs) (nd : (ms ++ rs.flatten ++ c).Nodup) (ch : RChain gs c) (hl : c.getLast? = some l) (hx : gs[l]? = some (some x))
    (hm : x ∈ ms ∨ x ∈ rs.flatten ∨ x ∈ c) (hlt : l < gs.length) : Ring gs c := by
  have lc : l ∈ c := List.mem_of_getLast? hl
  rw [List.nodup_append] at nd
  have ln : l ∉ ms := fun h => nd.2.2 l (List.mem_append_left _ h) l lc rfl
  obtain ⟨j, hj, _, hjn⟩ := M.total hlt ln
  rw [hx] at hj
  obtain rfl := Option.some.inj (Option.some.inj hj)
  rcases hm with h | h | h
  · exact absurd h hjn
  · obtain ⟨r, hr, hxr⟩ := List.mem_flatten.mp h
    obtain ⟨p, hp, e⟩ := (R.ring r hr).pred hxr
    have pf : p ∈ rs.flatten := List.mem_flatten.mpr ⟨r, hr, hp⟩
    have pn : p ∉ ms := fun h => (List.nodup_append.mp nd.1).2.2 p h p pf rfl
    have := M.inj pn ln e hx
    subst this
    exact absurd rfl (nd.2.2 p (List.mem_append_right _ pf) p lc)
  · obtain ⟨k, hk, e⟩ := List.getElem_of_mem h
    cases k with
    | zero => exact ⟨ch, l, x, hl, by rw [List.head?_eq_getElem?, List.getElem?_eq_getElem hk, e], hx⟩
    | succ k =>
      have e1 := ch k _ _ (List.getElem?_eq_getElem (show k < c.length by omega)) (by rw [List.getElem?_eq_getElem hk, e])
      have n1 : c[k] ∉ ms := fun h => nd.2.2 _ (List.mem_append_left _ h) _ (List.getElem_mem _) rfl
      have := M.inj n1 ln e1 hx
      rw [List.getLast?_eq_getElem?, List.getElem?_eq_getElem (by omega)] at hl
      have h2 := Option.some.inj hl
      have pw := List.pairwise_iff_getElem.mp nd.2.1
      exact absurd (this.trans h2.symm) (pw k (c.length - 1) (by omega) (by omega) (by omega))
/-! ### the steps and what they do -/
inductive Step where
  | mv (i : Nat)
  | hold (h i : Nat)
  | give (h i : Nat)
def ringSteps (h : Nat) (r : List Nat) : List Step := [.hold h (r.getD 0 0)] ++ (r.drop 1).map Step.mv ++ [.give h (r.getD 0 0)]
def ringsSteps : Nat → List (List Nat) → List Step
  | _, [] => []
  | h, r :: rs => ringSteps h r ++ ringsSteps (h + 1) rs
def plan (ms : List Nat) (rs : List (List Nat)) : List Step := ms.map Step.mv ++ ringsSteps 0 rs
def runStep (T S : List Int) (st : List Int × List Int) : Step → List Int × List Int
  | .mv i => (st.1.set (T.getD i 0).toNat (st.1.getD (S.getD i 0).toNat 0), st.2)
  | .hold _ i => (st.1, st.2 ++ [st.1.getD (S.getD i 0).toNat 0])
  | .give h i => (st.1.set (T.getD i 0).toNat (st.2.getD h 0), st.2)
def runSteps (T S : List Int) (st : List Int × List Int) (l : List Step) : List Int × List Int := l.foldl (runStep T S) st
/-- the hands that are asked for are held -/
def handsOk : Nat → List Step → Prop
  | _, [] => True
  | k, .mv _ :: l => handsOk k l
  | k, .hold _ _ :: l => handsOk (k + 1) l
  | k, .give h _ :: l => h < k ∧ handsOk k l
def Goes (T S : List Int) (gs : List (Option Nat)) : Prop := gs.length = T.length ∧ ∀ (i : Nat) (t s : Int) (g : Option Nat), T[i]? = some t → S[i]? = some s → gs[i]? = some g →
  match g with
  | some j => T[j]? = some s ∧ j ≠ i
  | none => s ∉ T ∨ s = t
theorem Goes.ptr {T S : List Int} {gs : List (Option Nat)} (G : Goes T S gs) (h : T.length = S.length) : Ptr gs := by
  intro i j hg
  have hi := (List.getElem?_eq_some_iff.mp hg).1
  have hT : i < T.length := by rw [← G.1]; exact hi
  have := G.2 i T[i] (S[i]'(by omega)) (some j) (List.getElem?_eq_getElem hT) (List.getElem?_eq_getElem (by omega)) hg
  exact ⟨by rw [G.1]; exact (List.getElem?_eq_some_iff.mp this.1).1, this.2⟩
/-- where the places D are done -/
def Done (T S cs cs' : List Int) (D : List Nat) : Prop := cs'.length = cs.length ∧ (∀ i ∈ D, cs'.getD (T.getD i 0).toNat 0 = cs.getD (S.getD i 0).toNat 0) ∧ ∀ c : Nat, (∀ i ∈ D, (T.getD i 0).toNat ≠ c) → cs'.getD c 0 = cs.getD c 0
theorem Done.nil {T S cs : List Int} : Done T S cs cs [] := ⟨rfl, fun i h => by simp at h, fun c _ => rfl⟩
section
variable {T S cs cs' : List Int} {D : List Nat} {gs : List (Option Nat)} {n : Nat}
structure Room2 (T S : List Int) (n : Nat) : Prop where
  len : T.length = S.length
  nd : T.Nodup
  tr : ∀ c ∈ T, 0 ≤ c ∧ c < n
  sr : ∀ c ∈ S, 0 ≤ c ∧ c < n
theorem Room2.tinj (R : Room2 T S n) {i j : Nat} (hi : i < T.length) (hj : j < T.length) (e : (T.getD i 0).toNat = (T.getD j 0).toNat) : i = j := by
  have a1 : T.getD i 0 = T[i] := by rw [List.getD_eq_getElem?_getD, List.getElem?_eq_getElem hi]; rfl
  have a2 : T.getD j 0 = T[j] := by rw [List.getD_eq_getElem?_getD, List.getElem?_eq_getElem hj]; rfl
  have b1 := R.tr T[i] (List.getElem_mem hi)
  have b2 := R.tr T[j] (List.getElem_mem hj)
  rw [a1, a2] at e
  have e' : T[i] = T[j] := by omega
  have pw := List.pairwise_iff_getElem.mp R.nd
  rcases Nat.lt_trichotomy i j with q | q | q
  · exact absurd e' (pw i j hi hj q)
  · exact q
  · exact absurd e'.symm (pw j i hj hi q)
theorem Done.read (R : Room2 T S n) (G : Goes T S gs) (hD : Done T S cs cs' D) (hlt : ∀ k ∈ D, k < T.length) {i : Nat} (hi : i < T.length) (hn : i ∉ D) (hg : ∀ j, gs[i]? = some (some j) → j ∉ D) :
    cs'.getD (S.getD i 0).toNat 0 = cs.getD (S.getD i 0).toNat 0 := by
  refine hD.2.2 _ fun k hk e => ?_
  have hS : i < S.length := by rw [← R.len]; exact hi
  have hkl := hlt k hk
  have a1 : T.getD k 0 = T[k] := by rw [List.getD_eq_getElem?_getD, List.getElem?_eq_getElem hkl]; rfl
  have a2 : S.getD i 0 = S[i] := by rw [List.getD_eq_getElem?_getD, List.getElem?_eq_getElem hS]; rfl
  have b1 := R.tr T[k] (List.getElem_mem hkl)
  have b2 := R.sr S[i] (List.getElem_mem hS)
  rw [a1, a2] at e
  have e' : T[k] = S[i] := by omega
  have hgi : i < gs.length := by rw [G.1]; exact hi
  have g := G.2 i T[i] S[i] gs[i] (List.getElem?_eq_getElem hi) (List.getElem?_eq_getElem hS) (List.getElem?_eq_getElem hgi)
  cases eg : gs[i] with
  | none =>
    rw [eg] at g
    rcases g with g | g
    · exact g (e' ▸ List.getElem_mem hkl)
    · have : k = i := R.tinj hkl hi (by rw [a1, List.getD_eq_getElem?_getD, List.getElem?_eq_getElem hi, e', g]; rfl)
      subst this
      exact hn hk
  | some j =>
    rw [eg] at g
    obtain ⟨g1, g2⟩ := g
    obtain ⟨hj, ej⟩ := List.getElem?_eq_some_iff.mp g1
    have : k = j := R.tinj hkl hj (by rw [a1, List.getD_eq_getElem?_getD, g1, e']; rfl)
    subst this
    exact hg k (by rw [List.getElem?_eq_getElem hgi, eg]) hk
theorem Done.write (R : Room2 T S cs.length) (hD : Done T S cs cs' D) (hlt : ∀ k ∈ D, k < T.length) {i : Nat} (hi : i < T.length) (hn : i ∉ D) : Done T S cs (cs'.set (T.getD i 0).toNat (cs.getD (S.getD i 0).toNat 0)) (D ++ [i]) := by
  have a1 : T.getD i 0 = T[i] := by rw [List.getD_eq_getElem?_getD, List.getElem?_eq_getElem hi]; rfl
  have b1 := R.tr T[i] (List.getElem_mem hi)
  have hlen : (T.getD i 0).toNat < cs'.length := by rw [a1, hD.1]; omega
  refine ⟨by rw [List.length_set]; exact hD.1, fun k hk => ?_, fun c hc => ?_⟩
  · rcases List.mem_append.mp hk with e | e
    · rw [List.getD_eq_getElem?_getD, List.getElem?_set_ne fun eq => hn (R.tinj hi (hlt k e) eq ▸ e), ← List.getD_eq_getElem?_getD]
      exact hD.2.1 k e
    · have : k = i := by simpa using e
      subst this
      rw [List.getD_eq_getElem?_getD, List.getElem?_set_self hlen]
      rfl
  · rw [List.getD_eq_getElem?_getD, List.getElem?_set_ne (hc i (by simp)), ← List.getD_eq_getElem?_getD]
    exact hD.2.2 c fun k hk => hc k (by simp [hk])
end
end VG

set_option Elab.async false
set_option linter.all false
namespace VG
variable {T S cs cs' : List Int} {D D' : List Nat} {gs : List (Option Nat)}
theorem Done.mem (h : Done T S cs cs' D) (e : ∀ i, i ∈ D' ↔ i ∈ D) : Done T S cs cs' D' := ⟨h.1, fun i hi => h.2.1 i ((e i).mp hi), fun c hc => h.2.2 c fun i hi => hc i ((e i).mpr hi)⟩
theorem run_mvs (R : Room2 T S cs.length) (G : Goes T S gs) {hs : List Int} : ∀ (is : List Nat) (cs' : List Int) (D : List Nat), Done T S cs cs' D → (∀ k ∈ D, k < T.length) →
    (∀ (k i : Nat), is[k]? = some i → i < T.length ∧ i ∉ D ++ is.take k ∧ ∀ j, gs[i]? = some (some j) → j ∉ D ++ is.take k) → ∃ cs2, runSteps T S (cs', hs) (is.map Step.mv) = (cs2, hs) ∧ Done T S cs cs2 (D ++ is)
  | [], cs', D, hD, _, _ => ⟨cs', rfl, by rw [List.append_nil]; exact hD⟩
  | i :: is, cs', D, hD, hlt, h => by
    obtain ⟨h1, h2, h3⟩ := h 0 i rfl
    rw [List.take_zero, List.append_nil] at h2 h3
    have e := hD.read R G hlt h1 h2 h3
    have w := hD.write R hlt h1 h2
    obtain ⟨cs2, q1, q2⟩ := run_mvs R G (hs := hs) is _ (D ++ [i]) w (fun k hk => by
      rcases List.mem_append.mp hk with q | q
      · exact hlt k q
      · have : k = i := by simpa using q
        rw [this]; exact h1) (fun k i' hk => by
      have := h (k + 1) i' (by simpa using hk)
      have ek : D ++ (i :: is).take (k + 1) = D ++ [i] ++ is.take k := by simp
      rw [ek] at this
      exact this)
    refine ⟨cs2, ?_, by rw [List.append_assoc] at q2; exact q2⟩
    rw [← q1]
    show runSteps T S (cs'.set (T.getD i 0).toNat (cs'.getD (S.getD i 0).toNat 0), hs) (is.map Step.mv) = _
    rw [e]
theorem RChain.tail {i : Nat} {r : List Nat} (h : RChain gs (i :: r)) : RChain gs r := fun k a b h1 h2 => h (k + 1) a b (by simpa using h1) (by simpa using h2)
theorem Ring.next {r : List Nat} (R : Ring gs r) {k i j : Nat} (h : r[k]? = some i) (hg : gs[i]? = some (some j)) : r[k + 1]? = some j ∨ (k + 1 = r.length ∧ r.head? = some j) := by
  obtain ⟨c, l, hd, h1, h2, h3⟩ := R
  have hk := (List.getElem?_eq_some_iff.mp h).1
  by_cases hk1 : k + 1 < r.length
  · have := c k i _ h (List.getElem?_eq_getElem hk1)
    rw [hg] at this
    have e := Option.some.inj (Option.some.inj this)
    exact .inl (by rw [List.getElem?_eq_getElem hk1, e])
  · have hkl : k + 1 = r.length := by omega
    rw [List.getLast?_eq_getElem?] at h1
    have : r.length - 1 = k := by omega
    rw [this, h] at h1
    obtain rfl := Option.some.inj h1
    rw [hg] at h3
    have e := Option.some.inj (Option.some.inj h3)
    exact .inr ⟨hkl, by rw [h2, e]⟩
theorem run_append (st : List Int × List Int) (a b : List Step) : runSteps T S st (a ++ b) = runSteps T S (runSteps T S st a) b := by
  unfold runSteps
  rw [List.foldl_append]
theorem run_ring (R : Room2 T S cs.length) (G : Goes T S gs) {r : List Nat} (Rg : Ring gs r) {hs cs' : List Int} {D : List Nat} (hD : Done T S cs cs' D) (hlt : ∀ k ∈ D, k < T.length) (hr : ∀ k ∈ r, k < T.length) (nd : (D ++ r).Nodup) :
    ∃ cs2 hs2, runSteps T S (cs', hs) (ringSteps hs.length r) = (cs2, hs2) ∧ hs2.length = hs.length + 1 ∧ Done T S cs cs2 (D ++ r) := by
  match r, Rg, hr, nd with
  | [], Rg, _, _ =>
    obtain ⟨_, l, _, h1, _⟩ := Rg
    cases h1
  | r0 :: o, Rg, hr, nd =>
    rw [List.nodup_append] at nd
    obtain ⟨_, nr, nx⟩ := nd
    have nr' := List.nodup_cons.mp nr
    have inr : ∀ {k i j : Nat}, (r0 :: o)[k]? = some i → gs[i]? = some (some j) → j ∉ D := by
      intro k i j h hg hj
      rcases Rg.next h hg with q | ⟨_, q⟩
      · exact nx j hj j (List.mem_of_getElem? q) rfl
      · exact nx j hj j (List.mem_of_mem_head? q) rfl
    have h0 : r0 ∉ D := fun q => nx r0 q r0 (by simp) rfl
    have hr0 : r0 < T.length := hr r0 (by simp)
    have e0 := hD.read R G hlt hr0 h0 fun j hg => inr (k := 0) rfl hg
    obtain ⟨cs1, q1, q2⟩ := run_mvs R G (hs := hs ++ [cs.getD (S.getD r0 0).toNat 0]) o cs' D hD hlt (fun k i hk => by
      have hk' : (r0 :: o)[k + 1]? = some i := by simpa using hk
      refine ⟨hr i (List.mem_of_getElem? hk'), ?_, fun j hg => ?_⟩
      · rw [List.mem_append]
        rintro (q | q)
        · exact nx i q i (List.mem_of_getElem? hk') rfl
        · obtain ⟨m, hm, em⟩ := List.getElem_of_mem q
          rw [List.length_take] at hm
          rw [List.getElem_take] at em
          obtain ⟨hk2, ek⟩ := List.getElem?_eq_some_iff.mp hk
          exact absurd (em.trans ek.symm) ((List.pairwise_iff_getElem.mp nr'.2) m k (by omega) hk2 (by omega))
      · rw [List.mem_append]
        rintro (q | q)
        · exact inr hk' hg q
        · obtain ⟨m, hm, em⟩ := List.getElem_of_mem q
          rw [List.length_take] at hm
          rw [List.getElem_take] at em
          rcases Rg.next hk' hg with q | ⟨_, q⟩
          · have q' : o[k + 1]? = some j := by simpa using q
            obtain ⟨hk2, ek⟩ := List.getElem?_eq_some_iff.mp q'
            exact absurd (em.trans ek.symm) ((List.pairwise_iff_getElem.mp nr'.2) m (k + 1) (by omega) hk2 (by omega))
          · have q' : r0 = j := by simpa using q
            exact nr'.1 (q' ▸ em ▸ List.getElem_mem _))
    have w := q2.write R (i := r0) (fun k hk => by
      rcases List.mem_append.mp hk with q | q
      · exact hlt k q
      · exact hr k (by simp [q])) hr0 (by
      rw [List.mem_append]
      rintro (q | q)
      · exact h0 q
      · exact nr'.1 q)
    refine ⟨_, hs ++ [cs.getD (S.getD r0 0).toNat 0], ?_, by simp, w.mem fun i => by simp [or_comm, or_left_comm]⟩
    unfold ringSteps
    rw [run_append, run_append]
    have s1 : runSteps T S (cs', hs) [Step.hold hs.length ((r0 :: o).getD 0 0)] = (cs', hs ++ [cs.getD (S.getD r0 0).toNat 0]) := by
      show (cs', hs ++ [cs'.getD (S.getD r0 0).toNat 0]) = _
      rw [e0]
    rw [s1]
    have s2 : (r0 :: o).drop 1 = o := rfl
    rw [s2, q1]
    show (cs1.set (T.getD r0 0).toNat ((hs ++ [cs.getD (S.getD r0 0).toNat 0]).getD hs.length 0), _) = _
    have s3 : (hs ++ [cs.getD (S.getD r0 0).toNat 0]).getD hs.length 0 = cs.getD (S.getD r0 0).toNat 0 := by
      rw [List.getD_eq_getElem?_getD, List.getElem?_append_right (Nat.le_refl _), Nat.sub_self]
      rfl
    rw [s3]
theorem run_rings (R : Room2 T S cs.length) (G : Goes T S gs) : ∀ (rs : List (List Nat)) (hs cs' : List Int) (D : List Nat), (∀ r ∈ rs, Ring gs r) → Done T S cs cs' D → (∀ k ∈ D, k < T.length) → (∀ k ∈ rs.flatten, k < T.length) → (D ++ rs.flatten).Nodup →
    ∃ cs2 hs2, runSteps T S (cs', hs) (ringsSteps hs.length rs) = (cs2, hs2) ∧ Done T S cs cs2 (D ++ rs.flatten)
  | [], hs, cs', D, _, hD, _, _, _ => ⟨cs', hs, rfl, by simpa using hD⟩
  | r :: rs, hs, cs', D, hR, hD, hlt, hr, nd => by
    rw [List.flatten_cons] at hr nd
    rw [← List.append_assoc] at nd
    obtain ⟨cs1, hs1, q1, q2, q3⟩ := run_ring R G (hR r (by simp)) (hs := hs) hD hlt (fun k hk => hr k (by simp [hk])) (List.nodup_append.mp nd).1
    obtain ⟨cs2, hs2, q4, q5⟩ := run_rings R G rs hs1 cs1 (D ++ r) (fun r' h => hR r' (by simp [h])) q3 (fun k hk => by
      rcases List.mem_append.mp hk with q | q
      · exact hlt k q
      · exact hr k (by simp [q])) (fun k hk => hr k (by simp [hk])) nd
    refine ⟨cs2, hs2, ?_, by rw [List.flatten_cons, ← List.append_assoc]; exact q5⟩
    show runSteps T S (cs', hs) (ringSteps hs.length r ++ ringsSteps (hs.length + 1) rs) = _
    rw [run_append, q1, ← q2, q4]
theorem Done.ext {cs1 cs2 : List Int} (h1 : Done T S cs cs1 D) (h2 : Done T S cs cs2 D') (hD : ∀ i ∈ D, i < T.length) (hD' : ∀ i ∈ D', i < T.length) (c1 : ∀ i < T.length, i ∈ D) (c2 : ∀ i < T.length, i ∈ D') : cs1 = cs2 := by
  apply List.ext_getElem
  · rw [h1.1, h2.1]
  · intro c a b
    have e1 : cs1[c] = cs1.getD c 0 := by rw [List.getD_eq_getElem?_getD, List.getElem?_eq_getElem a]; rfl
    have e2 : cs2[c] = cs2.getD c 0 := by rw [List.getD_eq_getElem?_getD, List.getElem?_eq_getElem b]; rfl
    rw [e1, e2]
    by_cases h : ∃ i, i < T.length ∧ (T.getD i 0).toNat = c
    · obtain ⟨i, hi, e⟩ := h
      rw [← e, h1.2.1 i (c1 i hi), h2.2.1 i (c2 i hi)]
    · rw [h1.2.2 c fun i hi e => h ⟨i, hD i hi, e⟩, h2.2.2 c fun i hi e => h ⟨i, hD' i hi, e⟩]
theorem putAll_done (R : Room2 T S cs.length) : ∀ i, i ≤ T.length → Done T S cs (putAll cs (T.take i) ((nums cs S).take i)) (List.range i)
  | 0, _ => by
    rw [List.take_zero, List.take_zero]
    exact Done.nil
  | i + 1, h => by
    have hi : i < T.length := h
    have hS : i < S.length := by rw [← R.len]; exact hi
    have ih := putAll_done R i (Nat.le_of_lt hi)
    have w := ih.write R (fun k hk => by have := List.mem_range.mp hk; omega) hi (by simp)
    have e1 : T[i]? = some (T.getD i 0) := by rw [List.getD_eq_getElem?_getD, List.getElem?_eq_getElem hi]; rfl
    have e2 : (nums cs S)[i]? = some (cs.getD (S.getD i 0).toNat 0) := by
      unfold nums
      rw [List.getElem?_map, List.getD_eq_getElem?_getD (l := S), List.getElem?_eq_getElem hS]
      rfl
    rw [putAll_take e1 e2, List.range_succ]
    exact w
/-- the told way comes to the same as a copy taken ahead -/
theorem plan_run (R : Room2 T S cs.length) (G : Goes T S gs) {ms : List Nat} {rs : List (List Nat)} (M : MovedOk gs ms) (Rg : RingsOk gs ms rs) (cov : ∀ i < gs.length, i ∈ ms ∨ i ∈ rs.flatten) : (runSteps T S (cs, []) (plan ms rs)).1 = putAll cs T (nums cs S) := by
  have hl : gs.length = T.length := G.1
  obtain ⟨cs1, q1, q2⟩ := run_mvs R G (hs := []) ms cs [] Done.nil (by simp) (fun k i hk => by
    obtain ⟨hk2, ek⟩ := List.getElem?_eq_some_iff.mp hk
    refine ⟨by rw [← hl]; exact M.lt i (List.mem_of_getElem? hk), ?_, fun j hg => ?_⟩
    · rw [List.nil_append]
      intro q
      obtain ⟨m, hm, em⟩ := List.getElem_of_mem q
      rw [List.length_take] at hm
      rw [List.getElem_take] at em
      exact absurd (em.trans ek.symm) ((List.pairwise_iff_getElem.mp M.nd) m k (by omega) hk2 (by omega))
    · rw [List.nil_append]
      exact M.ord k i j hk hg)
  rw [List.nil_append] at q2
  obtain ⟨cs2, hs2, q3, q4⟩ := run_rings R G rs [] cs1 ms Rg.ring q2 (fun k hk => by rw [← hl]; exact M.lt k hk) (fun k hk => by rw [← hl]; exact Rg.lt k hk) Rg.nd
  have e : runSteps T S (cs, []) (plan ms rs) = (cs2, hs2) := by
    unfold plan
    rw [run_append, q1]
    exact q3
  rw [e]
  have p := putAll_done R T.length (Nat.le_refl _)
  rw [List.take_of_length_le (Nat.le_refl _), List.take_of_length_le (by rw [nums_length, R.len]; exact Nat.le_refl _)] at p
  refine Done.ext q4 p (fun i hi => ?_) (fun i hi => List.mem_range.mp hi) (fun i hi => ?_) (fun i hi => List.mem_range.mpr hi)
  · rcases List.mem_append.mp hi with q | q
    · rw [← hl]; exact M.lt i q
    · rw [← hl]; exact Rg.lt i q
  · exact List.mem_append.mpr (cov i (by rw [hl]; exact hi))
theorem hands_mvs (k : Nat) (l : List Step) : ∀ is : List Nat, handsOk k l → handsOk k (is.map Step.mv ++ l)
  | [], h => h
  | _ :: is, h => hands_mvs k l is h
theorem hands_rings : ∀ (rs : List (List Nat)) (h : Nat), handsOk h (ringsSteps h rs)
  | [], _ => trivial
  | r :: rs, h => by
    show handsOk h (ringSteps h r ++ ringsSteps (h + 1) rs)
    unfold ringSteps
    rw [List.append_assoc, List.append_assoc]
    show handsOk (h + 1) ((r.drop 1).map Step.mv ++ ([Step.give h (r.getD 0 0)] ++ ringsSteps (h + 1) rs))
    refine hands_mvs _ _ _ ⟨by omega, hands_rings rs (h + 1)⟩
theorem hands_plan (ms : List Nat) (rs : List (List Nat)) : handsOk 0 (plan ms rs) := hands_mvs _ _ _ (hands_rings rs 0)
end VG

set_option linter.all false
namespace VG
/-! ### what is moved first -/
theorem countP_remove {p : Nat → Bool} {i0 : Nat} : ∀ {l : List Nat}, l.Nodup → i0 ∈ l → p i0 = true → l.countP p = l.countP (fun i => p i && decide (i ≠ i0)) + 1
  | [], _, h, _ => by simp at h
  | x :: l, nd, h, hp => by
    rw [List.nodup_cons] at nd
    by_cases e : x = i0
    · subst e
      rw [List.countP_cons_of_pos hp, List.countP_cons_of_neg (by simp)]
      congr 1
      apply List.countP_congr
      intro y hy
      have : y ≠ x := fun e => nd.1 (e ▸ hy)
      simp [this]
    · have h' : i0 ∈ l := by
        rcases List.mem_cons.mp h with q | q
        · exact absurd q.symm e
        · exact q
      have ih := countP_remove nd.2 h' hp
      by_cases hx : p x = true
      · rw [List.countP_cons_of_pos hx, List.countP_cons_of_pos (by simp [hx, e]), ih]
      · rw [List.countP_cons_of_neg hx, List.countP_cons_of_neg (by simp [hx]), ih]
def cnt (gs : List (Option Nat)) (S : List Nat) (j : Nat) : Nat := (List.range gs.length).countP fun i => decide (i ∉ S) && decide (gs.getD i none = some j)
section
variable {gs : List (Option Nat)} {S : List Nat} {i0 j : Nat}
theorem cnt_same (h : gs.getD i0 none ≠ some j) : cnt gs (S ++ [i0]) j = cnt gs S j := by
  unfold cnt
  apply List.countP_congr
  intro i _
  by_cases e : i = i0
  · subst e
    rw [decide_eq_false h]
    simp
  · simp [e]
theorem cnt_less (hi : i0 < gs.length) (hn : i0 ∉ S) (h : gs.getD i0 none = some j) : cnt gs S j = cnt gs (S ++ [i0]) j + 1 := by
  unfold cnt
  rw [countP_remove (i0 := i0) List.nodup_range (List.mem_range.mpr hi) (by rw [Bool.and_eq_true, decide_eq_true_eq, decide_eq_true_eq]; exact ⟨hn, h⟩)]
  congr 1
  apply List.countP_congr
  intro i _
  by_cases e : i = i0
  · subst e; simp
  · simp [e]
theorem cnt_pos : 0 < cnt gs S j ↔ ∃ i, i < gs.length ∧ i ∉ S ∧ gs[i]? = some (some j) := by
  unfold cnt
  rw [List.countP_pos_iff]
  constructor
  · rintro ⟨i, hi, h⟩
    have hi := List.mem_range.mp hi
    rw [Bool.and_eq_true, decide_eq_true_eq, decide_eq_true_eq] at h
    refine ⟨i, hi, h.1, ?_⟩
    have e := h.2
    rw [List.getD_eq_getElem?_getD, List.getElem?_eq_getElem hi] at e
    rw [List.getElem?_eq_getElem hi]
    exact congrArg some e
  · rintro ⟨i, hi, h1, h2⟩
    refine ⟨i, List.mem_range.mpr hi, ?_⟩
    rw [Bool.and_eq_true, decide_eq_true_eq, decide_eq_true_eq]
    exact ⟨h1, by rw [List.getD_eq_getElem?_getD, h2]; rfl⟩
structure MI (gs : List (Option Nat)) (fs : List Nat) (d : Nat) : Prop where
  nd : fs.Nodup
  lt : ∀ i ∈ fs, i < gs.length
  dl : d ≤ fs.length
  zero : ∀ j, j < gs.length → (j ∈ fs ↔ cnt gs (fs.take d) j = 0)
  ord : ∀ (k i j : Nat), fs[k]? = some i → gs[i]? = some (some j) → j ∉ fs.take (k + 1)
theorem gd_of {i : Nat} {g : Option Nat} (h : gs[i]? = some g) : gs.getD i none = g := by rw [List.getD_eq_getElem?_getD, h]; rfl
theorem MI.start (P : Ptr gs) : MI gs ((List.range gs.length).filter fun j => decide (cnt gs [] j = 0)) 0 := by
  refine ⟨List.nodup_range.sublist List.filter_sublist, fun i hi => ?_, Nat.zero_le _, fun j hj => ?_, fun k i j h1 h2 h3 => ?_⟩
  · rw [List.mem_filter, List.mem_range] at hi
    exact hi.1
  · rw [List.take_zero, List.mem_filter, List.mem_range]
    simp [hj]
  · have h4 := List.mem_of_mem_take h3
    rw [List.mem_filter, List.mem_range] at h4
    have h5 := of_decide_eq_true h4.2
    have : 0 < cnt gs [] j := cnt_pos.mpr ⟨i, (List.getElem?_eq_some_iff.mp h2).1, by simp, h2⟩
    omega
theorem nd_take {fs : List Nat} (nd : fs.Nodup) {d i : Nat} (h : fs[d]? = some i) : i ∉ fs.take d := by
  intro q
  obtain ⟨hk2, ek⟩ := List.getElem?_eq_some_iff.mp h
  obtain ⟨m, hm, em⟩ := List.getElem_of_mem q
  rw [List.length_take] at hm
  rw [List.getElem_take] at em
  exact absurd (em.trans ek.symm) ((List.pairwise_iff_getElem.mp nd) m d (by omega) hk2 (by omega))
theorem take_snoc {fs : List Nat} {d i : Nat} (h : fs[d]? = some i) : fs.take (d + 1) = fs.take d ++ [i] := by rw [List.take_add_one, h]; rfl
theorem MI.none {fs : List Nat} {d i : Nat} (M : MI gs fs d) (h : fs[d]? = some i) (hg : gs[i]? = some none) : MI gs fs (d + 1) ∧ ∀ j, cnt gs (fs.take (d + 1)) j = cnt gs (fs.take d) j := by
  have e : ∀ j, cnt gs (fs.take (d + 1)) j = cnt gs (fs.take d) j := fun j => by
    rw [take_snoc h]
    exact cnt_same (by rw [gd_of hg]; simp)
  exact ⟨⟨M.nd, M.lt, (List.getElem?_eq_some_iff.mp h).1, fun j hj => by rw [e]; exact M.zero j hj, M.ord⟩, e⟩
theorem MI.some_ (P : Ptr gs) {fs : List Nat} {d i j : Nat} (M : MI gs fs d) (h : fs[d]? = some i) (hg : gs[i]? = some (some j)) :
    j < gs.length ∧ cnt gs (fs.take d) j = cnt gs (fs.take (d + 1)) j + 1 ∧ (∀ j', j' ≠ j → cnt gs (fs.take (d + 1)) j' = cnt gs (fs.take d) j') ∧ (cnt gs (fs.take (d + 1)) j ≠ 0 → MI gs fs (d + 1)) ∧
    (cnt gs (fs.take (d + 1)) j = 0 → MI gs (fs ++ [j]) (d + 1)) ∧ (fs ++ [j]).take (d + 1) = fs.take (d + 1) := by
  have hi := M.lt i (List.mem_of_getElem? h)
  have hd := (List.getElem?_eq_some_iff.mp h).1
  obtain ⟨hj, hne⟩ := P i j hg
  have e1 : cnt gs (fs.take d) j = cnt gs (fs.take (d + 1)) j + 1 := by
    rw [take_snoc h]
    exact cnt_less hi (nd_take M.nd h) (gd_of hg)
  have e2 : ∀ j', j' ≠ j → cnt gs (fs.take (d + 1)) j' = cnt gs (fs.take d) j' := fun j' n => by
    rw [take_snoc h]
    exact cnt_same (by rw [gd_of hg]; intro q; exact n (Option.some.inj q).symm)
  have e3 : (fs ++ [j]).take (d + 1) = fs.take (d + 1) := by rw [List.take_append_of_le_length (by omega)]
  have nj : j ∉ fs := fun q => by
    have := (M.zero j hj).mp q
    omega
  refine ⟨hj, e1, e2, fun hz => ⟨M.nd, M.lt, hd, fun j' hj' => ?_, M.ord⟩, fun hz => ⟨?_, ?_, ?_, fun j' hj' => ?_, fun k a b h1 h2 => ?_⟩, e3⟩
  · by_cases e : j' = j
    · subst e
      exact ⟨fun q => absurd q nj, fun q => absurd q hz⟩
    · rw [e2 j' e]
      exact M.zero j' hj'
  · rw [List.nodup_append]
    refine ⟨M.nd, by simp, fun a ha b hb e => nj ?_⟩
    have : b = j := by simpa using hb
    rw [← this, ← e]
    exact ha
  · intro a ha
    rcases List.mem_append.mp ha with q | q
    · exact M.lt a q
    · have : a = j := by simpa using q
      rw [this]; exact hj
  · rw [List.length_append]
    simp
    omega
  · rw [e3, List.mem_append]
    by_cases e : j' = j
    · subst e
      simp [hz]
    · rw [e2 j' e, ← M.zero j' hj']
      simp [e]
  · by_cases hk : k < fs.length
    · rw [List.getElem?_append_left hk] at h1
      rw [List.take_append_of_le_length (by omega)]
      exact M.ord k a b h1 h2
    · rw [List.getElem?_append_right (by omega)] at h1
      have hk0 : k - fs.length = 0 := by
        have := (List.getElem?_eq_some_iff.mp h1).1
        simp at this
        omega
      rw [hk0] at h1
      have ea : j = a := Option.some.inj h1
      subst ea
      obtain ⟨hb, hbn⟩ := P j b h2
      have hk1 : k = fs.length := by
        have : fs.length ≤ k := by omega
        omega
      rw [List.take_of_length_le (by rw [List.length_append]; simp; omega), List.mem_append]
      rintro (q | q)
      · have hz0 := (M.zero b hb).mp q
        have : 0 < cnt gs (fs.take d) b := cnt_pos.mpr ⟨j, hj, fun q => nj (List.mem_of_mem_take q), h2⟩
        omega
      · exact hbn (by simpa using q)
theorem MI.done {fs : List Nat} (M : MI gs fs fs.length) : MovedOk gs fs := by
  refine ⟨M.nd, M.lt, fun k i j h1 h2 h3 => M.ord k i j h1 h2 ?_, fun j hj hn => ?_⟩
  · rw [List.take_add_one]
    exact List.mem_append_left _ h3
  · have := M.zero j hj
    rw [List.take_of_length_le (Nat.le_refl _)] at this
    exact cnt_pos.mp (Nat.pos_of_ne_zero fun e => hn (this.mpr e))
theorem MI.len {fs : List Nat} {d : Nat} (M : MI gs fs d) : fs.length ≤ gs.length := by
  by_cases h : fs.length ≤ gs.length
  · exact h
  · have := (perm_of_cover (ys := List.range gs.length) M.nd (fun x hx => List.mem_range.mpr (M.lt x hx)) (by rw [List.length_range]; omega)).length_eq
    rw [List.length_range] at this
    omega
end
end VG

set_option Elab.async false
set_option linter.all false
set_option maxRecDepth 100000
set_option maxHeartbeats 4000000
namespace VG
open PySem PySem.Spec PyProof.Rows L2
theorem dc_mut {J : It} {n : Nat} {G : Hp → Prop} {Y : Nat → Hp → V → Hp → Prop} (w : Walk J n G Y) {g : TG} {tk tv : TE} {vs : List Nat} {σ : St} {H1 : Hp} {D : Addr} {Qd : Hp → Prop} (I : Nat → List (Key × V) → Hp → Prop) (hn : n ≤ 100000) (h0 : I 0 [] (upd H1 D (.dK []))) (hG : ∀ i kvs H, I i kvs H → G H)
    (hI : ∀ i kvs H ks zs, I i kvs H → H D = some (.dK ks) → I i kvs (upd H D (.dK zs)))
    (hs : ∀ i x H H' kvs (kk : V → V → Hp → Prop), i < n → kvs.length ≤ i → I i kvs H → H D = some (.dK kvs) → Y i H x H' → (∀ c z H5, H5 D = some (.dK kvs) → I (i + 1) (putK kvs c z) H5 → kk (kV c) z H5) →
      g x (wipe σ vs) H' fun σ2 H2 => wipe σ2 vs = wipe σ vs ∧ tk σ2 H2 fun y H4 => tv σ2 H4 fun z H5 => kk y z H5)
    (hd : ∀ kvs H, H D = some (.dK kvs) → kvs.length ≤ n → I n kvs H → Qd H) :
    ∃ W : Nat → Nat → Hp → Prop, (∃ m, W 0 m (upd H1 D (.dK []))) ∧ ∀ i m H, W i m H →
      (J.stop i H ∧ Qd H) ∨ (J.go i H ∧ ∃ Nx : Hp → Prop, (∀ H', Nx H' → ∃ m', m' < m ∧ W (i + 1) m' H') ∧ ∀ x H', J.yld i H x H' → g x (wipe σ vs) H' fun σ2 H2 => wipe σ2 vs = wipe σ vs ∧ tYes σ2 H2 fun b H3 =>
        if b = true then tk σ2 H3 fun y H4 => tv σ2 H4 fun z H5 => ∃ kvs k, y = kV k ∧ H5 D = some (.dK kvs) ∧ kvs.length < sizeLine ∧ Nx (upd H5 D (.dK (putK kvs k z))) else Nx H3) := by
  refine ⟨fun i m H => m = n - i ∧ i ≤ n ∧ ∃ kvs, H D = some (.dK kvs) ∧ kvs.length ≤ i ∧ I i kvs H, ⟨n, by simp, Nat.zero_le _, [], upd_same, Nat.le_refl _, h0⟩, ?_⟩
  rintro i m H ⟨rfl, hi, kvs, hk, hl, hI0⟩
  by_cases hlt : i < n
  · refine .inr ⟨w.goes i H hlt (hG i kvs H hI0), fun H' => ∃ kvs, H' D = some (.dK kvs) ∧ kvs.length ≤ i + 1 ∧ I (i + 1) kvs H', fun H' p' => ⟨n - (i + 1), by omega, rfl, hlt, p'⟩, fun x H' y => ?_⟩
    refine hs i x H H' kvs _ hlt hl hI0 hk (w.yields i H x H' hlt (hG i kvs H hI0) y) fun c z H5 h5 hI5 => ?_
    exact ⟨kvs, c, rfl, h5, bigL (by omega), putK kvs c z, upd_same, Nat.le_trans putK_len (by omega), hI _ _ _ _ _ hI5 h5⟩
  · have e : i = n := by omega
    subst e
    exact .inl ⟨w.stops H (hG _ _ _ hI0), hd kvs H hk hl hI0⟩
def gl (gs : List (Option Nat)) : List V := gs.map ov
theorem gl_get {gs : List (Option Nat)} {i : Nat} {x : V} (h : (gl gs)[i]? = some x) : ∃ g, gs[i]? = some g ∧ x = ov g := by
  unfold gl at h
  rw [List.getElem?_map] at h
  cases e : gs[i]? with
  | none => rw [e] at h; cases h
  | some g => rw [e] at h; exact ⟨g, rfl, (Option.some.inj h).symm⟩
theorem gl_at {gs : List (Option Nat)} {i : Nat} {g : Option Nat} (h : gs[i]? = some g) : (gl gs)[i]? = some (ov g) := by
  unfold gl
  rw [List.getElem?_map, h]
  rfl
theorem gl_len (gs : List (Option Nat)) : (gl gs).length = gs.length := by unfold gl; rw [List.length_map]
def sp_readers (a : Adr) : Sp := fun vs H Q _ => ∃ (v lv r q : Addr) (ls : List Nat) (b b2 : Int) (ss ss2 : List Int) (pl : Addr) (ps : List (Addr × Addr)) (w : Nat) (cs : List Int) (xs : List V),
  vs = [.ref v, .ref lv, .ref q] ∧ ViewAt a H v r ls b ss ∧ VOk cs.length ls b ss ∧ ViewAt a H lv r ls b2 ss2 ∧ VOk cs.length ls b2 ss2 ∧ (cells ls ss b).Nodup ∧ RoomAt a H r pl ps w cs ∧ H q = some (.lst xs) ∧ Tups H xs (places ls) ∧
  ∀ H' g gs, Same H H' → H g = none → Goes (cells ls ss b) (cells ls ss2 b2) gs → H' g = some (.lst (gl gs)) → Q (.ref g) H'
def sp_moved_first : Sp := fun vs H Q _ => ∃ (g : Addr) (gs : List (Option Nat)), vs = [.ref g] ∧ H g = some (.lst (gl gs)) ∧ Ptr gs ∧ gs.length ≤ 600 ∧
  ∀ H' m ms, Same H H' → H m = none → MovedOk gs ms → H' m = some (.lst (iv ms)) → Q (.ref m) H'
section
variable {P : Program} {w : World} {K : PySem.W.Frag} {mg : Str → Option Value} {base : Heap} {a : Adr}
theorem ok_readers (T : Tx K mg a) : FnOk P w K mg base CX0 4 a.readers a.fd_readers ["target", "laid", "places"] (sp_readers a) := by
  have G_View_room := ok_View_room (P := P) (w := w) (base := base) T
  have G_View_cell := ok_View_cell (P := P) (w := w) (base := base) T
  refine T.F_readers.ok sc_readers (fun vs H Q E h => ?_) (fun cdv A outer s H vs Q E hr h => ?_)
  · obtain ⟨v, lv, r, q, ls, b, b2, ss, ss2, pl, ps, wd, cs, xs, rfl, _⟩ := h
    rfl
  · obtain ⟨v, lv, r, q, ls, b, b2, ss, ss2, pl, ps, wd, cs, xs, rfl, hV, hO, hV2, hO2, hN, R, hq, tq, k⟩ := h
    refine ⟨_, (pss_cons (ps_if (pt_cmpR (op_neSame T.nc_Room (hu_of hr)) (pe_meth0 (pv 0) T.cl_View T.me_View_room G_View_room (hr.mono (by decide)) (b_View_room T) .nil pass0) (pe_meth0 (pv 1) T.cl_View T.me_View_room G_View_room (hr.mono (by decide)) (b_View_room T) .nil pass0) (nomark _)) (pss_one (ps_ret (pe_lc (own := [("place", 6)]) rfl sc_readers.nd (pi_list (pv 2)) (blkOk_by (N := ["target", "laid", "places", "places_by_cell", "found", "at", "place", "there"]) (sc := defScope s_readers) (own := [("place", 6)]) (by decide +kernel)) (fun _ _ _ _ _ => (pg_name (i := 6) sc_readers.nd rfl (Or.inl rfl))) (fun _ _ _ _ _ => pts_nil) (fun _ _ _ _ _ => pe_non)))) pss_nil)
          (pss_cons (ps_set (i := 3) sc_readers.nd rfl (Or.inr rfl) (pe_dc (own := [("at", 5), ("place", 6)]) rfl sc_readers.nd (pi_enum (by rfl) T.n_enumerate (pa_cons (pv 2) pa_nil)) (blkOk_by (N := ["target", "laid", "places", "places_by_cell", "found", "at", "place", "there"]) (sc := defScope s_readers) (own := [("at", 5), ("place", 6)]) (by decide +kernel)) (fun _ _ _ _ _ => (show PG _ _ (gTup K 2 _) from pg_tup rfl (pgs_cons (pg_name (i := 5) sc_readers.nd rfl (Or.inl rfl)) (pgs_cons (pg_name (i := 6) sc_readers.nd rfl (Or.inl rfl)) pgs_nil)))) (fun _ _ _ _ _ => pts_nil) (fun _ _ _ _ _ => (pe_meth (pv 0) T.cl_View T.me_View_cell G_View_cell (hr.mono (by decide)) (b_View_cell T) .nil pass0 (pa_cons (pv 6) pa_nil))) (fun _ _ _ _ _ => (pv 5))))
          (pss_cons (ps_setLc (i := 4) (own := [("place", 6)]) rfl sc_readers.nd rfl rfl (sw_true rfl rfl rfl (by decide +kernel)) (pi_list (pv 2)) (blkOk_by (N := ["target", "laid", "places", "places_by_cell", "found", "at", "place", "there"]) (sc := defScope s_readers) (own := [("place", 6)]) (by decide +kernel)) (fun _ _ _ _ _ => (pg_name (i := 6) sc_readers.nd rfl (Or.inl rfl))) (fun _ _ _ _ _ => pts_nil) (fun _ _ _ _ _ => (pe_dget1 (hu_of hr) (pv 3) (pe_meth (pv 1) T.cl_View T.me_View_cell G_View_cell (hr.mono (by decide)) (b_View_cell T) .nil pass0 (pa_cons (pv 6) pa_nil)) ⟨rfl, rfl, rfl, rfl⟩)))
          (pss_one (ps_ret (pe_lc (own := [("at", 5), ("there", 7)]) rfl sc_readers.nd (pi_enum (by rfl) T.n_enumerate (pa_cons (pv 4) pa_nil)) (blkOk_by (N := ["target", "laid", "places", "places_by_cell", "found", "at", "place", "there"]) (sc := defScope s_readers) (own := [("at", 5), ("there", 7)]) (by decide +kernel)) (fun _ _ _ _ _ => (show PG _ _ (gTup K 2 _) from pg_tup rfl (pgs_cons (pg_name (i := 5) sc_readers.nd rfl (Or.inl rfl)) (pgs_cons (pg_name (i := 7) sc_readers.nd rfl (Or.inl rfl)) pgs_nil)))) (fun _ _ _ _ _ => pts_nil) (fun _ _ _ _ _ => (pe_ifExp (pt_cmpR op_eq (pv 7) (pv 5) (nomark _)) pe_non (pv 7))))))))), ?_⟩
    obtain ⟨dx, tl, ts', h1, h2, h3⟩ := id hV
    obtain ⟨dl, tll, tsl, l1, l2, l3⟩ := id hV2
    obtain ⟨dr, cp, ho⟩ := R.ob
    refine ⟨_, rfl, v, dx, _, rfl, h1, rfl, v, r, ls, b, ss, rfl, hV, _, rfl, lv, dl, _, rfl, l1, rfl, lv, r, ls, b2, ss2, rfl, hV2, r, dr, _, rfl, rfl, ho, false, rfl, iteF ?_⟩
    have hbig := hO.big
    have hxl : xs.length = (cells ls ss b).length := by rw [tq.1, places_length, cells_length b hO.1]
    have hST : (cells ls ss b).length = (cells ls ss2 b2).length := by rw [cells_length b hO.1, cells_length b2 hO2.1]
    generalize hTT : cells ls ss b = TT at *
    generalize hSS : cells ls ss2 b2 = SS at *
    refine ⟨_, rfl, q, xs, rfl, SqL.of hq, fun F hF => ?_⟩
    have hxF : (∀ {t : Addr} {p : List V}, H t = some (.tup p) → t ≠ F) := fun e => ne_of_none e hF
    refine dc_mut walk_enum (fun i kvs H' => Same H H' ∧ ∀ c : Int, match valV kvs (.inl c) with | none => c ∉ TT.take i | some z => ∃ j : Nat, z = .int (j : Int) ∧ TT[j]? = some c) (by omega) ⟨sm_new hF, fun c => by rw [valV_nil]; simp⟩ (fun i kvs H' z => SqL.of (z.1 _ _ hq)) ?_ ?_ ?_
    · rintro i kvs H' ks zs ⟨g1, g2⟩ hy
      exact ⟨sm_mut g1 hF, g2⟩
    · rintro i x H2 H3 kvs kk hi hkl ⟨s2, hk⟩ hF2 ⟨T', x1, x2, rfl, hT, rfl, e1, e2⟩ hkk
      obtain ⟨tp, p, rfl, hp, htp⟩ := tq.2 i x2 e2
      obtain rfl : x1 = .int (i : Nat) := (Option.some.inj e1).symm
      obtain ⟨hp1, hp2, c, hc, hcn, hci⟩ := place_ok hO hp
      rw [hTT] at hci
      have s3 := sm_upd (o := .tup [.int (i : Nat), .ref tp]) s2 hT
      refine g_pair ⟨rfl, ?_⟩
      refine ⟨_, rfl, v, dx, _, rfl, s3 _ _ h1, rfl, _, rfl, v, r, tp, ls, b, ss, p, rfl, hV.same s3, hO.1, hO.2.1.1, s3 _ _ htp, hp1, hp2, fun H4 s4 => ⟨_, rfl, ?_⟩⟩
      rw [hc]
      have s34 := s3.trans s4
      refine hkk (.inl (c : Int)) _ H4 (s4 _ _ ((sm_new hT) _ _ hF2)) ⟨s34, fun c' => ?_⟩
      rw [L2.valV_put]
      by_cases ec : c' = (c : Int)
      · subst ec
        rw [if_pos rfl]
        exact ⟨i, rfl, hci⟩
      · rw [if_neg fun e => ec (by injection e)]
        have := hk c'
        cases hv : valV kvs (.inl c') with
        | none =>
          rw [hv] at this
          show c' ∉ TT.take (i + 1)
          rw [List.take_add_one, hci, List.mem_append]
          rintro (q | q)
          · exact this q
          · exact ec (by simpa using q)
        | some z =>
          rw [hv] at this
          exact this
    · rintro kvs H2 hF2 hkl ⟨s2, hk⟩
      rw [hxl, List.take_of_length_le (Nat.le_refl _)] at hk
      refine ⟨_, rfl, q, rfl, ⟨xs, SqL.of (s2 _ _ hq)⟩, fun L hL => ?_⟩
      have hLn : H L = none := s2.free hL
      refine lc_mut (walk_list (xs := xs)) (fun i acc H' => Same H2 H' ∧ ∃ fs : List (Option Nat), acc = gl fs ∧ ∀ (m : Nat) (sv : Int) (o : Option Nat), SS[m]? = some sv → fs[m]? = some o → match o with | none => sv ∉ TT | some j => TT[j]? = some sv) (by omega) ⟨sm_new hL, [], rfl, fun m sv o _ e => by simp at e⟩ (fun i acc H' z => SqL.of (z.1 _ _ (s2 _ _ hq))) ?_ ?_ ?_
      · rintro i acc H' ys zs ⟨g1, g2⟩ hy
        exact ⟨sm_mut g1 hL, g2⟩
      · rintro i x H3 H4 acc k' hi hacl ⟨s3, fs, rfl, hfs⟩ hacc ⟨rfl, hx⟩ hkk
        obtain ⟨tp, p, rfl, hp, htp⟩ := tq.2 i x hx
        obtain ⟨hp1, hp2, c, hc, hcn, hci⟩ := place_ok hO2 hp
        rw [hSS] at hci
        have s23 := s2.trans s3
        refine ⟨rfl, _, rfl, F, rfl, .inl ⟨kvs, .inl (s3 _ _ hF2)⟩, _, rfl, lv, dl, _, rfl, s23 _ _ l1, rfl, _, rfl, lv, r, tp, ls, b2, ss2, p, rfl, hV2.same s23, hO2.1, hO2.2.1.1, s23 _ _ htp, hp1, hp2, fun H5 s5 => ?_⟩
        rw [hc]
        refine ⟨valV kvs (.inl (c : Int)), .inl ⟨kvs, .inl (c : Int), .inl (s5 _ _ (s3 _ _ hF2)), rfl, rfl⟩, ?_⟩
        have hkc := hk (c : Int)
        have fin : ∀ o : Option Nat, (match o with | none => (c : Int) ∉ TT | some j => TT[j]? = some (c : Int)) → k' (ov o) H5 := by
          intro o ho'
          refine hkk (ov o) H5 (s5 _ _ hacc) ⟨s3.trans s5, fs ++ [o], by unfold gl; rw [List.map_append]; rfl, fun m sv o' h1' h2' => ?_⟩
          have hfl : fs.length = i := by rw [gl_len] at hacl; exact hacl
          by_cases hm : m < fs.length
          · rw [List.getElem?_append_left hm] at h2'
            exact hfs m sv o' h1' h2'
          · rw [List.getElem?_append_right (by omega)] at h2'
            have hm0 : m - fs.length = 0 := by
              have := (List.getElem?_eq_some_iff.mp h2').1
              simp at this
              omega
            rw [hm0] at h2'
            obtain rfl : o = o' := Option.some.inj h2'
            obtain rfl : m = i := by omega
            rw [hci] at h1'
            obtain rfl := Option.some.inj h1'
            exact ho'
        cases hv : valV kvs (.inl (c : Int)) with
        | none =>
          rw [hv] at hkc
          exact fin none hkc
        | some z =>
          rw [hv] at hkc
          obtain ⟨j, rfl, hj⟩ := hkc
          exact fin (some j) hj
      · rintro acc H3 hacc hacl ⟨s3, fs, rfl, hfs⟩
        have hfl : fs.length = TT.length := by rw [gl_len] at hacl; omega
        have s23 := s2.trans s3
        refine ⟨_, rfl, L, gl fs, rfl, SqL.of hacc, fun D hD => ?_⟩
        refine lc_mut walk_enum (fun i acc' H' => Same H3 H' ∧ ∃ gs : List (Option Nat), acc' = gl gs ∧ ∀ (m : Nat) (g : Option Nat), gs[m]? = some g → fs[m]? = some g ∧ g ≠ some m ∨ g = none ∧ fs[m]? = some (some m) ) (by omega) ⟨sm_new hD, [], rfl, fun m g e => by simp at e⟩ (fun i acc H' z => SqL.of (z.1 _ _ hacc)) ?_ ?_ ?_
        · rintro i acc H' ys zs ⟨g1, g2⟩ hy
          exact ⟨sm_mut g1 hD, g2⟩
        · rintro i x H4 H5 acc k' hi hacl' ⟨s4, gs, rfl, hgs⟩ hacc' ⟨T', x1, x2, rfl, hT, rfl, e1, e2⟩ hkk
          obtain rfl : x1 = .int (i : Nat) := (Option.some.inj e1).symm
          obtain ⟨o, hof, rfl⟩ := gl_get e2
          have hgl : gs.length = i := by rw [gl_len] at hacl'; exact hacl'
          have s5 := sm_upd (o := .tup [.int (i : Nat), ov o]) s4 hT
          have fin : ∀ g : Option Nat, (fs[i]? = some g ∧ g ≠ some i ∨ g = none ∧ fs[i]? = some (some i)) → k' (ov g) (upd H4 T' (.tup [.int (i : Nat), ov o])) := by
            intro g hg
            refine hkk (ov g) _ ((sm_new hT) _ _ hacc') ⟨s5, gs ++ [g], by unfold gl; rw [List.map_append]; rfl, fun m g' h2' => ?_⟩
            by_cases hm : m < gs.length
            · rw [List.getElem?_append_left hm] at h2'
              exact hgs m g' h2'
            · rw [List.getElem?_append_right (by omega)] at h2'
              have hm0 : m - gs.length = 0 := by
                have := (List.getElem?_eq_some_iff.mp h2').1
                simp at this
                omega
              rw [hm0] at h2'
              obtain rfl : g = g' := Option.some.inj h2'
              obtain rfl : m = i := by omega
              exact hg
          refine g_pair ⟨rfl, ?_⟩
          refine ⟨_, rfl, _, rfl, by cases o <;> rfl, _, rfl, ?_⟩
          by_cases eo : o = some i
          · subst eo
            exact ifT rfl (fin none (.inr ⟨rfl, hof⟩))
          · refine ifF (fun e => eo ?_) ⟨_, rfl, fin o (.inl ⟨hof, eo⟩)⟩
            cases o with
            | none => cases e
            | some j =>
              injection e with e
              have : j = i := by omega
              rw [this]
        · rintro acc H4 hacc' hacl' ⟨s4, gs, rfl, hgs⟩
          have hgl : gs.length = TT.length := by rw [gl_len, gl_len] at hacl'; omega
          refine k H4 D gs (s23.trans s4) (s23.free hD) ⟨hgl, fun i t sv g ht hs hg => ?_⟩ hacc'
          rcases hgs i g hg with ⟨f1, f2⟩ | ⟨rfl, f1⟩
          · have := hfs i sv g hs f1
            cases g with
            | none => exact .inl this
            | some j => exact ⟨this, fun e => f2 (by rw [e])⟩
          · have := hfs i sv (some i) hs f1
            have e : TT[i]? = some sv := this
            rw [ht] at e
            exact .inr (Option.some.inj e).symm
end
end VG

set_option Elab.async false
set_option linter.all false
set_option maxRecDepth 100000
set_option maxHeartbeats 4000000
namespace VG
open PySem PySem.Spec PyProof.Rows L2
/-- how many of the first i places read the cell of j -/
def cntT (gs : List (Option Nat)) (i j : Nat) : Nat := (List.range i).countP fun k => decide (gs.getD k none = some j)
theorem cntT_succ (gs : List (Option Nat)) (i j : Nat) : cntT gs (i + 1) j = cntT gs i j + (if gs.getD i none = some j then 1 else 0) := by
  unfold cntT
  rw [List.range_succ, List.countP_append]
  congr 1
  by_cases h : gs.getD i none = some j
  · rw [if_pos h, List.countP_cons_of_pos (by rw [h]; simp)]
    rfl
  · rw [if_neg h, List.countP_cons_of_neg (by rw [decide_eq_false h]; simp)]
    rfl
theorem cntT_all (gs : List (Option Nat)) (j : Nat) : cntT gs gs.length j = cnt gs [] j := by
  unfold cntT cnt
  apply List.countP_congr
  intro k _
  simp
theorem cntT_le (gs : List (Option Nat)) (i j : Nat) : cntT gs i j ≤ i := by
  unfold cntT
  have := List.countP_le_length (p := fun k => decide (gs.getD k none = some j)) (l := List.range i)
  rw [List.length_range] at this
  exact this
theorem cnt_le (gs : List (Option Nat)) (S : List Nat) (j : Nat) : cnt gs S j ≤ gs.length := by
  unfold cnt
  have := List.countP_le_length (p := fun i => decide (i ∉ S) && decide (gs.getD i none = some j)) (l := List.range gs.length)
  rw [List.length_range] at this
  exact this
theorem wl_ext {wl : List Nat} {n : Nat} {f : Nat → Nat} (h1 : wl.length = n) (h2 : ∀ j, j < n → wl[j]? = some (f j)) : wl = (List.range n).map f := by
  apply List.ext_getElem?
  intro j
  by_cases hj : j < n
  · rw [h2 j hj]
    simp [hj]
  · rw [List.getElem?_eq_none (by omega), List.getElem?_eq_none (by simp; omega)]
section
variable {P : Program} {w : World} {K : PySem.W.Frag} {mg : Str → Option Value} {base : Heap} {a : Adr}
theorem ok_moved_first (T : Tx K mg a) : FnOk P w K mg base CX0 1 a.moved_first a.fd_moved_first ["goes"] sp_moved_first := by
  refine T.F_moved_first.ok sc_moved_first (fun vs H Q E h => ?_) (fun cdv A outer s H vs Q E hr h => ?_)
  · obtain ⟨g, gs, rfl, _⟩ := h
    rfl
  · obtain ⟨g, gs, rfl, hg, P, hn, k⟩ := h
    refine ⟨_, (pss_cons (ps_setLc (i := 1) (own := [("there", 2)]) rfl sc_moved_first.nd rfl rfl (sw_true rfl rfl rfl (by decide +kernel)) (pi_list (pv 0)) (blkOk_by (N := ["goes", "waits", "there", "found", "done", "at", "many"]) (sc := defScope s_moved_first) (own := [("there", 2)]) (by decide +kernel)) (fun _ _ _ _ _ => (pg_name (i := 2) sc_moved_first.nd rfl (Or.inl rfl))) (fun _ _ _ _ _ => pts_nil) (fun _ _ _ _ _ => pe_int))
          (pss_cons (ps_for PassesOwn.never rfl (pi_list (pv 0)) (pg_name (i := 2) sc_moved_first.nd rfl (Or.inl rfl))
            (pss_one (ps_if (pt_cmpR op_notN (pv 2) pe_non (nomark _)) (pss_one (ps_augS (pv 1) (pv 2) get_list pe_int ip_add set_list)) pss_nil)))
          (pss_cons (ps_setLc (i := 3) (own := [("at", 5), ("many", 6)]) rfl sc_moved_first.nd rfl rfl (sw_true rfl rfl rfl (by decide +kernel)) (pi_enum (by rfl) T.n_enumerate (pa_cons (pv 1) pa_nil)) (blkOk_by (N := ["goes", "waits", "there", "found", "done", "at", "many"]) (sc := defScope s_moved_first) (own := [("at", 5), ("many", 6)]) (by decide +kernel)) (fun _ _ _ _ _ => (show PG _ _ (gTup K 2 _) from pg_tup rfl (pgs_cons (pg_name (i := 5) sc_moved_first.nd rfl (Or.inl rfl)) (pgs_cons (pg_name (i := 6) sc_moved_first.nd rfl (Or.inl rfl)) pgs_nil)))) (fun _ _ _ _ _ => (pts_one (pt_cmpR op_eq (pv 6) pe_int (nomark _)))) (fun _ _ _ _ _ => (pv 5)))
          (pss_cons (ps_set (i := 4) sc_moved_first.nd rfl (Or.inl rfl) pe_int)
          (pss_cons (ps_while PassesOwn.never (pt_cmpR op_lt (pv 4) (pe_callB call_len_seq (by rfl) T.n_len (by decide +kernel) (pa_cons (pv 3) pa_nil)) (nomark _)) (pss_cons (ps_set (i := 2) sc_moved_first.nd rfl (Or.inl rfl) (pe_ix ix_list (pv 0) (pe_ix ix_list (pv 3) (pv 4) (fun _ _ => rfl)) (fun _ _ => rfl)))
          (pss_cons (ps_aug (i := 4) sc_moved_first.nd rfl (Or.inl rfl) pe_int ip_add)
          (pss_one (ps_if (pt_cmpR op_notN (pv 2) pe_non (nomark _)) (pss_cons (ps_augS (pv 1) (pv 2) get_list pe_int ip_sub set_list)
          (pss_one (ps_if (pt_cmpR op_eq (pe_ix ix_list (pv 1) (pv 2) (fun _ _ => rfl)) pe_int (nomark _)) (pss_one (ps_expr (pe_bm PySem.F.plainAttrs_list PySem.F.slot_list_append PySem.F.type_list_append mt_append (pv 3) (pa_cons (pv 2) pa_nil)))) pss_nil))) pss_nil)))))
          (pss_one (ps_ret (pv 3)))))))), ?_⟩
    refine ⟨_, rfl, g, rfl, ⟨_, SqL.of hg⟩, fun L hL => ?_⟩
    refine lc_pure (walk_list (xs := gl gs)) (fun _ => .int 0) (by rw [gl_len]; omega) hL (fun H' e => SqL.of (e _ _ hg)) ?_ ?_
    · rintro i x H1 H2 k' hi s1 ⟨rfl, hx⟩ hk'
      exact ⟨rfl, hk' _ (Same.refl _)⟩
    intro H1 s1 hL1
    have gL : g ≠ L := ne_of_none hg hL
    rw [gl_len] at hL1
    have hL1' : H1 L = some (.lst (iv ((List.range gs.length).map (cntT gs 0)))) := by
      rw [hL1, iv_eq, List.map_map]
      rfl
    refine ⟨_, rfl, g, rfl, ⟨_, SqL.of (s1 _ _ hg)⟩, for_it (walk_list (xs := gl gs)) (fun i σ H' => (∃ v1, σ = [some (.ref g), some (.ref L), v1, none, none, none, none]) ∧ Same H H' ∧ H' L = some (.lst (iv ((List.range gs.length).map (cntT gs i))))) ⟨⟨none, rfl⟩, s1, hL1'⟩ (fun i σ H' _ z => SqL.of (z.2.1 _ _ hg)) ?_ ?_⟩
    · rintro i x σ H2 H3 hi ⟨⟨v1, rfl⟩, s2, hL2⟩ ⟨rfl, hx⟩
      obtain ⟨o, ho, rfl⟩ := gl_get hx
      have hil : i < gs.length := by rwa [gl_len] at hi
      cases o with
      | none =>
        refine ⟨_, rfl, rfl, _, rfl, ifNF rfl ⟨⟨_, rfl⟩, s2, ?_⟩⟩
        rw [hL2]
        congr 4
        funext j
        rw [cntT_succ, gd_of ho, if_neg (by simp)]
        rfl
      | some j =>
        obtain ⟨hj, _⟩ := P i j ho
        have hwj : (iv ((List.range gs.length).map (cntT gs i)))[j]? = some (.int ((cntT gs i j : Nat) : Int)) := iv_at (by simp [hj])
        have hle := cntT_le gs i j
        refine ⟨_, rfl, rfl, _, rfl, ifNT (by nofun) ?_⟩
        refine ⟨_, rfl, _, rfl, L, _, (j : Int), _, rfl, rfl, SqL.of hL2, atI_nat hwj, _, _, rfl, rfl, L, _, (j : Int), j, rfl, rfl, hL2, ixn_at (by rw [iv_len]; simp [hj]), ⟨_, rfl⟩, sm_mut s2 hL, ?_⟩
        rw [upd_same]
        congr 2
        rw [iv_eq, iv_eq]
        apply List.ext_getElem?
        intro m
        rw [List.getElem?_set]
        by_cases e : j = m
        · subst e
          rw [if_pos rfl, if_pos (by simp [hj])]
          simp only [List.getElem?_map, List.getElem?_range hj, Option.map_some]
          rw [cntT_succ, gd_of ho, if_pos rfl]
          rfl
        · rw [if_neg e]
          simp only [List.getElem?_map]
          by_cases hm : m < gs.length
          · simp only [List.getElem?_range hm, Option.map_some]
            rw [cntT_succ, gd_of ho, if_neg (by intro q; exact e (Option.some.inj q))]
            rfl
          · rw [List.getElem?_eq_none (by simp; omega)]
            rfl
    rintro σ H2 ⟨⟨v1, rfl⟩, s2, hL2⟩
    rw [gl_len] at hL2
    have ew : (List.range gs.length).map (cntT gs gs.length) = (List.range gs.length).map (cnt gs []) := List.map_congr_left fun j _ => cntT_all gs j
    rw [ew] at hL2
    refine ⟨_, rfl, L, _, rfl, SqL.of hL2, fun M hM => ?_⟩
    have hM0 : H M = none := s2.free hM
    have ML : L ≠ M := ne_of_none hL2 hM
    have gM : g ≠ M := ne_of_none hg hM0
    refine lc_it walk_enum (fun i H' => Same H2 H' ∧ H' M = some (.lst (iv ((List.range i).filter fun j => decide (cnt gs [] j = 0))))) ⟨sm_new hM, upd_same⟩ (fun i H' _ z => SqL.of (z.1 _ _ hL2)) ?_ ?_
    · rintro i x H3 H4 hi ⟨s3, hM3⟩ ⟨T', x1, x2, rfl, hT, rfl, e1, e2⟩
      have hil : i < gs.length := by
        rw [iv_len] at hi
        simpa using hi
      obtain rfl : x1 = .int (i : Nat) := (Option.some.inj e1).symm
      have e2' : x2 = .int ((cnt gs [] i : Nat) : Int) := by
        have := iv_at (ls := (List.range gs.length).map (cnt gs [])) (i := i) (n := cnt gs [] i) (by simp [hil])
        exact (Option.some.inj (this.symm.trans e2)).symm
      subst e2'
      have s4 := sm_upd (o := .tup [.int (i : Nat), .int ((cnt gs [] i : Nat) : Int)]) s3 hT
      have hM4 := (sm_new (o := .tup [.int (i : Nat), .int ((cnt gs [] i : Nat) : Int)]) hT) _ _ hM3
      have hfl : (iv ((List.range i).filter fun j => decide (cnt gs [] j = 0))).length ≤ 600 := by
        rw [iv_len]
        have := List.length_filter_le (fun j => decide (cnt gs [] j = 0)) (List.range i)
        rw [List.length_range] at this
        omega
      refine g_pair ⟨rfl, ?_⟩
      refine ⟨_, rfl, rfl, _, rfl, ?_⟩
      by_cases hz : cnt gs [] i = 0
      · refine ifT (by rw [hz]; rfl) ⟨_, rfl, _, hM4, bigL (by omega), sm_mut s4 hM, ?_⟩
        rw [upd_same, List.range_succ, List.filter_append, iv_eq, iv_eq, List.map_append]
        simp [hz]
      · refine ifF (fun e => hz (by injection e with e; omega)) ⟨s4, ?_⟩
        rw [hM4, List.range_succ, List.filter_append]
        simp [hz]
    intro H3 ⟨s3, hM3⟩
    rw [iv_len, List.length_map, List.length_range] at hM3
    have m0 := MI.start P
    have s03 := s2.trans s3
    have hL3 := s3 _ _ hL2
    refine ⟨fun m σ H' => ∃ fs d v1, m = gs.length - d ∧ σ = [some (.ref g), some (.ref L), v1, some (.ref M), some (.int ((d : Nat) : Int)), none, none] ∧ Same H H' ∧ MI gs fs d ∧ H' M = some (.lst (iv fs)) ∧ H' L = some (.lst (iv ((List.range gs.length).map (cnt gs (fs.take d))))), ⟨_, _, 0, _, rfl, rfl, s03, m0, hM3, hL3⟩, ?_⟩
    rintro m σ H4 ⟨fs, d, v1, rfl, rfl, s4, hMI, hM4, hL4⟩
    have hlen := hMI.len
    refine ⟨_, rfl, _, rfl, M, _, rfl, .inl (SqL.of hM4), _, _, rfl, rfl, _, rfl, ?_⟩
    by_cases hd : d < fs.length
    · refine ifT (by rw [iv_len]; omega) ?_
      obtain ⟨i, hi⟩ : ∃ i, fs[d]? = some i := ⟨_, List.getElem?_eq_getElem hd⟩
      have hil := hMI.lt i (List.mem_of_getElem? hi)
      obtain ⟨o, ho⟩ : ∃ o, gs[i]? = some o := ⟨_, List.getElem?_eq_getElem hil⟩
      refine ⟨fun σ' H' => ∃ fs d', σ' = σ' ∧ d' = d + 1 ∧ ∃ v1, σ' = [some (.ref g), some (.ref L), v1, some (.ref M), some (.int ((d' : Nat) : Int)), none, none] ∧ Same H H' ∧ MI gs fs d' ∧ H' M = some (.lst (iv fs)) ∧ H' L = some (.lst (iv ((List.range gs.length).map (cnt gs (fs.take d'))))), ?_, ?_⟩
      · rintro σ' H' ⟨fs', d', _, rfl, v1', h1, h2, h3, h4, h5⟩
        exact ⟨gs.length - (d + 1), by omega, fs', d + 1, v1', rfl, h1, h2, h3, h4, h5⟩
      have hg4 := s4 _ _ hg
      refine ⟨_, rfl, _, rfl, _, rfl, M, _, (d : Int), _, rfl, rfl, SqL.of hM4, atI_nat (iv_at hi), g, _, (i : Int), _, rfl, rfl, SqL.of hg4, atI_nat (gl_at ho), ?_⟩
      refine ⟨_, rfl, _, _, rfl, rfl, ?_⟩
      cases o with
      | none =>
        obtain ⟨q1, q2⟩ := hMI.none hi ho
        refine ⟨_, rfl, rfl, _, rfl, ifNF rfl ⟨fs, d + 1, rfl, rfl, _, rfl, s4, q1, hM4, ?_⟩⟩
        rw [hL4]
        congr 4
        funext j
        exact (q2 j).symm
      | some j =>
        obtain ⟨hj, q1, q2, q3, q4, q5⟩ := hMI.some_ P hi ho
        have hwj : (iv ((List.range gs.length).map (cnt gs (fs.take d))))[j]? = some (.int ((cnt gs (fs.take d) j : Nat) : Int)) := iv_at (by simp [hj])
        have hset : (iv ((List.range gs.length).map (cnt gs (fs.take d)))).set j (.int (((cnt gs (fs.take d) j : Nat) : Int) - 1)) = iv ((List.range gs.length).map (cnt gs (fs.take (d + 1)))) := by
          rw [iv_eq, iv_eq]
          apply List.ext_getElem?
          intro m
          rw [List.getElem?_set]
          by_cases e : j = m
          · subst e
            rw [if_pos rfl, if_pos (by simp [hj])]
            simp only [List.getElem?_map, List.getElem?_range hj, Option.map_some]
            rw [q1]
            congr 2
            omega
          · rw [if_neg e]
            simp only [List.getElem?_map]
            by_cases hm : m < gs.length
            · simp only [List.getElem?_range hm, Option.map_some]
              rw [q2 m (Ne.symm e)]
            · rw [List.getElem?_eq_none (by simp; omega)]
              rfl
        refine ⟨_, rfl, rfl, _, rfl, ifNT (by nofun) ?_⟩
        refine ⟨_, rfl, _, rfl, L, _, (j : Int), _, rfl, rfl, SqL.of hL4, atI_nat hwj, _, _, rfl, rfl, L, _, (j : Int), j, rfl, rfl, hL4, ixn_at (by rw [iv_len]; simp [hj]), ?_⟩
        have hL5 : upd H4 L (.lst ((iv ((List.range gs.length).map (cnt gs (fs.take d)))).set j (.int (((cnt gs (fs.take d) j : Nat) : Int) - 1)))) L = some (.lst (iv ((List.range gs.length).map (cnt gs (fs.take (d + 1)))))) := by rw [upd_same, hset]
        have hM5 : upd H4 L (.lst ((iv ((List.range gs.length).map (cnt gs (fs.take d)))).set j (.int (((cnt gs (fs.take d) j : Nat) : Int) - 1)))) M = some (.lst (iv fs)) := by rw [upd_ne (Ne.symm ML)]; exact hM4
        have hwj2 : (iv ((List.range gs.length).map (cnt gs (fs.take (d + 1)))))[j]? = some (.int ((cnt gs (fs.take (d + 1)) j : Nat) : Int)) := iv_at (by simp [hj])
        refine ⟨_, rfl, _, rfl, L, _, (j : Int), _, rfl, rfl, SqL.of hL5, atI_nat hwj2, rfl, _, rfl, ?_⟩
        by_cases hz : cnt gs (fs.take (d + 1)) j = 0
        · refine ifT (by rw [hz]; rfl) ?_
          refine ⟨_, rfl, .inl ⟨rfl, _, SqL.of hM5⟩, _, rfl, M, _, _, rfl, rfl, hM5, bigL (by rw [iv_len]; omega), ?_⟩
          refine ⟨fs ++ [j], d + 1, rfl, rfl, _, rfl, sm_mut (sm_mut s4 hL) hM0, q4 hz, ?_, ?_⟩
          · rw [upd_same, iv_eq, iv_eq, List.map_append]
            rfl
          · rw [upd_ne ML, hL5, q5]
        · refine ifF (fun e => hz (by injection e with e; omega)) ?_
          exact ⟨fs, d + 1, rfl, rfl, _, rfl, sm_mut s4 hL, q3 hz, hM5, hL5⟩
    · refine ifF (by rw [iv_len]; omega) ?_
      have : d = fs.length := by have := hMI.dl; omega
      subst this
      exact ⟨_, rfl, k H4 M fs s4 hM0 hMI.done hM4⟩
end
end VG

set_option Elab.async false
set_option linter.all false
set_option maxRecDepth 100000
set_option maxHeartbeats 4000000
namespace VG
open PySem PySem.Spec PyProof.Rows L2
/-- the values xs are lists that hold rs, none of them at q -/
def Lsts (H : Hp) (q : Addr) (xs : List V) (rs : List (List Nat)) : Prop := xs.length = rs.length ∧ ∀ (i : Nat) (x : V), xs[i]? = some x → ∃ (t : Addr) (r : List Nat), x = .ref t ∧ t ≠ q ∧ rs[i]? = some r ∧ H t = some (.lst (iv r))
theorem Lsts.keep {H H' : Hp} {q : Addr} {xs : List V} {rs : List (List Nat)} (h : Lsts H q xs rs) (k : ∀ b o, b ≠ q → H b = some o → (∃ ys, o = .lst ys) → H' b = some o) : Lsts H' q xs rs :=
  ⟨h.1, fun i x hx => let ⟨t, r, h1, h2, h3, h4⟩ := h.2 i x hx; ⟨t, r, h1, h2, h3, k _ _ h2 h4 ⟨_, rfl⟩⟩⟩
theorem Lsts.snoc {H : Hp} {q t : Addr} {xs : List V} {rs : List (List Nat)} {r : List Nat} (h : Lsts H q xs rs) (e : H t = some (.lst (iv r))) (n : t ≠ q) : Lsts H q (xs ++ [.ref t]) (rs ++ [r]) := by
  refine ⟨by rw [List.length_append, List.length_append, h.1]; rfl, fun i x hx => ?_⟩
  by_cases hi : i < xs.length
  · rw [List.getElem?_append_left hi] at hx
    obtain ⟨t', p', h1, h2, h3, h4⟩ := h.2 i x hx
    exact ⟨t', p', h1, h2, by rw [List.getElem?_append_left (by rw [← h.1]; exact hi)]; exact h3, h4⟩
  · rw [List.getElem?_append_right (by omega)] at hx
    have e0 : i - xs.length = 0 := by
      have := (List.getElem?_eq_some_iff.mp hx).1
      simp at this
      omega
    rw [e0] at hx
    have ex : V.ref t = x := Option.some.inj hx
    exact ⟨t, r, ex.symm, n, by rw [List.getElem?_append_right (by rw [← h.1]; omega), ← h.1, e0]; rfl, e⟩
def sp_rings_left : Sp := fun vs H Q _ => ∃ (g m : Addr) (gs : List (Option Nat)) (ms : List Nat), vs = [.ref g, .ref m] ∧ H g = some (.lst (gl gs)) ∧ H m = some (.lst (iv ms)) ∧ MovedOk gs ms ∧ gs.length ≤ 600 ∧
  ∀ H' q xs rs, Same H H' → H q = none → H' q = some (.lst xs) → Lsts H' q xs rs → (∀ (i : Nat) (t : Addr), xs[i]? = some (.ref t) → H t = none) → RingsOk gs ms rs → (∀ i < gs.length, i ∈ ms ∨ i ∈ rs.flatten) → Q (.ref q) H'
/-- met holds just the numbers S -/
def Met (kvs : List (Key × V)) (S : Nat → Prop) : Prop := ∀ x : Nat, (valV kvs (.inl (x : Int))).isSome = true ↔ S x
theorem Met.put {kvs : List (Key × V)} {S S' : Nat → Prop} {x : Nat} {v : V} (h : Met kvs S) (e : ∀ y, S' y ↔ S y ∨ y = x) : Met (putK kvs (.inl (x : Int)) v) S' := by
  intro y
  rw [L2.valV_put, e]
  by_cases hy : y = x
  · subst hy
    rw [if_pos rfl]
    simp
  · rw [if_neg fun q => hy (by injection q; omega)]
    rw [h y]
    simp [hy]
theorem nd_len {l : List Nat} {n : Nat} (nd : l.Nodup) (h : ∀ x ∈ l, x < n) : l.length ≤ n := by
  by_cases q : l.length ≤ n
  · exact q
  · have := (perm_of_cover (ys := List.range n) nd (fun x hx => List.mem_range.mpr (h x hx)) (by rw [List.length_range]; omega)).length_eq
    rw [List.length_range] at this
    omega
def RWp (H : Hp) (gs : List (Option Nat)) (ms : List Nat) (rs : List (List Nat)) (xs : List V) (g m F q c : Addr) (i mm : Nat) (σ : St) (H' : Hp) : Prop :=
  ∃ (cr : List Nat) (kvs' : List (Key × V)) (x : Nat), mm = gs.length - cr.length ∧ σ = [some (.ref g), some (.ref m), some (.ref F), some (.ref q), some (.int ((i : Nat) : Int)), some (.ref c), some (.int ((x : Nat) : Int))] ∧ Same H H' ∧ H' F = some (.dK kvs') ∧ kvs'.length ≤ gs.length + i * gs.length + cr.length ∧ H' q = some (.lst xs) ∧ Lsts H' q xs rs ∧
          H' c = some (.lst (iv cr)) ∧ (ms ++ rs.flatten ++ cr).Nodup ∧ (∀ y ∈ cr, y < gs.length) ∧ RChain gs cr ∧ Met kvs' (fun y => y ∈ ms ∨ y ∈ rs.flatten ∨ y ∈ cr) ∧ x < gs.length ∧ x ∉ ms ∧ ((cr = [] ∧ x = i) ∨ ∃ l, cr.getLast? = some l ∧ gs[l]? = some (some x) ∧ i ∈ cr)
section
variable {P : Program} {w : World} {K : PySem.W.Frag} {mg : Str → Option Value} {base : Heap} {a : Adr}
theorem ok_rings_left (T : Tx K mg a) : FnOk P w K mg base CX0 1 a.rings_left a.fd_rings_left ["goes", "moved"] sp_rings_left := by
  refine T.F_rings_left.ok sc_rings_left (fun vs H Q E h => ?_) (fun cdv A outer s H vs Q E hr h => ?_)
  · obtain ⟨g, m, gs, ms, rfl, _⟩ := h
    rfl
  · obtain ⟨g, m, gs, ms, rfl, hg, hm, hM, hn, k⟩ := h
    refine ⟨_, (pss_cons (ps_setDc (i := 2) (own := [("at", 6)]) rfl sc_rings_left.nd rfl rfl (sw_dict rfl rfl rfl (by decide +kernel)) (pi_list (pv 1)) (blkOk_by (N := ["goes", "moved", "met", "found", "start", "ring", "at"]) (sc := defScope s_rings_left) (own := [("at", 6)]) (by decide +kernel)) (fun _ _ _ _ _ => (pg_name (i := 6) sc_rings_left.nd rfl (Or.inl rfl))) (fun _ _ _ _ _ => pts_nil) (fun _ _ _ _ _ => (pv 6)) (fun _ _ _ _ _ => pe_bl))
          (pss_cons (ps_set (i := 3) sc_rings_left.nd rfl (Or.inl rfl) (pe_lst pa_nil))
          (pss_cons (ps_for PassesOwn.never rfl (pi_range1 (by rfl) T.n_range (pa_cons (pe_callB call_len_seq (by rfl) T.n_len (by decide +kernel) (pa_cons (pv 0) pa_nil)) pa_nil)) (pg_name (i := 4) sc_rings_left.nd rfl (Or.inl rfl))
            (pss_one (ps_if (pt_cmp (pc_dnotin (hu_of hr) (pv 4) (pv 2))) (pss_cons (ps_set (i := 5) sc_rings_left.nd rfl (Or.inl rfl) (pe_lst pa_nil))
          (pss_cons (ps_set (i := 6) sc_rings_left.nd rfl (Or.inl rfl) (pv 4))
          (pss_cons (ps_while PassesOwn.never (pt_cmp (pc_dnotin (hu_of hr) (pv 6) (pv 2))) (pss_cons (ps_dput (hu_of hr) (pv 2) (pv 6) pe_bl rfl)
          (pss_cons (ps_expr (pe_bm PySem.F.plainAttrs_list PySem.F.slot_list_append PySem.F.type_list_append mt_append (pv 5) (pa_cons (pv 6) pa_nil)))
          (pss_one (ps_set (i := 6) sc_rings_left.nd rfl (Or.inl rfl) (pe_ix ix_list (pv 0) (pv 6) (fun _ _ => rfl)))))))
          (pss_one (ps_expr (pe_bm PySem.F.plainAttrs_list PySem.F.slot_list_append PySem.F.type_list_append mt_append (pv 3) (pa_cons (pv 5) pa_nil))))))) pss_nil)))
          (pss_one (ps_ret (pv 3)))))), ?_⟩
    refine ⟨_, rfl, m, rfl, ⟨_, SqL.of hm⟩, fun F hF => ?_⟩
    have hml := nd_len hM.nd hM.lt
    refine dc_mut (walk_list (xs := iv ms)) (fun i kvs H' => Same H H' ∧ Met kvs fun x => x ∈ ms.take i) (by rw [iv_len]; omega) ⟨sm_new hF, fun x => by rw [valV_nil]; simp⟩ (fun i kvs H' z => SqL.of (z.1 _ _ hm)) ?_ ?_ ?_
    · rintro i kvs H' ks zs ⟨g1, g2⟩ hy
      exact ⟨sm_mut g1 hF, g2⟩
    · rintro i x H2 H3 kvs kk hi hkl ⟨s2, hk⟩ hF2 ⟨rfl, hx⟩ hkk
      obtain ⟨y, hy, rfl⟩ := iv_get hx
      refine ⟨rfl, _, rfl, hkk (.inl (y : Int)) _ _ hF2 ⟨s2, hk.put fun z => ?_⟩⟩
      rw [List.take_add_one, hy]
      simp
    rintro kvs0 H1 hF1 hkl0 ⟨s1, hk0⟩
    rw [iv_len, List.take_length] at hk0
    rw [iv_len] at hkl0
    refine ⟨Nat.zero_le _, fun q hq => ?_⟩
    have hq0 : H q = none := s1.free hq
    have Fq : F ≠ q := ne_of_none hF1 hq
    have s2 := sm_upd (o := .lst []) s1 hq
    refine ⟨_, rfl, g, _, rfl, .inl (SqL.of (s2 _ _ hg)), _, rfl, by rw [gl_len]; omega, by rw [gl_len]; omega, ?_⟩
    have en : (((gl gs).length : Int)).toNat = gs.length := by rw [gl_len]; omega
    rw [en]
    refine for_it walk_range (fun i σ H' => (∃ v4 v5 v6, σ = [some (.ref g), some (.ref m), some (.ref F), some (.ref q), v4, v5, v6]) ∧ Same H H' ∧ ∃ kvs xs rs, H' F = some (.dK kvs) ∧ kvs.length ≤ gs.length + i * gs.length ∧ H' q = some (.lst xs) ∧ xs.length ≤ i ∧ Lsts H' q xs rs ∧ (∀ (j : Nat) (t : Addr), xs[j]? = some (.ref t) → H t = none) ∧ RingsOk gs ms rs ∧ (∀ x < i, x ∈ ms ∨ x ∈ rs.flatten) ∧ Met kvs fun x => x ∈ ms ∨ x ∈ rs.flatten)
      ⟨⟨none, none, none, rfl⟩, s2, kvs0, [], [], by rw [upd_ne Fq]; exact hF1, by omega, upd_same, Nat.le_refl _, ⟨rfl, fun i x e => by simp at e⟩, fun j t e => by simp at e, ⟨by simpa using hM.nd, by simp, by simp⟩, fun x h => by omega, fun x => by rw [hk0 x]; simp⟩ (fun _ _ _ _ _ => trivial) ?_ ?_
    · rintro i v σ H2 H3 hi ⟨⟨v4, v5, v6, rfl⟩, s2, kvs, xs, rs, hF2, hkl, hq2, hxl, hL, hfr, hR, hcov, hmet⟩ ⟨rfl, rfl⟩
      have ei : ((0 : Int) + (i : Nat)) = ((i : Nat) : Int) := by omega
      show gName 4 (V.int ((0 : Int) + (i : Nat))) _ _ _
      rw [ei]
      refine ⟨_, rfl, _, rfl, F, _, rfl, .inl ⟨kvs, .inl (i : Int), .inl hF2, rfl, rfl⟩, _, rfl, ?_⟩
      by_cases him : (valV kvs (.inl (i : Int))).isSome = true
      · rw [him]
        refine iteF ⟨⟨_, _, _, rfl⟩, s2, kvs, xs, rs, hF2, by rw [Nat.succ_mul]; omega, hq2, by omega, hL, hfr, hR, fun x hx => ?_, hmet⟩
        by_cases e : x = i
        · rw [e]; exact (hmet i).mp him
        · exact hcov x (by omega)
      · have hf : (valV kvs (.inl (i : Int))).isSome = false := by simpa using him
        rw [hf]
        refine iteT ⟨Nat.zero_le _, fun c hc => ⟨_, rfl, ?_⟩⟩
        have nmet : ¬ (i ∈ ms ∨ i ∈ rs.flatten) := fun h => him ((hmet i).mpr h)
        have cF : c ≠ F := Ne.symm (ne_of_none hF2 hc)
        have cq : c ≠ q := Ne.symm (ne_of_none hq2 hc)
        have hc0 : H c = none := s2.free hc
        have s3 := sm_upd (o := .lst []) s2 hc
        have hL3 : Lsts (upd H3 c (.lst [])) q xs rs := hL.keep fun b o _ e _ => (sm_new hc) _ _ e
        -- the lists told so far are not c
        have nc : ∀ (j : Nat) (t : Addr), xs[j]? = some (.ref t) → t ≠ c := by
          intro j t e
          obtain ⟨t', r', h1, _, _, h4⟩ := hL.2 j _ e
          obtain rfl : t = t' := by injection h1
          exact ne_of_none h4 hc
        refine ⟨RWp H gs ms rs xs g m F q c i,
          ⟨_, [], kvs, i, rfl, rfl, s3, by rw [upd_ne (Ne.symm cF)]; exact hF2, by simpa using hkl, by rw [upd_ne (Ne.symm cq)]; exact hq2, hL3, upd_same, by rw [List.append_nil]; exact hR.nd, by simp, fun k a b e => by simp at e, fun y => by rw [hmet y]; simp, hi, fun h => nmet (.inl h), .inl ⟨rfl, rfl⟩⟩, ?_⟩
        rintro mm σ H4 ⟨cr, kvs', x, rfl, rfl, s4, hF4, hkl4, hq4, hL4, hc4, nd, hlt, hch, hmet4, hx, hxn, hor⟩
        refine ⟨_, rfl, _, rfl, F, _, rfl, .inl ⟨kvs', .inl (x : Int), .inl hF4, rfl, rfl⟩, _, rfl, ?_⟩
        have hcl : cr.length ≤ gs.length := nd_len (List.nodup_append.mp nd).2.1 hlt
        have hmul : i * gs.length ≤ 360000 := Nat.le_trans (Nat.mul_le_mul (Nat.le_of_lt hi) (Nat.le_refl _)) (Nat.le_trans (Nat.mul_le_mul hn hn) (by decide))
        by_cases hxm : (valV kvs' (.inl (x : Int))).isSome = true
        · rw [hxm]
          refine iteF ?_
          have hmem := (hmet4 x).mp hxm
          rcases hor with ⟨e1, e2⟩ | ⟨l, hl, hgl, hic⟩
          · exfalso
            subst e1 e2
            apply nmet
            rcases hmem with q | q | q
            · exact .inl q
            · exact .inr q
            · simp at q
          · have ring := ring_close hM hR nd hch hl hgl hmem (hlt l (List.mem_of_getLast? hl))
            refine ⟨_, rfl, .inl ⟨rfl, _, SqL.of hq4⟩, _, rfl, q, _, _, rfl, rfl, hq4, bigL (by omega), ?_⟩
            have sN : ∀ b o, b ≠ q → H4 b = some o → (∃ ys, o = .lst ys) → upd H4 q (.lst (xs ++ [.ref c])) b = some o := fun b o n e _ => by rw [upd_ne n]; exact e
            refine ⟨⟨_, _, _, rfl⟩, sm_mut s4 hq0, kvs', xs ++ [.ref c], rs ++ [cr], by rw [upd_ne Fq]; exact hF4, ?_, upd_same, by rw [List.length_append]; simp; omega, (hL4.keep sN).snoc (by rw [upd_ne cq]; exact hc4) cq, ?_, ?_, ?_, ?_⟩
            · rw [Nat.succ_mul]; omega
            · intro j t e
              by_cases hj : j < xs.length
              · rw [List.getElem?_append_left hj] at e
                exact hfr j t e
              · rw [List.getElem?_append_right (by omega)] at e
                have e0 : j - xs.length = 0 := by
                  have := (List.getElem?_eq_some_iff.mp e).1
                  simp at this
                  omega
                rw [e0] at e
                have : c = t := by injection (Option.some.inj e)
                rw [← this]
                exact hc0
            · refine ⟨?_, ?_, ?_⟩
              · rw [List.flatten_append, ← List.append_assoc]
                simpa using nd
              · intro y hy
                rw [List.flatten_append, List.mem_append] at hy
                rcases hy with hy | hy
                · exact hR.lt y hy
                · exact hlt y (by simpa using hy)
              · intro r hr'
                rcases List.mem_append.mp hr' with e | e
                · exact hR.ring r e
                · have : r = cr := by simpa using e
                  rw [this]; exact ring
            · intro y hy
              rw [List.flatten_append, List.mem_append]
              by_cases e : y = i
              · rw [e]
                exact .inr (.inr (by simpa using hic))
              · rcases hcov y (by omega) with h | h
                · exact .inl h
                · exact .inr (.inl h)
            · intro y
              rw [hmet4 y]
              simp
        · have hf' : (valV kvs' (.inl (x : Int))).isSome = false := by simpa using hxm
          rw [hf']
          have xm : ¬ (x ∈ ms ∨ x ∈ rs.flatten ∨ x ∈ cr) := fun h => hxm ((hmet4 x).mpr h)
          refine iteT ⟨RWp H gs ms rs xs g m F q c i (gs.length - (cr.length + 1)), fun σ' H' p => ⟨gs.length - (cr.length + 1), ?_, p⟩, ?_⟩
          · have hl1 : cr.length + 1 ≤ gs.length := by
              have := nd_len (l := cr ++ [x]) (n := gs.length) (by
                rw [List.nodup_append]
                refine ⟨(List.nodup_append.mp nd).2.1, by simp, fun a ha b hb e => xm (.inr (.inr ?_))⟩
                have : b = x := by simpa using hb
                rw [← this, ← e]
                exact ha) (by
                intro y hy
                rcases List.mem_append.mp hy with e | e
                · exact hlt y e
                · have : y = x := by simpa using e
                  rw [this]; exact hx)
              rw [List.length_append] at this
              exact this
            omega
          obtain ⟨j, hj, hjl, hjn⟩ := hM.total hx hxn
          refine ⟨_, rfl, _, rfl, F, _, rfl, .inl ⟨kvs', .inl (x : Int), hF4, rfl, bigL (by omega), rfl⟩, ?_⟩
          have hc5 : upd H4 F (.dK (putK kvs' (.inl (x : Int)) (.bl true))) c = some (.lst (iv cr)) := by rw [upd_ne cF]; exact hc4
          refine ⟨_, rfl, .inl ⟨rfl, _, SqL.of hc5⟩, _, rfl, c, _, _, rfl, rfl, hc5, bigL (by rw [iv_len]; omega), ?_⟩
          have s6 := sm_mut (o := .lst (iv cr ++ [.int ((x : Nat) : Int)])) (sm_mut (o := .dK (putK kvs' (.inl (x : Int)) (.bl true))) s4 hF) hc0
          refine ⟨_, rfl, _, rfl, g, _, (x : Int), _, rfl, rfl, SqL.of (s6 _ _ hg), atI_nat (gl_at hj), ?_⟩
          refine ⟨cr ++ [x], putK kvs' (.inl (x : Int)) (.bl true), j, by rw [List.length_append]; rfl, rfl, s6, by rw [upd_ne (Ne.symm cF)]; exact upd_same, ?_, by rw [upd_ne (Ne.symm cq), upd_ne (Ne.symm Fq)]; exact hq4, ?_, ?_, ?_, ?_, ?_, ?_, hjl, hjn, .inr ⟨x, by simp, hj, ?_⟩⟩
          · have := @putK_len kvs' (.inl (x : Int)) (.bl true)
            rw [List.length_append]
            simp
            omega
          · refine ⟨hL4.1, fun j' y hy => ?_⟩
            obtain ⟨t, r, h1, h2, h3, h4⟩ := hL4.2 j' y hy
            have ntc : t ≠ c := nc j' t (by rw [← h1]; exact hy)
            exact ⟨t, r, h1, h2, h3, by rw [upd_ne ntc, upd_ne (ne_of h4 hF4 (by intro z; cases z))]; exact h4⟩
          · rw [upd_same, iv_eq, iv_eq, List.map_append]
            rfl
          · rw [← List.append_assoc, List.nodup_append]
            refine ⟨nd, by simp, fun a' ha b hb e => xm ?_⟩
            have : b = x := by simpa using hb
            rw [this] at e
            rw [← e]
            rcases List.mem_append.mp ha with q | q
            · rcases List.mem_append.mp q with q | q
              · exact .inl q
              · exact .inr (.inl q)
            · exact .inr (.inr q)
          · intro y hy
            rcases List.mem_append.mp hy with e | e
            · exact hlt y e
            · have : y = x := by simpa using e
              rw [this]; exact hx
          · intro k' a' b' h1' h2'
            by_cases hk1 : k' + 1 < cr.length
            · rw [List.getElem?_append_left (by omega)] at h1'
              rw [List.getElem?_append_left hk1] at h2'
              exact hch k' a' b' h1' h2'
            · have hkl1 : k' + 1 = cr.length := by
                have := (List.getElem?_eq_some_iff.mp h2').1
                rw [List.length_append] at this
                simp at this
                omega
              rw [List.getElem?_append_left (by omega)] at h1'
              rw [List.getElem?_append_right (by omega), hkl1, Nat.sub_self] at h2'
              have ex : x = b' := Option.some.inj h2'
              subst ex
              rcases hor with ⟨e1, _⟩ | ⟨l, hl, hgl, _⟩
              · subst e1
                simp at hkl1
              · rw [List.getLast?_eq_getElem?] at hl
                have : cr.length - 1 = k' := by omega
                rw [this, h1'] at hl
                obtain rfl := Option.some.inj hl
                exact hgl
          · refine hmet4.put fun y => ?_
            rw [List.mem_append]
            constructor
            · rintro (h | h | h | h)
              · exact .inl (.inl h)
              · exact .inl (.inr (.inl h))
              · exact .inl (.inr (.inr h))
              · exact .inr (by simpa using h)
            · rintro ((h | h | h) | h)
              · exact .inl h
              · exact .inr (.inl h)
              · exact .inr (.inr (.inl h))
              · exact .inr (.inr (.inr (by simpa using h)))
          · rcases hor with ⟨e1, e2⟩ | ⟨l, _, _, hic⟩
            · rw [e2]; simp
            · exact List.mem_append_left _ hic
    · rintro σ H2 ⟨⟨v4, v5, v6, rfl⟩, s2, kvs, xs, rs, hF2, hkl, hq2, hxl, hL, hfr, hR, hcov, hmet⟩
      exact ⟨_, rfl, k H2 q xs rs s2 hq0 hq2 hL hfr hR hcov⟩
end
end VG

set_option Elab.async false
set_option linter.all false
set_option maxRecDepth 100000
set_option maxHeartbeats 4000000
namespace VG
open PySem PySem.Spec PyProof.Rows L2
abbrev ringScope : Scope := { kind := .function, names := [(".0", .local), ("ring", .local), ("places", .cell)], isGenerator := false, isCoroutine := false }
def StAt (ls : List Nat) (H : Hp) (v : V) : Step → Prop
  | .mv i => ∃ (t tp : Addr) (p : List Nat), v = .ref t ∧ H t = some (.tup [.str (Str.ofString "move"), .ref tp]) ∧ (places ls)[i]? = some p ∧ H tp = some (.tup (iv p))
  | .hold h i => ∃ (t tp : Addr) (p : List Nat), v = .ref t ∧ H t = some (.tup [.str (Str.ofString "hold"), .int (h : Int), .ref tp]) ∧ (places ls)[i]? = some p ∧ H tp = some (.tup (iv p))
  | .give h i => ∃ (t tp : Addr) (p : List Nat), v = .ref t ∧ H t = some (.tup [.str (Str.ofString "give"), .int (h : Int), .ref tp]) ∧ (places ls)[i]? = some p ∧ H tp = some (.tup (iv p))
theorem StAt.keep {ls : List Nat} {H H' : Hp} {v : V} {st : Step} (h : StAt ls H v st) (k : ∀ b ys, H b = some (.tup ys) → H' b = some (.tup ys)) : StAt ls H' v st := by
  cases st with
  | mv i => obtain ⟨t, tp, p, h1, h2, h3, h4⟩ := h; exact ⟨t, tp, p, h1, k _ _ h2, h3, k _ _ h4⟩
  | hold h0 i => obtain ⟨t, tp, p, h1, h2, h3, h4⟩ := h; exact ⟨t, tp, p, h1, k _ _ h2, h3, k _ _ h4⟩
  | give h0 i => obtain ⟨t, tp, p, h1, h2, h3, h4⟩ := h; exact ⟨t, tp, p, h1, k _ _ h2, h3, k _ _ h4⟩
def Stps (ls : List Nat) (H : Hp) (sv : List V) (sts : List Step) : Prop := sv.length = sts.length ∧ ∀ (i : Nat) (x : V) (st : Step), sv[i]? = some x → sts[i]? = some st → StAt ls H x st
theorem Stps.keep {ls : List Nat} {H H' : Hp} {sv : List V} {sts : List Step} (h : Stps ls H sv sts) (k : ∀ b ys, H b = some (.tup ys) → H' b = some (.tup ys)) : Stps ls H' sv sts := ⟨h.1, fun i x st h1 h2 => (h.2 i x st h1 h2).keep k⟩
theorem Stps.append {ls : List Nat} {H : Hp} {sv sv2 : List V} {sts sts2 : List Step} (h : Stps ls H sv sts) (h2 : Stps ls H sv2 sts2) : Stps ls H (sv ++ sv2) (sts ++ sts2) := by
  refine ⟨by rw [List.length_append, List.length_append, h.1, h2.1], fun i x st hx hs => ?_⟩
  by_cases hi : i < sv.length
  · rw [List.getElem?_append_left hi] at hx
    rw [List.getElem?_append_left (by rw [← h.1]; exact hi)] at hs
    exact h.2 i x st hx hs
  · rw [List.getElem?_append_right (by omega)] at hx
    rw [List.getElem?_append_right (by rw [← h.1]; omega), ← h.1] at hs
    exact h2.2 _ x st hx hs
theorem Stps.one {ls : List Nat} {H : Hp} {x : V} {st : Step} (h : StAt ls H x st) : Stps ls H [x] [st] := by
  refine ⟨rfl, fun i y st' h1 h2 => ?_⟩
  have hi : i = 0 := by
    have := (List.getElem?_eq_some_iff.mp h1).1
    simp at this
    omega
  subst hi
  obtain rfl := Option.some.inj h1
  obtain rfl := Option.some.inj h2
  exact h
theorem Stps.nil {ls : List Nat} {H : Hp} : Stps ls H [] [] := ⟨rfl, fun i x st h => by simp at h⟩
theorem ringsSteps_snoc (r : List Nat) : ∀ (xs : List (List Nat)) (h : Nat), ringsSteps h (xs ++ [r]) = ringsSteps h xs ++ ringSteps (h + xs.length) r
  | [], h => by
    show ringSteps h r ++ [] = [] ++ ringSteps (h + 0) r
    simp
  | x :: xs, h => by
    show ringSteps h x ++ ringsSteps (h + 1) (xs ++ [r]) = (ringSteps h x ++ ringsSteps (h + 1) xs) ++ ringSteps (h + (x :: xs).length) r
    rw [ringsSteps_snoc r xs (h + 1), List.append_assoc]
    congr 3
    simp
    omega
theorem rings_take {rs : List (List Nat)} {i : Nat} {r : List Nat} (h : rs[i]? = some r) : ringsSteps 0 (rs.take (i + 1)) = ringsSteps 0 (rs.take i) ++ ringSteps i r := by
  have hi := (List.getElem?_eq_some_iff.mp h).1
  rw [List.take_add_one, h]
  show ringsSteps 0 (rs.take i ++ [r]) = _
  rw [ringsSteps_snoc, List.length_take, Nat.min_eq_left (Nat.le_of_lt hi), Nat.zero_add]
theorem ringSteps_len (h : Nat) {r : List Nat} (hr : r ≠ []) : (ringSteps h r).length = r.length + 1 := by
  cases r with
  | nil => exact absurd rfl hr
  | cons x o => simp [ringSteps]
def sp_way_of (a : Adr) : Sp := fun vs H Q _ => ∃ (v s r : Addr) (ls : List Nat) (b : Int) (ss : List Int) (lo : List Nat) (b2 : Int) (ss2 : List Int) (pl : Addr) (ps : List (Addr × Addr)) (w : Nat) (cs : List Int),
  vs = [.ref v, .ref s] ∧ ViewAt a H v r ls b ss ∧ VOk cs.length ls b ss ∧ ViewAt a H s r lo b2 ss2 ∧ lo.length = ss2.length ∧ Fit ls lo ∧ VOk cs.length ls b2 (wide ls lo ss2) ∧ (cells ls ss b).Nodup ∧ RoomAt a H r pl ps w cs ∧
  ∀ H' (t sl o : Addr) sv gs ms rs, Same H H' → H' t = some (.tup [.str (Str.ofString "way"), .ref sl, .ref o]) → H sl = none → H' sl = some (.lst sv) → Stps ls H' sv (plan ms rs) → Goes (cells ls ss b) (cells ls (wide ls lo ss2) b2) gs → MovedOk gs ms → RingsOk gs ms rs → (∀ i < gs.length, i ∈ ms ∨ i ∈ rs.flatten) → Q (.ref t) H'
theorem rings_count {gs : List (Option Nat)} : ∀ {rs : List (List Nat)}, (∀ r ∈ rs, Ring gs r) → rs.length ≤ rs.flatten.length
  | [], _ => Nat.zero_le _
  | r :: rs, h => by
    have ih := rings_count (gs := gs) (rs := rs) fun x hx => h x (by simp [hx])
    have hr : r ≠ [] := by
      intro e
      obtain ⟨_, _, _, hh, _⟩ := h r (by simp)
      rw [e] at hh
      cases hh
    have := List.length_pos_iff.mpr hr
    rw [List.flatten_cons, List.length_append, List.length_cons]
    omega
section
variable {P : Program} {w : World} {K : PySem.W.Frag} {mg : Str → Option Value} {base : Heap} {a : Adr}
theorem ok_way_of (T : Tx K mg a) : FnOk P w K mg base CX0 8 a.way_of a.fd_way_of ["target", "source"] (sp_way_of a) := by
  have G_widened := ok_widened (P := P) (w := w) (base := base) T
  have G_View_sides := ok_View_sides (P := P) (w := w) (base := base) T
  have G_need_unlike := ok_need_unlike (P := P) (w := w) (base := base) T
  have G_places_of := ok_places_of (P := P) (w := w) (base := base) T
  have G_readers := ok_readers (P := P) (w := w) (base := base) T
  have G_moved_first := ok_moved_first (P := P) (w := w) (base := base) T
  have G_rings_left := ok_rings_left (P := P) (w := w) (base := base) T
  refine T.F_way_of.ok sc_way_of (fun vs H Q E h => ?_) (fun cdv A outer s H vs Q E hr h => ?_)
  · obtain ⟨v, sv, r, ls, b, ss, lo, b2, ss2, pl, ps, wd, cs, rfl, _⟩ := h
    rfl
  · obtain ⟨v, sv, r, ls, b, ss, lo, b2, ss2, pl, ps, wd, cs, rfl, hV, hO, hV2, hlo, hF, hO2, hN, R, k⟩ := h
    refine ⟨_, (pss_cons (ps_set (i := 2) sc_way_of.nd rfl (Or.inl rfl) (pe_call G_widened (hr.mono (by decide)) rfl T.m_widened T.F_widened.kp (b_widened T) .nil pass0 (pa_cons (pv 1) (pa_cons (pe_meth0 (pv 0) T.cl_View T.me_View_sides G_View_sides (hr.mono (by decide)) (b_View_sides T) .nil pass0) pa_nil))))
          (pss_cons (ps_expr (pe_call G_need_unlike (hr.mono (by decide)) rfl T.m_need_unlike T.F_need_unlike.kp (b_need_unlike T) .nil pass0 (pa_cons (pv 0) pa_nil)))
          (pss_cons (ps_set (i := 3) sc_way_of.nd rfl (Or.inr rfl) (pe_call G_places_of (hr.mono (by decide)) rfl T.m_places_of T.F_places_of.kp (b_places_of T) .nil pass0 (pa_cons (pe_meth0 (pv 0) T.cl_View T.me_View_sides G_View_sides (hr.mono (by decide)) (b_View_sides T) .nil pass0) pa_nil)))
          (pss_cons (ps_set (i := 4) sc_way_of.nd rfl (Or.inl rfl) (pe_call G_readers (hr.mono (by decide)) rfl T.m_readers T.F_readers.kp (b_readers T) .nil pass0 (pa_cons (pv 0) (pa_cons (pv 2) (pa_cons (pv 3) pa_nil)))))
          (pss_cons (ps_set (i := 5) sc_way_of.nd rfl (Or.inl rfl) (pe_call G_moved_first (hr.mono (by decide)) rfl T.m_moved_first T.F_moved_first.kp (b_moved_first T) .nil pass0 (pa_cons (pv 4) pa_nil)))
          (pss_cons (ps_setLc (i := 6) (own := [("at", 11)]) rfl sc_way_of.nd rfl rfl (sw_true rfl rfl rfl (by decide +kernel)) (pi_list (pv 5)) (blkOk_by (N := ["target", "source", "laid", "places", "goes", "moved", "steps", "rings", "hand", "first", "others", "at", "ring"]) (sc := defScope s_way_of) (own := [("at", 11)]) (by decide +kernel)) (fun _ _ _ _ _ => (pg_name (i := 11) sc_way_of.nd rfl (Or.inl rfl))) (fun _ _ _ _ _ => pts_nil) (fun _ _ _ _ _ => (pe_tup (pa_cons pe_str (pa_cons (pe_ix (r := rIxL K) ix_list (pv 3) (pv 11) (fun _ _ => rfl)) pa_nil)))))
          (pss_cons (ps_set (i := 7) sc_way_of.nd rfl (Or.inl rfl) (pe_call G_rings_left (hr.mono (by decide)) rfl T.m_rings_left T.F_rings_left.kp (b_rings_left T) .nil pass0 (pa_cons (pv 4) (pa_cons (pv 5) pa_nil))))
          (pss_cons (ps_for PassesOwn.never rfl (pi_enum (by rfl) T.n_enumerate (pa_cons (pv 7) pa_nil)) (pg_tup rfl (pgs_cons (pg_name (i := 8) sc_way_of.nd rfl (Or.inl rfl)) (pgs_cons (pg_star rfl (pg_name (i := 9) sc_way_of.nd rfl (Or.inl rfl)) (pg_name (i := 10) sc_way_of.nd rfl (Or.inl rfl))) pgs_nil)))
            (pss_cons (ps_expr (pe_bm PySem.F.plainAttrs_list PySem.F.slot_list_append PySem.F.type_list_append mt_append (pv 6) (pa_cons (pe_tup (pa_cons pe_str (pa_cons (pv 8) (pa_cons (pe_ix ix_list (pv 3) (pv 9) (fun _ _ => rfl)) pa_nil)))) pa_nil)))
          (pss_cons (ps_expr (pe_bm PySem.F.plainAttrs_list PySem.F.slot_list_extend PySem.F.type_list_extend mt_extend (pv 6) (pa_cons (pe_lc (own := [("at", 11)]) rfl sc_way_of.nd (pi_list (pv 10)) (blkOk_by (N := ["target", "source", "laid", "places", "goes", "moved", "steps", "rings", "hand", "first", "others", "at", "ring"]) (sc := defScope s_way_of) (own := [("at", 11)]) (by decide +kernel)) (fun _ _ _ _ _ => (pg_name (i := 11) sc_way_of.nd rfl (Or.inl rfl))) (fun _ _ _ _ _ => pts_nil) (fun _ _ _ _ _ => (pe_tup (pa_cons pe_str (pa_cons (pe_ix (r := rIxL K) ix_list (pv 3) (pv 11) (fun _ _ => rfl)) pa_nil))))) pa_nil)))
          (pss_one (ps_expr (pe_bm PySem.F.plainAttrs_list PySem.F.slot_list_append PySem.F.type_list_append mt_append (pv 6) (pa_cons (pe_tup (pa_cons pe_str (pa_cons (pv 8) (pa_cons (pe_ix ix_list (pv 3) (pv 9) (fun _ _ => rfl)) pa_nil)))) pa_nil)))))))
          (pss_one (ps_ret (pe_tup (pa_cons pe_str (pa_cons (pv 6) (pa_cons (pe_lc (own := [("ring", 12)]) rfl sc_way_of.nd (pi_list (pv 7)) (blkOk_by (N := ["target", "source", "laid", "places", "goes", "moved", "steps", "rings", "hand", "first", "others", "at", "ring"]) (sc := defScope s_way_of) (own := [("ring", 12)]) (by decide +kernel)) (fun _ _ _ _ _ => (pg_name (i := 12) sc_way_of.nd rfl (Or.inl rfl))) (fun _ _ _ _ _ => pts_nil) (fun _ _ _ _ _ => (pe_lc (own := [("at", 11)]) rfl sc_way_of.nd (show PI _ _ _ (iList K _) from pi_list (pv 12)) (blkOk_by (N := ["target", "source", "laid", "places", "goes", "moved", "steps", "rings", "hand", "first", "others", "at", "ring"]) (sc := ringScope) (own := [("at", 11)]) (by decide +kernel)) (fun _ _ _ _ _ => (pg_name (i := 11) sc_way_of.nd rfl (Or.inl rfl))) (fun _ _ _ _ _ => pts_nil) (fun _ _ _ _ _ => (pe_ix (r := rIxL K) ix_list (pv 3) (pv 11) (fun _ _ => rfl)))))) pa_nil)))))))))))))), ?_⟩
    obtain ⟨dx, tl, ts', h1, h2, h3⟩ := id hV
    have hbig := hO.big
    refine ⟨_, rfl, _, rfl, v, dx, _, rfl, h1, rfl, v, r, ls, b, ss, rfl, hV, fun tq htq => ?_⟩
    refine ⟨sv, r, tq, lo, b2, ss2, ls, pl, ps, wd, cs, rfl, hV2, hlo, R, htq, hO.2.1, hF, fun H1 lv s1 fl V1 => ?_⟩
    refine ⟨_, rfl, v, r, ls, b, ss, cs.length, rfl, hV.same s1, hO, hN, fun H2 s2 => ?_⟩
    have s12 := s1.trans s2
    refine ⟨_, rfl, v, dx, _, rfl, s12 _ _ h1, rfl, v, r, ls, b, ss, rfl, hV.same s12, fun tq2 htq2 => ⟨tq2, ls, rfl, htq2, hO.2.1, fun H3 q xs s3 fq hq tq3 => ?_⟩⟩
    have s13 := s12.trans s3
    refine ⟨_, rfl, _, rfl, _, rfl, v, lv, r, q, ls, b, tb ls b2, ss, ts ls (wide ls lo ss2), pl, ps, wd, cs, xs, rfl, hV.same s13, hO, (V1.same s2).same s3, hO2.told, hN, R.same s13, hq, tq3, fun H4 g gs s4 fg hG hg => ?_⟩
    rw [cells_told hO2.1] at hG
    have hlen : gs.length = (cells ls ss b).length := hG.1
    have hlenS : (cells ls ss b).length = (cells ls (wide ls lo ss2) b2).length := by rw [cells_length b hO.1, cells_length b2 hO2.1]
    have s14 := s13.trans s4
    refine ⟨_, rfl, g, gs, rfl, hg, hG.ptr hlenS, by omega, fun H5 m ms s5 fm hM hm => ?_⟩
    have s15 := s14.trans s5
    have tq5 := (tq3.same s4).same s5
    have hq5 := s5 _ _ (s4 _ _ hq)
    have hml := nd_len hM.nd hM.lt
    have hplen : (places ls).length = (cells ls ss b).length := by rw [places_length, cells_length b hO.1]
    -- the place of a number
    have pla : ∀ i, i < gs.length → ∃ tp p, xs[i]? = some (.ref tp) ∧ (places ls)[i]? = some p ∧ H5 tp = some (.tup (iv p)) := by
      intro i hi
      obtain ⟨p, hp⟩ : ∃ p, (places ls)[i]? = some p := ⟨_, List.getElem?_eq_getElem (by omega)⟩
      obtain ⟨tp, e1, e2⟩ := tq5.get hp
      exact ⟨tp, p, e1, hp, e2⟩
    refine ⟨_, rfl, m, rfl, ⟨_, SqL.of hm⟩, fun L hL => ?_⟩
    have fL : H L = none := s15.free hL
    refine lc_mut (walk_list (xs := iv ms)) (fun i acc H' => Same H5 H' ∧ Stps ls H' acc ((ms.take i).map Step.mv)) (by rw [iv_len]; omega) ⟨sm_new hL, Stps.nil⟩ (fun i acc H' z => SqL.of (z.1 _ _ hm)) ?_ ?_ ?_
    · rintro i acc H' ys zs ⟨g1, g2⟩ hy
      exact ⟨sm_mut g1 hL, g2.keep fun c zs e => by rw [upd_ne (ne_of e hy (by intro z; cases z))]; exact e⟩
    · rintro i x H6 H7 acc k' hi hacl ⟨s6, hst⟩ hacc ⟨rfl, hx⟩ hkk
      obtain ⟨y, hy, rfl⟩ := iv_get hx
      obtain ⟨tp, p, e1, e2, e3⟩ := pla y (hM.lt y (List.mem_of_getElem? hy))
      refine ⟨rfl, _, rfl, _, rfl, q, xs, (y : Int), _, rfl, rfl, SqL.of (s6 _ _ hq5), atI_nat e1, by show 2 ≤ sizeLine; decide, fun t ht => ?_⟩
      have st := sm_new (o := .tup [.str (Str.ofString "move"), .ref tp]) ht
      refine hkk _ _ (st _ _ hacc) ⟨s6.trans st, ?_⟩
      rw [take_snoc hy, List.map_append]
      exact (hst.keep fun c zs e => st _ _ e).append (Stps.one ⟨t, tp, p, rfl, upd_same, e2, (s6.trans st) _ _ e3⟩)
    rintro acc H6 hacc hacl ⟨s6, hst⟩
    rw [iv_len, List.take_length] at hst
    rw [iv_len] at hacl
    have hg6 := s6 _ _ (s5 _ _ hg)
    have hm6 := s6 _ _ hm
    refine ⟨_, rfl, _, rfl, g, m, gs, ms, rfl, hg6, hm6, hM, by omega, fun H7 q2 ys rs s7 fq2 hq2 hLs hfr hR hcov => ?_⟩
    have s17 := s15.trans (s6.trans s7)
    have hacc7 := s7 _ _ hacc
    have q2L : q2 ≠ L := fun e => by rw [e, hacc] at fq2; cases fq2
    have hq7 := s7 _ _ (s6 _ _ hq5)
    have qL : q ≠ L := fun e => by rw [e, hL] at hq5; cases hq5
    have hrl := nd_len (n := gs.length) hR.nd (fun x hx => by
      rcases List.mem_append.mp hx with e | e
      · exact hM.lt x e
      · exact hR.lt x e)
    rw [List.length_append] at hrl
    refine ⟨_, rfl, q2, ys, rfl, SqL.of hq2, for_it walk_enum (fun i σ H' => (∃ v8 v9 v10, σ = [some (.ref v), some (.ref sv), some (.ref lv), some (.ref q), some (.ref g), some (.ref m), some (.ref L), some (.ref q2), v8, v9, v10, none, none]) ∧ But L H7 H' ∧ ∃ acc', H' L = some (.lst acc') ∧ acc'.length ≤ 600 + 700 * i ∧ Stps ls H' acc' (ms.map Step.mv ++ ringsSteps 0 (rs.take i))) ⟨⟨none, none, none, rfl⟩, fun _ _ _ e => e, acc, hacc7, by omega, ?_⟩ (fun i σ H' _ z => SqL.of (z.2.1 _ _ q2L hq2)) ?_ ?_⟩
    · rw [List.take_zero]
      show Stps ls H7 acc (ms.map Step.mv ++ [])
      rw [List.append_nil]
      exact hst.keep fun c zs e => s7 _ _ e
    · rintro i x σ H8 H9 hi ⟨⟨v8, v9, v10, rfl⟩, k8, acc', hacc8, hal, hst8⟩ ⟨T', x1, x2, rfl, hT, rfl, e1, e2⟩
      obtain rfl : x1 = .int (i : Nat) := (Option.some.inj e1).symm
      obtain ⟨t, rr, rfl, _, hri, ht7⟩ := hLs.2 i x2 e2
      have tL : t ≠ L := fun e => by
        have := hfr i t e2
        rw [e, hacc] at this
        cases this
      have hring := hR.ring rr (List.mem_of_getElem? hri)
      have hrin : ∀ y ∈ rr, y < gs.length := fun y hy => hR.lt y (List.mem_flatten.mpr ⟨rr, List.mem_of_getElem? hri, hy⟩)
      have hrl2 : rr.length ≤ gs.length := by
        have := (List.sublist_flatten_of_mem (List.mem_of_getElem? hri)).length_le
        omega
      match rr, hring, hri, ht7, hrin, hrl2 with
      | [], hring, _, _, _, _ =>
        obtain ⟨_, _, _, hh, _⟩ := hring
        cases hh
      | r0 :: o, hring, hri, ht7, hrin, hrl2 =>
      rw [List.length_cons] at hrl2
      have ht8 := k8 t _ tL ht7
      have sT := sm_new (o := .tup [.int (i : Nat), .ref t]) hT
      have hol : (iv o).length ≤ 10000 := by rw [iv_len]; omega
      refine ⟨T', [.int (i : Nat), .ref t], rfl, SqT.of upd_same, rfl, .int (i : Nat), [.ref t], rfl, .ref t, [], rfl, t, .int (r0 : Int), iv o, rfl, SqL.of (sT _ _ ht8), hol, fun D hD => ⟨rfl, ?_⟩⟩
      have s9 := sm_upd (o := .lst (iv o)) sT hD
      obtain ⟨tp0, p0, f1, f2, f3⟩ := pla r0 (hrin r0 (by simp))
      have k79 : But L H7 (upd (upd H8 T' (.tup [.int (i : Nat), .ref t])) D (.lst (iv o))) := fun c z n e => s9 _ _ (k8 c z n e)
      have hq9 := k79 q _ qL hq7
      refine ⟨_, rfl, .inl ⟨rfl, _, SqL.of (s9 _ _ hacc8)⟩, _, rfl, _, rfl, _, rfl, q, xs, (r0 : Int), _, rfl, rfl, SqL.of hq9, atI_nat f1, by show 3 ≤ sizeLine; decide, fun t3 ht3 => ?_⟩
      have s10 := sm_upd (o := .tup [.str (Str.ofString "hold"), .int (i : Nat), .ref tp0]) s9 ht3
      have hi6 : i ≤ 600 := by
        have h1 := rings_count hR.ring
        have h2 := hLs.1
        omega
      refine ⟨L, acc', _, rfl, rfl, s10 _ _ hacc8, bigL (by omega), ?_⟩
      generalize hHx : upd (upd (upd H8 T' (.tup [.int (i : Nat), .ref t])) D (.lst (iv o))) t3 (.tup [.str (Str.ofString "hold"), .int (i : Nat), .ref tp0]) = Hx at s10
      have DL : D ≠ L := fun e => by
        have := sT _ _ hacc8
        rw [← e, hD] at this
        cases this
      have hDx : Hx D = some (.lst (iv o)) := by
        rw [← hHx]
        exact (sm_new ht3) _ _ upd_same
      have ht3x : Hx t3 = some (.tup [.str (Str.ofString "hold"), .int (i : Nat), .ref tp0]) := by
        rw [← hHx]
        exact upd_same
      have kx : But L H7 Hx := fun c z n e => s10 _ _ (k8 c z n e)
      have hstx : Stps ls Hx (acc' ++ [.ref t3]) (ms.map Step.mv ++ ringsSteps 0 (rs.take i) ++ [.hold i r0]) :=
        (hst8.keep fun c z e => s10 _ _ e).append (Stps.one ⟨t3, tp0, p0, rfl, ht3x, f2, kx _ _ (ne_of_none f3 hL) (s7 _ _ (s6 _ _ f3))⟩)
      have tupL : ∀ {c : Addr} {z : List V}, Hx c = some (.tup z) → c ≠ L := fun e => ne_of e (s10 _ _ hacc8) (by intro z; cases z)
      have ky : But L H7 (upd Hx L (.lst (acc' ++ [.ref t3]))) := fun c z n e => by rw [upd_ne n]; exact kx c z n e
      have hDy : upd Hx L (.lst (acc' ++ [.ref t3])) D = some (.lst (iv o)) := by rw [upd_ne DL]; exact hDx
      have hsty : Stps ls (upd Hx L (.lst (acc' ++ [.ref t3]))) (acc' ++ [.ref t3]) (ms.map Step.mv ++ ringsSteps 0 (rs.take i) ++ [.hold i r0]) := hstx.keep fun c z e => by rw [upd_ne (tupL e)]; exact e
      have hLy : upd Hx L (.lst (acc' ++ [.ref t3])) L = some (.lst (acc' ++ [.ref t3])) := upd_same
      generalize upd Hx L (.lst (acc' ++ [.ref t3])) = Hy at ky hDy hsty hLy
      refine ⟨_, rfl, .inl ⟨rfl, _, SqL.of hLy⟩, _, rfl, D, rfl, ⟨_, SqL.of hDy⟩, fun M hM' => ?_⟩
      have ML : L ≠ M := ne_of_none hLy hM'
      refine lc_mut (walk_list (xs := iv o)) (fun i acc H' => Same Hy H' ∧ Stps ls H' acc ((o.take i).map Step.mv)) (by omega) ⟨sm_new hM', Stps.nil⟩ (fun i acc H' z => SqL.of (z.1 _ _ hDy)) ?_ ?_ ?_
      · rintro i acc H' ys zs ⟨g1, g2⟩ hy
        exact ⟨sm_mut g1 hM', g2.keep fun c zs e => by rw [upd_ne (ne_of e hy (by intro z; cases z))]; exact e⟩
      · rintro i2 x H10 H11 acc2 k' hi2 hacl2 ⟨s11, hst⟩ hacc2 ⟨rfl, hx⟩ hkk
        obtain ⟨y, hy, rfl⟩ := iv_get hx
        obtain ⟨tp, p, e1, e2, e3⟩ := pla y (hrin y (by simp [List.mem_of_getElem? hy]))
        have e4 := s11 _ _ (ky _ _ (ne_of_none e3 hL) (s7 _ _ (s6 _ _ e3)))
        refine ⟨rfl, _, rfl, _, rfl, q, xs, (y : Int), _, rfl, rfl, SqL.of (s11 _ _ (ky q _ qL hq7)), atI_nat e1, by show 2 ≤ sizeLine; decide, fun t ht => ?_⟩
        have st := sm_new (o := .tup [.str (Str.ofString "move"), .ref tp]) ht
        refine hkk _ _ (st _ _ hacc2) ⟨s11.trans st, ?_⟩
        rw [take_snoc hy, List.map_append]
        exact (hst.keep fun c zs e => st _ _ e).append (Stps.one ⟨t, tp, p, rfl, upd_same, e2, st _ _ e4⟩)
      rintro acc2 H10 hacc2 hacl2 ⟨s11, hst2⟩
      rw [iv_len, List.take_length] at hst2
      rw [iv_len] at hacl2
      have hL10 := s11 _ _ hLy
      refine ⟨L, M, _, _, rfl, rfl, hL10, hacc2, big (by rw [List.length_append]; simp; omega), ?_⟩
      have tupL2 : ∀ {c : Addr} {z : List V}, H10 c = some (.tup z) → c ≠ L := fun e => ne_of e hL10 (by intro z; cases z)
      have hstz : Stps ls (upd H10 L (.lst (acc' ++ [.ref t3] ++ acc2))) (acc' ++ [.ref t3] ++ acc2) (ms.map Step.mv ++ ringsSteps 0 (rs.take i) ++ [.hold i r0] ++ o.map Step.mv) :=
        ((hsty.keep fun c z e => s11 _ _ e).append hst2).keep fun c z e => by rw [upd_ne (tupL2 e)]; exact e
      have kz : But L H7 (upd H10 L (.lst (acc' ++ [.ref t3] ++ acc2))) := fun c z n e => by rw [upd_ne n]; exact s11 _ _ (ky c z n e)
      have hLz : upd H10 L (.lst (acc' ++ [.ref t3] ++ acc2)) L = some (.lst (acc' ++ [.ref t3] ++ acc2)) := upd_same
      generalize upd H10 L (.lst (acc' ++ [.ref t3] ++ acc2)) = Hz at hstz kz hLz
      refine ⟨_, rfl, .inl ⟨rfl, _, SqL.of hLz⟩, _, rfl, _, rfl, _, rfl, q, xs, (r0 : Int), _, rfl, rfl, SqL.of (kz q _ qL hq7), atI_nat f1, by show 3 ≤ sizeLine; decide, fun t4 ht4 => ?_⟩
      have s12 := sm_new (o := .tup [.str (Str.ofString "give"), .int (i : Nat), .ref tp0]) ht4
      refine ⟨L, _, _, rfl, rfl, s12 _ _ hLz, bigL (by rw [List.length_append, List.length_append]; simp; omega), ?_⟩
      have f4 := kz _ _ (ne_of_none f3 hL) (s7 _ _ (s6 _ _ f3))
      refine ⟨⟨_, _, _, rfl⟩, fun c z n e => by rw [upd_ne n]; exact s12 _ _ (kz c z n e), _, upd_same, by rw [List.length_append, List.length_append, List.length_append]; simp; omega, ?_⟩
      rw [rings_take hri]
      have eS : ms.map Step.mv ++ (ringsSteps 0 (rs.take i) ++ ringSteps i (r0 :: o)) = ms.map Step.mv ++ ringsSteps 0 (rs.take i) ++ [.hold i r0] ++ o.map Step.mv ++ [.give i r0] := by
        show _ ++ (_ ++ ([.hold i r0] ++ o.map Step.mv ++ [.give i r0])) = _
        simp
      rw [eS]
      refine ((hstz.keep fun c z e => s12 _ _ e).append (Stps.one (st := .give i r0) ⟨t4, tp0, p0, rfl, upd_same, f2, s12 _ _ f4⟩)).keep fun c z e => ?_
      rw [upd_ne (ne_of e (s12 _ _ hLz) (by intro z; cases z))]
      exact e
    · rintro σ H8 ⟨⟨v8, v9, v10, rfl⟩, k8, acc', hacc8, hal, hst8⟩
      rw [hLs.1, List.take_length] at hst8
      have hq8 := k8 q _ qL hq7
      have hq28 := k8 q2 _ q2L hq2
      refine ⟨_, rfl, _, rfl, q2, rfl, ⟨ys, SqL.of hq28⟩, fun O hO => ?_⟩
      refine lc_mut (walk_list (xs := ys)) (fun i acc H' => Same H8 H') (by rw [hLs.1]; have := rings_count hR.ring; omega) (sm_new hO) (fun i acc H' z => SqL.of (z _ _ hq28)) ?_ ?_ ?_
      · rintro i acc H' ys' zs g1 hy
        exact sm_mut g1 hO
      · rintro i x H9 H10 acc k' hi hacl' s9 hacc9 ⟨rfl, hx⟩ hkk
        obtain ⟨t, rr, rfl, _, hri, ht7⟩ := hLs.2 i x hx
        have tL : t ≠ L := fun e => by
          have := hfr i t hx
          rw [e, hacc] at this
          cases this
        have ht9 := s9 _ _ (k8 t _ tL ht7)
        have hrl2 : rr.length ≤ rs.flatten.length := (List.sublist_flatten_of_mem (List.mem_of_getElem? hri)).length_le
        refine ⟨rfl, _, rfl, t, rfl, ⟨_, SqL.of ht9⟩, fun O2 hO2 => ?_⟩
        refine lc_mut (walk_list (xs := iv rr)) (fun i acc H' => Same H10 H') (by rw [iv_len]; omega) (sm_new hO2) (fun i acc H' z => SqL.of (z _ _ ht9)) ?_ ?_ ?_
        · rintro i acc H' ys' zs g1 hy
          exact sm_mut g1 hO2
        · rintro i2 x2 H11 H12 acc2 k2 hi2 hacl2 s11 hacc11 ⟨rfl, hx2⟩ hkk2
          obtain ⟨y, hy, rfl⟩ := iv_get hx2
          obtain ⟨tp, p, e1, e2, e3⟩ := pla y (hR.lt y (List.mem_flatten.mpr ⟨rr, List.mem_of_getElem? hri, List.mem_of_getElem? hy⟩))
          exact ⟨rfl, _, rfl, _, rfl, q, xs, (y : Int), _, rfl, rfl, SqL.of (s11 _ _ (s9 _ _ hq8)), atI_nat e1, hkk2 _ _ hacc11 s11⟩
        · rintro acc2 H11 hacc11 hacl11 s11
          exact hkk _ _ (s11 _ _ hacc9) (s9.trans s11)
      · rintro accO H9 haccO haclO s9
        refine ⟨by show 3 ≤ sizeLine; decide, fun t ht => ?_⟩
        have s10 := sm_upd (o := .tup [.str (Str.ofString "way"), .ref L, .ref O]) s9 ht
        refine k _ t L O acc' gs ms rs (fun c z e => s10 _ _ (k8 c z (ne_of_none e fL) (s17 c z e))) upd_same fL (s10 _ _ hacc8) (hst8.keep fun c z e => s10 _ _ e) hG hM hR hcov
end
end VG

set_option Elab.async false
set_option linter.all false
set_option maxRecDepth 100000
set_option maxHeartbeats 4000000
namespace VG
open PySem PySem.Spec PyProof.Rows L2
/-- a purse that has been asked at most n times -/
def Pu (H : Hp) (p : Addr) (n : Nat) : Prop := ∃ x y z : Int, H p = some (.lst [.int x, .int y, .int z]) ∧ 0 ≤ x ∧ 0 ≤ y ∧ y ≤ 2 ^ 62 ∧ 0 ≤ z ∧ z ≤ n
theorem Pu.mono {H : Hp} {p : Addr} {n m : Nat} (h : Pu H p n) (e : n ≤ m) : Pu H p m := by
  obtain ⟨x, y, z, h1, h2, h3, h4, h5, h6⟩ := h
  exact ⟨x, y, z, h1, h2, h3, h4, h5, by omega⟩
theorem Pu.same {H H' : Hp} {p : Addr} {n : Nat} (h : Pu H p n) (e : Same H H') : Pu H' p n := by
  obtain ⟨x, y, z, h1, h2⟩ := h
  exact ⟨x, y, z, e _ _ h1, h2⟩
theorem Pu.lst {H : Hp} {p : Addr} {n : Nat} (h : Pu H p n) : ∃ xs, H p = some (.lst xs) := by
  obtain ⟨x, y, z, h1, h2⟩ := h
  exact ⟨_, h1⟩
theorem But.trans {p : Addr} {H H1 H2 : Hp} (a : But p H H1) (b : But p H1 H2) : But p H H2 := fun c o n e => b c o n (a c o n e)
theorem But.refl (p : Addr) (H : Hp) : But p H H := fun _ _ _ e => e
def sp_l_purse (K : PySem.W.Frag) : Sp := fun vs H Q _ => ∃ (s : Addr) (sc : List Int) (k : Nat), vs = [.ref s, .int (k : Int)] ∧ SqL K H s (zv sc) ∧ sc.length ≤ 100000 ∧ k ≤ 3 ∧ ∀ H' p, Same H H' → H p = none → Pu H' p 0 → Q (.ref p) H'
def sp_l_take : Sp := fun vs H Q _ => ∃ (p : Addr) (many : Int) (n : Nat), vs = [.ref p, .int many] ∧ Pu H p n ∧ n ≤ 2 ^ 40 ∧ 1 ≤ many ∧ many < 2 ^ 200 ∧ ∀ H' d, But p H H' → Pu H' p (n + 1) → 0 ≤ d → d < many → Q (.int d) H'
def sp_l_number : Sp := fun vs H Q _ => ∃ (p : Addr) (n : Nat), vs = [.ref p] ∧ Pu H p n ∧ n + 1 ≤ 2 ^ 40 ∧ ∀ H' d, But p H H' → Pu H' p (n + 2) → Q (.int d) H'
theorem primes_at {j : Int} (h0 : 0 ≤ j) (h7 : j < 7) : ∃ v, atI [V.int 2147483647, .int 2147483629, .int 2147483587, .int 2147483579, .int 2147483563, .int 2147483549, .int 2147483543] j = some (.int v) ∧ 2 ^ 30 < v ∧ v < 2 ^ 31 := by
  have h : j = 0 ∨ j = 1 ∨ j = 2 ∨ j = 3 ∨ j = 4 ∨ j = 5 ∨ j = 6 := by omega
  rcases h with e | e | e | e | e | e | e <;> subst e <;> exact ⟨_, rfl, by decide, by decide⟩
theorem base_lt {y s : Int} (h1 : 0 ≤ y) (h2 : y ≤ 2 ^ 62) (h3 : 0 ≤ s) (h4 : s ≤ 2 ^ 41) : ((y + 104729 * s) * (3 * s + 2) + 7919 * s * s).natAbs < 2 ^ 1000 := by
  have a1 : 0 ≤ (y + 104729 * s) * (3 * s + 2) := Int.mul_nonneg (by omega) (by omega)
  have a2 : (y + 104729 * s) * (3 * s + 2) ≤ 2 ^ 63 * 2 ^ 43 := Int.mul_le_mul (by omega) (by omega) (by omega) (by decide)
  have a3 : 0 ≤ 7919 * s * s := Int.mul_nonneg (by omega) h3
  have a4 : 7919 * s * s ≤ 2 ^ 54 * 2 ^ 41 := Int.mul_le_mul (by omega) h4 h3 (by decide)
  have a5 : ((2 : Int) ^ 63 * 2 ^ 43 + 2 ^ 54 * 2 ^ 41) < 2 ^ 200 := by decide
  have a6 : (2 : Nat) ^ 200 ≤ 2 ^ 1000 := Nat.pow_le_pow_right (by decide) (by decide)
  have a7 : ((y + 104729 * s) * (3 * s + 2) + 7919 * s * s).natAbs < 2 ^ 200 := by
    generalize (y + 104729 * s) * (3 * s + 2) = A at *
    generalize 7919 * s * s = B at *
    omega
  omega
section
variable {P : Program} {w : World} {K : PySem.W.Frag} {mg : Str → Option Value} {base : Heap} {a : Adr}
theorem ok_l_purse (T : Tx K mg a) : FnOk P w K mg base CX0 1 a.l_purse a.fd_l_purse ["_law_script", "_law_at"] (sp_l_purse K) := by
  refine T.F_l_purse.ok sc_l_purse (fun vs H Q E h => ?_) (fun cdv A outer s H vs Q E hr h => ?_)
  · obtain ⟨q, sc, n, rfl, _⟩ := h
    rfl
  · obtain ⟨q, sc, n, rfl, hq, hl, hn, k⟩ := h
    refine ⟨_, (pss_cons (ps_set (i := 2) sc_l_purse.nd rfl (Or.inl rfl) pe_int)
          (pss_cons (ps_if (pt_cmpR op_lt (pv 1) (pe_callB call_len_seq (by rfl) T.n_len (by decide +kernel) (pa_cons (pv 0) pa_nil)) (nomark _)) (pss_one (ps_set (i := 2) sc_l_purse.nd rfl (Or.inl rfl) (pe_ix ix_list (pv 0) (pv 1) (fun _ _ => rfl)))) pss_nil)
          (pss_cons (ps_set (i := 3) sc_l_purse.nd rfl (Or.inl rfl) (pe_callB call_abs (by rfl) T.n_abs (by decide +kernel) (pa_cons (pv 2) pa_nil)))
          (pss_one (ps_ret (pe_lst (pa_cons (pe_op op_mul (pv 3) (pe_callTy call_int1 (by rfl) T.n_int (by decide +kernel) (pa_cons (pe_cmpR op_ge (pv 3) (pe_op op_pow pe_int pe_int) (nomark _)) pa_nil))) (pa_cons (pe_op op_add (pe_op op_add (pe_op op_mod (pv 2) pe_int) (pe_op op_mul pe_int (pv 1))) pe_int) (pa_cons pe_int pa_nil))))))))), ?_⟩
    refine ⟨_, rfl, _, rfl, q, _, rfl, .inl hq, _, _, rfl, rfl, _, rfl, ?_⟩
    have fin : ∀ c : Int, ∀ p, H p = none → ∀ x y : Int, x = (if c < 0 then -c else c) * (if decide ((if c < 0 then -c else c) ≥ 10 ^ 18) = true then 1 else 0) → y = c % 2305843009213693951 + 7177 * (n : Int) + 1 → Q (.ref p) (upd H p (.lst [.int x, .int y, .int 0])) := by
      intro c p hp x y ex ey
      refine k _ p (sm_new hp) hp ⟨x, y, 0, upd_same, ?_, ?_, ?_, Int.le_refl _, by omega⟩
      · rw [ex]
        refine Int.mul_nonneg ?_ ?_
        · split <;> omega
        · split <;> omega
      · have := Int.emod_nonneg c (b := 2305843009213693951) (by decide)
        omega
      · have := Int.emod_lt_of_pos c (b := 2305843009213693951) (by decide)
        omega
    by_cases h : (n : Int) < ((zv sc).length : Int)
    · have hnl : n < sc.length := by rw [zv_len] at h; omega
      refine ifT h ⟨_, rfl, _, rfl, q, _, (n : Int), _, rfl, rfl, hq, atI_nat (zv_at (List.getElem?_eq_getElem hnl)), ?_⟩
      refine ⟨_, rfl, _, rfl, _, rfl, _, rfl, _, _, rfl, rfl, ⟨by decide, by decide, by decide⟩, _, _, rfl, rfl, .inr ⟨_, rfl, _, _, rfl, rfl, .inr ?_, _, rfl, _, _, rfl, rfl, (by decide : (0 : Int) < 2305843009213693951), _, rfl, _, _, rfl, rfl, .inr ⟨by omega, by omega⟩, _, _, rfl, rfl, _, _, rfl, rfl, by show 3 ≤ sizeLine; decide, fun p hp => fin _ p hp _ _ rfl rfl⟩⟩
      split <;> exact ⟨by omega, by omega⟩
    · refine ifF h ?_
      refine ⟨_, rfl, _, rfl, _, rfl, _, rfl, _, _, rfl, rfl, ⟨by decide, by decide, by decide⟩, _, _, rfl, rfl, .inr ⟨_, rfl, _, _, rfl, rfl, .inr ?_, _, rfl, _, _, rfl, rfl, (by decide : (0 : Int) < 2305843009213693951), _, rfl, _, _, rfl, rfl, .inr ⟨by omega, by omega⟩, _, _, rfl, rfl, _, _, rfl, rfl, by show 3 ≤ sizeLine; decide, fun p hp => fin _ p hp _ _ rfl rfl⟩⟩
      split <;> exact ⟨by omega, by omega⟩
theorem ok_l_take (T : Tx K mg a) : FnOk P w K mg base CX0 1 a.l_take a.fd_l_take ["_law_purse_here", "_law_many"] sp_l_take := by
  refine T.F_l_take.ok sc_l_take (fun vs H Q E h => ?_) (fun cdv A outer s H vs Q E hr h => ?_)
  · obtain ⟨p, many, n, rfl, _⟩ := h
    rfl
  · obtain ⟨p, many, n, rfl, ⟨x, y, z, hp, hx, hy, hy2, hz, hzn⟩, hn, hm, hm2, k⟩ := h
    refine ⟨_, (pss_cons (ps_if (pt_cmpR op_gt (pe_ix ix_list (pv 0) pe_int (fun _ _ => rfl)) pe_int (nomark _)) (pss_cons (ps_set (i := 2) sc_l_take.nd rfl (Or.inl rfl) (pe_op op_mod (pe_ix ix_list (pv 0) pe_int (fun _ _ => rfl)) (pv 1)))
          (pss_cons (ps_asg (pe_op op_fdivW (pe_ix ix_list (pv 0) pe_int (fun _ _ => rfl)) (pv 1)) (pg_sub (pv 0) pe_int set_list))
          (pss_one (ps_ret (pv 2))))) pss_nil)
          (pss_cons (ps_set (i := 3) sc_l_take.nd rfl (Or.inl rfl) (pe_tup (pa_cons pe_int (pa_cons pe_int (pa_cons pe_int (pa_cons pe_int (pa_cons pe_int (pa_cons pe_int (pa_cons pe_int pa_nil)))))))))
          (pss_cons (ps_asg (pe_op op_add (pe_ix ix_list (pv 0) pe_int (fun _ _ => rfl)) pe_int) (pg_sub (pv 0) pe_int set_list))
          (pss_cons (ps_set (i := 4) sc_l_take.nd rfl (Or.inl rfl) (pe_ix ix_list (pv 0) pe_int (fun _ _ => rfl)))
          (pss_cons (ps_set (i := 5) sc_l_take.nd rfl (Or.inl rfl) (pe_op op_add (pe_op op_mul (pe_op op_add (pe_ix ix_list (pv 0) pe_int (fun _ _ => rfl)) (pe_op op_mul pe_int (pv 4))) (pe_op op_add (pe_op op_mul pe_int (pv 4)) pe_int)) (pe_op op_mul (pe_op op_mul pe_int (pv 4)) (pv 4))))
          (pss_cons (ps_set (i := 6) sc_l_take.nd rfl (Or.inl rfl) (pe_op op_mod (pe_op op_powW (pv 5) pe_int) (pe_ix ix_tup (pv 3) (pe_op op_mod (pv 4) pe_int) (fun _ _ => rfl))))
          (pss_one (ps_ret (pe_op op_mod (pe_op op_fdiv (pe_op op_mod (pe_op op_mul (pv 6) (pe_op op_add (pe_op op_add (pe_op op_fdiv (pv 6) pe_int) (pe_op op_mul pe_int (pv 4))) pe_int)) (pe_ix ix_tup (pv 3) (pe_op op_mod (pe_op op_add (pv 4) pe_int) pe_int) (fun _ _ => rfl))) pe_int) (pv 1)))))))))), ?_⟩
    refine ⟨_, rfl, p, _, 0, _, rfl, rfl, SqL.of hp, rfl, _, _, rfl, rfl, _, rfl, ?_⟩
    have hlog : many.natAbs.log2 < 9000 := PySem.Flt.log2_lt_of (by decide) (Nat.lt_of_lt_of_le (show many.natAbs < 2 ^ 200 by omega) (by decide))
    by_cases h0 : x > 0
    · refine ifT h0 ⟨_, rfl, p, _, 0, _, rfl, rfl, SqL.of hp, rfl, _, rfl, _, _, rfl, rfl, by omega, ?_⟩
      refine ⟨_, rfl, p, _, 0, _, rfl, rfl, SqL.of hp, rfl, _, rfl, _, _, rfl, rfl, ⟨by omega, hlog⟩, ?_⟩
      refine ⟨_, rfl, p, _, 0, 0, rfl, rfl, hp, rfl, _, rfl, ?_⟩
      refine k _ _ (fun c o e1 e2 => by rw [upd_ne e1]; exact e2) ⟨x / many, y, z, upd_same, Int.ediv_nonneg hx (by omega), hy, hy2, hz, by omega⟩ (Int.emod_nonneg _ (by omega)) (Int.emod_lt_of_pos _ (by omega))
    · refine ifF h0 ⟨by show 7 ≤ sizeLine; decide, fun tp htp => ?_⟩
      have hp1 := (sm_new (o := .tup [V.int 2147483647, .int 2147483629, .int 2147483587, .int 2147483579, .int 2147483563, .int 2147483549, .int 2147483543]) htp) _ _ hp
      refine ⟨_, rfl, p, _, 2, _, rfl, rfl, SqL.of hp1, rfl, _, _, rfl, rfl, _, rfl, p, _, 2, 2, rfl, rfl, hp1, rfl, ?_⟩
      have hp2 : ∀ o, upd (upd H tp (.tup [V.int 2147483647, .int 2147483629, .int 2147483587, .int 2147483579, .int 2147483563, .int 2147483549, .int 2147483543])) p o p = some o := fun o => upd_same
      have tpp : tp ≠ p := Ne.symm (ne_of_none hp htp)
      have ht2 : ∀ o, upd (upd H tp (.tup [V.int 2147483647, .int 2147483629, .int 2147483587, .int 2147483579, .int 2147483563, .int 2147483549, .int 2147483543])) p o tp = some (.tup [V.int 2147483647, .int 2147483629, .int 2147483587, .int 2147483579, .int 2147483563, .int 2147483549, .int 2147483543]) := fun o => by rw [upd_ne tpp]; exact upd_same
      have hb : But p H (upd (upd H tp (.tup [V.int 2147483647, .int 2147483629, .int 2147483587, .int 2147483579, .int 2147483563, .int 2147483549, .int 2147483543])) p (.lst [.int x, .int y, .int (z + 1)])) := fun c o n e => by
        rw [upd_ne n]
        exact (sm_new htp) _ _ e
      have hpu : Pu (upd (upd H tp (.tup [V.int 2147483647, .int 2147483629, .int 2147483587, .int 2147483579, .int 2147483563, .int 2147483549, .int 2147483543])) p (.lst [.int x, .int y, .int (z + 1)])) p (n + 1) := ⟨x, y, z + 1, upd_same, hx, hy, hy2, by omega, by omega⟩
      have hz1 : z + 1 ≤ 2 ^ 40 + 1 := by omega
      obtain ⟨v1, a1, a2, a3⟩ := primes_at (j := (z + 1) % 7) (by omega) (by omega)
      obtain ⟨v2, b1, b2, b3⟩ := primes_at (j := (z + 1 + 3) % 7) (by omega) (by omega)
      refine ⟨_, rfl, p, _, 2, _, rfl, rfl, SqL.of (hp2 _), rfl, ?_⟩
      refine ⟨_, rfl, p, _, 1, _, rfl, rfl, SqL.of (hp2 _), rfl, _, rfl, _, _, rfl, rfl, .inr ⟨by omega, by omega⟩, _, _, rfl, rfl, _, rfl, _, _, rfl, rfl, .inr ⟨by omega, by omega⟩, _, _, rfl, rfl, _, _, rfl, rfl, .inr ⟨by omega, by omega⟩, _, rfl, _, _, rfl, rfl, .inr ⟨by omega, by omega⟩, _, rfl, _, _, rfl, rfl, .inr ⟨by omega, by omega⟩, _, _, rfl, rfl, ?_⟩
      have hbase := base_lt hy hy2 (show 0 ≤ z + 1 by omega) (show z + 1 ≤ 2 ^ 41 by omega)
      have e1 := Int.emod_nonneg (((y + 104729 * (z + 1)) * (3 * (z + 1) + 2) + 7919 * (z + 1) * (z + 1)) ^ (3 : Int).toNat) (b := v1) (by omega)
      have e2 := Int.emod_lt_of_pos (((y + 104729 * (z + 1)) * (3 * (z + 1) + 2) + 7919 * (z + 1) * (z + 1)) ^ (3 : Int).toNat) (b := v1) (by omega)
      refine ⟨_, rfl, _, _, rfl, rfl, ⟨rfl, hbase⟩, _, rfl, _, rfl, _, _, rfl, rfl, (by decide : (0 : Int) < 7), tp, _, _, _, rfl, rfl, SqT.of (ht2 _), a1, _, _, rfl, rfl, by omega, ?_⟩
      refine ⟨_, rfl, _, rfl, _, _, rfl, rfl, ⟨by decide, by decide⟩, _, rfl, _, _, rfl, rfl, .inr ⟨by omega, by omega⟩, _, _, rfl, rfl, _, _, rfl, rfl, _, _, rfl, rfl, .inl ⟨by omega, by omega⟩, _, rfl, _, rfl, _, _, rfl, rfl, _, _, rfl, rfl, (by decide : (0 : Int) < 7), tp, _, _, _, rfl, rfl, SqT.of (ht2 _), b1, _, _, rfl, rfl, by omega, _, _, rfl, rfl, ⟨by decide, by decide⟩, _, rfl, _, _, rfl, rfl, by omega, ?_⟩
      exact k _ _ hb hpu (Int.emod_nonneg _ (by omega)) (Int.emod_lt_of_pos _ (by omega))
theorem ok_l_number (T : Tx K mg a) : FnOk P w K mg base CX0 2 a.l_number a.fd_l_number ["_law_purse_here"] sp_l_number := by
  have G_l_take := ok_l_take (P := P) (w := w) (base := base) T
  refine T.F_l_number.ok sc_l_number (fun vs H Q E h => ?_) (fun cdv A outer s H vs Q E hr h => ?_)
  · obtain ⟨p, n, rfl, _⟩ := h
    rfl
  · obtain ⟨p, n, rfl, hp, hn, k⟩ := h
    refine ⟨_, (pss_cons (ps_set (i := 1) sc_l_number.nd rfl (Or.inl rfl) (pe_ix ix_list (pe_lst (pa_cons pe_int (pa_cons pe_int (pa_cons pe_int (pa_cons (pe_op op_sub (pe_op op_mul pe_int (pe_op op_pow pe_int pe_int)) pe_int) pa_nil))))) (pe_call G_l_take (hr.mono (by decide)) rfl T.m_l_take T.F_l_take.kp (b_l_take T) .nil pass0 (pa_cons (pv 0) (pa_cons pe_int pa_nil))) (fun _ _ => rfl)))
          (pss_one (ps_ret (pe_op op_sub (pe_call G_l_take (hr.mono (by decide)) rfl T.m_l_take T.F_l_take.kp (b_l_take T) .nil pass0 (pa_cons (pv 0) (pa_cons (pv 1) pa_nil))) (pe_op op_fdiv (pv 1) pe_int))))), ?_⟩
    refine ⟨_, _, rfl, rfl, ⟨by decide, by decide, by decide⟩, _, _, rfl, rfl, .inl ⟨by decide, by decide⟩, _, _, rfl, rfl, by show 4 ≤ sizeLine; decide, fun l hl => ?_⟩
    have s0 := sm_new (o := .lst [.int 7, .int 7, .int 100, .int (2 * 10 ^ (30 : Int).toNat - 1)]) hl
    obtain ⟨zs, hlp⟩ := hp.lst
    have lp : l ≠ p := Ne.symm (ne_of_none hlp hl)
    refine ⟨_, rfl, p, 4, n, rfl, hp.same s0, by omega, by decide, by decide, fun H1 d b1 p1 d0 d4 => ?_⟩
    have hl1 := b1 l _ lp upd_same
    have hat : ∃ v, atI [V.int 7, .int 7, .int 100, .int (2 * 10 ^ (30 : Int).toNat - 1)] d = some (.int v) ∧ 1 ≤ v ∧ v < 2 ^ 200 := by
      have h : d = 0 ∨ d = 1 ∨ d = 2 ∨ d = 3 := by omega
      rcases h with e | e | e | e <;> subst e <;> exact ⟨_, rfl, by decide, by decide⟩
    obtain ⟨v, hv, v1, v2⟩ := hat
    refine ⟨l, _, d, _, rfl, rfl, SqL.of hl1, hv, ?_⟩
    refine ⟨_, rfl, _, rfl, p, v, n + 1, rfl, p1, by omega, v1, v2, fun H2 d2 b2 p2 _ _ => ?_⟩
    refine ⟨_, rfl, _, _, rfl, rfl, ⟨by decide, by decide⟩, _, _, rfl, rfl, ?_⟩
    exact k H2 _ (fun c o n e => b2 c o n (b1 c o n (s0 _ _ e))) p2
end
end VG

set_option Elab.async false
set_option linter.all false
set_option maxRecDepth 100000
set_option maxHeartbeats 4000000
namespace VG
open PySem PySem.Spec PyProof.Rows L2
def sp_l_places : Sp := fun vs H Q _ => ∃ (p : Addr) (ls : List Nat), vs = [.ref p] ∧ H p = some (.tup (iv ls)) ∧ Sides ls ∧ ∀ H' q xs, Same H H' → H q = none → H' q = some (.lst xs) → Tups H' xs (places ls) → Q (.ref q) H'
def sp_l_cells : Sp := fun vs H Q _ => ∃ (p q : Addr) (b : Int) (ls : List Nat) (ss : List Int), vs = [.ref p, .int b, .ref q] ∧ H p = some (.tup (iv ls)) ∧ H q = some (.tup (zv ss)) ∧ ls.length = ss.length ∧ Sides ls ∧
  ∀ H' l, Same H H' → H l = none → H' l = some (.lst (zv (cells ls ss b))) → Q (.ref l) H'
def reach (ls : List Nat) (ss : List Int) (way : Int) : Int := ((ls.zip ss).map fun q => if 0 < q.1 ∧ q.2 * way > 0 then ((q.1 : Int) - 1) * q.2 else 0).sum
theorem reach_take {ls : List Nat} {ss : List Int} {i l : Nat} {s way : Int} (hl : ls[i]? = some l) (hs : ss[i]? = some s) : reach (ls.take (i + 1)) (ss.take (i + 1)) way = reach (ls.take i) (ss.take i) way + (if 0 < l ∧ s * way > 0 then ((l : Int) - 1) * s else 0) := by
  have h1 : i < ls.length := (List.getElem?_eq_some_iff.mp hl).1
  have h2 : i < ss.length := (List.getElem?_eq_some_iff.mp hs).1
  unfold reach
  rw [List.take_add_one, List.take_add_one, hl, hs, List.zip_append (by rw [List.length_take, List.length_take]; omega), List.map_append, sum_append]
  simp
def sp_l_reach : Sp := fun vs H Q _ => ∃ (p q : Addr) (way : Int) (ls : List Nat) (ss : List Int), vs = [.ref p, .ref q, .int way] ∧ H p = some (.tup (iv ls)) ∧ H q = some (.tup (zv ss)) ∧ ls.length = ss.length ∧ (∀ l ∈ ls, l ≤ 600) ∧ (way = 1 ∨ way = -1) ∧
  ∀ H', Same H H' → Q (.int (reach ls ss way)) H'
theorem in_zero (ls : List Nat) : inV (.int 0) (iv ls) = decide (size ls = 0) := by
  rw [Bool.eq_iff_iff, decide_eq_true_eq]
  unfold inV
  rw [iv_eq, List.any_map, List.any_eq_true]
  constructor
  · rintro ⟨l, hl, e⟩
    have e1 : l = 0 := by
      simp [Function.comp, eqV] at e
      omega
    subst e1
    apply Nat.eq_zero_of_not_pos
    intro h
    exact Nat.lt_irrefl _ (size_pos.mp h 0 hl)
  · intro h
    apply Classical.byContradiction
    intro q
    have : 0 < size ls := size_pos.mpr fun l hl => Nat.pos_of_ne_zero fun e => q ⟨l, hl, by rw [e]; simp [Function.comp, eqV]⟩
    omega
theorem iv_flat (ls : List Nat) : (iv ls).all flatV = true := by
  rw [iv_eq, List.all_map, List.all_eq_true]
  intro l _
  rfl
theorem dot_take {p : List Nat} {ss : List Int} {i k : Nat} {s : Int} (hk : p[i]? = some k) (hs : ss[i]? = some s) : dot (p.take (i + 1)) (ss.take (i + 1)) = dot (p.take i) (ss.take i) + (k : Int) * s := by
  have h1 : i < p.length := (List.getElem?_eq_some_iff.mp hk).1
  have h2 : i < ss.length := (List.getElem?_eq_some_iff.mp hs).1
  rw [List.take_add_one, List.take_add_one, hk, hs]
  exact dot_snoc (by rw [List.length_take, List.length_take]; omega) k s
section
variable {P : Program} {w : World} {K : PySem.W.Frag} {mg : Str → Option Value} {base : Heap} {a : Adr}
theorem ok_l_reach (T : Tx K mg a) : FnOk P w K mg base CX0 1 a.l_reach a.fd_l_reach ["_law_lengths_here", "_law_steps_here", "_law_way"] sp_l_reach := by
  refine T.F_l_reach.ok sc_l_reach (fun vs H Q E h => ?_) (fun cdv A outer s H vs Q E hr h => ?_)
  · obtain ⟨p, q, way, ls, ss, rfl, _⟩ := h
    rfl
  · obtain ⟨p, q, way, ls, ss, rfl, hp, hq, hls, hb, hw, k⟩ := h
    refine ⟨_, (pss_cons (ps_set (i := 3) sc_l_reach.nd rfl (Or.inl rfl) pe_int)
          (pss_cons (ps_for PassesOwn.never rfl (RZ.pi_zipA (by rfl) T.n_zip (pa_cons (pv 0) (pa_cons (pv 1) pa_nil))) (pg_tup rfl (pgs_cons (pg_name (i := 4) sc_l_reach.nd rfl (Or.inl rfl)) (pgs_cons (pg_name (i := 5) sc_l_reach.nd rfl (Or.inl rfl)) pgs_nil)))
            (pss_one (ps_if (PW.pt (pw_and (pt_cmpR op_gt (pv 4) pe_int (nomark _)) (pw_and1 (pt_cmpR op_gt (pe_op op_mul (pv 5) (pv 2)) pe_int (nomark _))))) (pss_one (ps_set (i := 3) sc_l_reach.nd rfl (Or.inl rfl) (pe_op op_add (pv 3) (pe_op op_mul (pe_op op_sub (pv 4) pe_int) (pv 5))))) pss_nil)))
          (pss_one (ps_ret (pv 3))))), ?_⟩
    have hmin : ls.length = min (iv ls).length (zv ss).length := by rw [iv_len, zv_len]; omega
    refine ⟨_, rfl, _, rfl, p, q, _, _, rfl, .inr ⟨SqT.of hp, SqT.of hq, for_it (walk_zipT hmin) (fun i σ H' => Same H H' ∧ ∃ v1 v2, σ = [some (.ref p), some (.ref q), some (.int way), some (.int (reach (ls.take i) (ss.take i) way)), v1, v2]) ⟨Same.refl H, none, none, rfl⟩ (fun i σ H' _ z => ⟨SqT.of (z.1 _ _ hp), SqT.of (z.1 _ _ hq)⟩) ?_ ?_⟩⟩
    · rintro i x σ H1 H2 hi ⟨s1, v1, v2, rfl⟩ ⟨T', x1, x2, rfl, hT, rfl, e1, e2⟩
      obtain ⟨l, hl, rfl⟩ := iv_get e1
      obtain ⟨st, hs, rfl⟩ := zv_get e2
      have hl6 := hb l (List.mem_of_getElem? hl)
      have e3 := reach_take (way := way) hl hs
      refine g_pair ?_
      refine ⟨_, rfl, _, _, rfl, rfl, _, rfl, ?_⟩
      by_cases h1 : (l : Int) > 0
      · refine ifT h1 ⟨_, rfl, _, rfl, _, _, rfl, rfl, .inr ⟨by omega, by omega⟩, _, _, rfl, rfl, _, rfl, ?_⟩
        by_cases h2 : st * way > 0
        · refine ifT h2 ⟨_, rfl, _, rfl, _, _, rfl, rfl, _, rfl, _, _, rfl, rfl, .inl ⟨by omega, by omega⟩, _, _, rfl, rfl, sm_upd s1 hT, some (.int (l : Int)), some (.int st), ?_⟩
          rw [e3, if_pos ⟨by omega, h2⟩]
          rfl
        · refine ifF h2 ⟨sm_upd s1 hT, some (.int (l : Int)), some (.int st), ?_⟩
          rw [e3, if_neg fun h => h2 h.2, Int.add_zero]
          rfl
      · refine ifF h1 (iteF ⟨sm_upd s1 hT, some (.int (l : Int)), some (.int st), ?_⟩)
        rw [e3, if_neg fun h => h1 (by omega), Int.add_zero]
        rfl
    · rintro σ H1 ⟨s1, v1, v2, rfl⟩
      rw [List.take_length, hls, List.take_length]
      exact ⟨_, rfl, k _ s1⟩
theorem ok_l_places (T : Tx K mg a) : FnOk P w K mg base CX0 1 a.l_places a.fd_l_places ["_law_lengths_here"] sp_l_places := by
  refine T.F_l_places.ok sc_l_places (fun vs H Q E h => ?_) (fun cdv A outer s H vs Q E hr h => ?_)
  · obtain ⟨i, ls, rfl, _⟩ := h
    rfl
  · obtain ⟨p, ls, rfl, hp, ⟨h5, h6, hb⟩, k⟩ := h
    refine ⟨_, (pss_cons (ps_if (pt_cmpR op_in_seq pe_int (pv 0) (by rfl)) (pss_one (ps_ret (pe_lst pa_nil))) pss_nil)
          (pss_cons (ps_set (i := 1) sc_l_places.nd rfl (Or.inl rfl) (pe_lst (pa_cons (pe_tup pa_nil) pa_nil)))
          (pss_cons (ps_for PassesOwn.never rfl (pi_tup (pv 0)) (pg_name (i := 2) sc_l_places.nd rfl (Or.inl rfl))
            (pss_cons (ps_set (i := 3) sc_l_places.nd rfl (Or.inl rfl) (pe_lst pa_nil))
          (pss_cons (ps_for PassesOwn.never rfl (pi_list (pv 1)) (pg_name (i := 4) sc_l_places.nd rfl (Or.inr rfl))
            (pss_one (ps_expr (pe_bm PySem.F.plainAttrs_list PySem.F.slot_list_extend PySem.F.type_list_extend mt_extend (pv 3) (pa_cons (pe_lc (own := [("_law_number_here", 5)]) rfl sc_l_places.nd (pi_range1 (by rfl) T.n_range (pa_cons (pv 2) pa_nil)) (blkOk_by (N := ["_law_lengths_here", "_law_found", "_law_length", "_law_longer", "_law_place", "_law_number_here"]) (sc := defScope s_l_places) (own := [("_law_number_here", 5)]) (by decide +kernel)) (fun _ _ _ _ _ => (pg_name (i := 5) sc_l_places.nd rfl (Or.inl rfl))) (fun _ _ _ _ _ => pts_nil) (fun _ _ _ _ _ => (pe_op (r := rCatA K) op_catA (pv 4) (pe_tup (pa_cons (pv 5) pa_nil))))) pa_nil)))))
          (pss_one (ps_set (i := 1) sc_l_places.nd rfl (Or.inl rfl) (pv 3))))))
          (pss_one (ps_ret (pv 1)))))), ?_⟩
    refine ⟨_, rfl, p, _, rfl, .inr (SqT.of hp), rfl, iv_flat ls, _, rfl, ?_⟩
    show if inV (.int 0) (iv ls) = true then _ else _
    rw [in_zero]
    by_cases hz : size ls = 0
    · refine ifT hz ⟨Nat.zero_le _, fun q hq => k _ q [] (sm_new hq) hq upd_same ?_⟩
      rw [places_zero hz]
      exact Tups.nil
    · have hz' : 0 < size ls := Nat.pos_of_ne_zero hz
      refine ifF hz ⟨Nat.zero_le _, fun t0 ht0 => ⟨by show 1 ≤ sizeLine; decide, fun q0 hq0 => ?_⟩⟩
      have s0 : Same H (upd (upd H t0 (.tup [])) q0 (.lst [.ref t0])) := sm_upd (sm_new ht0) hq0
      refine ⟨_, rfl, p, rfl, ⟨_, SqT.of (s0 _ _ hp)⟩, for_it walk_tup (fun i σ H' => Same H H' ∧ ∃ q xs v2 v3 v4, H q = none ∧ σ = [some (.ref p), some (.ref q), v2, v3, v4, none] ∧ H' q = some (.lst xs) ∧ Tups H' xs (places (ls.take i)))
        ⟨s0, q0, [.ref t0], none, none, none, free_upd hq0, rfl, upd_same, ?_⟩ (fun i σ H' _ q => SqT.of (q.1 _ _ hp)) ?_ ?_⟩
      · exact Tups.snoc (xs := []) (ps := []) Tups.nil (p := []) (by rw [upd_ne (ne_of_none upd_same hq0), upd_same]; rfl)
      · rintro i x σ H0 H1 hi ⟨s1, q, xs, v2, v3, v4, fq, rfl, hq, tq⟩ ⟨rfl, hx⟩
        obtain ⟨l, hl, rfl⟩ := iv_get hx
        have e1 : ls.take (i + 1) = ls.take i ++ [l] := by rw [List.take_add_one, hl]; rfl
        have hsz : size (ls.take (i + 1)) ≤ 600 := Nat.le_trans (size_take_le hz' _) h6
        have hl6 : l ≤ 600 := hb l (List.mem_of_getElem? hl)
        have hlen : (places (ls.take i)).length * l ≤ 600 := by
          rw [places_length]
          rwa [e1, size_snoc] at hsz
        have hpl : ∀ (i2 : Nat) (pl : List Nat), (places (ls.take i))[i2]? = some pl → pl.length ≤ 5 := fun i2 pl h => by
          have := places_len h
          rw [List.length_take] at this
          omega
        generalize hps : places (ls.take i) = ps at tq hlen hpl
        refine ⟨Nat.zero_le _, fun D hD => ?_⟩
        have fD : H D = none := s1.free hD
        have Dq : q ≠ D := ne_of_none hq hD
        have sD := sm_new (o := .lst []) hD
        refine ⟨_, rfl, q, rfl, ⟨xs, SqL.of (sD _ _ hq)⟩, for_it (walk_list (xs := xs)) (fun i2 σ H' => (∃ v4, σ = [some (.ref p), some (.ref q), some (.int (l : Int)), some (.ref D), v4, none]) ∧ Same H1 H' ∧ ∃ acc, H' D = some (.lst acc) ∧ Tups H' acc ((ps.take i2).flatMap fun p => ext1 p l)) ⟨⟨_, rfl⟩, sD, [], upd_same, Tups.nil⟩ (fun i σ H' _ z => SqL.of (z.2.1 _ _ hq)) ?_ ?_⟩
        · rintro i2 x σ H2 H3 hi2 ⟨⟨v4, rfl⟩, s2, acc, hacc, t2⟩ ⟨rfl, hx2⟩
          obtain ⟨t, pl, rfl, hpl2, ht⟩ := tq.2 i2 x hx2
          have ht2 := s2 _ _ ht
          have hi3 : i2 < ps.length := (List.getElem?_eq_some_iff.mp hpl2).1
          have hacl : acc.length = i2 * l := by
            rw [t2.1]
            have : ((ps.take i2).flatMap fun p => ext1 p l) = ext (ps.take i2) l := rfl
            rw [this, ext_length, List.length_take, Nat.min_eq_left (Nat.le_of_lt hi3)]
          have hb1 : i2 * l ≤ 600 := Nat.le_trans (Nat.mul_le_mul_right _ (Nat.le_of_lt hi3)) hlen
          refine ⟨_, rfl, .inl ⟨rfl, _, SqL.of hacc⟩, _, rfl, _, rfl, by omega, by omega, fun M hM => ?_⟩
          have el : (l : Int).toNat = l := by omega
          rw [el]
          have MD : D ≠ M := ne_of_none hacc hM
          refine lc_mut walk_range (fun j acc' H' => Same H3 H' ∧ Tups H' acc' ((List.range j).map fun k => pl ++ [k])) (by omega) ⟨sm_new hM, Tups.nil⟩ (fun _ _ _ _ => trivial) ?_ ?_ ?_
          · rintro j acc' H' ys zs ⟨s', t'⟩ hy
            exact ⟨sm_mut s' hM, t'.mutD hy⟩
          · rintro j x H4 H5 acc' k' hj hacl' ⟨s4, t4⟩ hacc' ⟨rfl, rfl⟩ hk'
            have ht4 : H5 t = some (.tup (iv pl)) := s4 _ _ ht2
            have ej : (0 : Int) + (j : Int) = (j : Int) := Int.zero_add _
            refine ⟨rfl, _, rfl, _, rfl, by show 1 ≤ sizeLine; decide, fun t5 ht5 => ?_⟩
            have s5 : Same H5 (upd H5 t5 (.tup [.int (0 + (j : Int))])) := sm_new ht5
            have e5 : ((List.range (j + 1)).map fun k => pl ++ [k]) = ((List.range j).map fun k => pl ++ [k]) ++ [pl ++ [j]] := by rw [List.range_succ, List.map_append]; rfl
            refine ⟨t, t5, iv pl, [.int (0 + (j : Int))], rfl, rfl, SqT.of (s5 _ _ ht4), SqT.of upd_same, big (by have := hpl i2 pl hpl2; rw [iv_len]; simp; omega), fun en => ?_, fun _ en => (nomatch en), fun _ _ t6 ht6 => ?_⟩
            · have en' : pl = [] := by simpa using en
              subst en'
              refine hk' _ _ (s5 _ _ hacc') ⟨s4.trans s5, ?_⟩
              rw [e5]
              exact (t4.same s5).snoc (by rw [upd_same, ej]; rfl)
            · have s6 := sm_upd (o := .tup (iv pl ++ [.int (0 + (j : Int))])) s5 ht6
              refine hk' _ _ (s6 _ _ hacc') ⟨s4.trans s6, ?_⟩
              rw [e5]
              exact (t4.same s6).snoc (by rw [upd_same, ej]; simp [iv])
          · rintro acc' H4 hacc' hacl' ⟨s4, t4⟩
            have hacc4 := s4 _ _ hacc
            refine ⟨D, M, _, _, rfl, rfl, hacc4, hacc', big (by omega), ⟨_, rfl⟩, sm_mut (s2.trans s4) hD, _, upd_same, ?_⟩
            have t5 : Tups H4 (acc ++ acc') (((ps.take i2).flatMap fun p => ext1 p l) ++ (List.range l).map fun k => pl ++ [k]) := by
              have t6 := t2.same s4
              refine ⟨by rw [List.length_append, List.length_append, t6.1, t4.1], fun m y hy => ?_⟩
              by_cases hm : m < acc.length
              · rw [List.getElem?_append_left hm] at hy
                rw [List.getElem?_append_left (by rw [← t6.1]; exact hm)]
                exact t6.2 m y hy
              · rw [List.getElem?_append_right (by omega)] at hy
                rw [List.getElem?_append_right (by rw [← t6.1]; omega), ← t6.1]
                exact t4.2 _ y hy
            rw [List.take_add_one, hpl2, List.flatMap_append]
            have t7 := t5.mutD (zs := acc ++ acc') hacc4
            simpa [ext1] using t7
        · rintro σ H2 ⟨⟨v4, rfl⟩, s2, acc, hacc, t2⟩
          have e2 : ps.take xs.length = ps := by rw [tq.1, List.take_length]
          rw [e2] at t2
          refine ⟨_, rfl, s1.trans s2, D, acc, _, _, _, fD, rfl, hacc, ?_⟩
          rw [e1, places_snoc, hps]
          exact t2
      · rintro σ H1 ⟨s1, q, xs, v2, v3, v4, fq, rfl, hq, tq⟩
        rw [iv_len, List.take_length] at tq
        exact ⟨_, rfl, k H1 q xs s1 fq hq tq⟩
theorem ok_l_cells (T : Tx K mg a) : FnOk P w K mg base CX0 2 a.l_cells a.fd_l_cells ["_law_lengths_here", "_law_begin", "_law_steps_here"] sp_l_cells := by
  have G_l_places := ok_l_places (P := P) (w := w) (base := base) T
  refine T.F_l_cells.ok sc_l_cells (fun vs H Q E h => ?_) (fun cdv A outer s H vs Q E hr h => ?_)
  · obtain ⟨p, q, b, ls, ss, rfl, _⟩ := h
    rfl
  · obtain ⟨p, q, b, ls, ss, rfl, hp, hq, hls, hS, k⟩ := h
    refine ⟨_, (pss_cons (ps_set (i := 3) sc_l_cells.nd rfl (Or.inl rfl) (pe_lst pa_nil))
          (pss_cons (ps_for PassesOwn.never rfl (pi_list (pe_call G_l_places (hr.mono (by decide)) rfl T.m_l_places T.F_l_places.kp (b_l_places T) .nil pass0 (pa_cons (pv 0) pa_nil))) (pg_name (i := 4) sc_l_cells.nd rfl (Or.inl rfl))
            (pss_cons (ps_set (i := 5) sc_l_cells.nd rfl (Or.inl rfl) (pv 1))
          (pss_cons (ps_for PassesOwn.never rfl (RZ.pi_zipA (by rfl) T.n_zip (pa_cons (pv 4) (pa_cons (pv 2) pa_nil))) (pg_tup rfl (pgs_cons (pg_name (i := 6) sc_l_cells.nd rfl (Or.inl rfl)) (pgs_cons (pg_name (i := 7) sc_l_cells.nd rfl (Or.inl rfl)) pgs_nil)))
            (pss_one (ps_set (i := 5) sc_l_cells.nd rfl (Or.inl rfl) (pe_op op_add (pv 5) (pe_op op_mul (pv 6) (pv 7))))))
          (pss_one (ps_expr (pe_bm PySem.F.plainAttrs_list PySem.F.slot_list_append PySem.F.type_list_append mt_append (pv 3) (pa_cons (pv 5) pa_nil)))))))
          (pss_one (ps_ret (pv 3))))), ?_⟩
    refine ⟨Nat.zero_le _, fun D hD => ?_⟩
    have sD := sm_new (o := .lst []) hD
    refine ⟨_, rfl, p, ls, rfl, sD _ _ hp, hS, fun H1 q1 xs s1 fq1 hq1 t1 => ⟨q1, rfl, ⟨_, SqL.of hq1⟩, ?_⟩⟩
    have s01 := sD.trans s1
    have hD1 := s1 _ _ upd_same
    have q1D : q1 ≠ D := fun e => by rw [e, upd_same] at fq1; cases fq1
    have hbig : (places ls).length ≤ 600 := by rw [places_length]; exact hS.2.1
    refine for_it (walk_list (xs := xs)) (fun i σ H' => (∃ v4 v5 v6 v7, σ = [some (.ref p), some (.int b), some (.ref q), some (.ref D), v4, v5, v6, v7]) ∧ But D H1 H' ∧ H' D = some (.lst (zv (((places ls).take i).map (cellAt b ss))))) ⟨⟨none, none, none, none, rfl⟩, But.refl _ _, hD1⟩ (fun i σ H' _ z => SqL.of (z.2.1 _ _ q1D hq1)) ?_ ?_
    · rintro i x σ H2 H3 hi ⟨⟨v4, v5, v6, v7, rfl⟩, b2, hD2⟩ ⟨rfl, hx⟩
      obtain ⟨t, pl, rfl, hpl, ht⟩ := t1.2 i x hx
      have tD : t ≠ D := ne_of ht hD1 (by intro z; cases z)
      have qD : q ≠ D := ne_of_none hq hD
      have ht2 := b2 _ _ tD ht
      have hq2 := b2 _ _ qD (s01 _ _ hq)
      obtain hpp := places_isPlace ls pl (List.mem_of_getElem? hpl)
      have hmin : pl.length = min (iv pl).length (zv ss).length := by have := hpp.1; rw [iv_len, zv_len]; omega
      have hk6 := place_le hS hpp
      refine ⟨_, rfl, _, rfl, _, rfl, t, q, _, _, rfl, .inr ⟨SqT.of ht2, SqT.of hq2, for_it (walk_zipT hmin) (fun j σ H' => Same H3 H' ∧ ∃ v6 v7, σ = [some (.ref p), some (.int b), some (.ref q), some (.ref D), some (.ref t), some (.int (b + dot (pl.take j) (ss.take j))), v6, v7]) ⟨Same.refl _, v6, v7, ?_⟩ (fun j σ H' _ z => ⟨SqT.of (z.1 _ _ ht2), SqT.of (z.1 _ _ hq2)⟩) ?_ ?_⟩⟩
      · rw [List.take_zero, List.take_zero]
        show _ = [some (V.ref p), _, _, _, _, some (V.int (b + 0)), _, _]
        rw [Int.add_zero]
        rfl
      · rintro j x σ H4 H5 hj ⟨s4, v6, v7, rfl⟩ ⟨T', x1, x2, rfl, hT, rfl, e1, e2⟩
        obtain ⟨n, hn, rfl⟩ := iv_get e1
        obtain ⟨z, hz, rfl⟩ := zv_get e2
        have := hk6 n (List.mem_of_getElem? hn)
        refine g_pair ?_
        refine ⟨_, rfl, _, rfl, _, rfl, _, _, rfl, rfl, .inl ⟨by omega, by omega⟩, _, _, rfl, rfl, sm_upd s4 hT, some (.int (n : Int)), some (.int z), ?_⟩
        rw [dot_take hn hz, ← Int.add_assoc]
        rfl
      · rintro σ H4 ⟨s4, v6, v7, rfl⟩
        have e : b + dot (pl.take pl.length) (ss.take pl.length) = cellAt b ss pl := by
          rw [List.take_length, List.take_of_length_le (by have := hpp.1; omega)]
          rfl
        rw [e]
        have hD4 := s4 _ _ hD2
        refine ⟨_, rfl, .inl ⟨rfl, _, SqL.of hD4⟩, _, rfl, D, _, _, rfl, rfl, hD4, bigL (by rw [zv_len, List.length_map, List.length_take]; omega), ?_⟩
        refine ⟨⟨_, _, _, _, rfl⟩, fun c o n e => by rw [upd_ne n]; exact s4 _ _ (b2 _ _ n e), ?_⟩
        rw [upd_same, List.take_add_one, hpl]
        simp [zv]
    · rintro σ H2 ⟨⟨v4, v5, v6, v7, rfl⟩, b2, hD2⟩
      rw [t1.1, List.take_length, ← cells_places ls ss b hls] at hD2
      exact ⟨_, rfl, k H2 D (fun c o e => b2 _ _ (ne_of_none e hD) (s01 _ _ e)) hD hD2⟩
end
end VG

set_option linter.all false
namespace VG
/-- the product of the lengths, those of 0 left out -/
def P1 (ls : List Nat) : Nat := size (ls.map fun l => max 1 l)
def Lens (ls : List Nat) : Prop := ls.length ≤ 5 ∧ P1 ls ≤ 24
theorem P1_nil : P1 [] = 1 := rfl
theorem P1_cons (l : Nat) (ls : List Nat) : P1 (l :: ls) = max 1 l * P1 ls := by unfold P1; rw [List.map_cons, size_cons]
theorem P1_snoc (ls : List Nat) (l : Nat) : P1 (ls ++ [l]) = P1 ls * max 1 l := by unfold P1; rw [List.map_append, List.map_cons, List.map_nil, size_snoc]
theorem P1_pos (ls : List Nat) : 1 ≤ P1 ls := by
  unfold P1
  apply size_pos.mpr
  intro l hl
  obtain ⟨x, _, e⟩ := List.mem_map.mp hl
  omega
theorem size_le_P1 : ∀ ls : List Nat, size ls ≤ P1 ls
  | [] => Nat.le_refl _
  | l :: ls => by
    rw [size_cons, P1_cons]
    exact Nat.mul_le_mul (by omega) (size_le_P1 ls)
theorem mem_le_P1 : ∀ {ls : List Nat} {l : Nat}, l ∈ ls → l ≤ P1 ls
  | x :: ls, l, h => by
    rw [P1_cons]
    have h1 := P1_pos ls
    rcases List.mem_cons.mp h with e | e
    · subst e
      exact Nat.le_trans (by omega : l ≤ max 1 l) (Nat.le_mul_of_pos_right _ h1)
    · exact Nat.le_trans (mem_le_P1 e) (Nat.le_mul_of_pos_left _ (by omega))
theorem P1_drop (ls : List Nat) : ∀ k, P1 (ls.drop k) ≤ P1 ls := by
  induction ls with
  | nil => intro k; rw [List.drop_nil]; exact Nat.le_refl _
  | cons x r ih =>
    intro k
    cases k with
    | zero => exact Nat.le_refl _
    | succ k =>
      rw [List.drop_succ_cons, P1_cons]
      exact Nat.le_trans (ih k) (Nat.le_mul_of_pos_left _ (by omega))
/-- lengths of which some are put to 1 -/
theorem P1_ones : ∀ {ls ms : List Nat}, ms.length = ls.length → (∀ (i l m : Nat), ls[i]? = some l → ms[i]? = some m → m = 1 ∨ m = l) → P1 ms ≤ P1 ls
  | [], [], _, _ => Nat.le_refl _
  | [], m :: ms, h, _ => by simp at h
  | l :: ls, [], h, _ => by simp at h
  | l :: ls, m :: ms, h, k => by
    rw [P1_cons, P1_cons]
    refine Nat.mul_le_mul ?_ (P1_ones (by simpa using h) fun i l' m' h1 h2 => k (i + 1) l' m' (by simpa using h1) (by simpa using h2))
    rcases k 0 l m rfl rfl with e | e <;> subst e <;> omega
theorem Lens.ones {ls ms : List Nat} (h : Lens ls) (e : ms.length = ls.length) (k : ∀ (i l m : Nat), ls[i]? = some l → ms[i]? = some m → m = 1 ∨ m = l) : Lens ms := ⟨by rw [e]; exact h.1, Nat.le_trans (P1_ones e k) h.2⟩
theorem Lens.drop {ls : List Nat} (h : Lens ls) (k : Nat) : Lens (ls.drop k) := ⟨by rw [List.length_drop]; have := h.1; omega, Nat.le_trans (P1_drop ls k) h.2⟩
/-! ### steps drawn side by side, in any order -/
/-- what is left multiplied -/
def PL (ls left : List Nat) : Nat := size (left.map fun i => max 1 (ls.getD i 0))
theorem size_erase : ∀ {xs : List Nat} {k x : Nat}, xs[k]? = some x → size xs = x * size (xs.eraseIdx k)
  | y :: ys, 0, x, h => by
    have e : y = x := by simpa using h
    rw [e, size_cons]
    rfl
  | y :: ys, k + 1, x, h => by
    have ih := size_erase (xs := ys) (k := k) (x := x) (by simpa using h)
    rw [size_cons, ih, List.eraseIdx_cons_succ, size_cons, ← Nat.mul_assoc, ← Nat.mul_assoc, Nat.mul_comm y x]
theorem map_erase {α β : Type} (f : α → β) : ∀ (xs : List α) (k : Nat), (xs.map f).eraseIdx k = (xs.eraseIdx k).map f
  | [], k => by simp
  | x :: xs, 0 => by simp
  | x :: xs, k + 1 => by simp [map_erase f xs k]
theorem PL_erase {ls left : List Nat} {k i : Nat} (h : left[k]? = some i) : PL ls left = max 1 (ls.getD i 0) * PL ls (left.eraseIdx k) := by
  unfold PL
  rw [size_erase (k := k) (x := max 1 (ls.getD i 0)) (by rw [List.getElem?_map, h]; rfl), map_erase]
theorem PL_pos (ls left : List Nat) : 1 ≤ PL ls left := by
  unfold PL
  apply size_pos.mpr
  intro l hl
  obtain ⟨x, _, e⟩ := List.mem_map.mp hl
  omega
theorem PL_all (ls : List Nat) : PL ls (List.range ls.length) = P1 ls := by
  unfold PL P1
  congr 1
  apply List.ext_getElem?
  intro i
  by_cases h : i < ls.length
  · simp [h]
  · rw [List.getElem?_eq_none (by simp; omega), List.getElem?_eq_none (by simp; omega)]
end VG

set_option Elab.async false
set_option linter.all false
set_option maxRecDepth 100000
set_option maxHeartbeats 4000000
namespace VG
open PySem PySem.Spec PyProof.Rows L2
theorem Lens.sides {ls : List Nat} (h : Lens ls) : Sides ls := by
  have h1 := size_le_P1 ls
  exact ⟨h.1, by have := h.2; omega, fun l hl => by have := mem_le_P1 hl; have := h.2; omega⟩
def sp_l_lengths : Sp := fun vs H Q _ => ∃ (p : Addr) (n : Nat), vs = [.ref p, .int 24] ∧ Pu H p n ∧ n + 100 ≤ 2 ^ 40 ∧ ∀ H' t ls, But p H H' → Pu H' p (n + 20) → H' t = some (.tup (iv ls)) → Lens ls → Q (.ref t) H'
section
variable {P : Program} {w : World} {K : PySem.W.Frag} {mg : Str → Option Value} {base : Heap} {a : Adr}
theorem ok_l_lengths (T : Tx K mg a) : FnOk P w K mg base CX0 2 a.l_lengths a.fd_l_lengths ["_law_purse_here", "_law_most"] sp_l_lengths := by
  have G_l_take := ok_l_take (P := P) (w := w) (base := base) T
  refine T.F_l_lengths.ok sc_l_lengths (fun vs H Q E h => ?_) (fun cdv A outer s H vs Q E hr h => ?_)
  · obtain ⟨p, n, rfl, _⟩ := h
    rfl
  · obtain ⟨p, n, rfl, hp, hn, k⟩ := h
    refine ⟨_, (pss_cons (ps_set (i := 2) sc_l_lengths.nd rfl (Or.inl rfl) (pe_tup pa_nil))
          (pss_cons (ps_set (i := 3) sc_l_lengths.nd rfl (Or.inl rfl) pe_int)
          (pss_cons (ps_for PassesOwn.never rfl (pi_range1 (by rfl) T.n_range (pa_cons (pe_ix ix_list (pe_lst (pa_cons pe_int (pa_cons pe_int (pa_cons pe_int (pa_cons pe_int (pa_cons pe_int (pa_cons pe_int (pa_cons pe_int (pa_cons pe_int pa_nil))))))))) (pe_call G_l_take (hr.mono (by decide)) rfl T.m_l_take T.F_l_take.kp (b_l_take T) .nil pass0 (pa_cons (pv 0) (pa_cons pe_int pa_nil))) (fun _ _ => rfl)) pa_nil)) (pg_name (i := 4) sc_l_lengths.nd rfl (Or.inl rfl))
            (pss_cons (ps_set (i := 5) sc_l_lengths.nd rfl (Or.inl rfl) (pe_ix ix_list (pe_lst (pa_cons pe_int (pa_cons pe_int (pa_cons pe_int (pa_cons pe_int (pa_cons pe_int (pa_cons pe_int (pa_cons pe_int (pa_cons pe_int pa_nil))))))))) (pe_call G_l_take (hr.mono (by decide)) rfl T.m_l_take T.F_l_take.kp (b_l_take T) .nil pass0 (pa_cons (pv 0) (pa_cons pe_int pa_nil))) (fun _ _ => rfl)))
          (pss_cons (ps_set (i := 6) sc_l_lengths.nd rfl (Or.inl rfl) (pe_op op_add pe_int (pe_call G_l_take (hr.mono (by decide)) rfl T.m_l_take T.F_l_take.kp (b_l_take T) .nil pass0 (pa_cons (pv 0) (pa_cons (pv 5) pa_nil)))))
          (pss_cons (ps_if (pt_cmpR op_gt (pe_op op_mul (pv 3) (pv 6)) (pv 1) (nomark _)) (pss_one (ps_set (i := 6) sc_l_lengths.nd rfl (Or.inl rfl) pe_int)) pss_nil)
          (pss_cons (ps_set (i := 3) sc_l_lengths.nd rfl (Or.inl rfl) (pe_op op_mul (pv 3) (pv 6)))
          (pss_one (ps_set (i := 2) sc_l_lengths.nd rfl (Or.inl rfl) (pe_op op_catA (pv 2) (pe_tup (pa_cons (pe_ix ix_list (pe_lst (pa_cons (pv 6) (pa_cons pe_int pa_nil))) (pe_callTy call_int1 (by rfl) T.n_int (by decide +kernel) (pa_cons (pe_cmpR op_eq (pe_call G_l_take (hr.mono (by decide)) rfl T.m_l_take T.F_l_take.kp (b_l_take T) .nil pass0 (pa_cons (pv 0) (pa_cons pe_int pa_nil))) pe_int (nomark _)) pa_nil)) (fun _ _ => rfl)) pa_nil))))))))))
          (pss_one (ps_ret (pv 2)))))), ?_⟩
    obtain ⟨zs, hlp⟩ := hp.lst
    refine ⟨Nat.zero_le _, fun t0 ht0 => ?_⟩
    have s0 := sm_new (o := .tup []) ht0
    refine ⟨by show 8 ≤ sizeLine; decide, fun l hl => ?_⟩
    have s1 := sm_upd (o := .lst [.int 4, .int 1, .int 2, .int 3, .int 3, .int 2, .int 0, .int 5]) s0 hl
    have lp : l ≠ p := Ne.symm (ne_of_none (s0 _ _ hlp) hl)
    have tp0 : t0 ≠ p := Ne.symm (ne_of_none hlp ht0)
    have t0l : t0 ≠ l := ne_of_none upd_same hl
    refine ⟨_, rfl, p, 8, n, rfl, hp.same s1, by omega, by decide, by decide, fun H1 d b1 p1 d0 d8 => ?_⟩
    have hat : ∃ v : Int, atI [V.int 4, .int 1, .int 2, .int 3, .int 3, .int 2, .int 0, .int 5] d = some (.int v) ∧ 0 ≤ v ∧ v ≤ 5 := by
      have h : d = 0 ∨ d = 1 ∨ d = 2 ∨ d = 3 ∨ d = 4 ∨ d = 5 ∨ d = 6 ∨ d = 7 := by omega
      rcases h with e | e | e | e | e | e | e | e <;> subst e <;> exact ⟨_, rfl, by decide, by decide⟩
    obtain ⟨m, hm, m0, m5⟩ := hat
    refine ⟨l, _, d, _, rfl, rfl, SqL.of (b1 l _ lp upd_same), hm, _, rfl, by omega, by omega, ?_⟩
    refine for_it walk_range (fun i σ H' => But p H H' ∧ Pu H' p (n + 1 + 3 * i) ∧ ∃ (t : Addr) (sz : Nat) (v4 v5 v6 : Option V) (ls : List Nat), σ = [some (.ref p), some (.int 24), some (.ref t), some (.int (sz : Int)), v4, v5, v6] ∧ H' t = some (.tup (iv ls)) ∧ ls.length = i ∧ P1 ls ≤ sz ∧ sz ≤ 24)
      ⟨fun c o n e => b1 c o n (s1 _ _ e), p1.mono (by omega), t0, 1, none, none, none, [], rfl, b1 t0 _ tp0 (by rw [upd_ne t0l]; exact upd_same), rfl, Nat.le_refl _, by omega⟩ (fun _ _ _ _ _ => trivial) ?_ ?_
    · rintro i x σ H2 H3 hi ⟨bb, pp, t, sz, v4, v5, v6, ls, rfl, ht, hl1, hP, hsz⟩ ⟨rfl, rfl⟩
      have hi5 : i < 5 := by omega
      refine ⟨by show 8 ≤ sizeLine; decide, fun l2 hl2 => ?_⟩
      have s2 := sm_new (o := .lst [.int 6, .int 6, .int 6, .int 4, .int 3, .int 3, .int 2, .int 19]) hl2
      obtain ⟨zs2, hlp2⟩ := pp.lst
      have lp2 : l2 ≠ p := Ne.symm (ne_of_none hlp2 hl2)
      refine ⟨_, rfl, p, 8, _, rfl, pp.same s2, by omega, by decide, by decide, fun H4 d2 b4 p4 d20 d28 => ?_⟩
      have hat2 : ∃ v : Int, atI [V.int 6, .int 6, .int 6, .int 4, .int 3, .int 3, .int 2, .int 19] d2 = some (.int v) ∧ 1 ≤ v ∧ v ≤ 19 := by
        have h : d2 = 0 ∨ d2 = 1 ∨ d2 = 2 ∨ d2 = 3 ∨ d2 = 4 ∨ d2 = 5 ∨ d2 = 6 ∨ d2 = 7 := by omega
        rcases h with e | e | e | e | e | e | e | e <;> subst e <;> exact ⟨_, rfl, by decide, by decide⟩
      obtain ⟨m2, hm2, m20, m25⟩ := hat2
      refine ⟨l2, _, d2, _, rfl, rfl, SqL.of (b4 l2 _ lp2 upd_same), hm2, ?_⟩
      refine ⟨_, rfl, _, rfl, p, m2, _, rfl, p4, by omega, by omega, by omega, fun H5 d3 b5 p5 d30 d31 => ?_⟩
      have tp : t ≠ p := ne_of ht hlp2 (by intro z; cases z)
      have ht5 := b5 t _ tp (b4 t _ tp (s2 _ _ ht))
      refine ⟨_, _, rfl, rfl, ?_⟩
      refine ⟨_, rfl, _, rfl, _, _, rfl, rfl, .inl ⟨by omega, by omega⟩, _, rfl, _, _, rfl, rfl, _, rfl, ?_⟩
      have b35 : But p H H5 := fun c o n e => b5 c o n (b4 c o n (s2 _ _ (bb c o n e)))
      by_cases hgt : (sz : Int) * (1 + d3) > 24
      · refine ifT hgt ?_
        obtain ⟨X, eX, hX1, hX2⟩ : ∃ X : Nat, (X : Int) = 1 ∧ 1 ≤ X ∧ sz * X ≤ 24 := ⟨1, rfl, by omega, by omega⟩
        refine ⟨_, rfl, _, rfl, _, _, rfl, rfl, .inl ⟨by omega, by omega⟩, ?_⟩
        refine ⟨_, rfl, _, rfl, by show 2 ≤ sizeLine; decide, fun l3 hl3 => ?_⟩
        have s6 := sm_new (o := .lst [.int (1), .int 0]) hl3
        obtain ⟨zs5, hlp5⟩ := p5.lst
        have lp3 : l3 ≠ p := Ne.symm (ne_of_none hlp5 hl3)
        refine ⟨_, rfl, p, 20, _, rfl, p5.same s6, by omega, by decide, by decide, fun H6 d4 b6 p6 d40 d41 => ?_⟩
        have hl36 := b6 l3 _ lp3 upd_same
        have ht6 := b6 t _ tp (s6 _ _ ht5)
        have b36 : But p H H6 := fun c o n e => b6 c o n (s6 _ _ (b35 c o n e))
        obtain ⟨x, hx, hx2⟩ : ∃ x : Nat, atI [V.int (1), .int 0] (if decide (V.int d4 = V.int 7) = true then 1 else 0) = some (.int (x : Int)) ∧ max 1 x ≤ X := by
          by_cases e : d4 = 7
          · subst e
            exact ⟨0, rfl, by omega⟩
          · refine ⟨X, ?_, by omega⟩
            rw [decide_eq_false (fun q => e (by injection q)), eX]
            rfl
        have hP2 : P1 (ls ++ [x]) ≤ sz * X := by
          rw [P1_snoc]
          exact Nat.mul_le_mul hP hx2
        have hszX : (sz : Int) * (1) = ((sz * X : Nat) : Int) := by rw [Int.natCast_mul, eX]
        have hpp : n + 1 + 3 * i + 1 + 1 + 1 = n + 1 + 3 * (i + 1) := by omega
        rw [hpp] at p6
        have ev : iv (ls ++ [x]) = iv ls ++ [.int (x : Int)] := by rw [iv_eq, iv_eq, List.map_append]; rfl
        refine ⟨rfl, .inr ⟨_, rfl, l3, _, _, _, rfl, rfl, SqL.of hl36, hx, by show 1 ≤ sizeLine; decide, fun t6 ht6n => ?_⟩⟩
        have s7 := sm_new (o := .tup [.int (x : Int)]) ht6n
        refine ⟨t, t6, iv ls, [.int (x : Int)], rfl, rfl, SqT.of (s7 _ _ ht6), SqT.of upd_same, big (by rw [iv_len]; simp; omega), fun en => ?_, fun _ en => (nomatch en), fun _ _ t7 ht7 => ?_⟩
        · have en' : ls = [] := by simpa using en
          subst en'
          refine ⟨fun c o n e => s7 _ _ (b36 c o n e), p6.same s7, t6, sz * X, some (.int (0 + ((i : Nat) : Int))), some (.int m2), some (.int (1)), [x], ?_, upd_same, by simp at hl1 ⊢; omega, by simpa using hP2, hX2⟩
          rw [← hszX]
          rfl
        · have s8 := sm_upd (o := .tup (iv ls ++ [.int (x : Int)])) s7 ht7
          refine ⟨fun c o n e => s8 _ _ (b36 c o n e), p6.same s8, t7, sz * X, some (.int (0 + ((i : Nat) : Int))), some (.int m2), some (.int (1)), ls ++ [x], ?_, by rw [upd_same, ev], by rw [List.length_append, hl1]; rfl, hP2, hX2⟩
          rw [← hszX]
          rfl
      · refine ifF hgt ?_
        obtain ⟨X, eX, hX1, hX2⟩ : ∃ X : Nat, (X : Int) = 1 + d3 ∧ 1 ≤ X ∧ sz * X ≤ 24 := by
          refine ⟨(1 + d3).toNat, by omega, by omega, ?_⟩
          have e : (((sz * (1 + d3).toNat : Nat) : Int)) = (sz : Int) * (1 + d3) := by
            rw [Int.natCast_mul, Int.toNat_of_nonneg (by omega)]
          omega
        refine ⟨_, rfl, _, rfl, _, _, rfl, rfl, .inl ⟨by omega, by omega⟩, ?_⟩
        refine ⟨_, rfl, _, rfl, by show 2 ≤ sizeLine; decide, fun l3 hl3 => ?_⟩
        have s6 := sm_new (o := .lst [.int (1 + d3), .int 0]) hl3
        obtain ⟨zs5, hlp5⟩ := p5.lst
        have lp3 : l3 ≠ p := Ne.symm (ne_of_none hlp5 hl3)
        refine ⟨_, rfl, p, 20, _, rfl, p5.same s6, by omega, by decide, by decide, fun H6 d4 b6 p6 d40 d41 => ?_⟩
        have hl36 := b6 l3 _ lp3 upd_same
        have ht6 := b6 t _ tp (s6 _ _ ht5)
        have b36 : But p H H6 := fun c o n e => b6 c o n (s6 _ _ (b35 c o n e))
        obtain ⟨x, hx, hx2⟩ : ∃ x : Nat, atI [V.int (1 + d3), .int 0] (if decide (V.int d4 = V.int 7) = true then 1 else 0) = some (.int (x : Int)) ∧ max 1 x ≤ X := by
          by_cases e : d4 = 7
          · subst e
            exact ⟨0, rfl, by omega⟩
          · refine ⟨X, ?_, by omega⟩
            rw [decide_eq_false (fun q => e (by injection q)), eX]
            rfl
        have hP2 : P1 (ls ++ [x]) ≤ sz * X := by
          rw [P1_snoc]
          exact Nat.mul_le_mul hP hx2
        have hszX : (sz : Int) * (1 + d3) = ((sz * X : Nat) : Int) := by rw [Int.natCast_mul, eX]
        have hpp : n + 1 + 3 * i + 1 + 1 + 1 = n + 1 + 3 * (i + 1) := by omega
        rw [hpp] at p6
        have ev : iv (ls ++ [x]) = iv ls ++ [.int (x : Int)] := by rw [iv_eq, iv_eq, List.map_append]; rfl
        refine ⟨rfl, .inr ⟨_, rfl, l3, _, _, _, rfl, rfl, SqL.of hl36, hx, by show 1 ≤ sizeLine; decide, fun t6 ht6n => ?_⟩⟩
        have s7 := sm_new (o := .tup [.int (x : Int)]) ht6n
        refine ⟨t, t6, iv ls, [.int (x : Int)], rfl, rfl, SqT.of (s7 _ _ ht6), SqT.of upd_same, big (by rw [iv_len]; simp; omega), fun en => ?_, fun _ en => (nomatch en), fun _ _ t7 ht7 => ?_⟩
        · have en' : ls = [] := by simpa using en
          subst en'
          refine ⟨fun c o n e => s7 _ _ (b36 c o n e), p6.same s7, t6, sz * X, some (.int (0 + ((i : Nat) : Int))), some (.int m2), some (.int (1 + d3)), [x], ?_, upd_same, by simp at hl1 ⊢; omega, by simpa using hP2, hX2⟩
          rw [← hszX]
          rfl
        · have s8 := sm_upd (o := .tup (iv ls ++ [.int (x : Int)])) s7 ht7
          refine ⟨fun c o n e => s8 _ _ (b36 c o n e), p6.same s8, t7, sz * X, some (.int (0 + ((i : Nat) : Int))), some (.int m2), some (.int (1 + d3)), ls ++ [x], ?_, by rw [upd_same, ev], by rw [List.length_append, hl1]; rfl, hP2, hX2⟩
          rw [← hszX]
          rfl
    · rintro σ H2 ⟨bb, pp, t, sz, v4, v5, v6, ls, rfl, ht, hl1, hP, hsz⟩
      exact ⟨_, rfl, k H2 t ls bb (pp.mono (by omega)) ht ⟨by omega, by omega⟩⟩
end
end VG

set_option Elab.async false
set_option linter.all false
set_option maxRecDepth 100000
set_option maxHeartbeats 4000000
namespace VG
open PySem PySem.Spec PyProof.Rows L2
/-! ### lists of whole numbers compared -/
section
variable {K : PySem.W.Frag} {H : Hp}
theorem dpAll_ints : ∀ ns : List Int, DpAll K H (ns.map V.int) (ns.map PyData.int)
  | [] => .nil
  | n :: ns => .cons (.int n) (dpAll_ints ns)
theorem dp_ints {p : Addr} {ns : List Int} (h : H p = some (.lst (zv ns))) : Dp K H (.ref p) (.list (ns.map PyData.int)) := .lst (SqL.of h) (dpAll_ints ns)
theorem lay_ints : ∀ ns : List Int, PyData.canLayAll0 (ns.map PyData.int) = true
  | [] => by simp [PyData.canLayAll0]
  | n :: ns => by simp [PyData.canLayAll0, PyData.canLay0, lay_ints ns]
theorem deep_ints : ∀ ns : List Int, PyData.depthAll (ns.map PyData.int) = 0
  | [] => by simp [PyData.depthAll]
  | n :: ns => by simp [PyData.depthAll, PyData.depth, deep_ints ns]
theorem shaped_ints (ns : List Int) : SeqAt.shaped (.list (ns.map PyData.int)) = true := by
  unfold SeqAt.shaped
  simp [PyData.canLay0, lay_ints ns, PyData.depth, deep_ints ns]
theorem eqvAll_ints : ∀ xs ys : List Int, PyData.eqvAll (xs.map PyData.int) (ys.map PyData.int) = decide (xs = ys)
  | [], [] => by simp [PyData.eqvAll]
  | [], y :: ys => by simp [PyData.eqvAll]
  | x :: xs, [] => by simp [PyData.eqvAll]
  | x :: xs, y :: ys => by
    rw [List.map_cons, List.map_cons, PyData.eqvAll, eqvAll_ints xs ys, PyData.eqv]
    by_cases h : x = y
    · subst h; simp
    · simp [h]
theorem ne_ints {p q : Addr} {xs ys : List Int} {Q : VK} (hp : H p = some (.lst (zv xs))) (hq : H q = some (.lst (zv ys))) (k : Q (.bl (!decide (xs = ys))) H) : rNeD K (.ref p) (.ref q) H Q := by
  refine ⟨_, _, dp_ints hp, dp_ints hq, shaped_ints xs, shaped_ints ys, ?_⟩
  rw [PyData.eqv, eqvAll_ints]
  exact k
theorem eq_ints {p q : Addr} {xs ys : List Int} {Q : VK} (hp : H p = some (.lst (zv xs))) (hq : H q = some (.lst (zv ys))) (k : Q (.bl (decide (xs = ys))) H) : rEqD K (.ref p) (.ref q) H Q := by
  refine ⟨_, _, dp_ints hp, dp_ints hq, shaped_ints xs, shaped_ints ys, ?_⟩
  rw [PyData.eqv, eqvAll_ints]
  exact k
end
end VG

set_option Elab.async false
set_option linter.all false
set_option maxRecDepth 100000
set_option maxHeartbeats 4000000
namespace VG
open PySem PySem.Spec PyProof.Rows L2
theorem iv_erase (ls : List Nat) (k : Nat) : (iv ls).eraseIdx k = iv (ls.eraseIdx k) := by rw [iv_eq, iv_eq, map_erase]
theorem zv_set (ns : List Int) (k : Nat) (z : Int) : (zv ns).set k (.int z) = zv (ns.set k z) := by unfold zv; rw [List.map_set]
theorem rgV_iv (n : Nat) : rgV 0 (n : Int) = iv (List.range n) := by
  unfold rgV
  rw [iv_eq]
  have e : ((n : Int) - 0).toNat = n := by omega
  rw [e]
  refine List.map_congr_left fun i _ => ?_
  rw [Int.zero_add]
theorem strides_set {fs : List Int} {k : Nat} {z : Int} (h : Strides fs) (hz : -600 ≤ z ∧ z ≤ 600) : Strides (fs.set k z) := by
  intro s hs
  rcases List.mem_or_eq_of_mem_set hs with e | e
  · exact h s e
  · rw [e]; exact hz
theorem gd_nat {ls : List Nat} {i n : Nat} (h : ls[i]? = some n) : ls.getD i 0 = n := by rw [List.getD_eq_getElem?_getD, h]; rfl
def sp_l_unlike : Sp := fun vs H Q _ => ∃ (p q : Addr) (n : Nat) (ls : List Nat), vs = [.ref p, .ref q] ∧ Pu H p n ∧ n + 100 ≤ 2 ^ 40 ∧ H q = some (.tup (iv ls)) ∧ Lens ls ∧
  ∀ H' t ss, But p H H' → Pu H' p (n + 20) → H' t = some (.tup (zv ss)) → ls.length = ss.length → Strides ss → Q (.ref t) H'
/-- a step drawn side by side -/
theorem unlike_next {ls left : List Nat} {s e : Int} {j k i : Nat} (h1 : 1 ≤ s) (h2 : s * (PL ls left : Int) ≤ (2 + (j : Int)) * 24) (h3 : PL ls left ≤ 24) (hk : left[k]? = some i) (he : 0 ≤ e ∧ e ≤ 1) (m : Nat) (hm : m = max 1 (ls.getD i 0)) :
    1 ≤ s * (m : Int) + e ∧ (s * (m : Int) + e) * (PL ls (left.eraseIdx k) : Int) ≤ (2 + ((j + 1 : Nat) : Int)) * 24 ∧ PL ls (left.eraseIdx k) ≤ 24 := by
  have e1 := PL_erase (ls := ls) hk
  rw [← hm] at e1
  have hm1 : 1 ≤ m := by omega
  have e2 : PL ls (left.eraseIdx k) ≤ PL ls left := by rw [e1]; exact Nat.le_mul_of_pos_left _ hm1
  have p0 := PL_pos ls (left.eraseIdx k)
  have e3 : s * (PL ls left : Int) = s * (m : Int) * (PL ls (left.eraseIdx k) : Int) := by rw [e1, Int.natCast_mul, Int.mul_assoc]
  generalize hP : PL ls (left.eraseIdx k) = P' at *
  have e4 : (s * (m : Int) + e) * (P' : Int) = s * (PL ls left : Int) + e * (P' : Int) := by rw [Int.add_mul, e3]
  have e5 : e * (P' : Int) ≤ 24 := by
    rcases (show e = 0 ∨ e = 1 by omega) with q | q <;> subst q
    · rw [Int.zero_mul]; omega
    · rw [Int.one_mul]; omega
  refine ⟨?_, by rw [e4]; omega, by omega⟩
  have : 1 ≤ s * (m : Int) := by
    have := Int.mul_le_mul h1 (show (1 : Int) ≤ (m : Int) by omega) (by decide) (by omega)
    omega
  omega
theorem step_small {s : Int} {P j : Nat} (h1 : 1 ≤ s) (h2 : s * (P : Int) ≤ (2 + (j : Int)) * 24) (hP : 1 ≤ P) (hj : j ≤ 5) : s ≤ 168 := by
  have : s * 1 ≤ s * (P : Int) := Int.mul_le_mul_of_nonneg_left (by omega) (by omega)
  omega
section
variable {P : Program} {w : World} {K : PySem.W.Frag} {mg : Str → Option Value} {base : Heap} {a : Adr}
theorem ok_l_unlike_steps (T : Tx K mg a) : FnOk P w K mg base CX0 2 a.l_unlike_steps a.fd_l_unlike_steps ["_law_purse_here", "_law_lengths_here"] sp_l_unlike := by
  have G_l_take := ok_l_take (P := P) (w := w) (base := base) T
  refine T.F_l_unlike_steps.ok sc_l_unlike_steps (fun vs H Q E h => ?_) (fun cdv A outer s H vs Q E hr h => ?_)
  · obtain ⟨p, q, n, ls, rfl, _⟩ := h
    rfl
  · obtain ⟨p, q, n, ls, rfl, hp, hn, hq, hL, k⟩ := h
    refine ⟨_, (pss_cons (ps_set (i := 2) sc_l_unlike_steps.nd rfl (Or.inl rfl) (pe_listRg (by rfl) (by rfl) T.n_list (prg_1 (by rfl) T.n_range (pe_callB call_len_seq (by rfl) T.n_len (by decide +kernel) (pa_cons (pv 1) pa_nil)))))
          (pss_cons (ps_set (i := 3) sc_l_unlike_steps.nd rfl (Or.inl rfl) (pe_op op_add pe_int (pe_call G_l_take (hr.mono (by decide)) rfl T.m_l_take T.F_l_take.kp (b_l_take T) .nil pass0 (pa_cons (pv 0) (pa_cons pe_int pa_nil)))))
          (pss_cons (ps_setLc (i := 4) (own := [("_law_length", 6)]) rfl sc_l_unlike_steps.nd rfl rfl (sw_true rfl rfl rfl (by decide +kernel)) (pi_tup (pv 1)) (blkOk_by (N := ["_law_purse_here", "_law_lengths_here", "_law_left", "_law_step", "_law_found", "_law_at", "_law_length"]) (sc := defScope s_l_unlike_steps) (own := [("_law_length", 6)]) (by decide +kernel)) (fun _ _ _ _ _ => (pg_name (i := 6) sc_l_unlike_steps.nd rfl (Or.inl rfl))) (fun _ _ _ _ _ => pts_nil) (fun _ _ _ _ _ => pe_int))
          (pss_cons (ps_while PassesOwn.never (pt_cmpR (op_neD hr.units) (pv 2) (pe_lst pa_nil) (nomark _)) (pss_cons (ps_set (i := 5) sc_l_unlike_steps.nd rfl (Or.inl rfl) (pe_bm PySem.F.plainAttrs_list PySem.F.slot_list_pop PySem.F.type_list_pop mt_popAt (pv 2) (pa_cons (pe_call G_l_take (hr.mono (by decide)) rfl T.m_l_take T.F_l_take.kp (b_l_take T) .nil pass0 (pa_cons (pv 0) (pa_cons (pe_callB call_len_seq (by rfl) T.n_len (by decide +kernel) (pa_cons (pv 2) pa_nil)) pa_nil))) pa_nil)))
          (pss_cons (ps_asg (pe_op op_mul (pv 3) (pe_ix ix_list (pe_lst (pa_cons pe_int (pa_cons pe_int (pa_cons (pe_un un_neg pe_int) pa_nil)))) (pe_call G_l_take (hr.mono (by decide)) rfl T.m_l_take T.F_l_take.kp (b_l_take T) .nil pass0 (pa_cons (pv 0) (pa_cons pe_int pa_nil))) (fun _ _ => rfl))) (pg_sub (pv 4) (pv 5) set_list))
          (pss_one (ps_set (i := 3) sc_l_unlike_steps.nd rfl (Or.inl rfl) (pe_op op_add (pe_op op_mul (pv 3) (pe_callB (call_max2 rfl) (by rfl) T.n_max (by decide +kernel) (pa_cons pe_int (pa_cons (pe_ix ix_tup (pv 1) (pv 5) (fun _ _ => rfl)) pa_nil)))) (pe_ix ix_list (pe_lst (pa_cons pe_int (pa_cons pe_int (pa_cons pe_int pa_nil)))) (pe_call G_l_take (hr.mono (by decide)) rfl T.m_l_take T.F_l_take.kp (b_l_take T) .nil pass0 (pa_cons (pv 0) (pa_cons pe_int pa_nil))) (fun _ _ => rfl))))))))
          (pss_one (ps_ret (pe_callTy call_tuple_of (by rfl) T.n_tuple (by decide +kernel) (pa_cons (pv 4) pa_nil)))))))), ?_⟩
    obtain ⟨zs, hlp⟩ := hp.lst
    have h5 := hL.1
    have qp : q ≠ p := ne_of hq hlp (by intro z; cases z)
    refine ⟨_, rfl, q, _, rfl, .inr (SqT.of hq), _, rfl, ⟨by decide, by decide, by omega, by rw [iv_len]; omega, by rw [iv_len]; omega⟩, fun L hLn => ?_⟩
    rw [iv_len, rgV_iv]
    have s0 := sm_new (o := .lst (iv (List.range ls.length))) hLn
    have Lp : L ≠ p := Ne.symm (ne_of_none hlp hLn)
    refine ⟨_, rfl, p, 2, n, rfl, hp.same s0, by omega, by decide, by decide, fun H1 d b1 p1 d0 d2 => ⟨_, _, rfl, rfl, ?_⟩⟩
    have b01 : But p H H1 := fun c o n e => b1 c o n (s0 _ _ e)
    have hq1 := b01 q _ qp hq
    have hL1 := b1 L _ Lp upd_same
    refine ⟨_, rfl, q, rfl, ⟨_, SqT.of hq1⟩, fun F hFn => ?_⟩
    have FL : L ≠ F := ne_of_none hL1 hFn
    obtain ⟨zs1, hlp1⟩ := p1.lst
    have Fp : F ≠ p := Ne.symm (ne_of_none hlp1 hFn)
    have hF0 : H F = none := by
      cases e : H F with
      | none => rfl
      | some o =>
        have := b01 F o Fp e
        rw [hFn] at this
        cases this
    refine lc_pure (walk_tup (xs := iv ls)) (fun _ => .int 0) (by rw [iv_len]; omega) hFn (fun H' e => SqT.of (e _ _ hq1)) ?_ ?_
    · rintro i x H2 H3 k' hi s2 ⟨rfl, hx⟩ hk'
      exact ⟨rfl, hk' _ (Same.refl _)⟩
    intro H2 s2 hF2
    rw [iv_len] at hF2
    have hF2' : H2 F = some (.lst (zv (List.replicate ls.length 0))) := by
      rw [hF2]
      congr 2
      unfold zv
      apply List.ext_getElem?
      intro i
      simp [List.getElem?_replicate]
      by_cases hi : i < ls.length <;> simp [hi]
    refine ⟨fun m σ H' => ∃ (left : List Nat) (fs : List Int) (st : Int) (v5 : Option V), m = left.length ∧ σ = [some (.ref p), some (.ref q), some (.ref L), some (.int st), some (.ref F), v5, none] ∧ But p H H' ∧ left.length ≤ ls.length ∧ Pu H' p (n + 1 + 3 * (ls.length - left.length)) ∧
      H' L = some (.lst (iv left)) ∧ H' F = some (.lst (zv fs)) ∧ ls.length = fs.length ∧ Strides fs ∧ (∀ i ∈ left, i < ls.length) ∧ 1 ≤ st ∧ st * (PL ls left : Int) ≤ (2 + ((ls.length - left.length : Nat) : Int)) * 24 ∧ PL ls left ≤ 24,
      ⟨_, List.range ls.length, List.replicate ls.length 0, 1 + d, none, rfl, rfl, fun c o n e => s2 _ _ (b01 c o n e), by simp, (p1.same s2).mono (by omega), s2 _ _ hL1, hF2', by simp, ?_, fun i hi => List.mem_range.mp hi, by omega, ?_, by rw [PL_all]; exact hL.2⟩, ?_⟩
    · intro x hx
      have := (List.mem_replicate.mp hx).2
      omega
    · rw [PL_all, List.length_range, Nat.sub_self]
      have h24 := hL.2
      have : (1 + d) * (P1 ls : Int) ≤ 2 * 24 := Int.mul_le_mul (by omega) (by omega) (by omega) (by decide)
      omega
    rintro m σ H3 ⟨left, fs, st, v5, rfl, rfl, b3, hll, p3, hL3, hF3, hfl, hst, hlt, st1, st2, st3⟩
    have hz3 := iv_eq left
    have zL : iv left = zv (left.map fun n : Nat => (n : Int)) := rfl
    refine ⟨_, rfl, Nat.zero_le _, fun e0 he0 => ?_⟩
    have s4 := sm_new (o := .lst []) he0
    refine ne_ints (xs := left.map fun n : Nat => (n : Int)) (ys := []) (s4 _ _ hL3) upd_same ⟨_, rfl, ?_⟩
    by_cases hle : left = []
    · subst hle
      refine ifNF rfl ?_
      exact ⟨_, rfl, F, _, rfl, .inl ⟨SqL.of (s4 _ _ hF3), fun t ht => k _ t fs (fun c o n e => (sm_new ht) _ _ (s4 _ _ (b3 c o n e))) ((p3.same s4).same (sm_new ht) |>.mono (by omega)) upd_same hfl hst⟩⟩
    refine ifNT (by simpa using hle) ⟨fun σ' H' => ∃ (left' : List Nat) (fs : List Int) (st : Int) (v5 : Option V), left'.length + 1 = left.length ∧ σ' = [some (.ref p), some (.ref q), some (.ref L), some (.int st), some (.ref F), v5, none] ∧ But p H H' ∧ left'.length ≤ ls.length ∧ Pu H' p (n + 1 + 3 * (ls.length - left'.length)) ∧
      H' L = some (.lst (iv left')) ∧ H' F = some (.lst (zv fs)) ∧ ls.length = fs.length ∧ Strides fs ∧ (∀ i ∈ left', i < ls.length) ∧ 1 ≤ st ∧ st * (PL ls left' : Int) ≤ (2 + ((ls.length - left'.length : Nat) : Int)) * 24 ∧ PL ls left' ≤ 24, fun σ' H' ⟨left', fs, st, v5, e, z⟩ => ⟨left'.length, by omega, left', fs, st, v5, rfl, z⟩, ?_⟩
    have hlpos : 0 < left.length := List.length_pos_iff.mpr hle
    have hL4 := s4 _ _ hL3
    refine ⟨_, rfl, .inl ⟨rfl, _, SqL.of hL4⟩, _, rfl, _, rfl, L, _, rfl, .inl (SqL.of hL4), p, _, _, rfl, p3.same s4, by omega, by rw [iv_len]; omega, by rw [iv_len]; omega, fun H5 d2 b5 p5 d20 d21 => ?_⟩
    rw [iv_len] at d21
    have hL5 := b5 L _ Lp hL4
    have hk : d2.toNat < left.length := by omega
    obtain ⟨i, hi⟩ : ∃ i, left[d2.toNat]? = some i := ⟨_, List.getElem?_eq_getElem hk⟩
    refine ⟨L, _, d2, d2.toNat, .int ((i : Nat) : Int), rfl, rfl, hL5, by omega, by omega, seqIndex_of d20 (by rw [iv_len]; exact d21), iv_at hi, ?_⟩
    rw [iv_erase]
    have b35 : But p H H5 := fun c o n e => b5 c o n (s4 _ _ (b3 c o n e))
    have hL0 : H L = none := hLn
    have b6 : But p H (upd H5 L (.lst (iv (left.eraseIdx d2.toNat)))) := fun c o n e => by rw [upd_ne (ne_of_none e hL0)]; exact b35 c o n e
    have p6 : Pu (upd H5 L (.lst (iv (left.eraseIdx d2.toNat)))) p (n + 1 + 3 * (ls.length - left.length) + 1) := by
      obtain ⟨x, y, z, g1, g2⟩ := p5
      exact ⟨x, y, z, by rw [upd_ne (Ne.symm Lp)]; exact g1, g2⟩
    have hF6 : upd H5 L (.lst (iv (left.eraseIdx d2.toNat))) F = some (.lst (zv fs)) := by
      rw [upd_ne (Ne.symm FL)]
      exact b5 F _ Fp (s4 _ _ hF3)
    have hL6 : upd H5 L (.lst (iv (left.eraseIdx d2.toNat))) L = some (.lst (iv (left.eraseIdx d2.toNat))) := upd_same
    generalize upd H5 L (.lst (iv (left.eraseIdx d2.toNat))) = H6 at b6 p6 hF6 hL6
    have hin := hlt i (List.mem_of_getElem? hi)
    obtain ⟨li, hli⟩ : ∃ li, ls[i]? = some li := ⟨_, List.getElem?_eq_getElem hin⟩
    have hj : ls.length - left.length ≤ 5 := by omega
    have hs168 := step_small st1 st2 (PL_pos ls left) hj
    refine ⟨_, rfl, _, rfl, by show 3 ≤ sizeLine; decide, fun l3 hl3 => ?_⟩
    have s7 := sm_new (o := .lst [.int 1, .int 1, .int (-1)]) hl3
    obtain ⟨zs6, hlp6⟩ := p6.lst
    have lp3 : l3 ≠ p := Ne.symm (ne_of_none hlp6 hl3)
    refine ⟨_, rfl, p, 3, _, rfl, p6.same s7, by omega, by decide, by decide, fun H7 d3 b7 p7 d30 d31 => ?_⟩
    obtain ⟨v, hv, v1⟩ : ∃ v : Int, atI [V.int 1, .int 1, .int (-1)] d3 = some (.int v) ∧ (v = 1 ∨ v = -1) := by
      have h : d3 = 0 ∨ d3 = 1 ∨ d3 = 2 := by omega
      rcases h with e | e | e <;> subst e <;> exact ⟨_, rfl, by decide⟩
    have hF7 := b7 F _ Fp (s7 _ _ hF6)
    have hL7 := b7 L _ Lp (s7 _ _ hL6)
    refine ⟨l3, _, d3, _, rfl, rfl, SqL.of (b7 l3 _ lp3 upd_same), hv, _, _, rfl, rfl, .inr ⟨by omega, by omega⟩, ?_⟩
    refine ⟨_, rfl, _, rfl, F, _, (i : Int), i, rfl, rfl, hF7, ixn_at (by rw [zv_len, ← hfl]; exact hin), ?_⟩
    rw [show ((zv fs).set i ((fun i j => V.int (i * j)) st v)) = zv (fs.set i (st * v)) from zv_set fs i (st * v)]
    have b8 : But p H (upd H7 F (.lst (zv (fs.set i (st * v))))) := fun c o n e => by rw [upd_ne (ne_of_none e hF0)]; exact b7 c o n (s7 _ _ (b6 c o n e))
    have p8 : Pu (upd H7 F (.lst (zv (fs.set i (st * v))))) p (n + 1 + 3 * (ls.length - left.length) + 1 + 1) := by
      obtain ⟨x, y, z, g1, g2⟩ := p7
      exact ⟨x, y, z, by rw [upd_ne (Ne.symm Fp)]; exact g1, g2⟩
    have hF8 : upd H7 F (.lst (zv (fs.set i (st * v)))) F = some (.lst (zv (fs.set i (st * v)))) := upd_same
    have hL8 : upd H7 F (.lst (zv (fs.set i (st * v)))) L = some (.lst (iv (left.eraseIdx d2.toNat))) := by rw [upd_ne FL]; exact hL7
    generalize upd H7 F (.lst (zv (fs.set i (st * v)))) = H8 at b8 p8 hF8 hL8
    have hq8 := b8 q _ qp hq
    refine ⟨_, rfl, _, rfl, _, rfl, q, _, (i : Int), _, rfl, rfl, SqT.of hq8, atI_nat (iv_at hli), _, _, rfl, _, _, rfl, rfl, .inl ⟨by omega, by omega⟩, by show 3 ≤ sizeLine; decide, fun l4 hl4 => ?_⟩
    have s9 := sm_new (o := .lst [.int 0, .int 0, .int 1]) hl4
    obtain ⟨zs8, hlp8⟩ := p8.lst
    have lp4 : l4 ≠ p := Ne.symm (ne_of_none hlp8 hl4)
    refine ⟨_, rfl, p, 3, _, rfl, p8.same s9, by omega, by decide, by decide, fun H9 d4 b9 p9 d40 d41 => ?_⟩
    obtain ⟨e, he, e1⟩ : ∃ e : Int, atI [V.int 0, .int 0, .int 1] d4 = some (.int e) ∧ (0 ≤ e ∧ e ≤ 1) := by
      have h : d4 = 0 ∨ d4 = 1 ∨ d4 = 2 := by omega
      rcases h with e | e | e <;> subst e <;> exact ⟨_, rfl, by decide⟩
    have hel : (left.eraseIdx d2.toNat).length + 1 = left.length := by
      rw [List.length_eraseIdx]
      rw [if_pos hk]
      omega
    have hmm : (if (li : Int) > 1 then (li : Int) else 1) = ((max 1 li : Nat) : Int) := by
      split <;> omega
    have nx := unlike_next st1 st2 st3 hi e1 (max 1 li) (by rw [gd_nat hli])
    refine ⟨l4, _, d4, _, rfl, rfl, SqL.of (b9 l4 _ lp4 upd_same), he, _, _, rfl, rfl, ?_⟩
    refine ⟨left.eraseIdx d2.toNat, fs.set i (st * v), st * ((max 1 li : Nat) : Int) + e, some (.int (i : Int)), hel, ?_, fun c o n ee => b9 c o n (s9 _ _ (b8 c o n ee)), by omega, p9.mono (by omega), b9 L _ Lp (s9 _ _ hL8), b9 F _ Fp (s9 _ _ hF8), by rw [List.length_set]; exact hfl, strides_set hst ?_, fun j hj => hlt j (List.mem_of_mem_eraseIdx hj), nx.1, ?_, nx.2.2⟩
    · rw [← hmm]
      rfl
    · rcases v1 with q | q <;> subst q <;> omega
    · have e5 : ls.length - (left.eraseIdx d2.toNat).length = ls.length - left.length + 1 := by omega
      rw [e5]
      exact nx.2.1
end
end VG

set_option Elab.async false
set_option linter.all false
set_option maxRecDepth 100000
set_option maxHeartbeats 4000000
namespace VG
open PySem PySem.Spec PyProof.Rows L2
def Small (b : Int) (ss : List Int) : Prop := ∀ s ∈ ss, -b ≤ s ∧ s ≤ b
theorem Small.set {b : Int} {fs : List Int} {k : Nat} {z : Int} (h : Small b fs) (hz : -b ≤ z ∧ z ≤ b) : Small b (fs.set k z) := by
  intro s hs
  rcases List.mem_or_eq_of_mem_set hs with e | e
  · exact h s e
  · rw [e]; exact hz
theorem Small.mono {b b' : Int} {fs : List Int} (h : Small b fs) (e : b ≤ b') : Small b' fs := fun s hs => by have := h s hs; omega
theorem steps_next {ls left : List Nat} {s : Int} {k i : Nat} (h : s.natAbs * PL ls left ≤ 72) (hk : left[k]? = some i) (m : Nat) (hm : m = max 1 (ls.getD i 0)) : (s * (m : Int)).natAbs * PL ls (left.eraseIdx k) ≤ 72 := by
  have e1 := PL_erase (ls := ls) hk
  rw [← hm] at e1
  rw [Int.natAbs_mul, Int.natAbs_natCast, Nat.mul_assoc, ← e1]
  exact h
theorem steps_small {s : Int} {P : Nat} (h : s.natAbs * P ≤ 72) (hP : 1 ≤ P) : -72 ≤ s ∧ s ≤ 72 := by
  have : s.natAbs * 1 ≤ s.natAbs * P := Nat.mul_le_mul_left _ hP
  omega
def sp_l_room (a : Adr) : Sp := fun vs H Q _ => ∃ (p : Addr) (n many : Nat), vs = [.ref p, .int (many : Int)] ∧ Pu H p n ∧ n + 100000 ≤ 2 ^ 40 ∧ many ≤ 20000 ∧
  ∀ H' r pl ps w cs, But p H H' → Pu H' p (n + 60000) → RoomAt a H' r pl ps w cs → cs.length = many → (∀ b, guts r pl ps b → H b = none) → ¬ guts r pl ps p → Q (.ref r) H'
section
variable {P : Program} {w : World} {K : PySem.W.Frag} {mg : Str → Option Value} {base : Heap} {a : Adr}
theorem ok_l_steps (T : Tx K mg a) : FnOk P w K mg base CX0 2 a.l_steps a.fd_l_steps ["_law_purse_here", "_law_lengths_here"] sp_l_unlike := by
  have G_l_take := ok_l_take (P := P) (w := w) (base := base) T
  refine T.F_l_steps.ok sc_l_steps (fun vs H Q E h => ?_) (fun cdv A outer s H vs Q E hr h => ?_)
  · obtain ⟨p, q, n, ls, rfl, _⟩ := h
    rfl
  · obtain ⟨p, q, n, ls, rfl, hp, hn, hq, hL, k⟩ := h
    refine ⟨_, (pss_cons (ps_set (i := 2) sc_l_steps.nd rfl (Or.inl rfl) (pe_call G_l_take (hr.mono (by decide)) rfl T.m_l_take T.F_l_take.kp (b_l_take T) .nil pass0 (pa_cons (pv 0) (pa_cons pe_int pa_nil))))
          (pss_cons (ps_if (pt_cmpR op_eq (pv 2) pe_int (nomark _)) (pss_one (ps_ret (pe_callTy call_tuple_of (by rfl) T.n_tuple (by decide +kernel) (pa_cons (pe_lc (own := [("_law_length", 7)]) rfl sc_l_steps.nd (pi_tup (pv 1)) (blkOk_by (N := ["_law_purse_here", "_law_lengths_here", "_law_way", "_law_left", "_law_step", "_law_found", "_law_at", "_law_length"]) (sc := defScope s_l_steps) (own := [("_law_length", 7)]) (by decide +kernel)) (fun _ _ _ _ _ => (pg_name (i := 7) sc_l_steps.nd rfl (Or.inl rfl))) (fun _ _ _ _ _ => pts_nil) (fun _ _ _ _ _ => (pe_op op_sub (pe_call G_l_take (hr.mono (by decide)) rfl T.m_l_take T.F_l_take.kp (b_l_take T) .nil pass0 (pa_cons (pv 0) (pa_cons pe_int pa_nil))) pe_int))) pa_nil)))) pss_nil)
          (pss_cons (ps_set (i := 3) sc_l_steps.nd rfl (Or.inl rfl) (pe_listRg (by rfl) (by rfl) T.n_list (prg_1 (by rfl) T.n_range (pe_callB call_len_seq (by rfl) T.n_len (by decide +kernel) (pa_cons (pv 1) pa_nil)))))
          (pss_cons (ps_set (i := 4) sc_l_steps.nd rfl (Or.inl rfl) (pe_ix ix_list (pe_lst (pa_cons pe_int (pa_cons (pe_un un_neg pe_int) (pa_cons pe_int (pa_cons (pe_un un_neg pe_int) pa_nil))))) (pe_call G_l_take (hr.mono (by decide)) rfl T.m_l_take T.F_l_take.kp (b_l_take T) .nil pass0 (pa_cons (pv 0) (pa_cons pe_int pa_nil))) (fun _ _ => rfl)))
          (pss_cons (ps_setLc (i := 5) (own := [("_law_length", 7)]) rfl sc_l_steps.nd rfl rfl (sw_true rfl rfl rfl (by decide +kernel)) (pi_tup (pv 1)) (blkOk_by (N := ["_law_purse_here", "_law_lengths_here", "_law_way", "_law_left", "_law_step", "_law_found", "_law_at", "_law_length"]) (sc := defScope s_l_steps) (own := [("_law_length", 7)]) (by decide +kernel)) (fun _ _ _ _ _ => (pg_name (i := 7) sc_l_steps.nd rfl (Or.inl rfl))) (fun _ _ _ _ _ => pts_nil) (fun _ _ _ _ _ => pe_int))
          (pss_cons (ps_while PassesOwn.never (pt_cmpR (op_neD hr.units) (pv 3) (pe_lst pa_nil) (nomark _)) (pss_cons (ps_set (i := 6) sc_l_steps.nd rfl (Or.inl rfl) (pe_bm PySem.F.plainAttrs_list PySem.F.slot_list_pop PySem.F.type_list_pop mt_popAt (pv 3) (pa_cons (pe_ix ix_list (pe_lst (pa_cons (pe_op op_sub (pe_callB call_len_seq (by rfl) T.n_len (by decide +kernel) (pa_cons (pv 3) pa_nil)) pe_int) (pa_cons (pe_call G_l_take (hr.mono (by decide)) rfl T.m_l_take T.F_l_take.kp (b_l_take T) .nil pass0 (pa_cons (pv 0) (pa_cons (pe_callB call_len_seq (by rfl) T.n_len (by decide +kernel) (pa_cons (pv 3) pa_nil)) pa_nil))) pa_nil))) (pe_callTy call_int1 (by rfl) T.n_int (by decide +kernel) (pa_cons (pe_cmpR op_eq (pv 2) pe_int (nomark _)) pa_nil)) (fun _ _ => rfl)) pa_nil)))
          (pss_cons (ps_asg (pv 4) (pg_sub (pv 5) (pv 6) set_list))
          (pss_one (ps_set (i := 4) sc_l_steps.nd rfl (Or.inl rfl) (pe_op op_mul (pv 4) (pe_callB (call_max2 rfl) (by rfl) T.n_max (by decide +kernel) (pa_cons pe_int (pa_cons (pe_ix ix_tup (pv 1) (pv 6) (fun _ _ => rfl)) pa_nil)))))))))
          (pss_cons (ps_if (PW.pt (pw_and (pt_cmpR op_eq (pv 2) pe_int (nomark _)) (pw_and1 (pt_cmpR op_gt (pe_callB call_len_seq (by rfl) T.n_len (by decide +kernel) (pa_cons (pv 5) pa_nil)) pe_int (nomark _))))) (pss_one (ps_asg (pe_op op_sub (pe_op op_add (pe_ix ix_list (pv 5) pe_int (fun _ _ => rfl)) (pe_call G_l_take (hr.mono (by decide)) rfl T.m_l_take T.F_l_take.kp (b_l_take T) .nil pass0 (pa_cons (pv 0) (pa_cons pe_int pa_nil)))) pe_int) (pg_sub (pv 5) pe_int set_list))) pss_nil)
          (pss_one (ps_ret (pe_callTy call_tuple_of (by rfl) T.n_tuple (by decide +kernel) (pa_cons (pv 5) pa_nil))))))))))), ?_⟩
    obtain ⟨zs, hlp⟩ := hp.lst
    have h5 := hL.1
    have qp : q ≠ p := ne_of hq hlp (by intro z; cases z)
    refine ⟨_, rfl, p, 4, n, rfl, hp, by omega, by decide, by decide, fun H0 way b0 p0 w0 w4 => ?_⟩
    have hq0 := b0 q _ qp hq
    obtain ⟨zs0, hlp0⟩ := p0.lst
    refine ⟨_, rfl, rfl, _, rfl, ?_⟩
    by_cases hw3 : way = 3
    · subst hw3
      refine ifT rfl ⟨_, rfl, q, rfl, ⟨_, SqT.of hq0⟩, fun D hD => ?_⟩
      have Dp : D ≠ p := Ne.symm (ne_of_none hlp0 hD)
      refine lc_mut (walk_tup (xs := iv ls)) (fun i acc H' => But p H0 H' ∧ Pu H' p (n + 1 + i) ∧ ∃ fs : List Int, acc = zv fs ∧ Small 72 fs) (by rw [iv_len]; omega) ⟨fun c o _ e => sm_new hD c o e, p0.same (sm_new hD), [], rfl, fun s hs => by simp at hs⟩ (fun i acc H' z => SqT.of (z.1 q _ qp hq0)) ?_ ?_ ?_
      · rintro i acc H' ys zs ⟨g1, ⟨x, y, z, g2, g3⟩, g4⟩ hy
        exact ⟨fun c o nn e => by rw [upd_ne (ne_of_none e hD)]; exact g1 c o nn e, ⟨x, y, z, by rw [upd_ne (Ne.symm Dp)]; exact g2, g3⟩, g4⟩
      · rintro i x H2 H3 acc k' hi hacl ⟨b2, p2, fs, rfl, hfs⟩ hacc ⟨rfl, hx⟩ hkk
        rw [iv_len] at hi
        refine ⟨rfl, _, rfl, p, 13, _, rfl, p2, by omega, by decide, by decide, fun H4 d b4 p4 d0 d13 => ⟨_, _, rfl, rfl, ?_⟩⟩
        refine hkk _ _ (b4 D _ Dp hacc) ⟨b2.trans b4, p4, fs ++ [d - 6], by unfold zv; rw [List.map_append]; rfl, fun s hs => ?_⟩
        rcases List.mem_append.mp hs with e | e
        · exact hfs s e
        · have : s = d - 6 := by simpa using e
          omega
      · rintro acc H2 hacc hacl ⟨b2, p2, fs, rfl, hfs⟩
        rw [iv_len] at p2
        rw [iv_len, zv_len] at hacl
        refine ⟨D, _, rfl, .inl ⟨SqL.of hacc, fun t ht => k _ t fs (fun c o nn e => (sm_new ht) _ _ (b2 c o nn (b0 c o nn e))) ((p2.same (sm_new ht)).mono (by omega)) upd_same hacl.symm (hfs.mono (by omega))⟩⟩
    refine ifF (fun e => hw3 (by injection e)) ?_
    refine ⟨_, rfl, q, _, rfl, .inr (SqT.of hq0), _, rfl, ⟨by decide, by decide, by omega, by rw [iv_len]; omega, by rw [iv_len]; omega⟩, fun L hLn => ?_⟩
    rw [iv_len, rgV_iv]
    have s0 := sm_new (o := .lst (iv (List.range ls.length))) hLn
    have Lp : L ≠ p := Ne.symm (ne_of_none hlp0 hLn)
    have hL00 : H L = none := by
      cases e : H L with
      | none => rfl
      | some o =>
        have := b0 L o Lp e
        rw [hLn] at this
        cases this
    refine ⟨_, rfl, _, rfl, by show 4 ≤ sizeLine; decide, fun l1 hl1 => ?_⟩
    have s01 := sm_upd (o := .lst [.int 1, .int (-1), .int 2, .int (-3)]) s0 hl1
    have lp1 : l1 ≠ p := Ne.symm (ne_of_none (s0 _ _ hlp0) hl1)
    refine ⟨_, rfl, p, 4, _, rfl, p0.same s01, by omega, by decide, by decide, fun H1 d b1 p1 d0 d2 => ?_⟩
    obtain ⟨st0, hst0, hst1⟩ : ∃ v : Int, atI [V.int 1, .int (-1), .int 2, .int (-3)] d = some (.int v) ∧ v.natAbs ≤ 3 := by
      have h : d = 0 ∨ d = 1 ∨ d = 2 ∨ d = 3 := by omega
      rcases h with e | e | e | e <;> subst e <;> exact ⟨_, rfl, by decide⟩
    refine ⟨l1, _, d, _, rfl, rfl, SqL.of (b1 l1 _ lp1 upd_same), hst0, ?_⟩
    have b01 : But p H H1 := fun c o n e => b1 c o n (s01 _ _ (b0 c o n e))
    have hq1 := b01 q _ qp hq
    have hL1 : H1 L = some (.lst (iv (List.range ls.length))) := b1 L _ Lp ((sm_new hl1) _ _ upd_same)
    refine ⟨_, rfl, q, rfl, ⟨_, SqT.of hq1⟩, fun F hFn => ?_⟩
    have FL : L ≠ F := ne_of_none hL1 hFn
    obtain ⟨zs1, hlp1⟩ := p1.lst
    have Fp : F ≠ p := Ne.symm (ne_of_none hlp1 hFn)
    have hF0 : H F = none := by
      cases e : H F with
      | none => rfl
      | some o =>
        have := b01 F o Fp e
        rw [hFn] at this
        cases this
    refine lc_pure (walk_tup (xs := iv ls)) (fun _ => .int 0) (by rw [iv_len]; omega) hFn (fun H' e => SqT.of (e _ _ hq1)) ?_ ?_
    · rintro i x H2 H3 k' hi s2 ⟨rfl, hx⟩ hk'
      exact ⟨rfl, hk' _ (Same.refl _)⟩
    intro H2 s2 hF2
    rw [iv_len] at hF2
    have hF2' : H2 F = some (.lst (zv (List.replicate ls.length 0))) := by
      rw [hF2]
      congr 2
      unfold zv
      apply List.ext_getElem?
      intro i
      simp [List.getElem?_replicate]
      by_cases hi : i < ls.length <;> simp [hi]
    refine ⟨fun m σ H' => ∃ (left : List Nat) (fs : List Int) (st : Int) (v5 : Option V), m = left.length ∧ σ = [some (.ref p), some (.ref q), some (.int way), some (.ref L), some (.int st), some (.ref F), v5, none] ∧ But p H H' ∧ left.length ≤ ls.length ∧ Pu H' p (n + 2 + (ls.length - left.length)) ∧
      H' L = some (.lst (iv left)) ∧ H' F = some (.lst (zv fs)) ∧ ls.length = fs.length ∧ Small 72 fs ∧ (∀ i ∈ left, i < ls.length) ∧ st.natAbs * PL ls left ≤ 72,
      ⟨_, List.range ls.length, List.replicate ls.length 0, st0, none, rfl, rfl, fun c o n e => s2 _ _ (b01 c o n e), by simp, (p1.same s2).mono (by omega), s2 _ _ hL1, hF2', by simp, ?_, fun i hi => List.mem_range.mp hi, ?_⟩, ?_⟩
    · intro x hx
      have := (List.mem_replicate.mp hx).2
      omega
    · rw [PL_all]
      exact Nat.le_trans (Nat.mul_le_mul hst1 hL.2) (by decide)
    rintro m σ H3 ⟨left, fs, st, v5, rfl, rfl, b3, hll, p3, hL3, hF3, hfl, hst, hlt, st2⟩
    refine ⟨_, rfl, Nat.zero_le _, fun e0 he0 => ?_⟩
    have s4 := sm_new (o := .lst []) he0
    refine ne_ints (xs := left.map fun n : Nat => (n : Int)) (ys := []) (s4 _ _ hL3) upd_same ⟨_, rfl, ?_⟩
    by_cases hle : left = []
    · subst hle
      refine ifNF rfl ?_
      have hF4 := s4 _ _ hF3
      have fin : ∀ (fs' : List Int) (H' : Hp), But p H H' → Pu H' p (n + 20) → H' F = some (.lst (zv fs')) → ls.length = fs'.length → Strides fs' → ∃ q ys, [V.ref F] = [V.ref q] ∧ ((SqL K H' q ys ∧ ∀ l, H' l = none → Q (.ref l) (upd H' l (.tup ys))) ∨ (SqT K H' q ys ∧ Q (.ref q) H')) :=
        fun fs' H' bb pp hF' hl' hs' => ⟨F, _, rfl, .inl ⟨SqL.of hF', fun t ht => k _ t fs' (fun c o n e => (sm_new ht) _ _ (bb c o n e)) (pp.same (sm_new ht)) upd_same hl' hs'⟩⟩
      refine ⟨_, rfl, rfl, _, rfl, ?_⟩
      by_cases hw1 : way = 1
      · subst hw1
        refine ifT rfl ⟨_, rfl, F, _, rfl, .inl (SqL.of hF4), _, _, rfl, rfl, _, rfl, ?_⟩
        by_cases hl2 : ((zv fs).length : Int) > 1
        · refine ifT hl2 ?_
          rw [zv_len] at hl2
          obtain ⟨f0, hf0⟩ : ∃ f0, fs[0]? = some f0 := ⟨_, List.getElem?_eq_getElem (by omega)⟩
          have hf1 := hst f0 (List.mem_of_getElem? hf0)
          refine ⟨_, rfl, F, _, 0, _, rfl, rfl, SqL.of hF4, atI_nat (j := 0) (zv_at hf0), _, rfl, p, 5, _, rfl, p3.same s4, by omega, by decide, by decide, fun H5 d5 b5 p5 d50 d55 => ?_⟩
          have hF5 := b5 F _ Fp hF4
          refine ⟨_, _, rfl, rfl, _, _, rfl, rfl, _, rfl, F, _, 0, 0, rfl, rfl, hF5, ixn_at (j := 0) (by rw [zv_len]; omega), ?_⟩
          rw [show ((zv fs).set 0 ((fun i j => V.int (i - j)) (f0 + d5) 1)) = zv (fs.set 0 (f0 + d5 - 1)) from zv_set fs 0 (f0 + d5 - 1)]
          obtain ⟨x, y, z, g1, g2⟩ := p5.mono (show n + 2 + (ls.length - ([] : List Nat).length) + 1 ≤ n + 20 by simp; omega)
          refine ⟨_, rfl, fin (fs.set 0 (f0 + d5 - 1)) _ (fun c o n e => by rw [upd_ne (ne_of_none e hF0)]; exact b5 c o n (s4 _ _ (b3 c o n e))) ⟨x, y, z, by rw [upd_ne (Ne.symm Fp)]; exact g1, g2⟩ upd_same (by rw [List.length_set]; exact hfl) (strides_set (hst.mono (by omega)) (by omega))⟩
        · refine ifF hl2 ⟨_, rfl, fin fs _ (fun c o n e => s4 _ _ (b3 c o n e)) ((p3.same s4).mono (by simp; omega)) hF4 hfl (hst.mono (by omega))⟩
      · refine ifF (fun e => hw1 (by injection e)) (iteF ⟨_, rfl, fin fs _ (fun c o n e => s4 _ _ (b3 c o n e)) ((p3.same s4).mono (by simp; omega)) hF4 hfl (hst.mono (by omega))⟩)
    refine ifNT (by simpa using hle) ⟨fun σ' H' => ∃ (left' : List Nat) (fs : List Int) (st : Int) (v5 : Option V), left'.length + 1 = left.length ∧ σ' = [some (.ref p), some (.ref q), some (.int way), some (.ref L), some (.int st), some (.ref F), v5, none] ∧ But p H H' ∧ left'.length ≤ ls.length ∧ Pu H' p (n + 2 + (ls.length - left'.length)) ∧
      H' L = some (.lst (iv left')) ∧ H' F = some (.lst (zv fs)) ∧ ls.length = fs.length ∧ Small 72 fs ∧ (∀ i ∈ left', i < ls.length) ∧ st.natAbs * PL ls left' ≤ 72, fun σ' H' ⟨left', fs, st, v5, e, z⟩ => ⟨left'.length, by omega, left', fs, st, v5, rfl, z⟩, ?_⟩
    have hlpos : 0 < left.length := List.length_pos_iff.mpr hle
    have hL4 := s4 _ _ hL3
    refine ⟨_, rfl, .inl ⟨rfl, _, SqL.of hL4⟩, _, rfl, L, _, rfl, .inl (SqL.of hL4), _, _, rfl, rfl, _, rfl, _, rfl, L, _, rfl, .inl (SqL.of hL4), p, _, _, rfl, p3.same s4, by omega, by rw [iv_len]; omega, by rw [iv_len]; omega, fun H5 d2 b5 p5 d20 d21 => ?_⟩
    rw [iv_len] at d21
    refine ⟨by show 2 ≤ sizeLine; decide, fun l2 hl2 => ?_⟩
    have hL5 := (sm_new (o := .lst [.int ((iv left).length - 1 : Int), .int d2]) hl2) _ _ (b5 L _ Lp hL4)
    have s5 := sm_new (o := .lst [.int ((iv left).length - 1 : Int), .int d2]) hl2
    obtain ⟨ix, hix, hix2⟩ : ∃ ix : Nat, atI [V.int ((iv left).length - 1 : Int), .int d2] (if decide (V.int way = V.int 2) = true then 1 else 0) = some (.int (ix : Int)) ∧ ix < left.length := by
      by_cases e : way = 2
      · subst e
        refine ⟨d2.toNat, ?_, by omega⟩
        rw [decide_eq_true rfl, Int.toNat_of_nonneg d20]
        rfl
      · refine ⟨left.length - 1, ?_, by omega⟩
        rw [decide_eq_false (fun q => e (by injection q)), iv_len]
        have : ((left.length - 1 : Nat) : Int) = (left.length : Int) - 1 := by omega
        rw [this]
        rfl
    obtain ⟨i, hi⟩ : ∃ i, left[ix]? = some i := ⟨_, List.getElem?_eq_getElem hix2⟩
    refine ⟨_, rfl, rfl, .inr ⟨_, rfl, l2, _, _, _, rfl, rfl, SqL.of upd_same, hix, ?_⟩⟩
    refine ⟨L, _, (ix : Int), ix, .int ((i : Nat) : Int), rfl, rfl, hL5, by omega, by omega, ?_, iv_at hi, ?_⟩
    · have := seqIndex_of (k := (ix : Int)) (n := (iv left).length) (by omega) (by rw [iv_len]; omega)
      rw [this]
      rfl
    rw [iv_erase]
    have b35 : But p H (upd H5 l2 (.lst [.int ((iv left).length - 1 : Int), .int d2])) := fun c o n e => s5 _ _ (b5 c o n (s4 _ _ (b3 c o n e)))
    have p5' := p5.same s5
    have hF5 := s5 _ _ (b5 F _ Fp (s4 _ _ hF3))
    generalize upd H5 l2 (.lst [.int ((iv left).length - 1 : Int), .int d2]) = H5' at b35 p5' hL5 hF5
    have b6 : But p H (upd H5' L (.lst (iv (left.eraseIdx ix)))) := fun c o n e => by rw [upd_ne (ne_of_none e hL00)]; exact b35 c o n e
    have p6 : Pu (upd H5' L (.lst (iv (left.eraseIdx ix)))) p (n + 2 + (ls.length - left.length) + 1) := by
      obtain ⟨x, y, z, g1, g2⟩ := p5'
      exact ⟨x, y, z, by rw [upd_ne (Ne.symm Lp)]; exact g1, g2⟩
    have hF6 : upd H5' L (.lst (iv (left.eraseIdx ix))) F = some (.lst (zv fs)) := by
      rw [upd_ne (Ne.symm FL)]
      exact hF5
    have hL6 : upd H5' L (.lst (iv (left.eraseIdx ix))) L = some (.lst (iv (left.eraseIdx ix))) := upd_same
    generalize upd H5' L (.lst (iv (left.eraseIdx ix))) = H6 at b6 p6 hF6 hL6
    have hin := hlt i (List.mem_of_getElem? hi)
    obtain ⟨li, hli⟩ : ∃ li, ls[i]? = some li := ⟨_, List.getElem?_eq_getElem hin⟩
    have hs72 := steps_small st2 (PL_pos ls left)
    refine ⟨_, rfl, _, rfl, _, rfl, F, _, (i : Int), i, rfl, rfl, hF6, ixn_at (by rw [zv_len, ← hfl]; exact hin), ?_⟩
    rw [zv_set fs i st]
    have b8 : But p H (upd H6 F (.lst (zv (fs.set i st)))) := fun c o n e => by rw [upd_ne (ne_of_none e hF0)]; exact b6 c o n e
    have p8 : Pu (upd H6 F (.lst (zv (fs.set i st)))) p (n + 2 + (ls.length - left.length) + 1) := by
      obtain ⟨x, y, z, g1, g2⟩ := p6
      exact ⟨x, y, z, by rw [upd_ne (Ne.symm Fp)]; exact g1, g2⟩
    have hF8 : upd H6 F (.lst (zv (fs.set i st))) F = some (.lst (zv (fs.set i st))) := upd_same
    have hL8 : upd H6 F (.lst (zv (fs.set i st))) L = some (.lst (iv (left.eraseIdx ix))) := by rw [upd_ne FL]; exact hL6
    generalize upd H6 F (.lst (zv (fs.set i st))) = H8 at b8 p8 hF8 hL8
    have hq8 := b8 q _ qp hq
    have hel : (left.eraseIdx ix).length + 1 = left.length := by
      rw [List.length_eraseIdx]
      rw [if_pos hix2]
      omega
    have hmm : (if (li : Int) > 1 then (li : Int) else 1) = ((max 1 li : Nat) : Int) := by
      split <;> omega
    have nx := steps_next st2 hi (max 1 li) (by rw [gd_nat hli])
    refine ⟨_, rfl, _, rfl, _, rfl, q, _, (i : Int), _, rfl, rfl, SqT.of hq8, atI_nat (iv_at hli), _, _, rfl, _, _, rfl, rfl, .inl ⟨by omega, by omega⟩, ?_⟩
    refine ⟨left.eraseIdx ix, fs.set i st, st * ((max 1 li : Nat) : Int), some (.int (i : Int)), hel, ?_, b8, by omega, p8.mono (by omega), hL8, hF8, by rw [List.length_set]; exact hfl, hst.set hs72, fun j hj => hlt j (List.mem_of_mem_eraseIdx hj), nx⟩
    rw [← hmm]
    rfl
end
end VG

set_option linter.all false
namespace VG
theorem reach_cons (l : Nat) (ls : List Nat) (s : Int) (ss : List Int) (w : Int) : reach (l :: ls) (s :: ss) w = (if 0 < l ∧ s * w > 0 then ((l : Int) - 1) * s else 0) + reach ls ss w := by
  unfold reach
  simp
theorem reach_snoc {ls : List Nat} {ss : List Int} (h : ls.length = ss.length) (l : Nat) (s w : Int) : reach (ls ++ [l]) (ss ++ [s]) w = reach ls ss w + (if 0 < l ∧ s * w > 0 then ((l : Int) - 1) * s else 0) := by
  unfold reach
  rw [List.zip_append h, List.map_append, sum_append]
  simp
theorem reach_bounds : ∀ {ls : List Nat} {ss : List Int} {p : List Nat}, ls.length = ss.length → IsPlace ls p → reach ls ss (-1) ≤ dot p ss ∧ dot p ss ≤ reach ls ss 1
  | [], ss, p, h, hp => by
    have e1 : ss = [] := List.eq_nil_of_length_eq_zero h.symm
    have e2 : p = [] := List.eq_nil_of_length_eq_zero hp.1
    subst e1 e2
    exact ⟨by simp [reach, dot], by simp [reach, dot]⟩
  | l :: ls, [], p, h, hp => by simp at h
  | l :: ls, s :: ss, [], h, hp => by simp [IsPlace] at hp
  | l :: ls, s :: ss, k :: p, h, hp => by
    have hk : k < l := hp.2 0 (by simp) (by simp)
    have ih := reach_bounds (ls := ls) (ss := ss) (p := p) (by simpa using h) ⟨by simpa using hp.1, fun i a b => hp.2 (i + 1) (by simpa using a) (by simpa using b)⟩
    rw [reach_cons, reach_cons, dot_cons]
    have h1 : (if 0 < l ∧ s * (-1) > 0 then ((l : Int) - 1) * s else 0) ≤ (k : Int) * s := by
      split
      · have := Int.mul_le_mul_of_nonpos_right (show (k : Int) ≤ (l : Int) - 1 by omega) (show s ≤ 0 by omega)
        exact this
      · exact Int.mul_nonneg (by omega) (by omega)
    have h2 : (k : Int) * s ≤ (if 0 < l ∧ s * 1 > 0 then ((l : Int) - 1) * s else 0) := by
      split
      · exact Int.mul_le_mul_of_nonneg_right (by omega) (by omega)
      · exact Int.mul_nonpos_of_nonneg_of_nonpos (by omega) (by omega)
    omega
theorem reach_span : ∀ {ls : List Nat} {ss : List Int}, ls.length = ss.length → Strides ss → 0 ≤ reach ls ss 1 ∧ reach ls ss (-1) ≤ 0 ∧ reach ls ss 1 - reach ls ss (-1) ≤ ((P1 ls : Int) - 1) * 600
  | [], ss, h, hs => by
    have e1 : ss = [] := List.eq_nil_of_length_eq_zero h.symm
    subst e1
    exact ⟨by simp [reach], by simp [reach], by simp [reach, P1_nil]⟩
  | l :: ls, [], h, hs => by simp at h
  | l :: ls, s :: ss, h, hs => by
    have ih := reach_span (ls := ls) (ss := ss) (by simpa using h) (fun x hx => hs x (by simp [hx]))
    have hs0 := hs s (by simp)
    have hp := P1_pos ls
    rw [reach_cons, reach_cons, P1_cons]
    generalize reach ls ss 1 = A at *
    generalize reach ls ss (-1) = B at *
    generalize P1 ls = P at *
    have key : ((max 1 l : Nat) : Int) - 1 + ((P : Int) - 1) ≤ ((max 1 l * P : Nat) : Int) - 1 := by
      have e : (((max 1 l : Nat) : Int) - 1) * ((P : Int) - 1) = ((max 1 l * P : Nat) : Int) - ((max 1 l : Nat) : Int) - (P : Int) + 1 := by
        rw [Int.natCast_mul, Int.sub_mul, Int.mul_sub]
        omega
      have := Int.mul_nonneg (show (0 : Int) ≤ ((max 1 l : Nat) : Int) - 1 by omega) (show (0 : Int) ≤ (P : Int) - 1 by omega)
      omega
    have t1 : 0 ≤ (if 0 < l ∧ s * 1 > 0 then ((l : Int) - 1) * s else 0) := by
      split
      · exact Int.mul_nonneg (by omega) (by omega)
      · exact Int.le_refl _
    have t2 : (if 0 < l ∧ s * (-1) > 0 then ((l : Int) - 1) * s else 0) ≤ 0 := by
      split
      · exact Int.mul_nonpos_of_nonneg_of_nonpos (by omega) (by omega)
      · exact Int.le_refl _
    have t3 : (if 0 < l ∧ s * 1 > 0 then ((l : Int) - 1) * s else 0) - (if 0 < l ∧ s * (-1) > 0 then ((l : Int) - 1) * s else 0) ≤ (((max 1 l : Nat) : Int) - 1) * 600 := by
      by_cases a : 0 < l ∧ s * 1 > 0
      · rw [if_pos a, if_neg (by omega), Int.sub_zero]
        have e : ((max 1 l : Nat) : Int) - 1 = (l : Int) - 1 := by omega
        rw [e]
        exact Int.mul_le_mul_of_nonneg_left (by omega) (by omega)
      · rw [if_neg a]
        by_cases b : 0 < l ∧ s * (-1) > 0
        · rw [if_pos b]
          have e : ((max 1 l : Nat) : Int) - 1 = (l : Int) - 1 := by omega
          rw [e, Int.zero_sub, ← Int.mul_neg]
          exact Int.mul_le_mul_of_nonneg_left (by omega) (by omega)
        · rw [if_neg b]
          have := Int.mul_nonneg (show (0 : Int) ≤ ((max 1 l : Nat) : Int) - 1 by omega) (show (0 : Int) ≤ 600 by decide)
          omega
    refine ⟨by omega, by omega, ?_⟩
    have : (((max 1 l * P : Nat) : Int) - 1) * 600 = ((max 1 l * P : Nat) : Int) * 600 - 600 := by rw [Int.sub_mul, Int.one_mul]
    have e2 : (((max 1 l : Nat) : Int) - 1) * 600 = ((max 1 l : Nat) : Int) * 600 - 600 := by rw [Int.sub_mul, Int.one_mul]
    have e3 : ((P : Int) - 1) * 600 = (P : Int) * 600 - 600 := by rw [Int.sub_mul, Int.one_mul]
    rw [e2] at t3
    rw [e3] at ih
    rw [this]
    omega
theorem span_le {ls : List Nat} {ss : List Int} (h : ls.length = ss.length) (hL : Lens ls) (hs : Strides ss) : reach ls ss 1 - reach ls ss (-1) ≤ 13800 := by
  have := (reach_span h hs).2.2
  have h24 := hL.2
  have h1 := P1_pos ls
  have : ((P1 ls : Int) - 1) * 600 ≤ 23 * 600 := Int.mul_le_mul_of_nonneg_right (by omega) (by decide)
  omega
/-- a view within a room -/
theorem vok_of {ls : List Nat} {ss : List Int} {b : Int} {n : Nat} (h : ls.length = ss.length) (hL : Lens ls) (h1 : 0 ≤ b + reach ls ss (-1)) (h2 : b + reach ls ss 1 < n) : VOk n ls b ss := by
  refine ⟨h, hL.sides, fun c hc => ?_⟩
  rw [cells_places ls ss b h] at hc
  obtain ⟨p, hp, rfl⟩ := List.mem_map.mp hc
  have := reach_bounds h (places_isPlace ls p hp)
  unfold cellAt
  omega
theorem cut_drop (xs : List L2.V) (k : Nat) (hk : k ≤ xs.length) : L2.cutV xs (some (k : Int)) none = xs.drop k := by
  unfold L2.cutV
  rw [HT.sIx_nat, HT.sIx_none, Nat.min_eq_left hk]
  exact List.take_of_length_le (by rw [List.length_drop]; exact Nat.le_refl _)
theorem cut_take (xs : List L2.V) (k : Nat) (hk : k ≤ xs.length) : L2.cutV xs none (some (k : Int)) = xs.take k := by
  unfold L2.cutV
  rw [HT.sIx_nat, HT.sIx_none, Nat.min_eq_left hk]
  rfl
end VG

set_option Elab.async false
set_option linter.all false
set_option maxRecDepth 100000
set_option maxHeartbeats 4000000
namespace VG
open PySem PySem.Spec PyProof.Rows L2
theorem slA_by {K : PySem.W.Frag} {lo hi : Option Int} {H : Hp} {Q : VK} {b : Addr} {xs : List V} (hx : H b = some (.tup xs)) (rest : ∀ H' t, Same H H' → H' t = some (.tup (cutV xs lo hi)) → Q (.ref t) H') : rSlA K (.ref b) lo hi H Q := by
  refine ⟨b, xs, rfl, SqT.of hx, fun h => rest H b (Same.refl H) ?_, fun _ p hp => rest _ p (sm_new hp) upd_same⟩
  unfold cutV
  rw [h.1, h.2, List.drop_zero, Nat.sub_zero, List.take_length]
  exact hx
theorem catA_by {K : PySem.W.Frag} {H : Hp} {Q : VK} {b c : Addr} {xs ys : List V} (hx : H b = some (.tup xs)) (hy : H c = some (.tup ys)) (hl : xs.length + ys.length ≤ 1000000) (rest : ∀ H' t, Same H H' → H' t = some (.tup (xs ++ ys)) → Q (.ref t) H') : rCatA K (.ref b) (.ref c) H Q := by
  refine ⟨b, c, xs, ys, rfl, rfl, SqT.of hx, SqT.of hy, big hl, fun e => rest H c (Same.refl H) ?_, fun _ e => rest H b (Same.refl H) ?_, fun _ _ p hp => rest _ p (sm_new hp) upd_same⟩
  · rw [e]; exact hy
  · rw [e, List.append_nil]; exact hx
theorem But.ofSame {p : Addr} {H H' : Hp} (h : Same H H') : But p H H' := fun c o _ e => h c o e
def sp_l_source : Sp := fun vs H Q _ => ∃ (p q s : Addr) (n many : Nat) (ls : List Nat) (ss : List Int), vs = [.ref p, .int (many : Int), .ref q, .ref s] ∧ Pu H p n ∧ n + 1000 ≤ 2 ^ 40 ∧ H q = some (.tup (iv ls)) ∧ H s = some (.tup (zv ss)) ∧ ls.length = ss.length ∧ Lens ls ∧ Strides ss ∧ 1 ≤ many ∧ many ≤ 20000 ∧
  ∀ H' t tl tf lo fs b, But p H H' → Pu H' p (n + 100) → H' t = some (.tup [.ref tl, .int b, .ref tf]) → H' tl = some (.tup (iv lo)) → H' tf = some (.tup (zv fs)) → Lens lo → Strides fs → VOk many lo b fs → Q (.ref t) H'
section
variable {P : Program} {w : World} {K : PySem.W.Frag} {mg : Str → Option Value} {base : Heap} {a : Adr}
theorem ok_l_room (T : Tx K mg a) : FnOk P w K mg base CX0 5 a.l_room a.fd_l_room ["_law_purse_here", "_law_many"] (sp_l_room a) := by
  have G_Room_init := ok_Room_init (P := P) (w := w) (base := base) T
  obtain ⟨_, hbR⟩ := b_Room_init T
  have G_l_take := ok_l_take (P := P) (w := w) (base := base) T
  have G_l_number := ok_l_number (P := P) (w := w) (base := base) T
  refine T.F_l_room.ok sc_l_room (fun vs H Q E h => ?_) (fun cdv A outer s H vs Q E hr h => ?_)
  · obtain ⟨p, n, many, rfl, _⟩ := h
    rfl
  · obtain ⟨p, n, many, rfl, hp, hn, hm, k⟩ := h
    refine ⟨_, (pss_one (ps_ret (pe_makeN T.mk_Room G_Room_init (hr.mono (by decide)) rfl T.m_Room hbR pass0 (pa_cons (pe_lc (own := [("_law_k", 2)]) rfl sc_l_room.nd (pi_range1 (by rfl) T.n_range (pa_cons (pv 1) pa_nil)) (blkOk_by (N := ["_law_purse_here", "_law_many", "_law_k"]) (sc := defScope s_l_room) (own := [("_law_k", 2)]) (by decide +kernel)) (fun _ _ _ _ _ => (pg_name (i := 2) sc_l_room.nd rfl (Or.inl rfl))) (fun _ _ _ _ _ => pts_nil) (fun _ _ _ _ _ => (pe_call G_l_number (hr.mono (by decide)) rfl T.m_l_number T.F_l_number.kp (b_l_number T) .nil pass0 (pa_cons (pv 0) pa_nil)))) pa_nil) (pk_cons (pe_ix ix_list (pe_lst (pa_cons pe_int (pa_cons pe_int (pa_cons pe_int (pa_cons pe_int pa_nil))))) (pe_call G_l_take (hr.mono (by decide)) rfl T.m_l_take T.F_l_take.kp (b_l_take T) .nil pass0 (pa_cons (pv 0) (pa_cons pe_int pa_nil))) (fun _ _ => rfl)) pk_nil)))), ?_⟩
    obtain ⟨zs, hlp⟩ := hp.lst
    refine ⟨_, rfl, _, rfl, by omega, by omega, fun D hD => ?_⟩
    have Dp : D ≠ p := Ne.symm (ne_of_none hlp hD)
    refine lc_mut walk_range (fun i acc H' => But p H H' ∧ Pu H' p (n + 2 * i) ∧ ∃ fs : List Int, acc = zv fs) (by omega) ⟨fun c o _ e => sm_new hD c o e, hp.same (sm_new hD), [], rfl⟩ (fun _ _ _ _ => trivial) ?_ ?_ ?_
    · rintro i acc H' ys zs ⟨g1, ⟨x, y, z, g2, g3⟩, g4⟩ hy
      exact ⟨fun c o nn e => by rw [upd_ne (ne_of_none e hD)]; exact g1 c o nn e, ⟨x, y, z, by rw [upd_ne (Ne.symm Dp)]; exact g2, g3⟩, g4⟩
    · rintro i x H2 H3 acc k' hi hacl ⟨b2, p2, fs, rfl⟩ hacc ⟨rfl, rfl⟩ hkk
      refine ⟨rfl, _, rfl, p, _, rfl, p2, by omega, fun H4 d b4 p4 => ?_⟩
      exact hkk _ _ (b4 D _ Dp hacc) ⟨b2.trans b4, p4, fs ++ [d], by unfold zv; rw [List.map_append]; rfl⟩
    · rintro acc H2 hacc hacl ⟨b2, p2, fs, rfl⟩
      rw [zv_len] at hacl
      have hfl : fs.length = many := by omega
      refine ⟨by show 4 ≤ sizeLine; decide, fun l hl => ?_⟩
      have s3 := sm_new (o := .lst [.int 8, .int 1, .int 3, .int 64]) hl
      obtain ⟨zs2, hlp2⟩ := p2.lst
      have lp : l ≠ p := Ne.symm (ne_of_none hlp2 hl)
      refine ⟨_, rfl, p, 4, _, rfl, p2.same s3, by omega, by decide, by decide, fun H4 d b4 p4 d0 d4 => ?_⟩
      obtain ⟨wd, hw, hw1⟩ : ∃ v : Nat, atI [V.int 8, .int 1, .int 3, .int 64] d = some (.int (v : Int)) ∧ 1 ≤ v ∧ v ≤ 64 := by
        have h : d = 0 ∨ d = 1 ∨ d = 2 ∨ d = 3 := by omega
        rcases h with e | e | e | e <;> subst e
        · exact ⟨8, rfl, by decide⟩
        · exact ⟨1, rfl, by decide⟩
        · exact ⟨3, rfl, by decide⟩
        · exact ⟨64, rfl, by decide⟩
      refine ⟨l, _, d, _, rfl, rfl, SqL.of (b4 l _ lp upd_same), hw, rfl, rfl, fun x dx hx hdx hne => ?_⟩
      have hD4 := b4 D _ Dp (s3 _ _ hacc)
      have b34 : But p H H4 := fun c o nn e => b4 c o nn (s3 _ _ (b2 c o nn e))
      have s5 := sm_new (o := .own x) hdx
      have hx5 : upd H4 dx (.own x) x = none := by rw [upd_ne (Ne.symm hne)]; exact hx
      have s6 := sm_upd (o := .ins a.Room dx []) s5 hx5
      obtain ⟨zs4, hlp4⟩ := p4.lst
      have px : p ≠ x := ne_of_none hlp4 hx
      have none4 : ∀ b, H4 b = none → H b = none := fun b e => by
        cases e2 : H b with
        | none => rfl
        | some o =>
          have bp : b ≠ p := fun q => by rw [q, hlp4] at e; cases e
          have := b34 b o bp e2
          rw [e] at this
          cases this
      have none6 : ∀ b, upd (upd H4 dx (.own x)) x (.ins a.Room dx []) b = none → H4 b = none := fun b e => free_upd (free_upd e)
      refine ⟨x, dx, D, wd, fs, rfl, upd_same, .inl (s6 _ _ hD4), hw1.1, hw1.2, by omega, fun H5 pl ps R hg hk => ⟨rfl, ?_⟩⟩
      have k5 : Same H4 H5 := fun b o e => hk b o (ne_of_none e hx) (s6 _ _ e)
      refine k H5 x pl ps wd fs (fun c o nn e => k5 _ _ (b34 c o nn e)) ((p4.same k5).mono (by omega)) R hfl (fun b g => ?_) (fun g => ?_)
      · rcases hg b g with e | e
        · rw [e]; exact none4 x hx
        · exact none4 b (none6 b e)
      · rcases hg p g with e | e
        · exact px e
        · have := none6 p e
          rw [hlp4] at this
          cases this
end
end VG

set_option Elab.async false
set_option linter.all false
set_option maxRecDepth 100000
set_option maxHeartbeats 4000000
namespace VG
open PySem PySem.Spec PyProof.Rows L2
theorem iv_drop (ls : List Nat) (k : Nat) : (iv ls).drop k = iv (ls.drop k) := by rw [iv_eq, iv_eq, List.map_drop]
theorem iv_take (ls : List Nat) (k : Nat) : (iv ls).take k = iv (ls.take k) := by rw [iv_eq, iv_eq, List.map_take]
theorem zv_drop (ls : List Int) (k : Nat) : (zv ls).drop k = zv (ls.drop k) := by unfold zv; rw [List.map_drop]
theorem iv_app (ls : List Nat) (x : Nat) : iv ls ++ [.int (x : Int)] = iv (ls ++ [x]) := by rw [iv_eq, iv_eq, List.map_append]; rfl
theorem zv_app (ls : List Int) (x : Int) : zv ls ++ [.int x] = zv (ls ++ [x]) := by unfold zv; rw [List.map_append]; rfl
section
variable {P : Program} {w : World} {K : PySem.W.Frag} {mg : Str → Option Value} {base : Heap} {a : Adr}
theorem ok_l_source (T : Tx K mg a) : FnOk P w K mg base CX0 2 a.l_source a.fd_l_source ["_law_purse_here", "_law_many", "_law_lengths_here", "_law_steps_here"] sp_l_source := by
  have G_l_take := ok_l_take (P := P) (w := w) (base := base) T
  have G_l_reach := ok_l_reach (P := P) (w := w) (base := base) T
  refine T.F_l_source.ok sc_l_source (fun vs H Q E h => ?_) (fun cdv A outer s H vs Q E hr h => ?_)
  · obtain ⟨p, q, s, n, many, ls, ss, rfl, _⟩ := h
    rfl
  · obtain ⟨p, q, s, n, many, ls, ss, rfl, hp, hn, hq, hs, hls, hL, hS, hm1, hm2, k⟩ := h
    refine ⟨_, (pss_cons (ps_set (i := 4) sc_l_source.nd rfl (Or.inl rfl) (pe_slice sl_tupA (pv 2) (po_some (pe_ix ix_list (pe_lst (pa_cons pe_int (pa_cons pe_int (pa_cons pe_int (pa_cons (pe_call G_l_take (hr.mono (by decide)) rfl T.m_l_take T.F_l_take.kp (b_l_take T) .nil pass0 (pa_cons (pv 0) (pa_cons (pe_op op_add (pe_callB call_len_seq (by rfl) T.n_len (by decide +kernel) (pa_cons (pv 2) pa_nil)) pe_int) pa_nil))) pa_nil))))) (pe_call G_l_take (hr.mono (by decide)) rfl T.m_l_take T.F_l_take.kp (b_l_take T) .nil pass0 (pa_cons (pv 0) (pa_cons pe_int pa_nil))) (fun _ _ => rfl))) po_none))
          (pss_cons (ps_set (i := 4) sc_l_source.nd rfl (Or.inl rfl) (pe_callTy call_tuple_of (by rfl) T.n_tuple (by decide +kernel) (pa_cons (pe_lc (own := [("_law_length", 8)]) rfl sc_l_source.nd (pi_tup (pv 4)) (blkOk_by (N := ["_law_purse_here", "_law_many", "_law_lengths_here", "_law_steps_here", "_law_lens", "_law_own", "_law_found", "_law_at", "_law_length", "_law_some", "_law_step", "_law_far", "_law_low", "_law_high"]) (sc := defScope s_l_source) (own := [("_law_length", 8)]) (by decide +kernel)) (fun _ _ _ _ _ => (pg_name (i := 8) sc_l_source.nd rfl (Or.inl rfl))) (fun _ _ _ _ _ => pts_nil) (fun _ _ _ _ _ => (pe_ix (r := rIxL K) ix_list (pe_lst (pa_cons (pv 8) (pa_cons pe_int pa_nil))) (pe_callTy call_int1 (by rfl) T.n_int (by decide +kernel) (pa_cons (pe_cmpR op_eq (pe_call G_l_take (hr.mono (by decide)) rfl T.m_l_take T.F_l_take.kp (b_l_take T) .nil pass0 (pa_cons (pv 0) (pa_cons pe_int pa_nil))) pe_int (nomark _)) pa_nil)) (fun _ _ => rfl)))) pa_nil)))
          (pss_cons (ps_set (i := 5) sc_l_source.nd rfl (Or.inl rfl) (pe_slice sl_tupA (pv 3) (po_some (pe_op op_sub (pe_callB call_len_seq (by rfl) T.n_len (by decide +kernel) (pa_cons (pv 2) pa_nil)) (pe_callB call_len_seq (by rfl) T.n_len (by decide +kernel) (pa_cons (pv 4) pa_nil)))) po_none))
          (pss_cons (ps_set (i := 6) sc_l_source.nd rfl (Or.inl rfl) (pe_tup pa_nil))
          (pss_cons (ps_for PassesOwn.never rfl (pi_enumT (by rfl) T.n_enumerate (pa_cons (pv 4) pa_nil)) (pg_tup rfl (pgs_cons (pg_name (i := 7) sc_l_source.nd rfl (Or.inl rfl)) (pgs_cons (pg_name (i := 8) sc_l_source.nd rfl (Or.inl rfl)) pgs_nil)))
            (pss_cons (ps_set (i := 9) sc_l_source.nd rfl (Or.inl rfl) (pe_lst (pa_cons (pe_ix ix_tup (pv 5) (pv 7) (fun _ _ => rfl)) (pa_cons (pe_ix ix_tup (pv 5) (pv 7) (fun _ _ => rfl)) (pa_cons (pe_op op_sub pe_int (pe_ix ix_tup (pv 5) (pv 7) (fun _ _ => rfl))) (pa_cons (pe_ix ix_tup (pv 5) (pe_call G_l_take (hr.mono (by decide)) rfl T.m_l_take T.F_l_take.kp (b_l_take T) .nil pass0 (pa_cons (pv 0) (pa_cons (pe_callB call_len_seq (by rfl) T.n_len (by decide +kernel) (pa_cons (pv 5) pa_nil)) pa_nil))) (fun _ _ => rfl)) (pa_cons (pe_op op_sub (pe_call G_l_take (hr.mono (by decide)) rfl T.m_l_take T.F_l_take.kp (b_l_take T) .nil pass0 (pa_cons (pv 0) (pa_cons pe_int pa_nil))) pe_int) (pa_cons pe_int pa_nil))))))))
          (pss_cons (ps_set (i := 10) sc_l_source.nd rfl (Or.inl rfl) (pe_ix ix_list (pv 9) (pe_call G_l_take (hr.mono (by decide)) rfl T.m_l_take T.F_l_take.kp (b_l_take T) .nil pass0 (pa_cons (pv 0) (pa_cons pe_int pa_nil))) (fun _ _ => rfl)))
          (pss_cons (ps_set (i := 11) sc_l_source.nd rfl (Or.inl rfl) (pe_op op_sub (pe_call G_l_reach (hr.mono (by decide)) rfl T.m_l_reach T.F_l_reach.kp (b_l_reach T) .nil pass0 (pa_cons (pe_slice sl_tupA (pv 4) po_none (po_some (pe_op op_add (pv 7) pe_int))) (pa_cons (pe_op op_catA (pv 6) (pe_tup (pa_cons (pv 10) pa_nil))) (pa_cons pe_int pa_nil)))) (pe_call G_l_reach (hr.mono (by decide)) rfl T.m_l_reach T.F_l_reach.kp (b_l_reach T) .nil pass0 (pa_cons (pe_slice sl_tupA (pv 4) po_none (po_some (pe_op op_add (pv 7) pe_int))) (pa_cons (pe_op op_catA (pv 6) (pe_tup (pa_cons (pv 10) pa_nil))) (pa_cons (pe_un un_neg pe_int) pa_nil))))))
          (pss_one (ps_set (i := 6) sc_l_source.nd rfl (Or.inl rfl) (pe_op op_catA (pv 6) (pe_tup (pa_cons (pe_ix ix_list (pe_lst (pa_cons (pv 10) (pa_cons pe_int pa_nil))) (pe_callTy call_int1 (by rfl) T.n_int (by decide +kernel) (pa_cons (pe_cmpR op_ge (pv 11) (pv 1) (nomark _)) pa_nil)) (fun _ _ => rfl)) pa_nil)))))))))
          (pss_cons (ps_par (i := 12) (j := 13) rfl sc_l_source.nd rfl rfl (by decide) rfl rfl (pa_cons (pe_call G_l_reach (hr.mono (by decide)) rfl T.m_l_reach T.F_l_reach.kp (b_l_reach T) .nil pass0 (pa_cons (pv 4) (pa_cons (pv 6) (pa_cons (pe_un un_neg pe_int) pa_nil)))) (pa_cons (pe_call G_l_reach (hr.mono (by decide)) rfl T.m_l_reach T.F_l_reach.kp (b_l_reach T) .nil pass0 (pa_cons (pv 4) (pa_cons (pv 6) (pa_cons pe_int pa_nil)))) pa_nil)) (by rfl))
          (pss_one (ps_ret (pe_tup (pa_cons (pv 4) (pa_cons (pe_op op_sub (pe_call G_l_take (hr.mono (by decide)) rfl T.m_l_take T.F_l_take.kp (b_l_take T) .nil pass0 (pa_cons (pv 0) (pa_cons (pe_op op_add (pe_op op_sub (pv 1) (pv 13)) (pv 12)) pa_nil))) (pv 12)) (pa_cons (pv 6) pa_nil)))))))))))), ?_⟩
    obtain ⟨zs, hlp⟩ := hp.lst
    have h5 := hL.1
    have qp : q ≠ p := ne_of hq hlp (by intro z; cases z)
    have sp : s ≠ p := ne_of hs hlp (by intro z; cases z)
    refine ⟨_, rfl, _, rfl, _, rfl, q, _, rfl, .inr (SqT.of hq), _, _, rfl, rfl, p, _, n, rfl, hp, by omega, by rw [iv_len]; omega, by rw [iv_len]; omega, fun H1 d1 b1 p1 d10 d11 => ?_⟩
    rw [iv_len] at d11
    refine ⟨by show 4 ≤ sizeLine; decide, fun l hl => ?_⟩
    have s1 := sm_new (o := .lst [.int 0, .int 0, .int 0, .int d1]) hl
    obtain ⟨zs1, hlp1⟩ := p1.lst
    have lp : l ≠ p := Ne.symm (ne_of_none hlp1 hl)
    refine ⟨_, rfl, p, 4, _, rfl, p1.same s1, by omega, by decide, by decide, fun H2 d2 b2 p2 d20 d24 => ?_⟩
    obtain ⟨c, hc, hc1⟩ : ∃ c : Nat, atI [V.int 0, .int 0, .int 0, .int d1] d2 = some (.int (c : Int)) ∧ c ≤ ls.length := by
      have h : d2 = 0 ∨ d2 = 1 ∨ d2 = 2 ∨ d2 = 3 := by omega
      rcases h with e | e | e | e <;> subst e
      · exact ⟨0, rfl, by omega⟩
      · exact ⟨0, rfl, by omega⟩
      · exact ⟨0, rfl, by omega⟩
      · refine ⟨d1.toNat, ?_, by omega⟩
        rw [Int.toNat_of_nonneg d10]
        rfl
    have b12 : But p H H2 := fun c o nn e => b2 c o nn (s1 _ _ (b1 c o nn e))
    have hq2 := b12 q _ qp hq
    refine ⟨l, _, d2, _, rfl, rfl, SqL.of (b2 l _ lp upd_same), hc, _, rfl, ?_⟩
    unfold tNoPart
    refine slA_by hq2 fun H3 t4 s3 ht4 => ?_
    rw [cut_drop _ _ (by rw [iv_len]; exact hc1), iv_drop] at ht4
    have hLd := hL.drop c
    generalize hlo0 : ls.drop c = lo0 at ht4 hLd
    have hlo05 := hLd.1
    have b03 : But p H H3 := fun c o nn e => s3 _ _ (b12 c o nn e)
    have p3 := p2.same s3
    obtain ⟨zs3, hlp3⟩ := p3.lst
    have t4p : t4 ≠ p := ne_of ht4 hlp3 (by intro z; cases z)
    refine ⟨_, rfl, t4, rfl, ⟨_, SqT.of ht4⟩, fun D hD => ?_⟩
    have Dp : D ≠ p := Ne.symm (ne_of_none hlp3 hD)
    refine lc_mut (walk_tup (xs := iv lo0)) (fun i acc H' => But p H3 H' ∧ Pu H' p (n + 1 + 1 + i) ∧ ∃ ms : List Nat, acc = iv ms ∧ ∀ (j l m : Nat), lo0[j]? = some l → ms[j]? = some m → m = 1 ∨ m = l) (by rw [iv_len]; omega) ⟨fun c o _ e => sm_new hD c o e, p3.same (sm_new hD), [], rfl, fun j l m _ e => by simp at e⟩ (fun i acc H' z => SqT.of (z.1 t4 _ t4p ht4)) ?_ ?_ ?_
    · rintro i acc H' ys zs ⟨g1, ⟨x, y, z, g2, g3⟩, g4⟩ hy
      exact ⟨fun c o nn e => by rw [upd_ne (ne_of_none e hD)]; exact g1 c o nn e, ⟨x, y, z, by rw [upd_ne (Ne.symm Dp)]; exact g2, g3⟩, g4⟩
    · rintro i x H4 H5 acc k' hi hacl ⟨b4, p4, ms, rfl, hms⟩ hacc ⟨rfl, hx⟩ hkk
      obtain ⟨y, hy, rfl⟩ := iv_get hx
      rw [iv_len] at hi hacl
      refine ⟨rfl, _, rfl, by show 2 ≤ sizeLine; decide, fun l2 hl2 => ?_⟩
      have s5 := sm_new (o := .lst [.int (y : Int), .int 1]) hl2
      obtain ⟨zs4, hlp4⟩ := p4.lst
      have lp2 : l2 ≠ p := Ne.symm (ne_of_none hlp4 hl2)
      refine ⟨_, rfl, p, 7, _, rfl, p4.same s5, by omega, by decide, by decide, fun H6 d b6 p6 d0 d7 => ?_⟩
      obtain ⟨x, hx, hx2⟩ : ∃ x : Nat, atI [V.int (y : Int), .int 1] (if decide (V.int d = V.int 3) = true then 1 else 0) = some (.int (x : Int)) ∧ (x = 1 ∨ x = y) := by
        by_cases e : d = 3
        · subst e
          exact ⟨1, rfl, .inl rfl⟩
        · refine ⟨y, ?_, .inr rfl⟩
          rw [decide_eq_false (fun q => e (by injection q))]
          rfl
      refine ⟨rfl, .inr ⟨_, rfl, l2, _, _, _, rfl, rfl, SqL.of (b6 l2 _ lp2 upd_same), hx, ?_⟩⟩
      refine hkk _ _ (b6 D _ Dp (s5 _ _ hacc)) ⟨fun c o nn e => b6 c o nn (s5 _ _ (b4 c o nn e)), p6, ms ++ [x], iv_app ms x, fun j l m h1 h2 => ?_⟩
      by_cases hj : j < ms.length
      · rw [List.getElem?_append_left hj] at h2
        exact hms j l m h1 h2
      · rw [List.getElem?_append_right (by omega)] at h2
        have hj0 : j - ms.length = 0 := by
          have := (List.getElem?_eq_some_iff.mp h2).1
          simp at this
          omega
        rw [hj0] at h2
        obtain rfl : x = m := Option.some.inj h2
        obtain rfl : j = i := by omega
        rw [hy] at h1
        obtain rfl := Option.some.inj h1
        exact hx2
    rintro acc H4 hacc hacl ⟨b4, p4, lo, rfl, hlo⟩
    rw [iv_len, iv_len] at hacl
    rw [iv_len] at p4
    have hLo := hLd.ones hacl hlo
    have hlo5 := hLo.1
    refine ⟨D, _, rfl, .inl ⟨SqL.of hacc, fun t5 ht5n => ?_⟩⟩
    have s5 := sm_new (o := .tup (iv lo)) ht5n
    have ht5 : upd H4 t5 (.tup (iv lo)) t5 = some (.tup (iv lo)) := upd_same
    have b05 : But p H (upd H4 t5 (.tup (iv lo))) := fun c o nn e => s5 _ _ (b4 c o nn (b03 c o nn e))
    have p5 := p4.same s5
    generalize upd H4 t5 (.tup (iv lo)) = H5 at ht5 b05 p5
    have hq5 := b05 q _ qp hq
    have hs5 := b05 s _ sp hs
    have hkl : (((iv ls).length : Int)) - ((iv lo).length : Int) = ((ls.length - lo.length : Nat) : Int) := by
      rw [iv_len, iv_len]
      have : lo.length ≤ ls.length := by rw [hacl, ← hlo0, List.length_drop]; omega
      omega
    refine ⟨_, rfl, _, rfl, q, _, rfl, .inr (SqT.of hq5), _, rfl, t5, _, rfl, .inr (SqT.of ht5), _, _, rfl, rfl, _, rfl, ?_⟩
    show rSlA K (.ref s) (some (((iv ls).length : Int) - ((iv lo).length : Int))) none H5 _
    rw [hkl]
    refine slA_by hs5 fun H6 to s6 hto => ?_
    rw [cut_drop _ _ (by rw [zv_len]; omega), zv_drop] at hto
    have hol : (ss.drop (ls.length - lo.length)).length = lo.length := by
      rw [List.length_drop, ← hls]
      have : lo.length ≤ ls.length := by rw [hacl, ← hlo0, List.length_drop]; omega
      omega
    have hOs : Strides (ss.drop (ls.length - lo.length)) := fun x hx => hS x (List.mem_of_mem_drop hx)
    generalize ss.drop (ls.length - lo.length) = own at hto hol hOs
    have b06 : But p H H6 := fun c o nn e => s6 _ _ (b05 c o nn e)
    have p6 := p5.same s6
    have ht6 := s6 _ _ ht5
    refine ⟨Nat.zero_le _, fun f0 hf0 => ?_⟩
    have s7 := sm_new (o := .tup []) hf0
    obtain ⟨zs6, hlp6⟩ := p6.lst
    have t5p : t5 ≠ p := ne_of ht6 hlp6 (by intro z; cases z)
    have top : to ≠ p := ne_of hto hlp6 (by intro z; cases z)
    refine ⟨_, rfl, t5, _, rfl, SqT.of (s7 _ _ ht6), for_it walk_enumT (fun i σ H' => But p (upd H6 f0 (.tup [])) H' ∧ Pu H' p (n + 7 + 3 * i) ∧ ∃ (f : Addr) (fs : List Int) (v7 v8 v9 v10 v11 : Option V), σ = [some (.ref p), some (.int (many : Int)), some (.ref q), some (.ref s), some (.ref t5), some (.ref to), some (.ref f), v7, v8, v9, v10, v11, none, none] ∧
      H' f = some (.tup (zv fs)) ∧ fs.length = i ∧ Strides fs ∧ reach (lo.take i) fs 1 - reach (lo.take i) fs (-1) < many) ⟨But.refl _ _, (p6.same s7).mono (by omega), f0, [], none, none, none, none, none, rfl, upd_same, rfl, fun x hx => by simp at hx, by simp [reach]; omega⟩ (fun i σ H' _ z => SqT.of (z.1 t5 _ t5p (s7 _ _ ht6))) ?_ ?_⟩
    · rintro i x σ H7 H8 hi ⟨b7, p7, f, fs, v7, v8, v9, v10, v11, rfl, hf, hfl, hfs, hr7⟩ ⟨T', x1, x2, rfl, hT, rfl, e1, e2⟩
      obtain rfl : x1 = .int (i : Nat) := (Option.some.inj e1).symm
      obtain ⟨y, hy, rfl⟩ := iv_get e2
      rw [iv_len] at hi
      have sT := sm_new (o := .tup [.int (i : Nat), .int (y : Int)]) hT
      refine g_pair ?_
      have p8 := p7.same sT
      have b8 : But p (upd H6 f0 (.tup [])) (upd H7 T' (.tup [.int (i : Nat), .int (y : Int)])) := fun c o nn e => sT _ _ (b7 c o nn e)
      have hf8 := sT _ _ hf
      generalize upd H7 T' (.tup [.int (i : Nat), .int (y : Int)]) = H8 at p8 b8 hf8
      obtain ⟨zs8, hlp8⟩ := p8.lst
      have fp : f ≠ p := ne_of hf8 hlp8 (by intro z; cases z)
      have hto8 := b8 to _ top (s7 _ _ hto)
      have ht58 := b8 t5 _ t5p (s7 _ _ ht6)
      obtain ⟨u, hu⟩ : ∃ u, own[i]? = some u := ⟨_, List.getElem?_eq_getElem (by omega)⟩
      have hub := hOs u (List.mem_of_getElem? hu)
      refine ⟨_, rfl, _, rfl, to, _, (i : Int), _, rfl, rfl, SqT.of hto8, atI_nat (zv_at hu), _, rfl, _, rfl, to, _, (i : Int), _, rfl, rfl, SqT.of hto8, atI_nat (zv_at hu), _, rfl, _, rfl, to, _, (i : Int), _, rfl, rfl, SqT.of hto8, atI_nat (zv_at hu), _, _, rfl, rfl, ?_⟩
      refine ⟨_, rfl, _, rfl, _, rfl, to, _, rfl, .inr (SqT.of hto8), p, _, _, rfl, p8, by omega, by rw [zv_len]; omega, by rw [zv_len]; omega, fun H9 d b9 p9 d0 d1 => ?_⟩
      rw [zv_len] at d1
      obtain ⟨u2, hu2⟩ : ∃ u, own[d.toNat]? = some u := ⟨_, List.getElem?_eq_getElem (by omega)⟩
      have hub2 := hOs u2 (List.mem_of_getElem? hu2)
      have ed : d = ((d.toNat : Nat) : Int) := (Int.toNat_of_nonneg d0).symm
      refine ⟨to, _, d, _, rfl, rfl, SqT.of (b9 to _ top hto8), by rw [ed]; exact atI_nat (zv_at hu2), ?_⟩
      refine ⟨_, rfl, p, 9, _, rfl, p9, by omega, by decide, by decide, fun H10 e b10 p10 e0 e9 => ⟨_, _, rfl, rfl, by show 6 ≤ sizeLine; decide, fun l6 hl6 => ?_⟩⟩
      have s11 := sm_new (o := .lst [.int u, .int u, .int (0 - u), .int u2, .int (e - 4), .int 0]) hl6
      obtain ⟨zs10, hlp10⟩ := p10.lst
      have lp6 : l6 ≠ p := Ne.symm (ne_of_none hlp10 hl6)
      refine ⟨_, rfl, _, rfl, p, 6, _, rfl, p10.same s11, by omega, by decide, by decide, fun H12 g b12' p12 g0 g6 => ?_⟩
      obtain ⟨st, hst, hst2⟩ : ∃ v : Int, atI [V.int u, .int u, .int (0 - u), .int u2, .int (e - 4), .int 0] g = some (.int v) ∧ -600 ≤ v ∧ v ≤ 600 := by
        have h : g = 0 ∨ g = 1 ∨ g = 2 ∨ g = 3 ∨ g = 4 ∨ g = 5 := by omega
        rcases h with z | z | z | z | z | z <;> subst z <;> exact ⟨_, rfl, by omega, by omega⟩
      refine ⟨l6, _, g, _, rfl, rfl, SqL.of (b12' l6 _ lp6 upd_same), hst, ?_⟩
      have b12'' : But p (upd H6 f0 (.tup [])) H12 := fun c o nn ee => b12' c o nn (s11 _ _ (b10 c o nn (b9 c o nn (b8 c o nn ee))))
      have ht12 := b12'' t5 _ t5p (s7 _ _ ht6)
      have hf12 : H12 f = some (.tup (zv fs)) := b12' f _ fp (s11 _ _ (b10 f _ fp (b9 f _ fp hf8)))
      have hi1 : (i : Int) + 1 = ((i + 1 : Nat) : Int) := by omega
      have htl : (iv lo).take (i + 1) = iv (lo.take (i + 1)) := iv_take lo (i + 1)
      have elo : lo.take (i + 1) = lo.take i ++ [y] := by rw [List.take_add_one, hy]; rfl
      have hlt6 : ∀ l ∈ lo.take (i + 1), l ≤ 600 := fun l hl => hLo.sides.2.2 l (List.mem_of_mem_take hl)
      have hlen1 : (lo.take (i + 1)).length = (fs ++ [st]).length := by rw [List.length_take, List.length_append, hfl]; simp; omega
      have hlen0 : (lo.take i).length = fs.length := by rw [List.length_take, hfl]; omega
      refine ⟨_, rfl, _, rfl, _, _, rfl, rfl, _, rfl, slA_by ht12 fun H13 t13 s13 ht13 => ?_⟩
      rw [hi1, cut_take _ _ (by rw [iv_len]; omega), htl] at ht13
      refine ⟨_, rfl, _, rfl, by show 1 ≤ sizeLine; decide, fun t14 ht14 => catA_by (ys := [.int st]) ((sm_new ht14) _ _ (s13 _ _ hf12)) upd_same (by rw [zv_len]; simp; omega) fun H15 t15 s15 ht15 => ?_⟩
      rw [zv_app] at ht15
      have s14 := sm_new (o := .tup [.int st]) ht14
      refine ⟨t13, t15, 1, lo.take (i + 1), fs ++ [st], rfl, s15 _ _ (s14 _ _ ht13), ht15, hlen1, hlt6, .inl rfl, fun H16 s16 => ?_⟩
      have s12_16 := ((s13.trans s14).trans s15).trans s16
      refine ⟨_, rfl, _, rfl, _, _, rfl, rfl, _, rfl, slA_by (s12_16 _ _ ht12) fun H17 t17 s17 ht17 => ?_⟩
      rw [hi1, cut_take _ _ (by rw [iv_len]; omega), htl] at ht17
      refine ⟨_, rfl, _, rfl, by show 1 ≤ sizeLine; decide, fun t18 ht18 => catA_by (ys := [.int st]) ((sm_new ht18) _ _ (s17 _ _ (s12_16 _ _ hf12))) upd_same (by rw [zv_len]; simp; omega) fun H19 t19 s19 ht19 => ?_⟩
      rw [zv_app] at ht19
      have s18 := sm_new (o := .tup [.int st]) ht18
      refine ⟨_, rfl, t17, t19, -1, lo.take (i + 1), fs ++ [st], rfl, s19 _ _ (s18 _ _ ht17), ht19, hlen1, hlt6, .inr rfl, fun H20 s20 => ⟨_, _, rfl, rfl, ?_⟩⟩
      have s12_20 := s12_16.trans (((s17.trans s18).trans s19).trans s20)
      refine ⟨_, rfl, _, rfl, by show 2 ≤ sizeLine; decide, fun l7 hl7 => ⟨_, rfl, _, rfl, _, _, rfl, rfl, ?_⟩⟩
      have s21 := sm_new (o := .lst [.int st, .int 0]) hl7
      obtain ⟨v, hv, hv1, hv2⟩ : ∃ v : Int, atI [V.int st, .int 0] (if decide (reach (lo.take (i + 1)) (fs ++ [st]) 1 - reach (lo.take (i + 1)) (fs ++ [st]) (-1) ≥ (many : Int)) = true then 1 else 0) = some (.int v) ∧ (-600 ≤ v ∧ v ≤ 600) ∧ reach (lo.take (i + 1)) (fs ++ [v]) 1 - reach (lo.take (i + 1)) (fs ++ [v]) (-1) < many := by
        by_cases hfar : reach (lo.take (i + 1)) (fs ++ [st]) 1 - reach (lo.take (i + 1)) (fs ++ [st]) (-1) ≥ (many : Int)
        · refine ⟨0, by rw [decide_eq_true hfar]; rfl, by omega, ?_⟩
          rw [elo, reach_snoc hlen0, reach_snoc hlen0]
          simp
          exact hr7
        · exact ⟨st, by rw [decide_eq_false hfar]; rfl, hst2, by omega⟩
      refine .inr ⟨_, rfl, l7, _, _, _, rfl, rfl, SqL.of upd_same, hv, by show 1 ≤ sizeLine; decide, fun t22 ht22 => ?_⟩
      have s22 := sm_new (o := .tup [.int v]) ht22
      refine catA_by (ys := [.int v]) (s22 _ _ (s21 _ _ (s12_20 _ _ hf12))) upd_same (by rw [zv_len]; simp; omega) fun H23 t23 s23 ht23 => ?_
      rw [zv_app] at ht23
      have s12_23 := s12_20.trans ((s21.trans s22).trans s23)
      refine ⟨fun c o nn ee => s12_23 _ _ (b12'' c o nn ee), (p12.same s12_23).mono (by omega), t23, fs ++ [v], some (.int (i : Nat)), some (.int (y : Int)), some (.ref l6), some (.int st), some (.int (reach (lo.take (i + 1)) (fs ++ [st]) 1 - reach (lo.take (i + 1)) (fs ++ [st]) (-1))), rfl, ht23, by rw [List.length_append, hfl]; rfl, ?_, hv2⟩
      intro x hx
      rcases List.mem_append.mp hx with z | z
      · exact hfs x z
      · have : x = v := by simpa using z
        omega
    · rintro σ H7 ⟨b7, p7, f, fs, v7, v8, v9, v10, v11, rfl, hf, hfl, hfs, hr7⟩
      rw [iv_len] at p7 hfl hr7
      rw [List.take_length] at hr7
      obtain ⟨zs7, hlp7⟩ := p7.lst
      have fp : f ≠ p := ne_of hf hlp7 (by intro z; cases z)
      have ht7 := b7 t5 _ t5p (s7 _ _ ht6)
      have hb6 : ∀ l ∈ lo, l ≤ 600 := hLo.sides.2.2
      have hsp := reach_span hfl.symm hfs
      refine ⟨_, rfl, _, rfl, _, rfl, t5, f, -1, lo, fs, rfl, ht7, hf, hfl.symm, hb6, .inr rfl, fun H8 s8 => ?_⟩
      refine ⟨_, rfl, _, rfl, t5, f, 1, lo, fs, rfl, s8 _ _ ht7, s8 _ _ hf, hfl.symm, hb6, .inl rfl, fun H9 s9 => ⟨_, _, rfl, ?_⟩⟩
      have s79 := s8.trans s9
      have hspan := span_le hfl.symm hLo hfs
      refine ⟨_, rfl, _, rfl, _, rfl, _, rfl, _, _, rfl, rfl, _, rfl, _, _, rfl, rfl, p, _, _, rfl, p7.same s79, by omega, by omega, by omega, fun H10 d b10 p10 d0 d1 => ?_⟩
      refine ⟨_, rfl, _, _, rfl, rfl, _, rfl, by show 3 ≤ sizeLine; decide, fun t11 ht11 => ?_⟩
      have s11 := sm_new (o := .tup [.ref t5, .int (d - reach lo fs (-1)), .ref f]) ht11
      refine k _ t11 t5 f lo fs (d - reach lo fs (-1)) (fun c o nn ee => s11 _ _ (b10 c o nn (s79 _ _ (b7 c o nn (s7 _ _ (b06 c o nn ee)))))) ((p10.same s11).mono (by omega)) upd_same (s11 _ _ (b10 t5 _ t5p (s79 _ _ ht7))) (s11 _ _ (b10 f _ fp (s79 _ _ hf))) hLo hfs (vok_of hfl.symm hLo (by omega) (by omega))
end
end VG

set_option Elab.async false
set_option linter.all false
set_option maxRecDepth 100000
set_option maxHeartbeats 4000000
namespace VG
open PySem PySem.Spec PyProof.Rows L2
/-- what may be told anew is a list, a room, a page: no tuple, no view -/
structure MutOk (a : Adr) (H : Hp) (M : Addr → Prop) : Prop where
  tup : ∀ b xs, H b = some (.tup xs) → ¬ M b
  view : ∀ b dx r tl z ts, H b = some (.ins a.View dx (vf r tl z ts)) → ¬ M b
/-- all but M is kept -/
def Fr (M : Addr → Prop) (H H' : Hp) : Prop := ∀ b o, H b = some o → ¬ M b → H' b = some o
/-- a look: room, view, sides, cells -/
def Look (a : Adr) (H : Hp) (M : Addr → Prop) (x : V) (r : Addr) (n : Nat) (ls : List Nat) (b : Int) (ss : List Int) : Prop :=
  ∃ t v tl cl : Addr, x = .ref t ∧ H t = some (.tup [.ref r, .ref v, .ref tl, .ref cl]) ∧ ViewAt a H v r ls (tb ls b) (ts ls ss) ∧ H tl = some (.tup (iv ls)) ∧ H cl = some (.lst (zv (cells ls ss b))) ∧ VOk n ls b ss ∧ ¬ M cl
theorem ViewAt.move {a : Adr} {H H' : Hp} {M : Addr → Prop} {v r : Addr} {ls : List Nat} {b : Int} {ss : List Int} (h : ViewAt a H v r ls b ss) (mo : MutOk a H M) (fr : Fr M H H') : ViewAt a H' v r ls b ss := by
  obtain ⟨dx, tl, ts', h1, h2, h3⟩ := h
  exact ⟨dx, tl, ts', fr _ _ h1 (mo.view _ _ _ _ _ _ h1), fr _ _ h2 (mo.tup _ _ h2), fr _ _ h3 (mo.tup _ _ h3)⟩
theorem Look.move {a : Adr} {H H' : Hp} {M M' : Addr → Prop} {x : V} {r : Addr} {n : Nat} {ls : List Nat} {b : Int} {ss : List Int} (h : Look a H M x r n ls b ss) (mo : MutOk a H M) (fr : Fr M H H') (fm : ∀ b o, H b = some o → ¬ M b → ¬ M' b) : Look a H' M' x r n ls b ss := by
  obtain ⟨t, v, tl, cl, h1, h2, h3, h4, h5, h6, h7⟩ := h
  exact ⟨t, v, tl, cl, h1, fr _ _ h2 (mo.tup _ _ h2), h3.move mo fr, fr _ _ h4 (mo.tup _ _ h4), fr _ _ h5 h7, h6, fm _ _ h5 h7⟩
theorem Look.same {a : Adr} {H H' : Hp} {M : Addr → Prop} {x : V} {r : Addr} {n : Nat} {ls : List Nat} {b : Int} {ss : List Int} (h : Look a H M x r n ls b ss) (e : Same H H') : Look a H' M x r n ls b ss := by
  obtain ⟨t, v, tl, cl, h1, h2, h3, h4, h5, h6, h7⟩ := h
  exact ⟨t, v, tl, cl, h1, e _ _ h2, h3.same e, e _ _ h4, e _ _ h5, h6, h7⟩
theorem RoomAt.but {a : Adr} {H H' : Hp} {r pl : Addr} {ps : List (Addr × Addr)} {w : Nat} {cs : List Int} {p : Addr} (R : RoomAt a H r pl ps w cs) (k : But p H H') (g : ¬ guts r pl ps p) : RoomAt a H' r pl ps w cs := by
  have key : ∀ b o, guts r pl ps b → H b = some o → H' b = some o := fun b o gb e => k b o (fun q => g (q ▸ gb)) e
  refine ⟨?_, key _ _ (.inr (.inl rfl)) R.lst, R.np, fun j q hj => ?_, R.nd1, R.nd2, R.npl, R.w0, R.w1, R.big⟩
  · obtain ⟨dx, cp, h⟩ := R.ob
    exact ⟨dx, cp, key _ _ (.inl rfl) h⟩
  · obtain ⟨dx, hold, h0, h1, h2⟩ := R.pg j q hj
    have mq := List.mem_of_getElem? hj
    exact ⟨dx, hold, h0, key _ _ (.inr (.inr ⟨q, mq, .inl rfl⟩)) h1, key _ _ (.inr (.inr ⟨q, mq, .inr rfl⟩)) h2⟩
theorem RoomAt.frame {a : Adr} {H H' : Hp} {r pl : Addr} {ps : List (Addr × Addr)} {w : Nat} {cs : List Int} (R : RoomAt a H r pl ps w cs) (key : ∀ b o, guts r pl ps b → H b = some o → H' b = some o) : RoomAt a H' r pl ps w cs := by
  refine ⟨?_, key _ _ (.inr (.inl rfl)) R.lst, R.np, fun j q hj => ?_, R.nd1, R.nd2, R.npl, R.w0, R.w1, R.big⟩
  · obtain ⟨dx, cp, h⟩ := R.ob
    exact ⟨dx, cp, key _ _ (.inl rfl) h⟩
  · obtain ⟨dx, hold, h0, h1, h2⟩ := R.pg j q hj
    have mq := List.mem_of_getElem? hj
    exact ⟨dx, hold, h0, key _ _ (.inr (.inr ⟨q, mq, .inl rfl⟩)) h1, key _ _ (.inr (.inr ⟨q, mq, .inr rfl⟩)) h2⟩
theorem Sys.frame {a : Adr} {H H' : Hp} {r pl t plt : Addr} {ps pst : List (Addr × Addr)} {w wt : Nat} {cs as : List Int} (S : Sys a H r pl ps w cs t plt pst wt as) (k1 : ∀ b o, guts r pl ps b → H b = some o → H' b = some o) (k2 : ∀ b o, guts t plt pst b → H b = some o → H' b = some o) : Sys a H' r pl ps w cs t plt pst wt as :=
  ⟨S.main.frame k1, S.twin.frame k2, S.rt, S.pp, S.x1, S.x2, S.x3, fun p h1 h2 => let ⟨dx, hold, g1, g2⟩ := S.x4 p h1 h2; ⟨dx, hold, g1, k1 _ _ (.inr (.inr ⟨p, h1, .inl rfl⟩)) g2⟩⟩
theorem Sys.upd {a : Adr} {H : Hp} {r pl t plt D : Addr} {ps pst : List (Addr × Addr)} {w wt : Nat} {cs as : List Int} {o : HO} (S : Sys a H r pl ps w cs t plt pst wt as) (g1 : ¬ guts r pl ps D) (g2 : ¬ guts t plt pst D) : Sys a (L2.upd H D o) r pl ps w cs t plt pst wt as :=
  S.frame (fun b z g e => by rw [upd_ne (show b ≠ D from fun q => g1 (q ▸ g))]; exact e) (fun b z g e => by rw [upd_ne (show b ≠ D from fun q => g2 (q ▸ g))]; exact e)
theorem Sys.but {a : Adr} {H H' : Hp} {r pl t plt p : Addr} {ps pst : List (Addr × Addr)} {w wt : Nat} {cs as : List Int} (S : Sys a H r pl ps w cs t plt pst wt as) (k : But p H H') (g1 : ¬ guts r pl ps p) (g2 : ¬ guts t plt pst p) : Sys a H' r pl ps w cs t plt pst wt as :=
  S.frame (fun b z g e => k b z (fun q => g1 (q ▸ g)) e) (fun b z g e => k b z (fun q => g2 (q ▸ g)) e)
/-- a room's own and a purse -/
def RM (r pl : Addr) (ps : List (Addr × Addr)) (p : Addr) : Addr → Prop := fun b => guts r pl ps b ∨ b = p
theorem RM.ok {a : Adr} {H : Hp} {r pl p : Addr} {ps : List (Addr × Addr)} {w : Nat} {cs : List Int} {zs : List V} (R : RoomAt a H r pl ps w cs) (hp : H p = some (.lst zs)) : MutOk a H (RM r pl ps p) := by
  refine ⟨fun b xs h g => ?_, fun b dx r' tl z ts h g => ?_⟩
  · rcases g with g | g
    · exact R.no_tup h g
    · rw [g, hp] at h; cases h
  · rcases g with g | g
    · exact R.no_view h g
    · rw [g, hp] at h; cases h
theorem RM.but {r pl p : Addr} {ps : List (Addr × Addr)} {H H' : Hp} (k : But p H H') : Fr (RM r pl ps p) H H' := fun b o e g => k b o (fun q => g (.inr q)) e
/-- the state told anew -/
theorem stp {p q : TS} {D : Ends} {σ σ' : St} {H : Hp} (e : σ = σ') (h : tSeq p q D σ' H) : tSeq p q D σ H := e ▸ h
/-- three names from a tuple -/
theorem g_three {K : PySem.W.Frag} {i j l : Nat} {x y z : V} {T : Addr} {H : Hp} {σ : St} {Q : St → Hp → Prop} (hT : H T = some (.tup [x, y, z])) (h : Q (((σ.set i (some x)).set j (some y)).set l (some z)) H) :
    gTup K 3 (gCons (gName i) (gCons (gName j) (gCons (gName l) gNil))) (.ref T) σ H Q :=
  ⟨T, [x, y, z], rfl, SqT.of hT, rfl, x, [y, z], rfl, y, [z], rfl, z, [], rfl, rfl, h⟩
end VG

set_option Elab.async false
set_option linter.all false
set_option maxRecDepth 100000
set_option maxHeartbeats 1000000
namespace VG
open PySem PySem.Spec PyProof.Rows L2
def sp_l_over (a : Adr) : Sp := fun vs H Q _ => ∃ (p : Addr) (n : Nat), vs = [.ref p, .int 24, .bl false] ∧ Pu H p n ∧ n + 1000000 ≤ 2 ^ 40 ∧
  ∀ H' q x1 x2 r pl ps w cs, But p H H' → Pu H' p (n + 70000) → H q = none → H' q = some (.lst [x1, x2]) → RoomAt a H' r pl ps w cs → (∀ b, guts r pl ps b → H b = none) → ¬ guts r pl ps p → ¬ guts r pl ps q → 1 ≤ cs.length →
    (∀ x, x = x1 ∨ x = x2 → ∃ ls b ss, Look a H' (RM r pl ps p) x r cs.length ls b ss) → Q (.ref q) H'
section
variable {P : Program} {w : World} {K : PySem.W.Frag} {mg : Str → Option Value} {base : Heap} {a : Adr}
theorem ok_l_over (T : Tx K mg a) : FnOk P w K mg base CX0 6 a.l_over a.fd_l_over ["_law_purse_here", "_law_most", "_law_apart"] (sp_l_over a) := by
  have G_l_lengths := ok_l_lengths (P := P) (w := w) (base := base) T
  have G_l_unlike_steps := ok_l_unlike_steps (P := P) (w := w) (base := base) T
  have G_l_reach := ok_l_reach (P := P) (w := w) (base := base) T
  have G_l_take := ok_l_take (P := P) (w := w) (base := base) T
  have G_l_room := ok_l_room (P := P) (w := w) (base := base) T
  have G_View_init := ok_View_init (P := P) (w := w) (base := base) T
  obtain ⟨_, hbV⟩ := b_View_init4 T
  have G_Room_twin := ok_Room_twin (P := P) (w := w) (base := base) T
  have G_l_source := ok_l_source (P := P) (w := w) (base := base) T
  have G_l_cells := ok_l_cells (P := P) (w := w) (base := base) T
  refine T.F_l_over.ok sc_l_over (fun vs H Q E h => ?_) (fun cdv A outer s H vs Q E hr h => ?_)
  · obtain ⟨p, n, rfl, _⟩ := h
    rfl
  · obtain ⟨p, n, rfl, hp, hn, k⟩ := h
    refine ⟨_, (pss_cons (ps_set (i := 3) sc_l_over.nd rfl (Or.inl rfl) (pe_call G_l_lengths (hr.mono (by decide)) rfl T.m_l_lengths T.F_l_lengths.kp (b_l_lengths T) .nil pass0 (pa_cons (pv 0) (pa_cons (pv 1) pa_nil))))
          (pss_cons (ps_set (i := 4) sc_l_over.nd rfl (Or.inl rfl) (pe_call G_l_unlike_steps (hr.mono (by decide)) rfl T.m_l_unlike_steps T.F_l_unlike_steps.kp (b_l_unlike_steps T) .nil pass0 (pa_cons (pv 0) (pa_cons (pv 3) pa_nil))))
          (pss_cons (ps_par (i := 5) (j := 6) rfl sc_l_over.nd rfl rfl (by decide) rfl rfl (pa_cons (pe_call G_l_reach (hr.mono (by decide)) rfl T.m_l_reach T.F_l_reach.kp (b_l_reach T) .nil pass0 (pa_cons (pv 3) (pa_cons (pv 4) (pa_cons (pe_un un_neg pe_int) pa_nil)))) (pa_cons (pe_call G_l_reach (hr.mono (by decide)) rfl T.m_l_reach T.F_l_reach.kp (b_l_reach T) .nil pass0 (pa_cons (pv 3) (pa_cons (pv 4) (pa_cons pe_int pa_nil)))) pa_nil)) (by rfl))
          (pss_cons (ps_set (i := 7) sc_l_over.nd rfl (Or.inl rfl) (pe_call G_l_take (hr.mono (by decide)) rfl T.m_l_take T.F_l_take.kp (b_l_take T) .nil pass0 (pa_cons (pv 0) (pa_cons pe_int pa_nil))))
          (pss_cons (ps_set (i := 8) sc_l_over.nd rfl (Or.inl rfl) (pe_op op_add (pe_op op_add (pe_op op_add (pe_op op_sub (pv 6) (pv 5)) pe_int) (pv 7)) (pe_call G_l_take (hr.mono (by decide)) rfl T.m_l_take T.F_l_take.kp (b_l_take T) .nil pass0 (pa_cons (pv 0) (pa_cons pe_int pa_nil)))))
          (pss_cons (ps_set (i := 9) sc_l_over.nd rfl (Or.inl rfl) (pe_call G_l_room (hr.mono (by decide)) rfl T.m_l_room T.F_l_room.kp (b_l_room T) .nil pass0 (pa_cons (pv 0) (pa_cons (pv 8) pa_nil))))
          (pss_cons (ps_set (i := 10) sc_l_over.nd rfl (Or.inl rfl) (pe_makeN T.mk_View G_View_init (hr.mono (by decide)) rfl T.m_View hbV pass0 (pa_cons (pv 9) (pa_cons (pv 3) pa_nil)) (pk_cons (pe_op op_sub (pv 7) (pv 5)) (pk_cons (pv 4) pk_nil))))
          (pss_cons (ps_set (i := 11) sc_l_over.nd rfl (Or.inl rfl) (pv 9))
          (pss_cons (ps_if (PW.pt (pw_and (pt_val (pv 2)) (pw_and1 (pt_cmpR op_eq (pe_call G_l_take (hr.mono (by decide)) rfl T.m_l_take T.F_l_take.kp (b_l_take T) .nil pass0 (pa_cons (pv 0) (pa_cons pe_int pa_nil))) pe_int (nomark _))))) (pss_one (ps_set (i := 11) sc_l_over.nd rfl (Or.inl rfl) (pe_ix ix_list (pe_lst (pa_cons (pe_call G_l_room (hr.mono (by decide)) rfl T.m_l_room T.F_l_room.kp (b_l_room T) .nil pass0 (pa_cons (pv 0) (pa_cons (pv 8) pa_nil))) (pa_cons (pe_meth0 (pv 9) T.cl_Room T.me_Room_twin G_Room_twin (hr.mono (by decide)) (b_Room_twin T) .nil pass0) pa_nil))) (pe_call G_l_take (hr.mono (by decide)) rfl T.m_l_take T.F_l_take.kp (b_l_take T) .nil pass0 (pa_cons (pv 0) (pa_cons pe_int pa_nil))) (fun _ _ => rfl)))) pss_nil)
          (pss_cons (ps_asg (pe_call G_l_source (hr.mono (by decide)) rfl T.m_l_source T.F_l_source.kp (b_l_source T) .nil pass0 (pa_cons (pv 0) (pa_cons (pv 8) (pa_cons (pv 3) (pa_cons (pv 4) pa_nil))))) (pg_tup rfl (pgs_cons (pg_name (i := 12) sc_l_over.nd rfl (Or.inl rfl)) (pgs_cons (pg_name (i := 13) sc_l_over.nd rfl (Or.inl rfl)) (pgs_cons (pg_name (i := 14) sc_l_over.nd rfl (Or.inl rfl)) pgs_nil)))))
          (pss_cons (ps_set (i := 15) sc_l_over.nd rfl (Or.inl rfl) (pe_makeN T.mk_View G_View_init (hr.mono (by decide)) rfl T.m_View hbV pass0 (pa_cons (pv 11) (pa_cons (pv 12) pa_nil)) (pk_cons (pv 13) (pk_cons (pv 14) pk_nil))))
          (pss_cons (ps_set (i := 16) sc_l_over.nd rfl (Or.inl rfl) (pe_tup (pa_cons (pv 9) (pa_cons (pv 10) (pa_cons (pv 3) (pa_cons (pe_call G_l_cells (hr.mono (by decide)) rfl T.m_l_cells T.F_l_cells.kp (b_l_cells T) .nil pass0 (pa_cons (pv 3) (pa_cons (pe_op op_sub (pv 7) (pv 5)) (pa_cons (pv 4) pa_nil)))) pa_nil))))))
          (pss_one (ps_ret (pe_lst (pa_cons (pv 16) (pa_cons (pe_tup (pa_cons (pv 11) (pa_cons (pv 15) (pa_cons (pv 12) (pa_cons (pe_call G_l_cells (hr.mono (by decide)) rfl T.m_l_cells T.F_l_cells.kp (b_l_cells T) .nil pass0 (pa_cons (pv 12) (pa_cons (pv 13) (pa_cons (pv 14) pa_nil)))) pa_nil))))) pa_nil))))))))))))))))), ?_⟩
    refine ⟨_, rfl, _, rfl, p, n, rfl, hp, by omega, fun H1 tl ls b1 p1 htl hL => ?_⟩
    obtain ⟨zs1, hlp1⟩ := p1.lst
    have tlp : tl ≠ p := ne_of htl hlp1 (by intro z; cases z)
    refine ⟨_, rfl, _, rfl, p, tl, _, ls, rfl, p1, by omega, htl, hL, fun H2 tss ss b2 p2 htss hls hS => ?_⟩
    obtain ⟨zs2, hlp2⟩ := p2.lst
    have tsp : tss ≠ p := ne_of htss hlp2 (by intro z; cases z)
    have htl2 := b2 tl _ tlp htl
    have hb6 : ∀ l ∈ ls, l ≤ 600 := hL.sides.2.2
    refine ⟨_, rfl, _, rfl, _, rfl, tl, tss, -1, ls, ss, rfl, htl2, htss, hls, hb6, .inr rfl, fun H3 s3 => ?_⟩
    refine ⟨_, rfl, _, rfl, tl, tss, 1, ls, ss, rfl, s3 _ _ htl2, s3 _ _ htss, hls, hb6, .inl rfl, fun H4 s4 => ⟨_, _, rfl, ?_⟩⟩
    have hsp := reach_span hls hS
    have hspan := span_le hls hL hS
    have s34 := s3.trans s4
    refine stp (σ' := [_, _, _, _, _, _, _, _, _, _, _, _, _, _, _, _, _]) rfl ?_
    refine ⟨_, rfl, p, 4, _, rfl, p2.same s34, by omega, by decide, by decide, fun H5 d5 b5 p5 d50 d55 => ?_⟩
    refine ⟨_, rfl, _, rfl, _, _, rfl, rfl, _, _, rfl, rfl, _, rfl, _, _, rfl, rfl, _, rfl, p, 4, _, rfl, p5, by omega, by decide, by decide, fun H6 d6 b6 p6 d60 d64 => ⟨_, _, rfl, rfl, ?_⟩⟩
    obtain ⟨many, hmany⟩ : ∃ many : Nat, (many : Int) = reach ls ss 1 - reach ls ss (-1) + 1 + d5 + d6 := ⟨(reach ls ss 1 - reach ls ss (-1) + 1 + d5 + d6).toNat, by omega⟩
    refine ⟨_, rfl, _, rfl, p, _, many, by rw [hmany]; rfl, p6, by omega, by omega, fun H7 r pl ps wd cs b7 p7 R hcs hg hgp => ?_⟩
    have hO : VOk cs.length ls (d5 - reach ls ss (-1)) ss := vok_of hls hL (by omega) (by omega)
    refine stp (σ' := [_, _, _, _, _, _, _, _, _, _, _, _, _, _, _, _, _]) rfl ?_
    have b27 : But p H2 H7 := fun c o nn e => b7 c o nn (b6 c o nn (b5 c o nn (s34 _ _ e)))
    have htl7 := b27 tl _ tlp htl2
    have hts7 := b27 tss _ tsp htss
    refine ⟨_, rfl, _, rfl, _, rfl, _, rfl, _, _, rfl, rfl, _, rfl, rfl, rfl, fun x dx hx hdx hne => ?_⟩
    have s8 := sm_upd (o := .ins a.View dx []) (sm_new (o := .own x) hdx) (show upd H7 dx (.own x) x = none by rw [upd_ne (Ne.symm hne)]; exact hx)
    refine ⟨x, dx, r, tl, _, .ref tss, ls, ss, pl, ps, wd, cs, rfl, upd_same, R.same s8, s8 _ _ htl7, .inr ⟨tss, rfl, s8 _ _ hts7⟩, hls, hL.sides, hS, hO.2.2, fun H8 k8 V8 => ⟨rfl, ?_⟩⟩
    have s78 : Same H7 H8 := fun c o e => k8 c o (ne_of_none e hx) (s8 _ _ e)
    have R8 := R.same s78
    refine stp (σ' := [_, _, _, _, _, _, _, _, _, _, _, _, _, _, _, _, _]) rfl ?_
    refine ⟨_, rfl, ?_⟩
    refine stp (σ' := [_, _, _, _, _, _, _, _, _, _, _, _, _, _, _, _, _]) rfl ?_
    refine ⟨_, rfl, false, rfl, iteF (iteF ?_)⟩
    have p8 := p7.same s78
    obtain ⟨zs8, hlp8⟩ := p8.lst
    refine ⟨_, rfl, _, rfl, _, rfl, _, rfl, p, tl, tss, _, many, ls, ss, by rw [hmany]; rfl, p8, by omega, s78 _ _ htl7, s78 _ _ hts7, hls, hL, hS, by omega, by omega, fun H9 t3 tlo tfs lo fs b9' b9 p9 ht3 htlo htfs hLo hfs hO9 => g_three ht3 ?_⟩
    have R9 := R8.but b9 hgp
    refine stp (σ' := [_, _, _, _, _, _, _, _, _, _, _, _, _, _, _, _, _]) rfl ?_
    have V9 := V8.move (RM.ok R8 hlp8) (RM.but b9)
    rw [← hcs] at hO9
    obtain ⟨zs9, hlp9⟩ := p9.lst
    refine ⟨_, rfl, _, rfl, _, rfl, _, rfl, rfl, rfl, fun x2 dx2 hx2 hdx2 hne2 => ?_⟩
    have s10 := sm_upd (o := .ins a.View dx2 []) (sm_new (o := .own x2) hdx2) (show upd H9 dx2 (.own x2) x2 = none by rw [upd_ne (Ne.symm hne2)]; exact hx2)
    refine ⟨x2, dx2, r, tlo, _, .ref tfs, lo, fs, pl, ps, wd, cs, rfl, upd_same, R9.same s10, s10 _ _ htlo, .inr ⟨tfs, rfl, s10 _ _ htfs⟩, hO9.1, hLo.sides, hfs, hO9.2.2, fun H10 k10 V10 => ⟨rfl, ?_⟩⟩
    have s9' : Same H9 H10 := fun c o e => k10 c o (ne_of_none e hx2) (s10 _ _ e)
    refine stp (σ' := [_, _, _, _, _, _, _, _, _, _, _, _, _, _, _, _, _]) rfl ?_
    have htl10 := s9' _ _ (b9 tl _ tlp (s78 _ _ htl7))
    have hts10 := s9' _ _ (b9 tss _ tsp (s78 _ _ hts7))
    have R10 := R9.same s9'
    have V10' := V9.same s9'
    obtain ⟨zs10, hlp10⟩ : ∃ zs, H10 p = some (.lst zs) := ⟨_, s9' _ _ hlp9⟩
    refine ⟨_, rfl, _, rfl, _, rfl, _, rfl, _, rfl, _, rfl, _, _, rfl, rfl, _, rfl, tl, tss, _, ls, ss, rfl, htl10, hts10, hls, hL.sides, fun H11 c1 s11 fc1 hc1 => ?_⟩
    refine ⟨by show 4 ≤ sizeLine; decide, fun t1 ht1 => ?_⟩
    have s12 := sm_new (o := .tup [.ref r, .ref x, .ref tl, .ref c1]) ht1
    have s10_12 := s11.trans s12
    refine ⟨_, rfl, _, rfl, _, rfl, _, rfl, _, rfl, _, rfl, _, rfl, tlo, tfs, _, lo, fs, rfl, s10_12 _ _ (s9' _ _ htlo), s10_12 _ _ (s9' _ _ htfs), hO9.1, hLo.sides, fun H13 c2 s13 fc2 hc2 => ?_⟩
    refine ⟨by show 4 ≤ sizeLine; decide, fun t2 ht2 => ⟨by show 2 ≤ sizeLine; decide, fun q hq => ?_⟩⟩
    have s14 := sm_new (o := .tup [.ref r, .ref x2, .ref tlo, .ref c2]) ht2
    have s15 := sm_new (o := .lst [.ref t1, .ref t2]) hq
    have s10_15 := (s10_12.trans s13).trans (s14.trans s15)
    have bb : But p H H10 := fun c o nn e => s9' _ _ (b9 c o nn (s78 _ _ (b27 c o nn (b2 c o nn (b1 c o nn e)))))
    obtain ⟨zs0, hlp0⟩ := hp.lst
    have none10 : ∀ b, H10 b = none → H b = none := fun b e => by
      cases e2 : H b with
      | none => rfl
      | some o =>
        have bp : b ≠ p := fun q => by rw [q, hlp10] at e; cases e
        have := bb b o bp e2
        rw [e] at this
        cases this
    have hq10 : H10 q = none := ((s10_12.trans s13).trans s14).free hq
    have hgs : ∀ b, guts r pl ps b → H b = none := fun b g => by
      cases e2 : H b with
      | none => rfl
      | some o =>
        have bp : b ≠ p := fun q => hgp (q ▸ g)
        have := (b6 b o bp (b5 b o bp (s34 _ _ (b2 b o bp (b1 b o bp e2)))))
        rw [hg b g] at this
        cases this
    refine k _ q (.ref t1) (.ref t2) r pl ps wd cs (fun c o nn e => s10_15 _ _ (bb c o nn e)) (((p9.same s9').same s10_15).mono (by omega)) (none10 q hq10) upd_same (R10.same s10_15) hgs hgp (R10.fresh hq10) (by omega) ?_
    rintro y (rfl | rfl)
    · refine ⟨ls, d5 - reach ls ss (-1), ss, t1, x, tl, c1, rfl, s15 _ _ (s14 _ _ (s13 _ _ upd_same)), V10'.same s10_15, s10_15 _ _ htl10, s15 _ _ (s14 _ _ (s13 _ _ (s12 _ _ hc1))), hO, ?_⟩
      rintro (g | g)
      · exact R10.fresh fc1 g
      · rw [g, hlp10] at fc1; cases fc1
    · refine ⟨lo, b9', fs, t2, x2, tlo, c2, rfl, s15 _ _ upd_same, V10.same s10_15, s10_15 _ _ (s9' _ _ htlo), s15 _ _ (s14 _ _ hc2), hO9, ?_⟩
      have fc10 := s10_12.free fc2
      rintro (g | g)
      · exact R10.fresh fc10 g
      · rw [g, hlp10] at fc10; cases fc10
end
end VG

set_option Elab.async false
set_option linter.all false
set_option maxRecDepth 100000
set_option maxHeartbeats 2000000
namespace VG
open PySem PySem.Spec PyProof.Rows L2
def sp_l_more (a : Adr) : Sp := fun vs H Q _ => ∃ (p r pl : Addr) (n : Nat) (ps : List (Addr × Addr)) (w : Nat) (cs : List Int), vs = [.ref p, .ref r, .int 24] ∧ Pu H p n ∧ n + 1000 ≤ 2 ^ 40 ∧ RoomAt a H r pl ps w cs ∧ ¬ guts r pl ps p ∧ 1 ≤ cs.length ∧
  ∀ H' x ls b ss, But p H H' → Pu H' p (n + 100) → Look a H' (RM r pl ps p) x r cs.length ls b ss → Q x H'
theorem reach_zero : ∀ (ls : List Nat) (w : Int), reach ls (List.replicate ls.length 0) w = 0
  | [], w => by simp [reach]
  | l :: ls, w => by
    rw [List.length_cons, List.replicate_succ, reach_cons, reach_zero ls w]
    simp
section
variable {P : Program} {w : World} {K : PySem.W.Frag} {mg : Str → Option Value} {base : Heap} {a : Adr}
theorem ok_l_more (T : Tx K mg a) : FnOk P w K mg base CX0 6 a.l_more a.fd_l_more ["_law_purse_here", "_law_room_here", "_law_most"] (sp_l_more a) := by
  have G_l_lengths := ok_l_lengths (P := P) (w := w) (base := base) T
  have G_l_steps := ok_l_steps (P := P) (w := w) (base := base) T
  have G_l_unlike_steps := ok_l_unlike_steps (P := P) (w := w) (base := base) T
  have G_l_take := ok_l_take (P := P) (w := w) (base := base) T
  have G_l_reach := ok_l_reach (P := P) (w := w) (base := base) T
  have G_Room_len := ok_Room_len (P := P) (w := w) (base := base) T
  have G_View_init := ok_View_init (P := P) (w := w) (base := base) T
  obtain ⟨_, hbV⟩ := b_View_init4 T
  have G_l_cells := ok_l_cells (P := P) (w := w) (base := base) T
  refine T.F_l_more.ok sc_l_more (fun vs H Q E h => ?_) (fun cdv A outer s H vs Q E hr h => ?_)
  · obtain ⟨p, r, pl, n, ps, wd, cs, rfl, _⟩ := h
    rfl
  · obtain ⟨p, r, pl, n, ps, wd, cs, rfl, hp, hn, R, hgp, hc1, k⟩ := h
    refine ⟨_, (pss_cons (ps_set (i := 3) sc_l_more.nd rfl (Or.inl rfl) (pe_call G_l_lengths (hr.mono (by decide)) rfl T.m_l_lengths T.F_l_lengths.kp (b_l_lengths T) .nil pass0 (pa_cons (pv 0) (pa_cons (pv 2) pa_nil))))
          (pss_cons (ps_set (i := 4) sc_l_more.nd rfl (Or.inl rfl) (pe_ix ix_list (pe_lst (pa_cons (pe_call G_l_unlike_steps (hr.mono (by decide)) rfl T.m_l_unlike_steps T.F_l_unlike_steps.kp (b_l_unlike_steps T) .nil pass0 (pa_cons (pv 0) (pa_cons (pv 3) pa_nil))) (pa_cons (pe_call G_l_steps (hr.mono (by decide)) rfl T.m_l_steps T.F_l_steps.kp (b_l_steps T) .nil pass0 (pa_cons (pv 0) (pa_cons (pv 3) pa_nil))) pa_nil))) (pe_call G_l_take (hr.mono (by decide)) rfl T.m_l_take T.F_l_take.kp (b_l_take T) .nil pass0 (pa_cons (pv 0) (pa_cons pe_int pa_nil))) (fun _ _ => rfl)))
          (pss_cons (ps_if (pt_cmpR op_ge (pe_op op_sub (pe_call G_l_reach (hr.mono (by decide)) rfl T.m_l_reach T.F_l_reach.kp (b_l_reach T) .nil pass0 (pa_cons (pv 3) (pa_cons (pv 4) (pa_cons pe_int pa_nil)))) (pe_call G_l_reach (hr.mono (by decide)) rfl T.m_l_reach T.F_l_reach.kp (b_l_reach T) .nil pass0 (pa_cons (pv 3) (pa_cons (pv 4) (pa_cons (pe_un un_neg pe_int) pa_nil))))) (pe_callB (cr_lenI T.cl_Room T.me_Room_len G_Room_len (hr.mono (by decide)) (b_Room_len T) pass0) (by rfl) T.n_len (by decide +kernel) (pa_cons (pv 1) pa_nil)) (nomark _)) (pss_one (ps_set (i := 4) sc_l_more.nd rfl (Or.inl rfl) (pe_callTy call_tuple_of (by rfl) T.n_tuple (by decide +kernel) (pa_cons (pe_lc (own := [("_law_length", 9)]) rfl sc_l_more.nd (pi_tup (pv 3)) (blkOk_by (N := ["_law_purse_here", "_law_room_here", "_law_most", "_law_lengths_here", "_law_steps_here", "_law_low", "_law_high", "_law_begin", "_law_look_here", "_law_length"]) (sc := defScope s_l_more) (own := [("_law_length", 9)]) (by decide +kernel)) (fun _ _ _ _ _ => (pg_name (i := 9) sc_l_more.nd rfl (Or.inl rfl))) (fun _ _ _ _ _ => pts_nil) (fun _ _ _ _ _ => pe_int)) pa_nil)))) pss_nil)
          (pss_cons (ps_par (i := 5) (j := 6) rfl sc_l_more.nd rfl rfl (by decide) rfl rfl (pa_cons (pe_call G_l_reach (hr.mono (by decide)) rfl T.m_l_reach T.F_l_reach.kp (b_l_reach T) .nil pass0 (pa_cons (pv 3) (pa_cons (pv 4) (pa_cons (pe_un un_neg pe_int) pa_nil)))) (pa_cons (pe_call G_l_reach (hr.mono (by decide)) rfl T.m_l_reach T.F_l_reach.kp (b_l_reach T) .nil pass0 (pa_cons (pv 3) (pa_cons (pv 4) (pa_cons pe_int pa_nil)))) pa_nil)) (by rfl))
          (pss_cons (ps_set (i := 7) sc_l_more.nd rfl (Or.inl rfl) (pe_op op_sub (pe_call G_l_take (hr.mono (by decide)) rfl T.m_l_take T.F_l_take.kp (b_l_take T) .nil pass0 (pa_cons (pv 0) (pa_cons (pe_op op_add (pe_op op_sub (pe_callB (cr_lenI T.cl_Room T.me_Room_len G_Room_len (hr.mono (by decide)) (b_Room_len T) pass0) (by rfl) T.n_len (by decide +kernel) (pa_cons (pv 1) pa_nil)) (pv 6)) (pv 5)) pa_nil))) (pv 5)))
          (pss_cons (ps_set (i := 8) sc_l_more.nd rfl (Or.inl rfl) (pe_makeN T.mk_View G_View_init (hr.mono (by decide)) rfl T.m_View hbV pass0 (pa_cons (pv 1) (pa_cons (pv 3) pa_nil)) (pk_cons (pv 7) (pk_cons (pv 4) pk_nil))))
          (pss_one (ps_ret (pe_tup (pa_cons (pv 1) (pa_cons (pv 8) (pa_cons (pv 3) (pa_cons (pe_call G_l_cells (hr.mono (by decide)) rfl T.m_l_cells T.F_l_cells.kp (b_l_cells T) .nil pass0 (pa_cons (pv 3) (pa_cons (pv 7) (pa_cons (pv 4) pa_nil)))) pa_nil))))))))))))), ?_⟩
    have hbig := R.big
    refine ⟨_, rfl, _, rfl, p, n, rfl, hp, by omega, fun H1 tl ls b1 p1 htl hL => ?_⟩
    obtain ⟨zs1, hlp1⟩ := p1.lst
    have tlp : tl ≠ p := ne_of htl hlp1 (by intro z; cases z)
    have hb6 : ∀ l ∈ ls, l ≤ 600 := hL.sides.2.2
    have h5 := hL.1
    refine ⟨_, rfl, _, rfl, p, tl, _, ls, rfl, p1, by omega, htl, hL, fun H2 ta sa b2 p2 hta hla hSa => ?_⟩
    obtain ⟨zs2, hlp2⟩ := p2.lst
    have tap : ta ≠ p := ne_of hta hlp2 (by intro z; cases z)
    have htl2 := b2 tl _ tlp htl
    refine ⟨_, rfl, _, rfl, p, tl, _, ls, rfl, p2, by omega, htl2, hL, fun H3 tb' sb b3 p3 htb hlb hSb => ?_⟩
    obtain ⟨zs3, hlp3⟩ := p3.lst
    have tbp : tb' ≠ p := ne_of htb hlp3 (by intro z; cases z)
    refine ⟨by show 2 ≤ sizeLine; decide, fun l2 hl2 => ?_⟩
    have s3 := sm_new (o := .lst [.ref ta, .ref tb']) hl2
    have lp2 : l2 ≠ p := Ne.symm (ne_of_none hlp3 hl2)
    refine ⟨_, rfl, p, 2, _, rfl, p3.same s3, by omega, by decide, by decide, fun H4 d b4 p4 d0 d2 => ?_⟩
    have b14 : But p H1 H4 := fun c o nn e => b4 c o nn (s3 _ _ (b3 c o nn (b2 c o nn e)))
    have htl4 := b14 tl _ tlp htl
    obtain ⟨tc, sc, hat, htc, hlc, hSc⟩ : ∃ (tc : Addr) (sc : List Int), atI [V.ref ta, .ref tb'] d = some (.ref tc) ∧ H4 tc = some (.tup (zv sc)) ∧ ls.length = sc.length ∧ Strides sc := by
      have h : d = 0 ∨ d = 1 := by omega
      rcases h with e | e <;> subst e
      · exact ⟨ta, sa, rfl, b4 ta _ tap (s3 _ _ (b3 ta _ tap hta)), hla, hSa⟩
      · exact ⟨tb', sb, rfl, b4 tb' _ tbp (s3 _ _ htb), hlb, hSb⟩
    refine ⟨l2, _, d, _, rfl, rfl, SqL.of (b4 l2 _ lp2 upd_same), hat, ?_⟩
    refine stp (σ' := [_, _, _, _, _, _, _, _, _, _]) rfl ?_
    have b04 : But p H H4 := fun c o nn e => b14 c o nn (b1 c o nn e)
    have R4 := R.but b04 hgp
    refine ⟨_, rfl, _, rfl, tl, tc, 1, ls, sc, rfl, htl4, htc, hlc, hb6, .inl rfl, fun H5 s5 => ?_⟩
    refine ⟨_, rfl, _, rfl, _, rfl, tl, tc, -1, ls, sc, rfl, s5 _ _ htl4, s5 _ _ htc, hlc, hb6, .inr rfl, fun H6 s6 => ⟨_, _, rfl, rfl, ?_⟩⟩
    have s46 := s5.trans s6
    have R6 := R4.same s46
    obtain ⟨dr6, cp6, ho6⟩ := R6.ob
    refine ⟨_, rfl, r, dr6, _, rfl, ho6, r, pl, ps, wd, cs, rfl, R6, fun H7 s7 => ⟨cs.length, rfl, by omega, _, _, rfl, rfl, _, rfl, ?_⟩⟩
    have s47 := s46.trans s7
    have p7 := p4.same s47
    by_cases hge : reach ls sc 1 - reach ls sc (-1) ≥ (cs.length : Int)
    · refine ifT hge ⟨_, rfl, tl, rfl, ⟨_, SqT.of (s47 _ _ htl4)⟩, fun D hD => ?_⟩
      refine lc_pure (walk_tup (xs := iv ls)) (fun _ => .int 0) (by rw [iv_len]; omega) hD (fun H' e => SqT.of (e _ _ (s47 _ _ htl4))) ?_ ?_
      · rintro i x H8 H9 k' hi s8 ⟨rfl, hx⟩ hk'
        exact ⟨rfl, hk' _ (Same.refl _)⟩
      intro H8 s8 hD8
      rw [iv_len] at hD8
      have hD8' : H8 D = some (.lst (zv (List.replicate ls.length 0))) := by
        rw [hD8]
        congr 2
        unfold zv
        apply List.ext_getElem?
        intro i
        simp [List.getElem?_replicate]
        by_cases hi : i < ls.length <;> simp [hi]
      refine ⟨D, _, rfl, .inl ⟨SqL.of hD8', fun te hte => ?_⟩⟩
      have s9 := sm_new (o := .tup (zv (List.replicate ls.length 0))) hte
      refine stp (σ' := [_, _, _, _, _, _, _, _, _, _]) rfl ?_
      obtain ⟨ss, hss, hls, hS, hfit⟩ : ∃ ss : List Int, upd H8 te (.tup (zv (List.replicate ls.length 0))) te = some (.tup (zv ss)) ∧ ls.length = ss.length ∧ Strides ss ∧ reach ls ss 1 - reach ls ss (-1) < cs.length := by
        refine ⟨_, upd_same, by simp, fun x hx => ?_, ?_⟩
        · have := (List.mem_replicate.mp hx).2
          omega
        · rw [reach_zero, reach_zero]
          omega
      have s49 := s47.trans (s8.trans s9)
      have b09 : But p H (upd H8 te (.tup (zv (List.replicate ls.length 0)))) := fun c o nn e => s49 _ _ (b04 c o nn e)
      have p9 := p4.same s49
      have htl9 := s49 _ _ htl4
      have R9 := R4.same s49
      generalize upd H8 te (.tup (zv (List.replicate ls.length 0))) = H9 at hss b09 p9 htl9 R9
      have hsp := reach_span hls hS
      have hspan := span_le hls hL hS
      refine ⟨_, rfl, _, rfl, _, rfl, tl, te, -1, ls, ss, rfl, htl9, hss, hls, hb6, .inr rfl, fun H10 s10 => ?_⟩
      refine ⟨_, rfl, _, rfl, tl, te, 1, ls, ss, rfl, s10 _ _ htl9, s10 _ _ hss, hls, hb6, .inl rfl, fun H11 s11 => ⟨_, _, rfl, ?_⟩⟩
      refine stp (σ' := [_, _, _, _, _, _, _, _, _, _]) rfl ?_
      have s9_11 := s10.trans s11
      have R11 := R9.same s9_11
      obtain ⟨dr11, cp11, ho11⟩ := R11.ob
      refine ⟨_, rfl, _, rfl, r, dr11, _, rfl, ho11, r, pl, ps, wd, cs, rfl, R11, fun H12 s12 => ⟨cs.length, rfl, by omega, ?_⟩⟩
      have s9_12 := s9_11.trans s12
      refine ⟨_, rfl, _, _, rfl, rfl, _, rfl, _, _, rfl, rfl, p, _, _, rfl, p9.same s9_12, by omega, by omega, by omega, fun H13 e b13 p13 e0 e1 => ⟨_, rfl, _, _, rfl, rfl, ?_⟩⟩
      refine stp (σ' := [_, _, _, _, _, _, _, _, _, _]) rfl ?_
      have hO : VOk cs.length ls (e - reach ls ss (-1)) ss := vok_of hls hL (by omega) (by omega)
      have b9_13 : But p H9 H13 := fun c o nn ee => b13 c o nn (s9_12 _ _ ee)
      obtain ⟨zs9, hlp9⟩ := p9.lst
      have tep : te ≠ p := ne_of hss hlp9 (by intro z; cases z)
      have tl13 := b9_13 tl _ tlp htl9
      have te13 := b9_13 te _ tep hss
      have R13 := R9.but b9_13 hgp
      obtain ⟨zs13, hlp13⟩ := p13.lst
      refine ⟨_, rfl, _, rfl, _, rfl, _, rfl, rfl, rfl, fun x dx hx hdx hne => ?_⟩
      have s14 := sm_upd (o := .ins a.View dx []) (sm_new (o := .own x) hdx) (show upd H13 dx (.own x) x = none by rw [upd_ne (Ne.symm hne)]; exact hx)
      refine ⟨x, dx, r, tl, _, .ref te, ls, ss, pl, ps, wd, cs, rfl, upd_same, R13.same s14, s14 _ _ tl13, .inr ⟨te, rfl, s14 _ _ te13⟩, hls, hL.sides, hS, hO.2.2, fun H14 k14 V14 => ⟨rfl, ?_⟩⟩
      have s13_14 : Same H13 H14 := fun c o ee => k14 c o (ne_of_none ee hx) (s14 _ _ ee)
      refine ⟨_, rfl, _, rfl, _, rfl, _, rfl, _, rfl, _, rfl, tl, te, _, ls, ss, rfl, s13_14 _ _ tl13, s13_14 _ _ te13, hls, hL.sides, fun H15 cl s15 fcl hcl => ?_⟩
      refine ⟨by show 4 ≤ sizeLine; decide, fun t ht => ?_⟩
      have s16 := sm_new (o := .tup [.ref r, .ref x, .ref tl, .ref cl]) ht
      have s14_16 := s15.trans s16
      have R14 := R13.same s13_14
      refine k _ (.ref t) ls (e - reach ls ss (-1)) ss (fun c o nn ee => s14_16 _ _ (s13_14 _ _ (b9_13 c o nn (b09 c o nn ee)))) (((p13.same s13_14).same s14_16).mono (by omega)) ⟨t, x, tl, cl, rfl, upd_same, V14.same s14_16, s14_16 _ _ (s13_14 _ _ tl13), s16 _ _ hcl, hO, ?_⟩
      rintro (g | g)
      · exact R14.fresh fcl g
      · rw [g, s13_14 _ _ hlp13] at fcl; cases fcl
    · refine ifF hge ?_
      refine stp (σ' := [_, _, _, _, _, _, _, _, _, _]) rfl ?_
      obtain ⟨ss, hss, hls, hS, hfit⟩ : ∃ ss : List Int, H7 tc = some (.tup (zv ss)) ∧ ls.length = ss.length ∧ Strides ss ∧ reach ls ss 1 - reach ls ss (-1) < cs.length := ⟨sc, s47 _ _ htc, hlc, hSc, by omega⟩
      have b09 : But p H H7 := fun c o nn e => s47 _ _ (b04 c o nn e)
      have p9 := p7
      have htl9 := s47 _ _ htl4
      have R9 := R4.same s47
      obtain ⟨te, hte⟩ : ∃ te, te = tc := ⟨_, rfl⟩
      rw [← hte] at hss ⊢
      have hsp := reach_span hls hS
      have hspan := span_le hls hL hS
      refine ⟨_, rfl, _, rfl, _, rfl, tl, te, -1, ls, ss, rfl, htl9, hss, hls, hb6, .inr rfl, fun H10 s10 => ?_⟩
      refine ⟨_, rfl, _, rfl, tl, te, 1, ls, ss, rfl, s10 _ _ htl9, s10 _ _ hss, hls, hb6, .inl rfl, fun H11 s11 => ⟨_, _, rfl, ?_⟩⟩
      refine stp (σ' := [_, _, _, _, _, _, _, _, _, _]) rfl ?_
      have s9_11 := s10.trans s11
      have R11 := R9.same s9_11
      obtain ⟨dr11, cp11, ho11⟩ := R11.ob
      refine ⟨_, rfl, _, rfl, r, dr11, _, rfl, ho11, r, pl, ps, wd, cs, rfl, R11, fun H12 s12 => ⟨cs.length, rfl, by omega, ?_⟩⟩
      have s9_12 := s9_11.trans s12
      refine ⟨_, rfl, _, _, rfl, rfl, _, rfl, _, _, rfl, rfl, p, _, _, rfl, p9.same s9_12, by omega, by omega, by omega, fun H13 e b13 p13 e0 e1 => ⟨_, rfl, _, _, rfl, rfl, ?_⟩⟩
      refine stp (σ' := [_, _, _, _, _, _, _, _, _, _]) rfl ?_
      have hO : VOk cs.length ls (e - reach ls ss (-1)) ss := vok_of hls hL (by omega) (by omega)
      have b9_13 : But p H7 H13 := fun c o nn ee => b13 c o nn (s9_12 _ _ ee)
      obtain ⟨zs9, hlp9⟩ := p9.lst
      have tep : te ≠ p := ne_of hss hlp9 (by intro z; cases z)
      have tl13 := b9_13 tl _ tlp htl9
      have te13 := b9_13 te _ tep hss
      have R13 := R9.but b9_13 hgp
      obtain ⟨zs13, hlp13⟩ := p13.lst
      refine ⟨_, rfl, _, rfl, _, rfl, _, rfl, rfl, rfl, fun x dx hx hdx hne => ?_⟩
      have s14 := sm_upd (o := .ins a.View dx []) (sm_new (o := .own x) hdx) (show upd H13 dx (.own x) x = none by rw [upd_ne (Ne.symm hne)]; exact hx)
      refine ⟨x, dx, r, tl, _, .ref te, ls, ss, pl, ps, wd, cs, rfl, upd_same, R13.same s14, s14 _ _ tl13, .inr ⟨te, rfl, s14 _ _ te13⟩, hls, hL.sides, hS, hO.2.2, fun H14 k14 V14 => ⟨rfl, ?_⟩⟩
      have s13_14 : Same H13 H14 := fun c o ee => k14 c o (ne_of_none ee hx) (s14 _ _ ee)
      refine ⟨_, rfl, _, rfl, _, rfl, _, rfl, _, rfl, _, rfl, tl, te, _, ls, ss, rfl, s13_14 _ _ tl13, s13_14 _ _ te13, hls, hL.sides, fun H15 cl s15 fcl hcl => ?_⟩
      refine ⟨by show 4 ≤ sizeLine; decide, fun t ht => ?_⟩
      have s16 := sm_new (o := .tup [.ref r, .ref x, .ref tl, .ref cl]) ht
      have s14_16 := s15.trans s16
      have R14 := R13.same s13_14
      refine k _ (.ref t) ls (e - reach ls ss (-1)) ss (fun c o nn ee => s14_16 _ _ (s13_14 _ _ (b9_13 c o nn (b09 c o nn ee)))) (((p13.same s13_14).same s14_16).mono (by omega)) ⟨t, x, tl, cl, rfl, upd_same, V14.same s14_16, s14_16 _ _ (s13_14 _ _ tl13), s16 _ _ hcl, hO, ?_⟩
      rintro (g | g)
      · exact R14.fresh fcl g
      · rw [g, s13_14 _ _ hlp13] at fcl; cases fcl
end
end VG

set_option linter.all false
namespace VG
/-! ### a place as the widened view's source sees it -/
def proj (ls lo p : List Nat) : List Nat := List.zipWith (fun k l => if l = 1 then 0 else k) (p.drop (ls.length - lo.length)) lo
theorem proj_length {ls lo p : List Nat} (h : lo.length ≤ ls.length) (hp : p.length = ls.length) : (proj ls lo p).length = lo.length := by
  unfold proj
  rw [List.length_zipWith, List.length_drop]
  omega
theorem proj_get {ls lo p : List Nat} {j l k : Nat} (hl : lo[j]? = some l) (hk : p[ls.length - lo.length + j]? = some k) : (proj ls lo p)[j]? = some (if l = 1 then 0 else k) := by
  unfold proj
  rw [List.getElem?_zipWith, List.getElem?_drop, hk, hl]
theorem proj_place {ls lo p : List Nat} (hF : Fit ls lo) (hp : IsPlace ls p) : IsPlace lo (proj ls lo p) := by
  refine ⟨proj_length hF.1 hp.1, fun j h1 h2 => ?_⟩
  have hlen := hF.1
  have hk : ls.length - lo.length + j < p.length := by rw [hp.1]; omega
  have e := proj_get (ls := ls) (p := p) (List.getElem?_eq_getElem h2) (List.getElem?_eq_getElem hk)
  rw [List.getElem?_eq_getElem h1] at e
  have e2 := Option.some.inj e
  rw [e2]
  have hr : lo.reverse[lo.length - 1 - j]? = some lo[j] := by
    rw [List.getElem?_reverse (by omega), ← List.getElem?_eq_getElem h2]
    congr 1
    omega
  have hkl := hp.2 _ hk (by omega)
  rcases hF.2 _ _ hr with q | q
  · rw [if_pos q, q]; omega
  · rw [List.getElem?_reverse (by omega)] at q
    have e3 : ls.length - 1 - (lo.length - 1 - j) = ls.length - lo.length + j := by omega
    rw [e3, List.getElem?_eq_getElem (by omega)] at q
    have e4 := Option.some.inj q
    split <;> omega
theorem dot_zeros : ∀ (m : Nat) (p : List Nat) (xs : List Int), m ≤ p.length → dot p (List.replicate m 0 ++ xs) = dot (p.drop m) xs
  | 0, p, xs, _ => by simp
  | m + 1, [], xs, h => by simp at h
  | m + 1, k :: p, xs, h => by
    rw [List.replicate_succ, List.cons_append, dot_cons, List.drop_succ_cons, dot_zeros m p xs (by simpa using h)]
    simp
theorem dot_norm2 : ∀ (q lo : List Nat) (ss : List Int), lo.length = ss.length → q.length = lo.length → dot q (norm lo ss) = dot (List.zipWith (fun k l => if l = 1 then 0 else k) q lo) ss
  | [], lo, ss, h, hq => by simp [dot]
  | k :: q, [], ss, h, hq => by simp at hq
  | k :: q, l :: lo, [], h, hq => by simp at h
  | k :: q, l :: lo, s :: ss, h, hq => by
    have e : norm (l :: lo) (s :: ss) = (if l = 1 then 0 else s) :: norm lo ss := rfl
    rw [e, dot_cons, List.zipWith_cons_cons, dot_cons, dot_norm2 q lo ss (by simpa using h) (by simpa using hq)]
    by_cases h1 : l = 1
    · rw [if_pos h1, if_pos h1]; simp
    · rw [if_neg h1, if_neg h1]
theorem proj_dot {ls lo p : List Nat} {ss : List Int} (h : lo.length ≤ ls.length) (h2 : lo.length = ss.length) (hp : p.length = ls.length) : dot p (wide ls lo ss) = dot (proj ls lo p) ss := by
  unfold wide proj
  rw [dot_zeros _ _ _ (by omega), dot_norm2 _ _ _ h2 (by rw [List.length_drop]; omega)]
theorem cellAt_wide {ls lo p : List Nat} {b : Int} {ss : List Int} (h : lo.length ≤ ls.length) (h2 : lo.length = ss.length) (hp : p.length = ls.length) : cellAt b (wide ls lo ss) p = cellAt b ss (proj ls lo p) := by
  unfold cellAt
  rw [proj_dot h h2 hp]
/-! ### the number of a place -/
def idx (lo q : List Nat) : Nat := (q.zip lo).foldl (fun at_ x => at_ * x.2 + x.1) 0
theorem idx_snoc {lo q : List Nat} (h : q.length = lo.length) (l k : Nat) : idx (lo ++ [l]) (q ++ [k]) = idx lo q * l + k := by
  unfold idx
  rw [List.zip_append h, List.foldl_append]
  rfl
theorem ext_get {l k : Nat} (hk : k < l) : ∀ {ps : List (List Nat)} {i : Nat} {p : List Nat}, ps[i]? = some p → (ext ps l)[i * l + k]? = some (p ++ [k])
  | q :: ps, 0, p, h => by
    have e : q = p := by simpa using h
    subst e
    have : ext (q :: ps) l = ext1 q l ++ ext ps l := by unfold ext; rw [List.flatMap_cons]
    rw [this, Nat.zero_mul, Nat.zero_add, List.getElem?_append_left (by unfold ext1; simpa using hk)]
    unfold ext1
    simp [hk]
  | q :: ps, i + 1, p, h => by
    have ih := ext_get hk (ps := ps) (i := i) (p := p) (by simpa using h)
    have : ext (q :: ps) l = ext1 q l ++ ext ps l := by unfold ext; rw [List.flatMap_cons]
    have e1 : (ext1 q l).length = l := by unfold ext1; simp
    rw [this, List.getElem?_append_right (by rw [e1, Nat.succ_mul]; omega), e1]
    have e2 : (i + 1) * l + k - l = i * l + k := by rw [Nat.succ_mul]; omega
    rw [e2]
    exact ih
theorem places_idx (lo : List Nat) : ∀ q, IsPlace lo q → (places lo)[idx lo q]? = some q := by
  refine snoc_ind (P := fun lo => ∀ q, IsPlace lo q → (places lo)[idx lo q]? = some q) ?_ (fun xs l ih => ?_) lo
  · intro q hq
    have : q = [] := List.eq_nil_of_length_eq_zero hq.1
    subst this
    rfl
  · intro q hq
    have hne : q ≠ [] := by
      intro e
      have := hq.1
      rw [e] at this
      simp at this
    have hl := hq.1
    rw [← List.dropLast_concat_getLast hne] at hq hl ⊢
    generalize q.dropLast = q' at hq hl ⊢
    generalize q.getLast hne = k at hq hl ⊢
    have hlen : q'.length = xs.length := by simpa using hl
    have hq' : IsPlace xs q' := by
      refine ⟨hlen, fun i h1 h2 => ?_⟩
      have := hq.2 i (by rw [List.length_append]; omega) (by rw [List.length_append]; omega)
      rw [List.getElem_append_left h1, List.getElem_append_left h2] at this
      exact this
    have hk : k < l := by
      have := hq.2 q'.length (by simp) (by simp [hlen])
      rw [List.getElem_append_right (Nat.le_refl _), List.getElem_append_right (by omega)] at this
      simpa using this
    rw [idx_snoc hlen, places_snoc]
    exact ext_get hk (ih q' hq')
theorem mem_places {lo q : List Nat} (h : IsPlace lo q) : q ∈ places lo := List.mem_of_getElem? (places_idx lo q h)
theorem VOk.wide {n : Nat} {ls lo : List Nat} {b : Int} {ss : List Int} (h : VOk n lo b ss) (hS : Sides ls) (hF : Fit ls lo) : VOk n ls b (wide ls lo ss) := by
  refine ⟨(wide_length hF.1 h.1).symm, hS, fun c hc => ?_⟩
  rw [cells_places ls _ b (wide_length hF.1 h.1).symm] at hc
  obtain ⟨p, hp, rfl⟩ := List.mem_map.mp hc
  have ip := places_isPlace ls p hp
  rw [cellAt_wide hF.1 h.1 ip.1]
  apply h.2.2
  rw [cells_places lo ss b h.1]
  exact List.mem_map_of_mem (mem_places (proj_place hF ip))
end VG

set_option Elab.async false
set_option linter.all false
set_option maxRecDepth 100000
set_option maxHeartbeats 2000000
namespace VG
open PySem PySem.Spec PyProof.Rows L2
def sp_l_unfit : Sp := fun vs H Q _ => ∃ (p q : Addr) (ls lo : List Nat), vs = [.ref p, .ref q] ∧ H p = some (.tup (iv ls)) ∧ H q = some (.tup (iv lo)) ∧ ls.length ≤ 5 ∧ lo.length ≤ 5 ∧
  ∀ H' v, Same H H' → ((v = .non ∧ Fit ls lo) ∨ ∃ t, v = .ref t) → Q v H'
def sp_l_wide : Sp := fun vs H Q _ => ∃ (p q c : Addr) (ls lo : List Nat) (ss : List Int) (b : Int), vs = [.ref p, .ref q, .ref c] ∧ H p = some (.tup (iv ls)) ∧ H q = some (.tup (iv lo)) ∧ H c = some (.lst (zv (cells lo ss b))) ∧ Sides ls ∧ lo.length = ss.length ∧ Sides lo ∧ Fit ls lo ∧
  ∀ H' l, Same H H' → H l = none → H' l = some (.lst (zv (cells ls (wide ls lo ss) b))) → Q (.ref l) H'
section
variable {P : Program} {w : World} {K : PySem.W.Frag} {mg : Str → Option Value} {base : Heap} {a : Adr}
theorem ok_l_unfit (T : Tx K mg a) : FnOk P w K mg base CX0 1 a.l_unfit a.fd_l_unfit ["_law_lengths_here", "_law_lens"] sp_l_unfit := by
  refine T.F_l_unfit.ok sc_l_unfit (fun vs H Q E h => ?_) (fun cdv A outer s H vs Q E hr h => ?_)
  · obtain ⟨p, q, ls, lo, rfl, _⟩ := h
    rfl
  · obtain ⟨p, q, ls, lo, rfl, hp, hq, h5, h6, k⟩ := h
    refine ⟨_, (pss_cons (ps_for PassesOwn.never rfl (pi_range2 (by rfl) T.n_range (pa_cons pe_int (pa_cons (pe_op op_add (pe_callB (call_max2 rfl) (by rfl) T.n_max (by decide +kernel) (pa_cons (pe_callB call_len_seq (by rfl) T.n_len (by decide +kernel) (pa_cons (pv 0) pa_nil)) (pa_cons (pe_callB call_len_seq (by rfl) T.n_len (by decide +kernel) (pa_cons (pv 1) pa_nil)) pa_nil))) pe_int) pa_nil))) (pg_name (i := 2) sc_l_unfit.nd rfl (Or.inl rfl))
            (pss_cons (ps_set (i := 3) sc_l_unfit.nd rfl (Or.inl rfl) (pe_ifExp (pt_cmpR op_le (pv 2) (pe_callB call_len_seq (by rfl) T.n_len (by decide +kernel) (pa_cons (pv 1) pa_nil)) (nomark _)) (pe_ix ix_tup (pv 1) (pe_un un_neg (pv 2)) (fun _ _ => rfl)) pe_non))
          (pss_cons (ps_set (i := 4) sc_l_unfit.nd rfl (Or.inl rfl) (pe_ifExp (pt_cmpR op_le (pv 2) (pe_callB call_len_seq (by rfl) T.n_len (by decide +kernel) (pa_cons (pv 0) pa_nil)) (nomark _)) (pe_ix ix_tup (pv 0) (pe_un un_neg (pv 2)) (fun _ _ => rfl)) pe_non))
          (pss_one (ps_if (PW.pt (pw_or (pt_cmpR op_isN (pv 4) pe_non (nomark _)) (pw_or1 (PW.pt (pw_and (pt_cmpR op_notN (pv 3) pe_non (nomark _)) (pw_and (pt_cmpR op_ne (pv 3) pe_int (nomark _)) (pw_and1 (pt_cmpR op_ne (pv 3) (pv 4) (nomark _))))))))) (pss_one (ps_ret (pe_tup (pa_cons pe_str (pa_cons (pe_op op_sub pe_int (pv 2)) (pa_cons (pv 3) (pa_cons (pv 4) pa_nil))))))) pss_nil)))))
          (pss_one (ps_ret pe_non))), ?_⟩
    have hmax : (if ((iv lo).length : Int) > ((iv ls).length : Int) then ((iv lo).length : Int) else ((iv ls).length : Int)) = ((max ls.length lo.length : Nat) : Int) := by
      rw [iv_len, iv_len]
      split <;> omega
    refine ⟨_, rfl, p, _, rfl, .inr (SqT.of hp), _, rfl, q, _, rfl, .inr (SqT.of hq), _, _, rfl, _, _, rfl, rfl, 1, ((max ls.length lo.length + 1 : Nat) : Int), by show [V.int 1, V.int (_ + 1)] = _; rw [hmax]; rfl, ⟨by omega, by omega, by omega, by omega⟩, ?_⟩
    have en : (((max ls.length lo.length + 1 : Nat) : Int) - 1).toNat = max ls.length lo.length := by omega
    rw [en]
    refine for_it walk_range (fun i σ H' => Same H H' ∧ (∃ v2 v3 v4, σ = [some (.ref p), some (.ref q), v2, v3, v4]) ∧ ∀ j < i, j < ls.length ∧ ∀ l : Nat, lo.reverse[j]? = some l → l = 1 ∨ ls.reverse[j]? = some l) ⟨Same.refl H, ⟨none, none, none, rfl⟩, fun j h => by omega⟩ (fun _ _ _ _ _ => trivial) ?_ ?_
    · rintro i x σ H1 H2 hi ⟨s1, ⟨v2, v3, v4, rfl⟩, hall⟩ ⟨rfl, rfl⟩
      have hp1 := s1 _ _ hp
      have hq1 := s1 _ _ hq
      have eneg : -(1 + (i : Int)) = -((i + 1 : Nat) : Int) := by omega
      -- the answer told to a caller
      have far : ∀ (H' : Hp) (t : Addr), Same H H' → Q (.ref t) H' := fun H' t ss => k H' _ ss (.inr ⟨t, rfl⟩)
      have nxt : ∀ (σ' : St) (v2 v3 v4 : Option V), i < ls.length → (∀ l : Nat, lo.reverse[i]? = some l → l = 1 ∨ ls.reverse[i]? = some l) → σ' = [some (.ref p), some (.ref q), v2, v3, v4] → Same H H2 ∧ (∃ v2 v3 v4, σ' = [some (.ref p), some (.ref q), v2, v3, v4]) ∧ ∀ j < i + 1, j < ls.length ∧ ∀ l : Nat, lo.reverse[j]? = some l → l = 1 ∨ ls.reverse[j]? = some l := by
        intro σ' v2 v3 v4 h1 h2 e
        refine ⟨s1, ⟨v2, v3, v4, e⟩, fun j hj => ?_⟩
        by_cases ej : j = i
        · subst ej
          exact ⟨h1, h2⟩
        · exact hall j (by omega)
      by_cases hlo : i < lo.length
      · obtain ⟨l, hl⟩ : ∃ l, lo.reverse[i]? = some l := ⟨_, List.getElem?_eq_getElem (by rw [List.length_reverse]; exact hlo)⟩
        refine ⟨_, rfl, _, rfl, q, _, rfl, .inr (SqT.of hq1), _, _, rfl, rfl, _, rfl, ifT (by rw [iv_len]; omega) ⟨_, rfl, _, rfl, _, rfl, q, iv lo, _, .int (l : Int), rfl, rfl, SqT.of hq1, by rw [eneg]; exact atI_back (by rw [iv_rev]; exact iv_at hl), ?_⟩⟩
        by_cases hls : i < ls.length
        · obtain ⟨m, hm⟩ : ∃ m, ls.reverse[i]? = some m := ⟨_, List.getElem?_eq_getElem (by rw [List.length_reverse]; exact hls)⟩
          refine ⟨_, rfl, _, rfl, p, _, rfl, .inr (SqT.of hp1), _, _, rfl, rfl, _, rfl, ifT (by rw [iv_len]; omega) ⟨_, rfl, _, rfl, _, rfl, p, iv ls, _, .int (m : Int), rfl, rfl, SqT.of hp1, by rw [eneg]; exact atI_back (by rw [iv_rev]; exact iv_at hm), ?_⟩⟩
          refine ⟨_, rfl, rfl, _, rfl, ifF (by nofun) ⟨_, rfl, rfl, _, rfl, ifNT (by nofun) ⟨_, rfl, rfl, _, rfl, ?_⟩⟩⟩
          by_cases h1 : l = 1
          · subst h1
            refine ifNF rfl (iteF ?_)
            exact nxt _ _ _ _ hls (fun l' e => .inl (by rw [hl] at e; exact (Option.some.inj e).symm)) rfl
          · have n1 : ¬ (V.int (l : Int) = V.int 1) := fun e => h1 (by injection e with e; omega)
            refine ifNT n1 ⟨_, rfl, _, rfl, rfl, _, rfl, ?_⟩
            by_cases h2 : l = m
            · subst h2
              refine ifNF rfl ?_
              exact nxt _ _ _ _ hls (fun l' e => .inr (by rw [hl] at e; obtain rfl := Option.some.inj e; exact hm)) rfl
            · refine ifNT (fun e => h2 (by injection e with e; omega)) ?_
              refine ⟨_, rfl, _, _, rfl, rfl, _, rfl, _, rfl, by show 4 ≤ sizeLine; decide, fun t ht => far _ t (sm_upd s1 ht)⟩
        · refine ⟨_, rfl, _, rfl, p, _, rfl, .inr (SqT.of hp1), _, _, rfl, rfl, _, rfl, ifF (by rw [iv_len]; omega) ?_⟩
          refine ⟨_, rfl, rfl, _, rfl, ifT rfl (iteT ?_)⟩
          refine ⟨_, rfl, _, _, rfl, rfl, _, rfl, _, rfl, by show 4 ≤ sizeLine; decide, fun t ht => far _ t (sm_upd s1 ht)⟩
      · have hls : i < ls.length := by omega
        obtain ⟨m, hm⟩ : ∃ m, ls.reverse[i]? = some m := ⟨_, List.getElem?_eq_getElem (by rw [List.length_reverse]; exact hls)⟩
        refine ⟨_, rfl, _, rfl, q, _, rfl, .inr (SqT.of hq1), _, _, rfl, rfl, _, rfl, ifF (by rw [iv_len]; omega) ?_⟩
        refine ⟨_, rfl, _, rfl, p, _, rfl, .inr (SqT.of hp1), _, _, rfl, rfl, _, rfl, ifT (by rw [iv_len]; omega) ⟨_, rfl, _, rfl, _, rfl, p, iv ls, _, .int (m : Int), rfl, rfl, SqT.of hp1, by rw [eneg]; exact atI_back (by rw [iv_rev]; exact iv_at hm), ?_⟩⟩
        refine ⟨_, rfl, rfl, _, rfl, ifF (by nofun) ⟨_, rfl, rfl, _, rfl, ifNF rfl (iteF ?_)⟩⟩
        exact nxt _ _ _ _ hls (fun l' e => by rw [List.getElem?_eq_none (by rw [List.length_reverse]; omega)] at e; cases e) rfl
    · rintro σ H1 ⟨s1, ⟨v2, v3, v4, rfl⟩, hall⟩
      refine k H1 .non s1 (.inl ⟨rfl, ?_, fun i l hl => ?_⟩)
      · by_cases h : lo.length ≤ ls.length
        · exact h
        · have := (hall ls.length (by omega)).1
          omega
      · have hil : i < lo.length := by
          have := (List.getElem?_eq_some_iff.mp hl).1
          rwa [List.length_reverse] at this
        exact (hall i (by omega)).2 l hl
theorem ok_l_wide (T : Tx K mg a) : FnOk P w K mg base CX0 2 a.l_wide a.fd_l_wide ["_law_lengths_here", "_law_lens", "_law_cells_here"] sp_l_wide := by
  have G_l_places := ok_l_places (P := P) (w := w) (base := base) T
  refine T.F_l_wide.ok sc_l_wide (fun vs H Q E h => ?_) (fun cdv A outer s H vs Q E hr h => ?_)
  · obtain ⟨p, q, c, ls, lo, ss, b, rfl, _⟩ := h
    rfl
  · obtain ⟨p, q, c, ls, lo, ss, b, rfl, hp, hq, hc, hS, hlo, hSo, hF, k⟩ := h
    refine ⟨_, (pss_cons (ps_set (i := 3) sc_l_wide.nd rfl (Or.inl rfl) (pe_lst pa_nil))
          (pss_cons (ps_for PassesOwn.never rfl (pi_list (pe_call G_l_places (hr.mono (by decide)) rfl T.m_l_places T.F_l_places.kp (b_l_places T) .nil pass0 (pa_cons (pv 0) pa_nil))) (pg_name (i := 4) sc_l_wide.nd rfl (Or.inl rfl))
            (pss_cons (ps_set (i := 5) sc_l_wide.nd rfl (Or.inl rfl) pe_int)
          (pss_cons (ps_for PassesOwn.never rfl (RZ.pi_zipA (by rfl) T.n_zip (pa_cons (pe_slice sl_tupA (pv 4) (po_some (pe_op op_sub (pe_callB call_len_seq (by rfl) T.n_len (by decide +kernel) (pa_cons (pv 0) pa_nil)) (pe_callB call_len_seq (by rfl) T.n_len (by decide +kernel) (pa_cons (pv 1) pa_nil)))) po_none) (pa_cons (pv 1) pa_nil))) (pg_tup rfl (pgs_cons (pg_name (i := 6) sc_l_wide.nd rfl (Or.inl rfl)) (pgs_cons (pg_name (i := 7) sc_l_wide.nd rfl (Or.inl rfl)) pgs_nil)))
            (pss_one (ps_set (i := 5) sc_l_wide.nd rfl (Or.inl rfl) (pe_op op_add (pe_op op_mul (pv 5) (pv 7)) (pe_ix ix_list (pe_lst (pa_cons (pv 6) (pa_cons pe_int pa_nil))) (pe_callTy call_int1 (by rfl) T.n_int (by decide +kernel) (pa_cons (pe_cmpR op_eq (pv 7) pe_int (nomark _)) pa_nil)) (fun _ _ => rfl))))))
          (pss_one (ps_expr (pe_bm PySem.F.plainAttrs_list PySem.F.slot_list_append PySem.F.type_list_append mt_append (pv 3) (pa_cons (pe_ix ix_list (pv 2) (pv 5) (fun _ _ => rfl)) pa_nil)))))))
          (pss_one (ps_ret (pv 3))))), ?_⟩
    refine ⟨Nat.zero_le _, fun D hD => ?_⟩
    have sD := sm_new (o := .lst []) hD
    refine ⟨_, rfl, p, ls, rfl, sD _ _ hp, hS, fun H1 q1 xs s1 fq1 hq1 t1 => ⟨q1, rfl, ⟨_, SqL.of hq1⟩, ?_⟩⟩
    have s01 := sD.trans s1
    have hD1 := s1 _ _ upd_same
    have q1D : q1 ≠ D := fun e => by rw [e, upd_same] at fq1; cases fq1
    have pD : p ≠ D := ne_of_none hp hD
    have qD : q ≠ D := ne_of_none hq hD
    have cD : c ≠ D := ne_of_none hc hD
    have hbig : (places ls).length ≤ 600 := by rw [places_length]; exact hS.2.1
    have hlen := hF.1
    refine for_it (walk_list (xs := xs)) (fun i σ H' => (∃ v4 v5 v6 v7, σ = [some (.ref p), some (.ref q), some (.ref c), some (.ref D), v4, v5, v6, v7]) ∧ But D H1 H' ∧ H' D = some (.lst (zv (((places ls).take i).map (cellAt b (wide ls lo ss)))))) ⟨⟨none, none, none, none, rfl⟩, But.refl _ _, hD1⟩ (fun i σ H' _ z => SqL.of (z.2.1 _ _ q1D hq1)) ?_ ?_
    · rintro i x σ H2 H3 hi ⟨⟨v4, v5, v6, v7, rfl⟩, b2, hD2⟩ ⟨rfl, hx⟩
      obtain ⟨t, pl, rfl, hpl, ht⟩ := t1.2 i x hx
      have tD : t ≠ D := ne_of ht hD1 (by intro z; cases z)
      have ht2 := b2 _ _ tD ht
      have hp2 := b2 _ _ pD (s01 _ _ hp)
      have hq2 := b2 _ _ qD (s01 _ _ hq)
      have hc2 := b2 _ _ cD (s01 _ _ hc)
      have hpp := places_isPlace ls pl (List.mem_of_getElem? hpl)
      have hkl : (((iv ls).length : Int)) - ((iv lo).length : Int) = ((ls.length - lo.length : Nat) : Int) := by
        rw [iv_len, iv_len]; omega
      refine ⟨_, rfl, _, rfl, p, _, rfl, .inr (SqT.of hp2), _, rfl, q, _, rfl, .inr (SqT.of hq2), _, _, rfl, rfl, _, rfl, ?_⟩
      unfold tNoPart
      show rSlA K (.ref t) (some (((iv ls).length : Int) - ((iv lo).length : Int))) none H3 _
      rw [hkl]
      refine slA_by ht2 fun H4 t4 s4 ht4 => ?_
      rw [cut_drop _ _ (by rw [iv_len, hpp.1]; omega), iv_drop] at ht4
      have hq4 := s4 _ _ hq2
      have hdl : (pl.drop (ls.length - lo.length)).length = lo.length := by rw [List.length_drop, hpp.1]; omega
      have hmin : lo.length = min (iv (pl.drop (ls.length - lo.length))).length (iv lo).length := by rw [iv_len, iv_len]; omega
      have hplace := proj_place hF hpp
      refine ⟨_, rfl, t4, q, _, _, rfl, .inr ⟨SqT.of ht4, SqT.of hq4, for_it (walk_zipT hmin) (fun j σ H' => Same H4 H' ∧ ∃ v6 v7, σ = [some (.ref p), some (.ref q), some (.ref c), some (.ref D), some (.ref t), some (.int ((idx (lo.take j) ((proj ls lo pl).take j) : Nat) : Int)), v6, v7]) ⟨Same.refl _, v6, v7, rfl⟩ (fun j σ H' _ z => ⟨SqT.of (z.1 _ _ ht4), SqT.of (z.1 _ _ hq4)⟩) ?_ ?_⟩⟩
      · rintro j x σ H5 H6 hj ⟨s5, v6, v7, rfl⟩ ⟨T', x1, x2, rfl, hT, rfl, e1, e2⟩
        obtain ⟨kk, hkk, rfl⟩ := iv_get e1
        obtain ⟨l, hl, rfl⟩ := iv_get e2
        have hl6 := hSo.2.2 l (List.mem_of_getElem? hl)
        have hpj : (proj ls lo pl)[j]? = some (if l = 1 then 0 else kk) := proj_get hl (by rw [← List.getElem?_drop]; exact hkk)
        have eidx : idx (lo.take (j + 1)) ((proj ls lo pl).take (j + 1)) = idx (lo.take j) ((proj ls lo pl).take j) * l + (if l = 1 then 0 else kk) := by
          rw [List.take_add_one, List.take_add_one, hpj, hl]
          exact idx_snoc (by rw [List.length_take, List.length_take, hplace.1]) _ _
        have sT := sm_upd (o := .tup [.int (kk : Int), .int (l : Int)]) s5 hT
        refine g_pair ?_
        refine ⟨_, rfl, _, rfl, _, _, rfl, rfl, .inr ⟨by omega, by omega⟩, _, rfl, by show 2 ≤ sizeLine; decide, fun l2 hl2 => ⟨_, rfl, rfl, .inr ⟨_, rfl, l2, _, _, .int (((if l = 1 then 0 else kk) : Nat) : Int), rfl, rfl, SqL.of upd_same, ?_, _, _, rfl, rfl, sm_upd sT hl2, some (.int (kk : Int)), some (.int (l : Int)), ?_⟩⟩⟩
        · by_cases h1 : l = 1
          · subst h1
            rfl
          · rw [decide_eq_false (fun q => h1 (by injection q with q; omega)), if_neg h1]
            rfl
        · rw [eidx, Int.natCast_add, Int.natCast_mul]
          rfl
      · rintro σ H5 ⟨s5, v6, v7, rfl⟩
        have e7 : lo.take lo.length = lo := List.take_length
        have e8 : (proj ls lo pl).take lo.length = proj ls lo pl := List.take_of_length_le (by rw [hplace.1]; exact Nat.le_refl _)
        rw [e7, e8]
        have hD5 := s5 _ _ (s4 _ _ hD2)
        have hc5 := s5 _ _ (s4 _ _ hc2)
        have hcell : (cells lo ss b)[idx lo (proj ls lo pl)]? = some (cellAt b (wide ls lo ss) pl) := by
          rw [cell_get hlo (places_idx lo _ hplace), cellAt_wide hlen hlo hpp.1]
        refine ⟨_, rfl, .inl ⟨rfl, _, SqL.of hD5⟩, _, rfl, _, rfl, c, _, ((idx lo (proj ls lo pl) : Nat) : Int), _, rfl, rfl, SqL.of hc5, atI_nat (zv_at hcell), D, _, _, rfl, rfl, hD5, bigL (by rw [zv_len, List.length_map, List.length_take]; omega), ?_⟩
        refine ⟨⟨_, _, _, _, rfl⟩, fun c o n e => by rw [upd_ne n]; exact s5 _ _ (s4 _ _ (b2 _ _ n e)), ?_⟩
        rw [upd_same, List.take_add_one, hpl]
        simp [zv]
    · rintro σ H2 ⟨⟨v4, v5, v6, v7, rfl⟩, b2, hD2⟩
      rw [t1.1, List.take_length, ← cells_places ls _ b (wide_length hlen hlo).symm] at hD2
      exact ⟨_, rfl, k H2 D (fun c o e => b2 _ _ (ne_of_none e hD) (s01 _ _ e)) hD hD2⟩
end
end VG

set_option Elab.async false
set_option linter.all false
set_option maxRecDepth 100000
set_option maxHeartbeats 2000000
namespace VG
open PySem PySem.Spec PyProof.Rows L2
def stIx : Step → Nat
  | .mv i => i
  | .hold _ i => i
  | .give _ i => i
theorem StAt.last {ls : List Nat} {H : Hp} {x : V} {st : Step} (h : StAt ls H x st) : ∃ (t : Addr) (fs : List V) (tp : Addr) (p : List Nat), x = .ref t ∧ H t = some (.tup fs) ∧ atI fs (-1) = some (.ref tp) ∧ (places ls)[stIx st]? = some p ∧ H tp = some (.tup (iv p)) ∧
    ((∃ i, st = .mv i ∧ fs = [.str (Str.ofString "move"), .ref tp]) ∨ (∃ h i, st = .hold h i ∧ fs = [.str (Str.ofString "hold"), .int (h : Int), .ref tp]) ∨ ∃ h i, st = .give h i ∧ fs = [.str (Str.ofString "give"), .int (h : Int), .ref tp]) := by
  cases st with
  | mv i =>
    obtain ⟨t, tp, p, h1, h2, h3, h4⟩ := h
    exact ⟨t, _, tp, p, h1, h2, rfl, h3, h4, .inl ⟨i, rfl, rfl⟩⟩
  | hold h0 i =>
    obtain ⟨t, tp, p, h1, h2, h3, h4⟩ := h
    exact ⟨t, _, tp, p, h1, h2, rfl, h3, h4, .inr (.inl ⟨h0, i, rfl, rfl⟩)⟩
  | give h0 i =>
    obtain ⟨t, tp, p, h1, h2, h3, h4⟩ := h
    exact ⟨t, _, tp, p, h1, h2, rfl, h3, h4, .inr (.inr ⟨h0, i, rfl, rfl⟩)⟩
theorem run_take {T S : List Int} {s : List Int × List Int} {sts : List Step} {i : Nat} {st : Step} (h : sts[i]? = some st) : runSteps T S s (sts.take (i + 1)) = runStep T S (runSteps T S s (sts.take i)) st := by
  unfold runSteps
  rw [List.take_add_one, h, List.foldl_append]
  rfl
theorem hands_drop {k : Nat} {sts : List Step} {i : Nat} {st : Step} (h : sts[i]? = some st) (hk : handsOk k (sts.drop i)) : handsOk k (st :: sts.drop (i + 1)) := by
  obtain ⟨hi, e⟩ := List.getElem?_eq_some_iff.mp h
  rw [List.drop_eq_getElem_cons hi, e] at hk
  exact hk
def sp_l_walk (a : Adr) : Sp := fun vs H Q _ => ∃ (x1 x2 : V) (sl r pl : Addr) (ps : List (Addr × Addr)) (w : Nat) (cs : List Int) (t plt : Addr) (pst : List (Addr × Addr)) (wt : Nat) (as : List Int) (ls : List Nat) (b : Int) (ss : List Int) (lo : List Nat) (b2 : Int) (ss2 : List Int) (M : Addr → Prop) (sv : List V) (sts : List Step),
  vs = [x1, x2, .ref sl] ∧ Look a H M x1 r cs.length ls b ss ∧ Look a H M x2 r cs.length lo b2 ss2 ∧ Sys a H r pl ps w cs t plt pst wt as ∧ H sl = some (.lst sv) ∧ ¬ guts r pl ps sl ∧ Stps ls H sv sts ∧ sts.length ≤ 100000 ∧ Fit ls lo ∧ handsOk 0 sts ∧
  ∀ H' ps', Sys a H' r pl ps' w (runSteps (cells ls ss b) (cells ls (wide ls lo ss2) b2) (cs, []) sts).1 t plt pst wt as → Kg r pl ps H H' ps' → Q .non H'
section
variable {P : Program} {w : World} {K : PySem.W.Frag} {mg : Str → Option Value} {base : Heap} {a : Adr}
theorem ok_l_walk (T : Tx K mg a) : FnOk P w K mg base CX0 6 a.l_walk a.fd_l_walk ["_law_target", "_law_source_here", "_law_steps_here"] (sp_l_walk a) := by
  have G_View_at := ok_View_at (P := P) (w := w) (base := base) T
  have G_View_put := ok_View_put (P := P) (w := w) (base := base) T
  refine T.F_l_walk.ok sc_l_walk (fun vs H Q E h => ?_) (fun cdv A outer s H vs Q E hr h => ?_)
  · obtain ⟨x1, x2, sl, r, pl, ps, wd, cs, t, plt, pst, wt, as, ls, b, ss, lo, b2, ss2, M, sv, sts, rfl, _⟩ := h
    rfl
  · obtain ⟨x1, x2, sl, r, pl, ps, wd, cs, t, plt, pst, wt, as, ls, b, ss, lo, b2, ss2, M, sv, sts, rfl, ⟨t1, v1, tl1, cl1, rfl, ht1, hV1, htl1, _, hO1, _⟩, ⟨t2, v2, tl2, cl2, rfl, ht2, hV2, htl2, _, hO2, _⟩, S, hsl, gsl, hst, hsn, hF, hh, k⟩ := h
    refine ⟨_, (pss_cons (ps_set (i := 3) sc_l_walk.nd rfl (Or.inl rfl) (pe_lst pa_nil))
          (pss_cons (ps_set (i := 4) sc_l_walk.nd rfl (Or.inl rfl) (pe_ix ix_tup (pv 1) pe_int (fun _ _ => rfl)))
          (pss_one (ps_for PassesOwn.never rfl (pi_list (pv 2)) (pg_name (i := 5) sc_l_walk.nd rfl (Or.inl rfl))
            (pss_cons (ps_set (i := 6) sc_l_walk.nd rfl (Or.inl rfl) (pe_ix ix_tup (pv 5) (pe_un un_neg pe_int) (fun _ _ => rfl)))
          (pss_cons (ps_set (i := 7) sc_l_walk.nd rfl (Or.inl rfl) (pe_slice sl_tupA (pv 6) (po_some (pe_op op_sub (pe_callB call_len_seq (by rfl) T.n_len (by decide +kernel) (pa_cons (pv 6) pa_nil)) (pe_callB call_len_seq (by rfl) T.n_len (by decide +kernel) (pa_cons (pv 4) pa_nil)))) po_none))
          (pss_cons (ps_set (i := 8) sc_l_walk.nd rfl (Or.inl rfl) (pe_callTy call_tuple_of (by rfl) T.n_tuple (by decide +kernel) (pa_cons (pe_lc (own := [("_law_number_here", 9), ("_law_length", 10)]) rfl sc_l_walk.nd (RZ.pi_zipA (by rfl) T.n_zip (pa_cons (pv 7) (pa_cons (pv 4) pa_nil))) (blkOk_by (N := ["_law_target", "_law_source_here", "_law_steps_here", "_law_hands", "_law_lens", "_law_step", "_law_place", "_law_own", "_law_theirs", "_law_number_here", "_law_length"]) (sc := defScope s_l_walk) (own := [("_law_number_here", 9), ("_law_length", 10)]) (by decide +kernel)) (fun _ _ _ _ _ => (show PG _ _ (gTup K 2 _) from pg_tup rfl (pgs_cons (pg_name (i := 9) sc_l_walk.nd rfl (Or.inl rfl)) (pgs_cons (pg_name (i := 10) sc_l_walk.nd rfl (Or.inl rfl)) pgs_nil)))) (fun _ _ _ _ _ => pts_nil) (fun _ _ _ _ _ => (pe_ix (r := rIxL K) ix_list (pe_lst (pa_cons (pv 9) (pa_cons pe_int pa_nil))) (pe_callTy call_int1 (by rfl) T.n_int (by decide +kernel) (pa_cons (pe_cmpR op_eq (pv 10) pe_int (nomark _)) pa_nil)) (fun _ _ => rfl)))) pa_nil)))
          (pss_one (ps_if (pt_cmpR op_eq (pe_ix ix_tup (pv 5) pe_int (fun _ _ => rfl)) pe_str (nomark _)) (pss_one (ps_expr (pe_bm PySem.F.plainAttrs_list PySem.F.slot_list_append PySem.F.type_list_append mt_append (pv 3) (pa_cons (pe_meth (pe_ix ix_tup (pv 1) pe_int (fun _ _ => rfl)) T.cl_View T.me_View_at G_View_at (hr.mono (by decide)) (b_View_at T) .nil pass0 (pa_cons (pv 8) pa_nil)) pa_nil)))) (pss_one (ps_if (pt_cmpR op_eq (pe_ix ix_tup (pv 5) pe_int (fun _ _ => rfl)) pe_str (nomark _)) (pss_one (ps_expr (pe_meth (pe_ix ix_tup (pv 0) pe_int (fun _ _ => rfl)) T.cl_View T.me_View_put G_View_put (hr.mono (by decide)) (b_View_put T) .nil pass0 (pa_cons (pv 6) (pa_cons (pe_meth (pe_ix ix_tup (pv 1) pe_int (fun _ _ => rfl)) T.cl_View T.me_View_at G_View_at (hr.mono (by decide)) (b_View_at T) .nil pass0 (pa_cons (pv 8) pa_nil)) pa_nil))))) (pss_one (ps_expr (pe_meth (pe_ix ix_tup (pv 0) pe_int (fun _ _ => rfl)) T.cl_View T.me_View_put G_View_put (hr.mono (by decide)) (b_View_put T) .nil pass0 (pa_cons (pv 6) (pa_cons (pe_ix ix_list (pv 3) (pe_ix ix_tup (pv 5) pe_int (fun _ _ => rfl)) (fun _ _ => rfl)) pa_nil)))))))))))))))), ?_⟩
    refine ⟨Nat.zero_le _, fun D hD => ?_⟩
    have sD := sm_new (o := .lst []) hD
    have R0 := S.main
    have gD : ¬ guts r pl ps D := R0.fresh hD
    have gDt : ¬ guts t plt pst D := S.twin.fresh hD
    refine ⟨_, rfl, t2, _, 2, _, rfl, rfl, SqT.of (sD _ _ ht2), rfl, ?_⟩
    have slD : sl ≠ D := ne_of_none hsl hD
    have hOw : VOk cs.length ls b2 (wide ls lo ss2) := hO2.wide hO1.2.1 hF
    have hlo5 := hO2.2.1.1
    refine ⟨_, rfl, sl, rfl, ⟨_, SqL.of (sD _ _ hsl)⟩, for_it (walk_list (xs := sv)) (fun i σ H' => (∃ v5 v6 v7 v8, σ = [some (.ref t1), some (.ref t2), some (.ref sl), some (.ref D), some (.ref tl2), v5, v6, v7, v8, none, none]) ∧ ∃ ps' hs cs', Sys a H' r pl ps' wd cs' t plt pst wt as ∧ Kg r pl ps H H' ps' ∧ H' D = some (.lst (zv hs)) ∧ ¬ guts r pl ps' D ∧
      runSteps (cells ls ss b) (cells ls (wide ls lo ss2) b2) (cs, []) (sts.take i) = (cs', hs) ∧ handsOk hs.length (sts.drop i) ∧ hs.length ≤ i ∧ cs'.length = cs.length)
      ⟨⟨none, none, none, none, rfl⟩, ps, [], cs, S.same sD, Kg.of_same sD, upd_same, gD, rfl, hh, Nat.le_refl _, rfl⟩ (fun i σ H' _ z => ?_) ?_ ?_⟩
    · obtain ⟨_, ps', hs, cs', _, kg, _⟩ := z
      exact SqL.of (kg.1 _ _ hsl gsl)
    · rintro i x σ H1 H2 hi ⟨⟨v5, v6, v7, v8, rfl⟩, ps', hs, cs', S1, kg, hD1, gD1, hrun, hhd, hhl, hcl⟩ ⟨rfl, hx⟩
      obtain ⟨st, hsti⟩ : ∃ st, sts[i]? = some st := ⟨_, List.getElem?_eq_getElem (by rw [← hst.1]; exact hi)⟩
      obtain ⟨t5, fs5, tp, p, rfl, ht5, hlast, hpl, htp, hcase⟩ := (hst.2 i x st hx hsti).last
      have tk : ∀ {c : Addr} {ys : List V}, H c = some (.tup ys) → H2 c = some (.tup ys) := fun e => kg.1 _ _ e (R0.no_tup e)
      have ht5' := tk ht5
      have htp' := tk htp
      have ht1' := tk ht1
      have ht2' := tk ht2
      have htl2' := tk htl2
      have hpp := places_isPlace ls p (List.mem_of_getElem? hpl)
      have hlen := hF.1
      have hkl : (((iv p).length : Int)) - ((iv lo).length : Int) = ((ls.length - lo.length : Nat) : Int) := by
        rw [iv_len, iv_len, hpp.1]; omega
      refine ⟨_, rfl, _, rfl, t5, _, -1, _, rfl, rfl, SqT.of ht5', hlast, ?_⟩
      refine ⟨_, rfl, _, rfl, tp, _, rfl, .inr (SqT.of htp'), _, rfl, tl2, _, rfl, .inr (SqT.of htl2'), _, _, rfl, rfl, _, rfl, ?_⟩
      unfold tNoPart
      show rSlA K (.ref tp) (some (((iv p).length : Int) - ((iv lo).length : Int))) none H2 _
      rw [hkl]
      refine slA_by htp' fun H3 t7 s3 ht7 => ?_
      rw [cut_drop _ _ (by rw [iv_len, hpp.1]; omega), iv_drop] at ht7
      refine stp (σ' := [_, _, _, _, _, _, _, _, _, _, _]) rfl ?_
      have hdl : (p.drop (ls.length - lo.length)).length = lo.length := by rw [List.length_drop, hpp.1]; omega
      have hmin : lo.length = min (iv (p.drop (ls.length - lo.length))).length (iv lo).length := by rw [iv_len, iv_len]; omega
      have hplace := proj_place hF hpp
      refine ⟨_, rfl, _, rfl, t7, tl2, _, _, rfl, .inr ⟨SqT.of ht7, SqT.of (s3 _ _ htl2'), fun E hE => ?_⟩⟩
      refine lc_pure (walk_zipT hmin) (fun j => .int (((proj ls lo p).getD j 0 : Nat) : Int)) (by omega) hE (fun H' e => ⟨SqT.of (e _ _ ht7), SqT.of (e _ _ (s3 _ _ htl2'))⟩) ?_ ?_
      · rintro j x H4 H5 k' hj s4 ⟨T', x1, x2, rfl, hT, rfl, e1, e2⟩ hk'
        obtain ⟨kk, hkk, rfl⟩ := iv_get e1
        obtain ⟨l, hl, rfl⟩ := iv_get e2
        have hpj : (proj ls lo p)[j]? = some (if l = 1 then 0 else kk) := proj_get hl (by rw [← List.getElem?_drop]; exact hkk)
        refine g_pair ⟨rfl, ?_⟩
        refine ⟨_, rfl, by show 2 ≤ sizeLine; decide, fun l2 hl2 => ⟨_, rfl, rfl, .inr ⟨_, rfl, l2, _, _, .int (((if l = 1 then 0 else kk) : Nat) : Int), rfl, rfl, SqL.of upd_same, ?_, ?_⟩⟩⟩
        · by_cases h1 : l = 1
          · subst h1
            rfl
          · rw [decide_eq_false (fun q => h1 (by injection q with q; omega)), if_neg h1]
            rfl
        · have := hk' _ (sm_upd (o := .lst [.int (kk : Int), .int 0]) (sm_new (o := .tup [.int (kk : Int), .int (l : Int)]) hT) hl2)
          rw [getD_of hpj] at this
          exact this
      intro H4 s4 hE4
      have hEe : ((List.range lo.length).map fun j => V.int (((proj ls lo p).getD j 0 : Nat) : Int)) = iv (proj ls lo p) := by
        rw [← hplace.1, rg_map (proj ls lo p) (fun n : Nat => V.int (n : Int)) 0, iv_eq]
      rw [hEe] at hE4
      refine ⟨E, _, rfl, .inl ⟨SqL.of hE4, fun t8 ht8n => ?_⟩⟩
      have s5 := sm_new (o := .tup (iv (proj ls lo p))) ht8n
      have ht8 : upd H4 t8 (.tup (iv (proj ls lo p))) t8 = some (.tup (iv (proj ls lo p))) := upd_same
      have s25 := s3.trans (s4.trans s5)
      generalize upd H4 t8 (.tup (iv (proj ls lo p))) = H5 at ht8 s25
      have S5 := S1.same s25
      have V1 := (hV1.keep R0 kg).same s25
      have V2 := (hV2.keep R0 kg).same s25
      have kg5 := kg.trans (Kg.of_same s25)
      obtain ⟨dx1, _, _, o1, _, _⟩ := id V1
      obtain ⟨dx2, _, _, o2, _, _⟩ := id V2
      have hO2t := hO2.told
      have hO1t := hO1.told
      -- the source's number
      obtain ⟨q1, q2, cS, q3, q4, q5⟩ := place_ok hOw hpl
      have hcS : cellAt (tb lo b2) (ts lo ss2) (proj ls lo p) = (cS : Int) := by
        rw [cellAt_told hO2.1 (mem_places hplace), ← cellAt_wide hlen hO2.1 hpp.1]
        exact q3
      obtain ⟨p1', p2', cT, p3, p4, p5⟩ := place_ok hO1 hpl
      have hcT : cellAt (tb ls b) (ts ls ss) p = (cT : Int) := by
        rw [cellAt_told hO1.1 (List.mem_of_getElem? hpl)]
        exact p3
      have hcS' : cS < cs'.length := by omega
      have eS : (cells ls (wide ls lo ss2) b2).getD (stIx st) 0 = (cS : Int) := getD_of q5
      have eT : (cells ls ss b).getD (stIx st) 0 = (cT : Int) := getD_of p5
      have hk8 := place_le hO2.2.1 hplace
      have hget : cs'[cS]? = some (cs'.getD cS 0) := by
        rw [List.getD_eq_getElem?_getD, List.getElem?_eq_getElem hcS']
        rfl
      have hrt := run_take (T := cells ls ss b) (S := cells ls (wide ls lo ss2) b2) (s := (cs, [])) hsti
      rw [hrun] at hrt
      have hhd' := hands_drop hsti hhd
      have hD5 := s25 _ _ hD1
      have slv : sts.length = sv.length := hst.1.symm
      rcases hcase with ⟨i0, rfl, rfl⟩ | ⟨h0, i0, rfl, rfl⟩ | ⟨h0, i0, rfl, rfl⟩
      · refine ⟨_, rfl, t5, _, 0, _, rfl, rfl, SqT.of (s25 _ _ ht5'), rfl, rfl, _, rfl, ifF (by decide) ?_⟩
        refine ⟨_, rfl, t5, _, 0, _, rfl, rfl, SqT.of (s25 _ _ ht5'), rfl, rfl, _, rfl, ifT rfl ?_⟩
        refine ⟨_, rfl, t1, _, 1, _, rfl, rfl, SqT.of (s25 _ _ ht1'), rfl, v1, dx1, _, rfl, o1, rfl, _, rfl, ?_⟩
        refine ⟨_, rfl, t2, _, 1, _, rfl, rfl, SqT.of (s25 _ _ ht2'), rfl, v2, dx2, _, rfl, o2, rfl, _, rfl, ?_⟩
        refine ⟨v2, r, t8, lo, _, _, proj ls lo p, pl, ps', wd, cs', cS, cs'.getD cS 0, rfl, V2, hO2t.1, hlo5, ht8, hplace, hk8, S5.main, hcS, hget, fun H6 s6 => ?_⟩
        refine ⟨v1, r, tp, ls, _, _, p, pl, ps', wd, cs', t, plt, pst, wt, as, cT, cs'.getD cS 0, rfl, V1.same s6, hO1t.1, hO1.2.1.1, s6 _ _ (s25 _ _ htp'), p1', p2', S5.same s6, hcT, by omega, fun H7 ps7 S7 kg7 => ?_⟩
        have kg67 := (Kg.of_same s6).trans kg7
        refine ⟨⟨_, _, _, _, rfl⟩, ps7, hs, _, S7, kg5.trans kg67, (kg67.keep hD5 gD1).1, (kg67.keep hD5 gD1).2, ?_, hhd', by omega, by rw [List.length_set]; exact hcl⟩
        rw [hrt]
        show (cs'.set ((cells ls ss b).getD i0 0).toNat (cs'.getD ((cells ls (wide ls lo ss2) b2).getD i0 0).toNat 0), hs) = _
        rw [show (cells ls ss b).getD i0 0 = (cT : Int) from eT, show (cells ls (wide ls lo ss2) b2).getD i0 0 = (cS : Int) from eS, Int.toNat_natCast, Int.toNat_natCast]
      · refine ⟨_, rfl, t5, _, 0, _, rfl, rfl, SqT.of (s25 _ _ ht5'), rfl, rfl, _, rfl, ifT rfl ?_⟩
        refine ⟨_, rfl, .inl ⟨rfl, _, SqL.of hD5⟩, _, rfl, t2, _, 1, _, rfl, rfl, SqT.of (s25 _ _ ht2'), rfl, v2, dx2, _, rfl, o2, rfl, _, rfl, ?_⟩
        refine ⟨v2, r, t8, lo, _, _, proj ls lo p, pl, ps', wd, cs', cS, cs'.getD cS 0, rfl, V2, hO2t.1, hlo5, ht8, hplace, hk8, S5.main, hcS, hget, fun H6 s6 => ?_⟩
        have hD6 := s6 _ _ hD5
        refine ⟨D, _, _, rfl, rfl, hD6, bigL (by rw [zv_len]; omega), ?_⟩
        have S7 : Sys a (upd H6 D (.lst (zv hs ++ [.int (cs'.getD cS 0)]))) r pl ps' wd cs' t plt pst wt as := (S5.same s6).upd gD1 gDt
        refine ⟨⟨_, _, _, _, rfl⟩, ps', hs ++ [cs'.getD cS 0], cs', S7, ⟨fun c o e g => ?_, (kg5.trans (Kg.of_same s6)).2⟩, by rw [upd_same, zv_app], gD1, ?_, by rw [List.length_append]; exact hhd', by rw [List.length_append]; simp; omega, hcl⟩
        · rw [upd_ne (ne_of_none e hD)]
          exact (kg5.trans (Kg.of_same s6)).1 c o e g
        · rw [hrt]
          show (cs', hs ++ [cs'.getD ((cells ls (wide ls lo ss2) b2).getD i0 0).toNat 0]) = _
          rw [show (cells ls (wide ls lo ss2) b2).getD i0 0 = (cS : Int) from eS, Int.toNat_natCast]
      · obtain ⟨hlt, hhd2⟩ := hhd'
        refine ⟨_, rfl, t5, _, 0, _, rfl, rfl, SqT.of (s25 _ _ ht5'), rfl, rfl, _, rfl, ifF (by decide) ?_⟩
        refine ⟨_, rfl, t5, _, 0, _, rfl, rfl, SqT.of (s25 _ _ ht5'), rfl, rfl, _, rfl, ifF (by decide) ?_⟩
        refine ⟨_, rfl, t1, _, 1, _, rfl, rfl, SqT.of (s25 _ _ ht1'), rfl, v1, dx1, _, rfl, o1, rfl, _, rfl, ?_⟩
        have hgh : hs[h0]? = some (hs.getD h0 0) := by
          rw [List.getD_eq_getElem?_getD, List.getElem?_eq_getElem hlt]
          rfl
        refine ⟨_, rfl, _, rfl, t5, _, 1, _, rfl, rfl, SqT.of (s25 _ _ ht5'), rfl, D, _, (h0 : Int), _, rfl, rfl, SqL.of hD5, atI_nat (zv_at hgh), ?_⟩
        refine ⟨v1, r, tp, ls, _, _, p, pl, ps', wd, cs', t, plt, pst, wt, as, cT, hs.getD h0 0, rfl, V1, hO1t.1, hO1.2.1.1, s25 _ _ htp', p1', p2', S5, hcT, by omega, fun H7 ps7 S7 kg7 => ?_⟩
        refine ⟨⟨_, _, _, _, rfl⟩, ps7, hs, _, S7, kg5.trans kg7, (kg7.keep hD5 gD1).1, (kg7.keep hD5 gD1).2, ?_, hhd2, by omega, by rw [List.length_set]; exact hcl⟩
        rw [hrt]
        show (cs'.set ((cells ls ss b).getD i0 0).toNat (hs.getD h0 0), hs) = _
        rw [show (cells ls ss b).getD i0 0 = (cT : Int) from eT, Int.toNat_natCast]
    · rintro σ H1 ⟨⟨v5, v6, v7, v8, rfl⟩, ps', hs, cs', S1, kg, hD1, gD1, hrun, hhd, hhl, hcl⟩
      rw [hst.1, List.take_length] at hrun
      refine k H1 ps' ?_ kg
      rw [hrun]
      exact S1
end
end VG

set_option Elab.async false
set_option linter.all false
set_option maxRecDepth 100000
set_option maxHeartbeats 4000000
namespace VG
open PySem PySem.Spec PyProof.Rows L2
/-- from a heap and what may be told anew there to another -/
def Tr (H : Hp) (M : Addr → Prop) (H' : Hp) (M' : Addr → Prop) : Prop := (∀ b o, H b = some o → ¬ M b → H' b = some o) ∧ ∀ b o, H b = some o → ¬ M b → ¬ M' b
theorem Tr.refl (H : Hp) (M : Addr → Prop) : Tr H M H M := ⟨fun _ _ h _ => h, fun _ _ _ h => h⟩
theorem Tr.trans {H H1 H2 : Hp} {M M1 M2 : Addr → Prop} (a : Tr H M H1 M1) (b : Tr H1 M1 H2 M2) : Tr H M H2 M2 := ⟨fun c o h g => b.1 c o (a.1 c o h g) (a.2 c o h g), fun c o h g => b.2 c o (a.1 c o h g) (a.2 c o h g)⟩
theorem Tr.same {H H' : Hp} {M : Addr → Prop} (e : Same H H') : Tr H M H' M := ⟨fun c o h _ => e c o h, fun _ _ _ h => h⟩
theorem Tr.but {H H' : Hp} {M : Addr → Prop} {p : Addr} (e : But p H H') (m : M p) : Tr H M H' M := ⟨fun c o h g => e c o (fun q => g (q ▸ m)) h, fun _ _ _ h => h⟩
def WM (r pl : Addr) (ps : List (Addr × Addr)) (p K0 k0 : Addr) : Addr → Prop := fun c => guts r pl ps c ∨ c = p ∨ c = K0 ∨ c = k0
theorem Tr.kg {H H' : Hp} {r pl p K0 k0 : Addr} {ps ps' : List (Addr × Addr)} (k : Kg r pl ps H H' ps') : Tr H (WM r pl ps p K0 k0) H' (WM r pl ps' p K0 k0) := by
  refine ⟨fun c o h g => k.1 c o h fun q => g (.inl q), fun c o h g g' => ?_⟩
  rcases g' with q | q
  · rcases k.2 c q with z | z
    · exact g (.inl z)
    · rw [h] at z; cases z
  · exact g (.inr q)
/-- a room and its twin, a purse, a list that keeps a list of numbers -/
structure Wd (a : Adr) (H : Hp) (p K0 k0 r pl : Addr) (ps : List (Addr × Addr)) (w : Nat) (cs ks : List Int) (t plt : Addr) (pst : List (Addr × Addr)) (wt : Nat) (as : List Int) (n : Nat) : Prop where
  pu : Pu H p n
  sys : Sys a H r pl ps w cs t plt pst wt as
  hK : H K0 = some (.lst [.ref k0])
  hk : H k0 = some (.lst (zv ks))
  d1 : p ≠ K0
  d2 : p ≠ k0
  d3 : K0 ≠ k0
  g1 : ∀ c, c = p ∨ c = K0 ∨ c = k0 → ¬ guts r pl ps c ∧ ¬ guts t plt pst c
section
variable {a : Adr} {H H' : Hp} {p K0 k0 r pl t plt : Addr} {ps pst ps' : List (Addr × Addr)} {w wt n m : Nat} {cs ks as cs' ks' : List Int}
theorem Wd.same (W : Wd a H p K0 k0 r pl ps w cs ks t plt pst wt as n) (e : Same H H') : Wd a H' p K0 k0 r pl ps w cs ks t plt pst wt as n := ⟨W.pu.same e, W.sys.same e, e _ _ W.hK, e _ _ W.hk, W.d1, W.d2, W.d3, W.g1⟩
theorem Wd.but (W : Wd a H p K0 k0 r pl ps w cs ks t plt pst wt as n) (e : But p H H') (q : Pu H' p m) : Wd a H' p K0 k0 r pl ps w cs ks t plt pst wt as m :=
  ⟨q, W.sys.but e (W.g1 p (.inl rfl)).1 (W.g1 p (.inl rfl)).2, e _ _ (Ne.symm W.d1) W.hK, e _ _ (Ne.symm W.d2) W.hk, W.d1, W.d2, W.d3, W.g1⟩
theorem Wd.mono (W : Wd a H p K0 k0 r pl ps w cs ks t plt pst wt as n) (e : n ≤ m) : Wd a H p K0 k0 r pl ps w cs ks t plt pst wt as m := ⟨W.pu.mono e, W.sys, W.hK, W.hk, W.d1, W.d2, W.d3, W.g1⟩
theorem Wd.kg (W : Wd a H p K0 k0 r pl ps w cs ks t plt pst wt as n) (k : Kg r pl ps H H' ps') (S : Sys a H' r pl ps' w cs' t plt pst wt as) : Wd a H' p K0 k0 r pl ps' w cs' ks t plt pst wt as n := by
  obtain ⟨x, y, z, h1, h2⟩ := W.pu
  have key : ∀ c o, (c = p ∨ c = K0 ∨ c = k0) → H c = some o → H' c = some o ∧ ¬ guts r pl ps' c := fun c o h e => k.keep e (W.g1 c h).1
  refine ⟨⟨x, y, z, (key p _ (.inl rfl) h1).1, h2⟩, S, (key _ _ (.inr (.inl rfl)) W.hK).1, (key _ _ (.inr (.inr rfl)) W.hk).1, W.d1, W.d2, W.d3, fun c hc => ⟨?_, (W.g1 c hc).2⟩⟩
  rcases hc with e | e | e
  · rw [e]; exact (key p _ (.inl rfl) h1).2
  · rw [e]; exact (key _ _ (.inr (.inl rfl)) W.hK).2
  · rw [e]; exact (key _ _ (.inr (.inr rfl)) W.hk).2
theorem Wd.setk (W : Wd a H p K0 k0 r pl ps w cs ks t plt pst wt as n) (ks' : List Int) : Wd a (L2.upd H k0 (.lst (zv ks'))) p K0 k0 r pl ps w cs ks' t plt pst wt as n := by
  obtain ⟨x, y, z, h1, h2⟩ := W.pu
  exact ⟨⟨x, y, z, by rw [upd_ne W.d2]; exact h1, h2⟩, W.sys.upd (W.g1 k0 (.inr (.inr rfl))).1 (W.g1 k0 (.inr (.inr rfl))).2, by rw [upd_ne W.d3]; exact W.hK, upd_same, W.d1, W.d2, W.d3, W.g1⟩
theorem Tr.setk {o : HO} : Tr H (WM r pl ps p K0 k0) (L2.upd H k0 o) (WM r pl ps p K0 k0) := ⟨fun c z h g => by rw [upd_ne (show c ≠ k0 from fun q => g (.inr (.inr (.inr q))))]; exact h, fun _ _ _ h => h⟩
/-- a new list kept -/
theorem Wd.newk {D : Addr} (W : Wd a H p K0 k0 r pl ps w cs ks t plt pst wt as n) (e : Same H H') (hD : H D = none) (hD' : H' D = some (.lst (zv ks'))) : Wd a (L2.upd H' K0 (.lst [.ref D])) p K0 D r pl ps w cs ks' t plt pst wt as n := by
  have W' := W.same e
  obtain ⟨x, y, z, h1, h2⟩ := W'.pu
  have DK : D ≠ K0 := Ne.symm (ne_of_none W.hK hD)
  have gK := W.g1 K0 (.inr (.inl rfl))
  refine ⟨⟨x, y, z, by rw [upd_ne W.d1]; exact h1, h2⟩, W'.sys.upd gK.1 gK.2, upd_same, by rw [upd_ne DK]; exact hD', W.d1, ?_, Ne.symm DK, fun c hc => ?_⟩
  · obtain ⟨xs, hp⟩ := W.pu.lst
    exact ne_of_none hp hD
  · rcases hc with q | q | q
    · exact W.g1 c (.inl q)
    · exact W.g1 c (.inr (.inl q))
    · rw [q]
      exact ⟨W.sys.main.fresh hD, W.sys.twin.fresh hD⟩
theorem Tr.newk {D : Addr} {o : HO} (e : Same H H') (hD : H D = none) : Tr H (WM r pl ps p K0 k0) (L2.upd H' K0 o) (WM r pl ps p K0 D) := by
  refine ⟨fun c z h g => ?_, fun c z h g g' => ?_⟩
  · rw [upd_ne (show c ≠ K0 from fun q => g (.inr (.inr (.inl q))))]
    exact e _ _ h
  · rcases g' with q | q | q | q
    · exact g (.inl q)
    · exact g (.inr (.inl q))
    · exact g (.inr (.inr (.inl q)))
    · rw [q, hD] at h; cases h
theorem Wd.mut (W : Wd a H p K0 k0 r pl ps w cs ks t plt pst wt as n) : MutOk a H (WM r pl ps p K0 k0) := by
  obtain ⟨xs, hp⟩ := W.pu.lst
  refine ⟨fun b xs h g => ?_, fun b dx r' tl z ts h g => ?_⟩
  · rcases g with g | g | g | g
    · exact W.sys.main.no_tup h g
    · rw [g, hp] at h; cases h
    · rw [g, W.hK] at h; cases h
    · rw [g, W.hk] at h; cases h
  · rcases g with g | g | g | g
    · exact W.sys.main.no_view h g
    · rw [g, hp] at h; cases h
    · rw [g, W.hK] at h; cases h
    · rw [g, W.hk] at h; cases h
theorem Look.tr {M M' : Addr → Prop} {x : V} {ls : List Nat} {b : Int} {ss : List Int} (h : Look a H M x r n ls b ss) (mo : MutOk a H M) (e : Tr H M H' M') : Look a H' M' x r n ls b ss := h.move mo e.1 e.2
end
/-! ### plain -/
theorem cells_wide_told {ls lo : List Nat} {b : Int} {ss : List Int} (h : lo.length = ss.length) (hF : Fit ls lo) : cells ls (wide ls lo (ts lo ss)) (tb lo b) = cells ls (wide ls lo ss) b := by
  have h2 : lo.length = (ts lo ss).length := (ts_length h).symm
  rw [cells_places ls _ _ (wide_length hF.1 h2).symm, cells_places ls _ _ (wide_length hF.1 h).symm]
  refine List.map_congr_left fun p hp => ?_
  have ip := places_isPlace ls p hp
  rw [cellAt_wide hF.1 h2 ip.1, cellAt_wide hF.1 h ip.1, cellAt_told h (mem_places (proj_place hF ip))]
theorem VOk.wide_told {n : Nat} {ls lo : List Nat} {b : Int} {ss : List Int} (h : VOk n lo b ss) (hS : Sides ls) (hF : Fit ls lo) : VOk n ls (tb lo b) (VG.wide ls lo (ts lo ss)) := h.told.wide hS hF
theorem ringsSteps_len {gs : List (Option Nat)} : ∀ {rs : List (List Nat)} (h : Nat), (∀ r ∈ rs, Ring gs r) → (ringsSteps h rs).length = rs.flatten.length + rs.length
  | [], _, _ => rfl
  | r :: rs, h, hr => by
    have hne : r ≠ [] := by
      intro e
      obtain ⟨_, _, _, hh, _⟩ := hr r (by simp)
      rw [e] at hh
      cases hh
    show (ringSteps h r ++ ringsSteps (h + 1) rs).length = _
    rw [List.length_append, ringSteps_len h hne, ringsSteps_len (gs := gs) (h + 1) fun x hx => hr x (by simp [hx]), List.flatten_cons, List.length_append, List.length_cons]
    omega
theorem plan_len {gs : List (Option Nat)} {ms : List Nat} {rs : List (List Nat)} (hM : MovedOk gs ms) (hR : RingsOk gs ms rs) (h : gs.length ≤ 600) : (plan ms rs).length ≤ 100000 := by
  have h1 := nd_len (n := gs.length) hR.nd (fun x hx => by
    rcases List.mem_append.mp hx with e | e
    · exact hM.lt x e
    · exact hR.lt x e)
  rw [List.length_append] at h1
  have h2 := rings_count hR.ring
  unfold plan
  rw [List.length_append, List.length_map, ringsSteps_len (gs := gs) 0 hR.ring]
  omega
theorem room2_of {n : Nat} {ls : List Nat} {b b2 : Int} {ss ss2 : List Int} (h1 : VOk n ls b ss) (h2 : VOk n ls b2 ss2) (nd : (cells ls ss b).Nodup) : Room2 (cells ls ss b) (cells ls ss2 b2) n :=
  ⟨by rw [cells_length b h1.1, cells_length b2 h2.1], nd, h1.2.2, h2.2.2⟩
theorem fillc_get (cs T : List Int) (z : Int) (hT : ∀ c ∈ T, 0 ≤ c) (i : Nat) (hi : i < cs.length) : (fillc cs T z).getD i 0 = if (i : Int) ∈ T then z else cs.getD i 0 := by
  unfold fillc
  induction T generalizing cs with
  | nil => simp
  | cons t r ih =>
    rw [List.foldl_cons, ih (cs.set t.toNat z) (fun c hc => hT c (by simp [hc])) (by rw [List.length_set]; exact hi)]
    have h0 := hT t (by simp)
    by_cases h1 : (i : Int) ∈ r
    · rw [if_pos h1, if_pos (by simp [h1])]
    · rw [if_neg h1]
      by_cases h2 : (i : Int) = t
      · rw [if_pos (by simp [h2])]
        have : t.toNat = i := by omega
        rw [this, List.getD_eq_getElem?_getD, List.getElem?_set_self hi]
        rfl
      · rw [if_neg (by simp [h1, h2]), List.getD_eq_getElem?_getD, List.getElem?_set_ne (by omega), ← List.getD_eq_getElem?_getD]
theorem fillc_list (cs T : List Int) (z : Int) (hT : ∀ c ∈ T, 0 ≤ c) : fillc cs T z = (List.range cs.length).map fun i => if ((i : Nat) : Int) ∈ T then z else cs.getD i 0 := by
  apply List.ext_getElem
  · rw [fillc_length]; simp
  · intro i h1 h2
    have hi : i < cs.length := by rw [fillc_length] at h1; exact h1
    have := fillc_get cs T z hT i hi
    rw [List.getD_eq_getElem?_getD, List.getElem?_eq_getElem h1] at this
    simp only [List.getElem_map, List.getElem_range]
    exact this
theorem in_ints (i : Int) (T : List Int) : inV (.int i) (zv T) = decide (i ∈ T) := by
  rw [Bool.eq_iff_iff, decide_eq_true_eq]
  unfold inV zv
  rw [List.any_map, List.any_eq_true]
  constructor
  · rintro ⟨c, hc, e⟩
    have : c = i := by simpa [Function.comp, eqV] using e
    exact this ▸ hc
  · intro h
    exact ⟨i, h, by simp [Function.comp, eqV]⟩
theorem zv_flatV (ns : List Int) : (zv ns).all flatV = true := by
  unfold zv
  rw [List.all_map, List.all_eq_true]
  intro l _
  rfl
end VG

set_option Elab.async false
set_option linter.all false
set_option maxRecDepth 100000
set_option maxHeartbeats 2000000
namespace VG
open PySem PySem.Spec PyProof.Rows L2
def sp_l_deed (a : Adr) : Sp := fun vs H Q _ => ∃ (p q K0 k0 r pl : Addr) (ps : List (Addr × Addr)) (w : Nat) (cs : List Int) (t plt : Addr) (pst : List (Addr × Addr)) (wt : Nat) (as : List Int) (n : Nat) (xs : List V) (last : Nat),
  vs = [.ref p, .ref q, .ref K0, .int (last : Int)] ∧ Wd a H p K0 k0 r pl ps w cs cs t plt pst wt as n ∧ n + 1000 ≤ 2 ^ 40 ∧ H q = some (.lst xs) ∧ ¬ WM r pl ps p K0 k0 q ∧ last < xs.length ∧ xs.length ≤ 100 ∧
  (∀ x ∈ xs, ∃ ls b ss, Look a H (WM r pl ps p K0 k0) x r cs.length ls b ss) ∧
  ∀ H' ps' cs' k0' to, Wd a H' p K0 k0' r pl ps' w cs' cs' t plt pst wt as (n + 20) → cs'.length = cs.length → Tr H (WM r pl ps p K0 k0) H' (WM r pl ps' p K0 k0') → to < xs.length → Q (.int ((to : Nat) : Int)) H'
theorem atI_z {cs : List Int} {c : Int} (h0 : 0 ≤ c) (h : c < cs.length) : atI (zv cs) c = some (V.int (cs.getD c.toNat 0)) := by
  obtain ⟨m, rfl⟩ := Int.eq_ofNat_of_zero_le h0
  have hm : m < cs.length := by omega
  rw [Int.toNat_natCast, List.getD_eq_getElem?_getD, List.getElem?_eq_getElem hm]
  exact atI_nat (zv_at (List.getElem?_eq_getElem hm))
theorem Wd.butk {a : Adr} {H H' : Hp} {p K0 k0 r pl t plt : Addr} {ps pst : List (Addr × Addr)} {w wt n : Nat} {cs ks as ks' : List Int} (W : Wd a H p K0 k0 r pl ps w cs ks t plt pst wt as n) (e : But k0 H H') (q : H' k0 = some (.lst (zv ks'))) : Wd a H' p K0 k0 r pl ps w cs ks' t plt pst wt as n := by
  obtain ⟨x, y, z, h1, h2⟩ := W.pu
  exact ⟨⟨x, y, z, e _ _ W.d2 h1, h2⟩, W.sys.but e (W.g1 k0 (.inr (.inr rfl))).1 (W.g1 k0 (.inr (.inr rfl))).2, e _ _ W.d3 W.hK, q, W.d1, W.d2, W.d3, W.g1⟩
theorem Tr.butk {H H' : Hp} {p K0 k0 r pl : Addr} {ps : List (Addr × Addr)} (e : But k0 H H') : Tr H (WM r pl ps p K0 k0) H' (WM r pl ps p K0 k0) := Tr.but e (.inr (.inr (.inr rfl)))
section
variable {P : Program} {w : World} {K : PySem.W.Frag} {mg : Str → Option Value} {base : Heap} {a : Adr}
theorem ok_l_deed (T : Tx K mg a) : FnOk P w K mg base CX0 9 a.l_deed a.fd_l_deed ["_law_purse_here", "_law_looks", "_law_kept", "_law_last"] (sp_l_deed a) := by
  have G_l_take := ok_l_take (P := P) (w := w) (base := base) T
  have G_l_number := ok_l_number (P := P) (w := w) (base := base) T
  have G_filled := ok_filled (P := P) (w := w) (base := base) T
  have G_View_put := ok_View_put (P := P) (w := w) (base := base) T
  have G_l_places := ok_l_places (P := P) (w := w) (base := base) T
  have G_l_unfit := ok_l_unfit (P := P) (w := w) (base := base) T
  have G_l_wide := ok_l_wide (P := P) (w := w) (base := base) T
  have G_l_walk := ok_l_walk (P := P) (w := w) (base := base) T
  have G_way_of := ok_way_of (P := P) (w := w) (base := base) T
  have G_written := ok_written (P := P) (w := w) (base := base) T
  refine T.F_l_deed.ok sc_l_deed (fun vs H Q E h => ?_) (fun cdv A outer s H vs Q E hr h => ?_)
  · obtain ⟨p, q, K0, k0, r, pl, ps, wd, cs, t, plt, pst, wt, as, n, xs, last, rfl, _⟩ := h
    rfl
  · obtain ⟨p, q, K0, k0, r, pl, ps, wd, cs, t, plt, pst, wt, as, n, xs, last, rfl, W0, hn, hq, gq, hlast, hxs, hlooks, k⟩ := h
    refine ⟨_, (pss_cons (ps_set (i := 4) sc_l_deed.nd rfl (Or.inl rfl) (pe_call G_l_take (hr.mono (by decide)) rfl T.m_l_take T.F_l_take.kp (b_l_take T) .nil pass0 (pa_cons (pv 0) (pa_cons (pe_callB call_len_seq (by rfl) T.n_len (by decide +kernel) (pa_cons (pv 1) pa_nil)) pa_nil))))
          (pss_cons (ps_par (i := 5) (j := 6) rfl sc_l_deed.nd rfl rfl (by decide) rfl rfl (pa_cons (pe_ix ix_list (pv 1) (pv 4) (fun _ _ => rfl)) (pa_cons (pe_call G_l_take (hr.mono (by decide)) rfl T.m_l_take T.F_l_take.kp (b_l_take T) .nil pass0 (pa_cons (pv 0) (pa_cons pe_int pa_nil))) pa_nil)) (by rfl))
          (pss_cons (ps_set (i := 7) sc_l_deed.nd rfl (Or.inr rfl) (pe_ix ix_tup (pv 5) pe_int (fun _ _ => rfl)))
          (pss_cons (ps_if (pt_cmpR op_eq (pv 6) pe_int (nomark _)) (pss_cons (ps_set (i := 8) sc_l_deed.nd rfl (Or.inr rfl) (pe_call G_l_number (hr.mono (by decide)) rfl T.m_l_number T.F_l_number.kp (b_l_number T) .nil pass0 (pa_cons (pv 0) pa_nil)))
          (pss_cons (ps_expr (pe_call G_filled (hr.mono (by decide)) rfl T.m_filled T.F_filled.kp (b_filled T) .nil pass0 (pa_cons (pe_ix ix_tup (pv 5) pe_int (fun _ _ => rfl)) (pa_cons (pv 8) pa_nil))))
          (pss_one (ps_asg (pe_lc (own := [("_law_cell", 12), ("_law_own", 13)]) rfl sc_l_deed.nd (pi_enum (by rfl) T.n_enumerate (pa_cons (pe_ix ix_list (pv 2) pe_int (fun _ _ => rfl)) pa_nil)) (blkOk_by (N := ["_law_purse_here", "_law_looks", "_law_kept", "_law_last", "_law_to", "_law_target", "_law_way", "_law_cells_here", "_law_number_here", "_law_spot", "_law_source_here", "_law_brought", "_law_cell", "_law_own"]) (sc := defScope s_l_deed) (own := [("_law_cell", 12), ("_law_own", 13)]) (by decide +kernel)) (fun _ _ _ _ _ => (show PG _ _ (gTup K 2 _) from pg_tup rfl (pgs_cons (pg_name (i := 12) sc_l_deed.nd rfl (Or.inl rfl)) (pgs_cons (pg_name (i := 13) sc_l_deed.nd rfl (Or.inl rfl)) pgs_nil)))) (fun _ _ _ _ _ => pts_nil) (fun _ _ _ _ _ => (pe_ifExp (pt_cmpR (show OpR _ _ (rIn K false) from op_in_seq) (pv 12) (pv 7) (by rfl)) (pv 8) (pv 13)))) (pg_sub (pv 2) pe_int set_list))))) pss_nil)
          (pss_cons (ps_if (PW.pt (pw_and (pt_cmpR op_eq (pv 6) pe_int (nomark _)) (pw_and1 (pt_cmpR (op_neD hr.units) (pv 7) (pe_lst pa_nil) (nomark _))))) (pss_cons (ps_set (i := 9) sc_l_deed.nd rfl (Or.inl rfl) (pe_call G_l_take (hr.mono (by decide)) rfl T.m_l_take T.F_l_take.kp (b_l_take T) .nil pass0 (pa_cons (pv 0) (pa_cons (pe_callB call_len_seq (by rfl) T.n_len (by decide +kernel) (pa_cons (pv 7) pa_nil)) pa_nil))))
          (pss_cons (ps_asg (pe_call G_l_number (hr.mono (by decide)) rfl T.m_l_number T.F_l_number.kp (b_l_number T) .nil pass0 (pa_cons (pv 0) pa_nil)) (pg_sub (pe_ix ix_list (pv 2) pe_int (fun _ _ => rfl)) (pe_ix ix_list (pv 7) (pv 9) (fun _ _ => rfl)) set_list))
          (pss_one (ps_expr (pe_meth (pe_ix ix_tup (pv 5) pe_int (fun _ _ => rfl)) T.cl_View T.me_View_put G_View_put (hr.mono (by decide)) (b_View_put T) .nil pass0 (pa_cons (pe_ix ix_list (pe_call G_l_places (hr.mono (by decide)) rfl T.m_l_places T.F_l_places.kp (b_l_places T) .nil pass0 (pa_cons (pe_ix ix_tup (pv 5) pe_int (fun _ _ => rfl)) pa_nil)) (pv 9) (fun _ _ => rfl)) (pa_cons (pe_ix ix_list (pe_ix ix_list (pv 2) pe_int (fun _ _ => rfl)) (pe_ix ix_list (pv 7) (pv 9) (fun _ _ => rfl)) (fun _ _ => rfl)) pa_nil))))))) pss_nil)
          (pss_cons (ps_set (i := 10) sc_l_deed.nd rfl (Or.inl rfl) (pe_ix ix_list (pv 1) (pe_ix ix_list (pe_lst (pa_cons (pv 3) (pa_cons (pe_call G_l_take (hr.mono (by decide)) rfl T.m_l_take T.F_l_take.kp (b_l_take T) .nil pass0 (pa_cons (pv 0) (pa_cons (pe_callB call_len_seq (by rfl) T.n_len (by decide +kernel) (pa_cons (pv 1) pa_nil)) pa_nil))) pa_nil))) (pe_call G_l_take (hr.mono (by decide)) rfl T.m_l_take T.F_l_take.kp (b_l_take T) .nil pass0 (pa_cons (pv 0) (pa_cons pe_int pa_nil))) (fun _ _ => rfl)) (fun _ _ => rfl)))
          (pss_cons (ps_if (PW.pt (pw_and (pt_cmpR op_gt (pv 6) pe_int (nomark _)) (pw_and (pt_cmpR op_eq (pe_lenSetG (by rfl) T.n_len (by rfl) T.n_set (pv 7)) (pe_callB call_len_seq (by rfl) T.n_len (by decide +kernel) (pa_cons (pv 7) pa_nil)) (nomark _)) (pw_and1 (pt_cmpR op_isN (pe_call G_l_unfit (hr.mono (by decide)) rfl T.m_l_unfit T.F_l_unfit.kp (b_l_unfit T) .nil pass0 (pa_cons (pe_ix ix_tup (pv 5) pe_int (fun _ _ => rfl)) (pa_cons (pe_ix ix_tup (pv 10) pe_int (fun _ _ => rfl)) pa_nil))) pe_non (nomark _)))))) (pss_cons (ps_setLc (i := 11) (own := [("_law_cell", 12)]) rfl sc_l_deed.nd rfl rfl (sw_true rfl rfl rfl (by decide +kernel)) (pi_list (pe_call G_l_wide (hr.mono (by decide)) rfl T.m_l_wide T.F_l_wide.kp (b_l_wide T) .nil pass0 (pa_cons (pe_ix ix_tup (pv 5) pe_int (fun _ _ => rfl)) (pa_cons (pe_ix ix_tup (pv 10) pe_int (fun _ _ => rfl)) (pa_cons (pe_ix ix_tup (pv 10) pe_int (fun _ _ => rfl)) pa_nil))))) (blkOk_by (N := ["_law_purse_here", "_law_looks", "_law_kept", "_law_last", "_law_to", "_law_target", "_law_way", "_law_cells_here", "_law_number_here", "_law_spot", "_law_source_here", "_law_brought", "_law_cell", "_law_own"]) (sc := defScope s_l_deed) (own := [("_law_cell", 12)]) (by decide +kernel)) (fun _ _ _ _ _ => (pg_name (i := 12) sc_l_deed.nd rfl (Or.inl rfl))) (fun _ _ _ _ _ => pts_nil) (fun _ _ _ _ _ => (pe_ix (r := rIxL K) ix_list (pe_ix (r := rIxL K) ix_list (pv 2) pe_int (fun _ _ => rfl)) (pv 12) (fun _ _ => rfl))))
          (pss_cons (ps_if (pt_cmpR op_eq (pv 6) pe_int (nomark _)) (pss_one (ps_expr (pe_call G_l_walk (hr.mono (by decide)) rfl T.m_l_walk T.F_l_walk.kp (b_l_walk T) .nil pass0 (pa_cons (pv 5) (pa_cons (pv 10) (pa_cons (pe_ix ix_tup (pe_call G_way_of (hr.mono (by decide)) rfl T.m_way_of T.F_way_of.kp (b_way_of T) .nil pass0 (pa_cons (pe_ix ix_tup (pv 5) pe_int (fun _ _ => rfl)) (pa_cons (pe_ix ix_tup (pv 10) pe_int (fun _ _ => rfl)) pa_nil))) pe_int (fun _ _ => rfl)) pa_nil)))))) (pss_one (ps_expr (pe_call G_written (hr.mono (by decide)) rfl T.m_written T.F_written.kp (b_written T) .nil pass0 (pa_cons (pe_ix ix_tup (pv 5) pe_int (fun _ _ => rfl)) (pa_cons (pe_ix ix_tup (pv 10) pe_int (fun _ _ => rfl)) pa_nil))))))
          (pss_one (ps_for PassesOwn.never rfl (pi_zip (by rfl) T.n_zip (pa_cons (pv 7) (pa_cons (pv 11) pa_nil))) (pg_tup rfl (pgs_cons (pg_name (i := 12) sc_l_deed.nd rfl (Or.inl rfl)) (pgs_cons (pg_name (i := 8) sc_l_deed.nd rfl (Or.inr rfl)) pgs_nil)))
            (pss_one (ps_asg (pv 8) (pg_sub (pe_ix ix_list (pv 2) pe_int (fun _ _ => rfl)) (pv 12) set_list))))))) pss_nil)
          (pss_one (ps_ret (pv 4)))))))))), ?_⟩
    have qp : q ≠ p := fun e => gq (.inr (.inl e))
    refine ⟨_, rfl, _, rfl, q, _, rfl, .inl (SqL.of hq), p, _, n, rfl, W0.pu, by omega, by omega, by omega, fun H1 d1 b1 p1 d10 d11 => ?_⟩
    have hq1 := b1 q _ qp hq
    obtain ⟨x1, hx1⟩ : ∃ x, xs[d1.toNat]? = some x := ⟨_, List.getElem?_eq_getElem (by omega)⟩
    have ed1 : d1 = ((d1.toNat : Nat) : Int) := (Int.toNat_of_nonneg d10).symm
    refine ⟨_, rfl, _, rfl, q, _, d1, _, rfl, rfl, SqL.of hq1, by rw [ed1]; exact atI_nat hx1, ?_⟩
    refine ⟨_, rfl, p, 5, _, rfl, p1, by omega, by decide, by decide, fun H2 way b2 p2 w0 w5 => ⟨_, _, rfl, ?_⟩⟩
    have b02 : But p H H2 := b1.trans b2
    have mp : WM r pl ps p K0 k0 p := .inr (.inl rfl)
    have T2 : Tr H (WM r pl ps p K0 k0) H2 (WM r pl ps p K0 k0) := Tr.but b02 mp
    have W2 := W0.but b02 p2
    obtain ⟨ls, b, ss, hl1⟩ := hlooks x1 (List.mem_of_getElem? hx1)
    have hl2 := hl1.tr W0.mut T2
    obtain ⟨t1, v1, tl1, cl1, rfl, ht1, hV1, htl1, hcl1, hO1, gcl1⟩ := id hl2
    refine stp (σ' := [_, _, _, _, _, _, _, _, _, _, _, _, _, _]) rfl ?_
    refine ⟨_, rfl, t1, _, 3, _, rfl, rfl, SqT.of ht1, rfl, ?_⟩
    refine stp (σ' := [_, _, _, _, _, _, _, _, _, _, _, _, _, _]) rfl ?_
    have hq2 := b2 q _ qp hq1
    refine ⟨_, rfl, rfl, _, rfl, ?_⟩
    by_cases hw0 : way = 0
    · subst hw0
      refine ifT rfl ⟨_, rfl, p, _, rfl, p2, by omega, fun H3 z b3 p3 => ?_⟩
      have W3 := W2.but b3 p3
      have T3 : Tr H2 (WM r pl ps p K0 k0) H3 (WM r pl ps p K0 k0) := Tr.but b3 mp
      obtain ⟨t1', v1', tl1', cl1', e1', ht3, hV3, htl3, hcl3, _, _⟩ := hl2.tr W2.mut T3
      obtain rfl : t1 = t1' := by injection e1'
      have ht3' := T3.1 t1 _ ht1 (W2.mut.tup _ _ ht1)
      have hV3' := hV1.move W2.mut T3.1
      have hcl3' := T3.1 cl1 _ hcl1 gcl1
      clear hV3 htl3 hcl3 ht3 e1'
      refine ⟨_, rfl, t1, _, 1, _, rfl, rfl, SqT.of ht3', rfl, _, rfl, ?_⟩
      refine ⟨v1, r, ls, _, _, pl, ps, wd, cs, t, plt, pst, wt, as, z, rfl, hV3', hO1.told, W3.sys, fun H4 ps4 S4 kg4 => ?_⟩
      rw [cells_told hO1.1] at S4
      have W4 := W3.kg kg4 S4
      have T4 : Tr H3 (WM r pl ps p K0 k0) H4 (WM r pl ps4 p K0 k0) := Tr.kg kg4
      have hcl4 := T4.1 cl1 _ hcl3' gcl1
      refine ⟨_, rfl, K0, _, 0, _, rfl, rfl, SqL.of W4.hK, rfl, k0, _, rfl, SqL.of W4.hk, fun D hD => ?_⟩
      have hbig := W0.sys.main.big
      refine lc_pure walk_enum (fun i => .int (if ((i : Nat) : Int) ∈ cells ls ss b then z else cs.getD i 0)) (by rw [zv_len]; omega) hD (fun H' e => SqL.of (e _ _ W4.hk)) ?_ ?_
      · rintro i x H5 H6 k' hi s5 ⟨T', y1, y2, rfl, hT, rfl, f1, f2⟩ hk'
        obtain rfl : y1 = .int (i : Nat) := (Option.some.inj f1).symm
        obtain ⟨u, hu, rfl⟩ := zv_get f2
        have hk2 := hk' _ (sm_new (o := .tup [.int (i : Nat), .int u]) hT)
        rw [getD_of hu] at hk2
        have hcl6 := (sm_new (o := .tup [.int (i : Nat), .int u]) hT) _ _ (s5 _ _ hcl4)
        refine g_pair ⟨rfl, ?_⟩
        refine ⟨_, rfl, _, rfl, cl1, _, rfl, .inl (SqL.of hcl6), rfl, zv_flatV _, _, rfl, ?_⟩
        show if inV (.int (i : Nat)) (zv (cells ls ss b)) = true then _ else _
        rw [in_ints]
        by_cases hin : ((i : Nat) : Int) ∈ cells ls ss b
        · rw [if_pos hin] at hk2
          exact ifT hin ⟨_, rfl, hk2⟩
        · rw [if_neg hin] at hk2
          exact ifF hin ⟨_, rfl, hk2⟩
      intro H5 s5 hD5
      rw [zv_len] at hD5
      have hD5' : H5 D = some (.lst (zv (fillc cs (cells ls ss b) z))) := by
        rw [hD5, fillc_list cs _ z (fun c hc => (hO1.2.2 c hc).1)]
        unfold zv
        rw [List.map_map]
        rfl
      have hK5 := s5 _ _ W4.hK
      refine ⟨_, rfl, K0, _, 0, 0, rfl, rfl, hK5, rfl, ?_⟩
      have W5 : Wd a (upd H5 K0 (.lst [.ref D])) p K0 D r pl ps4 wd (fillc cs (cells ls ss b) z) (fillc cs (cells ls ss b) z) t plt pst wt as (n + 1 + 1 + 2) := W4.newk s5 hD hD5'
      have T5 : Tr H4 (WM r pl ps4 p K0 k0) (upd H5 K0 (.lst [.ref D])) (WM r pl ps4 p K0 D) := Tr.newk s5 hD
      have T05 := ((T2.trans T3).trans T4).trans T5
      have hlen5 : (fillc cs (cells ls ss b) z).length = cs.length := fillc_length _ _ _
      show tSeq _ _ _ _ (upd H5 K0 (.lst [.ref D]))
      generalize upd H5 K0 (.lst [.ref D]) = H5 at W5 T05
      generalize fillc cs (cells ls ss b) z = cs5 at W5 hlen5
      refine stp (σ' := [_, _, _, _, _, _, _, _, _, _, _, _, _, _]) rfl ?_
      refine ⟨_, rfl, rfl, _, rfl, ifF (by decide) (iteF ?_)⟩
      have hway : ¬ ((0 : Int) > 1) := by decide
      have hq5 := T05.1 q _ hq gq
      refine ⟨_, rfl, _, rfl, _, rfl, _, rfl, q, _, rfl, .inl (SqL.of hq5), p, _, _, rfl, W5.pu, by omega, by omega, by omega, fun H6 d6 b6 p6 d60 d61 => ?_⟩
      refine ⟨by show 2 ≤ sizeLine; decide, fun l7 hl7 => ?_⟩
      have s7 := sm_new (o := .lst [.int (last : Int), .int d6]) hl7
      have W6 := W5.but b6 p6
      obtain ⟨zs6, hlp6⟩ := p6.lst
      have lp7 : l7 ≠ p := Ne.symm (ne_of_none hlp6 hl7)
      refine ⟨_, rfl, p, 2, _, rfl, p6.same s7, by omega, by decide, by decide, fun H8 d8 b8 p8 d80 d82 => ?_⟩
      obtain ⟨j, hj, hj2⟩ : ∃ j : Nat, atI [V.int (last : Int), .int d6] d8 = some (.int (j : Int)) ∧ j < xs.length := by
        have h : d8 = 0 ∨ d8 = 1 := by omega
        rcases h with e | e <;> subst e
        · exact ⟨last, rfl, hlast⟩
        · refine ⟨d6.toNat, ?_, by omega⟩
          rw [Int.toNat_of_nonneg d60]
          rfl
      have W8 := (W6.same s7).but b8 p8
      have mp5 : WM r pl ps4 p K0 D p := .inr (.inl rfl)
      have T08 := (T05.trans (Tr.but b6 mp5)).trans ((Tr.same s7).trans (Tr.but b8 mp5))
      have hq8 := T08.1 q _ hq gq
      refine ⟨l7, _, d8, _, rfl, rfl, SqL.of (b8 l7 _ lp7 upd_same), hj, q, _, (j : Int), _, rfl, rfl, SqL.of hq8, atI_nat (List.getElem?_eq_getElem hj2), ?_⟩
      refine ⟨_, rfl, _, _, rfl, rfl, _, rfl, ifF hway (iteF ⟨_, rfl, ?_⟩)⟩
      rw [ed1]
      exact k H8 _ _ _ d1.toNat (W8.mono (by omega)) hlen5 T08 (by omega)
    refine ifF (fun e => hw0 (by injection e)) ?_
    refine ⟨_, rfl, rfl, _, rfl, ?_⟩
    by_cases hw1 : way = 1
    · subst hw1
      refine ifT rfl ⟨_, rfl, Nat.zero_le _, fun e0 he0 => ne_ints (ys := []) ((sm_new he0) _ _ hcl1) upd_same ⟨_, rfl, ?_⟩⟩
      have s3 := sm_new (o := .lst []) he0
      by_cases hce : cells ls ss b = []
      · rw [hce]
        refine ifNF rfl ?_
        have W5 := W2.same s3
        have T05 := T2.trans (Tr.same (M := WM r pl ps p K0 k0) s3)
        have hlen5 : cs.length = cs.length := rfl
        generalize upd H2 e0 (.lst []) = H5 at W5 T05
        refine stp (σ' := [_, _, _, _, _, _, _, _, _, _, _, _, _, _]) rfl ?_
        have hway : ¬ ((1 : Int) > 1) := by decide
        have hq5 := T05.1 q _ hq gq
        refine ⟨_, rfl, _, rfl, _, rfl, _, rfl, q, _, rfl, .inl (SqL.of hq5), p, _, _, rfl, W5.pu, by omega, by omega, by omega, fun H6 d6 b6 p6 d60 d61 => ?_⟩
        refine ⟨by show 2 ≤ sizeLine; decide, fun l7 hl7 => ?_⟩
        have s7 := sm_new (o := .lst [.int (last : Int), .int d6]) hl7
        have W6 := W5.but b6 p6
        obtain ⟨zs6, hlp6⟩ := p6.lst
        have lp7 : l7 ≠ p := Ne.symm (ne_of_none hlp6 hl7)
        refine ⟨_, rfl, p, 2, _, rfl, p6.same s7, by omega, by decide, by decide, fun H8 d8 b8 p8 d80 d82 => ?_⟩
        obtain ⟨j, hj, hj2⟩ : ∃ j : Nat, atI [V.int (last : Int), .int d6] d8 = some (.int (j : Int)) ∧ j < xs.length := by
          have h : d8 = 0 ∨ d8 = 1 := by omega
          rcases h with e | e <;> subst e
          · exact ⟨last, rfl, hlast⟩
          · refine ⟨d6.toNat, ?_, by omega⟩
            rw [Int.toNat_of_nonneg d60]
            rfl
        have W8 := (W6.same s7).but b8 p8
        have mp5 : WM r pl ps p K0 k0 p := .inr (.inl rfl)
        have T08 := (T05.trans (Tr.but b6 mp5)).trans ((Tr.same s7).trans (Tr.but b8 mp5))
        have hq8 := T08.1 q _ hq gq
        refine ⟨l7, _, d8, _, rfl, rfl, SqL.of (b8 l7 _ lp7 upd_same), hj, q, _, (j : Int), _, rfl, rfl, SqL.of hq8, atI_nat (List.getElem?_eq_getElem hj2), ?_⟩
        refine ⟨_, rfl, _, _, rfl, rfl, _, rfl, ifF hway (iteF ⟨_, rfl, ?_⟩)⟩
        rw [ed1]
        exact k H8 _ _ _ d1.toNat (W8.mono (by omega)) hlen5 T08 (by omega)
      · refine ifNT hce ?_
        have W3 := W2.same s3
        have T3 := T2.trans (Tr.same (M := WM r pl ps p K0 k0) s3)
        have p3 := p2.same s3
        have hcl3 := s3 _ _ hcl1
        have ht3 := s3 _ _ ht1
        have htl3 := s3 _ _ htl1
        have hV3 := hV1.same s3
        generalize upd H2 e0 (.lst []) = H3 at W3 T3 p3 hcl3 ht3 htl3 hV3
        have hbig := hO1.big
        have hpos : 0 < (cells ls ss b).length := List.length_pos_iff.mpr hce
        refine ⟨_, rfl, _, rfl, cl1, _, rfl, .inl (SqL.of hcl3), p, _, _, rfl, p3, by omega, by rw [zv_len]; omega, by rw [zv_len]; omega, fun H4 d4 b4 p4 d40 d41 => ?_⟩
        rw [zv_len] at d41
        have ed4 : d4 = ((d4.toNat : Nat) : Int) := (Int.toNat_of_nonneg d40).symm
        obtain ⟨pl4, hpl4⟩ : ∃ pp, (places ls)[d4.toNat]? = some pp := ⟨_, List.getElem?_eq_getElem (by rw [places_length, ← cells_length b hO1.1]; omega)⟩
        obtain ⟨ip, ik, c, hc, hcn, hci⟩ := place_ok hO1 hpl4
        refine ⟨_, rfl, p, _, rfl, p4, by omega, fun H5 z b5 p5 => ?_⟩
        have b35 : But p H3 H5 := b4.trans b5
        have W5 := W3.but b35 p5
        have T35 : Tr H3 (WM r pl ps p K0 k0) H5 (WM r pl ps p K0 k0) := Tr.but b35 mp
        have hcl5 := T35.1 _ _ hcl3 gcl1
        have ht5 := T35.1 _ _ ht3 (W3.mut.tup _ _ ht3)
        have htl5 := T35.1 _ _ htl3 (W3.mut.tup _ _ htl3)
        have hV5 := hV3.move W3.mut T35.1
        refine ⟨_, rfl, K0, _, 0, _, rfl, rfl, SqL.of W5.hK, rfl, _, rfl, _, rfl, cl1, _, d4, _, rfl, rfl, SqL.of hcl5, by rw [ed4]; exact atI_nat (zv_at hci), ?_⟩
        refine ⟨k0, _, (c : Int), c, rfl, rfl, W5.hk, ixn_at (by rw [zv_len]; exact hcn), ?_⟩
        rw [zv_set cs c z]
        have W6 := W5.setk (cs.set c z)
        have T6 : Tr H5 (WM r pl ps p K0 k0) (upd H5 k0 (.lst (zv (cs.set c z)))) (WM r pl ps p K0 k0) := Tr.setk
        have hcl6 := T6.1 _ _ hcl5 gcl1
        have ht6 := T6.1 _ _ ht5 (W5.mut.tup _ _ ht5)
        have htl6 := T6.1 _ _ htl5 (W5.mut.tup _ _ htl5)
        have hV6 := hV5.move W5.mut T6.1
        generalize upd H5 k0 (.lst (zv (cs.set c z))) = H6 at W6 T6 hcl6 ht6 htl6 hV6
        obtain ⟨dx1, _, _, o1, _, _⟩ := id hV6
        refine ⟨_, rfl, t1, _, 1, _, rfl, rfl, SqT.of ht6, rfl, v1, dx1, _, rfl, o1, rfl, ?_⟩
        refine ⟨_, rfl, t1, _, 2, _, rfl, rfl, SqT.of ht6, rfl, tl1, ls, rfl, htl6, hO1.2.1, fun H7 qq xxs s7 fqq hqq tqq => ?_⟩
        obtain ⟨tp, hxp, htp⟩ := tqq.get hpl4
        refine ⟨_, rfl, qq, _, d4, _, rfl, rfl, SqL.of hqq, by rw [ed4]; exact atI_nat hxp, ?_⟩
        have W7 := W6.same s7
        have hzs : (zv (cs.set c z))[c]? = some (.int z) := zv_at (by rw [List.getElem?_set_self hcn])
        refine ⟨_, rfl, K0, _, 0, _, rfl, rfl, SqL.of W7.hK, rfl, _, rfl, _, rfl, cl1, _, d4, _, rfl, rfl, SqL.of (s7 _ _ hcl6), by rw [ed4]; exact atI_nat (zv_at hci), k0, _, (c : Int), _, rfl, rfl, SqL.of W7.hk, atI_nat hzs, ?_⟩
        have hcc : cellAt (tb ls b) (ts ls ss) pl4 = (c : Int) := by rw [cellAt_told hO1.1 (List.mem_of_getElem? hpl4)]; exact hc
        refine ⟨v1, r, tp, ls, _, _, pl4, pl, ps, wd, cs, t, plt, pst, wt, as, c, z, rfl, hV6.same s7, hO1.told.1, hO1.2.1.1, htp, ip, ik, W7.sys, hcc, hcn, fun H8 ps8 S8 kg8 => ?_⟩
        have W8 := W7.kg kg8 S8
        have T8 : Tr H7 (WM r pl ps p K0 k0) H8 (WM r pl ps8 p K0 k0) := Tr.kg kg8
        have T05 := (((T3.trans T35).trans T6).trans (Tr.same s7)).trans T8
        have hlen5 : (cs.set c z).length = cs.length := List.length_set
        generalize cs.set c z = cs5 at W8 hlen5
        have hway : ¬ ((1 : Int) > 1) := by decide
        have W5 := W8
        refine stp (σ' := [_, _, _, _, _, _, _, _, _, _, _, _, _, _]) rfl ?_
        have hq5 := T05.1 q _ hq gq
        refine ⟨_, rfl, _, rfl, _, rfl, _, rfl, q, _, rfl, .inl (SqL.of hq5), p, _, _, rfl, W5.pu, by omega, by omega, by omega, fun H6 d6 b6 p6 d60 d61 => ?_⟩
        refine ⟨by show 2 ≤ sizeLine; decide, fun l7 hl7 => ?_⟩
        have s7 := sm_new (o := .lst [.int (last : Int), .int d6]) hl7
        have W6 := W5.but b6 p6
        obtain ⟨zs6, hlp6⟩ := p6.lst
        have lp7 : l7 ≠ p := Ne.symm (ne_of_none hlp6 hl7)
        refine ⟨_, rfl, p, 2, _, rfl, p6.same s7, by omega, by decide, by decide, fun H8 d8 b8 p8 d80 d82 => ?_⟩
        obtain ⟨j, hj, hj2⟩ : ∃ j : Nat, atI [V.int (last : Int), .int d6] d8 = some (.int (j : Int)) ∧ j < xs.length := by
          have h : d8 = 0 ∨ d8 = 1 := by omega
          rcases h with e | e <;> subst e
          · exact ⟨last, rfl, hlast⟩
          · refine ⟨d6.toNat, ?_, by omega⟩
            rw [Int.toNat_of_nonneg d60]
            rfl
        have W8 := (W6.same s7).but b8 p8
        have mp5 : WM r pl ps8 p K0 k0 p := .inr (.inl rfl)
        have T08 := (T05.trans (Tr.but b6 mp5)).trans ((Tr.same s7).trans (Tr.but b8 mp5))
        have hq8 := T08.1 q _ hq gq
        refine ⟨l7, _, d8, _, rfl, rfl, SqL.of (b8 l7 _ lp7 upd_same), hj, q, _, (j : Int), _, rfl, rfl, SqL.of hq8, atI_nat (List.getElem?_eq_getElem hj2), ?_⟩
        refine ⟨_, rfl, _, _, rfl, rfl, _, rfl, ifF hway (iteF ⟨_, rfl, ?_⟩)⟩
        rw [ed1]
        exact k H8 _ _ _ d1.toNat (W8.mono (by omega)) hlen5 T08 (by omega)
    refine ifF (fun e => hw1 (by injection e)) (iteF ?_)
    have hgt : way > 1 := by omega
    refine stp (σ' := [_, _, _, _, _, _, _, _, _, _, _, _, _, _]) rfl ?_
    refine ⟨_, rfl, _, rfl, _, rfl, _, rfl, q, _, rfl, .inl (SqL.of hq2), p, _, _, rfl, W2.pu, by omega, by omega, by omega, fun H6 d6 b6 p6 d60 d61 => ?_⟩
    refine ⟨by show 2 ≤ sizeLine; decide, fun l7 hl7 => ?_⟩
    have s7 := sm_new (o := .lst [.int (last : Int), .int d6]) hl7
    have W6 := W2.but b6 p6
    obtain ⟨zs6, hlp6⟩ := p6.lst
    have lp7 : l7 ≠ p := Ne.symm (ne_of_none hlp6 hl7)
    refine ⟨_, rfl, p, 2, _, rfl, p6.same s7, by omega, by decide, by decide, fun H8 d8 b8 p8 d80 d82 => ?_⟩
    obtain ⟨j, hj, hj2⟩ : ∃ j : Nat, atI [V.int (last : Int), .int d6] d8 = some (.int (j : Int)) ∧ j < xs.length := by
      have h : d8 = 0 ∨ d8 = 1 := by omega
      rcases h with e | e <;> subst e
      · exact ⟨last, rfl, hlast⟩
      · refine ⟨d6.toNat, ?_, by omega⟩
        rw [Int.toNat_of_nonneg d60]
        rfl
    have W8 := (W6.same s7).but b8 p8
    have T28 : Tr H2 (WM r pl ps p K0 k0) H8 (WM r pl ps p K0 k0) := (Tr.but b6 mp).trans ((Tr.same s7).trans (Tr.but b8 mp))
    have T08 := T2.trans T28
    have hq8 := T08.1 q _ hq gq
    obtain ⟨x2, hx2⟩ : ∃ x, xs[j]? = some x := ⟨_, List.getElem?_eq_getElem hj2⟩
    refine ⟨l7, _, d8, _, rfl, rfl, SqL.of (b8 l7 _ lp7 upd_same), hj, q, _, (j : Int), _, rfl, rfl, SqL.of hq8, atI_nat hx2, ?_⟩
    obtain ⟨lo, b2', ss2, hlk2⟩ := hlooks x2 (List.mem_of_getElem? hx2)
    have hlk28 := hlk2.tr W0.mut T08
    have hlk18 := hl1.tr W0.mut T08
    obtain ⟨t2, v2, tl2, cl2, rfl, ht2, hV2, htl2, hcl2, hO2, gcl2⟩ := id hlk28
    have ht18 := T28.1 _ _ ht1 (W2.mut.tup _ _ ht1)
    have htl18 := T28.1 _ _ htl1 (W2.mut.tup _ _ htl1)
    have hcl18 := T28.1 _ _ hcl1 gcl1
    have hV18 := hV1.move W2.mut T28.1
    have h5 := hO1.2.1.1
    have h5' := hO2.2.1.1
    have hbig := hO1.big
    refine stp (σ' := [_, _, _, _, _, _, _, _, _, _, _, _, _, _]) rfl ?_
    refine ⟨_, rfl, _, _, rfl, rfl, _, rfl, ifT hgt ?_⟩
    refine ⟨_, rfl, cl1, cells ls ss b, rfl, SqL.of hcl18, by omega, fun m hm => ?_⟩
    refine ⟨_, rfl, cl1, _, rfl, .inl (SqL.of hcl18), rfl, _, rfl, ?_⟩
    by_cases hnd : (cells ls ss b).Nodup
    · have hm' := hm.mpr hnd
      subst hm'
      refine ifT (by rw [zv_len]) ?_
      refine ⟨_, rfl, t1, _, 2, _, rfl, rfl, SqT.of ht18, rfl, _, rfl, t2, _, 2, _, rfl, rfl, SqT.of ht2, rfl, tl1, tl2, ls, lo, rfl, htl18, htl2, h5, h5', fun H9 v s9 hv => ⟨rfl, _, rfl, ?_⟩⟩
      have W9 := W8.same s9
      have T09 := T08.trans (Tr.same s9)
      rcases hv with ⟨rfl, hF⟩ | ⟨tv, rfl⟩
      · refine ifT rfl ?_
        have hOw := hO2.wide hO1.2.1 hF
        have hbw := hOw.big
        have ht19 := s9 _ _ ht18
        have ht29 := s9 _ _ ht2
        refine ⟨_, rfl, t1, _, 2, _, rfl, rfl, SqT.of ht19, rfl, _, rfl, t2, _, 2, _, rfl, rfl, SqT.of ht29, rfl, _, rfl, t2, _, 3, _, rfl, rfl, SqT.of ht29, rfl, tl1, tl2, cl2, ls, lo, ss2, b2', rfl, s9 _ _ htl18, s9 _ _ htl2, s9 _ _ hcl2, hO1.2.1, hO2.1, hO2.2.1, hF, fun H10 lw s10 flw hlw => ⟨lw, rfl, ⟨_, SqL.of hlw⟩, fun D hD => ?_⟩⟩
        have W10 := W9.same s10
        refine lc_pure (walk_list (xs := zv (cells ls (wide ls lo ss2) b2'))) (fun i => .int (cs.getD ((cells ls (wide ls lo ss2) b2').getD i 0).toNat 0)) (by rw [zv_len]; omega) hD (fun H' e => SqL.of (e _ _ hlw)) ?_ ?_
        · rintro i x H11 H12 k' hi s11 ⟨rfl, hx⟩ hk'
          obtain ⟨c, hcc, rfl⟩ := zv_get hx
          have hc2 := hOw.2.2 c (List.mem_of_getElem? hcc)
          have W12 := W10.same s11
          have ec : c = ((c.toNat : Nat) : Int) := (Int.toNat_of_nonneg hc2.1).symm
          have hcl : c.toNat < cs.length := by omega
          have hk2 := hk' _ (Same.refl _)
          rw [getD_of hcc] at hk2
          exact ⟨rfl, _, rfl, K0, _, 0, _, rfl, rfl, SqL.of W12.hK, rfl, _, rfl, k0, _, c, _, rfl, rfl, SqL.of W12.hk, atI_z hc2.1 hc2.2, hk2⟩
        intro H11 s11 hD11
        rw [zv_len, rg_map (cells ls (wide ls lo ss2) b2') (fun c => V.int (cs.getD c.toNat 0)) 0] at hD11
        have hD11' : H11 D = some (.lst (zv (nums cs (cells ls (wide ls lo ss2) b2')))) := by
          rw [hD11]
          unfold nums zv
          rw [List.map_map]
          rfl
        have W11 := W10.same s11
        have s9_11 := s10.trans s11
        have T011 := T09.trans (Tr.same s9_11)
        have gD : ∀ c, c = p ∨ c = K0 ∨ c = k0 → D ≠ c := by
          intro c hc e
          obtain ⟨zs, hpl⟩ := W10.pu.lst
          rw [e] at hD
          rcases hc with z | z | z
          · rw [z, hpl] at hD; cases hD
          · rw [z, W10.hK] at hD; cases hD
          · rw [z, W10.hk] at hD; cases hD
        have gDg : ¬ guts r pl ps D := W10.sys.main.fresh hD
        have hlk111 := hlk18.same (s9.trans s9_11)
        have hlk211 := hlk28.same (s9.trans s9_11)
        have ht111 := s9_11 _ _ ht19
        have ht211 := s9_11 _ _ ht29
        have hV111 := hV18.same (s9.trans s9_11)
        have hV211 := hV2.same (s9.trans s9_11)
        have hcl111 := s9_11 _ _ (s9 _ _ hcl18)
        have eT := cells_told (b := b) hO1.1
        have eS := cells_wide_told (b := b2') hO2.1 hF
        have hndt : (cells ls (ts ls ss) (tb ls b)).Nodup := by rw [eT]; exact hnd
        have hOwt := hO2.wide_told hO1.2.1 hF
        have gp : ∀ c o, H11 c = some o → c = D ∨ c = cl1 → ∀ {ps' H'}, Kg r pl ps H11 H' ps' → H' c = some o := by
          intro c o e hc ps' H' kg
          refine kg.1 _ _ e ?_
          rcases hc with z | z
          · rw [z]; exact gDg
          · rw [z]; exact fun g => gcl1 (.inl g)
        have clk : cl1 ≠ k0 := fun e => gcl1 (.inr (.inr (.inr e)))
        have Dk : D ≠ k0 := gD k0 (.inr (.inr rfl))
        have hmin : (cells ls ss b).length = min (zv (cells ls ss b)).length (zv (nums cs (cells ls (wide ls lo ss2) b2'))).length := by
          rw [zv_len, zv_len, nums_length, cells_length b hO1.1, cells_length b2' hOw.1, Nat.min_self]
        refine stp (σ' := [_, _, _, _, _, _, _, _, _, _, _, _, _, _]) rfl ?_
        refine ⟨_, rfl, rfl, _, rfl, ?_⟩
        by_cases hw2 : way = 2
        · refine ifT (by rw [hw2]) ?_
          refine ⟨_, rfl, _, rfl, _, rfl, t1, _, 1, _, rfl, rfl, SqT.of ht111, rfl, _, rfl, t2, _, 1, _, rfl, rfl, SqT.of ht211, rfl, ?_⟩
          refine ⟨v1, v2, r, ls, _, _, lo, _, _, pl, ps, wd, cs, rfl, hV111, hO1.told, hV211, hO2.told.1, hF, hOwt, hndt, W11.sys.main, fun H12 tw sl oo sv gs ms rs s12 htw fsl hsl hst hG hM hR hcov => ?_⟩
          rw [eT, eS] at hG
          refine ⟨tw, _, 1, _, rfl, rfl, SqT.of htw, rfl, ?_⟩
          have hgl : gs.length ≤ 600 := by rw [hG.1]; exact hbig
          refine ⟨.ref t1, .ref t2, sl, r, pl, ps, wd, cs, t, plt, pst, wt, as, ls, b, ss, lo, b2', ss2, _, sv, plan ms rs, rfl, hlk111.same s12, hlk211.same s12, (W11.same s12).sys, hsl, W11.sys.main.fresh fsl, hst, plan_len hM hR hgl, hF, hands_plan ms rs, fun H13 ps13 S13 kg13 => ?_⟩
          rw [plan_run (room2_of hO1 hOw hnd) hG hM hR hcov] at S13
          have kgA := (Kg.of_same s12).trans kg13
          have W13 := W11.kg kgA S13
          have T013 := T011.trans (Tr.kg (p := p) (K0 := K0) (k0 := k0) kgA)
          have hcl13 := gp _ _ hcl111 (.inr rfl) kgA
          have hD13 := gp _ _ hD11' (.inl rfl) kgA
          refine stp (σ' := [_, _, _, _, _, _, _, _, _, _, _, _, _, _]) rfl ?_
          refine ⟨_, rfl, _, rfl, cl1, D, _, _, rfl, SqL.of hcl13, SqL.of hD13, for_it (walk_zip hmin) (fun i σ H' => (∃ v5 v6 v7 v8 v9 v10 v12 v13, σ = [some (.ref p), some (.ref q), some (.ref K0), some (.int (last : Int)), some (.int d1), v5, v6, v7, v8, v9, v10, some (.ref D), v12, v13]) ∧ But k0 H13 H' ∧ H' k0 = some (.lst (zv (putAll cs ((cells ls ss b).take i) ((nums cs (cells ls (wide ls lo ss2) b2')).take i)))))
            ⟨⟨_, _, _, _, _, _, _, _, rfl⟩, But.refl _ _, W13.hk⟩ (fun i σ H' _ z => ⟨SqL.of (z.2.1 _ _ clk hcl13), SqL.of (z.2.1 _ _ Dk hD13)⟩) ?_ ?_⟩
          · rintro i x σ H14 H15 hi ⟨⟨v5, v6, v7, v8, v9, v10, v12, v13, rfl⟩, b14, hk14⟩ ⟨T', y1, y2, rfl, hT, rfl, f1, f2⟩
            obtain ⟨c, hc, rfl⟩ := zv_get f1
            obtain ⟨u, hu, rfl⟩ := zv_get f2
            have hc2 := hO1.2.2 c (List.mem_of_getElem? hc)
            have ec : c = ((c.toNat : Nat) : Int) := (Int.toNat_of_nonneg hc2.1).symm
            have sT := sm_new (o := .tup [.int c, .int u]) hT
            have hK15 := sT _ _ (b14 _ _ W13.d3 W13.hK)
            have hk15 := sT _ _ hk14
            refine g_pair ?_
            refine ⟨_, rfl, _, rfl, K0, _, 0, _, rfl, rfl, SqL.of hK15, rfl, _, rfl, k0, _, c, c.toNat, rfl, rfl, hk15, by rw [ec]; exact ixn_at (by rw [zv_len, putAll_length]; omega), ?_⟩
            refine ⟨⟨_, _, _, _, _, _, _, _, rfl⟩, fun c' o nn e => by rw [upd_ne nn]; exact sT _ _ (b14 _ _ nn e), ?_⟩
            rw [upd_same, zv_set, putAll_take hc hu]
          · rintro σ H14 ⟨⟨v5, v6, v7, v8, v9, v10, v12, v13, rfl⟩, b14, hk14⟩
            have e1 : (cells ls ss b).take (cells ls ss b).length = cells ls ss b := List.take_length
            have e2 : (nums cs (cells ls (wide ls lo ss2) b2')).take (cells ls ss b).length = nums cs (cells ls (wide ls lo ss2) b2') := List.take_of_length_le (by rw [nums_length, cells_length b hO1.1, cells_length b2' hOw.1]; exact Nat.le_refl _)
            rw [e1, e2] at hk14
            have W14 := W13.butk b14 hk14
            refine ⟨_, rfl, ?_⟩
            rw [ed1]
            exact k H14 _ _ _ d1.toNat (W14.mono (by omega)) (putAll_length _ _ _) (T013.trans (Tr.butk b14)) (by omega)
        · refine ifF (fun e => hw2 (by injection e)) ?_
          refine ⟨_, rfl, t1, _, 1, _, rfl, rfl, SqT.of ht111, rfl, _, rfl, t2, _, 1, _, rfl, rfl, SqT.of ht211, rfl, ?_⟩
          refine ⟨v1, v2, r, ls, _, _, lo, _, _, pl, ps, wd, cs, t, plt, pst, wt, as, rfl, hV111, hO1.told, hV211, hO2.told.1, hF, hOwt, hndt, W11.sys, fun H13 ps13 S13 kg13 => ?_⟩
          rw [eT, eS] at S13
          have kgA := kg13
          have W13 := W11.kg kgA S13
          have T013 := T011.trans (Tr.kg (p := p) (K0 := K0) (k0 := k0) kgA)
          have hcl13 := gp _ _ hcl111 (.inr rfl) kgA
          have hD13 := gp _ _ hD11' (.inl rfl) kgA
          refine stp (σ' := [_, _, _, _, _, _, _, _, _, _, _, _, _, _]) rfl ?_
          refine ⟨_, rfl, _, rfl, cl1, D, _, _, rfl, SqL.of hcl13, SqL.of hD13, for_it (walk_zip hmin) (fun i σ H' => (∃ v5 v6 v7 v8 v9 v10 v12 v13, σ = [some (.ref p), some (.ref q), some (.ref K0), some (.int (last : Int)), some (.int d1), v5, v6, v7, v8, v9, v10, some (.ref D), v12, v13]) ∧ But k0 H13 H' ∧ H' k0 = some (.lst (zv (putAll cs ((cells ls ss b).take i) ((nums cs (cells ls (wide ls lo ss2) b2')).take i)))))
            ⟨⟨_, _, _, _, _, _, _, _, rfl⟩, But.refl _ _, W13.hk⟩ (fun i σ H' _ z => ⟨SqL.of (z.2.1 _ _ clk hcl13), SqL.of (z.2.1 _ _ Dk hD13)⟩) ?_ ?_⟩
          · rintro i x σ H14 H15 hi ⟨⟨v5, v6, v7, v8, v9, v10, v12, v13, rfl⟩, b14, hk14⟩ ⟨T', y1, y2, rfl, hT, rfl, f1, f2⟩
            obtain ⟨c, hc, rfl⟩ := zv_get f1
            obtain ⟨u, hu, rfl⟩ := zv_get f2
            have hc2 := hO1.2.2 c (List.mem_of_getElem? hc)
            have ec : c = ((c.toNat : Nat) : Int) := (Int.toNat_of_nonneg hc2.1).symm
            have sT := sm_new (o := .tup [.int c, .int u]) hT
            have hK15 := sT _ _ (b14 _ _ W13.d3 W13.hK)
            have hk15 := sT _ _ hk14
            refine g_pair ?_
            refine ⟨_, rfl, _, rfl, K0, _, 0, _, rfl, rfl, SqL.of hK15, rfl, _, rfl, k0, _, c, c.toNat, rfl, rfl, hk15, by rw [ec]; exact ixn_at (by rw [zv_len, putAll_length]; omega), ?_⟩
            refine ⟨⟨_, _, _, _, _, _, _, _, rfl⟩, fun c' o nn e => by rw [upd_ne nn]; exact sT _ _ (b14 _ _ nn e), ?_⟩
            rw [upd_same, zv_set, putAll_take hc hu]
          · rintro σ H14 ⟨⟨v5, v6, v7, v8, v9, v10, v12, v13, rfl⟩, b14, hk14⟩
            have e1 : (cells ls ss b).take (cells ls ss b).length = cells ls ss b := List.take_length
            have e2 : (nums cs (cells ls (wide ls lo ss2) b2')).take (cells ls ss b).length = nums cs (cells ls (wide ls lo ss2) b2') := List.take_of_length_le (by rw [nums_length, cells_length b hO1.1, cells_length b2' hOw.1]; exact Nat.le_refl _)
            rw [e1, e2] at hk14
            have W14 := W13.butk b14 hk14
            refine ⟨_, rfl, ?_⟩
            rw [ed1]
            exact k H14 _ _ _ d1.toNat (W14.mono (by omega)) (putAll_length _ _ _) (T013.trans (Tr.butk b14)) (by omega)
      · refine ifF (by nofun) ⟨_, rfl, ?_⟩
        rw [ed1]
        exact k H9 _ _ _ d1.toNat (W9.mono (by omega)) rfl T09 (by omega)
    · refine ifF (fun e => hnd (hm.mp ?_)) (iteF ⟨_, rfl, ?_⟩)
      · rw [zv_len] at e
        injection e with e
        omega
      · rw [ed1]
        exact k H8 _ _ _ d1.toNat (W8.mono (by omega)) rfl T08 (by omega)
end
end VG

set_option Elab.async false
set_option linter.all false
set_option maxRecDepth 100000
set_option maxHeartbeats 2000000
namespace VG
open PySem PySem.Spec PyProof.Rows L2
def sp_law (K : PySem.W.Frag) : Sp := fun vs H Q _ => ∃ (s : Addr) (ns : List Int), vs = [.ref s] ∧ SqL K H s (zv ns) ∧ ns.length ≤ 63 ∧ ∀ H', Q (.bl true) H'
/-- two names from a tuple -/
theorem g_two {K : PySem.W.Frag} {i j : Nat} {x y : V} {T : Addr} {H : Hp} {σ : St} {Q : St → Hp → Prop} (hT : H T = some (.tup [x, y])) (h : Q ((σ.set i (some x)).set j (some y)) H) :
    gTup K 2 (gCons (gName i) (gCons (gName j) gNil)) (.ref T) σ H Q :=
  ⟨T, [x, y], rfl, SqT.of hT, rfl, x, [y], rfl, y, [], rfl, rfl, h⟩
/-- what the twin shows, and the list it is held against -/
def Tw (a : Adr) (H : Hp) (M : Addr → Prop) (t : Addr) (as : List Int) (tv : V) (A : Addr) : Prop := ¬ M A ∧ ((tv = .ref t ∧ H A = some (.lst (zv as))) ∨ ∃ (v : Addr) (ls : List Nat) (b : Int) (ss : List Int), tv = .ref v ∧ ViewAt a H v t ls b ss ∧ VOk as.length ls b ss ∧ H A = some (.lst (zv (nums as (cells ls ss b)))))
theorem Tw.tr {a : Adr} {H H' : Hp} {M M' : Addr → Prop} {t : Addr} {as : List Int} {tv : V} {A : Addr} (h : Tw a H M t as tv A) (mo : MutOk a H M) (e : Tr H M H' M') : Tw a H' M' t as tv A := by
  obtain ⟨g, h⟩ := h
  rcases h with ⟨h1, h2⟩ | ⟨v, ls, b, ss, h1, h2, h3, h4⟩
  · exact ⟨e.2 _ _ h2 g, .inl ⟨h1, e.1 _ _ h2 g⟩⟩
  · exact ⟨e.2 _ _ h4 g, .inr ⟨v, ls, b, ss, h1, h2.move mo e.1, h3, e.1 _ _ h4 g⟩⟩
section
variable {a : Adr} {H H' : Hp} {p K0 k0 r pl t plt t' plt' : Addr} {ps pst : List (Addr × Addr)} {w wt n : Nat} {cs ks as : List Int}
/-- a new twin -/
theorem Wd.twin (W : Wd a H p K0 k0 r pl ps w cs ks t plt pst wt as n) (k : Kg r pl ps H H' ps) (S : Sys a H' r pl ps w cs t' plt' ps w cs) (f1 : H t' = none) (f2 : H plt' = none) : Wd a H' p K0 k0 r pl ps w cs ks t' plt' ps w cs n := by
  obtain ⟨x, y, z, h1, h2⟩ := W.pu
  have key : ∀ c o, (c = p ∨ c = K0 ∨ c = k0) → H c = some o → H' c = some o ∧ ¬ guts r pl ps c := fun c o h e => k.keep e (W.g1 c h).1
  have g2 : ∀ c o, (c = p ∨ c = K0 ∨ c = k0) → H c = some o → ¬ guts t' plt' ps c := by
    intro c o hc e g
    rcases g with q | q | q
    · rw [q, f1] at e; cases e
    · rw [q, f2] at e; cases e
    · exact (W.g1 c hc).1 (.inr (.inr q))
  refine ⟨⟨x, y, z, (key p _ (.inl rfl) h1).1, h2⟩, S, (key _ _ (.inr (.inl rfl)) W.hK).1, (key _ _ (.inr (.inr rfl)) W.hk).1, W.d1, W.d2, W.d3, fun c hc => ⟨(W.g1 c hc).1, ?_⟩⟩
  rcases hc with e | e | e
  · exact e ▸ g2 p _ (.inl rfl) h1
  · exact e ▸ g2 K0 _ (.inr (.inl rfl)) W.hK
  · exact e ▸ g2 k0 _ (.inr (.inr rfl)) W.hk
end
section
variable {P : Program} {w : World} {K : PySem.W.Frag} {mg : Str → Option Value} {base : Heap} {a : Adr}
theorem ok_law (T : Tx K mg a) : FnOk P w K mg base CX0 10 a.law a.fd_law ["_law_script"] (sp_law K) := by
  have G_l_purse := ok_l_purse (P := P) (w := w) (base := base) T
  have G_l_over := ok_l_over (P := P) (w := w) (base := base) T
  have G_l_take := ok_l_take (P := P) (w := w) (base := base) T
  have G_l_more := ok_l_more (P := P) (w := w) (base := base) T
  have G_Room_numbers := ok_Room_numbers (P := P) (w := w) (base := base) T
  have G_Room_twin := ok_Room_twin (P := P) (w := w) (base := base) T
  have G_View_twin := ok_View_twin (P := P) (w := w) (base := base) T
  have G_l_deed := ok_l_deed (P := P) (w := w) (base := base) T
  have G_View_numbers := ok_View_numbers (P := P) (w := w) (base := base) T
  refine T.F_law.ok sc_law (fun vs H Q E h => ?_) (fun cdv A outer s H vs Q E hr h => ?_)
  · obtain ⟨s, ns, rfl, _⟩ := h
    rfl
  · obtain ⟨s, ns, rfl, hs, hns, k⟩ := h
    refine ⟨_, (pss_cons (ps_for PassesOwn.never rfl (pi_range1 (by rfl) T.n_range (pa_cons (pe_callB (call_max2 rfl) (by rfl) T.n_max (by decide +kernel) (pa_cons pe_int (pa_cons (pe_callB (call_min2 rfl) (by rfl) T.n_min (by decide +kernel) (pa_cons pe_int (pa_cons (pe_callB call_len_seq (by rfl) T.n_len (by decide +kernel) (pa_cons (pv 0) pa_nil)) pa_nil))) pa_nil))) pa_nil)) (pg_name (i := 1) sc_law.nd rfl (Or.inl rfl))
            (pss_cons (ps_set (i := 2) sc_law.nd rfl (Or.inl rfl) (pe_call G_l_purse (hr.mono (by decide)) rfl T.m_l_purse T.F_l_purse.kp (b_l_purse T) .nil pass0 (pa_cons (pv 0) (pa_cons (pv 1) pa_nil))))
          (pss_cons (ps_set (i := 3) sc_law.nd rfl (Or.inl rfl) (pe_call G_l_over (hr.mono (by decide)) rfl T.m_l_over T.F_l_over.kp (b_l_over T) .nil pass0 (pa_cons (pv 2) (pa_cons pe_int (pa_cons pe_bl pa_nil)))))
          (pss_cons (ps_set (i := 4) sc_law.nd rfl (Or.inl rfl) (pe_ix ix_tup (pe_ix ix_list (pv 3) pe_int (fun _ _ => rfl)) pe_int (fun _ _ => rfl)))
          (pss_cons (ps_for PassesOwn.never rfl (pi_range1 (by rfl) T.n_range (pa_cons (pe_call G_l_take (hr.mono (by decide)) rfl T.m_l_take T.F_l_take.kp (b_l_take T) .nil pass0 (pa_cons (pv 2) (pa_cons pe_int pa_nil))) pa_nil)) (pg_name (i := 5) sc_law.nd rfl (Or.inl rfl))
            (pss_one (ps_set (i := 3) sc_law.nd rfl (Or.inl rfl) (pe_op op_cat (pv 3) (pe_lst (pa_cons (pe_call G_l_more (hr.mono (by decide)) rfl T.m_l_more T.F_l_more.kp (b_l_more T) .nil pass0 (pa_cons (pv 2) (pa_cons (pv 4) (pa_cons pe_int pa_nil)))) pa_nil))))))
          (pss_cons (ps_asg (pe_tup (pa_cons (pe_lst (pa_cons (pe_meth0 (pv 4) T.cl_Room T.me_Room_numbers G_Room_numbers (hr.mono (by decide)) (b_Room_numbers T) .nil pass0) pa_nil)) (pa_cons pe_int pa_nil))) (pg_tup rfl (pgs_cons (pg_name (i := 6) sc_law.nd rfl (Or.inr rfl)) (pgs_cons (pg_name (i := 7) sc_law.nd rfl (Or.inl rfl)) pgs_nil))))
          (pss_cons (ps_set (i := 8) sc_law.nd rfl (Or.inl rfl) (pe_call G_l_take (hr.mono (by decide)) rfl T.m_l_take T.F_l_take.kp (b_l_take T) .nil pass0 (pa_cons (pv 2) (pa_cons pe_int pa_nil))))
          (pss_cons (ps_set (i := 9) sc_law.nd rfl (Or.inl rfl) (pe_call G_l_take (hr.mono (by decide)) rfl T.m_l_take T.F_l_take.kp (b_l_take T) .nil pass0 (pa_cons (pv 2) (pa_cons (pe_op op_add (pv 8) pe_int) pa_nil))))
          (pss_cons (ps_par (i := 10) (j := 11) rfl sc_law.nd rfl rfl (by decide) rfl rfl (pa_cons (pe_meth0 (pv 4) T.cl_Room T.me_Room_twin G_Room_twin (hr.mono (by decide)) (b_Room_twin T) .nil pass0) (pa_cons (pe_callTy call_list_of (by rfl) T.n_list (by decide +kernel) (pa_cons (pe_ix ix_list (pv 6) pe_int (fun _ _ => rfl)) pa_nil)) pa_nil)) (by rfl))
          (pss_cons (ps_for PassesOwn.never rfl (pi_range1 (by rfl) T.n_range (pa_cons (pv 8) pa_nil)) (pg_name (i := 5) sc_law.nd rfl (Or.inl rfl))
            (pss_cons (ps_if (pt_cmpR op_eq (pv 5) (pv 9) (nomark _)) (pss_one (ps_par (i := 10) (j := 11) rfl sc_law.nd rfl rfl (by decide) rfl rfl (pa_cons (pe_meth0 (pe_ix ix_tup (pe_ix ix_list (pv 3) pe_int (fun _ _ => rfl)) pe_int (fun _ _ => rfl)) T.cl_View T.me_View_twin G_View_twin (hr.mono (by decide)) (b_View_twin T) .nil pass0) (pa_cons (pe_lc (own := [("_law_cell", 13)]) rfl sc_law.nd (pi_list (pe_ix ix_tup (pe_ix ix_list (pv 3) pe_int (fun _ _ => rfl)) pe_int (fun _ _ => rfl))) (blkOk_by (N := ["_law_script", "_law_k", "_law_purse_here", "_law_looks", "_law_room_here", "_law_turn", "_law_kept", "_law_last", "_law_turns", "_law_moment", "_law_twin", "_law_ahead", "_law_look_here", "_law_cell"]) (sc := defScope s_law) (own := [("_law_cell", 13)]) (by decide +kernel)) (fun _ _ _ _ _ => (pg_name (i := 13) sc_law.nd rfl (Or.inl rfl))) (fun _ _ _ _ _ => pts_nil) (fun _ _ _ _ _ => (pe_ix (r := rIxL K) ix_list (pe_ix (r := rIxL K) ix_list (pv 6) pe_int (fun _ _ => rfl)) (pv 13) (fun _ _ => rfl)))) pa_nil)) (by rfl))) pss_nil)
          (pss_cons (ps_set (i := 7) sc_law.nd rfl (Or.inl rfl) (pe_call G_l_deed (hr.mono (by decide)) rfl T.m_l_deed T.F_l_deed.kp (b_l_deed T) .nil pass0 (pa_cons (pv 2) (pa_cons (pv 3) (pa_cons (pv 6) (pa_cons (pv 7) pa_nil))))))
          (pss_one (ps_if (pt_cmpR op_gt (pe_call G_l_take (hr.mono (by decide)) rfl T.m_l_take T.F_l_take.kp (b_l_take T) .nil pass0 (pa_cons (pv 2) (pa_cons pe_int pa_nil))) pe_int (nomark _)) (pss_one (ps_for PassesOwn.never rfl (pi_list (pv 3)) (pg_name (i := 12) sc_law.nd rfl (Or.inl rfl))
            (pss_one (ps_if (pt_cmpR (op_neD hr.units) (pe_meth0 (pe_ix ix_tup (pv 12) pe_int (fun _ _ => rfl)) T.cl_View T.me_View_numbers G_View_numbers (hr.mono (by decide)) (b_View_numbers T) .nil pass0) (pe_lc (own := [("_law_cell", 13)]) rfl sc_law.nd (pi_list (pe_ix ix_tup (pv 12) pe_int (fun _ _ => rfl))) (blkOk_by (N := ["_law_script", "_law_k", "_law_purse_here", "_law_looks", "_law_room_here", "_law_turn", "_law_kept", "_law_last", "_law_turns", "_law_moment", "_law_twin", "_law_ahead", "_law_look_here", "_law_cell"]) (sc := defScope s_law) (own := [("_law_cell", 13)]) (by decide +kernel)) (fun _ _ _ _ _ => (pg_name (i := 13) sc_law.nd rfl (Or.inl rfl))) (fun _ _ _ _ _ => pts_nil) (fun _ _ _ _ _ => (pe_ix (r := rIxL K) ix_list (pe_ix (r := rIxL K) ix_list (pv 6) pe_int (fun _ _ => rfl)) (pv 13) (fun _ _ => rfl)))) (nomark _)) (pss_one (ps_ret pe_bl)) pss_nil)))) pss_nil)))))
          (pss_one (ps_if (PW.pt (pw_or (pt_cmpR (op_neD hr.units) (pe_meth0 (pv 4) T.cl_Room T.me_Room_numbers G_Room_numbers (hr.mono (by decide)) (b_Room_numbers T) .nil pass0) (pe_ix ix_list (pv 6) pe_int (fun _ _ => rfl)) (nomark _)) (pw_or1 (pt_cmpR (op_neD hr.units) (pe_or2 (pe_meth0 (pv 10) T.cl_Room T.me_Room_numbers G_Room_numbers (hr.mono (by decide)) (b_Room_numbers T) .nil pass0) (pe_meth0 (pv 10) T.cl_View T.me_View_numbers G_View_numbers (hr.mono (by decide)) (b_View_numbers T) .nil pass0)) (pv 11) (nomark _))))) (pss_one (ps_ret pe_bl)) pss_nil))))))))))))
          (pss_one (ps_ret pe_bl))), ?_⟩
    obtain ⟨turns0, hturns0, hturns1⟩ : ∃ m : Nat, (if (if ((zv ns).length : Int) < 3 then ((zv ns).length : Int) else 3) > 1 then (if ((zv ns).length : Int) < 3 then ((zv ns).length : Int) else 3) else 1) = (m : Int) ∧ m ≤ 3 := by
      refine ⟨(if (if ((zv ns).length : Int) < 3 then ((zv ns).length : Int) else 3) > 1 then (if ((zv ns).length : Int) < 3 then ((zv ns).length : Int) else 3) else 1).toNat, ?_, ?_⟩ <;> (repeat' split) <;> omega
    refine ⟨_, rfl, s, _, rfl, .inl hs, _, _, rfl, _, _, rfl, (turns0 : Int), by rw [← hturns0], by omega, by omega, ?_⟩
    rw [Int.toNat_natCast]
    refine for_it walk_range (fun i σ H' => Same H H' ∧ ∃ v1 v2 v3 v4 v5 v6 v7 v8 v9 v10 v11 v12, σ = [some (.ref s), v1, v2, v3, v4, v5, v6, v7, v8, v9, v10, v11, v12, none]) ⟨Same.refl H, none, none, none, none, none, none, none, none, none, none, none, none, rfl⟩ (fun _ _ _ _ _ => trivial) ?_ ?_
    · rintro i x σ H0 H0' hi ⟨sH, v1, v2, v3, v4, v5, v6, v7, v8, v9, v10, v11, v12, rfl⟩ ⟨rfl, rfl⟩
      have hs0 := sH.seq hs
      have ei : ((0 : Int) + (i : Nat)) = ((i : Nat) : Int) := by omega
      refine ⟨_, rfl, _, rfl, s, ns, i, by rw [← ei]; rfl, hs0, by omega, by omega, fun H1 p s1 fp p1 => ?_⟩
      refine stp (σ' := [_, _, _, _, _, _, _, _, _, _, _, _, _, _]) rfl ?_
      have p1l : ∃ zs, H1 p = some (.lst zs) := p1.lst
      refine ⟨_, rfl, p, 0, rfl, p1, by omega, fun H2 q0 x1 x2 r pl ps wd cs b2 p2 fq0 hq0 R2 hg2 hgp hgq hc1 hlk2 => ?_⟩
      refine stp (σ' := [_, _, _, _, _, _, _, _, _, _, _, _, _, _]) rfl ?_
      obtain ⟨ls1, b1, ss1, hl1⟩ := hlk2 x1 (.inl rfl)
      obtain ⟨t1, v1', tl1, cl1, rfl, ht1, _, _, _, _, _⟩ := id hl1
      refine ⟨_, rfl, q0, _, 0, _, rfl, rfl, SqL.of hq0, rfl, t1, _, 0, _, rfl, rfl, SqT.of ht1, rfl, ?_⟩
      refine stp (σ' := [_, _, _, _, _, _, _, _, _, _, _, _, _, _]) rfl ?_
      obtain ⟨zs2, hlp2⟩ := p2.lst
      have qp0 : q0 ≠ p := fun e => by
        obtain ⟨zs, e1⟩ := p1l
        rw [e, e1] at fq0
        cases fq0
      refine ⟨_, rfl, p, 4, _, rfl, p2, by omega, by decide, by decide, fun H3 d3 b3 p3 d30 d34 => ⟨_, rfl, by omega, by omega, ?_⟩⟩
      have mR : RM r pl ps p p := .inr rfl
      have R3 := R2.but b3 hgp
      have mo2 := RM.ok R2 hlp2
      obtain ⟨zs3, hlp3⟩ := p3.lst
      have mo3 := RM.ok R3 hlp3
      -- more looks
      refine for_it walk_range (fun i2 σ H' => (∃ (q : Addr) (xs : List V) (v5' : Option V), σ = [some (.ref s), some (.int (0 + ((i : Nat) : Int))), some (.ref p), some (.ref q), some (.ref r), v5', v6, v7, v8, v9, v10, v11, v12, none] ∧ H' q = some (.lst xs) ∧ xs.length = 2 + i2 ∧ ¬ RM r pl ps p q ∧ (∀ x ∈ xs, ∃ ls b ss, Look a H' (RM r pl ps p) x r cs.length ls b ss) ∧ ∃ y ys, xs = y :: ys) ∧ But p H3 H' ∧ Pu H' p (0 + 70000 + 1 + 200 * i2))
        ⟨⟨q0, _, v5, rfl, b3 _ _ qp0 hq0, rfl, fun g => g.elim hgq qp0, ?_, _, _, rfl⟩, But.refl _ _, p3⟩ (fun _ _ _ _ _ => trivial) ?_ ?_
      · intro x hx
        have hx' : x = .ref t1 ∨ x = x2 := by simpa using hx
        obtain ⟨ls, b, ss, hl⟩ := hlk2 x hx'
        exact ⟨ls, b, ss, hl.tr mo2 (Tr.but b3 mR)⟩
      · rintro i2 x σ H4 H4' hi2 ⟨⟨q, xs, v5', rfl, hq, hxl, gq, hlk, y, ys, rfl⟩, b4, p4⟩ ⟨rfl, rfl⟩
        have R4 := R3.but b4 hgp
        obtain ⟨zs4, hlp4⟩ := p4.lst
        have mo4 := RM.ok R4 hlp4
        refine ⟨_, rfl, _, rfl, _, rfl, p, r, pl, _, ps, wd, cs, rfl, p4, by omega, R4, hgp, hc1, fun H5 x ls b ss b5 p5 hl5 => ?_⟩
        refine ⟨by show 1 ≤ sizeLine; decide, fun l hl => ?_⟩
        have qp : q ≠ p := fun e => gq (.inr e)
        have s6 := sm_new (o := .lst [x]) hl
        have hq6 := s6 _ _ (b5 _ _ qp hq)
        refine ⟨q, l, _, _, rfl, rfl, hq6, upd_same, big (by simp at hxl ⊢; omega), fun q' hq' => ?_⟩
        have s7 := sm_new (o := .lst (y :: ys ++ [x])) hq'
        have R6 := (R4.but b5 hgp).same s6
        have T45 : Tr H4' (RM r pl ps p) (upd (upd H5 l (.lst [x])) q' (.lst (y :: ys ++ [x]))) (RM r pl ps p) := (Tr.but b5 mR).trans (Tr.same (s6.trans s7))
        refine ⟨⟨q', _, _, rfl, upd_same, by simp at hxl ⊢; omega, ?_, ?_, y, ys ++ [x], rfl⟩, fun c o nn e => s7 _ _ (s6 _ _ (b5 _ _ nn (b4 _ _ nn e))), ((p5.same s6).same s7).mono (by omega)⟩
        · rintro (g | g)
          · exact R6.fresh hq' g
          · obtain ⟨zs5, hlp5⟩ := p5.lst
            rw [g, s6 _ _ hlp5] at hq'
            cases hq'
        · intro z hz
          rcases List.mem_append.mp hz with e | e
          · obtain ⟨ls', b', ss', hl'⟩ := hlk z e
            exact ⟨ls', b', ss', hl'.tr mo4 T45⟩
          · have : z = x := by simpa using e
            rw [this]
            exact ⟨ls, b, ss, (hl5.same s6).same s7⟩
      rintro σ H4 ⟨⟨q, xs, v5', rfl, hq, hxl, gq, hlk, y, ys, rfl⟩, b4, p4⟩
      have R4 := R3.but b4 hgp
      have p4' : Pu H4 p 80000 := p4.mono (by omega)
      clear p4
      obtain ⟨zs4, hlp4⟩ := p4'.lst
      have mo4 := RM.ok R4 hlp4
      obtain ⟨dr4, cp4, ho4⟩ := R4.ob
      have hbig := R4.big
      have hxl5 : (y :: ys).length ≤ 50 := by omega
      -- the kept list
      refine ⟨_, rfl, r, dr4, _, rfl, ho4, rfl, r, pl, ps, wd, cs, rfl, R4, fun H5 k0 s5 fk0 hk0 => ⟨by show 1 ≤ sizeLine; decide, fun K0 hK0 => ⟨by show 2 ≤ sizeLine; decide, fun tt htt => g_two upd_same ?_⟩⟩⟩
      have s6 := sm_new (o := .lst [.ref k0]) hK0
      have s7 := sm_new (o := .tup [.ref K0, .int 0]) htt
      have s47 := s5.trans (s6.trans s7)
      have fK0 : H4 K0 = none := s5.free hK0
      have hK7 : upd (upd H5 K0 (.lst [.ref k0])) tt (.tup [.ref K0, .int 0]) K0 = some (.lst [.ref k0]) := s7 _ _ upd_same
      have hk7 : upd (upd H5 K0 (.lst [.ref k0])) tt (.tup [.ref K0, .int 0]) k0 = some (.lst (zv cs)) := s7 _ _ (s6 _ _ hk0)
      have Kk : K0 ≠ k0 := fun e => by rw [e, hk0] at hK0; cases hK0
      have pK : p ≠ K0 := fun e => by rw [← e, hlp4] at fK0; cases fK0
      have pk : p ≠ k0 := fun e => by rw [← e, hlp4] at fk0; cases fk0
      have gK : ¬ guts r pl ps K0 := R4.fresh fK0
      have gk : ¬ guts r pl ps k0 := R4.fresh fk0
      generalize upd (upd H5 K0 (.lst [.ref k0])) tt (.tup [.ref K0, .int 0]) = H7 at s47 hK7 hk7
      refine stp (σ' := [_, _, _, _, _, _, _, _, _, _, _, _, _, _]) rfl ?_
      have p7 := p4'.same s47
      refine ⟨_, rfl, p, 31, _, rfl, p7, by omega, by decide, by decide, fun H8 turns b8 p8 t0 t31 => ?_⟩
      refine ⟨_, rfl, _, rfl, _, _, rfl, rfl, p, _, _, rfl, p8, by omega, by omega, by omega, fun H9 moment b9 p9 m0 m1 => ?_⟩
      have b79 : But p H7 H9 := b8.trans b9
      have R9 := (R4.same s47).but b79 hgp
      have hK9 := b79 _ _ (Ne.symm pK) hK7
      have hk9 := b79 _ _ (Ne.symm pk) hk7
      obtain ⟨dr9, cp9, ho9⟩ := R9.ob
      refine stp (σ' := [_, _, _, _, _, _, _, _, _, _, _, _, _, _]) rfl ?_
      refine ⟨_, rfl, r, dr9, _, rfl, ho9, rfl, r, pl, ps, wd, cs, rfl, R9, fun H10 t plt S10 kg10 ft fplt => ?_⟩
      obtain ⟨zs9, hlp9⟩ := p9.lst
      have hK10 := kg10.1 _ _ hK9 gK
      have hk10 := kg10.1 _ _ hk9 gk
      refine ⟨_, rfl, K0, _, 0, _, rfl, rfl, SqL.of hK10, rfl, k0, _, rfl, .inl (SqL.of hk10), fun A0 hA0 => ⟨_, _, rfl, ?_⟩⟩
      have sA := sm_new (o := .lst (zv cs)) hA0
      have W10 : Wd a H10 p K0 k0 r pl ps wd cs cs t plt ps wd cs 90000 := by
        obtain ⟨x, y, z, g1, g2⟩ := p9.mono (show 80000 + 1 + 1 ≤ 90000 by decide)
        have gt : ∀ c o, H9 c = some o → ¬ guts r pl ps c → ¬ guts t plt ps c := by
          intro c o e g g'
          rcases g' with z | z | z
          · rw [z, ft] at e; cases e
          · rw [z, fplt] at e; cases e
          · exact g (.inr (.inr z))
        refine ⟨⟨x, y, z, kg10.1 _ _ g1 hgp, g2⟩, S10, hK10, hk10, pK, pk, Kk, fun c hc => ?_⟩
        rcases hc with e | e | e
        · rw [e]; exact ⟨hgp, gt _ _ g1 hgp⟩
        · rw [e]; exact ⟨gK, gt _ _ hK9 gK⟩
        · rw [e]; exact ⟨gk, gt _ _ hk9 gk⟩
      have W11 := W10.same sA
      -- from what stood before the purse
      have keep : ∀ b o, H0' b = some o → upd H10 A0 (.lst (zv cs)) b = some o ∧ ¬ WM r pl ps p K0 k0 b := by
        intro b o e
        have bp : b ≠ p := ne_of_none e fp
        have e1 := s1 _ _ e
        have gb : ¬ guts r pl ps b := fun g => by
          have := hg2 b g
          rw [e1] at this
          cases this
        have e4 := b4 _ _ bp (b3 _ _ bp (b2 _ _ bp e1))
        refine ⟨sA _ _ (kg10.1 _ _ (b79 _ _ bp (s47 _ _ e4)) gb), ?_⟩
        rintro (g | g | g | g)
        · exact gb g
        · exact bp g
        · rw [g, fK0] at e4; cases e4
        · rw [g, fk0] at e4; cases e4
      -- the looks, the list of looks
      have T411 : ∀ b o, H4 b = some o → ¬ RM r pl ps p b → upd H10 A0 (.lst (zv cs)) b = some o ∧ ¬ WM r pl ps p K0 k0 b := by
        intro b o e gb
        have bp : b ≠ p := fun q => gb (.inr q)
        refine ⟨sA _ _ (kg10.1 _ _ (b79 _ _ bp (s47 _ _ e)) fun g => gb (.inl g)), ?_⟩
        rintro (g | g | g | g)
        · exact gb (.inl g)
        · exact bp g
        · rw [g, fK0] at e; cases e
        · rw [g, fk0] at e; cases e
      have hlk11 : ∀ x ∈ y :: ys, ∃ ls b ss, Look a (upd H10 A0 (.lst (zv cs))) (WM r pl ps p K0 k0) x r cs.length ls b ss := by
        intro x hx
        obtain ⟨ls, b, ss, hl⟩ := hlk x hx
        exact ⟨ls, b, ss, hl.move mo4 (fun b o e g => (T411 b o e g).1) fun b o e g => (T411 b o e g).2⟩
      have hq11 := (T411 q _ hq gq).1
      have gq11 := (T411 q _ hq gq).2
      have hTw : Tw a (upd H10 A0 (.lst (zv cs))) (WM r pl ps p K0 k0) t cs (.ref t) A0 := by
        refine ⟨?_, .inl ⟨rfl, upd_same⟩⟩
        rintro (g | g | g | g)
        · exact W10.sys.main.fresh hA0 g
        · obtain ⟨zs, e⟩ := W10.pu.lst
          rw [g, e] at hA0; cases hA0
        · rw [g, hK10] at hA0; cases hA0
        · rw [g, hk10] at hA0; cases hA0
      generalize upd H10 A0 (.lst (zv cs)) = H11 at W11 keep hlk11 hq11 gq11 hTw
      refine stp (σ' := [_, _, _, _, _, _, _, _, _, _, _, _, _, _]) rfl ?_
      have hturns : (turns.toNat : Int) = turns := Int.toNat_of_nonneg t0
      refine ⟨_, rfl, _, rfl, by omega, by omega, ?_⟩
      refine for_it walk_range (fun i2 σ H' => ∃ (tv : V) (A k0' : Addr) (ps' : List (Addr × Addr)) (cs' : List Int) (t' plt' : Addr) (pst' : List (Addr × Addr)) (wt' : Nat) (as' : List Int) (last : Nat) (v5 v12 : Option V), σ = [some (.ref s), some (.int (0 + ((i : Nat) : Int))), some (.ref p), some (.ref q), some (.ref r), v5, some (.ref K0), some (.int (last : Int)), some (.int turns), some (.int moment), some tv, some (.ref A), v12, none] ∧
        Wd a H' p K0 k0' r pl ps' wd cs' cs' t' plt' pst' wt' as' (90000 + 100 * i2) ∧ cs'.length = cs.length ∧ Tr H11 (WM r pl ps p K0 k0) H' (WM r pl ps' p K0 k0') ∧ Tw a H' (WM r pl ps' p K0 k0') t' as' tv A ∧ last < (y :: ys).length)
        ⟨.ref t, A0, k0, ps, cs, t, plt, ps, wd, cs, 0, _, _, rfl, W11, rfl, Tr.refl _ _, hTw, by simp⟩ (fun _ _ _ _ _ => trivial) ?_ ?_
      · rintro i2 x σ Ha Hb hi2 ⟨tv, A, k0', ps', cs', t', plt', pst', wt', as', last, v5'', v12'', rfl, Wa, hla, Ta, hTwa, hlast⟩ ⟨rfl, rfl⟩
        have hi31 : i2 < 31 := by omega
        obtain ⟨ls, b, ss, hly⟩ := hlk11 y (by simp)
        have hlya := hly.tr W11.mut Ta
        have hqa := Ta.1 q _ hq11 gq11
        refine stp (σ' := [_, _, _, _, _, _, _, _, _, _, _, _, _, _]) rfl ?_
        refine ⟨_, rfl, _, rfl, rfl, _, rfl, ?_⟩
        by_cases hmom : ((0 : Int) + (i2 : Nat)) = moment
        · refine ifT (by rw [← hmom]) ?_
          obtain ⟨ty, vy, tly, cly, rfl, hty, hVy, htly, hcly, hOy, gcly⟩ := id hlya
          rw [← hla] at hOy
          obtain ⟨dvy, _, _, oy, _, _⟩ := id hVy
          refine ⟨_, rfl, q, _, 0, _, rfl, rfl, SqL.of hqa, atI_nat (j := 0) rfl, ty, _, 1, _, rfl, rfl, SqT.of hty, rfl, vy, dvy, _, rfl, oy, rfl, ?_⟩
          refine ⟨vy, r, ls, _, _, pl, ps', wd, cs', rfl, hVy, hOy.told.1, hOy.2.1, Wa.sys.main, fun Hc t'' plt'' v'' Sc kgc ftc fpc Vc => ?_⟩
          have Wc := Wa.twin kgc Sc ftc fpc
          have Tc := Ta.trans (Tr.kg (p := p) (K0 := K0) (k0 := k0') kgc)
          have hqc := Tc.1 q _ hq11 gq11
          have htyc := kgc.1 _ _ hty (Wa.sys.main.no_tup hty)
          have hclc := kgc.1 _ _ hcly fun g => gcly (.inl g)
          have hbigc := hOy.big
          refine ⟨_, rfl, q, _, 0, _, rfl, rfl, SqL.of hqc, atI_nat (j := 0) rfl, ty, _, 3, _, rfl, rfl, SqT.of htyc, rfl, cly, rfl, ⟨_, SqL.of hclc⟩, fun D hD => ?_⟩
          refine lc_pure (walk_list (xs := zv (cells ls ss b))) (fun j => .int (cs'.getD ((cells ls ss b).getD j 0).toNat 0)) (by rw [zv_len]; omega) hD (fun H' e => SqL.of (e _ _ hclc)) ?_ ?_
          · rintro j x He Hf k' hj se ⟨rfl, hx⟩ hk'
            obtain ⟨c, hcc, rfl⟩ := zv_get hx
            have hc2 := hOy.2.2 c (List.mem_of_getElem? hcc)
            have Wf := Wc.same se
            have hk2 := hk' _ (Same.refl _)
            rw [getD_of hcc] at hk2
            exact ⟨rfl, _, rfl, K0, _, 0, _, rfl, rfl, SqL.of Wf.hK, rfl, _, rfl, k0', _, c, _, rfl, rfl, SqL.of Wf.hk, atI_z hc2.1 hc2.2, hk2⟩
          intro Hd sd hDd
          rw [zv_len, rg_map (cells ls ss b) (fun c => V.int (cs'.getD c.toNat 0)) 0] at hDd
          have hDd' : Hd D = some (.lst (zv (nums cs' (cells ls ss b)))) := by
            rw [hDd]
            unfold nums zv
            rw [List.map_map]
            rfl
          refine ⟨_, _, rfl, ?_⟩
          refine stp (σ' := [_, _, _, _, _, _, _, _, _, _, _, _, _, _]) rfl ?_
          have W5 := Wc.same sd
          have T5 := Tc.trans (Tr.same (M := WM r pl ps' p K0 k0') sd)
          have hTw5 : Tw a Hd (WM r pl ps' p K0 k0') t'' cs' (.ref v'') D := by
            refine ⟨?_, .inr ⟨v'', ls, _, _, rfl, Vc.same sd, hOy.told.told, ?_⟩⟩
            · rintro (g | g | g | g)
              · exact Wc.sys.main.fresh hD g
              · obtain ⟨zs, e⟩ := Wc.pu.lst
                rw [g, e] at hD; cases hD
              · rw [g, Wc.hK] at hD; cases hD
              · rw [g, Wc.hk] at hD; cases hD
            · rw [cells_told hOy.told.1, cells_told hOy.1]
              exact hDd'
          obtain ⟨v5n, hv5n⟩ : ∃ z : Option V, z = some (.int (0 + ((i2 : Nat) : Int))) := ⟨_, rfl⟩
          have hlk5 : ∀ x ∈ V.ref ty :: ys, ∃ ls b ss, Look a Hd (WM r pl ps' p K0 k0') x r cs'.length ls b ss := by
            intro x hx
            obtain ⟨ls, b, ss, hl⟩ := hlk11 x hx
            rw [hla]
            exact ⟨ls, b, ss, hl.tr W11.mut T5⟩
          have hq5 := T5.1 q _ hq11 gq11
          have gq5 := T5.2 q _ hq11 gq11
          refine ⟨_, rfl, _, rfl, _, rfl, _, rfl, p, q, K0, k0', r, pl, ps', wd, cs', _, _, _, _, _, _, V.ref ty :: ys, last, rfl, W5, by omega, hq5, gq5, hlast, by omega, hlk5, fun H6 ps6 cs6 k06 to W6 hl6 T6 hto => ?_⟩
          have hTw6 := hTw5.tr W5.mut T6
          have T06 := T5.trans T6
          have hlen6 : cs6.length = cs.length := by omega
          refine stp (σ' := [_, _, _, _, _, _, _, _, _, _, _, _, _, _]) rfl ?_
          refine ⟨_, rfl, p, 4, _, rfl, W6.pu, by omega, by decide, by decide, fun H7' d7 b7 p7' d70 d74 => ⟨_, _, rfl, rfl, _, rfl, ?_⟩⟩
          have W7 := (W6.but b7 p7').mono (show 90000 + 100 * i2 + 20 + 1 ≤ 90000 + 100 * (i2 + 1) by omega)
          have mp6 : WM r pl ps6 p K0 k06 p := .inr (.inl rfl)
          have T67 : Tr H6 (WM r pl ps6 p K0 k06) H7' (WM r pl ps6 p K0 k06) := Tr.but b7 mp6
          have T07 := T06.trans T67
          have hTw7 := hTw6.tr W6.mut T67
          by_cases hd7 : d7 > 0
          · refine ifT hd7 ?_
            have hq7 := T07.1 q _ hq11 gq11
            refine ⟨_, rfl, q, rfl, ⟨_, SqL.of hq7⟩, for_it (walk_list (xs := V.ref ty :: ys)) (fun i3 σ H' => Same H7' H' ∧ ∃ v12 : Option V, σ = [some (.ref s), some (.int (0 + ((i : Nat) : Int))), some (.ref p), some (.ref q), some (.ref r), some (.int (0 + ((i2 : Nat) : Int))), some (.ref K0), some (.int (to : Int)), some (.int turns), some (.int moment), _, _, v12, none]) ⟨Same.refl _, _, rfl⟩ (fun i3 σ H' _ z => SqL.of (z.1 _ _ hq7)) ?_ ?_⟩
            · rintro i3 x σ H8 H8' hi3 ⟨s8, v12, rfl⟩ ⟨rfl, hx⟩
              obtain ⟨lsx, bx, ssx, hlx⟩ := hlk11 x (List.mem_of_getElem? hx)
              obtain ⟨tx, vx, tlx, clx, rfl, htx, hVx, htlx, hclx, hOx, gclx⟩ := (hlx.tr W11.mut T07).same s8
              rw [← hlen6] at hOx
              have W8 := W7.same s8
              obtain ⟨dvx, _, _, ox, _, _⟩ := id hVx
              have hbx := hOx.big
              refine ⟨_, rfl, tx, _, 1, _, rfl, rfl, SqT.of htx, rfl, vx, dvx, _, rfl, ox, rfl, vx, r, lsx, _, _, pl, ps6, wd, cs6, rfl, hVx, hOx.told.1, hOx.2.1, W8.sys.main, hOx.told.2.2, fun H9' l9 s9 fl9 hl9 => ?_⟩
              rw [cells_told hOx.1] at hl9
              refine ⟨_, rfl, tx, _, 3, _, rfl, rfl, SqT.of (s9 _ _ htx), rfl, clx, rfl, ⟨_, SqL.of (s9 _ _ hclx)⟩, fun D9 hD9 => ?_⟩
              refine lc_pure (walk_list (xs := zv (cells lsx ssx bx))) (fun j => .int (cs6.getD ((cells lsx ssx bx).getD j 0).toNat 0)) (by rw [zv_len]; omega) hD9 (fun H' e => SqL.of (e _ _ (s9 _ _ hclx))) ?_ ?_
              · rintro j x He Hf k' hj se ⟨rfl, hx⟩ hk'
                obtain ⟨c, hcc, rfl⟩ := zv_get hx
                have hc2 := hOx.2.2 c (List.mem_of_getElem? hcc)
                have Wf := (W8.same s9).same se
                have hk2 := hk' _ (Same.refl _)
                rw [getD_of hcc] at hk2
                exact ⟨rfl, _, rfl, K0, _, 0, _, rfl, rfl, SqL.of Wf.hK, rfl, _, rfl, k06, _, c, _, rfl, rfl, SqL.of Wf.hk, atI_z hc2.1 hc2.2, hk2⟩
              intro Hg sg hDg
              rw [zv_len, rg_map (cells lsx ssx bx) (fun c => V.int (cs6.getD c.toNat 0)) 0] at hDg
              have hDg' : Hg D9 = some (.lst (zv (nums cs6 (cells lsx ssx bx)))) := by
                rw [hDg]
                unfold nums zv
                rw [List.map_map]
                rfl
              exact ne_ints (sg _ _ hl9) hDg' ⟨_, rfl, ifNF rfl ⟨s8.trans (s9.trans sg), _, rfl⟩⟩
            · rintro σ H8 ⟨s8, v12, rfl⟩
              exact ⟨_, _, k06, ps6, cs6, _, _, _, _, _, to, _, _, rfl, W7.same s8, hlen6, T07.trans (Tr.same s8), hTw7.tr W7.mut (Tr.same s8), hto⟩
          · refine ifF hd7 ?_
            exact ⟨_, _, k06, ps6, cs6, _, _, _, _, _, to, _, _, rfl, W7, hlen6, T07, hTw7, hto⟩
        · refine ifF (fun e => hmom (by injection e)) ?_
          refine stp (σ' := [_, _, _, _, _, _, _, _, _, _, _, _, _, _]) rfl ?_
          have W5 := Wa
          have T5 := Ta
          have hTw5 := hTwa
          have hlk5 : ∀ x ∈ y :: ys, ∃ ls b ss, Look a Hb (WM r pl ps' p K0 k0') x r cs'.length ls b ss := by
            intro x hx
            obtain ⟨ls, b, ss, hl⟩ := hlk11 x hx
            rw [hla]
            exact ⟨ls, b, ss, hl.tr W11.mut T5⟩
          have hq5 := T5.1 q _ hq11 gq11
          have gq5 := T5.2 q _ hq11 gq11
          refine ⟨_, rfl, _, rfl, _, rfl, _, rfl, p, q, K0, k0', r, pl, ps', wd, cs', _, _, _, _, _, _, y :: ys, last, rfl, W5, by omega, hq5, gq5, hlast, by omega, hlk5, fun H6 ps6 cs6 k06 to W6 hl6 T6 hto => ?_⟩
          have hTw6 := hTw5.tr W5.mut T6
          have T06 := T5.trans T6
          have hlen6 : cs6.length = cs.length := by omega
          refine stp (σ' := [_, _, _, _, _, _, _, _, _, _, _, _, _, _]) rfl ?_
          refine ⟨_, rfl, p, 4, _, rfl, W6.pu, by omega, by decide, by decide, fun H7' d7 b7 p7' d70 d74 => ⟨_, _, rfl, rfl, _, rfl, ?_⟩⟩
          have W7 := (W6.but b7 p7').mono (show 90000 + 100 * i2 + 20 + 1 ≤ 90000 + 100 * (i2 + 1) by omega)
          have mp6 : WM r pl ps6 p K0 k06 p := .inr (.inl rfl)
          have T67 : Tr H6 (WM r pl ps6 p K0 k06) H7' (WM r pl ps6 p K0 k06) := Tr.but b7 mp6
          have T07 := T06.trans T67
          have hTw7 := hTw6.tr W6.mut T67
          by_cases hd7 : d7 > 0
          · refine ifT hd7 ?_
            have hq7 := T07.1 q _ hq11 gq11
            refine ⟨_, rfl, q, rfl, ⟨_, SqL.of hq7⟩, for_it (walk_list (xs := y :: ys)) (fun i3 σ H' => Same H7' H' ∧ ∃ v12 : Option V, σ = [some (.ref s), some (.int (0 + ((i : Nat) : Int))), some (.ref p), some (.ref q), some (.ref r), some (.int (0 + ((i2 : Nat) : Int))), some (.ref K0), some (.int (to : Int)), some (.int turns), some (.int moment), _, _, v12, none]) ⟨Same.refl _, _, rfl⟩ (fun i3 σ H' _ z => SqL.of (z.1 _ _ hq7)) ?_ ?_⟩
            · rintro i3 x σ H8 H8' hi3 ⟨s8, v12, rfl⟩ ⟨rfl, hx⟩
              obtain ⟨lsx, bx, ssx, hlx⟩ := hlk11 x (List.mem_of_getElem? hx)
              obtain ⟨tx, vx, tlx, clx, rfl, htx, hVx, htlx, hclx, hOx, gclx⟩ := (hlx.tr W11.mut T07).same s8
              rw [← hlen6] at hOx
              have W8 := W7.same s8
              obtain ⟨dvx, _, _, ox, _, _⟩ := id hVx
              have hbx := hOx.big
              refine ⟨_, rfl, tx, _, 1, _, rfl, rfl, SqT.of htx, rfl, vx, dvx, _, rfl, ox, rfl, vx, r, lsx, _, _, pl, ps6, wd, cs6, rfl, hVx, hOx.told.1, hOx.2.1, W8.sys.main, hOx.told.2.2, fun H9' l9 s9 fl9 hl9 => ?_⟩
              rw [cells_told hOx.1] at hl9
              refine ⟨_, rfl, tx, _, 3, _, rfl, rfl, SqT.of (s9 _ _ htx), rfl, clx, rfl, ⟨_, SqL.of (s9 _ _ hclx)⟩, fun D9 hD9 => ?_⟩
              refine lc_pure (walk_list (xs := zv (cells lsx ssx bx))) (fun j => .int (cs6.getD ((cells lsx ssx bx).getD j 0).toNat 0)) (by rw [zv_len]; omega) hD9 (fun H' e => SqL.of (e _ _ (s9 _ _ hclx))) ?_ ?_
              · rintro j x He Hf k' hj se ⟨rfl, hx⟩ hk'
                obtain ⟨c, hcc, rfl⟩ := zv_get hx
                have hc2 := hOx.2.2 c (List.mem_of_getElem? hcc)
                have Wf := (W8.same s9).same se
                have hk2 := hk' _ (Same.refl _)
                rw [getD_of hcc] at hk2
                exact ⟨rfl, _, rfl, K0, _, 0, _, rfl, rfl, SqL.of Wf.hK, rfl, _, rfl, k06, _, c, _, rfl, rfl, SqL.of Wf.hk, atI_z hc2.1 hc2.2, hk2⟩
              intro Hg sg hDg
              rw [zv_len, rg_map (cells lsx ssx bx) (fun c => V.int (cs6.getD c.toNat 0)) 0] at hDg
              have hDg' : Hg D9 = some (.lst (zv (nums cs6 (cells lsx ssx bx)))) := by
                rw [hDg]
                unfold nums zv
                rw [List.map_map]
                rfl
              exact ne_ints (sg _ _ hl9) hDg' ⟨_, rfl, ifNF rfl ⟨s8.trans (s9.trans sg), _, rfl⟩⟩
            · rintro σ H8 ⟨s8, v12, rfl⟩
              exact ⟨_, _, k06, ps6, cs6, _, _, _, _, _, to, _, _, rfl, W7.same s8, hlen6, T07.trans (Tr.same s8), hTw7.tr W7.mut (Tr.same s8), hto⟩
          · refine ifF hd7 ?_
            exact ⟨_, _, k06, ps6, cs6, _, _, _, _, _, to, _, _, rfl, W7, hlen6, T07, hTw7, hto⟩
      rintro σ Hz ⟨tv, A, k0', ps', cs', t', plt', pst', wt', as', last, v5'', v12'', rfl, Wz, hlz, Tz, hTwz, hlastz⟩
      refine stp (σ' := [_, _, _, _, _, _, _, _, _, _, _, _, _, _]) rfl ?_
      obtain ⟨drz, cpz, hoz⟩ := Wz.sys.main.ob
      obtain ⟨dtz, ctz, htz⟩ := Wz.sys.twin.ob
      refine ⟨_, rfl, r, drz, _, rfl, hoz, rfl, r, pl, ps', wd, cs', rfl, Wz.sys.main, fun Hy l1 sy fl1 hl1 => ?_⟩
      refine ⟨_, rfl, K0, _, 0, _, rfl, rfl, SqL.of (sy _ _ Wz.hK), rfl, ne_ints hl1 (sy _ _ Wz.hk) ⟨_, rfl, ifNF rfl ?_⟩⟩
      have Wy := Wz.same sy
      obtain ⟨gA, hTwz⟩ := hTwz
      have fin : ∀ Hw, Same Hy Hw → Same H Hw := by
        intro Hw sw b o e
        have e0 := sH b o e
        have e1 := keep b o e0
        exact sw _ _ (sy _ _ (Tz.1 b o e1.1 e1.2))
      rcases hTwz with ⟨rfl, hA⟩ | ⟨v, ls, b, ss, rfl, hV, hO, hA⟩
      · refine .inl ⟨_, rfl, t', dtz, _, rfl, sy _ _ htz, rfl, t', plt', pst', wt', as', rfl, Wy.sys.twin, fun Hx l2 sx fl2 hl2 => ?_⟩
        exact ⟨_, rfl, ne_ints hl2 (sx _ _ (sy _ _ hA)) ⟨_, rfl, ifNF rfl ⟨fin _ sx, _, _, _, _, _, _, _, _, _, _, _, _, rfl⟩⟩⟩
      · obtain ⟨dv, _, _, ov', _, _⟩ := id hV
        refine .inr ⟨_, rfl, v, dv, _, rfl, sy _ _ ov', rfl, v, t', ls, b, ss, plt', pst', wt', as', rfl, hV.same sy, hO.1, hO.2.1, Wy.sys.twin, hO.2.2, fun Hx l2 sx fl2 hl2 => ?_⟩
        exact ⟨_, rfl, ne_ints hl2 (sx _ _ (sy _ _ hA)) ⟨_, rfl, ifNF rfl ⟨fin _ sx, _, _, _, _, _, _, _, _, _, _, _, _, rfl⟩⟩⟩
    · rintro σ H1 ⟨sH, v1, v2, v3, v4, v5, v6, v7, v8, v9, v10, v11, v12, rfl⟩
      exact k H1
end
end VG

set_option Elab.async false
set_option linter.all false
set_option maxRecDepth 100000
set_option maxHeartbeats 4000000
namespace VG
open PySem PySem.Spec PyProof.Rows L2
theorem all_mk {l : PySem.W.OpenLaw} {w : World} {K : PySem.W.Frag} {h : Heap} {mg : Str → Option Value} {fa Page Room View T0 Tr Dr Tv Dv NR f_is_whole f_size_of f_vet_size f_vet_sides f_places_of f_whole_place f_dense_strides f_Page_init f_Room_init f_Room_len f_Room_need f_Room_read f_Room_own_page f_Room_write f_Room_numbers f_Room_twin f_Room_is_shut f_vet_strides f_cells_by f_vet_cells f_View_init f_View_tell f_View_room f_View_sides f_View_first f_View_strides f_View_cells f_View_cell f_View_at f_View_put f_View_numbers f_View_twin f_plain_view f_wide_stride f_widened f_twice_in f_need_unlike f_need_open f_written f_filled f_readers f_moved_first f_rings_left f_way_of f_l_purse f_l_take f_l_places f_l_cells f_l_lengths f_l_number f_l_steps f_l_reach f_l_room f_l_unlike_steps f_l_source f_l_over f_l_wide f_l_unfit f_l_more f_l_walk f_l_deed f_law : Addr} (X : K.In h) (G : h.Ns mainGlobals mg) (hfa : mg "law" = some (.ref fa))
    {od_is_whole an_is_whole od_size_of an_size_of od_vet_size an_vet_size od_vet_sides an_vet_sides od_places_of an_places_of od_whole_place an_whole_place od_dense_strides an_dense_strides od_Page_init an_Page_init od_Room_init an_Room_init od_Room_len an_Room_len od_Room_need an_Room_need od_Room_read an_Room_read od_Room_own_page an_Room_own_page od_Room_write an_Room_write od_Room_numbers an_Room_numbers od_Room_twin an_Room_twin od_Room_is_shut an_Room_is_shut od_vet_strides an_vet_strides od_cells_by an_cells_by od_vet_cells an_vet_cells od_View_init an_View_init od_View_tell an_View_tell od_View_room an_View_room od_View_sides an_View_sides od_View_first an_View_first od_View_strides an_View_strides od_View_cells an_View_cells od_View_cell an_View_cell od_View_at an_View_at od_View_put an_View_put od_View_numbers an_View_numbers od_View_twin an_View_twin od_plain_view an_plain_view od_wide_stride an_wide_stride od_widened an_widened od_twice_in an_twice_in od_need_unlike an_need_unlike od_need_open an_need_open od_written an_written od_filled an_filled od_readers an_readers od_moved_first an_moved_first od_rings_left an_rings_left od_way_of an_way_of od_l_purse an_l_purse od_l_take an_l_take od_l_places an_l_places od_l_cells an_l_cells od_l_lengths an_l_lengths od_l_number an_l_number od_l_steps an_l_steps od_l_reach an_l_reach od_l_room an_l_room od_l_unlike_steps an_l_unlike_steps od_l_source an_l_source od_l_over an_l_over od_l_wide an_l_wide od_l_unfit an_l_unfit od_l_more an_l_more od_l_walk an_l_walk od_l_deed an_l_deed od_law an_law odTr odTv ddR : Option Addr} {sl_is_whole sl_size_of sl_vet_size sl_vet_sides sl_places_of sl_whole_place sl_dense_strides sl_Page_init sl_Room_init sl_Room_len sl_Room_need sl_Room_read sl_Room_own_page sl_Room_write sl_Room_numbers sl_Room_twin sl_Room_is_shut sl_vet_strides sl_cells_by sl_vet_cells sl_View_init sl_View_tell sl_View_room sl_View_sides sl_View_first sl_View_strides sl_View_cells sl_View_cell sl_View_at sl_View_put sl_View_numbers sl_View_twin sl_plain_view sl_wide_stride sl_widened sl_twice_in sl_need_unlike sl_need_open sl_written sl_filled sl_readers sl_moved_first sl_rings_left sl_way_of sl_l_purse sl_l_take sl_l_places sl_l_cells sl_l_lengths sl_l_number sl_l_steps sl_l_reach sl_l_room sl_l_unlike_steps sl_l_source sl_l_over sl_l_wide sl_l_unfit sl_l_more sl_l_walk sl_l_deed sl_law slTr slTv : Array (Option Value)} {oc_is_whole dc_is_whole pm_is_whole cd_is_whole ct_is_whole kV_is_whole oc_size_of dc_size_of pm_size_of cd_size_of ct_size_of kV_size_of oc_vet_size dc_vet_size pm_vet_size cd_vet_size ct_vet_size kV_vet_size oc_vet_sides dc_vet_sides pm_vet_sides cd_vet_sides ct_vet_sides kV_vet_sides oc_places_of dc_places_of pm_places_of cd_places_of ct_places_of kV_places_of oc_whole_place dc_whole_place pm_whole_place cd_whole_place ct_whole_place kV_whole_place oc_dense_strides dc_dense_strides pm_dense_strides cd_dense_strides ct_dense_strides kV_dense_strides oc_Page_init dc_Page_init pm_Page_init cd_Page_init ct_Page_init kV_Page_init oc_Room_init dc_Room_init pm_Room_init cd_Room_init ct_Room_init oc_Room_len dc_Room_len pm_Room_len cd_Room_len ct_Room_len kV_Room_len oc_Room_need dc_Room_need pm_Room_need cd_Room_need ct_Room_need kV_Room_need oc_Room_read dc_Room_read pm_Room_read cd_Room_read ct_Room_read kV_Room_read oc_Room_own_page dc_Room_own_page pm_Room_own_page cd_Room_own_page ct_Room_own_page kV_Room_own_page oc_Room_write dc_Room_write pm_Room_write cd_Room_write ct_Room_write kV_Room_write oc_Room_numbers dc_Room_numbers pm_Room_numbers cd_Room_numbers ct_Room_numbers kV_Room_numbers oc_Room_twin dc_Room_twin pm_Room_twin cd_Room_twin ct_Room_twin kV_Room_twin oc_Room_is_shut dc_Room_is_shut pm_Room_is_shut cd_Room_is_shut ct_Room_is_shut kV_Room_is_shut oc_vet_strides dc_vet_strides pm_vet_strides cd_vet_strides ct_vet_strides kV_vet_strides oc_cells_by dc_cells_by pm_cells_by cd_cells_by ct_cells_by kV_cells_by oc_vet_cells dc_vet_cells pm_vet_cells cd_vet_cells ct_vet_cells kV_vet_cells oc_View_init dc_View_init pm_View_init cd_View_init ct_View_init oc_View_tell dc_View_tell pm_View_tell cd_View_tell ct_View_tell kV_View_tell oc_View_room dc_View_room pm_View_room cd_View_room ct_View_room kV_View_room oc_View_sides dc_View_sides pm_View_sides cd_View_sides ct_View_sides kV_View_sides oc_View_first dc_View_first pm_View_first cd_View_first ct_View_first kV_View_first oc_View_strides dc_View_strides pm_View_strides cd_View_strides ct_View_strides kV_View_strides oc_View_cells dc_View_cells pm_View_cells cd_View_cells ct_View_cells kV_View_cells oc_View_cell dc_View_cell pm_View_cell cd_View_cell ct_View_cell kV_View_cell oc_View_at dc_View_at pm_View_at cd_View_at ct_View_at kV_View_at oc_View_put dc_View_put pm_View_put cd_View_put ct_View_put kV_View_put oc_View_numbers dc_View_numbers pm_View_numbers cd_View_numbers ct_View_numbers kV_View_numbers oc_View_twin dc_View_twin pm_View_twin cd_View_twin ct_View_twin kV_View_twin oc_plain_view dc_plain_view pm_plain_view cd_plain_view ct_plain_view kV_plain_view oc_wide_stride dc_wide_stride pm_wide_stride cd_wide_stride ct_wide_stride kV_wide_stride oc_widened dc_widened pm_widened cd_widened ct_widened kV_widened oc_twice_in dc_twice_in pm_twice_in cd_twice_in ct_twice_in kV_twice_in oc_need_unlike dc_need_unlike pm_need_unlike cd_need_unlike ct_need_unlike kV_need_unlike oc_need_open dc_need_open pm_need_open cd_need_open ct_need_open kV_need_open oc_written dc_written pm_written cd_written ct_written kV_written oc_filled dc_filled pm_filled cd_filled ct_filled kV_filled oc_readers dc_readers pm_readers cd_readers ct_readers kV_readers oc_moved_first dc_moved_first pm_moved_first cd_moved_first ct_moved_first kV_moved_first oc_rings_left dc_rings_left pm_rings_left cd_rings_left ct_rings_left kV_rings_left oc_way_of dc_way_of pm_way_of cd_way_of ct_way_of kV_way_of oc_l_purse dc_l_purse pm_l_purse cd_l_purse ct_l_purse kV_l_purse oc_l_take dc_l_take pm_l_take cd_l_take ct_l_take kV_l_take oc_l_places dc_l_places pm_l_places cd_l_places ct_l_places kV_l_places oc_l_cells dc_l_cells pm_l_cells cd_l_cells ct_l_cells kV_l_cells oc_l_lengths dc_l_lengths pm_l_lengths cd_l_lengths ct_l_lengths kV_l_lengths oc_l_number dc_l_number pm_l_number cd_l_number ct_l_number kV_l_number oc_l_steps dc_l_steps pm_l_steps cd_l_steps ct_l_steps kV_l_steps oc_l_reach dc_l_reach pm_l_reach cd_l_reach ct_l_reach kV_l_reach oc_l_room dc_l_room pm_l_room cd_l_room ct_l_room kV_l_room oc_l_unlike_steps dc_l_unlike_steps pm_l_unlike_steps cd_l_unlike_steps ct_l_unlike_steps kV_l_unlike_steps oc_l_source dc_l_source pm_l_source cd_l_source ct_l_source kV_l_source oc_l_over dc_l_over pm_l_over cd_l_over ct_l_over kV_l_over oc_l_wide dc_l_wide pm_l_wide cd_l_wide ct_l_wide kV_l_wide oc_l_unfit dc_l_unfit pm_l_unfit cd_l_unfit ct_l_unfit kV_l_unfit oc_l_more dc_l_more pm_l_more cd_l_more ct_l_more kV_l_more oc_l_walk dc_l_walk pm_l_walk cd_l_walk ct_l_walk kV_l_walk oc_l_deed dc_l_deed pm_l_deed cd_l_deed ct_l_deed kV_l_deed oc_law dc_law pm_law cd_law ct_law kV_law ocTr ocTv : Value}
    {tk_MOST_PLACES tk_MOST_SIDES tk_MOST_STRIDE tkDr tkDv : Tok} {nTr nTv : Nat}
    {nmR qR : Str} {bsR subR : List Value} {hdR abR : Bool} {snR : List Str} {colR : Option Bool} {k0R k1R k2R k3R k5R : Option Value} {newR : String}
    (h_n_isinstance : PySem.W.nsIn K mainGlobals "isinstance" = some none)
    (h_n_int : PySem.W.nsIn K mainGlobals "int" = some none)
    (h_n_bool : PySem.W.nsIn K mainGlobals "bool" = some none)
    (h_n_len : PySem.W.nsIn K mainGlobals "len" = some none)
    (h_n_max : PySem.W.nsIn K mainGlobals "max" = some none)
    (h_n_min : PySem.W.nsIn K mainGlobals "min" = some none)
    (h_n_tuple : PySem.W.nsIn K mainGlobals "tuple" = some none)
    (h_n_list : PySem.W.nsIn K mainGlobals "list" = some none)
    (h_n_range : PySem.W.nsIn K mainGlobals "range" = some none)
    (h_n_zip : PySem.W.nsIn K mainGlobals "zip" = some none)
    (h_n_enumerate : PySem.W.nsIn K mainGlobals "enumerate" = some none)
    (h_n_reversed : PySem.W.nsIn K mainGlobals "reversed" = some none)
    (h_n_sum : PySem.W.nsIn K mainGlobals "sum" = some none)
    (h_n_abs : PySem.W.nsIn K mainGlobals "abs" = some none)
    (h_n_set : PySem.W.nsIn K mainGlobals "set" = some none)
    (h_m_MOST_PLACES : PySem.W.nsIn K mainGlobals "MOST_PLACES" = some (some (.int 600 tk_MOST_PLACES)))
    (h_m_MOST_SIDES : PySem.W.nsIn K mainGlobals "MOST_SIDES" = some (some (.int 5 tk_MOST_SIDES)))
    (h_m_MOST_STRIDE : PySem.W.nsIn K mainGlobals "MOST_STRIDE" = some (some (.int 600 tk_MOST_STRIDE)))
    (h_a_Page : PySem.W.nsIn K mainGlobals "Page" = some (some (.ref Page)))
    (h_pg_Page : PySem.W.plainGet K Page Str.empty = true)
    (h_hd_Page : PySem.W.hasDictIn K Page = true)
    (h_po_Page : PySem.W.plainOver K Page = true)
    (h_sa_Page : PySem.W.findIn K (.ref Page) "__setattr__" = some (some (.builtin "object.__setattr__")))
    (h_mk_Page : PySem.W.makesIn K Page = true)
    (h_kc_Page : PySem.W.keepIn K (.ref Page) = true)
    (h_na_Page_kept : PySem.W.findIn K (.ref Page) "kept" = some none)
    (h_na_Page_holders : PySem.W.findIn K (.ref Page) "holders" = some none)
    (h_a_Room : PySem.W.nsIn K mainGlobals "Room" = some (some (.ref Room)))
    (h_pg_Room : PySem.W.plainGet K Room Str.empty = true)
    (h_hd_Room : PySem.W.hasDictIn K Room = true)
    (h_po_Room : PySem.W.plainOver K Room = true)
    (h_sa_Room : PySem.W.findIn K (.ref Room) "__setattr__" = some (some (.builtin "object.__setattr__")))
    (h_mk_Room : PySem.W.makesIn K Room = true)
    (h_kc_Room : PySem.W.keepIn K (.ref Room) = true)
    (h_na_Room_many : PySem.W.findIn K (.ref Room) "many" = some none)
    (h_na_Room_width : PySem.W.findIn K (.ref Room) "width" = some none)
    (h_na_Room_pages : PySem.W.findIn K (.ref Room) "pages" = some none)
    (h_na_Room_copies : PySem.W.findIn K (.ref Room) "copies" = some none)
    (h_na_Room_shuts : PySem.W.findIn K (.ref Room) "shuts" = some none)
    (h_a_View : PySem.W.nsIn K mainGlobals "View" = some (some (.ref View)))
    (h_pg_View : PySem.W.plainGet K View Str.empty = true)
    (h_hd_View : PySem.W.hasDictIn K View = true)
    (h_po_View : PySem.W.plainOver K View = true)
    (h_sa_View : PySem.W.findIn K (.ref View) "__setattr__" = some (some (.builtin "object.__setattr__")))
    (h_mk_View : PySem.W.makesIn K View = true)
    (h_kc_View : PySem.W.keepIn K (.ref View) = true)
    (h_na_View_held : PySem.W.findIn K (.ref View) "held" = some none)
    (h_na_View_lengths : PySem.W.findIn K (.ref View) "lengths" = some none)
    (h_na_View_begin : PySem.W.findIn K (.ref View) "begin" = some none)
    (h_na_View_steps : PySem.W.findIn K (.ref View) "steps" = some none)
    (h_nc_o : K.lookup Room = some (excClassObj nmR qR Room NR bsR [.type "object"] hdR snR subR abR colR ddR k0R k1R k2R k3R k5R newR))
    (h_nc_ok : PySem.W.nsOkIn K NR = true)
    (h_nc_eq : PySem.W.nsIn K NR "__eq__" = some none)
    (h_nc_ne : PySem.W.nsIn K NR "__ne__" = some none)
    (h_a_is_whole : PySem.W.nsIn K mainGlobals "is_whole" = some (some (.ref f_is_whole)))
    (h_l_is_whole : K.lookup f_is_whole = some ⟨oc_is_whole, od_is_whole, .func (PySem.W.fnOf "is_whole" "is_whole" (defArgs s_is_whole) (defBody s_is_whole) (defScope s_is_whole) .none kV_is_whole dc_is_whole pm_is_whole an_is_whole cd_is_whole ct_is_whole), sl_is_whole⟩)
    (h_c_is_whole : PySem.W.codeIn K cd_is_whole "is_whole" = true)
    (h_k_is_whole : PySem.W.keepIn K (.ref f_is_whole) = true)
    (h_a_size_of : PySem.W.nsIn K mainGlobals "size_of" = some (some (.ref f_size_of)))
    (h_l_size_of : K.lookup f_size_of = some ⟨oc_size_of, od_size_of, .func (PySem.W.fnOf "size_of" "size_of" (defArgs s_size_of) (defBody s_size_of) (defScope s_size_of) .none kV_size_of dc_size_of pm_size_of an_size_of cd_size_of ct_size_of), sl_size_of⟩)
    (h_c_size_of : PySem.W.codeIn K cd_size_of "size_of" = true)
    (h_k_size_of : PySem.W.keepIn K (.ref f_size_of) = true)
    (h_a_vet_size : PySem.W.nsIn K mainGlobals "vet_size" = some (some (.ref f_vet_size)))
    (h_l_vet_size : K.lookup f_vet_size = some ⟨oc_vet_size, od_vet_size, .func (PySem.W.fnOf "vet_size" "vet_size" (defArgs s_vet_size) (defBody s_vet_size) (defScope s_vet_size) .none kV_vet_size dc_vet_size pm_vet_size an_vet_size cd_vet_size ct_vet_size), sl_vet_size⟩)
    (h_c_vet_size : PySem.W.codeIn K cd_vet_size "vet_size" = true)
    (h_k_vet_size : PySem.W.keepIn K (.ref f_vet_size) = true)
    (h_a_vet_sides : PySem.W.nsIn K mainGlobals "vet_sides" = some (some (.ref f_vet_sides)))
    (h_l_vet_sides : K.lookup f_vet_sides = some ⟨oc_vet_sides, od_vet_sides, .func (PySem.W.fnOf "vet_sides" "vet_sides" (defArgs s_vet_sides) (defBody s_vet_sides) (defScope s_vet_sides) .none kV_vet_sides dc_vet_sides pm_vet_sides an_vet_sides cd_vet_sides ct_vet_sides), sl_vet_sides⟩)
    (h_c_vet_sides : PySem.W.codeIn K cd_vet_sides "vet_sides" = true)
    (h_k_vet_sides : PySem.W.keepIn K (.ref f_vet_sides) = true)
    (h_a_places_of : PySem.W.nsIn K mainGlobals "places_of" = some (some (.ref f_places_of)))
    (h_l_places_of : K.lookup f_places_of = some ⟨oc_places_of, od_places_of, .func (PySem.W.fnOf "places_of" "places_of" (defArgs s_places_of) (defBody s_places_of) (defScope s_places_of) .none kV_places_of dc_places_of pm_places_of an_places_of cd_places_of ct_places_of), sl_places_of⟩)
    (h_c_places_of : PySem.W.codeIn K cd_places_of "places_of" = true)
    (h_k_places_of : PySem.W.keepIn K (.ref f_places_of) = true)
    (h_a_whole_place : PySem.W.nsIn K mainGlobals "whole_place" = some (some (.ref f_whole_place)))
    (h_l_whole_place : K.lookup f_whole_place = some ⟨oc_whole_place, od_whole_place, .func (PySem.W.fnOf "whole_place" "whole_place" (defArgs s_whole_place) (defBody s_whole_place) (defScope s_whole_place) .none kV_whole_place dc_whole_place pm_whole_place an_whole_place cd_whole_place ct_whole_place), sl_whole_place⟩)
    (h_c_whole_place : PySem.W.codeIn K cd_whole_place "whole_place" = true)
    (h_k_whole_place : PySem.W.keepIn K (.ref f_whole_place) = true)
    (h_a_dense_strides : PySem.W.nsIn K mainGlobals "dense_strides" = some (some (.ref f_dense_strides)))
    (h_l_dense_strides : K.lookup f_dense_strides = some ⟨oc_dense_strides, od_dense_strides, .func (PySem.W.fnOf "dense_strides" "dense_strides" (defArgs s_dense_strides) (defBody s_dense_strides) (defScope s_dense_strides) .none kV_dense_strides dc_dense_strides pm_dense_strides an_dense_strides cd_dense_strides ct_dense_strides), sl_dense_strides⟩)
    (h_c_dense_strides : PySem.W.codeIn K cd_dense_strides "dense_strides" = true)
    (h_k_dense_strides : PySem.W.keepIn K (.ref f_dense_strides) = true)
    (h_a_Page_init : PySem.W.findIn K (.ref Page) "__init__" = some (some (.ref f_Page_init)))
    (h_i_Page_init : PySem.W.isFn K (.ref f_Page_init) = true)
    (h_l_Page_init : K.lookup f_Page_init = some ⟨oc_Page_init, od_Page_init, .func (PySem.W.fnOf "__init__" "Page.__init__" (defArgs s_Page_init) (defBody s_Page_init) (defScope s_Page_init) .none kV_Page_init dc_Page_init pm_Page_init an_Page_init cd_Page_init ct_Page_init), sl_Page_init⟩)
    (h_c_Page_init : PySem.W.codeIn K cd_Page_init "Page.__init__" = true)
    (h_k_Page_init : PySem.W.keepIn K (.ref f_Page_init) = true)
    (h_a_Room_init : PySem.W.findIn K (.ref Room) "__init__" = some (some (.ref f_Room_init)))
    (h_i_Room_init : PySem.W.isFn K (.ref f_Room_init) = true)
    (h_l_Room_init : K.lookup f_Room_init = some ⟨oc_Room_init, od_Room_init, .func (PySem.W.fnOf "__init__" "Room.__init__" (defArgs s_Room_init) (defBody s_Room_init) (defScope s_Room_init) (.ref Tr) (.ref Dr) dc_Room_init pm_Room_init an_Room_init cd_Room_init ct_Room_init), sl_Room_init⟩)
    (h_c_Room_init : PySem.W.codeIn K cd_Room_init "Room.__init__" = true)
    (h_k_Room_init : PySem.W.keepIn K (.ref f_Room_init) = true)
    (h_a_Room_len : PySem.W.findIn K (.ref Room) "__len__" = some (some (.ref f_Room_len)))
    (h_i_Room_len : PySem.W.isFn K (.ref f_Room_len) = true)
    (h_l_Room_len : K.lookup f_Room_len = some ⟨oc_Room_len, od_Room_len, .func (PySem.W.fnOf "__len__" "Room.__len__" (defArgs s_Room_len) (defBody s_Room_len) (defScope s_Room_len) .none kV_Room_len dc_Room_len pm_Room_len an_Room_len cd_Room_len ct_Room_len), sl_Room_len⟩)
    (h_c_Room_len : PySem.W.codeIn K cd_Room_len "Room.__len__" = true)
    (h_k_Room_len : PySem.W.keepIn K (.ref f_Room_len) = true)
    (h_a_Room_need : PySem.W.findIn K (.ref Room) "need" = some (some (.ref f_Room_need)))
    (h_i_Room_need : PySem.W.isFn K (.ref f_Room_need) = true)
    (h_l_Room_need : K.lookup f_Room_need = some ⟨oc_Room_need, od_Room_need, .func (PySem.W.fnOf "need" "Room.need" (defArgs s_Room_need) (defBody s_Room_need) (defScope s_Room_need) .none kV_Room_need dc_Room_need pm_Room_need an_Room_need cd_Room_need ct_Room_need), sl_Room_need⟩)
    (h_c_Room_need : PySem.W.codeIn K cd_Room_need "Room.need" = true)
    (h_k_Room_need : PySem.W.keepIn K (.ref f_Room_need) = true)
    (h_a_Room_read : PySem.W.findIn K (.ref Room) "read" = some (some (.ref f_Room_read)))
    (h_i_Room_read : PySem.W.isFn K (.ref f_Room_read) = true)
    (h_l_Room_read : K.lookup f_Room_read = some ⟨oc_Room_read, od_Room_read, .func (PySem.W.fnOf "read" "Room.read" (defArgs s_Room_read) (defBody s_Room_read) (defScope s_Room_read) .none kV_Room_read dc_Room_read pm_Room_read an_Room_read cd_Room_read ct_Room_read), sl_Room_read⟩)
    (h_c_Room_read : PySem.W.codeIn K cd_Room_read "Room.read" = true)
    (h_k_Room_read : PySem.W.keepIn K (.ref f_Room_read) = true)
    (h_a_Room_own_page : PySem.W.findIn K (.ref Room) "own_page" = some (some (.ref f_Room_own_page)))
    (h_i_Room_own_page : PySem.W.isFn K (.ref f_Room_own_page) = true)
    (h_l_Room_own_page : K.lookup f_Room_own_page = some ⟨oc_Room_own_page, od_Room_own_page, .func (PySem.W.fnOf "own_page" "Room.own_page" (defArgs s_Room_own_page) (defBody s_Room_own_page) (defScope s_Room_own_page) .none kV_Room_own_page dc_Room_own_page pm_Room_own_page an_Room_own_page cd_Room_own_page ct_Room_own_page), sl_Room_own_page⟩)
    (h_c_Room_own_page : PySem.W.codeIn K cd_Room_own_page "Room.own_page" = true)
    (h_k_Room_own_page : PySem.W.keepIn K (.ref f_Room_own_page) = true)
    (h_a_Room_write : PySem.W.findIn K (.ref Room) "write" = some (some (.ref f_Room_write)))
    (h_i_Room_write : PySem.W.isFn K (.ref f_Room_write) = true)
    (h_l_Room_write : K.lookup f_Room_write = some ⟨oc_Room_write, od_Room_write, .func (PySem.W.fnOf "write" "Room.write" (defArgs s_Room_write) (defBody s_Room_write) (defScope s_Room_write) .none kV_Room_write dc_Room_write pm_Room_write an_Room_write cd_Room_write ct_Room_write), sl_Room_write⟩)
    (h_c_Room_write : PySem.W.codeIn K cd_Room_write "Room.write" = true)
    (h_k_Room_write : PySem.W.keepIn K (.ref f_Room_write) = true)
    (h_a_Room_numbers : PySem.W.findIn K (.ref Room) "numbers" = some (some (.ref f_Room_numbers)))
    (h_i_Room_numbers : PySem.W.isFn K (.ref f_Room_numbers) = true)
    (h_l_Room_numbers : K.lookup f_Room_numbers = some ⟨oc_Room_numbers, od_Room_numbers, .func (PySem.W.fnOf "numbers" "Room.numbers" (defArgs s_Room_numbers) (defBody s_Room_numbers) (defScope s_Room_numbers) .none kV_Room_numbers dc_Room_numbers pm_Room_numbers an_Room_numbers cd_Room_numbers ct_Room_numbers), sl_Room_numbers⟩)
    (h_c_Room_numbers : PySem.W.codeIn K cd_Room_numbers "Room.numbers" = true)
    (h_k_Room_numbers : PySem.W.keepIn K (.ref f_Room_numbers) = true)
    (h_a_Room_twin : PySem.W.findIn K (.ref Room) "twin" = some (some (.ref f_Room_twin)))
    (h_i_Room_twin : PySem.W.isFn K (.ref f_Room_twin) = true)
    (h_l_Room_twin : K.lookup f_Room_twin = some ⟨oc_Room_twin, od_Room_twin, .func (PySem.W.fnOf "twin" "Room.twin" (defArgs s_Room_twin) (defBody s_Room_twin) (defScope s_Room_twin) .none kV_Room_twin dc_Room_twin pm_Room_twin an_Room_twin cd_Room_twin ct_Room_twin), sl_Room_twin⟩)
    (h_c_Room_twin : PySem.W.codeIn K cd_Room_twin "Room.twin" = true)
    (h_k_Room_twin : PySem.W.keepIn K (.ref f_Room_twin) = true)
    (h_a_Room_is_shut : PySem.W.findIn K (.ref Room) "is_shut" = some (some (.ref f_Room_is_shut)))
    (h_i_Room_is_shut : PySem.W.isFn K (.ref f_Room_is_shut) = true)
    (h_l_Room_is_shut : K.lookup f_Room_is_shut = some ⟨oc_Room_is_shut, od_Room_is_shut, .func (PySem.W.fnOf "is_shut" "Room.is_shut" (defArgs s_Room_is_shut) (defBody s_Room_is_shut) (defScope s_Room_is_shut) .none kV_Room_is_shut dc_Room_is_shut pm_Room_is_shut an_Room_is_shut cd_Room_is_shut ct_Room_is_shut), sl_Room_is_shut⟩)
    (h_c_Room_is_shut : PySem.W.codeIn K cd_Room_is_shut "Room.is_shut" = true)
    (h_k_Room_is_shut : PySem.W.keepIn K (.ref f_Room_is_shut) = true)
    (h_a_vet_strides : PySem.W.nsIn K mainGlobals "vet_strides" = some (some (.ref f_vet_strides)))
    (h_l_vet_strides : K.lookup f_vet_strides = some ⟨oc_vet_strides, od_vet_strides, .func (PySem.W.fnOf "vet_strides" "vet_strides" (defArgs s_vet_strides) (defBody s_vet_strides) (defScope s_vet_strides) .none kV_vet_strides dc_vet_strides pm_vet_strides an_vet_strides cd_vet_strides ct_vet_strides), sl_vet_strides⟩)
    (h_c_vet_strides : PySem.W.codeIn K cd_vet_strides "vet_strides" = true)
    (h_k_vet_strides : PySem.W.keepIn K (.ref f_vet_strides) = true)
    (h_a_cells_by : PySem.W.nsIn K mainGlobals "cells_by" = some (some (.ref f_cells_by)))
    (h_l_cells_by : K.lookup f_cells_by = some ⟨oc_cells_by, od_cells_by, .func (PySem.W.fnOf "cells_by" "cells_by" (defArgs s_cells_by) (defBody s_cells_by) (defScope s_cells_by) .none kV_cells_by dc_cells_by pm_cells_by an_cells_by cd_cells_by ct_cells_by), sl_cells_by⟩)
    (h_c_cells_by : PySem.W.codeIn K cd_cells_by "cells_by" = true)
    (h_k_cells_by : PySem.W.keepIn K (.ref f_cells_by) = true)
    (h_a_vet_cells : PySem.W.nsIn K mainGlobals "vet_cells" = some (some (.ref f_vet_cells)))
    (h_l_vet_cells : K.lookup f_vet_cells = some ⟨oc_vet_cells, od_vet_cells, .func (PySem.W.fnOf "vet_cells" "vet_cells" (defArgs s_vet_cells) (defBody s_vet_cells) (defScope s_vet_cells) .none kV_vet_cells dc_vet_cells pm_vet_cells an_vet_cells cd_vet_cells ct_vet_cells), sl_vet_cells⟩)
    (h_c_vet_cells : PySem.W.codeIn K cd_vet_cells "vet_cells" = true)
    (h_k_vet_cells : PySem.W.keepIn K (.ref f_vet_cells) = true)
    (h_a_View_init : PySem.W.findIn K (.ref View) "__init__" = some (some (.ref f_View_init)))
    (h_i_View_init : PySem.W.isFn K (.ref f_View_init) = true)
    (h_l_View_init : K.lookup f_View_init = some ⟨oc_View_init, od_View_init, .func (PySem.W.fnOf "__init__" "View.__init__" (defArgs s_View_init) (defBody s_View_init) (defScope s_View_init) (.ref Tv) (.ref Dv) dc_View_init pm_View_init an_View_init cd_View_init ct_View_init), sl_View_init⟩)
    (h_c_View_init : PySem.W.codeIn K cd_View_init "View.__init__" = true)
    (h_k_View_init : PySem.W.keepIn K (.ref f_View_init) = true)
    (h_a_View_tell : PySem.W.findIn K (.ref View) "tell" = some (some (.ref f_View_tell)))
    (h_i_View_tell : PySem.W.isFn K (.ref f_View_tell) = true)
    (h_l_View_tell : K.lookup f_View_tell = some ⟨oc_View_tell, od_View_tell, .func (PySem.W.fnOf "tell" "View.tell" (defArgs s_View_tell) (defBody s_View_tell) (defScope s_View_tell) .none kV_View_tell dc_View_tell pm_View_tell an_View_tell cd_View_tell ct_View_tell), sl_View_tell⟩)
    (h_c_View_tell : PySem.W.codeIn K cd_View_tell "View.tell" = true)
    (h_k_View_tell : PySem.W.keepIn K (.ref f_View_tell) = true)
    (h_a_View_room : PySem.W.findIn K (.ref View) "room" = some (some (.ref f_View_room)))
    (h_i_View_room : PySem.W.isFn K (.ref f_View_room) = true)
    (h_l_View_room : K.lookup f_View_room = some ⟨oc_View_room, od_View_room, .func (PySem.W.fnOf "room" "View.room" (defArgs s_View_room) (defBody s_View_room) (defScope s_View_room) .none kV_View_room dc_View_room pm_View_room an_View_room cd_View_room ct_View_room), sl_View_room⟩)
    (h_c_View_room : PySem.W.codeIn K cd_View_room "View.room" = true)
    (h_k_View_room : PySem.W.keepIn K (.ref f_View_room) = true)
    (h_a_View_sides : PySem.W.findIn K (.ref View) "sides" = some (some (.ref f_View_sides)))
    (h_i_View_sides : PySem.W.isFn K (.ref f_View_sides) = true)
    (h_l_View_sides : K.lookup f_View_sides = some ⟨oc_View_sides, od_View_sides, .func (PySem.W.fnOf "sides" "View.sides" (defArgs s_View_sides) (defBody s_View_sides) (defScope s_View_sides) .none kV_View_sides dc_View_sides pm_View_sides an_View_sides cd_View_sides ct_View_sides), sl_View_sides⟩)
    (h_c_View_sides : PySem.W.codeIn K cd_View_sides "View.sides" = true)
    (h_k_View_sides : PySem.W.keepIn K (.ref f_View_sides) = true)
    (h_a_View_first : PySem.W.findIn K (.ref View) "first" = some (some (.ref f_View_first)))
    (h_i_View_first : PySem.W.isFn K (.ref f_View_first) = true)
    (h_l_View_first : K.lookup f_View_first = some ⟨oc_View_first, od_View_first, .func (PySem.W.fnOf "first" "View.first" (defArgs s_View_first) (defBody s_View_first) (defScope s_View_first) .none kV_View_first dc_View_first pm_View_first an_View_first cd_View_first ct_View_first), sl_View_first⟩)
    (h_c_View_first : PySem.W.codeIn K cd_View_first "View.first" = true)
    (h_k_View_first : PySem.W.keepIn K (.ref f_View_first) = true)
    (h_a_View_strides : PySem.W.findIn K (.ref View) "strides" = some (some (.ref f_View_strides)))
    (h_i_View_strides : PySem.W.isFn K (.ref f_View_strides) = true)
    (h_l_View_strides : K.lookup f_View_strides = some ⟨oc_View_strides, od_View_strides, .func (PySem.W.fnOf "strides" "View.strides" (defArgs s_View_strides) (defBody s_View_strides) (defScope s_View_strides) .none kV_View_strides dc_View_strides pm_View_strides an_View_strides cd_View_strides ct_View_strides), sl_View_strides⟩)
    (h_c_View_strides : PySem.W.codeIn K cd_View_strides "View.strides" = true)
    (h_k_View_strides : PySem.W.keepIn K (.ref f_View_strides) = true)
    (h_a_View_cells : PySem.W.findIn K (.ref View) "cells" = some (some (.ref f_View_cells)))
    (h_i_View_cells : PySem.W.isFn K (.ref f_View_cells) = true)
    (h_l_View_cells : K.lookup f_View_cells = some ⟨oc_View_cells, od_View_cells, .func (PySem.W.fnOf "cells" "View.cells" (defArgs s_View_cells) (defBody s_View_cells) (defScope s_View_cells) .none kV_View_cells dc_View_cells pm_View_cells an_View_cells cd_View_cells ct_View_cells), sl_View_cells⟩)
    (h_c_View_cells : PySem.W.codeIn K cd_View_cells "View.cells" = true)
    (h_k_View_cells : PySem.W.keepIn K (.ref f_View_cells) = true)
    (h_a_View_cell : PySem.W.findIn K (.ref View) "cell" = some (some (.ref f_View_cell)))
    (h_i_View_cell : PySem.W.isFn K (.ref f_View_cell) = true)
    (h_l_View_cell : K.lookup f_View_cell = some ⟨oc_View_cell, od_View_cell, .func (PySem.W.fnOf "cell" "View.cell" (defArgs s_View_cell) (defBody s_View_cell) (defScope s_View_cell) .none kV_View_cell dc_View_cell pm_View_cell an_View_cell cd_View_cell ct_View_cell), sl_View_cell⟩)
    (h_c_View_cell : PySem.W.codeIn K cd_View_cell "View.cell" = true)
    (h_k_View_cell : PySem.W.keepIn K (.ref f_View_cell) = true)
    (h_a_View_at : PySem.W.findIn K (.ref View) "at" = some (some (.ref f_View_at)))
    (h_i_View_at : PySem.W.isFn K (.ref f_View_at) = true)
    (h_l_View_at : K.lookup f_View_at = some ⟨oc_View_at, od_View_at, .func (PySem.W.fnOf "at" "View.at" (defArgs s_View_at) (defBody s_View_at) (defScope s_View_at) .none kV_View_at dc_View_at pm_View_at an_View_at cd_View_at ct_View_at), sl_View_at⟩)
    (h_c_View_at : PySem.W.codeIn K cd_View_at "View.at" = true)
    (h_k_View_at : PySem.W.keepIn K (.ref f_View_at) = true)
    (h_a_View_put : PySem.W.findIn K (.ref View) "put" = some (some (.ref f_View_put)))
    (h_i_View_put : PySem.W.isFn K (.ref f_View_put) = true)
    (h_l_View_put : K.lookup f_View_put = some ⟨oc_View_put, od_View_put, .func (PySem.W.fnOf "put" "View.put" (defArgs s_View_put) (defBody s_View_put) (defScope s_View_put) .none kV_View_put dc_View_put pm_View_put an_View_put cd_View_put ct_View_put), sl_View_put⟩)
    (h_c_View_put : PySem.W.codeIn K cd_View_put "View.put" = true)
    (h_k_View_put : PySem.W.keepIn K (.ref f_View_put) = true)
    (h_a_View_numbers : PySem.W.findIn K (.ref View) "numbers" = some (some (.ref f_View_numbers)))
    (h_i_View_numbers : PySem.W.isFn K (.ref f_View_numbers) = true)
    (h_l_View_numbers : K.lookup f_View_numbers = some ⟨oc_View_numbers, od_View_numbers, .func (PySem.W.fnOf "numbers" "View.numbers" (defArgs s_View_numbers) (defBody s_View_numbers) (defScope s_View_numbers) .none kV_View_numbers dc_View_numbers pm_View_numbers an_View_numbers cd_View_numbers ct_View_numbers), sl_View_numbers⟩)
    (h_c_View_numbers : PySem.W.codeIn K cd_View_numbers "View.numbers" = true)
    (h_k_View_numbers : PySem.W.keepIn K (.ref f_View_numbers) = true)
    (h_a_View_twin : PySem.W.findIn K (.ref View) "twin" = some (some (.ref f_View_twin)))
    (h_i_View_twin : PySem.W.isFn K (.ref f_View_twin) = true)
    (h_l_View_twin : K.lookup f_View_twin = some ⟨oc_View_twin, od_View_twin, .func (PySem.W.fnOf "twin" "View.twin" (defArgs s_View_twin) (defBody s_View_twin) (defScope s_View_twin) .none kV_View_twin dc_View_twin pm_View_twin an_View_twin cd_View_twin ct_View_twin), sl_View_twin⟩)
    (h_c_View_twin : PySem.W.codeIn K cd_View_twin "View.twin" = true)
    (h_k_View_twin : PySem.W.keepIn K (.ref f_View_twin) = true)
    (h_a_plain_view : PySem.W.nsIn K mainGlobals "plain_view" = some (some (.ref f_plain_view)))
    (h_l_plain_view : K.lookup f_plain_view = some ⟨oc_plain_view, od_plain_view, .func (PySem.W.fnOf "plain_view" "plain_view" (defArgs s_plain_view) (defBody s_plain_view) (defScope s_plain_view) .none kV_plain_view dc_plain_view pm_plain_view an_plain_view cd_plain_view ct_plain_view), sl_plain_view⟩)
    (h_c_plain_view : PySem.W.codeIn K cd_plain_view "plain_view" = true)
    (h_k_plain_view : PySem.W.keepIn K (.ref f_plain_view) = true)
    (h_a_wide_stride : PySem.W.nsIn K mainGlobals "wide_stride" = some (some (.ref f_wide_stride)))
    (h_l_wide_stride : K.lookup f_wide_stride = some ⟨oc_wide_stride, od_wide_stride, .func (PySem.W.fnOf "wide_stride" "wide_stride" (defArgs s_wide_stride) (defBody s_wide_stride) (defScope s_wide_stride) .none kV_wide_stride dc_wide_stride pm_wide_stride an_wide_stride cd_wide_stride ct_wide_stride), sl_wide_stride⟩)
    (h_c_wide_stride : PySem.W.codeIn K cd_wide_stride "wide_stride" = true)
    (h_k_wide_stride : PySem.W.keepIn K (.ref f_wide_stride) = true)
    (h_a_widened : PySem.W.nsIn K mainGlobals "widened" = some (some (.ref f_widened)))
    (h_l_widened : K.lookup f_widened = some ⟨oc_widened, od_widened, .func (PySem.W.fnOf "widened" "widened" (defArgs s_widened) (defBody s_widened) (defScope s_widened) .none kV_widened dc_widened pm_widened an_widened cd_widened ct_widened), sl_widened⟩)
    (h_c_widened : PySem.W.codeIn K cd_widened "widened" = true)
    (h_k_widened : PySem.W.keepIn K (.ref f_widened) = true)
    (h_a_twice_in : PySem.W.nsIn K mainGlobals "twice_in" = some (some (.ref f_twice_in)))
    (h_l_twice_in : K.lookup f_twice_in = some ⟨oc_twice_in, od_twice_in, .func (PySem.W.fnOf "twice_in" "twice_in" (defArgs s_twice_in) (defBody s_twice_in) (defScope s_twice_in) .none kV_twice_in dc_twice_in pm_twice_in an_twice_in cd_twice_in ct_twice_in), sl_twice_in⟩)
    (h_c_twice_in : PySem.W.codeIn K cd_twice_in "twice_in" = true)
    (h_k_twice_in : PySem.W.keepIn K (.ref f_twice_in) = true)
    (h_a_need_unlike : PySem.W.nsIn K mainGlobals "need_unlike" = some (some (.ref f_need_unlike)))
    (h_l_need_unlike : K.lookup f_need_unlike = some ⟨oc_need_unlike, od_need_unlike, .func (PySem.W.fnOf "need_unlike" "need_unlike" (defArgs s_need_unlike) (defBody s_need_unlike) (defScope s_need_unlike) .none kV_need_unlike dc_need_unlike pm_need_unlike an_need_unlike cd_need_unlike ct_need_unlike), sl_need_unlike⟩)
    (h_c_need_unlike : PySem.W.codeIn K cd_need_unlike "need_unlike" = true)
    (h_k_need_unlike : PySem.W.keepIn K (.ref f_need_unlike) = true)
    (h_a_need_open : PySem.W.nsIn K mainGlobals "need_open" = some (some (.ref f_need_open)))
    (h_l_need_open : K.lookup f_need_open = some ⟨oc_need_open, od_need_open, .func (PySem.W.fnOf "need_open" "need_open" (defArgs s_need_open) (defBody s_need_open) (defScope s_need_open) .none kV_need_open dc_need_open pm_need_open an_need_open cd_need_open ct_need_open), sl_need_open⟩)
    (h_c_need_open : PySem.W.codeIn K cd_need_open "need_open" = true)
    (h_k_need_open : PySem.W.keepIn K (.ref f_need_open) = true)
    (h_a_written : PySem.W.nsIn K mainGlobals "written" = some (some (.ref f_written)))
    (h_l_written : K.lookup f_written = some ⟨oc_written, od_written, .func (PySem.W.fnOf "written" "written" (defArgs s_written) (defBody s_written) (defScope s_written) .none kV_written dc_written pm_written an_written cd_written ct_written), sl_written⟩)
    (h_c_written : PySem.W.codeIn K cd_written "written" = true)
    (h_k_written : PySem.W.keepIn K (.ref f_written) = true)
    (h_a_filled : PySem.W.nsIn K mainGlobals "filled" = some (some (.ref f_filled)))
    (h_l_filled : K.lookup f_filled = some ⟨oc_filled, od_filled, .func (PySem.W.fnOf "filled" "filled" (defArgs s_filled) (defBody s_filled) (defScope s_filled) .none kV_filled dc_filled pm_filled an_filled cd_filled ct_filled), sl_filled⟩)
    (h_c_filled : PySem.W.codeIn K cd_filled "filled" = true)
    (h_k_filled : PySem.W.keepIn K (.ref f_filled) = true)
    (h_a_readers : PySem.W.nsIn K mainGlobals "readers" = some (some (.ref f_readers)))
    (h_l_readers : K.lookup f_readers = some ⟨oc_readers, od_readers, .func (PySem.W.fnOf "readers" "readers" (defArgs s_readers) (defBody s_readers) (defScope s_readers) .none kV_readers dc_readers pm_readers an_readers cd_readers ct_readers), sl_readers⟩)
    (h_c_readers : PySem.W.codeIn K cd_readers "readers" = true)
    (h_k_readers : PySem.W.keepIn K (.ref f_readers) = true)
    (h_a_moved_first : PySem.W.nsIn K mainGlobals "moved_first" = some (some (.ref f_moved_first)))
    (h_l_moved_first : K.lookup f_moved_first = some ⟨oc_moved_first, od_moved_first, .func (PySem.W.fnOf "moved_first" "moved_first" (defArgs s_moved_first) (defBody s_moved_first) (defScope s_moved_first) .none kV_moved_first dc_moved_first pm_moved_first an_moved_first cd_moved_first ct_moved_first), sl_moved_first⟩)
    (h_c_moved_first : PySem.W.codeIn K cd_moved_first "moved_first" = true)
    (h_k_moved_first : PySem.W.keepIn K (.ref f_moved_first) = true)
    (h_a_rings_left : PySem.W.nsIn K mainGlobals "rings_left" = some (some (.ref f_rings_left)))
    (h_l_rings_left : K.lookup f_rings_left = some ⟨oc_rings_left, od_rings_left, .func (PySem.W.fnOf "rings_left" "rings_left" (defArgs s_rings_left) (defBody s_rings_left) (defScope s_rings_left) .none kV_rings_left dc_rings_left pm_rings_left an_rings_left cd_rings_left ct_rings_left), sl_rings_left⟩)
    (h_c_rings_left : PySem.W.codeIn K cd_rings_left "rings_left" = true)
    (h_k_rings_left : PySem.W.keepIn K (.ref f_rings_left) = true)
    (h_a_way_of : PySem.W.nsIn K mainGlobals "way_of" = some (some (.ref f_way_of)))
    (h_l_way_of : K.lookup f_way_of = some ⟨oc_way_of, od_way_of, .func (PySem.W.fnOf "way_of" "way_of" (defArgs s_way_of) (defBody s_way_of) (defScope s_way_of) .none kV_way_of dc_way_of pm_way_of an_way_of cd_way_of ct_way_of), sl_way_of⟩)
    (h_c_way_of : PySem.W.codeIn K cd_way_of "way_of" = true)
    (h_k_way_of : PySem.W.keepIn K (.ref f_way_of) = true)
    (h_a_l_purse : PySem.W.nsIn K mainGlobals "_law_purse" = some (some (.ref f_l_purse)))
    (h_l_l_purse : K.lookup f_l_purse = some ⟨oc_l_purse, od_l_purse, .func (PySem.W.fnOf "_law_purse" "_law_purse" (defArgs s_l_purse) (defBody s_l_purse) (defScope s_l_purse) .none kV_l_purse dc_l_purse pm_l_purse an_l_purse cd_l_purse ct_l_purse), sl_l_purse⟩)
    (h_c_l_purse : PySem.W.codeIn K cd_l_purse "_law_purse" = true)
    (h_k_l_purse : PySem.W.keepIn K (.ref f_l_purse) = true)
    (h_a_l_take : PySem.W.nsIn K mainGlobals "_law_take" = some (some (.ref f_l_take)))
    (h_l_l_take : K.lookup f_l_take = some ⟨oc_l_take, od_l_take, .func (PySem.W.fnOf "_law_take" "_law_take" (defArgs s_l_take) (defBody s_l_take) (defScope s_l_take) .none kV_l_take dc_l_take pm_l_take an_l_take cd_l_take ct_l_take), sl_l_take⟩)
    (h_c_l_take : PySem.W.codeIn K cd_l_take "_law_take" = true)
    (h_k_l_take : PySem.W.keepIn K (.ref f_l_take) = true)
    (h_a_l_places : PySem.W.nsIn K mainGlobals "_law_places" = some (some (.ref f_l_places)))
    (h_l_l_places : K.lookup f_l_places = some ⟨oc_l_places, od_l_places, .func (PySem.W.fnOf "_law_places" "_law_places" (defArgs s_l_places) (defBody s_l_places) (defScope s_l_places) .none kV_l_places dc_l_places pm_l_places an_l_places cd_l_places ct_l_places), sl_l_places⟩)
    (h_c_l_places : PySem.W.codeIn K cd_l_places "_law_places" = true)
    (h_k_l_places : PySem.W.keepIn K (.ref f_l_places) = true)
    (h_a_l_cells : PySem.W.nsIn K mainGlobals "_law_cells" = some (some (.ref f_l_cells)))
    (h_l_l_cells : K.lookup f_l_cells = some ⟨oc_l_cells, od_l_cells, .func (PySem.W.fnOf "_law_cells" "_law_cells" (defArgs s_l_cells) (defBody s_l_cells) (defScope s_l_cells) .none kV_l_cells dc_l_cells pm_l_cells an_l_cells cd_l_cells ct_l_cells), sl_l_cells⟩)
    (h_c_l_cells : PySem.W.codeIn K cd_l_cells "_law_cells" = true)
    (h_k_l_cells : PySem.W.keepIn K (.ref f_l_cells) = true)
    (h_a_l_lengths : PySem.W.nsIn K mainGlobals "_law_lengths" = some (some (.ref f_l_lengths)))
    (h_l_l_lengths : K.lookup f_l_lengths = some ⟨oc_l_lengths, od_l_lengths, .func (PySem.W.fnOf "_law_lengths" "_law_lengths" (defArgs s_l_lengths) (defBody s_l_lengths) (defScope s_l_lengths) .none kV_l_lengths dc_l_lengths pm_l_lengths an_l_lengths cd_l_lengths ct_l_lengths), sl_l_lengths⟩)
    (h_c_l_lengths : PySem.W.codeIn K cd_l_lengths "_law_lengths" = true)
    (h_k_l_lengths : PySem.W.keepIn K (.ref f_l_lengths) = true)
    (h_a_l_number : PySem.W.nsIn K mainGlobals "_law_number" = some (some (.ref f_l_number)))
    (h_l_l_number : K.lookup f_l_number = some ⟨oc_l_number, od_l_number, .func (PySem.W.fnOf "_law_number" "_law_number" (defArgs s_l_number) (defBody s_l_number) (defScope s_l_number) .none kV_l_number dc_l_number pm_l_number an_l_number cd_l_number ct_l_number), sl_l_number⟩)
    (h_c_l_number : PySem.W.codeIn K cd_l_number "_law_number" = true)
    (h_k_l_number : PySem.W.keepIn K (.ref f_l_number) = true)
    (h_a_l_steps : PySem.W.nsIn K mainGlobals "_law_steps" = some (some (.ref f_l_steps)))
    (h_l_l_steps : K.lookup f_l_steps = some ⟨oc_l_steps, od_l_steps, .func (PySem.W.fnOf "_law_steps" "_law_steps" (defArgs s_l_steps) (defBody s_l_steps) (defScope s_l_steps) .none kV_l_steps dc_l_steps pm_l_steps an_l_steps cd_l_steps ct_l_steps), sl_l_steps⟩)
    (h_c_l_steps : PySem.W.codeIn K cd_l_steps "_law_steps" = true)
    (h_k_l_steps : PySem.W.keepIn K (.ref f_l_steps) = true)
    (h_a_l_reach : PySem.W.nsIn K mainGlobals "_law_reach" = some (some (.ref f_l_reach)))
    (h_l_l_reach : K.lookup f_l_reach = some ⟨oc_l_reach, od_l_reach, .func (PySem.W.fnOf "_law_reach" "_law_reach" (defArgs s_l_reach) (defBody s_l_reach) (defScope s_l_reach) .none kV_l_reach dc_l_reach pm_l_reach an_l_reach cd_l_reach ct_l_reach), sl_l_reach⟩)
    (h_c_l_reach : PySem.W.codeIn K cd_l_reach "_law_reach" = true)
    (h_k_l_reach : PySem.W.keepIn K (.ref f_l_reach) = true)
    (h_a_l_room : PySem.W.nsIn K mainGlobals "_law_room" = some (some (.ref f_l_room)))
    (h_l_l_room : K.lookup f_l_room = some ⟨oc_l_room, od_l_room, .func (PySem.W.fnOf "_law_room" "_law_room" (defArgs s_l_room) (defBody s_l_room) (defScope s_l_room) .none kV_l_room dc_l_room pm_l_room an_l_room cd_l_room ct_l_room), sl_l_room⟩)
    (h_c_l_room : PySem.W.codeIn K cd_l_room "_law_room" = true)
    (h_k_l_room : PySem.W.keepIn K (.ref f_l_room) = true)
    (h_a_l_unlike_steps : PySem.W.nsIn K mainGlobals "_law_unlike_steps" = some (some (.ref f_l_unlike_steps)))
    (h_l_l_unlike_steps : K.lookup f_l_unlike_steps = some ⟨oc_l_unlike_steps, od_l_unlike_steps, .func (PySem.W.fnOf "_law_unlike_steps" "_law_unlike_steps" (defArgs s_l_unlike_steps) (defBody s_l_unlike_steps) (defScope s_l_unlike_steps) .none kV_l_unlike_steps dc_l_unlike_steps pm_l_unlike_steps an_l_unlike_steps cd_l_unlike_steps ct_l_unlike_steps), sl_l_unlike_steps⟩)
    (h_c_l_unlike_steps : PySem.W.codeIn K cd_l_unlike_steps "_law_unlike_steps" = true)
    (h_k_l_unlike_steps : PySem.W.keepIn K (.ref f_l_unlike_steps) = true)
    (h_a_l_source : PySem.W.nsIn K mainGlobals "_law_source" = some (some (.ref f_l_source)))
    (h_l_l_source : K.lookup f_l_source = some ⟨oc_l_source, od_l_source, .func (PySem.W.fnOf "_law_source" "_law_source" (defArgs s_l_source) (defBody s_l_source) (defScope s_l_source) .none kV_l_source dc_l_source pm_l_source an_l_source cd_l_source ct_l_source), sl_l_source⟩)
    (h_c_l_source : PySem.W.codeIn K cd_l_source "_law_source" = true)
    (h_k_l_source : PySem.W.keepIn K (.ref f_l_source) = true)
    (h_a_l_over : PySem.W.nsIn K mainGlobals "_law_over" = some (some (.ref f_l_over)))
    (h_l_l_over : K.lookup f_l_over = some ⟨oc_l_over, od_l_over, .func (PySem.W.fnOf "_law_over" "_law_over" (defArgs s_l_over) (defBody s_l_over) (defScope s_l_over) .none kV_l_over dc_l_over pm_l_over an_l_over cd_l_over ct_l_over), sl_l_over⟩)
    (h_c_l_over : PySem.W.codeIn K cd_l_over "_law_over" = true)
    (h_k_l_over : PySem.W.keepIn K (.ref f_l_over) = true)
    (h_a_l_wide : PySem.W.nsIn K mainGlobals "_law_wide" = some (some (.ref f_l_wide)))
    (h_l_l_wide : K.lookup f_l_wide = some ⟨oc_l_wide, od_l_wide, .func (PySem.W.fnOf "_law_wide" "_law_wide" (defArgs s_l_wide) (defBody s_l_wide) (defScope s_l_wide) .none kV_l_wide dc_l_wide pm_l_wide an_l_wide cd_l_wide ct_l_wide), sl_l_wide⟩)
    (h_c_l_wide : PySem.W.codeIn K cd_l_wide "_law_wide" = true)
    (h_k_l_wide : PySem.W.keepIn K (.ref f_l_wide) = true)
    (h_a_l_unfit : PySem.W.nsIn K mainGlobals "_law_unfit" = some (some (.ref f_l_unfit)))
    (h_l_l_unfit : K.lookup f_l_unfit = some ⟨oc_l_unfit, od_l_unfit, .func (PySem.W.fnOf "_law_unfit" "_law_unfit" (defArgs s_l_unfit) (defBody s_l_unfit) (defScope s_l_unfit) .none kV_l_unfit dc_l_unfit pm_l_unfit an_l_unfit cd_l_unfit ct_l_unfit), sl_l_unfit⟩)
    (h_c_l_unfit : PySem.W.codeIn K cd_l_unfit "_law_unfit" = true)
    (h_k_l_unfit : PySem.W.keepIn K (.ref f_l_unfit) = true)
    (h_a_l_more : PySem.W.nsIn K mainGlobals "_law_more" = some (some (.ref f_l_more)))
    (h_l_l_more : K.lookup f_l_more = some ⟨oc_l_more, od_l_more, .func (PySem.W.fnOf "_law_more" "_law_more" (defArgs s_l_more) (defBody s_l_more) (defScope s_l_more) .none kV_l_more dc_l_more pm_l_more an_l_more cd_l_more ct_l_more), sl_l_more⟩)
    (h_c_l_more : PySem.W.codeIn K cd_l_more "_law_more" = true)
    (h_k_l_more : PySem.W.keepIn K (.ref f_l_more) = true)
    (h_a_l_walk : PySem.W.nsIn K mainGlobals "_law_walk" = some (some (.ref f_l_walk)))
    (h_l_l_walk : K.lookup f_l_walk = some ⟨oc_l_walk, od_l_walk, .func (PySem.W.fnOf "_law_walk" "_law_walk" (defArgs s_l_walk) (defBody s_l_walk) (defScope s_l_walk) .none kV_l_walk dc_l_walk pm_l_walk an_l_walk cd_l_walk ct_l_walk), sl_l_walk⟩)
    (h_c_l_walk : PySem.W.codeIn K cd_l_walk "_law_walk" = true)
    (h_k_l_walk : PySem.W.keepIn K (.ref f_l_walk) = true)
    (h_a_l_deed : PySem.W.nsIn K mainGlobals "_law_deed" = some (some (.ref f_l_deed)))
    (h_l_l_deed : K.lookup f_l_deed = some ⟨oc_l_deed, od_l_deed, .func (PySem.W.fnOf "_law_deed" "_law_deed" (defArgs s_l_deed) (defBody s_l_deed) (defScope s_l_deed) .none kV_l_deed dc_l_deed pm_l_deed an_l_deed cd_l_deed ct_l_deed), sl_l_deed⟩)
    (h_c_l_deed : PySem.W.codeIn K cd_l_deed "_law_deed" = true)
    (h_k_l_deed : PySem.W.keepIn K (.ref f_l_deed) = true)
    (h_a_law : PySem.W.nsIn K mainGlobals "law" = some (some (.ref f_law)))
    (h_l_law : K.lookup f_law = some ⟨oc_law, od_law, .func (PySem.W.fnOf "law" "law" (defArgs s_law) (defBody s_law) (defScope s_law) .none kV_law dc_law pm_law an_law cd_law ct_law), sl_law⟩)
    (h_c_law : PySem.W.codeIn K cd_law "law" = true)
    (h_k_law : PySem.W.keepIn K (.ref f_law) = true)
    (h_Tr_o : K.lookup Tr = some ⟨ocTr, odTr, .seq [Value.ref T0].toArray nTr, slTr⟩)
    (h_Dr_page : PySem.W.nsIn K Dr "page" = some (some (.int 8 tkDr)))
    (h_Tv_o : K.lookup Tv = some ⟨ocTv, odTv, .seq [Value.none].toArray nTv, slTv⟩)
    (h_Dv_first : PySem.W.nsIn K Dv "first" = some (some (.int 0 tkDv)))
    (h_Dv_strides : PySem.W.nsIn K Dv "strides" = some (some .none))
    : ∃ fd : FuncData, (∀ (s : Shared) (v : Value), BindsTo s fd ⟨[v], []⟩ [("_law_script", v)]) ∧ ∀ base : Heap, K.In base → base.Ns mainGlobals mg → FnOk l.prog w K mg base CX0 10 fa fd ["_law_script"] (sp_law K) := by
  have e := hfa.symm.trans (PySem.W.mg_of X G h_a_law)
  cases e
  let a : Adr := ⟨Page, Room, View, T0, f_is_whole, (PySem.W.fnOf "is_whole" "is_whole" (defArgs s_is_whole) (defBody s_is_whole) (defScope s_is_whole) .none kV_is_whole dc_is_whole pm_is_whole an_is_whole cd_is_whole ct_is_whole), f_size_of, (PySem.W.fnOf "size_of" "size_of" (defArgs s_size_of) (defBody s_size_of) (defScope s_size_of) .none kV_size_of dc_size_of pm_size_of an_size_of cd_size_of ct_size_of), f_vet_size, (PySem.W.fnOf "vet_size" "vet_size" (defArgs s_vet_size) (defBody s_vet_size) (defScope s_vet_size) .none kV_vet_size dc_vet_size pm_vet_size an_vet_size cd_vet_size ct_vet_size), f_vet_sides, (PySem.W.fnOf "vet_sides" "vet_sides" (defArgs s_vet_sides) (defBody s_vet_sides) (defScope s_vet_sides) .none kV_vet_sides dc_vet_sides pm_vet_sides an_vet_sides cd_vet_sides ct_vet_sides), f_places_of, (PySem.W.fnOf "places_of" "places_of" (defArgs s_places_of) (defBody s_places_of) (defScope s_places_of) .none kV_places_of dc_places_of pm_places_of an_places_of cd_places_of ct_places_of), f_whole_place, (PySem.W.fnOf "whole_place" "whole_place" (defArgs s_whole_place) (defBody s_whole_place) (defScope s_whole_place) .none kV_whole_place dc_whole_place pm_whole_place an_whole_place cd_whole_place ct_whole_place), f_dense_strides, (PySem.W.fnOf "dense_strides" "dense_strides" (defArgs s_dense_strides) (defBody s_dense_strides) (defScope s_dense_strides) .none kV_dense_strides dc_dense_strides pm_dense_strides an_dense_strides cd_dense_strides ct_dense_strides), f_Page_init, (PySem.W.fnOf "__init__" "Page.__init__" (defArgs s_Page_init) (defBody s_Page_init) (defScope s_Page_init) .none kV_Page_init dc_Page_init pm_Page_init an_Page_init cd_Page_init ct_Page_init), f_Room_init, (PySem.W.fnOf "__init__" "Room.__init__" (defArgs s_Room_init) (defBody s_Room_init) (defScope s_Room_init) (.ref Tr) (.ref Dr) dc_Room_init pm_Room_init an_Room_init cd_Room_init ct_Room_init), f_Room_len, (PySem.W.fnOf "__len__" "Room.__len__" (defArgs s_Room_len) (defBody s_Room_len) (defScope s_Room_len) .none kV_Room_len dc_Room_len pm_Room_len an_Room_len cd_Room_len ct_Room_len), f_Room_need, (PySem.W.fnOf "need" "Room.need" (defArgs s_Room_need) (defBody s_Room_need) (defScope s_Room_need) .none kV_Room_need dc_Room_need pm_Room_need an_Room_need cd_Room_need ct_Room_need), f_Room_read, (PySem.W.fnOf "read" "Room.read" (defArgs s_Room_read) (defBody s_Room_read) (defScope s_Room_read) .none kV_Room_read dc_Room_read pm_Room_read an_Room_read cd_Room_read ct_Room_read), f_Room_own_page, (PySem.W.fnOf "own_page" "Room.own_page" (defArgs s_Room_own_page) (defBody s_Room_own_page) (defScope s_Room_own_page) .none kV_Room_own_page dc_Room_own_page pm_Room_own_page an_Room_own_page cd_Room_own_page ct_Room_own_page), f_Room_write, (PySem.W.fnOf "write" "Room.write" (defArgs s_Room_write) (defBody s_Room_write) (defScope s_Room_write) .none kV_Room_write dc_Room_write pm_Room_write an_Room_write cd_Room_write ct_Room_write), f_Room_numbers, (PySem.W.fnOf "numbers" "Room.numbers" (defArgs s_Room_numbers) (defBody s_Room_numbers) (defScope s_Room_numbers) .none kV_Room_numbers dc_Room_numbers pm_Room_numbers an_Room_numbers cd_Room_numbers ct_Room_numbers), f_Room_twin, (PySem.W.fnOf "twin" "Room.twin" (defArgs s_Room_twin) (defBody s_Room_twin) (defScope s_Room_twin) .none kV_Room_twin dc_Room_twin pm_Room_twin an_Room_twin cd_Room_twin ct_Room_twin), f_Room_is_shut, (PySem.W.fnOf "is_shut" "Room.is_shut" (defArgs s_Room_is_shut) (defBody s_Room_is_shut) (defScope s_Room_is_shut) .none kV_Room_is_shut dc_Room_is_shut pm_Room_is_shut an_Room_is_shut cd_Room_is_shut ct_Room_is_shut), f_vet_strides, (PySem.W.fnOf "vet_strides" "vet_strides" (defArgs s_vet_strides) (defBody s_vet_strides) (defScope s_vet_strides) .none kV_vet_strides dc_vet_strides pm_vet_strides an_vet_strides cd_vet_strides ct_vet_strides), f_cells_by, (PySem.W.fnOf "cells_by" "cells_by" (defArgs s_cells_by) (defBody s_cells_by) (defScope s_cells_by) .none kV_cells_by dc_cells_by pm_cells_by an_cells_by cd_cells_by ct_cells_by), f_vet_cells, (PySem.W.fnOf "vet_cells" "vet_cells" (defArgs s_vet_cells) (defBody s_vet_cells) (defScope s_vet_cells) .none kV_vet_cells dc_vet_cells pm_vet_cells an_vet_cells cd_vet_cells ct_vet_cells), f_View_init, (PySem.W.fnOf "__init__" "View.__init__" (defArgs s_View_init) (defBody s_View_init) (defScope s_View_init) (.ref Tv) (.ref Dv) dc_View_init pm_View_init an_View_init cd_View_init ct_View_init), f_View_tell, (PySem.W.fnOf "tell" "View.tell" (defArgs s_View_tell) (defBody s_View_tell) (defScope s_View_tell) .none kV_View_tell dc_View_tell pm_View_tell an_View_tell cd_View_tell ct_View_tell), f_View_room, (PySem.W.fnOf "room" "View.room" (defArgs s_View_room) (defBody s_View_room) (defScope s_View_room) .none kV_View_room dc_View_room pm_View_room an_View_room cd_View_room ct_View_room), f_View_sides, (PySem.W.fnOf "sides" "View.sides" (defArgs s_View_sides) (defBody s_View_sides) (defScope s_View_sides) .none kV_View_sides dc_View_sides pm_View_sides an_View_sides cd_View_sides ct_View_sides), f_View_first, (PySem.W.fnOf "first" "View.first" (defArgs s_View_first) (defBody s_View_first) (defScope s_View_first) .none kV_View_first dc_View_first pm_View_first an_View_first cd_View_first ct_View_first), f_View_strides, (PySem.W.fnOf "strides" "View.strides" (defArgs s_View_strides) (defBody s_View_strides) (defScope s_View_strides) .none kV_View_strides dc_View_strides pm_View_strides an_View_strides cd_View_strides ct_View_strides), f_View_cells, (PySem.W.fnOf "cells" "View.cells" (defArgs s_View_cells) (defBody s_View_cells) (defScope s_View_cells) .none kV_View_cells dc_View_cells pm_View_cells an_View_cells cd_View_cells ct_View_cells), f_View_cell, (PySem.W.fnOf "cell" "View.cell" (defArgs s_View_cell) (defBody s_View_cell) (defScope s_View_cell) .none kV_View_cell dc_View_cell pm_View_cell an_View_cell cd_View_cell ct_View_cell), f_View_at, (PySem.W.fnOf "at" "View.at" (defArgs s_View_at) (defBody s_View_at) (defScope s_View_at) .none kV_View_at dc_View_at pm_View_at an_View_at cd_View_at ct_View_at), f_View_put, (PySem.W.fnOf "put" "View.put" (defArgs s_View_put) (defBody s_View_put) (defScope s_View_put) .none kV_View_put dc_View_put pm_View_put an_View_put cd_View_put ct_View_put), f_View_numbers, (PySem.W.fnOf "numbers" "View.numbers" (defArgs s_View_numbers) (defBody s_View_numbers) (defScope s_View_numbers) .none kV_View_numbers dc_View_numbers pm_View_numbers an_View_numbers cd_View_numbers ct_View_numbers), f_View_twin, (PySem.W.fnOf "twin" "View.twin" (defArgs s_View_twin) (defBody s_View_twin) (defScope s_View_twin) .none kV_View_twin dc_View_twin pm_View_twin an_View_twin cd_View_twin ct_View_twin), f_plain_view, (PySem.W.fnOf "plain_view" "plain_view" (defArgs s_plain_view) (defBody s_plain_view) (defScope s_plain_view) .none kV_plain_view dc_plain_view pm_plain_view an_plain_view cd_plain_view ct_plain_view), f_wide_stride, (PySem.W.fnOf "wide_stride" "wide_stride" (defArgs s_wide_stride) (defBody s_wide_stride) (defScope s_wide_stride) .none kV_wide_stride dc_wide_stride pm_wide_stride an_wide_stride cd_wide_stride ct_wide_stride), f_widened, (PySem.W.fnOf "widened" "widened" (defArgs s_widened) (defBody s_widened) (defScope s_widened) .none kV_widened dc_widened pm_widened an_widened cd_widened ct_widened), f_twice_in, (PySem.W.fnOf "twice_in" "twice_in" (defArgs s_twice_in) (defBody s_twice_in) (defScope s_twice_in) .none kV_twice_in dc_twice_in pm_twice_in an_twice_in cd_twice_in ct_twice_in), f_need_unlike, (PySem.W.fnOf "need_unlike" "need_unlike" (defArgs s_need_unlike) (defBody s_need_unlike) (defScope s_need_unlike) .none kV_need_unlike dc_need_unlike pm_need_unlike an_need_unlike cd_need_unlike ct_need_unlike), f_need_open, (PySem.W.fnOf "need_open" "need_open" (defArgs s_need_open) (defBody s_need_open) (defScope s_need_open) .none kV_need_open dc_need_open pm_need_open an_need_open cd_need_open ct_need_open), f_written, (PySem.W.fnOf "written" "written" (defArgs s_written) (defBody s_written) (defScope s_written) .none kV_written dc_written pm_written an_written cd_written ct_written), f_filled, (PySem.W.fnOf "filled" "filled" (defArgs s_filled) (defBody s_filled) (defScope s_filled) .none kV_filled dc_filled pm_filled an_filled cd_filled ct_filled), f_readers, (PySem.W.fnOf "readers" "readers" (defArgs s_readers) (defBody s_readers) (defScope s_readers) .none kV_readers dc_readers pm_readers an_readers cd_readers ct_readers), f_moved_first, (PySem.W.fnOf "moved_first" "moved_first" (defArgs s_moved_first) (defBody s_moved_first) (defScope s_moved_first) .none kV_moved_first dc_moved_first pm_moved_first an_moved_first cd_moved_first ct_moved_first), f_rings_left, (PySem.W.fnOf "rings_left" "rings_left" (defArgs s_rings_left) (defBody s_rings_left) (defScope s_rings_left) .none kV_rings_left dc_rings_left pm_rings_left an_rings_left cd_rings_left ct_rings_left), f_way_of, (PySem.W.fnOf "way_of" "way_of" (defArgs s_way_of) (defBody s_way_of) (defScope s_way_of) .none kV_way_of dc_way_of pm_way_of an_way_of cd_way_of ct_way_of), f_l_purse, (PySem.W.fnOf "_law_purse" "_law_purse" (defArgs s_l_purse) (defBody s_l_purse) (defScope s_l_purse) .none kV_l_purse dc_l_purse pm_l_purse an_l_purse cd_l_purse ct_l_purse), f_l_take, (PySem.W.fnOf "_law_take" "_law_take" (defArgs s_l_take) (defBody s_l_take) (defScope s_l_take) .none kV_l_take dc_l_take pm_l_take an_l_take cd_l_take ct_l_take), f_l_places, (PySem.W.fnOf "_law_places" "_law_places" (defArgs s_l_places) (defBody s_l_places) (defScope s_l_places) .none kV_l_places dc_l_places pm_l_places an_l_places cd_l_places ct_l_places), f_l_cells, (PySem.W.fnOf "_law_cells" "_law_cells" (defArgs s_l_cells) (defBody s_l_cells) (defScope s_l_cells) .none kV_l_cells dc_l_cells pm_l_cells an_l_cells cd_l_cells ct_l_cells), f_l_lengths, (PySem.W.fnOf "_law_lengths" "_law_lengths" (defArgs s_l_lengths) (defBody s_l_lengths) (defScope s_l_lengths) .none kV_l_lengths dc_l_lengths pm_l_lengths an_l_lengths cd_l_lengths ct_l_lengths), f_l_number, (PySem.W.fnOf "_law_number" "_law_number" (defArgs s_l_number) (defBody s_l_number) (defScope s_l_number) .none kV_l_number dc_l_number pm_l_number an_l_number cd_l_number ct_l_number), f_l_steps, (PySem.W.fnOf "_law_steps" "_law_steps" (defArgs s_l_steps) (defBody s_l_steps) (defScope s_l_steps) .none kV_l_steps dc_l_steps pm_l_steps an_l_steps cd_l_steps ct_l_steps), f_l_reach, (PySem.W.fnOf "_law_reach" "_law_reach" (defArgs s_l_reach) (defBody s_l_reach) (defScope s_l_reach) .none kV_l_reach dc_l_reach pm_l_reach an_l_reach cd_l_reach ct_l_reach), f_l_room, (PySem.W.fnOf "_law_room" "_law_room" (defArgs s_l_room) (defBody s_l_room) (defScope s_l_room) .none kV_l_room dc_l_room pm_l_room an_l_room cd_l_room ct_l_room), f_l_unlike_steps, (PySem.W.fnOf "_law_unlike_steps" "_law_unlike_steps" (defArgs s_l_unlike_steps) (defBody s_l_unlike_steps) (defScope s_l_unlike_steps) .none kV_l_unlike_steps dc_l_unlike_steps pm_l_unlike_steps an_l_unlike_steps cd_l_unlike_steps ct_l_unlike_steps), f_l_source, (PySem.W.fnOf "_law_source" "_law_source" (defArgs s_l_source) (defBody s_l_source) (defScope s_l_source) .none kV_l_source dc_l_source pm_l_source an_l_source cd_l_source ct_l_source), f_l_over, (PySem.W.fnOf "_law_over" "_law_over" (defArgs s_l_over) (defBody s_l_over) (defScope s_l_over) .none kV_l_over dc_l_over pm_l_over an_l_over cd_l_over ct_l_over), f_l_wide, (PySem.W.fnOf "_law_wide" "_law_wide" (defArgs s_l_wide) (defBody s_l_wide) (defScope s_l_wide) .none kV_l_wide dc_l_wide pm_l_wide an_l_wide cd_l_wide ct_l_wide), f_l_unfit, (PySem.W.fnOf "_law_unfit" "_law_unfit" (defArgs s_l_unfit) (defBody s_l_unfit) (defScope s_l_unfit) .none kV_l_unfit dc_l_unfit pm_l_unfit an_l_unfit cd_l_unfit ct_l_unfit), f_l_more, (PySem.W.fnOf "_law_more" "_law_more" (defArgs s_l_more) (defBody s_l_more) (defScope s_l_more) .none kV_l_more dc_l_more pm_l_more an_l_more cd_l_more ct_l_more), f_l_walk, (PySem.W.fnOf "_law_walk" "_law_walk" (defArgs s_l_walk) (defBody s_l_walk) (defScope s_l_walk) .none kV_l_walk dc_l_walk pm_l_walk an_l_walk cd_l_walk ct_l_walk), f_l_deed, (PySem.W.fnOf "_law_deed" "_law_deed" (defArgs s_l_deed) (defBody s_l_deed) (defScope s_l_deed) .none kV_l_deed dc_l_deed pm_l_deed an_l_deed cd_l_deed ct_l_deed), fa, (PySem.W.fnOf "law" "law" (defArgs s_law) (defBody s_law) (defScope s_law) .none kV_law dc_law pm_law an_law cd_law ct_law)⟩
  have kwR : ∀ q ∈ ([("page", .int 8)] : List (Str × V)), ∃ u, PySem.W.nsIn K Dr q.1 = some (some u) ∧ RelV q.2 u := fun q hq => by
    rcases List.mem_cons.mp hq with e | e
    · subst e; exact ⟨_, h_Dr_page, _, rfl⟩
    · cases e
  have kwV : ∀ q ∈ ([("first", .int 0), ("strides", .non)] : List (Str × V)), ∃ u, PySem.W.nsIn K Dv q.1 = some (some u) ∧ RelV q.2 u := fun q hq => by
    rcases List.mem_cons.mp hq with e | e
    · subst e; exact ⟨_, h_Dv_first, _, rfl⟩
    · rcases List.mem_cons.mp e with e | e
      · subst e; exact ⟨_, h_Dv_strides, rfl⟩
      · cases e
  have T : Tx K mg a := ⟨PySem.W.mg_none_of X G h_n_isinstance,
    PySem.W.mg_none_of X G h_n_int,
    PySem.W.mg_none_of X G h_n_bool,
    PySem.W.mg_none_of X G h_n_len,
    PySem.W.mg_none_of X G h_n_max,
    PySem.W.mg_none_of X G h_n_min,
    PySem.W.mg_none_of X G h_n_tuple,
    PySem.W.mg_none_of X G h_n_list,
    PySem.W.mg_none_of X G h_n_range,
    PySem.W.mg_none_of X G h_n_zip,
    PySem.W.mg_none_of X G h_n_enumerate,
    PySem.W.mg_none_of X G h_n_reversed,
    PySem.W.mg_none_of X G h_n_sum,
    PySem.W.mg_none_of X G h_n_abs,
    PySem.W.mg_none_of X G h_n_set,
    ⟨_, PySem.W.mg_of X G h_m_MOST_PLACES⟩,
    ⟨_, PySem.W.mg_of X G h_m_MOST_SIDES⟩,
    ⟨_, PySem.W.mg_of X G h_m_MOST_STRIDE⟩,
    ⟨h_pg_Page, h_hd_Page, h_po_Page, h_sa_Page⟩,
    PySem.W.mg_of X G h_a_Page,
    ⟨h_mk_Page, h_a_Page_init, h_i_Page_init, h_kc_Page⟩,
    h_na_Page_kept,
    h_na_Page_holders,
    ⟨h_pg_Room, h_hd_Room, h_po_Room, h_sa_Room⟩,
    PySem.W.mg_of X G h_a_Room,
    ⟨h_mk_Room, h_a_Room_init, h_i_Room_init, h_kc_Room⟩,
    h_na_Room_many,
    h_na_Room_width,
    h_na_Room_pages,
    h_na_Room_copies,
    h_na_Room_shuts,
    ⟨h_pg_View, h_hd_View, h_po_View, h_sa_View⟩,
    PySem.W.mg_of X G h_a_View,
    ⟨h_mk_View, h_a_View_init, h_i_View_init, h_kc_View⟩,
    h_na_View_held,
    h_na_View_lengths,
    h_na_View_begin,
    h_na_View_steps,
    ⟨_, _, _, _, _, _, _, _, _, _, _, _, _, _, _, _, h_nc_o, h_nc_ok, h_nc_eq, h_nc_ne⟩,
    fun_mk (st := s_is_whole) h_l_is_whole h_c_is_whole h_k_is_whole,
    PySem.W.mg_of X G h_a_is_whole,
    fun_mk (st := s_size_of) h_l_size_of h_c_size_of h_k_size_of,
    PySem.W.mg_of X G h_a_size_of,
    fun_mk (st := s_vet_size) h_l_vet_size h_c_vet_size h_k_vet_size,
    PySem.W.mg_of X G h_a_vet_size,
    fun_mk (st := s_vet_sides) h_l_vet_sides h_c_vet_sides h_k_vet_sides,
    PySem.W.mg_of X G h_a_vet_sides,
    fun_mk (st := s_places_of) h_l_places_of h_c_places_of h_k_places_of,
    PySem.W.mg_of X G h_a_places_of,
    fun_mk (st := s_whole_place) h_l_whole_place h_c_whole_place h_k_whole_place,
    PySem.W.mg_of X G h_a_whole_place,
    fun_mk (st := s_dense_strides) h_l_dense_strides h_c_dense_strides h_k_dense_strides,
    PySem.W.mg_of X G h_a_dense_strides,
    fun_mk (st := s_Page_init) h_l_Page_init h_c_Page_init h_k_Page_init,
    ⟨⟨_, _, _, _, _, _, _, _, _, _, rfl, h_l_Room_init, h_c_Room_init, .inr ⟨by simp, Tr, _, _, _, rfl, h_Tr_o, rfl, .cons rfl .nil⟩, .inr ⟨Dr, rfl, kwR⟩⟩, h_k_Room_init⟩,
    fun_mk (st := s_Room_len) h_l_Room_len h_c_Room_len h_k_Room_len,
    ⟨h_a_Room_len, h_i_Room_len, h_k_Room_len⟩,
    fun_mk (st := s_Room_need) h_l_Room_need h_c_Room_need h_k_Room_need,
    ⟨h_a_Room_need, h_i_Room_need, h_k_Room_need⟩,
    fun_mk (st := s_Room_read) h_l_Room_read h_c_Room_read h_k_Room_read,
    ⟨h_a_Room_read, h_i_Room_read, h_k_Room_read⟩,
    fun_mk (st := s_Room_own_page) h_l_Room_own_page h_c_Room_own_page h_k_Room_own_page,
    ⟨h_a_Room_own_page, h_i_Room_own_page, h_k_Room_own_page⟩,
    fun_mk (st := s_Room_write) h_l_Room_write h_c_Room_write h_k_Room_write,
    ⟨h_a_Room_write, h_i_Room_write, h_k_Room_write⟩,
    fun_mk (st := s_Room_numbers) h_l_Room_numbers h_c_Room_numbers h_k_Room_numbers,
    ⟨h_a_Room_numbers, h_i_Room_numbers, h_k_Room_numbers⟩,
    fun_mk (st := s_Room_twin) h_l_Room_twin h_c_Room_twin h_k_Room_twin,
    ⟨h_a_Room_twin, h_i_Room_twin, h_k_Room_twin⟩,
    fun_mk (st := s_Room_is_shut) h_l_Room_is_shut h_c_Room_is_shut h_k_Room_is_shut,
    ⟨h_a_Room_is_shut, h_i_Room_is_shut, h_k_Room_is_shut⟩,
    fun_mk (st := s_vet_strides) h_l_vet_strides h_c_vet_strides h_k_vet_strides,
    PySem.W.mg_of X G h_a_vet_strides,
    fun_mk (st := s_cells_by) h_l_cells_by h_c_cells_by h_k_cells_by,
    PySem.W.mg_of X G h_a_cells_by,
    fun_mk (st := s_vet_cells) h_l_vet_cells h_c_vet_cells h_k_vet_cells,
    PySem.W.mg_of X G h_a_vet_cells,
    ⟨⟨_, _, _, _, _, _, _, _, _, _, rfl, h_l_View_init, h_c_View_init, .inr ⟨by simp, Tv, _, _, _, rfl, h_Tv_o, rfl, .cons rfl .nil⟩, .inr ⟨Dv, rfl, kwV⟩⟩, h_k_View_init⟩,
    fun_mk (st := s_View_tell) h_l_View_tell h_c_View_tell h_k_View_tell,
    ⟨h_a_View_tell, h_i_View_tell, h_k_View_tell⟩,
    fun_mk (st := s_View_room) h_l_View_room h_c_View_room h_k_View_room,
    ⟨h_a_View_room, h_i_View_room, h_k_View_room⟩,
    fun_mk (st := s_View_sides) h_l_View_sides h_c_View_sides h_k_View_sides,
    ⟨h_a_View_sides, h_i_View_sides, h_k_View_sides⟩,
    fun_mk (st := s_View_first) h_l_View_first h_c_View_first h_k_View_first,
    ⟨h_a_View_first, h_i_View_first, h_k_View_first⟩,
    fun_mk (st := s_View_strides) h_l_View_strides h_c_View_strides h_k_View_strides,
    ⟨h_a_View_strides, h_i_View_strides, h_k_View_strides⟩,
    fun_mk (st := s_View_cells) h_l_View_cells h_c_View_cells h_k_View_cells,
    ⟨h_a_View_cells, h_i_View_cells, h_k_View_cells⟩,
    fun_mk (st := s_View_cell) h_l_View_cell h_c_View_cell h_k_View_cell,
    ⟨h_a_View_cell, h_i_View_cell, h_k_View_cell⟩,
    fun_mk (st := s_View_at) h_l_View_at h_c_View_at h_k_View_at,
    ⟨h_a_View_at, h_i_View_at, h_k_View_at⟩,
    fun_mk (st := s_View_put) h_l_View_put h_c_View_put h_k_View_put,
    ⟨h_a_View_put, h_i_View_put, h_k_View_put⟩,
    fun_mk (st := s_View_numbers) h_l_View_numbers h_c_View_numbers h_k_View_numbers,
    ⟨h_a_View_numbers, h_i_View_numbers, h_k_View_numbers⟩,
    fun_mk (st := s_View_twin) h_l_View_twin h_c_View_twin h_k_View_twin,
    ⟨h_a_View_twin, h_i_View_twin, h_k_View_twin⟩,
    fun_mk (st := s_plain_view) h_l_plain_view h_c_plain_view h_k_plain_view,
    PySem.W.mg_of X G h_a_plain_view,
    fun_mk (st := s_wide_stride) h_l_wide_stride h_c_wide_stride h_k_wide_stride,
    PySem.W.mg_of X G h_a_wide_stride,
    fun_mk (st := s_widened) h_l_widened h_c_widened h_k_widened,
    PySem.W.mg_of X G h_a_widened,
    fun_mk (st := s_twice_in) h_l_twice_in h_c_twice_in h_k_twice_in,
    PySem.W.mg_of X G h_a_twice_in,
    fun_mk (st := s_need_unlike) h_l_need_unlike h_c_need_unlike h_k_need_unlike,
    PySem.W.mg_of X G h_a_need_unlike,
    fun_mk (st := s_need_open) h_l_need_open h_c_need_open h_k_need_open,
    PySem.W.mg_of X G h_a_need_open,
    fun_mk (st := s_written) h_l_written h_c_written h_k_written,
    PySem.W.mg_of X G h_a_written,
    fun_mk (st := s_filled) h_l_filled h_c_filled h_k_filled,
    PySem.W.mg_of X G h_a_filled,
    fun_mk (st := s_readers) h_l_readers h_c_readers h_k_readers,
    PySem.W.mg_of X G h_a_readers,
    fun_mk (st := s_moved_first) h_l_moved_first h_c_moved_first h_k_moved_first,
    PySem.W.mg_of X G h_a_moved_first,
    fun_mk (st := s_rings_left) h_l_rings_left h_c_rings_left h_k_rings_left,
    PySem.W.mg_of X G h_a_rings_left,
    fun_mk (st := s_way_of) h_l_way_of h_c_way_of h_k_way_of,
    PySem.W.mg_of X G h_a_way_of,
    fun_mk (st := s_l_purse) h_l_l_purse h_c_l_purse h_k_l_purse,
    PySem.W.mg_of X G h_a_l_purse,
    fun_mk (st := s_l_take) h_l_l_take h_c_l_take h_k_l_take,
    PySem.W.mg_of X G h_a_l_take,
    fun_mk (st := s_l_places) h_l_l_places h_c_l_places h_k_l_places,
    PySem.W.mg_of X G h_a_l_places,
    fun_mk (st := s_l_cells) h_l_l_cells h_c_l_cells h_k_l_cells,
    PySem.W.mg_of X G h_a_l_cells,
    fun_mk (st := s_l_lengths) h_l_l_lengths h_c_l_lengths h_k_l_lengths,
    PySem.W.mg_of X G h_a_l_lengths,
    fun_mk (st := s_l_number) h_l_l_number h_c_l_number h_k_l_number,
    PySem.W.mg_of X G h_a_l_number,
    fun_mk (st := s_l_steps) h_l_l_steps h_c_l_steps h_k_l_steps,
    PySem.W.mg_of X G h_a_l_steps,
    fun_mk (st := s_l_reach) h_l_l_reach h_c_l_reach h_k_l_reach,
    PySem.W.mg_of X G h_a_l_reach,
    fun_mk (st := s_l_room) h_l_l_room h_c_l_room h_k_l_room,
    PySem.W.mg_of X G h_a_l_room,
    fun_mk (st := s_l_unlike_steps) h_l_l_unlike_steps h_c_l_unlike_steps h_k_l_unlike_steps,
    PySem.W.mg_of X G h_a_l_unlike_steps,
    fun_mk (st := s_l_source) h_l_l_source h_c_l_source h_k_l_source,
    PySem.W.mg_of X G h_a_l_source,
    fun_mk (st := s_l_over) h_l_l_over h_c_l_over h_k_l_over,
    PySem.W.mg_of X G h_a_l_over,
    fun_mk (st := s_l_wide) h_l_l_wide h_c_l_wide h_k_l_wide,
    PySem.W.mg_of X G h_a_l_wide,
    fun_mk (st := s_l_unfit) h_l_l_unfit h_c_l_unfit h_k_l_unfit,
    PySem.W.mg_of X G h_a_l_unfit,
    fun_mk (st := s_l_more) h_l_l_more h_c_l_more h_k_l_more,
    PySem.W.mg_of X G h_a_l_more,
    fun_mk (st := s_l_walk) h_l_l_walk h_c_l_walk h_k_l_walk,
    PySem.W.mg_of X G h_a_l_walk,
    fun_mk (st := s_l_deed) h_l_l_deed h_c_l_deed h_k_l_deed,
    PySem.W.mg_of X G h_a_l_deed,
    fun_mk (st := s_law) h_l_law h_c_law h_k_law,
    PySem.W.mg_of X G h_a_law⟩
  exact ⟨a.fd_law, fun s v => .of_eq rfl, fun base _ _ => ok_law (P := l.prog) (w := w) (base := base) T⟩
theorem walk {l : PySem.W.OpenLaw} {q : Program} {loose : List Str} {XP : (Str → Option Value) → Heap → Prop} {YP : World → Heap → Prop} {d : DefRec} {K : Params → PySem.W.Frag} (hn : l.most = some 63) (hdf : d.params.defaults = [])
    (hY : ∀ (w : World) (h : Heap), YP w h → (K w.params).In h)
    (F : ∀ (w : World) (mg : Str → Option Value) (fa : Addr) (h : Heap), (K w.params).In h → h.Ns mainGlobals mg → mg d.name = some (.ref fa) →
      ∃ fd : FuncData, (∀ (s : Shared) (u : Value), BindsTo s fd ⟨[u], []⟩ [("_law_script", u)]) ∧ ∀ base : Heap, (K w.params).In base → base.Ns mainGlobals mg → FnOk l.prog w (K w.params) mg base CX0 10 fa fd ["_law_script"] (sp_law (K w.params))) :
    PySem.W.WalkO q loose XP YP l.row.toRowW d [] (fun f vs => PySem.call f vs) :=
  L2.walk_of (n := 63) (k := 10) (x := "_law_script") (CX := fun _ => CX0) (sp := fun w => sp_law (K w.params)) hn (by decide) hdf ⟨rfl, by decide, by decide⟩ hY F (fun _ _ a ns hl _ hS => ⟨a, ns, rfl, hS, hl, fun _ => rfl⟩) fun _ _ _ _ _ z => z
end VG

set_option Elab.async false
set_option maxRecDepth 100000
open PySem PySem.W PyProof.Rows in
set_option maxRecDepth 100000 in
set_option maxHeartbeats 0 in
theorem PySem.Challenge.cw_viewgrid_k45_whole_as_a_copy_ahead_holds : PySem.Challenge.rw_viewgrid_k45_whole_as_a_copy_ahead.Holds := by
  w_on; o_law; k_head; (case hw => w_witness2)
  k_fill
  refine VG.walk (l := PySem.Challenge.rw_viewgrid_k45_whole_as_a_copy_ahead) rfl rfl (fun w h Y => PySem.W.kIn_of Y) ?F
  case F =>
    intro w mg fa h KX G hmg
    refine' VG.all_mk KX G hmg ?n_isinstance ?n_int ?n_bool ?n_len ?n_max ?n_min ?n_tuple ?n_list ?n_range ?n_zip ?n_enumerate ?n_reversed ?n_sum ?n_abs ?n_set ?m_MOST_PLACES ?m_MOST_SIDES ?m_MOST_STRIDE ?a_Page ?pg_Page ?hd_Page ?po_Page ?sa_Page ?mk_Page ?kc_Page ?na_Page_kept ?na_Page_holders ?a_Room ?pg_Room ?hd_Room ?po_Room ?sa_Room ?mk_Room ?kc_Room ?na_Room_many ?na_Room_width ?na_Room_pages ?na_Room_copies ?na_Room_shuts ?a_View ?pg_View ?hd_View ?po_View ?sa_View ?mk_View ?kc_View ?na_View_held ?na_View_lengths ?na_View_begin ?na_View_steps ?nc_o ?nc_ok ?nc_eq ?nc_ne ?a_is_whole ?l_is_whole ?c_is_whole ?k_is_whole ?a_size_of ?l_size_of ?c_size_of ?k_size_of ?a_vet_size ?l_vet_size ?c_vet_size ?k_vet_size ?a_vet_sides ?l_vet_sides ?c_vet_sides ?k_vet_sides ?a_places_of ?l_places_of ?c_places_of ?k_places_of ?a_whole_place ?l_whole_place ?c_whole_place ?k_whole_place ?a_dense_strides ?l_dense_strides ?c_dense_strides ?k_dense_strides ?a_Page_init ?i_Page_init ?l_Page_init ?c_Page_init ?k_Page_init ?a_Room_init ?i_Room_init ?l_Room_init ?c_Room_init ?k_Room_init ?a_Room_len ?i_Room_len ?l_Room_len ?c_Room_len ?k_Room_len ?a_Room_need ?i_Room_need ?l_Room_need ?c_Room_need ?k_Room_need ?a_Room_read ?i_Room_read ?l_Room_read ?c_Room_read ?k_Room_read ?a_Room_own_page ?i_Room_own_page ?l_Room_own_page ?c_Room_own_page ?k_Room_own_page ?a_Room_write ?i_Room_write ?l_Room_write ?c_Room_write ?k_Room_write ?a_Room_numbers ?i_Room_numbers ?l_Room_numbers ?c_Room_numbers ?k_Room_numbers ?a_Room_twin ?i_Room_twin ?l_Room_twin ?c_Room_twin ?k_Room_twin ?a_Room_is_shut ?i_Room_is_shut ?l_Room_is_shut ?c_Room_is_shut ?k_Room_is_shut ?a_vet_strides ?l_vet_strides ?c_vet_strides ?k_vet_strides ?a_cells_by ?l_cells_by ?c_cells_by ?k_cells_by ?a_vet_cells ?l_vet_cells ?c_vet_cells ?k_vet_cells ?a_View_init ?i_View_init ?l_View_init ?c_View_init ?k_View_init ?a_View_tell ?i_View_tell ?l_View_tell ?c_View_tell ?k_View_tell ?a_View_room ?i_View_room ?l_View_room ?c_View_room ?k_View_room ?a_View_sides ?i_View_sides ?l_View_sides ?c_View_sides ?k_View_sides ?a_View_first ?i_View_first ?l_View_first ?c_View_first ?k_View_first ?a_View_strides ?i_View_strides ?l_View_strides ?c_View_strides ?k_View_strides ?a_View_cells ?i_View_cells ?l_View_cells ?c_View_cells ?k_View_cells ?a_View_cell ?i_View_cell ?l_View_cell ?c_View_cell ?k_View_cell ?a_View_at ?i_View_at ?l_View_at ?c_View_at ?k_View_at ?a_View_put ?i_View_put ?l_View_put ?c_View_put ?k_View_put ?a_View_numbers ?i_View_numbers ?l_View_numbers ?c_View_numbers ?k_View_numbers ?a_View_twin ?i_View_twin ?l_View_twin ?c_View_twin ?k_View_twin ?a_plain_view ?l_plain_view ?c_plain_view ?k_plain_view ?a_wide_stride ?l_wide_stride ?c_wide_stride ?k_wide_stride ?a_widened ?l_widened ?c_widened ?k_widened ?a_twice_in ?l_twice_in ?c_twice_in ?k_twice_in ?a_need_unlike ?l_need_unlike ?c_need_unlike ?k_need_unlike ?a_need_open ?l_need_open ?c_need_open ?k_need_open ?a_written ?l_written ?c_written ?k_written ?a_filled ?l_filled ?c_filled ?k_filled ?a_readers ?l_readers ?c_readers ?k_readers ?a_moved_first ?l_moved_first ?c_moved_first ?k_moved_first ?a_rings_left ?l_rings_left ?c_rings_left ?k_rings_left ?a_way_of ?l_way_of ?c_way_of ?k_way_of ?a_l_purse ?l_l_purse ?c_l_purse ?k_l_purse ?a_l_take ?l_l_take ?c_l_take ?k_l_take ?a_l_places ?l_l_places ?c_l_places ?k_l_places ?a_l_cells ?l_l_cells ?c_l_cells ?k_l_cells ?a_l_lengths ?l_l_lengths ?c_l_lengths ?k_l_lengths ?a_l_number ?l_l_number ?c_l_number ?k_l_number ?a_l_steps ?l_l_steps ?c_l_steps ?k_l_steps ?a_l_reach ?l_l_reach ?c_l_reach ?k_l_reach ?a_l_room ?l_l_room ?c_l_room ?k_l_room ?a_l_unlike_steps ?l_l_unlike_steps ?c_l_unlike_steps ?k_l_unlike_steps ?a_l_source ?l_l_source ?c_l_source ?k_l_source ?a_l_over ?l_l_over ?c_l_over ?k_l_over ?a_l_wide ?l_l_wide ?c_l_wide ?k_l_wide ?a_l_unfit ?l_l_unfit ?c_l_unfit ?k_l_unfit ?a_l_more ?l_l_more ?c_l_more ?k_l_more ?a_l_walk ?l_l_walk ?c_l_walk ?k_l_walk ?a_l_deed ?l_l_deed ?c_l_deed ?k_l_deed ?a_law ?l_law ?c_law ?k_law ?Tr_o ?Dr_page ?Tv_o ?Dv_first ?Dv_strides
    (case n_isinstance => k_is)
    (case n_int => k_is)
    (case n_bool => k_is)
    (case n_len => k_is)
    (case n_max => k_is)
    (case n_min => k_is)
    (case n_tuple => k_is)
    (case n_list => k_is)
    (case n_range => k_is)
    (case n_zip => k_is)
    (case n_enumerate => k_is)
    (case n_reversed => k_is)
    (case n_sum => k_is)
    (case n_abs => k_is)
    (case n_set => k_is)
    (case m_MOST_PLACES => k_is)
    (case m_MOST_SIDES => k_is)
    (case m_MOST_STRIDE => k_is)
    (case a_Page => k_is)
    (case pg_Page => k_is)
    (case hd_Page => k_is)
    (case po_Page => k_is)
    (case sa_Page => k_is)
    (case mk_Page => k_is)
    (case kc_Page => k_is)
    (case na_Page_kept => k_is)
    (case na_Page_holders => k_is)
    (case a_Room => k_is)
    (case pg_Room => k_is)
    (case hd_Room => k_is)
    (case po_Room => k_is)
    (case sa_Room => k_is)
    (case mk_Room => k_is)
    (case kc_Room => k_is)
    (case na_Room_many => k_is)
    (case na_Room_width => k_is)
    (case na_Room_pages => k_is)
    (case na_Room_copies => k_is)
    (case na_Room_shuts => k_is)
    (case a_View => k_is)
    (case pg_View => k_is)
    (case hd_View => k_is)
    (case po_View => k_is)
    (case sa_View => k_is)
    (case mk_View => k_is)
    (case kc_View => k_is)
    (case na_View_held => k_is)
    (case na_View_lengths => k_is)
    (case na_View_begin => k_is)
    (case na_View_steps => k_is)
    (case nc_o => k_is)
    (case nc_ok => first | k_is | kernel_rfl! | exact Eq.refl _)
    (case nc_eq => k_is)
    (case nc_ne => k_is)
    (case a_is_whole => k_is)
    (case l_is_whole => k_is)
    (case c_is_whole => k_is)
    (case k_is_whole => k_is)
    (case a_size_of => k_is)
    (case l_size_of => k_is)
    (case c_size_of => k_is)
    (case k_size_of => k_is)
    (case a_vet_size => k_is)
    (case l_vet_size => k_is)
    (case c_vet_size => k_is)
    (case k_vet_size => k_is)
    (case a_vet_sides => k_is)
    (case l_vet_sides => k_is)
    (case c_vet_sides => k_is)
    (case k_vet_sides => k_is)
    (case a_places_of => k_is)
    (case l_places_of => k_is)
    (case c_places_of => k_is)
    (case k_places_of => k_is)
    (case a_whole_place => k_is)
    (case l_whole_place => k_is)
    (case c_whole_place => k_is)
    (case k_whole_place => k_is)
    (case a_dense_strides => k_is)
    (case l_dense_strides => k_is)
    (case c_dense_strides => k_is)
    (case k_dense_strides => k_is)
    (case a_Page_init => k_is)
    (case i_Page_init => k_is)
    (case l_Page_init => k_is)
    (case c_Page_init => k_is)
    (case k_Page_init => k_is)
    (case a_Room_init => k_is)
    (case i_Room_init => k_is)
    (case l_Room_init => k_is)
    (case c_Room_init => k_is)
    (case k_Room_init => k_is)
    (case a_Room_len => k_is)
    (case i_Room_len => k_is)
    (case l_Room_len => k_is)
    (case c_Room_len => k_is)
    (case k_Room_len => k_is)
    (case a_Room_need => k_is)
    (case i_Room_need => k_is)
    (case l_Room_need => k_is)
    (case c_Room_need => k_is)
    (case k_Room_need => k_is)
    (case a_Room_read => k_is)
    (case i_Room_read => k_is)
    (case l_Room_read => k_is)
    (case c_Room_read => k_is)
    (case k_Room_read => k_is)
    (case a_Room_own_page => k_is)
    (case i_Room_own_page => k_is)
    (case l_Room_own_page => k_is)
    (case c_Room_own_page => k_is)
    (case k_Room_own_page => k_is)
    (case a_Room_write => k_is)
    (case i_Room_write => k_is)
    (case l_Room_write => k_is)
    (case c_Room_write => k_is)
    (case k_Room_write => k_is)
    (case a_Room_numbers => k_is)
    (case i_Room_numbers => k_is)
    (case l_Room_numbers => k_is)
    (case c_Room_numbers => k_is)
    (case k_Room_numbers => k_is)
    (case a_Room_twin => k_is)
    (case i_Room_twin => k_is)
    (case l_Room_twin => k_is)
    (case c_Room_twin => k_is)
    (case k_Room_twin => k_is)
    (case a_Room_is_shut => k_is)
    (case i_Room_is_shut => k_is)
    (case l_Room_is_shut => k_is)
    (case c_Room_is_shut => k_is)
    (case k_Room_is_shut => k_is)
    (case a_vet_strides => k_is)
    (case l_vet_strides => k_is)
    (case c_vet_strides => k_is)
    (case k_vet_strides => k_is)
    (case a_cells_by => k_is)
    (case l_cells_by => k_is)
    (case c_cells_by => k_is)
    (case k_cells_by => k_is)
    (case a_vet_cells => k_is)
    (case l_vet_cells => k_is)
    (case c_vet_cells => k_is)
    (case k_vet_cells => k_is)
    (case a_View_init => k_is)
    (case i_View_init => k_is)
    (case l_View_init => k_is)
    (case c_View_init => k_is)
    (case k_View_init => k_is)
    (case a_View_tell => k_is)
    (case i_View_tell => k_is)
    (case l_View_tell => k_is)
    (case c_View_tell => k_is)
    (case k_View_tell => k_is)
    (case a_View_room => k_is)
    (case i_View_room => k_is)
    (case l_View_room => k_is)
    (case c_View_room => k_is)
    (case k_View_room => k_is)
    (case a_View_sides => k_is)
    (case i_View_sides => k_is)
    (case l_View_sides => k_is)
    (case c_View_sides => k_is)
    (case k_View_sides => k_is)
    (case a_View_first => k_is)
    (case i_View_first => k_is)
    (case l_View_first => k_is)
    (case c_View_first => k_is)
    (case k_View_first => k_is)
    (case a_View_strides => k_is)
    (case i_View_strides => k_is)
    (case l_View_strides => k_is)
    (case c_View_strides => k_is)
    (case k_View_strides => k_is)
    (case a_View_cells => k_is)
    (case i_View_cells => k_is)
    (case l_View_cells => k_is)
    (case c_View_cells => k_is)
    (case k_View_cells => k_is)
    (case a_View_cell => k_is)
    (case i_View_cell => k_is)
    (case l_View_cell => k_is)
    (case c_View_cell => k_is)
    (case k_View_cell => k_is)
    (case a_View_at => k_is)
    (case i_View_at => k_is)
    (case l_View_at => k_is)
    (case c_View_at => k_is)
    (case k_View_at => k_is)
    (case a_View_put => k_is)
    (case i_View_put => k_is)
    (case l_View_put => k_is)
    (case c_View_put => k_is)
    (case k_View_put => k_is)
    (case a_View_numbers => k_is)
    (case i_View_numbers => k_is)
    (case l_View_numbers => k_is)
    (case c_View_numbers => k_is)
    (case k_View_numbers => k_is)
    (case a_View_twin => k_is)
    (case i_View_twin => k_is)
    (case l_View_twin => k_is)
    (case c_View_twin => k_is)
    (case k_View_twin => k_is)
    (case a_plain_view => k_is)
    (case l_plain_view => k_is)
    (case c_plain_view => k_is)
    (case k_plain_view => k_is)
    (case a_wide_stride => k_is)
    (case l_wide_stride => k_is)
    (case c_wide_stride => k_is)
    (case k_wide_stride => k_is)
    (case a_widened => k_is)
    (case l_widened => k_is)
    (case c_widened => k_is)
    (case k_widened => k_is)
    (case a_twice_in => k_is)
    (case l_twice_in => k_is)
    (case c_twice_in => k_is)
    (case k_twice_in => k_is)
    (case a_need_unlike => k_is)
    (case l_need_unlike => k_is)
    (case c_need_unlike => k_is)
    (case k_need_unlike => k_is)
    (case a_need_open => k_is)
    (case l_need_open => k_is)
    (case c_need_open => k_is)
    (case k_need_open => k_is)
    (case a_written => k_is)
    (case l_written => k_is)
    (case c_written => k_is)
    (case k_written => k_is)
    (case a_filled => k_is)
    (case l_filled => k_is)
    (case c_filled => k_is)
    (case k_filled => k_is)
    (case a_readers => k_is)
    (case l_readers => k_is)
    (case c_readers => k_is)
    (case k_readers => k_is)
    (case a_moved_first => k_is)
    (case l_moved_first => k_is)
    (case c_moved_first => k_is)
    (case k_moved_first => k_is)
    (case a_rings_left => k_is)
    (case l_rings_left => k_is)
    (case c_rings_left => k_is)
    (case k_rings_left => k_is)
    (case a_way_of => k_is)
    (case l_way_of => k_is)
    (case c_way_of => k_is)
    (case k_way_of => k_is)
    (case a_l_purse => k_is)
    (case l_l_purse => k_is)
    (case c_l_purse => k_is)
    (case k_l_purse => k_is)
    (case a_l_take => k_is)
    (case l_l_take => k_is)
    (case c_l_take => k_is)
    (case k_l_take => k_is)
    (case a_l_places => k_is)
    (case l_l_places => k_is)
    (case c_l_places => k_is)
    (case k_l_places => k_is)
    (case a_l_cells => k_is)
    (case l_l_cells => k_is)
    (case c_l_cells => k_is)
    (case k_l_cells => k_is)
    (case a_l_lengths => k_is)
    (case l_l_lengths => k_is)
    (case c_l_lengths => k_is)
    (case k_l_lengths => k_is)
    (case a_l_number => k_is)
    (case l_l_number => k_is)
    (case c_l_number => k_is)
    (case k_l_number => k_is)
    (case a_l_steps => k_is)
    (case l_l_steps => k_is)
    (case c_l_steps => k_is)
    (case k_l_steps => k_is)
    (case a_l_reach => k_is)
    (case l_l_reach => k_is)
    (case c_l_reach => k_is)
    (case k_l_reach => k_is)
    (case a_l_room => k_is)
    (case l_l_room => k_is)
    (case c_l_room => k_is)
    (case k_l_room => k_is)
    (case a_l_unlike_steps => k_is)
    (case l_l_unlike_steps => k_is)
    (case c_l_unlike_steps => k_is)
    (case k_l_unlike_steps => k_is)
    (case a_l_source => k_is)
    (case l_l_source => k_is)
    (case c_l_source => k_is)
    (case k_l_source => k_is)
    (case a_l_over => k_is)
    (case l_l_over => k_is)
    (case c_l_over => k_is)
    (case k_l_over => k_is)
    (case a_l_wide => k_is)
    (case l_l_wide => k_is)
    (case c_l_wide => k_is)
    (case k_l_wide => k_is)
    (case a_l_unfit => k_is)
    (case l_l_unfit => k_is)
    (case c_l_unfit => k_is)
    (case k_l_unfit => k_is)
    (case a_l_more => k_is)
    (case l_l_more => k_is)
    (case c_l_more => k_is)
    (case k_l_more => k_is)
    (case a_l_walk => k_is)
    (case l_l_walk => k_is)
    (case c_l_walk => k_is)
    (case k_l_walk => k_is)
    (case a_l_deed => k_is)
    (case l_l_deed => k_is)
    (case c_l_deed => k_is)
    (case k_l_deed => k_is)
    (case a_law => k_is)
    (case l_law => k_is)
    (case c_law => k_is)
    (case k_law => k_is)
    (case Tr_o => k_is)
    (case Dr_page => k_is)
    (case Tv_o => k_is)
    (case Dv_first => k_is)
    (case Dv_strides => k_is)
