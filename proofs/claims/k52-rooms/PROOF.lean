import PyProof.Rows.All
import Wide.All
import OpenK.AllK
import Wide.FinOn
import HandS.ForMost
import HandS.ForExc
import HandS.IsInst
import HandS.Walk
import HandS.Zip
import HandS.Wide
import HandS.Flow
import HandS.Small
import HandS.Rev
import HandS.More
import HandS.Steps
import HandS.WideBits
import HandS.TupAny
import KE.GoesEnum
import PyProof.Rows.ChunkEnd
import HandS.ExcInit
import HandS.ExcIs
import HandS.ExcField
import HandS.ClsMeth
import KE.KExcIs
import HandS.TryOnly
import KE.RegKIsAll
import PySem.Challenge.RW_pillarstore_k52_rooms
set_option Elab.async false
set_option linter.all false
set_option maxRecDepth 100000
set_option maxHeartbeats 4000000
/-! PsA: rules that choose by the value at hand, for a printed walk. -/
namespace Ps
open PySem PySem.Spec PyProof.Rows L2

theorem opr_or {X : Cx} {f : Value → Value → Sem Value} {r r' : R2} (h : OpR X f r) (h' : OpR X f r') : OpR X f (fun x y H Q => r x y H Q ∨ r' x y H Q) := by
  intro pins s σ H x y v u Q I rx ry q
  rcases q with q | q
  · exact h pins s σ H x y v u Q I rx ry q
  · exact h' pins s σ H x y v u Q I rx ry q
theorem callr_or {X : Cx} {f : Value} {r r' : List V → Hp → VK → Prop} (h : CallR X f r) (h' : CallR X f r') : CallR X f (fun xs H Q => r xs H Q ∨ r' xs H Q) := by
  intro pins s σ H xs us Q I r q
  rcases q with q | q
  · exact h pins s σ H xs us Q I r q
  · exact h' pins s σ H xs us Q I r q
theorem pi_or {X : Cx} {tg e : Expr} {w w' : TI} (h : PI X tg e w) (h' : PI X tg e w') : PI X tg e (fun σ H R => w σ H R ∨ w' σ H R) := by
  refine ⟨fun pins s σ H R I q => ?_⟩
  rcases q with q | q
  · exact h.run pins s σ H R I q
  · exact h'.run pins s σ H R I q
theorem pset_or {X : Cx} {r r' : TSet} (h : PSet X r) (h' : PSet X r') : PSet X (fun o i v H Q => r o i v H Q ∨ r' o i v H Q) := by
  intro pins s σ H o i v ov iv u Q I ro ri rv q
  rcases q with q | q
  · exact h pins s σ H o i v ov iv u Q I ro ri rv q
  · exact h' pins s σ H o i v ov iv u Q I ro ri rv q

/-! ### operators -/
def rStrAdd : R2 := fun x y H Q => ∃ i j, x = .str i ∧ y = .str j ∧ i.length + j.length ≤ sizeLine ∧ Q (.str (i ++ j)) H
def rAddU (K : PySem.W.Frag) : R2 := fun x y H Q => (rI0 (fun i j => .int (i + j)) x y H Q ∨ rStrAdd x y H Q) ∨ (rCat x y H Q ∨ rCatA K x y H Q)
def rMulU : R2 := fun x y H Q => (rI CMul (fun i j => .int (i * j)) x y H Q ∨ rI CMulW (fun i j => .int (i * j)) x y H Q) ∨ rRep x y H Q
def rDivU : R2 := fun x y H Q => rI CDiv (fun i j => .int (i / j)) x y H Q ∨ rI CDivW (fun i j => .int (i / j)) x y H Q
def rModU : R2 := rI (fun _ j => 0 < j) fun i j => .int (i % j)
def rPowU : R2 := rI CPow fun i j => .int (i ^ j.toNat)
def rSubU : R2 := rI0 fun i j => .int (i - j)
def rIxD : R2 := fun x y H Q => ∃ a v, x = .ref a ∧ DGet H a y (some v) ∧ Q v H
def rIxU (K : PySem.W.Frag) : R2 := fun x y H Q => (rIxL K x y H Q ∨ rIxT K x y H Q) ∨ (rIxS x y H Q ∨ rIxD x y H Q)
def rEqU (K : PySem.W.Frag) : R2 := fun x y H Q => rEq x y H Q ∨ rEqD K x y H Q
def rNeU (K : PySem.W.Frag) : R2 := fun x y H Q => rNe x y H Q ∨ rNeD K x y H Q
def rLtS : R2 := fun x y H Q => ∃ i j, x = .str i ∧ y = .str j ∧ Q (.bl (decide (i.cps.toList < j.cps.toList))) H
def rLtU (K : PySem.W.Frag) : R2 := fun x y H Q => rI0 (fun i j => .bl (decide (i < j))) x y H Q ∨ rLtS x y H Q
def rLeU : R2 := rI0 fun i j => .bl (decide (i ≤ j))
def rGtU : R2 := rI0 fun i j => .bl (decide (j < i))
def rGeU : R2 := rI0 fun i j => .bl (decide (j ≤ i))
def rInD (neg : Bool) : R2 := fun y x H Q => ∃ a o, x = .ref a ∧ DGet H a y o ∧ Q (.bl (if neg then !o.isSome else o.isSome)) H
def rInS (neg : Bool) : R2 := fun x y H Q => ∃ i j, x = .str i ∧ y = .str j ∧ Q (.bl (if neg then !(!(Builtin.Str.occurrences j i 0 j.length 1).isEmpty) else !(Builtin.Str.occurrences j i 0 j.length 1).isEmpty)) H
def rInU (K : PySem.W.Frag) (neg : Bool) : R2 := fun x y H Q => rIn K neg x y H Q ∨ (rInS neg x y H Q ∨ rInD neg x y H Q)
def rIsN : R2 := fun x y H Q => y = .non ∧ Q (.bl (decide (x = .non))) H
def rNotN : R2 := fun x y H Q => y = .non ∧ Q (.bl (!decide (x = .non))) H

section
variable {X : Cx}
theorem op_addU : OpR X (binaryOp .Add) (rAddU X.K) := opr_or (opr_or op_add op_add_str) (opr_or op_cat op_catA)
theorem op_mulU : OpR X (binaryOp .Mult) rMulU := opr_or (opr_or op_mul op_mulW) op_rep
theorem op_divU : OpR X (binaryOp .FloorDiv) rDivU := opr_or op_fdiv op_fdivW
theorem op_modU : OpR X (binaryOp .Mod) rModU := op_mod
theorem op_powU : OpR X (binaryOp .Pow) rPowU := op_pow
theorem op_subU : OpR X (binaryOp .Sub) rSubU := op_sub
theorem op_eqU (hu : X.A.units + 64 < cLine) : OpR X (compareOp .Eq) (rEqU X.K) := opr_or op_eq (op_eqD hu)
theorem op_neU (hu : X.A.units + 64 < cLine) : OpR X (compareOp .NotEq) (rNeU X.K) := opr_or op_ne (op_neD hu)
theorem op_ltU : OpR X (compareOp .Lt) (rLtU X.K) := opr_or op_lt op_lt_str
theorem op_leU : OpR X (compareOp .LtE) rLeU := op_le
theorem op_gtU : OpR X (compareOp .Gt) rGtU := op_gt
theorem op_geU : OpR X (compareOp .GtE) rGeU := op_ge
theorem op_inD (hu : X.A.units + 1 < cLine) : OpR X (compareOp .In) (rInD false) := by
  intro pins s σ H x y v u Q I rx ry h
  obtain ⟨a, o, rfl, g, q⟩ := h
  cases ry
  exact d_in hu I g rx fun s3 I3 => ⟨.bl o.isSome, H, I3, rfl, q⟩
theorem op_niD (hu : X.A.units + 1 < cLine) : OpR X (compareOp .NotIn) (rInD true) := by
  intro pins s σ H x y v u Q I rx ry h
  obtain ⟨a, o, rfl, g, q⟩ := h
  cases ry
  exact d_notIn hu I g rx fun s3 I3 => ⟨.bl (!o.isSome), H, I3, rfl, q⟩
theorem op_inU (hu : X.A.units + 1 < cLine) : OpR X (compareOp .In) (rInU X.K false) := opr_or op_in_seq (opr_or op_in_str (op_inD hu))
theorem op_niU (hu : X.A.units + 1 < cLine) : OpR X (compareOp .NotIn) (rInU X.K true) := opr_or op_notIn_seq (opr_or op_notIn_str (op_niD hu))
theorem op_isNU : OpR X (compareOp .Is) rIsN := op_isN
theorem op_notNU : OpR X (compareOp .IsNot) rNotN := op_notN
theorem ix_dict (hu : X.A.units + 1 < cLine) : IxR X rIxD := by
  intro value slice pins s σ H x y v u Q I rx ry h hs
  obtain ⟨a, z, rfl, g, q⟩ := h
  cases rx
  have hT := dict_typeIs I g
  have h2 : wpAny (model X.prog X.w) X.A (getItem (.ref a) u) (EP X pins σ Q) X.xe s := d_getItem hu I g ry fun w' s3 I3 rw' => ⟨z, H, I3, rw', q⟩
  unfold subscriptTail
  refine wpAny_bind ?_
  rw [getitemInPython_of_ne hT.not_modules]
  refine wpAny_bind (wpAny_specialOf hT PySem.F.slot_dict_getitem.lookup ?_)
  have fin : wpAny (model X.prog X.w) X.A (subscripted slice false (.ref a) u) (fun r s₃ => wpAny (model X.prog X.w) X.A (letTemporaryGo value (.ref a) r >>= fun _ => pure r) (EP X pins σ Q) X.xe s₃) X.xe s := by
    rw [hs]
    exact wpAny_operating (wpAny_mono h2 (fun r s₃ h₃ => wpAny_bind (wpAny_letTemporaryGo (wpAny_pure h₃))) fun _ _ x => x)
  first
    | exact wpAny_pure (wpAny_bind fin)
    | exact wpAny_bind (wpAny_pure (wpAny_bind fin))
    | exact wpAny_bind fin
theorem ix_u (hu : X.A.units + 1 < cLine) : IxR X (rIxU X.K) := (ix_list.or ix_tup).or (ix_str.or (ix_dict hu))
end

/-! ### calls of what is built in -/
def rLenU (K : PySem.W.Frag) : List V → Hp → VK → Prop := fun xs H Q => (∃ x n, xs = [x] ∧ LenV K x H n ∧ Q (.int n) H) ∨ ∃ a kvs, xs = [V.ref a] ∧ Rd H a (.dK kvs) ∧ Q (.int kvs.length) H
def rListU (K : PySem.W.Frag) : List V → Hp → VK → Prop := fun xs H Q => (∃ p ys, xs = [.ref p] ∧ (SqL K H p ys ∨ SqT K H p ys) ∧ ∀ l, H l = none → Q (.ref l) (upd H l (.lst ys))) ∨
  ∃ (a : Addr) (kvs : List (Key × V)), xs = [.ref a] ∧ Rd H a (.dK kvs) ∧ ∀ p, H p = none → Q (.ref p) (upd H p (.lst (kvs.map fun kv => kV kv.1)))
def rTupU (K : PySem.W.Frag) : List V → Hp → VK → Prop := fun xs H Q => ∃ p ys, xs = [.ref p] ∧ ((SqL K H p ys ∧ ∀ l, H l = none → Q (.ref l) (upd H l (.tup ys))) ∨ (SqT K H p ys ∧ Q (.ref p) H))
def rIntU : List V → Hp → VK → Prop := fun xs H Q => (∃ i, xs = [.int i] ∧ Q (.int i) H) ∨ ∃ k, xs = [.bl k] ∧ Q (.int (if k then 1 else 0)) H
def rDivmod : List V → Hp → VK → Prop := fun xs H Q => ∃ i j, xs = [.int i, .int j] ∧ CDivP i j ∧ ∀ p, H p = none → Q (.ref p) (upd H p (.tup [.int (i / j), .int (i % j)]))
def rAbs : List V → Hp → VK → Prop := fun xs H Q => ∃ i, xs = [.int i] ∧ Q (.int (if i < 0 then -i else i)) H
def rMax2 : List V → Hp → VK → Prop := fun xs H Q => ∃ i j, xs = [.int i, .int j] ∧ Q (.int (if j > i then j else i)) H
def rMin2 : List V → Hp → VK → Prop := fun xs H Q => ∃ i j, xs = [.int i, .int j] ∧ Q (.int (if j < i then j else i)) H
def rSetU : TSet := fun o i v H Q => rSetL o i v H Q ∨ rSetD o i v H Q
def rSlU (K : PySem.W.Frag) : V → Option Int → Option Int → Hp → VK → Prop := fun x lo hi H Q => (rSlL K x lo hi H Q ∨ rSlA K x lo hi H Q) ∨ ∃ z, x = .str z ∧ z.length ≤ sizeLine ∧ Q (.str (cutS z lo hi)) H
section
variable {X : Cx}
theorem call_lenDk : CallR X (.builtin "len") (fun xs H Q => ∃ a kvs, xs = [V.ref a] ∧ Rd H a (.dK kvs) ∧ Q (.int kvs.length) H) := by
  intro pins s σ H xs us Q I r h
  obtain ⟨a, kvs, rfl, ha, q⟩ := h
  obtain ⟨u, rfl, ru⟩ := vals1 r
  cases ru
  exact d_len I ha fun t s' I' => ⟨.int kvs.length, H, I', ⟨t, rfl⟩, q⟩
theorem call_lenU : CallR X (.builtin "len") (rLenU X.K) := callr_or call_len call_lenDk
theorem call_listU (hc : X.calm = true) : CallR X (.type "list") (rListU X.K) := callr_or call_list_of (call_listD hc)
theorem call_tupU : CallR X (.type "tuple") (rTupU X.K) := call_tuple_of
theorem call_intU : CallR X (.type "int") rIntU := call_int1
theorem call_divmodU : CallR X (.builtin "divmod") rDivmod := call_divmodW
theorem call_absU : CallR X (.builtin "abs") rAbs := call_abs
theorem call_max2U (hc : X.calm = true) : CallR X (.builtin "max") rMax2 := call_max2 hc
theorem call_min2U (hc : X.calm = true) : CallR X (.builtin "min") rMin2 := call_min2 hc
theorem set_u (hu : X.A.units + 1 < cLine) : PSet X rSetU := pset_or set_list (set_dict hu)
theorem sl_u : SlR X (rSlU X.K) := (sl_list.or sl_tupA).or sl_str
end

/-! ### what is walked -/
/-- a list, a tuple, a text at a name -/
def iSeqV (K : PySem.W.Frag) (tl : TE) : TI := fun σ H R => tl σ H fun x H1 => (∃ a xs, x = .ref a ∧ SqL K H1 a xs ∧ R (Itl K a) H1) ∨ (∃ a xs, x = .ref a ∧ SqT K H1 a xs ∧ R (Itt K a) H1) ∨ ∃ z, x = .str z ∧ R (Its z) H1
section
variable {X : Cx} {tg : Expr}
/-- a value that has come already: the rest of a rule of PE's -/
theorem pi_seqV {l : Expr} {tl : TE} (hl : PE X l tl) : PI X tg l (iSeqV X.K tl) := by
  refine ⟨fun pins s σ H R I h => ?_⟩
  have hA : ∀ (a : Addr) (s1 : Shared) (H1 : Hp), Inv X pins σ H1 s1 → ∀ xs, SqL X.K H1 a xs → R (Itl X.K a) H1 → wpAny (model X.prog X.w) X.A (pyIter (.ref a)) (PIE X pins σ tg R) X.xe s1 := by
    intro a s1 H1 I1 xs hq q
    obtain ⟨its, rv, p, hz⟩ := I1.list hq
    refine wpAny_pyIter_list p.isList ?_
    refine ⟨s1.heap.objs.size, [s1.heap.objs.size], _, _, H1, rfl, I1.kept (t' := s1.toks) fun b o e => Heap.get?_push_of_some _ e, turn_list a _, ⟨_, Heap.get?_push_size _ rfl, rfl, rfl⟩, fun b hb => ?_, q⟩
    have e : b = s1.heap.objs.size := by simpa using hb
    subst e
    exact I1.fpOk (Nat.le_refl _) (I1.hok.fresh (Nat.le_refl _))
  have hB : ∀ (a : Addr) (s1 : Shared) (H1 : Hp), Inv X pins σ H1 s1 → ∀ xs, SqT X.K H1 a xs → R (Itt X.K a) H1 → wpAny (model X.prog X.w) X.A (pyIter (.ref a)) (PIE X pins σ tg R) X.xe s1 := by
    intro a s1 H1 I1 xs hq q
    obtain ⟨its, rv, p, hz⟩ := I1.tuple hq
    refine wpAny_pyIter_tuple (show s1.heap.IsTuple a its.toArray from p) ?_
    refine ⟨s1.heap.objs.size, [s1.heap.objs.size], _, _, H1, rfl, I1.kept (t' := s1.toks) fun b o e => Heap.get?_push_of_some _ e, turn_tuple a _, ⟨_, Heap.get?_push_size _ rfl, rfl, rfl⟩, fun b hb => ?_, q⟩
    have e : b = s1.heap.objs.size := by simpa using hb
    subst e
    exact I1.fpOk (Nat.le_refl _) (I1.hok.fresh (Nat.le_refl _))
  have hC : ∀ (z : Str) (s1 : Shared) (H1 : Hp) (u : Value), Inv X pins σ H1 s1 → RelV (.str z) u → R (Its z) H1 → wpAny (model X.prog X.w) X.A (pyIter u) (PIE X pins σ tg R) X.xe s1 := by
    intro z s1 H1 u I1 ru q
    obtain ⟨t, rfl⟩ := ru
    cases ha : z.cps.all (· < 128)
    · exact wpAny_pyIter_wide ha (pi_one (tk := s1.toks) I1 _ (turn_str _ z t "str_iterator" (.inr rfl)) ⟨_, Heap.get?_push_size _ rfl, rfl, rfl⟩ q)
    · exact wpAny_pyIter_ascii ha (pi_one (tk := s1.toks) I1 _ (turn_str _ z t "str_ascii_iterator" (.inl rfl)) ⟨_, Heap.get?_push_size _ rfl, rfl, rfl⟩ q)
  exact thn (hl.run pins s σ H _ I h) fun v s1 ⟨x, H1, I1, r1, q1⟩ => by
    rcases q1 with ⟨a, xs, e, hq, q⟩ | ⟨a, xs, e, hq, q⟩ | ⟨z, e, q⟩
    · subst e
      cases r1
      exact hA a s1 H1 I1 xs hq q
    · subst e
      cases r1
      exact hB a s1 H1 I1 xs hq q
    · subst e
      exact hC z s1 H1 v I1 r1 q
end

/-! ### names that are built in, further forms -/
theorem bt_len : bootBuiltins "len" = some (.builtin "len") := by decide +kernel
theorem bt_isinstance : bootBuiltins "isinstance" = some (.builtin "isinstance") := by decide +kernel
theorem bt_all : bootBuiltins "all" = some (.builtin "all") := by decide +kernel
theorem bt_any : bootBuiltins "any" = some (.builtin "any") := by decide +kernel
theorem bt_sum : bootBuiltins "sum" = some (.builtin "sum") := by decide +kernel
theorem bt_divmod : bootBuiltins "divmod" = some (.builtin "divmod") := by decide +kernel
theorem bt_abs : bootBuiltins "abs" = some (.builtin "abs") := by decide +kernel
theorem bt_max : bootBuiltins "max" = some (.builtin "max") := by decide +kernel
theorem bt_min : bootBuiltins "min" = some (.builtin "min") := by decide +kernel
theorem bt_sorted : bootBuiltins "sorted" = some (.builtin "sorted") := by decide +kernel
theorem bt_int : bootBuiltins "int" = some (.type "int") := by decide +kernel
theorem bt_bool : bootBuiltins "bool" = some (.type "bool") := by decide +kernel
theorem bt_str : bootBuiltins "str" = some (.type "str") := by decide +kernel
theorem bt_list : bootBuiltins "list" = some (.type "list") := by decide +kernel
theorem bt_tuple : bootBuiltins "tuple" = some (.type "tuple") := by decide +kernel
theorem bt_dict : bootBuiltins "dict" = some (.type "dict") := by decide +kernel
theorem bt_set : bootBuiltins "set" = some (.type "set") := by decide +kernel
theorem bt_type : bootBuiltins "type" = some (.type "type") := by decide +kernel
theorem bt_range : bootBuiltins "range" = some (.type "range") := by decide +kernel
theorem bt_zip : bootBuiltins "zip" = some (.type "zip") := by decide +kernel
theorem bt_enumerate : bootBuiltins "enumerate" = some (.type "enumerate") := by decide +kernel
theorem bt_reversed : bootBuiltins "reversed" = some (.type "reversed") := by decide +kernel
def rIsiU (K : PySem.W.Frag) : List V → Hp → VK → Prop := fun xs H Q => rIsi K xs H Q ∨ rIsiT K xs H Q
def rNeg : V → Hp → VK → Prop := rU fun i => .int (-i)
def ipAddU (K : PySem.W.Frag) : TIp := fun x y H Q => (∃ i j, x = .int i ∧ y = .int j ∧ Q (.int (i + j)) H) ∨ ∃ i j, x = .str i ∧ y = .str j ∧ i.length + j.length ≤ sizeLine ∧ Q (.str (i ++ j)) H
def ipMulU : TIp := fun x y H Q => ∃ i j, x = .int i ∧ y = .int j ∧ (CMul i j ∨ CMulW i j) ∧ Q (.int (i * j)) H
section
variable {X : Cx}
theorem call_isiU : CallR X (.builtin "isinstance") (rIsiU X.K) := callr_or call_isi call_isiT
theorem un_negU : UnR X (unaryOp .USub) rNeg := un_neg
theorem ip_addU : PIp X .Add (ipAddU X.K) := by
  intro pins s σ H x y v u Q I rx ry h
  rcases h with h | h
  · exact ip_add pins s σ H x y v u Q I rx ry h
  · exact iop_add_str pins s σ H x y v u Q I rx ry h
theorem ip_mulU : PIp X .Mult ipMulU := by
  intro pins s σ H x y v u Q I rx ry h
  obtain ⟨i, j, rfl, rfl, hc, q⟩ := h
  obtain ⟨t, rfl⟩ := rx
  obtain ⟨t', rfl⟩ := ry
  refine imul_int ⟨.int _, H, I.tok _, ⟨_, rfl⟩, q⟩ ?_
  rcases hc with hc | hc
  · exact hc.ok
  · exact hc.ok
theorem pt_truU {a : Expr} {ta : TE} (ha : PE X a ta) (he : ∀ whole, isTrue a X.env whole = (do let v ← whole; standAt a.pos; holding [v] (truthy v))) : PT X a (tTru X.K ta) := pt_truth ha he
end

end Ps

/-! PsB: enumerate over a tuple, too. -/
namespace Ps
open PySem PySem.Spec PyProof.Rows L2

theorem meets_enum1B {v : Value} {o : Obj} {H : Heap → Prop} (B : Begins v o H) :
    Meets (Builtin.«enumerate.__new__» ⟨[.type "enumerate", v], []⟩) (fun _ R s => H s.heap ∧
      R (.ok (.ret (.ref (s.heap.push o).objs.size))) { s with heap := (s.heap.push o).push { cls := .type "enumerate", data := .fields #[.none, .bool false, .ref s.heap.objs.size, rawInt 0, .none, .none] } }) :=
  .of_wp fun prog w A R s h => by
    obtain ⟨hp, g, d, tk, os⟩ := s; obtain ⟨h1, h⟩ := h
    have hsub := sub_enumerate
    have q1 : ∀ {A' : Around} {E : Value → Shared → Prop} {Q : Value → Shared → Prop}, Q (.ref hp.objs.size) ⟨hp.push o, g, d, tk, os⟩ → wpAny (model prog w) A' (pyIter v) Q E ⟨hp, g, d, tk, os⟩ :=
      fun q => B.iter prog w _ _ ⟨hp, g, d, tk, os⟩ _ h1 q
    wp_walk using q1
    refine wpAny_stack_any fun st => wpAny_pure ?_
    split
    · rename_i c _ _ _ _ _
      cases (c == Value.type "enumerate")
      · wp_walk using q1
        exact ⟨_, rfl, h⟩
      · wp_walk using q1
        exact ⟨_, rfl, h⟩
    · wp_walk using q1
      exact ⟨_, rfl, h⟩
section
variable {prog : Program} {w : World} {A : Around} {E : Value → Shared → Prop} {s : Shared}
theorem call_enumB {v : Value} {o : Obj} {H : Heap → Prop} {Q : Value → Shared → Prop} (B : Begins v o H) (h1 : H s.heap)
    (h : ∀ h', IsEnum h' (s.heap.objs.size + 1) s.heap.objs.size 0 .none → h'.get? s.heap.objs.size = some o → h'.objs.size = s.heap.objs.size + 2 →
      (∀ b o, s.heap.get? b = some o → h'.get? b = some o) → Q (.ref (s.heap.objs.size + 1)) { s with heap := h' }) :
    wpAny (model prog w) A (call (.type "enumerate") [v]) Q E s := by
  refine callType_new F.called_enumerate (by decide) (F.typeCall_enumerate_1 _) (F.newCall_enumerate_1 _) (fun obj => F.args_object_init_2 obj _) F.entry_enumerate_new
    (meets_enum1B B) ⟨h1, ?_⟩
  have hz : (s.heap.push o).objs.size = s.heap.objs.size + 1 := Heap.size_push ..
  show _ ∧ _
  rw [hz]
  have he : IsEnum ((s.heap.push o).push { cls := .type "enumerate", data := .fields #[.none, .bool false, .ref s.heap.objs.size, rawInt 0, .none, .none] }) (s.heap.objs.size + 1) s.heap.objs.size 0 .none := by
    have := Heap.get?_push_size (s.heap.push o) (o := { cls := .type "enumerate", data := .fields #[.none, .bool false, .ref s.heap.objs.size, rawInt 0, .none, .none] }) rfl
    rw [hz] at this; exact this
  refine ⟨⟨_, he, rfl⟩, h _ he (Heap.get?_push_of_some _ (Heap.get?_push_size _ B.free)) (by rw [Heap.size_push, hz]) fun b o x => Heap.get?_push_of_some _ (Heap.get?_push_of_some _ x)⟩
end

section
variable {prog : Program} {w : World} {A : Around} {E : Value → Shared → Prop} {s : Shared}
theorem enumT_end {e it l : Addr} {i : Nat} {items : Array Value} {old : Value} {Q : Option Value → Shared → Prop} (hh : A.handled = none)
    (he : IsEnum s.heap e it i old) (hit : s.heap.IsTupleIter it l i) (hl : s.heap.IsTuple l items) (hx : items[i]? = none)
    (hQ : ∀ h', Heap.ExtBut it s.heap h' → Q none { s with heap := h' }) : wpAny (model prog w) A (pyNext (.ref e)) Q E s := by
  have hT : s.TypeIs (.ref e) "enumerate" := ⟨_, he, rfl⟩
  unfold pyNext
  refine wpAny_bind (wpAny_attempt (wpAny_callSpecial?_slot (name := Str.ofString "__next__") hT F.slot_enumerate_next
    (wpAny_call_entry F.slot_enumerate_next hT F.entry_enumerate_next ?_ (F.args_enumerate_next_1 _))))
  show wpAny _ _ (field (.ref e) 2 >>= _) _ _ _
  refine wpAny_bind (wpAny_field he rfl (x := .ref it) rfl ?_)
  refine wpAny_bind (wpAny_nextOf_tuple_end hh hit hl hx fun h' x he' hx' => ?_)
  obtain ⟨o, ho, hc⟩ := hx'
  refine wpAny_bind (wpAny_isInstance (T := "StopIteration") (b := true) ⟨o, ho, hc⟩ isSubtype_stop ?_)
  exact wpAny_pure (hQ _ he')
end

def IteT (K : PySem.W.Frag) (a : Addr) : It :=
  ⟨fun i H => ∃ (xs : List V) (x : V), SqT K H a xs ∧ xs[i]? = some x, fun i H v H' => ∃ T x, v = .ref T ∧ H T = none ∧ H' = upd H T (.tup [.int (i : Nat), x]) ∧ ∀ xs, SqT K H a xs → xs[i]? = some x, fun i H => ∃ xs : List V, SqT K H a xs ∧ xs.length ≤ i⟩
theorem turn_enumT {P : Program} {w : World} {K : PySem.W.Frag} {elts : List Expr} {kk : Nat} {tpos : Pos} (a e it : Addr) :
    Turn P w K (.Tuple elts kk tpos) (IteT K a) [e, it] e (fun i h => (∃ old, IsEnum h e it ((i : Nat) : Int) old) ∧ h.IsTupleIter it a i ∧ e ≠ it ∧ a ≠ it ∧ a ≠ e) where
  mem := by simp
  obj := fun i h st b hb => by
    obtain ⟨⟨old, he⟩, ⟨o, ho, hc, hd⟩, _⟩ := st
    have e' : b = e ∨ b = it := by simpa using hb
    rcases e' with z | z
    · rw [z]; exact ⟨_, he, fun v q => nomatch q⟩
    · rw [z]; exact ⟨o, ho, fun v q => by rw [hd] at q; cases q⟩
  keep := fun i h h' st k => let ⟨⟨old, he⟩, hi, hne⟩ := st; ⟨⟨old, k e (by simp) _ he⟩, hi.at fun o q => k it (by simp) o q, hne⟩
  item := by
    intro X hP hw hK hc i pins s σ H E I hf st hg
    subst hP hw hK
    obtain ⟨⟨old, he⟩, hit, hne, nai, nae⟩ := st
    obtain ⟨xs, x, hq, hx⟩ := hg
    obtain ⟨its, rv, p, hz⟩ := I.tuple hq
    obtain ⟨u, hu, ru⟩ := rv.get hx
    have hel : e < s.heap.objs.size := Heap.lt_size he
    have hil : it < s.heap.objs.size := by obtain ⟨_, q, _⟩ := hit; exact Heap.lt_size q
    have hlt : i < its.toArray.size := by
      have q := (List.getElem?_eq_some_iff.mp hu).1
      simpa using q
    refine wpAny_pyNext_enum_itemD (Draws.tuple (prog := X.prog) (w := X.w) (A := X.A.in1) (I.ok.hd hc) it a nai its.toArray) he ⟨hit, p⟩ hlt hne (by simp [hne, Ne.symm nae]) fun x' h' tk hx' ho st' hT hsz hk => ?_
    have ex : x' = u := by
      have q : its[i]? = some x' := by simpa using hx'
      rw [hu] at q
      exact (Option.some.inj q).symm
    subst ex
    refine ⟨_, rfl, wpAny_letOwnedTupleGo_enum (s := { s with heap := h', toks := tk + 1 }) ho fun h'' he' sb => ?_⟩
    have hT2 : h''.get? s.heap.objs.size = some { cls := .type "tuple", data := .seq #[.int i tk, x'] } := (sb.2 _ (Nat.ne_of_gt hel)).trans hT
    have new : ObjOk X.prog X.w (upd H s.heap.objs.size (.tup [.int (i : Nat), x])) h'' s.heap.objs.size (.tup [.int (i : Nat), x]) :=
      ⟨by show 2 ≤ sizeLine; decide, [.int i tk, x'], .cons ⟨_, rfl⟩ (.cons ru .nil), ⟨_, hT2, rfl, _, rfl⟩⟩
    have I1 : Inv X pins σ (upd H s.heap.objs.size (.tup [.int (i : Nat), x])) { s with heap := h'', toks := tk + 1 } :=
      I.turnedNew (ch := [e, it]) (fun b ob hb q => (sb.2 b (fun z => hb (by simp [z]))).trans (hk b ob (fun z => hb (by simp [z])) (fun z => hb (by simp [z])) q)) hf (Nat.le_refl _) new
    refine ⟨.ref s.heap.objs.size, _, I1, rfl, ⟨_, x, rfl, I.hok.fresh (Nat.le_refl _), rfl, fun ys hy => by rw [I.tuple_inj hy hq]; exact hx⟩, ⟨⟨x', ?_⟩, st'.1.at fun o q => (sb.2 it (Ne.symm hne)).trans q, hne, nai, nae⟩, fun b hb => ?_⟩
    · have e1 : ((i + 1 : Nat) : Int) = (i : Int) + 1 := by omega
      rw [e1]; exact he'
    · have hb' : b < s.heap.objs.size := by
        have e' : b = e ∨ b = it := by simpa using hb
        rcases e' with z | z
        · rw [z]; exact hel
        · rw [z]; exact hil
      rw [upd_ne (Nat.ne_of_lt hb')]
      exact (hf b hb).1
  done := by
    intro X hP hw hK hc i pins s σ H E I hf st hg
    subst hP hw hK
    obtain ⟨⟨old, he⟩, hit, hne, nai, nae⟩ := st
    obtain ⟨xs, hq, hx⟩ := hg
    obtain ⟨its, rv, p, hz⟩ := I.tuple hq
    obtain ⟨f0, f1, f2, f3, f4, f5⟩ := hf it (by simp)
    have hl := rv.length
    exact enumT_end (I.ok.hd hc) he hit p (by simp; omega) fun h' eb => ⟨rfl, I.turned (t' := s.toks) (fun b o hb q => eb b o hb q) f0 f1 f3 f4 f5⟩
  self := fun A i s Q E st h => let ⟨⟨_, he⟩, _⟩ := st; wpAny_pyIter_enum he h
def iEnumU (K : PySem.W.Frag) (ta : TA) : TI := fun σ H R => ta σ H fun vs H1 => ∃ a xs, vs = [.ref a] ∧ ((SqL K H1 a xs ∧ R (Ite K a) H1) ∨ (SqT K H1 a xs ∧ R (IteT K a) H1))
theorem pi_enumU {X : Cx} {e : Expr} {ta : TA} {p pos tpos : Pos} {elts : List Expr} {kk : Nat} (hg : Gl X "enumerate") (hm : X.mg "enumerate" = none) (ha : PA X [e] ta) (hs : starEach [e] X.env = [(false, eval e X.env)] := by rfl) :
    PI X (.Tuple elts kk tpos) (.Call (.Name "enumerate" p) [e] [] pos) (iEnumU X.K ta) := by
  refine ⟨fun pins s σ H R I h => ?_⟩
  refine Call_ (ld_blt I hg hm boot_enumerate (PyProof.Rows.callWith_type1 (thn (ha.run pos pins s σ H _ I h) fun us s1 ⟨vs, H1, I1, r1, q1⟩ => ?_) hs rfl))
  obtain ⟨a, xs, ex, q1⟩ := q1
  subst ex
  cases r1 with
  | cons r rr =>
    cases rr
    cases r
    have fr : ∀ b, b ∈ [s1.heap.objs.size + 1, s1.heap.objs.size] → FpOk X pins H1 b := fun b hb => by
      have e' : b = s1.heap.objs.size + 1 ∨ b = s1.heap.objs.size := by simpa using hb
      have hle : s1.heap.objs.size ≤ b := by
        rcases e' with z | z
        · rw [z]; exact Nat.le_add_right _ _
        · rw [z]; exact Nat.le_refl _
      exact I1.fpOk hle (I1.hok.fresh hle)
    rcases q1 with ⟨hq, q⟩ | ⟨hq, q⟩
    · obtain ⟨its, rv, p', hz⟩ := I1.list hq
      refine call_enumerate_list p'.isList fun h' he hit hsz hk => wpAny_pyIter_enum he ?_
      have I2 : Inv X pins σ H1 { s1 with heap := h' } := I1.kept (t' := s1.toks) hk
      exact ⟨s1.heap.objs.size + 1, [s1.heap.objs.size + 1, s1.heap.objs.size], _, _, H1, rfl, I2, turn_enum a (s1.heap.objs.size + 1) s1.heap.objs.size, ⟨⟨.none, he⟩, hit, Nat.succ_ne_self _⟩, fr, q⟩
    · obtain ⟨its, rv, p', hz⟩ := I1.tuple hq
      have la : a < s1.heap.objs.size := p'.lt
      refine call_enumB (begins_tuple a its.toArray) (show s1.heap.IsTuple a its.toArray from p') fun h' he hit hsz hk => wpAny_pyIter_enum he ?_
      have I2 : Inv X pins σ H1 { s1 with heap := h' } := I1.kept (t' := s1.toks) hk
      exact ⟨s1.heap.objs.size + 1, [s1.heap.objs.size + 1, s1.heap.objs.size], _, _, H1, rfl, I2, turn_enumT a (s1.heap.objs.size + 1) s1.heap.objs.size, ⟨⟨.none, he⟩, ⟨_, hit, rfl, rfl⟩, Nat.succ_ne_self _, Nat.ne_of_lt la, Nat.ne_of_lt (Nat.lt_succ_of_lt la)⟩, fr, q⟩
theorem walk_enumT {K : PySem.W.Frag} {a : Addr} {xs : List V} : Walk (IteT K a) xs.length (fun H => SqT K H a xs) (YPair (fun i => some (.int (i : Nat))) (fun i => xs[i]?)) := by
  refine ⟨fun i _ hi q => ⟨xs, xs[i], q, by simp [hi]⟩, fun _ q => ⟨xs, q, Nat.le_refl _⟩, fun i H v H' _ q y => ?_⟩
  obtain ⟨T, x, h1, h2, h3, h4⟩ := y
  exact ⟨T, .int (i : Nat), x, h1, h2, h3, rfl, h4 xs q⟩
theorem walk_zipT {K : PySem.W.Frag} {a b : Addr} {xs ys : List V} {n : Nat} (hn : n = min xs.length ys.length) : Walk (RZ.ItzT K a b) n (fun H => SqT K H a xs ∧ SqT K H b ys) (YPair (fun i => xs[i]?) (fun i => ys[i]?)) := by
  subst hn
  refine ⟨fun i _ hi q => ?_, fun _ q => ⟨xs, ys, q.1, q.2, by omega⟩, fun i H v H' _ q y => ?_⟩
  · have h1 : i < xs.length := by omega
    have h2 : i < ys.length := by omega
    exact ⟨xs, ys, xs[i], ys[i], q.1, q.2, by simp [h1], by simp [h2]⟩
  · obtain ⟨T, x, z, h1, h2, h3, h4, h5⟩ := y
    exact ⟨T, x, z, h1, h2, h3, h4 xs q.1, h5 ys q.2⟩

end Ps

/-! PsC: the heap as a shared part that only grows and a list of owned objects; the steps of a reading, one a construct. -/
namespace Ps
open PySem PySem.Spec PyProof.Rows L2

/-! ### shared and owned -/
/-- S: objects that the code at hand owns; G: what is shared, and stays -/
def Wd (S : List (Addr × HO)) (G H : Hp) : Prop := Same G H ∧ (∀ x ∈ S, H x.1 = some x.2 ∧ G x.1 = none) ∧ (S.map Prod.fst).Nodup
structure Grow (H G H' G' : Hp) : Prop where
  gg : Same G G'
  gh : Same G' H'
  hh : Same H H'
  nn : ∀ a, H a ≠ none → G a = none → G' a = none
section
variable {S A B : List (Addr × HO)} {G G' G'' H H' H'' : Hp} {a p l : Addr} {o o' : HO} {x : Addr × HO} {K : PySem.W.Frag} {xs : List V}
theorem same_new (hp : H p = none) : Same H (upd H p o) := fun b u e => by
  rw [upd_ne (ne_of_none e hp)]
  exact e
theorem same_mut (v : Same G H) (h : G l = none) : Same G (upd H l o) := fun b u e => by
  rw [upd_ne (ne_of_none e h)]
  exact v b u e
theorem same_l (e : Same H H') (h : SqL K H a xs) : SqL K H' a xs := e.seq h
theorem same_t (e : Same H H') (h : SqT K H a xs) : SqT K H' a xs := by
  rcases h with (h | ⟨o, h⟩) | h
  · exact .inl (.inl (e _ _ h))
  · exact .inl (.inr ⟨o, e _ _ h⟩)
  · exact .inr h
theorem Grow.refl (v : Same G H) : Grow H G H G := ⟨Same.refl _, v, Same.refl _, fun _ _ h => h⟩
theorem Grow.same (v : Same G H) (s : Same H H') : Grow H G H' G := ⟨Same.refl _, v.trans s, s, fun _ _ h => h⟩
theorem Grow.new (v : Same G H) (hp : H p = none) : Grow H G (upd H p o) (upd G p o) := by
  have gp : G p = none := v.free hp
  refine ⟨same_new gp, fun b u e => ?_, same_new hp, fun b hb hg => ?_⟩
  · by_cases q : b = p
    · subst q; rw [upd_same] at e ⊢; exact e
    · rw [upd_ne q] at e ⊢; exact v b u e
  · have q : b ≠ p := fun z => hb (z ▸ hp)
    rw [upd_ne q]; exact hg
theorem Grow.trans (a : Grow H G H' G') (b : Grow H' G' H'' G'') : Grow H G H'' G'' :=
  ⟨a.gg.trans b.gg, b.gh, a.hh.trans b.hh, fun c hc hg => b.nn c (fun z => hc (a.hh.free z)) (a.nn c hc hg)⟩
theorem Wd.v (w : Wd S G H) : Same G H := w.1
theorem Wd.nil (v : Same G H) : Wd [] G H := ⟨v, fun x h => absurd h (by simp), List.nodup_nil⟩
theorem Wd.mem (w : Wd S G H) (h : (a, o) ∈ S) : H a = some o := (w.2.1 _ h).1
theorem Wd.hd (w : Wd ((a, o) :: S) G H) : H a = some o := w.mem List.mem_cons_self
theorem Wd.sd (w : Wd (x :: (a, o) :: S) G H) : H a = some o := w.mem (List.mem_cons_of_mem _ List.mem_cons_self)
theorem Wd.td {y : Addr × HO} (w : Wd (x :: y :: (a, o) :: S) G H) : H a = some o := w.mem (List.mem_cons_of_mem _ (List.mem_cons_of_mem _ List.mem_cons_self))
theorem Wd.same (w : Wd S G H) (s : Same H H') : Wd S G H' := ⟨w.1.trans s, fun y hy => ⟨s _ _ (w.2.1 y hy).1, (w.2.1 y hy).2⟩, w.2.2⟩
theorem Wd.grow (w : Wd S G H) (g : Grow H G H' G') : Wd S G' H' :=
  ⟨g.gh, fun y hy => ⟨g.hh _ _ (w.2.1 y hy).1, g.nn _ (by rw [(w.2.1 y hy).1]; simp) (w.2.1 y hy).2⟩, w.2.2⟩
theorem Wd.own' (w : Wd S G H) (s : Same H H') (hp : H p = none) (h : H' p = some o) : Wd ((p, o) :: S) G H' := by
  refine ⟨w.1.trans s, fun y hy => ?_, ?_⟩
  · rcases List.mem_cons.mp hy with rfl | hy
    · exact ⟨h, w.1.free hp⟩
    · exact ⟨s _ _ (w.2.1 y hy).1, (w.2.1 y hy).2⟩
  · rw [List.map_cons]
    refine List.nodup_cons.mpr ⟨fun m => ?_, w.2.2⟩
    obtain ⟨y, hy, e⟩ := List.mem_map.mp m
    have q := (w.2.1 y hy).1
    rw [e, hp] at q; cases q
theorem Wd.own (w : Wd S G H) (hp : H p = none) : Wd ((p, o) :: S) G (upd H p o) := w.own' (same_new hp) hp upd_same
theorem Wd.new (w : Wd S G H) (hp : H p = none) : Wd S (upd G p o) (upd H p o) := w.grow (Grow.new w.1 hp)
theorem Wd.perm (w : Wd S G H) (h : B.Perm S) : Wd B G H := ⟨w.1, fun y hy => w.2.1 y (h.mem_iff.mp hy), (h.map _).nodup_iff.mpr w.2.2⟩
theorem Wd.drop (w : Wd (x :: S) G H) : Wd S G H := ⟨w.1, fun y hy => w.2.1 y (List.mem_cons_of_mem _ hy), (List.nodup_cons.mp w.2.2).2⟩
theorem Wd.dropR (w : Wd (A ++ B) G H) : Wd A G H := ⟨w.1, fun y hy => w.2.1 y (List.mem_append_left _ hy), by
  have h := w.2.2
  rw [List.map_append] at h
  exact (List.nodup_append.mp h).1⟩
theorem Wd.put (w : Wd ((l, o) :: S) G H) : Wd ((l, o') :: S) G (upd H l o') := by
  have hl := (w.2.1 _ List.mem_cons_self).2
  have nd := List.nodup_cons.mp w.2.2
  refine ⟨same_mut w.1 hl, fun y hy => ?_, w.2.2⟩
  rcases List.mem_cons.mp hy with rfl | hy
  · exact ⟨upd_same, hl⟩
  · have q : y.1 ≠ l := fun z => nd.1 (List.mem_map.mpr ⟨y, hy, z⟩)
    rw [upd_ne q]
    exact w.2.1 y (List.mem_cons_of_mem _ hy)
theorem Wd.swap {y : Addr × HO} (w : Wd (x :: y :: S) G H) : Wd (y :: x :: S) G H := w.perm (List.Perm.swap _ _ _)
theorem Wd.put2 (w : Wd (x :: (l, o) :: S) G H) : Wd (x :: (l, o') :: S) G (upd H l o') := w.swap.put.swap
theorem Wd.rot3 {y z : Addr × HO} (w : Wd (x :: y :: z :: S) G H) : Wd (z :: x :: y :: S) G H :=
  w.perm ((List.Perm.swap _ _ _).trans (List.Perm.cons _ (List.Perm.swap _ _ _)))
theorem Wd.rot3' {y z : Addr × HO} (w : Wd (z :: x :: y :: S) G H) : Wd (x :: y :: z :: S) G H :=
  w.perm ((List.Perm.cons _ (List.Perm.swap _ _ _)).trans (List.Perm.swap _ _ _))
theorem Wd.put3 {y : Addr × HO} (w : Wd (x :: y :: (l, o) :: S) G H) : Wd (x :: y :: (l, o') :: S) G (upd H l o') := w.rot3.put.rot3'
theorem Wd.share (w : Wd ((p, o) :: S) G H) : Wd S (upd G p o) H := by
  have nd := List.nodup_cons.mp w.2.2
  refine ⟨fun b u e => ?_, fun y hy => ⟨(w.2.1 y (List.mem_cons_of_mem _ hy)).1, ?_⟩, nd.2⟩
  · by_cases q : b = p
    · subst q; rw [upd_same] at e; rw [← e]; exact w.hd
    · rw [upd_ne q] at e; exact w.1 b u e
  · have q : y.1 ≠ p := fun z => nd.1 (List.mem_map.mpr ⟨y, hy, z⟩)
    rw [upd_ne q]
    exact (w.2.1 y (List.mem_cons_of_mem _ hy)).2
theorem Wd.gp (w : Wd ((p, o) :: S) G H) : G p = none := (w.2.1 _ List.mem_cons_self).2
theorem Wd.gsame (w : Wd ((p, o) :: S) G H) (o' : HO) : Same G (upd G p o') := same_new w.gp
/-- an owned one ahead of two -/
theorem Wd.own3 {y : Addr × HO} (w : Wd (x :: y :: S) G H) (s : Same H H') (hp : H p = none) (h : H' p = some o) : Wd (x :: y :: (p, o) :: S) G H' := (w.own' s hp h).rot3'
end

/-! ### data -/
section
variable {K : PySem.W.Frag} {H H' : Hp}
mutual
theorem dp_mono (s : Same H H') : ∀ (d : PyData) (v : V), Dp K H v d → Dp K H' v d
  | _, _, .non => .non
  | _, _, .bl b => .bl b
  | _, _, .int i => .int i
  | _, _, .str x => .str x
  | .list ds, _, .lst hq ha => .lst (same_l s hq) (dpAll_mono s ds _ ha)
  | .tuple ds, _, .tup hq ha => .tup (same_t s hq) (dpAll_mono s ds _ ha)
theorem dpAll_mono (s : Same H H') : ∀ (ds : List PyData) (vs : List V), DpAll K H vs ds → DpAll K H' vs ds
  | [], _, .nil => .nil
  | d :: ds, _, .cons h t => .cons (dp_mono s d _ h) (dpAll_mono s ds _ t)
end
theorem dpAll_len : ∀ {vs : List V} {ds : List PyData}, DpAll K H vs ds → vs.length = ds.length
  | _, _, .nil => rfl
  | _, _, .cons _ t => by rw [List.length_cons, List.length_cons, dpAll_len t]
theorem dpAll_get : ∀ {vs : List V} {ds : List PyData} {i : Nat} {v : V} {d : PyData}, DpAll K H vs ds → vs[i]? = some v → ds[i]? = some d → Dp K H v d
  | _, _, _, _, _, .nil, h, _ => by simp at h
  | _, _, 0, _, _, .cons h _, e, e' => by
    simp at e e'; subst e; subst e'; exact h
  | _, _, i + 1, _, _, .cons _ t, e, e' => dpAll_get (i := i) t (by simpa using e) (by simpa using e')
theorem dpAll_ints : ∀ (ns : List Int), DpAll K H (ns.map V.int) (ns.map PyData.int)
  | [] => .nil
  | _ :: r => .cons (.int _) (dpAll_ints r)
/-- a list of ints -/
def dI (ns : List Int) : PyData := .list (ns.map PyData.int)
theorem dp_ints {a : Addr} {ns : List Int} (h : H a = some (.lst (ns.map V.int))) : Dp K H (.ref a) (dI ns) := .lst (SqL.of h) (dpAll_ints ns)
theorem dp_intsT {a : Addr} {ns : List Int} (h : H a = some (.tup (ns.map V.int))) : Dp K H (.ref a) (.tuple (ns.map PyData.int)) := .tup (SqT.of h) (dpAll_ints ns)
end

/-! ### the steps: statements -/
section
variable {t u : TS} {D : Ends} {σ : L2.St} {H : Hp} {te : TE} {g : TG} {i : Nat} {v x y : V} {K : PySem.W.Frag}
theorem w_seq (h : t ⟨u D, D.rt, D.bk, D.ct⟩ σ H) : tSeq t u D σ H := h
theorem w_asg (h : te σ H fun x H1 => g x σ H1 D.nx) : tAsg te g D σ H := h
theorem w_ret (h : te σ H D.rt) : tRet te D σ H := h
theorem w_retN (h : D.rt .non H) : tRetN D σ H := h
theorem w_drop (h : te σ H fun _ H1 => D.nx σ H1) : tDrop te D σ H := h
theorem w_ifs {c : TT} (h : c σ H fun b H1 => if b = true then t D σ H1 else u D σ H1) : tIfS c t u D σ H := h
theorem w_next (h : D.nx σ H) : tNext D σ H := h
theorem w_brk (h : D.bk σ H) : tBreak D σ H := h
theorem w_cont (h : D.ct σ H) : tCont D σ H := h
theorem w_aug {ti : TIp} (hx : σ[i]? = some (some x)) (h : te σ H fun y H1 => ti x y H1 fun z H2 => D.nx (σ.set i (some z)) H2) : tAug i te ti D σ H := ⟨x, hx, h⟩
theorem w_par {ta : TA} {j : Nat} (h : ta σ H fun vs H1 => ∃ v w, vs = [v, w] ∧ D.nx ((σ.set i (some v)).set j (some w)) H1) : tPar i j ta D σ H := h
theorem w_par2 {j : Nat} {v w : V} (h : D.nx ((σ.set i (some v)).set j (some w)) H) : ∃ v' w', [v, w] = [v', w'] ∧ D.nx ((σ.set i (some v')).set j (some w')) H := ⟨v, w, rfl, h⟩
theorem w_for {wi : TI} {tb : TS} (h : wi σ H fun J H1 => ∃ W : Nat → Nat → L2.St → Hp → Prop, (∃ m, W 0 m σ H1) ∧ ∀ i m σ H, W i m σ H →
    (J.stop i H ∧ D.nx σ H) ∨ (J.go i H ∧ ∃ N : L2.St → Hp → Prop, (∀ σ' H', N σ' H' → ∃ m', m' < m ∧ W (i + 1) m' σ' H') ∧ ∀ x H', J.yld i H x H' → g x σ H' fun σ2 H2 => tb { D with nx := N, ct := N, bk := D.nx } σ2 H2)) : tFor wi g tb D σ H := h
/-! targets -/
theorem w_gname {Q : L2.St → Hp → Prop} (h : Q (σ.set i (some v)) H) : gName i v σ H Q := h
theorem w_gnil {Q : L2.St → Hp → Prop} (h : Q σ H) : gNil [] σ H Q := ⟨rfl, h⟩
theorem w_gcons {gs : TGs} {r : List V} {Q : L2.St → Hp → Prop} (h : g v σ H fun σ' H' => gs r σ' H' Q) : gCons g gs (v :: r) σ H Q := ⟨v, r, rfl, h⟩
theorem w_gtup {gs : TGs} {n : Nat} {a : Addr} {xs : List V} {Q : L2.St → Hp → Prop} (ht : SqT K H a xs) (hn : xs.length = n) (h : gs xs σ H Q) : gTup K n gs (.ref a) σ H Q := ⟨a, xs, rfl, ht, hn, h⟩
theorem w_gsub {to ti : TE} {s : TSet} {Q : L2.St → Hp → Prop} (h : to σ H fun o H1 => ti σ H1 fun i H2 => s o i v H2 fun H3 => Q σ H3) : gSub to ti s v σ H Q := h
/-! expressions -/
variable {Q : VK} {ta tb tc : TE} {r : R2}
theorem w_var (hx : σ[i]? = some (some v)) (h : Q v H) : tVar i σ H Q := ⟨v, hx, h⟩
theorem w_c (h : Q v H) : tC v σ H Q := h
theorem w_op (h : ta σ H fun x H1 => tb σ H1 fun y H2 => r x y H2 Q) : tOp r ta tb σ H Q := h
theorem w_un {r1 : V → Hp → VK → Prop} (h : ta σ H fun x H1 => r1 x H1 Q) : tUn r1 ta σ H Q := h
theorem w_cb {tl : TA} {rc : List V → Hp → VK → Prop} (h : tl σ H fun vs H1 => rc vs H1 Q) : tCB rc tl σ H Q := h
theorem w_bm {tl : TA} {T : String} {rm : V → List V → Hp → VK → Prop} (h : ta σ H fun x H1 => tyV K T x H1 ∧ tl σ H1 fun xs H2 => rm x xs H2 Q) : tBM K T rm ta tl σ H Q := h
theorem w_bm0 {T : String} {rm : V → List V → Hp → VK → Prop} (h : ta σ H fun x H1 => tyV K T x H1 ∧ rm x [] H1 Q) : tBM0 K T rm ta σ H Q := h
theorem w_tyl {a : Addr} {xs : List V} {P : Prop} (hl : H a = some (.lst xs)) (h : P) : tyV K "list" (.ref a) H ∧ P := ⟨.inl ⟨rfl, _, SqL.of hl⟩, h⟩
theorem w_lst {tl : TA} (h : tl σ H fun xs H1 => xs.length ≤ sizeLine ∧ ∀ p, H1 p = none → Q (.ref p) (upd H1 p (.lst xs))) : tLst tl σ H Q := h
theorem w_tup {tl : TA} (h : tl σ H fun xs H1 => xs.length ≤ sizeLine ∧ ∀ p, H1 p = none → Q (.ref p) (upd H1 p (.tup xs))) : tTup tl σ H Q := h
theorem w_call {tl : TA} {sp : Sp} {dvs : List V} {E : XK} (h : tl σ H fun vs H1 => sp (vs ++ dvs) H1 Q E) : tCall sp dvs E tl σ H Q := h
theorem w_callS {tl : TA} {sp : Sp} {E : L2.St → XK} (h : tl σ H fun vs H1 => sp vs H1 Q (E σ)) : tCallS sp E tl σ H Q := h
theorem w_sl {tl th : TO} {rs : V → Option Int → Option Int → Hp → VK → Prop} (h : te σ H fun x H1 => tl σ H1 fun l H2 => th σ H2 fun u H3 => rs x l u H3 Q) : tSl rs te tl th σ H Q := h
theorem w_nopart {P : Option Int → Hp → Prop} (h : P none H) : tNoPart σ H P := h
theorem w_part {P : Option Int → Hp → Prop} (h : te σ H fun x H1 => ∃ i, x = .int i ∧ P (some i) H1) : tPart te σ H P := h
theorem w_partI {P : Int → Prop} {i : Int} (h : P i) : ∃ j, V.int i = .int j ∧ P j := ⟨i, rfl, h⟩
theorem w_nil {P : List V → Hp → Prop} (h : P [] H) : tNil σ H P := h
theorem w_cons {tl : TA} {P : List V → Hp → Prop} (h : ta σ H fun x H1 => tl σ H1 fun xs H2 => P (x :: xs) H2) : tCons ta tl σ H P := h
theorem w_tif {c : TT} (h : c σ H fun b H1 => if b = true then ta σ H1 Q else tb σ H1 Q) : tIf c ta tb σ H Q := h
theorem w_andV (h : ta σ H fun x H1 => ∃ c, x = .bl c ∧ if c = true then tb σ H1 Q else Q (.bl false) H1) : tAndV ta tb σ H Q := h
theorem w_orV (h : ta σ H fun x H1 => ∃ c, x = .bl c ∧ if c = true then Q (.bl true) H1 else tb σ H1 Q) : tOrV ta tb σ H Q := h
theorem w_notV (h : ta σ H fun x H1 => ∃ c, x = .bl c ∧ Q (.bl (!c)) H1) : tNotV ta σ H Q := h
theorem w_blE {P : Bool → Prop} {b : Bool} (h : P b) : ∃ c, V.bl b = .bl c ∧ P c := ⟨b, rfl, h⟩
/-! tests -/
variable {P : Bool → Hp → Prop} {c d : TT}
theorem w_test (h : te σ H fun x H' => ∃ k, x = .bl k ∧ P k H') : tTest te σ H P := h
theorem w_tru (h : te σ H fun x H' => ∃ k, TruV K x H' k ∧ P k H') : tTru K te σ H P := h
theorem w_truB {b : Bool} {P : Bool → Prop} (h : P b) : ∃ k, TruV K (.bl b) H k ∧ P k := ⟨b, rfl, h⟩
theorem w_and (h : c σ H fun b H1 => if b = true then d σ H1 P else P false H1) : tAnd c d σ H P := h
theorem w_or (h : c σ H fun b H1 => if b = true then P true H1 else d σ H1 P) : tOr c d σ H P := h
theorem w_not (h : c σ H fun b H1 => P (!b) H1) : tNot c σ H P := h
theorem w_yes (h : P true H) : tYes σ H P := h
end

/-! ### the steps: operators by the values at hand -/
section
variable {H : Hp} {Q : VK} {K : PySem.W.Frag} {i j : Int} {a b : Addr} {xs ys : List V} {v : V}
theorem w_addI (h : Q (.int (i + j)) H) : rAddU K (.int i) (.int j) H Q := .inl (.inl ⟨i, j, rfl, rfl, h⟩)
theorem w_addS {x y : Str} (hz : x.length + y.length ≤ sizeLine) (h : Q (.str (x ++ y)) H) : rAddU K (.str x) (.str y) H Q := .inl (.inr ⟨x, y, rfl, rfl, hz, h⟩)
theorem w_addL (ha : H a = some (.lst xs)) (hb : H b = some (.lst ys)) (hz : xs.length + ys.length ≤ sizeLine) (h : ∀ p, H p = none → Q (.ref p) (upd H p (.lst (xs ++ ys)))) : rAddU K (.ref a) (.ref b) H Q :=
  .inr (.inl ⟨a, b, xs, ys, rfl, rfl, ha, hb, hz, h⟩)
theorem w_subI (h : Q (.int (i - j)) H) : rSubU (.int i) (.int j) H Q := ⟨i, j, rfl, rfl, h⟩
theorem w_mulI (hc : CMul i j) (h : Q (.int (i * j)) H) : rMulU (.int i) (.int j) H Q := .inl (.inl ⟨i, j, rfl, rfl, hc, h⟩)
theorem w_mulW (hc : CMulW i j) (h : Q (.int (i * j)) H) : rMulU (.int i) (.int j) H Q := .inl (.inr ⟨i, j, rfl, rfl, hc, h⟩)
theorem w_divI (hc : CDiv i j) (h : Q (.int (i / j)) H) : rDivU (.int i) (.int j) H Q := .inl ⟨i, j, rfl, rfl, hc, h⟩
theorem w_divW (hc : CDivW i j) (h : Q (.int (i / j)) H) : rDivU (.int i) (.int j) H Q := .inr ⟨i, j, rfl, rfl, hc, h⟩
theorem w_modI (hc : 0 < j) (h : Q (.int (i % j)) H) : rModU (.int i) (.int j) H Q := ⟨i, j, rfl, rfl, hc, h⟩
theorem w_modF (hc : 0 < j) (h : ∀ z, 0 ≤ z → z < j → Q (.int z) H) : rModU (.int i) (.int j) H Q := w_modI hc (h _ (Int.emod_nonneg _ (by omega)) (Int.emod_lt_of_pos _ hc))
theorem w_powI (hc : CPow i j) (h : Q (.int (i ^ j.toNat)) H) : rPowU (.int i) (.int j) H Q := ⟨i, j, rfl, rfl, hc, h⟩
theorem w_negI (h : Q (.int (-i)) H) : rNeg (.int i) H Q := ⟨i, rfl, h⟩
theorem w_ixL (hl : SqL K H a xs) (hi : atI xs i = some v) (h : Q v H) : rIxU K (.ref a) (.int i) H Q := .inl (.inl ⟨a, xs, i, v, rfl, rfl, hl, hi, h⟩)
theorem w_ixT (hl : SqT K H a xs) (hi : atI xs i = some v) (h : Q v H) : rIxU K (.ref a) (.int i) H Q := .inl (.inr ⟨a, xs, i, v, rfl, rfl, hl, hi, h⟩)
theorem w_ixS {z : Str} {c : Nat} (hz : z.length ≤ sizeLine) (hi : atI z.cps.toList i = some c) (h : Q (.str ⟨#[c]⟩) H) : rIxU K (.str z) (.int i) H Q := .inr (.inl ⟨z, i, c, rfl, rfl, hz, hi, h⟩)
theorem w_ixDs {kvs : List (Key × V)} {x : Str} (hd : H a = some (.dK kvs)) (hv : valV kvs (Sum.inr x) = some v) (h : Q v H) : rIxU K (.ref a) (.str x) H Q :=
  .inr (.inr ⟨a, v, rfl, by have g := DGet.k (k := Sum.inr x) hd; rw [hv] at g; exact g, h⟩)
theorem w_ixDi {kvs : List (Key × V)} (hd : H a = some (.dK kvs)) (hv : valV kvs (Sum.inl i) = some v) (h : Q v H) : rIxU K (.ref a) (.int i) H Q :=
  .inr (.inr ⟨a, v, rfl, by have g := DGet.k (k := Sum.inl i) hd; rw [hv] at g; exact g, h⟩)
theorem w_setDs {kvs : List (Key × V)} {x : Str} {P : Hp → Prop} (hd : H a = some (.dK kvs)) (hz : kvs.length < sizeLine) (h : P (upd H a (.dK (putK kvs (Sum.inr x) v)))) : rSetU (.ref a) (.str x) v H P :=
  .inr ⟨a, _, rfl, DPut.k (k := Sum.inr x) hd hz, h⟩
theorem w_setL {P : Hp → Prop} {k : Nat} (hd : H a = some (.lst xs)) (hi : ixN xs.length i = some k) (h : P (upd H a (.lst (xs.set k v)))) : rSetU (.ref a) (.int i) v H P :=
  .inl ⟨a, xs, i, k, rfl, rfl, hd, hi, h⟩
theorem w_eqI (h : Q (.bl (decide (i = j))) H) : rEqU K (.int i) (.int j) H Q := .inl ⟨rfl, by
  have e : decide (V.int i = V.int j) = decide (i = j) := by simp
  rw [e]; exact h⟩
theorem w_neI (h : Q (.bl (!decide (i = j))) H) : rNeU K (.int i) (.int j) H Q := .inl ⟨rfl, by
  have e : decide (V.int i = V.int j) = decide (i = j) := by simp
  rw [e]; exact h⟩
theorem w_eqS {x y : Str} (h : Q (.bl (decide (x = y))) H) : rEqU K (.str x) (.str y) H Q := .inl ⟨rfl, by
  have e : decide (V.str x = V.str y) = decide (x = y) := by simp
  rw [e]; exact h⟩
theorem w_neS {x y : Str} (h : Q (.bl (!decide (x = y))) H) : rNeU K (.str x) (.str y) H Q := .inl ⟨rfl, by
  have e : decide (V.str x = V.str y) = decide (x = y) := by simp
  rw [e]; exact h⟩
theorem w_eqB {x y : Bool} (h : Q (.bl (decide (x = y))) H) : rEqU K (.bl x) (.bl y) H Q := .inl ⟨rfl, by
  have e : decide (V.bl x = V.bl y) = decide (x = y) := by simp
  rw [e]; exact h⟩
theorem w_neB {x y : Bool} (h : Q (.bl (!decide (x = y))) H) : rNeU K (.bl x) (.bl y) H Q := .inl ⟨rfl, by
  have e : decide (V.bl x = V.bl y) = decide (x = y) := by simp
  rw [e]; exact h⟩
theorem w_eqD {x y : V} {d e : PyData} (hd : Dp K H x d) (he : Dp K H y e) (sd : SeqAt.shaped d = true) (se : SeqAt.shaped e = true) (h : Q (.bl (PyData.eqv d e)) H) : rEqU K x y H Q := .inr ⟨d, e, hd, he, sd, se, h⟩
theorem w_neD {x y : V} {d e : PyData} (hd : Dp K H x d) (he : Dp K H y e) (sd : SeqAt.shaped d = true) (se : SeqAt.shaped e = true) (h : Q (.bl (!PyData.eqv d e)) H) : rNeU K x y H Q := .inr ⟨d, e, hd, he, sd, se, h⟩
theorem w_ltI (h : Q (.bl (decide (i < j))) H) : rLtU K (.int i) (.int j) H Q := .inl ⟨i, j, rfl, rfl, h⟩
theorem w_leI (h : Q (.bl (decide (i ≤ j))) H) : rLeU (.int i) (.int j) H Q := ⟨i, j, rfl, rfl, h⟩
theorem w_gtI (h : Q (.bl (decide (j < i))) H) : rGtU (.int i) (.int j) H Q := ⟨i, j, rfl, rfl, h⟩
theorem w_geI (h : Q (.bl (decide (j ≤ i))) H) : rGeU (.int i) (.int j) H Q := ⟨i, j, rfl, rfl, h⟩
theorem w_isN {x : V} (h : Q (.bl (decide (x = .non))) H) : rIsN x .non H Q := ⟨rfl, h⟩
theorem w_isNn (h : Q (.bl true) H) : rIsN .non .non H Q := ⟨rfl, by rw [decide_eq_true rfl]; exact h⟩
theorem w_isNi (h : Q (.bl false) H) : rIsN (.int i) .non H Q := ⟨rfl, by rw [decide_eq_false (by simp)]; exact h⟩
theorem w_isNs {z : Str} (h : Q (.bl false) H) : rIsN (.str z) .non H Q := ⟨rfl, by rw [decide_eq_false (by simp)]; exact h⟩
theorem w_isNr (h : Q (.bl false) H) : rIsN (.ref a) .non H Q := ⟨rfl, by rw [decide_eq_false (by simp)]; exact h⟩
theorem w_isNb {k : Bool} (h : Q (.bl false) H) : rIsN (.bl k) .non H Q := ⟨rfl, by rw [decide_eq_false (by simp)]; exact h⟩
theorem w_ntNn (h : Q (.bl false) H) : rNotN .non .non H Q := ⟨rfl, by rw [decide_eq_true rfl]; exact h⟩
theorem w_ntNi (h : Q (.bl true) H) : rNotN (.int i) .non H Q := ⟨rfl, by rw [decide_eq_false (by simp)]; exact h⟩
theorem w_ntNs {z : Str} (h : Q (.bl true) H) : rNotN (.str z) .non H Q := ⟨rfl, by rw [decide_eq_false (by simp)]; exact h⟩
theorem w_ntNr (h : Q (.bl true) H) : rNotN (.ref a) .non H Q := ⟨rfl, by rw [decide_eq_false (by simp)]; exact h⟩
theorem w_neBf {x y : Bool} (e : x = y) (h : Q (.bl false) H) : rNeU K (.bl x) (.bl y) H Q := .inl ⟨rfl, by subst e; rw [decide_eq_true rfl]; exact h⟩
theorem w_eqBt {x y : Bool} (e : x = y) (h : Q (.bl true) H) : rEqU K (.bl x) (.bl y) H Q := .inl ⟨rfl, by subst e; rw [decide_eq_true rfl]; exact h⟩
theorem w_notN {x : V} (h : Q (.bl (!decide (x = .non))) H) : rNotN x .non H Q := ⟨rfl, h⟩
theorem w_ipaI (h : Q (.int (i + j)) H) : ipAddU K (.int i) (.int j) H Q := .inl ⟨i, j, rfl, rfl, h⟩
theorem w_ipsI {f : Int → Int → Int} (h : Q (.int (f i j)) H) : ipI f (.int i) (.int j) H Q := ⟨i, j, rfl, rfl, h⟩
theorem w_ipm (hc : CMul i j ∨ CMulW i j) (h : Q (.int (i * j)) H) : ipMulU (.int i) (.int j) H Q := ⟨i, j, rfl, rfl, hc, h⟩
/-! calls -/
theorem w_lenL (hl : SqL K H a xs) (h : Q (.int xs.length) H) : rLenU K [.ref a] H Q := .inl ⟨_, _, rfl, .inl ⟨xs, hl, rfl⟩, h⟩
theorem w_lenT (hl : SqT K H a xs) (h : Q (.int xs.length) H) : rLenU K [.ref a] H Q := .inl ⟨_, _, rfl, .inr ⟨xs, hl, rfl⟩, h⟩
theorem w_lenS {z : Str} (hz : z.length ≤ sizeLine) (h : Q (.int z.length) H) : rLenU K [.str z] H Q := .inl ⟨_, _, rfl, ⟨hz, rfl⟩, h⟩
theorem w_lenD {kvs : List (Key × V)} (hl : H a = some (.dK kvs)) (h : Q (.int kvs.length) H) : rLenU K [.ref a] H Q := .inr ⟨a, kvs, rfl, .inl hl, h⟩
theorem w_listL (hl : SqL K H a xs) (h : ∀ p, H p = none → Q (.ref p) (upd H p (.lst xs))) : rListU K [.ref a] H Q := .inl ⟨a, xs, rfl, .inl hl, h⟩
theorem w_listT (hl : SqT K H a xs) (h : ∀ p, H p = none → Q (.ref p) (upd H p (.lst xs))) : rListU K [.ref a] H Q := .inl ⟨a, xs, rfl, .inr hl, h⟩
theorem w_tupL (hl : SqL K H a xs) (h : ∀ p, H p = none → Q (.ref p) (upd H p (.tup xs))) : rTupU K [.ref a] H Q := ⟨a, xs, rfl, .inl ⟨hl, h⟩⟩
theorem w_tupT (hl : SqT K H a xs) (h : Q (.ref a) H) : rTupU K [.ref a] H Q := ⟨a, xs, rfl, .inr ⟨hl, h⟩⟩
theorem w_intI (h : Q (.int i) H) : rIntU [.int i] H Q := .inl ⟨i, rfl, h⟩
theorem w_intB {k : Bool} (h : Q (.int (if k then 1 else 0)) H) : rIntU [.bl k] H Q := .inr ⟨k, rfl, h⟩
theorem w_divmod (hc : CDivW i j) (h : ∀ p, H p = none → Q (.ref p) (upd H p (.tup [.int (i / j), .int (i % j)]))) : rDivmod [.int i, .int j] H Q := ⟨i, j, rfl, ⟨hc.1, PyProof.noPylong_of_log2 hc.2⟩, h⟩
theorem w_sum {ns : List Int} (hl : SqL K H a (ns.map V.int)) (h : Q (.int ns.sum) H) : rSum K [.ref a] H Q := ⟨a, ns, rfl, hl, h⟩
theorem w_all {bs : List Bool} (hl : SqL K H a (bs.map V.bl)) (h : Q (.bl (bs.all id)) H) : rAll K [.ref a] H Q := ⟨a, bs, rfl, hl, h⟩
theorem w_any {bs : List Bool} (hl : SqL K H a (bs.map V.bl)) (h : Q (.bl (bs.any id)) H) : rAny K [.ref a] H Q := ⟨a, bs, rfl, hl, h⟩
theorem w_app (hl : H a = some (.lst xs)) (hz : xs.length < sizeLine) (h : Q .non (upd H a (.lst (xs ++ [v])))) : rAppend (.ref a) [v] H Q := ⟨a, xs, v, rfl, rfl, hl, hz, h⟩
theorem w_isi {x : V} {n : String} {t : Value} {k : Bool} (ht : TyX K H x t) (hk : PySem.W.kitOne K t (.type n) = some k) (h : Q (.bl k) H) : rIsiU K [x, .ty n] H Q := .inl ⟨x, .ty n, t, .type n, k, rfl, .ty n, ht, hk, h⟩
/-! isinstance -/
theorem ty_l (h : SqL K H a xs) : TyX K H (.ref a) (.type "list") := by
  rcases h with (h | ⟨o, h⟩) | ⟨o, its, n, h, c, _⟩
  · exact .base (.lst h)
  · exact .base (.frz h)
  · exact .kList h c
theorem ty_t (h : SqT K H a xs) : TyX K H (.ref a) (.type "tuple") := by
  rcases h with (h | ⟨o, h⟩) | ⟨o, its, n, h, c, _⟩
  · exact .base (.tup h)
  · exact .fTuple h
  · exact .kTuple h c
theorem w_is_int_dict {i : Int} (h : Q (.bl false) H) : rIsiU K [.int i, .ty "dict"] H Q := w_isi (.base (.int i)) (kit_ty (r := false) (by decide +kernel)) h
theorem w_is_int_list {i : Int} (h : Q (.bl false) H) : rIsiU K [.int i, .ty "list"] H Q := w_isi (.base (.int i)) (kit_ty (r := false) (by decide +kernel)) h
theorem w_is_int_tuple {i : Int} (h : Q (.bl false) H) : rIsiU K [.int i, .ty "tuple"] H Q := w_isi (.base (.int i)) (kit_ty (r := false) (by decide +kernel)) h
theorem w_is_int_str {i : Int} (h : Q (.bl false) H) : rIsiU K [.int i, .ty "str"] H Q := w_isi (.base (.int i)) (kit_ty (r := false) (by decide +kernel)) h
theorem w_is_int_int {i : Int} (h : Q (.bl true) H) : rIsiU K [.int i, .ty "int"] H Q := w_isi (.base (.int i)) (kit_ty (r := true) (by decide +kernel)) h
theorem w_is_int_bool {i : Int} (h : Q (.bl false) H) : rIsiU K [.int i, .ty "bool"] H Q := w_isi (.base (.int i)) (kit_ty (r := false) (by decide +kernel)) h
theorem w_is_bool_dict {kk : Bool} (h : Q (.bl false) H) : rIsiU K [.bl kk, .ty "dict"] H Q := w_isi (.base (.bl kk)) (kit_ty (r := false) (by decide +kernel)) h
theorem w_is_bool_list {kk : Bool} (h : Q (.bl false) H) : rIsiU K [.bl kk, .ty "list"] H Q := w_isi (.base (.bl kk)) (kit_ty (r := false) (by decide +kernel)) h
theorem w_is_bool_tuple {kk : Bool} (h : Q (.bl false) H) : rIsiU K [.bl kk, .ty "tuple"] H Q := w_isi (.base (.bl kk)) (kit_ty (r := false) (by decide +kernel)) h
theorem w_is_bool_str {kk : Bool} (h : Q (.bl false) H) : rIsiU K [.bl kk, .ty "str"] H Q := w_isi (.base (.bl kk)) (kit_ty (r := false) (by decide +kernel)) h
theorem w_is_bool_int {kk : Bool} (h : Q (.bl true) H) : rIsiU K [.bl kk, .ty "int"] H Q := w_isi (.base (.bl kk)) (kit_ty (r := true) (by decide +kernel)) h
theorem w_is_bool_bool {kk : Bool} (h : Q (.bl true) H) : rIsiU K [.bl kk, .ty "bool"] H Q := w_isi (.base (.bl kk)) (kit_ty (r := true) (by decide +kernel)) h
theorem w_is_str_dict {zz : Str} (h : Q (.bl false) H) : rIsiU K [.str zz, .ty "dict"] H Q := w_isi (.base (.str zz)) (kit_ty (r := false) (by decide +kernel)) h
theorem w_is_str_list {zz : Str} (h : Q (.bl false) H) : rIsiU K [.str zz, .ty "list"] H Q := w_isi (.base (.str zz)) (kit_ty (r := false) (by decide +kernel)) h
theorem w_is_str_tuple {zz : Str} (h : Q (.bl false) H) : rIsiU K [.str zz, .ty "tuple"] H Q := w_isi (.base (.str zz)) (kit_ty (r := false) (by decide +kernel)) h
theorem w_is_str_str {zz : Str} (h : Q (.bl true) H) : rIsiU K [.str zz, .ty "str"] H Q := w_isi (.base (.str zz)) (kit_ty (r := true) (by decide +kernel)) h
theorem w_is_str_int {zz : Str} (h : Q (.bl false) H) : rIsiU K [.str zz, .ty "int"] H Q := w_isi (.base (.str zz)) (kit_ty (r := false) (by decide +kernel)) h
theorem w_is_str_bool {zz : Str} (h : Q (.bl false) H) : rIsiU K [.str zz, .ty "bool"] H Q := w_isi (.base (.str zz)) (kit_ty (r := false) (by decide +kernel)) h
theorem w_is_nonetype_dict (h : Q (.bl false) H) : rIsiU K [.non, .ty "dict"] H Q := w_isi (.base .non) (kit_ty (r := false) (by decide +kernel)) h
theorem w_is_nonetype_list (h : Q (.bl false) H) : rIsiU K [.non, .ty "list"] H Q := w_isi (.base .non) (kit_ty (r := false) (by decide +kernel)) h
theorem w_is_nonetype_tuple (h : Q (.bl false) H) : rIsiU K [.non, .ty "tuple"] H Q := w_isi (.base .non) (kit_ty (r := false) (by decide +kernel)) h
theorem w_is_nonetype_str (h : Q (.bl false) H) : rIsiU K [.non, .ty "str"] H Q := w_isi (.base .non) (kit_ty (r := false) (by decide +kernel)) h
theorem w_is_nonetype_int (h : Q (.bl false) H) : rIsiU K [.non, .ty "int"] H Q := w_isi (.base .non) (kit_ty (r := false) (by decide +kernel)) h
theorem w_is_nonetype_bool (h : Q (.bl false) H) : rIsiU K [.non, .ty "bool"] H Q := w_isi (.base .non) (kit_ty (r := false) (by decide +kernel)) h
theorem w_is_list_dict (hl : SqL K H a xs) (h : Q (.bl false) H) : rIsiU K [.ref a, .ty "dict"] H Q := w_isi (ty_l hl) (kit_ty (r := false) (by decide +kernel)) h
theorem w_is_list_list (hl : SqL K H a xs) (h : Q (.bl true) H) : rIsiU K [.ref a, .ty "list"] H Q := w_isi (ty_l hl) (kit_ty (r := true) (by decide +kernel)) h
theorem w_is_list_tuple (hl : SqL K H a xs) (h : Q (.bl false) H) : rIsiU K [.ref a, .ty "tuple"] H Q := w_isi (ty_l hl) (kit_ty (r := false) (by decide +kernel)) h
theorem w_is_list_str (hl : SqL K H a xs) (h : Q (.bl false) H) : rIsiU K [.ref a, .ty "str"] H Q := w_isi (ty_l hl) (kit_ty (r := false) (by decide +kernel)) h
theorem w_is_list_int (hl : SqL K H a xs) (h : Q (.bl false) H) : rIsiU K [.ref a, .ty "int"] H Q := w_isi (ty_l hl) (kit_ty (r := false) (by decide +kernel)) h
theorem w_is_list_bool (hl : SqL K H a xs) (h : Q (.bl false) H) : rIsiU K [.ref a, .ty "bool"] H Q := w_isi (ty_l hl) (kit_ty (r := false) (by decide +kernel)) h
theorem w_is_tuple_dict (hl : SqT K H a xs) (h : Q (.bl false) H) : rIsiU K [.ref a, .ty "dict"] H Q := w_isi (ty_t hl) (kit_ty (r := false) (by decide +kernel)) h
theorem w_is_tuple_list (hl : SqT K H a xs) (h : Q (.bl false) H) : rIsiU K [.ref a, .ty "list"] H Q := w_isi (ty_t hl) (kit_ty (r := false) (by decide +kernel)) h
theorem w_is_tuple_tuple (hl : SqT K H a xs) (h : Q (.bl true) H) : rIsiU K [.ref a, .ty "tuple"] H Q := w_isi (ty_t hl) (kit_ty (r := true) (by decide +kernel)) h
theorem w_is_tuple_str (hl : SqT K H a xs) (h : Q (.bl false) H) : rIsiU K [.ref a, .ty "str"] H Q := w_isi (ty_t hl) (kit_ty (r := false) (by decide +kernel)) h
theorem w_is_tuple_int (hl : SqT K H a xs) (h : Q (.bl false) H) : rIsiU K [.ref a, .ty "int"] H Q := w_isi (ty_t hl) (kit_ty (r := false) (by decide +kernel)) h
theorem w_is_tuple_bool (hl : SqT K H a xs) (h : Q (.bl false) H) : rIsiU K [.ref a, .ty "bool"] H Q := w_isi (ty_t hl) (kit_ty (r := false) (by decide +kernel)) h
theorem w_slL {lo hi : Option Int} (hl : SqL K H a xs) (h : ∀ p, H p = none → Q (.ref p) (upd H p (.lst (cutV xs lo hi)))) : rSlU K (.ref a) lo hi H Q := .inl (.inl ⟨a, xs, rfl, hl, h⟩)
theorem w_rep {k : Int} (hl : H a = some (.lst xs)) (h1 : -(2 ^ 63) ≤ k) (h2 : k < 2 ^ 63) (h3 : xs.length * k.toNat ≤ sizeLine) (h : ∀ p, H p = none → Q (.ref p) (upd H p (.lst ((List.replicate k.toNat xs).flatten)))) : rMulU (.ref a) (.int k) H Q := by
  refine .inr ?_
  exact ⟨a, k, xs, rfl, rfl, hl, h1, h2, h3, h⟩
/-! ifs -/
theorem w_ifd {p A B : Prop} [Decidable p] (h1 : p → A) (h2 : ¬ p → B) : if decide p = true then A else B := by
  by_cases h : p
  · rw [if_pos (decide_eq_true h)]; exact h1 h
  · rw [if_neg (by simp [h])]; exact h2 h
theorem w_ifn {p A B : Prop} [Decidable p] (h1 : ¬ p → A) (h2 : p → B) : if (!decide p) = true then A else B := by
  by_cases h : p
  · rw [if_neg (by simp [h])]; exact h2 h
  · rw [if_pos (by simp [h])]; exact h1 h
theorem w_ifb {b : Bool} {A B : Prop} (h1 : b = true → A) (h2 : b = false → B) : if b = true then A else B := by
  cases b with
  | true => exact h1 rfl
  | false => exact h2 rfl
theorem w_ifNF {A B : Prop} (h : A) : if (!false) = true then A else B := by simpa using h
theorem w_ifNT {A B : Prop} (h : B) : if (!true) = true then A else B := by simpa using h
theorem w_ifT {A B : Prop} (h : A) : if true = true then A else B := by rw [if_pos rfl]; exact h
theorem w_ifF {A B : Prop} (h : B) : if false = true then A else B := by rw [if_neg Bool.false_ne_true]; exact h
end
/-! what is walked -/
section
variable {σ : L2.St} {H : Hp} {Q : VK} {K : PySem.W.Frag} {R : It → Hp → Prop} {ta : TA} {te : TE}
theorem w_lc {wi : TI} {g : TG} {tt : TT} {te : TE} {vs : List Nat} (h : wi σ H fun J H1 => ∀ D, H1 D = none → ∃ W : Nat → Nat → Hp → Prop, (∃ m, W 0 m (upd H1 D (.lst []))) ∧ ∀ i m H, W i m H →
  (J.stop i H ∧ Q (.ref D) H) ∨ (J.go i H ∧ ∃ Nx : Hp → Prop, (∀ H', Nx H' → ∃ m', m' < m ∧ W (i + 1) m' H') ∧ ∀ x H', J.yld i H x H' → g x (wipe σ vs) H' fun σ2 H2 => wipe σ2 vs = wipe σ vs ∧ tt σ2 H2 fun b H3 =>
    if b = true then te σ2 H3 fun y H4 => ∃ acc, H4 D = some (.lst acc) ∧ acc.length < sizeLine ∧ Nx (upd H4 D (.lst (acc ++ [y]))) else Nx H3)) : tLc wi g tt te vs σ H Q := h
/-- what has come is walked -/
def ZipK (K : PySem.W.Frag) (R : It → Hp → Prop) (vs : List V) (H1 : Hp) : Prop := ∃ a b xs ys, vs = [.ref a, .ref b] ∧ ((SqL K H1 a xs ∧ SqL K H1 b ys ∧ R (Itz K a b) H1) ∨ (SqT K H1 a xs ∧ SqT K H1 b ys ∧ R (RZ.ItzT K a b) H1))
def SeqK (K : PySem.W.Frag) (R : It → Hp → Prop) (x : V) (H1 : Hp) : Prop := (∃ a xs, x = .ref a ∧ SqL K H1 a xs ∧ R (Itl K a) H1) ∨ (∃ a xs, x = .ref a ∧ SqT K H1 a xs ∧ R (Itt K a) H1) ∨ ∃ z, x = .str z ∧ R (Its z) H1
def Rng1K (R : It → Hp → Prop) (vs : List V) (H1 : Hp) : Prop := ∃ j : Int, vs = [.int j] ∧ -(2 ^ 62) ≤ j ∧ j < 2 ^ 62 ∧ R (Itr 0 j.toNat) H1
def Rng2K (R : It → Hp → Prop) (vs : List V) (H1 : Hp) : Prop := ∃ i j : Int, vs = [.int i, .int j] ∧ (-(2 ^ 62) ≤ i ∧ i < 2 ^ 62 ∧ -(2 ^ 62) ≤ j ∧ j < 2 ^ 62) ∧ R (Itr i (j - i).toNat) H1
def EnumK (K : PySem.W.Frag) (R : It → Hp → Prop) (vs : List V) (H1 : Hp) : Prop := ∃ a xs, vs = [.ref a] ∧ ((SqL K H1 a xs ∧ R (Ite K a) H1) ∨ (SqT K H1 a xs ∧ R (IteT K a) H1))
def RevK (K : PySem.W.Frag) (R : It → Hp → Prop) (v : V) (H1 : Hp) : Prop := ∃ (a : Addr) (xs : List V), v = .ref a ∧ ((SqL K H1 a xs ∧ R (Itv K a xs.length) H1) ∨ (SqT K H1 a xs ∧ R (RT.ItvT K a xs.length) H1))
theorem w_zip (h : ta σ H fun vs H1 => ZipK K R vs H1) : RZ.iZipA K ta σ H R := h
theorem w_seqv (h : te σ H fun x H1 => SeqK K R x H1) : iSeqV K te σ H R := h
theorem w_rng1 (h : ta σ H fun vs H1 => Rng1K R vs H1) : iRng1 ta σ H R := h
theorem w_rng2 (h : ta σ H fun vs H1 => Rng2K R vs H1) : iRng2 ta σ H R := h
theorem w_enum (h : ta σ H fun vs H1 => EnumK K R vs H1) : iEnumU K ta σ H R := h
theorem w_rev (h : te σ H fun v H1 => RevK K R v H1) : RT.iRevA K te σ H R := h
theorem w_itL {a : Addr} {xs : List V} (hl : SqL K H a xs) (h : R (Itl K a) H) : SeqK K R (.ref a) H := .inl ⟨a, xs, rfl, hl, h⟩
theorem w_itT {a : Addr} {xs : List V} (hl : SqT K H a xs) (h : R (Itt K a) H) : SeqK K R (.ref a) H := .inr (.inl ⟨a, xs, rfl, hl, h⟩)
theorem w_itS {z : Str} (h : R (Its z) H) : SeqK K R (.str z) H := .inr (.inr ⟨z, rfl, h⟩)
theorem w_itR {j : Int} (h1 : -(2 ^ 62) ≤ j) (h2 : j < 2 ^ 62) (h : R (Itr 0 j.toNat) H) : Rng1K R [.int j] H := ⟨j, rfl, h1, h2, h⟩
theorem w_itR2 {i j : Int} (h1 : -(2 ^ 62) ≤ i ∧ i < 2 ^ 62 ∧ -(2 ^ 62) ≤ j ∧ j < 2 ^ 62) (h : R (Itr i (j - i).toNat) H) : Rng2K R [.int i, .int j] H := ⟨i, j, rfl, h1, h⟩
theorem w_itEL {a : Addr} {xs : List V} (hl : SqL K H a xs) (h : R (Ite K a) H) : EnumK K R [.ref a] H := ⟨a, xs, rfl, .inl ⟨hl, h⟩⟩
theorem w_itET {a : Addr} {xs : List V} (hl : SqT K H a xs) (h : R (IteT K a) H) : EnumK K R [.ref a] H := ⟨a, xs, rfl, .inr ⟨hl, h⟩⟩
theorem w_itZL {a b : Addr} {xs ys : List V} (ha : SqL K H a xs) (hb : SqL K H b ys) (h : R (Itz K a b) H) : ZipK K R [.ref a, .ref b] H := ⟨a, b, xs, ys, rfl, .inl ⟨ha, hb, h⟩⟩
theorem w_itZT {a b : Addr} {xs ys : List V} (ha : SqT K H a xs) (hb : SqT K H b ys) (h : R (RZ.ItzT K a b) H) : ZipK K R [.ref a, .ref b] H := ⟨a, b, xs, ys, rfl, .inr ⟨ha, hb, h⟩⟩
theorem w_itVL {a : Addr} {xs : List V} (hl : SqL K H a xs) (h : R (Itv K a xs.length) H) : RevK K R (.ref a) H := ⟨a, xs, rfl, .inl ⟨hl, h⟩⟩
theorem w_itVT {a : Addr} {xs : List V} (hl : SqT K H a xs) (h : R (RT.ItvT K a xs.length) H) : RevK K R (.ref a) H := ⟨a, xs, rfl, .inr ⟨hl, h⟩⟩
end
theorem sz_le {n : Nat} (h : n ≤ 16777216) : n ≤ sizeLine := by rw [sizeLine_eq]; exact h
theorem sz_lt {n : Nat} (h : n < 16777216) : n < sizeLine := by rw [sizeLine_eq]; exact h

end Ps

/-! PsD: what every law begins with: its draws. -/
namespace Ps
open PySem PySem.Spec PyProof.Rows L2
local macro_rules | `(tactic| walk_at "s1") => `(tactic| first
  | (with_reducible refine w_seq ?_) | (with_reducible refine w_asg ?_) | (with_reducible refine w_op ?_) | (with_reducible refine w_c ?_)
  | ((with_reducible refine' w_var ?hx ?_); (case hx => exact rfl))
  | (with_reducible refine w_gname ?_) | (with_reducible refine w_cons ?_) | (with_reducible refine w_nil ?_) | (with_reducible refine w_cb ?_) | (with_reducible refine w_call ?_)
  | (with_reducible refine w_ret ?_) | (with_reducible refine w_drop ?_) | (with_reducible refine w_ifs ?_) | (with_reducible refine w_test ?_) | (with_reducible refine w_next ?_)
  | (with_reducible refine w_addI ?_) | (with_reducible refine w_subI ?_) | (with_reducible refine w_negI ?_) | (with_reducible refine w_eqI ?_) | (with_reducible refine w_neI ?_) | (with_reducible refine w_ltI ?_) | (with_reducible refine w_leI ?_)
  | (with_reducible refine w_gtI ?_) | (with_reducible refine w_geI ?_) | (with_reducible refine w_isNn ?_) | (with_reducible refine w_isNi ?_) | (with_reducible refine w_isNs ?_) | (with_reducible refine w_isNr ?_) | (with_reducible refine w_ntNn ?_) | (with_reducible refine w_ntNi ?_) | (with_reducible refine w_ntNs ?_) | (with_reducible refine w_ntNr ?_) | (with_reducible refine w_isN ?_) | (with_reducible refine w_notN ?_) | (with_reducible refine w_ipaI ?_) | (with_reducible refine w_eqS ?_) | (with_reducible refine w_neS ?_)
  | (with_reducible refine w_blE ?_) | (with_reducible refine w_truB ?_) | (with_reducible refine w_intI ?_) | (with_reducible refine w_intB ?_)
  | (with_reducible refine w_bm ?_) | (with_reducible refine w_bm0 ?_) | (with_reducible refine w_lst ?_) | (with_reducible refine w_tup ?_) | (with_reducible refine w_un ?_) | (with_reducible refine w_sl ?_) | (with_reducible refine w_nopart ?_) | (with_reducible refine w_part ?_) | (with_reducible refine w_partI ?_)
  | (with_reducible refine w_gsub ?_) | (with_reducible refine w_gcons ?_) | (with_reducible refine w_gnil ?_) | (with_reducible refine w_and ?_) | (with_reducible refine w_or ?_) | (with_reducible refine w_not ?_) | (with_reducible refine w_tru ?_) | (with_reducible refine w_yes ?_)
  | (with_reducible refine w_andV ?_) | (with_reducible refine w_orV ?_) | (with_reducible refine w_notV ?_) | (with_reducible refine w_tif ?_) | (with_reducible refine w_callS ?_) | (with_reducible refine w_for ?_)
  | (with_reducible refine w_par ?_) | (with_reducible refine w_par2 ?_) | (with_reducible refine w_retN ?_) | (with_reducible refine w_brk ?_) | (with_reducible refine w_cont ?_)
  | ((with_reducible refine' w_aug ?hx ?_); (case hx => exact rfl)) | (with_reducible refine w_ipsI ?_)
  | (with_reducible refine w_is_int_dict ?_) | (with_reducible refine w_is_int_list ?_) | (with_reducible refine w_is_int_tuple ?_) | (with_reducible refine w_is_int_str ?_) | (with_reducible refine w_is_int_int ?_) | (with_reducible refine w_is_int_bool ?_) | (with_reducible refine w_is_bool_dict ?_) | (with_reducible refine w_is_bool_list ?_) | (with_reducible refine w_is_bool_tuple ?_) | (with_reducible refine w_is_bool_str ?_) | (with_reducible refine w_is_bool_int ?_) | (with_reducible refine w_is_bool_bool ?_) | (with_reducible refine w_is_str_dict ?_) | (with_reducible refine w_is_str_list ?_) | (with_reducible refine w_is_str_tuple ?_) | (with_reducible refine w_is_str_str ?_) | (with_reducible refine w_is_str_int ?_) | (with_reducible refine w_is_str_bool ?_)
  | (with_reducible refine w_ifT ?_) | (with_reducible refine w_ifF ?_) | (with_reducible refine w_ifNF ?_) | (with_reducible refine w_ifNT ?_)
  | (with_reducible refine w_lc ?_) | (with_reducible refine w_zip ?_) | (with_reducible refine w_seqv ?_) | (with_reducible refine w_rng1 ?_) | (with_reducible refine w_rng2 ?_) | (with_reducible refine w_rng3 ?_) | (with_reducible refine w_enum ?_) | (with_reducible refine w_rev ?_))
local macro_rules | `(tactic| walk_at "go") => `(tactic| repeat (walk_at "s1"))
/- _law_begin: 0 _law_script, 1 _law_cells -/
def t_begin (K : PySem.W.Frag) : TS :=
      (tSeq (tAsg (tCB (rListU K) (tCons (tSl (rSlU K) (tVar 0) tNoPart (tPart (tC (.int 63)))) tNil)) (gName 1))
      (tSeq (tIfS (tTest (tOp (rEqU K) (tVar 1) (tLst tNil)))
      (tAsg (tLst (tCons (tC (.int 7)) tNil)) (gName 1))
      tNext)
      (tRet (tDisp [((tC (.str ("cells" : Str))), (tVar 1)), ((tC (.str ("turn" : Str))), (tC (.int 0)))]))))
abbrev N_begin : List Str := [("_law_script" : Str), ("_law_cells" : Str)]

/- _law_take: 0 _law_state, 1 _law_many, 2 _law_turn, 3 _law_place, 4 _law_cell, 5 _law_digit, 6 _law_mixed -/
def t_take (K : PySem.W.Frag) : TS :=
      (tSeq (tAsg (tOp (rAddU K) (tOp (rIxU K) (tVar 0) (tC (.str ("turn" : Str)))) (tC (.int 1))) (gName 2))
      (tSeq (tAsg (tVar 2) (gSub (tVar 0) (tC (.str ("turn" : Str))) rSetU))
      (tSeq (tAsg (tOp (rModU) (tVar 2) (tCB (rLenU K) (tCons (tOp (rIxU K) (tVar 0) (tC (.str ("cells" : Str)))) tNil))) (gName 3))
      (tSeq (tAsg (tOp (rIxU K) (tOp (rIxU K) (tVar 0) (tC (.str ("cells" : Str)))) (tVar 3)) (gName 4))
      (tSeq (tIfS (tTest (tOp (rGeU) (tVar 4) (tOp (rPowU) (tC (.int 10)) (tC (.int 18)))))
      (tSeq (tAsg (tCB (rDivmod) (tCons (tVar 4) (tCons (tVar 1) tNil))) (gTup K 2 (gCons (gSub (tOp (rIxU K) (tVar 0) (tC (.str ("cells" : Str)))) (tVar 3) rSetU) (gCons (gName 5) gNil))))
      (tRet (tVar 5)))
      tNext)
      (tSeq (tAsg (tOp (rModU) (tOp (rMulU) (tOp (rAddU K) (tOp (rAddU K) (tOp (rModU) (tVar 4) (tC (.int 2147483629))) (tOp (rMulU) (tOp (rMulU) (tVar 2) (tVar 2)) (tC (.int 7919)))) (tC (.int 11))) (tC (.int 48271))) (tC (.int 2147483647))) (gName 6))
      (tSeq (tAsg (tOp (rModU) (tOp (rMulU) (tVar 6) (tVar 6)) (tC (.int 2147483587))) (gName 6))
      (tRet (tOp (rModU) (tOp (rDivU) (tOp (rModU) (tOp (rMulU) (tOp (rAddU K) (tVar 6) (tOp (rMulU) (tVar 2) (tC (.int 104729)))) (tC (.int 69621))) (tC (.int 2147483629))) (tC (.int 7))) (tVar 1))))))))))
abbrev N_take : List Str := [("_law_state" : Str), ("_law_many" : Str), ("_law_turn" : Str), ("_law_place" : Str), ("_law_cell" : Str), ("_law_digit" : Str), ("_law_mixed" : Str)]

/-- the law's state: its cells at c, its turn -/
def stD (c : Addr) (t : Int) : HO := .dK [(.inr "cells", .ref c), (.inr "turn", .int t)]
/-- the law's world: m turns may still be taken -/
def LW (m : Nat) (a : Addr) (R : List (Addr × HO)) (G H : Hp) : Prop := ∃ (c : Addr) (t : Int) (ns : List Int), Wd ((a, stD c t) :: (c, .lst (ns.map V.int)) :: R) G H ∧ 0 < ns.length ∧ 0 ≤ t ∧ t + m ≤ 2 ^ 50
section
variable {m m' : Nat} {a p l : Addr} {R : List (Addr × HO)} {G G' H H' : Hp} {o o' : HO} {x : Addr × HO}
theorem LW.le (h : LW m a R G H) (l : m' ≤ m) : LW m' a R G H := by
  obtain ⟨c, t, ns, w, h1, h2, h3⟩ := h
  exact ⟨c, t, ns, w, h1, h2, by omega⟩
theorem LW.v (h : LW m a R G H) : Same G H := by
  obtain ⟨c, t, ns, w, _⟩ := h
  exact w.v
theorem LW.same (h : LW m a R G H) (s : Same H H') : LW m a R G H' := by
  obtain ⟨c, t, ns, w, r⟩ := h
  exact ⟨c, t, ns, w.same s, r⟩
theorem LW.grow (h : LW m a R G H) (g : Grow H G H' G') : LW m a R G' H' := by
  obtain ⟨c, t, ns, w, r⟩ := h
  exact ⟨c, t, ns, w.grow g, r⟩
theorem LW.own (h : LW m a R G H) (s : Same H H') (hp : H p = none) (e : H' p = some o) : LW m a ((p, o) :: R) G H' := by
  obtain ⟨c, t, ns, w, r⟩ := h
  exact ⟨c, t, ns, w.own3 s hp e, r⟩
theorem LW.new (h : LW m a R G H) (hp : H p = none) : LW m a R (upd G p o) (upd H p o) := h.grow (Grow.new h.v hp)
theorem LW.mk (h : LW m a R G H) (hp : H p = none) : LW m a ((p, o) :: R) G (upd H p o) := h.own (same_new hp) hp upd_same
theorem LW.put (h : LW m a ((l, o) :: R) G H) : LW m a ((l, o') :: R) G (upd H l o') := by
  obtain ⟨c, t, ns, w, r⟩ := h
  exact ⟨c, t, ns, w.put3, r⟩
theorem LW.hd (h : LW m a ((l, o) :: R) G H) : H l = some o := by
  obtain ⟨c, t, ns, w, r⟩ := h
  exact w.td
theorem LW.drop (h : LW m a (x :: R) G H) : LW m a R G H := by
  obtain ⟨c, t, ns, w, r⟩ := h
  exact ⟨c, t, ns, w.rot3.drop, r⟩
theorem LW.share (h : LW m a ((l, o) :: R) G H) : LW m a R (upd G l o) H := by
  obtain ⟨c, t, ns, w, r⟩ := h
  exact ⟨c, t, ns, w.rot3.share, r⟩
theorem LW.gsame (h : LW m a ((l, o) :: R) G H) (o' : HO) : Same G (upd G l o') := by
  obtain ⟨c, t, ns, w, r⟩ := h
  exact w.rot3.gsame o'
end
theorem ne_ct : ¬ (Str.ofString "cells" = Str.ofString "turn") := by decide +kernel
theorem st_turn {c : Addr} {t : Int} : valV [((.inr "cells" : Key), V.ref c), (.inr "turn", V.int t)] (.inr "turn") = some (.int t) := by
  simp [valV, ne_ct]
theorem st_cells {c : Addr} {t : Int} : valV [((.inr "cells" : Key), V.ref c), (.inr "turn", V.int t)] (.inr "cells") = some (.ref c) := by
  simp [valV]
theorem st_len {c : Addr} {t : Int} : [((.inr "cells" : Key), V.ref c), (.inr "turn", V.int t)].length < sizeLine := by
  show 2 < sizeLine
  decide
theorem st_put {c : Addr} {t u : Int} : HO.dK (putK [((.inr "cells" : Key), V.ref c), (.inr "turn", V.int t)] (.inr "turn") (.int u)) = stD c u := by
  simp [putK, stD, ne_ct]
theorem ixN_nat {n j : Nat} (hj : j < n) : ixN n (j : Int) = some j := by
  unfold ixN
  rw [if_pos (by omega), if_pos (by omega)]
  simp
/-- _law_take -/
def spTake : Sp := fun vs H Q _ => ∃ (m : Nat) (a : Addr) (n : Int) (R : List (Addr × HO)) (G : Hp), vs = [.ref a, .int n] ∧ LW (m + 1) a R G H ∧ 0 < n ∧ n < 2 ^ 62 ∧
  ∀ (v : Int) (H' : Hp), LW m a R G H' → 0 ≤ v → v < n → Q (.int v) H'
theorem spTake_len (vs : List V) (H : Hp) (Q : VK) (E : XK) (h : spTake vs H Q E) : vs.length = 2 := by
  obtain ⟨m, a, n, R, G, rfl, _⟩ := h
  rfl
theorem pure_take {K : PySem.W.Frag} (vs : List V) (H : Hp) (Q : VK) (E : XK) (h : spTake vs H Q E) : t_take K { nx := fun _ H' => Q .non H', rt := Q } (start N_take vs) H := by
  obtain ⟨m, a, n, R, G, rfl, ⟨c, t, ns, w, hns, ht0, htm⟩, hn0, hn1, k⟩ := h
  unfold t_take
  walk_at "go"
  refine w_ixDs w.hd st_turn ?_
  walk_at "go"
  refine w_setDs w.hd st_len ?_
  rw [st_put]
  have w1 : Wd ((a, stD c (t + 1)) :: (c, .lst (ns.map V.int)) :: R) G (upd H a (stD c (t + 1))) := w.put
  revert w1
  generalize upd H a (stD c (t + 1)) = H1
  intro w1
  walk_at "go"
  refine w_ixDs w1.hd st_cells ?_
  walk_at "go"
  refine w_lenL (SqL.of w1.sd) ?_
  walk_at "go"
  refine w_modI (by rw [List.length_map]; omega) ?_
  rw [List.length_map]
  obtain ⟨j, hj, ej⟩ : ∃ j : Nat, j < ns.length ∧ (t + 1) % (ns.length : Int) = (j : Int) := ⟨((t + 1) % (ns.length : Int)).toNat, by
    have h1 := Int.emod_nonneg (t + 1) (show (ns.length : Int) ≠ 0 by omega)
    have h2 := Int.emod_lt_of_pos (t + 1) (show (0 : Int) < ns.length by omega)
    omega, by
    have h1 := Int.emod_nonneg (t + 1) (show (ns.length : Int) ≠ 0 by omega)
    omega⟩
  rw [ej]
  walk_at "go"
  refine w_ixDs w1.hd st_cells ?_
  walk_at "go"
  refine w_ixL (v := V.int ns[j]) (SqL.of w1.sd) (atI_nat (by simp [hj])) ?_
  walk_at "go"
  refine w_powI ⟨by decide, by decide, by decide⟩ ?_
  walk_at "go"
  refine w_ifd (fun hc => ?_) (fun hc => ?_)
  · walk_at "go"
    refine w_divmod (wide_div (b := 62) hn0 (by omega) (by decide) (by decide)) fun p hp => ?_
    have w2 := w1.new (o := .tup [.int (ns[j] / n), .int (ns[j] % n)]) hp
    walk_at "go"
    refine w_gtup (SqT.of upd_same) rfl ?_
    walk_at "go"
    refine w_ixDs w2.hd st_cells ?_
    walk_at "go"
    refine w_setL (k := j) w2.sd (by rw [List.length_map]; exact ixN_nat hj) ?_
    have w3 := w2.put2 (o' := .lst ((ns.map V.int).set j (.int (ns[j] / n))))
    walk_at "go"
    have el : (ns.map V.int).set j (.int (ns[j] / n)) = (ns.set j (ns[j] / n)).map V.int := by rw [List.map_set]
    rw [el] at w3 ⊢
    refine k _ _ ?_ (Int.emod_nonneg _ (by omega)) (Int.emod_lt_of_pos _ hn0)
    obtain ⟨v3, o3, n3⟩ := w3
    exact ⟨c, t + 1, ns.set j (ns[j] / n), ⟨(same_new (w1.v.free hp)).trans v3, fun y hy => ⟨(o3 y hy).1, (same_new (w1.v.free hp)).free (o3 y hy).2⟩, n3⟩, by rw [List.length_set]; exact hns, by omega, by omega⟩
  · have ht : -(2 ^ 64) < t + 1 ∧ t + 1 < 2 ^ 64 := by omega
    walk_at "go"
    refine w_modF (by decide) fun z1 h1 h2 => ?_
    walk_at "go"
    refine w_mulI (.inl ht) ?_
    walk_at "go"
    refine w_mulI (.inr ⟨by decide, by decide⟩) ?_
    walk_at "go"
    refine w_mulI (.inr ⟨by decide, by decide⟩) ?_
    walk_at "go"
    refine w_modF (by decide) fun z2 h3 h4 => ?_
    walk_at "go"
    refine w_mulI (.inl ⟨by omega, by omega⟩) ?_
    walk_at "go"
    refine w_modF (by decide) fun z3 h5 h6 => ?_
    walk_at "go"
    refine w_mulI (.inr ⟨by decide, by decide⟩) ?_
    walk_at "go"
    refine w_mulI (.inr ⟨by decide, by decide⟩) ?_
    walk_at "go"
    refine w_modF (by decide) fun z4 h7 h8 => ?_
    walk_at "go"
    refine w_divI ⟨by decide, by decide⟩ ?_
    walk_at "go"
    refine w_modF hn0 fun z5 h9 h10 => ?_
    exact k _ _ ⟨c, t + 1, ns, w1, hns, by omega, by omega⟩ h9 h10
end Ps

/-! PsE: how a law begins, how it compares. -/
namespace Ps
open PySem PySem.Spec PyProof.Rows L2
local macro_rules | `(tactic| walk_at "s1") => `(tactic| first
  | (with_reducible refine w_seq ?_) | (with_reducible refine w_asg ?_) | (with_reducible refine w_op ?_) | (with_reducible refine w_c ?_)
  | ((with_reducible refine' w_var ?hx ?_); (case hx => exact rfl))
  | (with_reducible refine w_gname ?_) | (with_reducible refine w_cons ?_) | (with_reducible refine w_nil ?_) | (with_reducible refine w_cb ?_) | (with_reducible refine w_call ?_)
  | (with_reducible refine w_ret ?_) | (with_reducible refine w_drop ?_) | (with_reducible refine w_ifs ?_) | (with_reducible refine w_test ?_) | (with_reducible refine w_next ?_)
  | (with_reducible refine w_addI ?_) | (with_reducible refine w_subI ?_) | (with_reducible refine w_negI ?_) | (with_reducible refine w_eqI ?_) | (with_reducible refine w_neI ?_) | (with_reducible refine w_ltI ?_) | (with_reducible refine w_leI ?_)
  | (with_reducible refine w_gtI ?_) | (with_reducible refine w_geI ?_) | (with_reducible refine w_isNn ?_) | (with_reducible refine w_isNi ?_) | (with_reducible refine w_isNs ?_) | (with_reducible refine w_isNr ?_) | (with_reducible refine w_ntNn ?_) | (with_reducible refine w_ntNi ?_) | (with_reducible refine w_ntNs ?_) | (with_reducible refine w_ntNr ?_) | (with_reducible refine w_isN ?_) | (with_reducible refine w_notN ?_) | (with_reducible refine w_ipaI ?_) | (with_reducible refine w_eqS ?_) | (with_reducible refine w_neS ?_)
  | (with_reducible refine w_blE ?_) | (with_reducible refine w_truB ?_) | (with_reducible refine w_intI ?_) | (with_reducible refine w_intB ?_)
  | (with_reducible refine w_bm ?_) | (with_reducible refine w_bm0 ?_) | (with_reducible refine w_lst ?_) | (with_reducible refine w_tup ?_) | (with_reducible refine w_un ?_) | (with_reducible refine w_sl ?_) | (with_reducible refine w_nopart ?_) | (with_reducible refine w_part ?_) | (with_reducible refine w_partI ?_)
  | (with_reducible refine w_gsub ?_) | (with_reducible refine w_gcons ?_) | (with_reducible refine w_gnil ?_) | (with_reducible refine w_and ?_) | (with_reducible refine w_or ?_) | (with_reducible refine w_not ?_) | (with_reducible refine w_tru ?_) | (with_reducible refine w_yes ?_)
  | (with_reducible refine w_andV ?_) | (with_reducible refine w_orV ?_) | (with_reducible refine w_notV ?_) | (with_reducible refine w_tif ?_) | (with_reducible refine w_callS ?_) | (with_reducible refine w_for ?_)
  | (with_reducible refine w_par ?_) | (with_reducible refine w_par2 ?_) | (with_reducible refine w_retN ?_) | (with_reducible refine w_brk ?_) | (with_reducible refine w_cont ?_)
  | ((with_reducible refine' w_aug ?hx ?_); (case hx => exact rfl)) | (with_reducible refine w_ipsI ?_)
  | (with_reducible refine w_is_int_dict ?_) | (with_reducible refine w_is_int_list ?_) | (with_reducible refine w_is_int_tuple ?_) | (with_reducible refine w_is_int_str ?_) | (with_reducible refine w_is_int_int ?_) | (with_reducible refine w_is_int_bool ?_) | (with_reducible refine w_is_bool_dict ?_) | (with_reducible refine w_is_bool_list ?_) | (with_reducible refine w_is_bool_tuple ?_) | (with_reducible refine w_is_bool_str ?_) | (with_reducible refine w_is_bool_int ?_) | (with_reducible refine w_is_bool_bool ?_) | (with_reducible refine w_is_str_dict ?_) | (with_reducible refine w_is_str_list ?_) | (with_reducible refine w_is_str_tuple ?_) | (with_reducible refine w_is_str_str ?_) | (with_reducible refine w_is_str_int ?_) | (with_reducible refine w_is_str_bool ?_)
  | (with_reducible refine w_ifT ?_) | (with_reducible refine w_ifF ?_) | (with_reducible refine w_ifNF ?_) | (with_reducible refine w_ifNT ?_)
  | (with_reducible refine w_lc ?_) | (with_reducible refine w_zip ?_) | (with_reducible refine w_seqv ?_) | (with_reducible refine w_rng1 ?_) | (with_reducible refine w_rng2 ?_) | (with_reducible refine w_rng3 ?_) | (with_reducible refine w_enum ?_) | (with_reducible refine w_rev ?_))
local macro_rules | `(tactic| walk_at "go") => `(tactic| repeat (walk_at "s1"))
/- _law_same: 0 _law_found, 1 _law_due, 2 _law_name, 3 _law_one, 4 _law_other -/
def t_same (K : PySem.W.Frag) (s_same_ : Sp) : TS :=
      (tSeq (tIfS (tTest (tOp (rIsN) (tVar 1) (tC .non)))
      (tRet (tOp (rIsN) (tVar 0) (tC .non)))
      tNext)
      (tSeq (tIfS (tTru K (tCB (rIsiU K) (tCons (tVar 1) (tCons (tC (.ty "dict")) tNil))))
      (tSeq tNever
      tNever)
      tNext)
      (tSeq (tIfS (tOr (tTru K (tCB (rIsiU K) (tCons (tVar 1) (tCons (tC (.ty "list")) tNil)))) (tTru K (tCB (rIsiU K) (tCons (tVar 1) (tCons (tC (.ty "tuple")) tNil)))))
      (tSeq (tIfS (tTest (tOp (rNeU K) (tCB (rIsiU K) (tCons (tVar 0) (tCons (tC (.ty "list")) tNil))) (tCB (rIsiU K) (tCons (tVar 1) (tCons (tC (.ty "list")) tNil)))))
      (tRet (tC (.bl false)))
      tNext)
      (tSeq (tIfS (tOr (tTest (tOp (rNeU K) (tCB (rIsiU K) (tCons (tVar 0) (tCons (tC (.ty "tuple")) tNil))) (tCB (rIsiU K) (tCons (tVar 1) (tCons (tC (.ty "tuple")) tNil))))) (tTest (tOp (rNeU K) (tCB (rLenU K) (tCons (tVar 0) tNil)) (tCB (rLenU K) (tCons (tVar 1) tNil)))))
      (tRet (tC (.bl false)))
      tNext)
      (tRet (tCB (rAll K) (tCons (tLc (RZ.iZipA K (tCons (tVar 0) (tCons (tVar 1) tNil))) (gTup K 2 (gCons (gName 3) (gCons (gName 4) gNil))) tYes (tCall s_same_ [] E0 (tCons (tVar 3) (tCons (tVar 4) tNil))) [3, 4]) tNil)))))
      tNext)
      (tSeq (tIfS (tTru K (tCB (rIsiU K) (tCons (tVar 1) (tCons (tC (.ty "str")) tNil))))
      (tRet (tAndV (tCB (rIsiU K) (tCons (tVar 0) (tCons (tC (.ty "str")) tNil))) (tOp (rEqU K) (tVar 0) (tVar 1))))
      tNext)
      (tRet (tAndV (tCB (rIsiU K) (tCons (tVar 0) (tCons (tC (.ty "int")) tNil))) (tAndV (tNotV (tCB (rIsiU K) (tCons (tVar 0) (tCons (tC (.ty "bool")) tNil)))) (tOp (rEqU K) (tVar 0) (tVar 1)))))))))
abbrev N_same : List Str := [("_law_found" : Str), ("_law_due" : Str), ("_law_name" : Str), ("_law_one" : Str), ("_law_other" : Str)]

theorem canLayAll_ints : ∀ ns : List Int, PyData.canLayAll0 (ns.map PyData.int) = true
  | [] => rfl
  | n :: r => by
    rw [List.map_cons, PyData.canLayAll0, canLayAll_ints r]
    rfl
theorem depthAll_ints : ∀ ns : List Int, PyData.depthAll (ns.map PyData.int) = 0
  | [] => rfl
  | n :: r => by
    rw [List.map_cons, PyData.depthAll, depthAll_ints r]
    rfl
theorem shaped_dI (ns : List Int) : SeqAt.shaped (dI ns) = true := by
  unfold SeqAt.shaped dI
  rw [PyData.canLay0, PyData.depth, canLayAll_ints, depthAll_ints]
  rfl
theorem eqvAll_ints : ∀ ns ms : List Int, PyData.eqvAll (ns.map PyData.int) (ms.map PyData.int) = decide (ns = ms)
  | [], [] => by simp [PyData.eqvAll]
  | [], _ :: _ => by simp [PyData.eqvAll]
  | _ :: _, [] => by simp [PyData.eqvAll]
  | n :: r, m :: q => by
    rw [List.map_cons, List.map_cons, PyData.eqvAll, eqvAll_ints r q, PyData.eqv]
    by_cases h : n = m
    · subst h; simp
    · simp [h]
theorem eqv_dI (ns ms : List Int) : PyData.eqv (dI ns) (dI ms) = decide (ns = ms) := by
  unfold dI
  rw [PyData.eqv]
  exact eqvAll_ints ns ms
section
variable {H : Hp} {Q : VK} {K : PySem.W.Frag} {σ : L2.St} {a : Addr}
/-- two lists of ints compared -/
theorem w_eqLI {b : Addr} {ns ms : List Int} (ha : H a = some (.lst (ns.map V.int))) (hb : H b = some (.lst (ms.map V.int))) (h : Q (.bl (decide (ns = ms))) H) : rEqU K (.ref a) (.ref b) H Q :=
  w_eqD (dp_ints ha) (dp_ints hb) (shaped_dI _) (shaped_dI _) (by rw [eqv_dI]; exact h)
theorem w_neLI {b : Addr} {ns ms : List Int} (ha : H a = some (.lst (ns.map V.int))) (hb : H b = some (.lst (ms.map V.int))) (h : Q (.bl (!decide (ns = ms))) H) : rNeU K (.ref a) (.ref b) H Q :=
  w_neD (dp_ints ha) (dp_ints hb) (shaped_dI _) (shaped_dI _) (by rw [eqv_dI]; exact h)
theorem w_disp {trs : List (TE × TE)} (h : ∀ p, H p = none → tPairs trs σ (upd H p (.dK [])) fun ps H2 => H2 p = some (.dK []) ∧ ∃ kvs : List (Key × V), ps = kvs.map (fun kv => (kV kv.1, kv.2)) ∧ kvs.length ≤ 15 ∧ Q (.ref p) (upd H2 p (.dK (mergeK [] kvs)))) : tDisp trs σ H Q := h
theorem w_pcons {tk tv : TE} {r : List (TE × TE)} {P : List (V × V) → Hp → Prop} (h : tk σ H fun x H1 => tv σ H1 fun y H2 => tPairs r σ H2 fun ps H3 => P ((x, y) :: ps) H3) : tPairs ((tk, tv) :: r) σ H P := h
theorem w_pnil {P : List (V × V) → Hp → Prop} (h : P [] H) : tPairs [] σ H P := h
theorem cutV_to (xs : List V) (n : Nat) : cutV xs none (some (n : Int)) = xs.take n := by
  unfold cutV
  rw [HT.sIx_none, HT.sIx_nat, List.drop_zero, Nat.sub_zero]
  by_cases h : n ≤ xs.length
  · rw [Nat.min_eq_left h]
  · rw [Nat.min_eq_right (by omega), List.take_of_length_le (Nat.le_refl _), List.take_of_length_le (by omega)]
theorem cutV_from (xs : List V) (n : Nat) : cutV xs (some (n : Int)) none = xs.drop n := by
  unfold cutV
  rw [HT.sIx_none, HT.sIx_nat]
  by_cases h : n ≤ xs.length
  · rw [Nat.min_eq_left h, List.take_of_length_le (by rw [List.length_drop]; exact Nat.le_refl _)]
  · rw [Nat.min_eq_right (by omega), Nat.sub_self, List.take_zero, List.drop_of_length_le (by omega)]
end
/-- _law_begin -/
def spBegin (K : PySem.W.Frag) : Sp := fun vs H Q _ => ∃ (s : Addr) (ns : List Int), vs = [.ref s] ∧ SqL K H s (ns.map V.int) ∧ ns.length ≤ 63 ∧ ∀ a H', LW (2 ^ 50) a [] H H' → Q (.ref a) H'
theorem pure_begin {K : PySem.W.Frag} (vs : List V) (H : Hp) (Q : VK) (E : XK) (h : spBegin K vs H Q E) : t_begin K { nx := fun _ H' => Q .non H', rt := Q } (start N_begin vs) H := by
  obtain ⟨s, ns, rfl, hs, hl, k⟩ := h
  unfold t_begin
  walk_at "go"
  refine w_slL hs fun p hp => ?_
  have e1 : cutV (ns.map V.int) none (some 63) = ns.map V.int := by
    have q := cutV_to (ns.map V.int) 63
    rw [List.take_of_length_le (by rw [List.length_map]; exact hl)] at q
    exact q
  rw [e1]
  have s1 : Same H (upd H p (.lst (ns.map V.int))) := same_new hp
  walk_at "go"
  refine w_listL (SqL.of upd_same) fun c hc => ?_
  have s2 := s1.trans (same_new (o := .lst (ns.map V.int)) hc)
  have c2 : upd (upd H p (.lst (ns.map V.int))) c (.lst (ns.map V.int)) c = some (.lst (ns.map V.int)) := upd_same
  have hc0 : H c = none := s1.free hc
  revert c2 s2
  generalize upd (upd H p (.lst (ns.map V.int))) c (.lst (ns.map V.int)) = H2
  intro s2 c2
  walk_at "go"
  refine ⟨Nat.zero_le _, fun q hq => ?_⟩
  have s3 := s2.trans (same_new (o := .lst []) hq)
  have c3 := same_new (o := .lst []) hq _ _ c2
  refine w_eqLI (ns := ns) (ms := []) c3 upd_same ?_
  walk_at "go"
  have fin : ∀ (H3 : Hp) (c' : Addr) (ms : List Int), Same H H3 → H c' = none → H3 c' = some (.lst (ms.map V.int)) → 0 < ms.length → ∀ p, H3 p = none → Q (.ref p) (upd (upd H3 p (.dK [])) p (.dK (mergeK [] [(.inr "cells", .ref c'), (.inr "turn", .int 0)]))) := by
    intro H3 c' ms s3 h1 h2 h3 p hp
    have e : HO.dK (mergeK [] [(.inr "cells", .ref c'), (.inr "turn", .int 0)]) = stD c' 0 := by
      show HO.dK (putK (putK [] (.inr "cells") (.ref c')) (.inr "turn") (.int 0)) = stD c' 0
      simp [putK, stD, ne_ct]
    rw [e, upd_upd]
    have w := ((Wd.nil (Same.refl H)).own' s3 h1 h2).own (p := p) (o := stD c' 0) hp
    exact k p _ ⟨c', 0, ms, w, h3, by decide, by decide⟩
  refine w_ifd (fun he => ?_) (fun he => ?_)
  · walk_at "go"
    refine ⟨by decide, fun r hr => ?_⟩
    walk_at "go"
    refine w_disp fun p hp => ?_
    refine w_pcons ?_
    walk_at "go"
    refine w_pcons ?_
    walk_at "go"
    refine w_pnil ?_
    exact ⟨upd_same, [(.inr "cells", .ref r), (.inr "turn", .int 0)], rfl, by show 2 ≤ 15; decide, fin _ r [7] (s3.trans (same_new hr)) (s3.free hr) upd_same (by decide) p hp⟩
  · walk_at "go"
    refine w_disp fun p hp => ?_
    refine w_pcons ?_
    walk_at "go"
    refine w_pcons ?_
    walk_at "go"
    refine w_pnil ?_
    refine ⟨upd_same, [(.inr "cells", .ref c), (.inr "turn", .int 0)], rfl, by show 2 ≤ 15; decide, fin _ c ns s3 hc0 c3 ?_ p hp⟩
    cases ns with
    | nil => exact absurd rfl he
    | cons _ _ => exact Nat.succ_pos _
/-! ### _law_same -/
/-- data that _law_same knows, at most n deep -/
def okD : Nat → PyData → Bool
  | 0, _ => false
  | _ + 1, .none => true
  | _ + 1, .int _ => true
  | _ + 1, .str _ => true
  | n + 1, .list ds => decide (ds.length ≤ 16777216) && ds.all (okD n)
  | n + 1, .tuple ds => decide (ds.length ≤ 16777216) && ds.all (okD n)
  | _ + 1, .bool _ => false
  | _ + 1, .dict _ => false
def spSame (K : PySem.W.Frag) (n : Nat) : Sp := fun vs H Q _ => ∃ (x y : V) (d : PyData), vs = [x, y] ∧ Dp K H x d ∧ Dp K H y d ∧ okD n d = true ∧ ∀ H', Same H H' → Q (.bl true) H'
theorem all_rep (n : Nat) : (List.replicate n true).all id = true := by
  induction n with
  | zero => rfl
  | succ n ih => rw [List.replicate_succ, List.all_cons, ih]; rfl
theorem pure_same {K : PySem.W.Frag} {n : Nat} (vs : List V) (H : Hp) (Q : VK) (E : XK) (h : spSame K (n + 1) vs H Q E) : t_same K (spSame K n) { nx := fun _ H' => Q .non H', rt := Q } (start N_same vs) H := by
  obtain ⟨x, y, d, rfl, hx, hy, hd, k⟩ := h
  unfold t_same
  have zip_turn : ∀ (ds : List PyData) (xs ys : List V), DpAll K H xs ds → DpAll K H ys ds → ds.all (okD n) = true → ∀ (σ : L2.St) (i : Nat) (u : V) (D : Addr) (Hi H' : Hp), H D = none → Same H Hi → Hi D = some (.lst (List.replicate i (.bl true))) → i < ds.length → ds.length ≤ 16777216 → σ.length = 5 →
      YPair (fun i => xs[i]?) (fun i => ys[i]?) i Hi u H' → (gTup K 2 (gCons (gName 3) (gCons (gName 4) gNil))) u (wipe σ [3, 4]) H' fun σ2 H2 => wipe σ2 [3, 4] = wipe σ [3, 4] ∧ tYes σ2 H2 fun b H3 =>
        if b = true then (tCall (spSame K n) [] E0 (tCons (tVar 3) (tCons (tVar 4) tNil))) σ2 H3 fun y H4 => ∃ acc, H4 D = some (.lst acc) ∧ acc.length < sizeLine ∧ (Same H (upd H4 D (.lst (acc ++ [y]))) ∧ upd H4 D (.lst (acc ++ [y])) D = some (.lst (List.replicate (i + 1) (.bl true)))) else (Same H H3 ∧ H3 D = some (.lst (List.replicate (i + 1) (.bl true)))) := by
    intro ds xs ys ax ay ok σ i u D Hi H' hD si hi hlt hsz hσ hY
    obtain ⟨T, x1, y1, rfl, hT, rfl, ex, ey⟩ := hY
    have s2 := si.trans (same_new (o := .tup [x1, y1]) hT)
    have d2 := same_new (o := .tup [x1, y1]) hT _ _ hi
    refine w_gtup (SqT.of upd_same) rfl ?_
    obtain ⟨s0, s1, s2', s3, s4, rfl⟩ : ∃ s0 s1 s2' s3 s4, σ = [s0, s1, s2', s3, s4] := by
      match σ, hσ with
      | [s0, s1, s2', s3, s4], _ => exact ⟨s0, s1, s2', s3, s4, rfl⟩
    walk_at "go"
    refine ⟨rfl, ?_⟩
    walk_at "go"
    have hd1 : ds[i]? = some ds[i] := List.getElem?_eq_getElem hlt
    refine ⟨x1, y1, ds[i], rfl, dp_mono s2 _ _ (dpAll_get ax ex hd1), dp_mono s2 _ _ (dpAll_get ay ey hd1), List.all_eq_true.mp ok _ (List.getElem_mem hlt), fun H4 s4 => ?_⟩
    refine ⟨_, s4 _ _ d2, by rw [List.length_replicate]; exact sz_lt (by omega), same_mut (s2.trans s4) hD, ?_⟩
    rw [upd_same, List.replicate_succ']
  cases hx with
  | non =>
    cases hy
    walk_at "go"
    exact k _ (Same.refl _)
  | bl b => exact absurd hd (by simp [okD])
  | int i =>
    cases hy
    walk_at "go"
    rw [decide_eq_true rfl]
    exact k _ (Same.refl _)
  | str z =>
    cases hy
    walk_at "go"
    rw [decide_eq_true rfl]
    exact k _ (Same.refl _)
  | @lst a xs ds ha ax =>
    cases hy with
    | @lst b ys _ hb ay =>
      walk_at "go"
      refine w_is_list_dict hb ?_
      walk_at "go"
      refine w_is_list_list hb ?_
      walk_at "go"
      refine w_is_list_list ha ?_
      walk_at "go"
      refine w_is_list_list hb ?_
      walk_at "go"
      refine w_neBf rfl ?_
      walk_at "go"
      refine w_is_list_tuple ha ?_
      walk_at "go"
      refine w_is_list_tuple hb ?_
      walk_at "go"
      refine w_neBf rfl ?_
      walk_at "go"
      refine w_lenL ha ?_
      walk_at "go"
      refine w_lenL hb ?_
      walk_at "go"
      have lx := dpAll_len ax
      have ly := dpAll_len ay
      refine w_ifn (fun q => absurd (by rw [lx, ly]) q) (fun _ => ?_)
      walk_at "go"
      refine w_itZL ha hb ?_
      intro D hD
      have hz : ds.length ≤ 16777216 ∧ ds.all (okD n) = true := by simpa [okD] using hd
      refine lc_it (walk_zip (xs := xs) (ys := ys) (n := ds.length) (by omega)) (fun i H' => Same H H' ∧ H' D = some (.lst (List.replicate i (.bl true)))) ⟨same_new hD, upd_same⟩ (fun i H' _ p => ⟨same_l p.1 ha, same_l p.1 hb⟩) (fun i u Hi H' hi p y => ?_) (fun H' p => ?_)
      · exact zip_turn ds xs ys ax ay hz.2 _ i u D Hi H' hD p.1 p.2 hi hz.1 rfl y
      · walk_at "go"
        refine w_all (bs := List.replicate ds.length true) (SqL.of (by rw [p.2, List.map_replicate])) ?_
        rw [all_rep]
        exact k _ p.1
  | @tup a xs ds ha ax =>
    cases hy with
    | @tup b ys _ hb ay =>
      walk_at "go"
      refine w_is_tuple_dict hb ?_
      walk_at "go"
      refine w_is_tuple_list hb ?_
      walk_at "go"
      refine w_is_tuple_tuple hb ?_
      walk_at "go"
      refine w_is_tuple_list ha ?_
      walk_at "go"
      refine w_is_tuple_list hb ?_
      walk_at "go"
      refine w_neBf rfl ?_
      walk_at "go"
      refine w_is_tuple_tuple ha ?_
      walk_at "go"
      refine w_is_tuple_tuple hb ?_
      walk_at "go"
      refine w_neBf rfl ?_
      walk_at "go"
      refine w_lenT ha ?_
      walk_at "go"
      refine w_lenT hb ?_
      walk_at "go"
      have lx := dpAll_len ax
      have ly := dpAll_len ay
      refine w_ifn (fun q => absurd (by rw [lx, ly]) q) (fun _ => ?_)
      walk_at "go"
      refine w_itZT ha hb ?_
      intro D hD
      have hz : ds.length ≤ 16777216 ∧ ds.all (okD n) = true := by simpa [okD] using hd
      refine lc_it (walk_zipT (xs := xs) (ys := ys) (n := ds.length) (by omega)) (fun i H' => Same H H' ∧ H' D = some (.lst (List.replicate i (.bl true)))) ⟨same_new hD, upd_same⟩ (fun i H' _ p => ⟨same_t p.1 ha, same_t p.1 hb⟩) (fun i u Hi H' hi p y => ?_) (fun H' p => ?_)
      · exact zip_turn ds xs ys ax ay hz.2 _ i u D Hi H' hD p.1 p.2 hi hz.1 rfl y
      · walk_at "go"
        refine w_all (bs := List.replicate ds.length true) (SqL.of (by rw [p.2, List.map_replicate])) ?_
        rw [all_rep]
        exact k _ p.1
end Ps

/-! PsF: loops, whatever is walked. -/
namespace Ps
open PySem PySem.Spec PyProof.Rows L2
/-- a list or a tuple -/
def Sq (K : PySem.W.Frag) (H : Hp) (a : Addr) (xs : List V) : Prop := SqL K H a xs ∨ SqT K H a xs
section
variable {K : PySem.W.Frag} {H H' Hi H4 : Hp} {a b D p : Addr} {xs ys vs : List V} {R : It → Hp → Prop} {v y : V} {i n : Nat}
theorem Sq.same (s : Same H H') (h : Sq K H a xs) : Sq K H' a xs := h.elim (fun h => .inl (same_l s h)) fun h => .inr (same_t s h)
theorem Sq.l (h : H a = some (.lst xs)) : Sq K H a xs := .inl (SqL.of h)
theorem Sq.t (h : H a = some (.tup xs)) : Sq K H a xs := .inr (SqT.of h)
theorem w_it (ha : Sq K H a xs) (h : ∀ J, Walk J xs.length (Same H) (YAt xs) → R J H) : SeqK K R (.ref a) H := by
  rcases ha with ha | ha
  · exact w_itL ha (h _ (walk_list.mono (fun _ s => same_l s ha) fun _ _ _ _ _ _ y => y))
  · exact w_itT ha (h _ (walk_tup.mono (fun _ s => same_t s ha) fun _ _ _ _ _ _ y => y))
theorem w_itE (ha : Sq K H a xs) (h : ∀ J, Walk J xs.length (Same H) (YPair (fun i => some (.int (i : Nat))) fun i => xs[i]?) → R J H) : EnumK K R [.ref a] H := by
  rcases ha with ha | ha
  · exact w_itEL ha (h _ (walk_enum.mono (fun _ s => same_l s ha) fun _ _ _ _ _ _ y => y))
  · exact w_itET ha (h _ (walk_enumT.mono (fun _ s => same_t s ha) fun _ _ _ _ _ _ y => y))
theorem w_itV (ha : Sq K H a xs) (h : ∀ J, Walk J xs.length (Same H) (fun i H x H' => H' = H ∧ xs[xs.length - 1 - i]? = some x) → R J H) : RevK K R (.ref a) H := by
  rcases ha with ha | ha
  · exact w_itVL ha (h _ (walk_rev.mono (fun _ s => same_l s ha) fun _ _ _ _ _ _ y => y))
  · refine w_itVT ha (h _ ⟨fun i _ hi s => ⟨hi, xs, xs[xs.length - 1 - i]'(by omega), same_t s ha, by simp [show xs.length - 1 - i < xs.length by omega]⟩, fun _ _ => Nat.le_refl _, fun _ _ _ _ _ s y => ⟨y.1, y.2 xs (same_t s ha)⟩⟩)
theorem w_itZ (ha : SqL K H a xs ∧ SqL K H b ys ∨ SqT K H a xs ∧ SqT K H b ys) (hn : n = min xs.length ys.length) (h : ∀ J, Walk J n (Same H) (YPair (fun i => xs[i]?) fun i => ys[i]?) → R J H) : ZipK K R [.ref a, .ref b] H := by
  rcases ha with ⟨ha, hb⟩ | ⟨ha, hb⟩
  · exact w_itZL ha hb (h _ ((walk_zip hn).mono (fun _ s => ⟨same_l s ha, same_l s hb⟩) fun _ _ _ _ _ _ y => y))
  · exact w_itZT ha hb (h _ ((walk_zipT hn).mono (fun _ s => ⟨same_t s ha, same_t s hb⟩) fun _ _ _ _ _ _ y => y))
theorem w_len (ha : Sq K H a xs) {Q : VK} (h : Q (.int xs.length) H) : rLenU K [.ref a] H Q := ha.elim (fun ha => w_lenL ha h) fun ha => w_lenT ha h
theorem w_ix (ha : Sq K H a xs) {Q : VK} {j : Int} (hj : atI xs j = some v) (h : Q v H) : rIxU K (.ref a) (.int j) H Q := ha.elim (fun ha => w_ixL ha hj h) fun ha => w_ixT ha hj h
theorem w_list (ha : Sq K H a xs) {Q : VK} (h : ∀ p, H p = none → Q (.ref p) (upd H p (.lst xs))) : rListU K [.ref a] H Q := ha.elim (fun ha => w_listL ha h) fun ha => w_listT ha h
/-- a comprehension's list so far: the first i of vs -/
def LcP (H : Hp) (D : Addr) (vs : List V) (i : Nat) (H' : Hp) : Prop := Same H H' ∧ H' D = some (.lst (vs.take i))
theorem lc_go (hD : H D = none) : LcP H D vs 0 (upd H D (.lst [])) := ⟨same_new hD, by rw [upd_same, List.take_zero]⟩
theorem take_snoc {α : Type} : ∀ {l : List α} {i : Nat} {x : α}, l[i]? = some x → l.take (i + 1) = l.take i ++ [x] := fun {l i x} h => by
  rw [List.take_add_one, h]
  rfl
theorem lc_fin (hD : H D = none) (p : LcP H D vs i Hi) (s : Same Hi H4) (e : vs[i]? = some y) (hi : i < 16777216) : ∃ acc, H4 D = some (.lst acc) ∧ acc.length < sizeLine ∧ LcP H D vs (i + 1) (upd H4 D (.lst (acc ++ [y]))) :=
  ⟨_, s _ _ p.2, sz_lt (by rw [List.length_take]; omega), same_mut (p.1.trans s) hD, by rw [upd_same, take_snoc e]⟩
theorem lc_end (p : LcP H D vs n H') (hn : vs.length ≤ n) : H' D = some (.lst vs) := by rw [p.2, List.take_of_length_le hn]
theorem int_at {ns : List Int} {i : Nat} {y : V} (h : (ns.map V.int)[i]? = some y) : ∃ b, ns[i]? = some b ∧ y = .int b := by
  rw [List.getElem?_map] at h
  cases e : ns[i]? with
  | none => rw [e] at h; cases h
  | some b => rw [e] at h; exact ⟨b, rfl, (Option.some.inj h).symm⟩
theorem at_int {ns : List Int} {i : Nat} {b : Int} (h : ns[i]? = some b) : (ns.map V.int)[i]? = some (.int b) := by rw [List.getElem?_map, h]; rfl
end
/-- a range -/
theorem w_rg {H : Hp} {R : It → Hp → Prop} {n : Nat} (hn : n < 2 ^ 62) (h : ∀ J, Walk J n (fun _ => True) (YFn fun i => .int (i : Nat)) → R J H) : Rng1K R [.int (n : Int)] H := by
  refine w_itR (by omega) (by omega) (h _ ?_)
  rw [Int.toNat_natCast]
  exact walk_range.mono (fun _ s => s) fun i H x H' _ _ y => ⟨y.1, by
    rw [y.2]
    show V.int (0 + (i : Int)) = V.int i
    rw [Int.zero_add]⟩
theorem w_rg2 {H : Hp} {R : It → Hp → Prop} {lo : Int} {n : Nat} {hi : Int} (h1 : -(2 ^ 62) ≤ lo ∧ lo < 2 ^ 62 ∧ -(2 ^ 62) ≤ hi ∧ hi < 2 ^ 62) (hn : n = (hi - lo).toNat) (h : ∀ J, Walk J n (fun _ => True) (YFn fun i => .int (lo + (i : Nat))) → R J H) : Rng2K R [.int lo, .int hi] H := by
  refine w_itR2 h1 ?_
  rw [← hn]
  exact h _ walk_range
theorem fn_no {P : Program} {w : World} {K : PySem.W.Frag} {mg : Str → Option Value} {base : Heap} {CX : CXT} {k : Nat} {f : Addr} {fd : FuncData} {ps : List Str} {sp : Sp} (h : ∀ vs H Q E, ¬ sp vs H Q E) : FnOk P w K mg base CX k f fd ps sp :=
  ⟨fun vs H Q E q => (h _ _ _ _ q).elim, fun _ _ _ _ _ _ _ _ _ _ _ _ _ q => (h _ _ _ _ q).elim⟩
theorem same_no {K : PySem.W.Frag} (vs : List V) (H : Hp) (Q : VK) (E : XK) : ¬ spSame K 0 vs H Q E := by
  rintro ⟨x, y, d, _, _, _, hd, _⟩
  cases hd
/-! ### the law's world at a call -/
section
variable {m : Nat} {a l : Addr} {R : List (Addr × HO)} {G H : Hp} {o : HO} {n : Int} {Q : VK} {E : XK} {K : PySem.W.Frag}
theorem LW.at (h : LW m a R G H) (q : (l, o) ∈ R) : H l = some o := by
  obtain ⟨c, t, ns, w, r⟩ := h
  exact w.mem (List.mem_cons_of_mem _ (List.mem_cons_of_mem _ q))
theorem LW.sd {x : Addr × HO} (h : LW m a (x :: (l, o) :: R) G H) : H l = some o := h.at (List.mem_cons_of_mem _ List.mem_cons_self)
theorem LW.td {x y : Addr × HO} (h : LW m a (x :: y :: (l, o) :: R) G H) : H l = some o := h.at (List.mem_cons_of_mem _ (List.mem_cons_of_mem _ List.mem_cons_self))
theorem LW.perm {R' : List (Addr × HO)} (h : LW m a R G H) (p : R'.Perm R) : LW m a R' G H := by
  obtain ⟨c, t, ns, w, r⟩ := h
  exact ⟨c, t, ns, w.perm ((p.cons _).cons _), r⟩
theorem w_take (lw : LW (m + 1) a R G H) (h0 : 0 < n) (h1 : n < 2 ^ 62) (k : ∀ v H', LW m a R G H' → 0 ≤ v → v < n → Q (.int v) H') : spTake ([.ref a, .int n] ++ []) H Q E :=
  ⟨m, a, n, R, G, rfl, lw, h0, h1, k⟩
theorem w_same {x y : V} {d : PyData} {n : Nat} (hx : Dp K H x d) (hy : Dp K H y d) (hd : okD n d = true) (k : ∀ H', Same H H' → Q (.bl true) H') : spSame K n ([x, y] ++ []) H Q E := ⟨x, y, d, rfl, hx, hy, hd, k⟩
theorem w_begin {ns : List Int} (hs : SqL K H a (ns.map V.int)) (hn : ns.length ≤ 63) (k : ∀ a H', LW (2 ^ 50) a [] H H' → Q (.ref a) H') : spBegin K ([.ref a] ++ []) H Q E := ⟨a, ns, rfl, hs, hn, k⟩
end
/-- a written list of ints, at a place that is drawn -/
theorem at_lit (l : List Int) {v : Int} (h0 : 0 ≤ v) (h1 : v < l.length) : ∃ z, z ∈ l ∧ atI (l.map V.int) v = some (.int z) := by
  obtain ⟨j, rfl⟩ : ∃ j : Nat, v = (j : Int) := ⟨v.toNat, by omega⟩
  have hj : j < l.length := by omega
  exact ⟨l[j], List.getElem_mem hj, atI_nat (by rw [List.getElem?_map, List.getElem?_eq_getElem hj]; rfl)⟩
theorem okD_ints (n : Nat) (ns : List Int) (h : ns.length ≤ 16777216) : okD (n + 2) (dI ns) = true := by
  unfold dI
  simp only [okD, Bool.and_eq_true, decide_eq_true_eq, List.length_map]
  refine ⟨h, List.all_eq_true.mpr fun d hd => ?_⟩
  obtain ⟨z, _, rfl⟩ := List.mem_map.mp hd
  rfl
/-- what the law asks -/
def spLaw (K : PySem.W.Frag) : Sp := fun vs H Q _ => ∃ (a : Addr) (ns : List Int), vs = [.ref a] ∧ SqL K H a (ns.map V.int) ∧ ns.length ≤ 63 ∧ ∀ H', Q (.bl true) H'
end Ps

/-! PsG: while loops; walks over lists while the heap changes elsewhere; slices from the end. -/
namespace Ps
open PySem PySem.Spec PyProof.Rows L2
section
variable {K : PySem.W.Frag} {H H' H1 Hi H4 : Hp} {a b D p : Addr} {xs ys vs : List V} {R : It → Hp → Prop} {v y : V} {i n m : Nat}
theorem w_while {c : TT} {tb : TS} {D : Ends} {σ : L2.St} (W : Nat → L2.St → Hp → Prop) (m : Nat) (h0 : W m σ H)
    (hs : ∀ m σ H, W m σ H → c σ H fun b H1 => if b = true then ∃ N : L2.St → Hp → Prop, (∀ σ' H', N σ' H' → ∃ m', m' < m ∧ W m' σ' H') ∧ tb { D with nx := N, ct := N, bk := D.nx } σ H1 else D.nx σ H1) : tWhile c tb D σ H := ⟨W, ⟨m, h0⟩, hs⟩
theorem w_loop {tb : TS} {D : Ends} {σ : L2.St} {W : Nat → L2.St → Hp → Prop}
    (h : tb { D with nx := fun σ' H' => ∃ m', m' < m ∧ W m' σ' H', ct := fun σ' H' => ∃ m', m' < m ∧ W m' σ' H', bk := D.nx } σ H1) : ∃ N : L2.St → Hp → Prop, (∀ σ' H', N σ' H' → ∃ m', m' < m ∧ W m' σ' H') ∧ tb { D with nx := N, ct := N, bk := D.nx } σ H1 :=
  ⟨_, fun _ _ q => q, h⟩
theorem w_itML (ha : H a = some (.lst xs)) (h : ∀ J, Walk J xs.length (fun H' => H' a = some (.lst xs)) (YAt xs) → R J H) : SeqK K R (.ref a) H :=
  w_itL (SqL.of ha) (h _ (walk_list.mono (fun _ s => SqL.of s) fun _ _ _ _ _ _ y => y))
theorem w_itMT (ha : H a = some (.tup xs)) (h : ∀ J, Walk J xs.length (fun H' => H' a = some (.tup xs)) (YAt xs) → R J H) : SeqK K R (.ref a) H :=
  w_itT (SqT.of ha) (h _ (walk_tup.mono (fun _ s => SqT.of s) fun _ _ _ _ _ _ y => y))
theorem w_itME (ha : H a = some (.lst xs)) (h : ∀ J, Walk J xs.length (fun H' => H' a = some (.lst xs)) (YPair (fun i => some (.int (i : Nat))) fun i => xs[i]?) → R J H) : EnumK K R [.ref a] H :=
  w_itEL (SqL.of ha) (h _ (walk_enum.mono (fun _ s => SqL.of s) fun _ _ _ _ _ _ y => y))
theorem w_itMZ (ha : H a = some (.lst xs)) (hb : H b = some (.lst ys)) (hn : n = min xs.length ys.length) (h : ∀ J, Walk J n (fun H' => H' a = some (.lst xs) ∧ H' b = some (.lst ys)) (YPair (fun i => xs[i]?) fun i => ys[i]?) → R J H) : ZipK K R [.ref a, .ref b] H :=
  w_itZL (SqL.of ha) (SqL.of hb) (h _ ((walk_zip hn).mono (fun _ s => ⟨SqL.of s.1, SqL.of s.2⟩) fun _ _ _ _ _ _ y => y))
/-- a row of an earlier heap is walked while newer things change -/
theorem w_itB {H0 : Hp} (s : Same H0 H) (ha : Sq K H0 a xs) (h : ∀ J, Walk J xs.length (Same H0) (YAt xs) → R J H) : SeqK K R (.ref a) H := by
  rcases ha with ha | ha
  · exact w_itL (same_l s ha) (h _ (walk_list.mono (fun _ s => same_l s ha) fun _ _ _ _ _ _ y => y))
  · exact w_itT (same_t s ha) (h _ (walk_tup.mono (fun _ s => same_t s ha) fun _ _ _ _ _ _ y => y))
theorem w_itEB {H0 : Hp} (s : Same H0 H) (ha : Sq K H0 a xs) (h : ∀ J, Walk J xs.length (Same H0) (YPair (fun i => some (.int (i : Nat))) fun i => xs[i]?) → R J H) : EnumK K R [.ref a] H := by
  rcases ha with ha | ha
  · exact w_itEL (same_l s ha) (h _ (walk_enum.mono (fun _ s => same_l s ha) fun _ _ _ _ _ _ y => y))
  · exact w_itET (same_t s ha) (h _ (walk_enumT.mono (fun _ s => same_t s ha) fun _ _ _ _ _ _ y => y))
theorem w_itVB {H0 : Hp} (s : Same H0 H) (ha : Sq K H0 a xs) (h : ∀ J, Walk J xs.length (Same H0) (fun i H x H' => H' = H ∧ xs[xs.length - 1 - i]? = some x) → R J H) : RevK K R (.ref a) H := by
  rcases ha with ha | ha
  · exact w_itVL (same_l s ha) (h _ (walk_rev.mono (fun _ s => same_l s ha) fun _ _ _ _ _ _ y => y))
  · refine w_itVT (same_t s ha) (h _ ⟨fun i _ hi s => ⟨hi, xs, xs[xs.length - 1 - i]'(by omega), same_t s ha, by simp [show xs.length - 1 - i < xs.length by omega]⟩, fun _ _ => Nat.le_refl _, fun _ _ _ _ _ s y => ⟨y.1, y.2 xs (same_t s ha)⟩⟩)
end
/-- what comes behind an if, as a wish of its own: both ways end in it -/
theorem w_ifO {c : Prop} [Decidable c] {t u : TS} {N B C : L2.St → Hp → Prop} {r : VK} {σ : L2.St} {H : Hp} (h : ∀ P : L2.St → Hp → Prop, (∀ σ H, N σ H → P σ H) → if c then t ⟨P, r, B, C⟩ σ H else u ⟨P, r, B, C⟩ σ H) : if c then t ⟨N, r, B, C⟩ σ H else u ⟨N, r, B, C⟩ σ H := h N fun _ _ q => q
theorem w_ifK {c : Prop} [Decidable c] {A B : L2.VK → Prop} {Q : L2.VK} (h : ∀ P : L2.VK, (∀ v H, Q v H → P v H) → if c then A P else B P) : if c then A Q else B Q := h Q fun _ _ q => q
theorem sIx_none (n d : Nat) : HT.sIx n d none = d := rfl
theorem w_slSq {K : PySem.W.Frag} {H : Hp} {a : Addr} {xs : List V} {lo hi : Option Int} {Q : VK} (ha : Sq K H a xs) (h : ∀ b H', Same H H' → Sq K H' b (cutV xs lo hi) → Q (.ref b) H') : rSlU K (.ref a) lo hi H Q := by
  rcases ha with ha | ha
  · exact w_slL ha fun p hp => h p _ (same_new hp) (.inl (SqL.of upd_same))
  · refine .inl (.inr ⟨a, xs, rfl, ha, fun hw => h a H (Same.refl _) (.inr ?_), fun _ p hp => h p _ (same_new hp) (.inr (SqT.of upd_same))⟩)
    unfold cutV
    rw [hw.1, hw.2, List.drop_zero, Nat.sub_zero, List.take_length]
    exact ha
theorem sIx_m1 {n : Nat} (d : Nat) : HT.sIx (n + 1) d (some (-1)) = n := by
  unfold HT.sIx
  simp
  omega
theorem cutV_front {xs : List V} {x : V} : cutV (xs ++ [x]) none (some (-1)) = xs := by
  unfold cutV
  rw [List.length_append, List.length_singleton, sIx_m1]
  have e : HT.sIx (xs.length + 1) 0 none = 0 := rfl
  rw [e, List.drop_zero, Nat.sub_zero, List.take_left]
theorem cutV_last {xs : List V} {x : V} : cutV (xs ++ [x]) (some (-1)) none = [x] := by
  unfold cutV
  rw [List.length_append, List.length_singleton, sIx_m1]
  have e : HT.sIx (xs.length + 1) (xs.length + 1) none = xs.length + 1 := rfl
  rw [e, List.drop_left, Nat.add_sub_cancel_left]
  rfl
theorem sIx_nat {n d j : Nat} : HT.sIx n d (some (j : Int)) = min j n := by
  unfold HT.sIx
  simp
  intro h
  omega
theorem cutV_mid (xs : List V) (i j : Nat) : cutV xs (some (i : Int)) (some (j : Int)) = (xs.drop i).take (j - i) := by
  unfold cutV
  rw [sIx_nat, sIx_nat]
  by_cases c : i ≤ xs.length
  · rw [Nat.min_eq_left c]
    by_cases c2 : j ≤ xs.length
    · rw [Nat.min_eq_left c2]
    · rw [Nat.min_eq_right (by omega), List.take_of_length_le (by rw [List.length_drop]; omega), List.take_of_length_le (by rw [List.length_drop]; omega)]
  · rw [Nat.min_eq_right (show xs.length ≤ i by omega), List.drop_eq_nil_of_le (Nat.le_refl xs.length), List.drop_eq_nil_of_le (show xs.length ≤ i by omega)]
    simp
/-- range(0, n, c) -/
def RngCK (R : It → Hp → Prop) (vs : List V) (H1 : Hp) : Prop := ∃ (i j c : Int) (n : Nat), vs = [.int i, .int j, .int c] ∧ RgC i j c n ∧ R (Itc i c n) H1
theorem w_rng3 {ta : TA} {σ : L2.St} {H : Hp} {R : It → Hp → Prop} (h : ta σ H fun vs H1 => RngCK R vs H1) : iRng3 ta σ H R := h
theorem rgC_up {n c k : Nat} (hn : n < 2 ^ 61) (h0 : 0 < c) (h1 : c < 1073741824) (hk : k = (n + c - 1) / c) : RgC 0 n c k := by
  have hs : Builtin.Range.rangeSize 0 n c = k := by
    rw [rangeSize_pos (by omega) (by omega), hk]
    push_cast
    rw [Int.ofNat_sub (by omega)]
    push_cast
    rfl
  have hb : (k : Int) * c ≤ n + c := by
    have := Nat.div_mul_le_self (n + c - 1) c
    rw [← hk] at this
    have h2 : ((k * c : Nat) : Int) ≤ n + c := by omega
    rw [Int.natCast_mul] at h2
    exact h2
  refine ⟨by omega, by omega, ?_, hs⟩
  unfold Builtin.Range.small
  rw [hs]
  simp only [Builtin.Range.rangeFitsLong, Bool.and_eq_true, Bool.or_eq_true, decide_eq_true_eq, beq_iff_eq, show (c : Int) > 0 by omega, if_true]
  have hk2 : k ≤ n + c := by
    rw [hk]
    exact Nat.le_trans (Nat.div_le_self _ _) (by omega)
  omega
theorem w_rg3 {H : Hp} {R : It → Hp → Prop} {n c k : Nat} (hn : n < 2 ^ 61) (h0 : 0 < c) (h1 : c < 1073741824) (hk : k = (n + c - 1) / c) (h : ∀ J, Walk J k (fun _ => True) (YFn fun i => .int (((i * c : Nat)) : Int)) → R J H) : RngCK R [.int 0, .int n, .int c] H := by
  refine ⟨_, _, _, k, rfl, rgC_up hn h0 h1 hk, h _ ?_⟩
  exact walk_rangeC.mono (fun _ s => s) fun i H x H' _ _ y => ⟨y.1, by
    rw [y.2]
    show V.int (0 + (i : Int) * c) = V.int ((i * c : Nat) : Int)
    rw [Int.zero_add, Int.natCast_mul]⟩
theorem split_at {α : Type} {l : List α} {i : Nat} {x : α} (h : l[i]? = some x) : ∃ A B, l = A ++ x :: B ∧ A.length = i := by
  obtain ⟨h1, h2⟩ := List.getElem?_eq_some_iff.mp h
  refine ⟨l.take i, l.drop (i + 1), ?_, by rw [List.length_take]; omega⟩
  rw [← h2, List.getElem_cons_drop, List.take_append_drop]
theorem set_mid {α : Type} (A B : List α) (x y : α) : (A ++ x :: B).set A.length y = A ++ y :: B := by
  rw [List.set_append_right _ _ (Nat.le_refl _), Nat.sub_self, List.set_cons_zero]
section
variable {m : Nat} {a l p : Addr} {R : List (Addr × HO)} {G H : Hp} {o o' : HO} {i : Nat}
/-- an owned thing is changed, wherever it stands -/
theorem LW.set (h : LW m a R G H) (e : R[i]? = some (l, o)) : LW m a (R.set i (l, o')) G (upd H l o') := by
  obtain ⟨A, B, rfl, rfl⟩ := split_at e
  rw [set_mid]
  have h1 := h.perm (R' := (l, o) :: (A ++ B)) List.perm_middle.symm
  exact (h1.put (o' := o')).perm List.perm_middle
theorem LW.get (h : LW m a R G H) (e : R[i]? = some (l, o)) : H l = some o := h.at (List.mem_of_getElem? e)
end
end Ps

/-! PsX: an exception that is caught and kept in a name; methods that raise; a base's __init__ called by its class's name. -/
namespace Ps
open PySem PySem.Spec PyProof.Rows L2

/-- a kept exception of the class at C, its own dict d -/
def exv (a C : Addr) (d : Option Addr) : HO := .ext fun h => ∃ vs sl, h.get? a = some ({ cls := .ref C, dict := d, data := .fields vs, slots := sl } : Obj)
theorem exv_ok {P : Program} {w : World} {H : Hp} {h : Heap} {a C : Addr} {d : Option Addr} {vs : Array Value} {sl : Array (Option Value)} (e : h.get? a = some ({ cls := .ref C, dict := d, data := .fields vs, slots := sl } : Obj)) : ObjOk P w H h a (exv a C d) := by
  refine ⟨⟨vs, sl, e⟩, ⟨_, e⟩, ?_⟩
  rintro h1 h2 ⟨vs', sl', e'⟩ k
  exact ⟨vs', sl', k _ e'⟩
section
variable {X : Cx} {pins : List (Addr × Obj)} {σ : L2.St} {H : Hp} {s : Shared}
theorem exv_at {P : Program} {w : World} {h : Heap} {a C : Addr} {d : Option Addr} (x : HOk P w H h) (e : H a = some (exv a C d)) : ∃ vs sl, h.get? a = some ({ cls := .ref C, dict := d, data := .fields vs, slots := sl } : Obj) := (x a _ e).1
/-- an object of the heap that nobody tracks is tracked from now on -/
theorem inv_track {a : Addr} {o : HO} (I : Inv X pins σ H s) (na : H a = none) (new : ObjOk X.prog X.w (upd H a o) s.heap a o) (h0 : X.s_0.heap.get? a = none) (hl : a ≠ X.env.locals)
    (hc : ∀ x c, X.env.cells.lookup x = some c → c ≠ a) (hp : ∀ p ∈ X.pn ++ pins, p.1 ≠ a) : Inv X pins σ (upd H a o) s := by
  have ne : ∀ b u, H b = some u → b ≠ a := fun b u e => ne_of_none e na
  refine ⟨I.ok, I.os, I.bare, ⟨I.base.keep, I.base.slot, fun b u e n hx => ?_, I.base.there, fun b xs e => ?_, fun b u xs e => ?_, fun b ps e => ?_⟩, I.loc, I.cell, ?_, fun x c e => ?_, fun p h => ?_, fun b u e => ?_, I.len⟩
  · have nb : b ≠ a := fun z => by rw [z, h0] at e; cases e
    rw [upd_ne nb]; exact I.base.free b u e n hx
  · have q := I.base.tups b xs e
    rw [upd_ne (ne b _ q)]; exact q
  · have q := I.base.frzs b u xs e
    rw [upd_ne (ne b _ q)]; exact q
  · obtain ⟨m, q⟩ := I.base.tbls b ps e
    exact ⟨m, by rw [upd_ne (ne b _ q)]; exact q⟩
  · rw [upd_ne (Ne.symm hl)]; exact I.free
  · rw [upd_ne (hc x c e)]; exact I.freeC x c e
  · obtain ⟨q1, q2, q3⟩ := I.pin p h
    exact ⟨q1, by rw [upd_ne (hp p h)]; exact q2, q3⟩
  · by_cases z : b = a
    · subst z; rw [upd_same] at e; cases e; exact new
    · rw [upd_ne z] at e
      exact (I.hok b u e).stay (fun _ _ _ q => q) (fun c q => by rw [upd_ne (ne c _ q)]; exact q) fun c xs q => by rw [upd_ne (ne c _ q)]; exact q
end

/-- what «except x as n: y = n» wishes of an exception of the body: it stands kept, at a, in slot j; n's slot i is empty again -/
def wKeep (K : PySem.W.Frag) (c : Value) (i j : Nat) (Wout : WX) (D : Ends) : WX := fun cls d σ H =>
  ∃ (C : Addr) (b : Bool), cls = .ref C ∧ PySem.W.exmOne K cls c = some b ∧ (b = true → ∀ a, H a = none → D.nx (((σ.set i (some (.ref a))).set j (some (.ref a))).set i none) (upd H a (exv a C d))) ∧ (b = false → Wout cls d σ H)
def tTryK (K : PySem.W.Frag) (c : Value) (i j : Nat) (tb : WX → TS) (Wout : WX) : TS := fun D σ H => tb (wKeep K c i j Wout D) D σ H
section
variable {X : Cx} {x n y : Str} {c : Value} {i j : Nat} {body : List Stmt} {np pos pos' p1 p2 p3 : Pos} {tb : WX → TS} {Wout : WX}
theorem ps_try_keep (hs : X.stack = X.env :: X.outer) (hf : X.env.frame = some X.env.locals) (hN : X.N.Nodup) (hi : X.N[i]? = some n) (hln : X.env.kindOf n = some .local) (hj : X.N[j]? = some y) (hly : X.env.kindOf y = some .local)
    (hex : X.ex = []) (hc : Names X x c) (tk : Takes X Wout)
    (hb : ∀ (W : WX) (pn : List (Addr × Obj)) (xe : Value → Shared → Prop), Takes (X.tr pn xe) W → PassesOwn (model X.prog X.w) X.A X.env xe → PSs (X.tr pn xe) body (tb W))
    (hdn : (n == ("__debug__" : Str)) = false := by decide) (hcd : (n == ("__classdict__" : Str)) = false := by decide) (hsw : swapsWith (.Name n p2) (some (.Name y p1)) p3.line X.env = pure false := by rfl) :
    PS X (.Try body [.ExceptHandler (some (.Name x np)) (some n) [.Assign [.Name y p1] (.Name n p2) p3] pos'] [] [] pos) (tTryK X.K c i j tb Wout) := by
  refine ⟨fun pins s σ H D I h => ?_⟩
  have ok := I.ok
  have hfr : X.A.frames = some (X.env :: X.outer) := by rw [ok.frames, hs]
  refine wpAny_Try_except ?_
  let hd : List ExceptHandler := [.ExceptHandler (some (.Name x np)) (some n) [.Assign [.Name y p1] (.Name n p2) p3] pos']
  let xe' : Value → Shared → Prop := fun e s₁ => wpAny (model X.prog X.w) X.A (noteFrame e X.env) (fun _ s₂ => wpAny (model X.prog X.w) X.A (setFlight e none) (fun _ s₃ => wpAny (model X.prog X.w) X.A (handleBy e X.env hd) (SP X pins D) X.xe s₃) X.xe s₂) X.xe s₁
  have catch_ : Takes (X.tr (X.pn ++ pins) xe') (wKeep X.K c i j Wout D) := by
    intro u s' xx
    obtain ⟨a, B, sI, pins', σ', H', cls, d, rfl, J', nb, up, sky, na, os, ag, C, b, rfl, hb1, hyes, hno⟩ := xx
    have J : Inv X pins σ' H' sI := J'.ofTry ok
    rw [show (X.tr (X.pn ++ pins) xe').stack = X.env :: X.outer from hs] at sky
    -- the ground does not know the exception
    have hBa : B.get? a = none := by
      rcases sky with ⟨_, q, _⟩ | ⟨_, q, _⟩ | ⟨_, q, _⟩ <;> exact q
    show wpAny (model X.prog X.w) X.A (noteFrame (.ref a) X.env) _ _ _
    refine Sky.land Zc.steady hfr hf sky fun h3 fl3 up3 => ?_
    have J3 : Inv X pins σ' H' { s' with heap := h3 } := J.landed nb fl3.1 (up.trans up3) os ag
    obtain ⟨oe3, vs3, he3, hz3, hd3⟩ := fl3.there
    have nfr : a ∉ frs (X.env :: X.outer) := fun hm => by
      obtain ⟨_, o', e', hnf⟩ := fl3.2.2.1.mem hm
      rw [he3] at e'; cases e'
      exact hnf _ hd3
    have nL : a ≠ X.env.locals := fun z => nfr (List.mem_filterMap.mpr ⟨X.env, List.mem_cons_self, by rw [hf, z]⟩)
    have nF : a ∉ X.fs := fun hm => by
      obtain ⟨e, he, q⟩ := List.mem_filterMap.mp hm
      exact nfr (List.mem_filterMap.mpr ⟨e, List.mem_cons_of_mem _ he, q⟩)
    have nI : sI.heap.get? a = none := by
      cases q : sI.heap.get? a with
      | none => rfl
      | some o =>
        have z := nb a o q (by rw [show (X.tr (X.pn ++ pins) xe').stack = X.env :: X.outer from hs]; exact nfr)
        rw [hBa] at z; cases z
    have n0 : X.s_0.heap.get? a = none := by
      cases q : X.s_0.heap.get? a with
      | none => rfl
      | some o =>
        obtain ⟨o', z⟩ := J.base.there a o q (by rw [hex]; exact List.not_mem_nil)
        rw [nI] at z; cases z
    have S3 := J3.suite he3 hd3 na nL nF
    refine wpAny_handleBy_cons (codeAny_handlers_test ?_) (by intro q; cases q)
    have LT : PySem.W.Looks (model X.prog X.w) h3 (typeOf (.ref a)) (.ref C) := fun A Q E s k q => wpAny_typeOf_ref (k _ _ he3) (by rw [hz3.1]; exact q)
    have LM := PySem.W.exm_one (M := model X.prog X.w) (J3.kIn) LT hb1
    have test : ∀ {Q : Value → Shared → Prop} {E : Value → Shared → Prop}, Q c { s' with heap := h3 } → wpAny (model X.prog X.w) (X.A.mark (some (.ref a))) (eval (.Name x np) X.env) Q E { s' with heap := h3 } := fun {Q E} q => by
      obtain ⟨hg, hdbg, hm | ⟨hm, hv, hnn⟩⟩ := hc
      · exact ld_glob (X := X.suite a ((a, oe3) :: (X.pn ++ pins))) S3 hg hm q hdbg
      · exact ld_blt (X := X.suite a ((a, oe3) :: (X.pn ++ pins))) S3 hg hm hv q hnn hdbg
    refine test (LM.here ?_)
    cases b with
    | true =>
      refine codeAny_handlers_suite_as ?_
      refine HandSPX.lands_againZ fl3 fun h4 fl4 up4 => ?_
      have J4 : Inv X pins σ' H' { s' with heap := h4 } := J.landed nb fl4.1 ((up.trans up3).trans up4) os ag
      obtain ⟨oe4, vs4, he4, hz4, hd4⟩ := fl4.there
      have S4 := J4.suite he4 hd4 na nL nF
      refine store_ok (X := X.suite a ((a, oe4) :: (X.pn ++ pins))) (v := .ref a) S4 hN hi (.inl hln) rfl (fun s5 S5 => ?_) (.inr hln)
      have hli : i < σ'.length := by rw [J4.len]; exact (List.getElem?_eq_some_iff.mp hi).1
      have P : PSs (X.suite a ((a, oe4) :: (X.pn ++ pins))) [.Assign [.Name y p1] (.Name n p2) p3] (tAsg (tVar i) (gName j)) :=
        pss_one (ps_set (X := X.suite a ((a, oe4) :: (X.pn ++ pins))) hN hj (.inl hly) (pe_var hi (.inl hln) hdn hcd) hsw (.inr hly))
      let D' : Ends := { nx := fun σ2 H2 => σ2 = (σ'.set i (some (.ref a))).set j (some (.ref a)) ∧ H2 = H', rt := fun _ _ => False, bk := fun _ _ => False, ct := fun _ _ => False }
      refine wpAny_mono (P.run [] s5 _ H' D' S5 ⟨.ref a, List.getElem?_set_self hli, rfl, rfl⟩) (fun f s6 hsp => ?_) (fun _ _ z => False.elim z)
      cases f with
      | next =>
        obtain ⟨σ6, H6, S6, q6⟩ := hsp
        obtain ⟨e6, e7⟩ := q6
        rw [e6, e7] at S6
        have U6 : Inv X ((a, oe4) :: pins) ((σ'.set i (some (.ref a))).set j (some (.ref a))) H' s6 :=
          ⟨ok, S6.os, S6.bare, S6.base, S6.loc, S6.cell, S6.free, S6.freeC, fun p hp => S6.pin p (by
            show p ∈ ((a, oe4) :: (X.pn ++ pins)) ++ []
            rw [List.append_nil]
            rcases List.mem_append.mp hp with h | h
            · exact List.mem_cons_of_mem _ (List.mem_append_left _ h)
            · rcases List.mem_cons.mp h with e | h
              · rw [e]; exact List.mem_cons_self
              · exact List.mem_cons_of_mem _ (List.mem_append_right _ h)), S6.hok, S6.len⟩
        refine gone_ok U6 hN hi hln fun s7 J7 => ?_
        have pa := J7.pin (a, oe4) (List.mem_append_right _ List.mem_cons_self)
        have J8 : Inv X pins (((σ'.set i (some (.ref a))).set j (some (.ref a))).set i none) H' s7 :=
          ⟨ok, J7.os, J7.bare, J7.base, J7.loc, J7.cell, J7.free, J7.freeC, fun p hp => J7.pin p (by
            rcases List.mem_append.mp hp with h | h
            · exact List.mem_append_left _ h
            · exact List.mem_append_right _ (List.mem_cons_of_mem _ h)), J7.hok, J7.len⟩
        have ea : s7.heap.get? a = some ({ cls := .ref C, dict := d, data := .fields vs4, slots := oe4.slots } : Obj) := by
          rw [pa.1]
          obtain ⟨hz1, hz2⟩ := hz4
          show some oe4 = _
          rw [← hz1, ← hz2, ← hd4]
        have nc : ∀ x c, X.env.cells.lookup x = some c → c ≠ a := fun x c e z => by
          obtain ⟨v, w⟩ := J7.cell x c e
          rw [z] at w
          obtain ⟨o', e1, e2⟩ := w
          rw [ea] at e1; cases e1; cases e2
        have np : ∀ p ∈ X.pn ++ pins, p.1 ≠ a := fun p hp z => by
          have q := (J.pin p hp).1
          rw [z, nI] at q; cases q
        exact ⟨_, _, inv_track J8 na (exv_ok ea) n0 nL nc np, hyes rfl a na⟩
      | brk =>
        obtain ⟨σ6, H6, S6, q6⟩ := hsp
        exact q6.elim
      | cont =>
        obtain ⟨σ6, H6, S6, q6⟩ := hsp
        exact q6.elim
      | ret u =>
        obtain ⟨v6, σ6, H6, S6, r6, q6⟩ := hsp
        exact q6.elim
    | false =>
      show wpAny _ X.A (handleBy (.ref a) X.env []) _ _ _
      refine wpAny_handleBy_nil ?_
      obtain ⟨k1, k2, k3, oe, vs, T, oT, ts', he, hz, hd, h1, hr⟩ := id fl3
      unfold PySem.passOn
      refine wpAny_bind (wpAny_field he hd h1 ?_)
      rw [if_neg (show ¬ ((Value.ref T == Value.none) = true) from by simp)]
      have fin : wpAny (model X.prog X.w) X.A (setFlight (.ref a) X.env.frame) (fun _ s4 => wpAny (model X.prog X.w) X.A (throw (.ref a) : Sem Flow) (SP X pins D) X.xe s4) X.xe { s' with heap := h3 } := by
        rw [hf]
        refine HandSPX.setFlight_upZ fl3 fun h4 hh4 up4 => wpAny_throw (tk _ _ ?_)
        exact ⟨a, B, sI, pins, σ', H', .ref C, d, rfl, J, nb, (up.trans up3).trans up4, .inr (.inr (by rw [hs]; exact hh4)), na, os, ag, hno rfl⟩
      first
        | exact wpAny_bind (wpAny_pure (wpAny_bind fin))
        | exact wpAny_bind fin
  refine wpAny_mono ((hb (wKeep X.K c i j Wout D) (X.pn ++ pins) xe' catch_ PassesOwn.looking).run [] s σ H D (I.toTry _) h) (fun f s1 hsp => ?_) (fun e s1 he => he)
  cases f with
  | next =>
    obtain ⟨σ', H', J', q⟩ := hsp
    exact wpAny_execs_nil ⟨σ', H', J'.ofTry ok, q⟩
  | brk =>
    obtain ⟨σ', H', J', q⟩ := hsp
    exact ⟨σ', H', J'.ofTry ok, q⟩
  | cont =>
    obtain ⟨σ', H', J', q⟩ := hsp
    exact ⟨σ', H', J'.ofTry ok, q⟩
  | ret u =>
    obtain ⟨v, σ', H', J', r, q⟩ := hsp
    exact ⟨v, σ', H', J'.ofTry ok, r, q⟩
end
end Ps

namespace Ps
open PySem PySem.Spec PyProof.Rows L2
/-! ### methods and makings, slot by slot -/
section
variable {X : Cx} {CX : CXT} {k : Nat} {f C : Addr} {fd : FuncData} {ps : List Str} {sp : Sp} {E : L2.St → XK} {x m : Str} {p pos apos : Pos} {e o : Expr} {es : List Expr} {ta : TE} {t : TA}
def tMethQ (C : Addr) (m : Str) (sp : Sp) (E : L2.St → XK) (ta : TE) (t : TA) : TE := fun σ H Q => ta σ H fun x H1 => ∃ a dx fs, x = .ref a ∧ H1 a = some (.ins C dx fs) ∧ fs.lookup m = none ∧ t σ H1 fun vs H2 => sp (x :: vs) H2 Q (E σ)
theorem pe_methQ {pl : Sem Bool} (he : PE X o ta) (c : Cls X.K C) (hm : Meth X.K C m f) (F : FnOk X.prog X.w X.K X.mg X.base CX k f fd ps sp) (hr : Room k X.A) (hb : Binds X.K fd ps []) (hx : ∀ σ, PassesAt CX X σ (E σ)) (ha : PA X (e :: es) t)
    (hst : starEach (e :: es) X.env = (false, eval e X.env) :: starEach es X.env := by rfl) (hpl : (backTo pos (starEach es X.env)).any (·.1) = false := by rfl)
    (ht : eval (.Call (.Attribute o m apos) (e :: es) [] pos) X.env = (do
      let ov ← eval o X.env
      standAt apos.atName
      let (f, first) ← holding [ov] (getMethod ov m pl)
      callWith pos f first (backTo pos (starEach (e :: es) X.env)) (backToKw pos (keywordEach [] X.env))) := by rfl) :
    PE X (.Call (.Attribute o m apos) (e :: es) [] pos) (tMethQ C m sp E ta t) := by
  refine ⟨fun pins s σ H Q I h => ?_⟩
  refine PySem.W.methodCall_KW (pl := pl) (thn (he.run pins s σ H _ I h) fun u s1 ⟨x, H1, I1, rx, a, dx, fs, ex, ea, l, q⟩ => ?_) ht
  subst ex
  obtain rfl : u = Value.ref a := rx
  refine getmeth_ok I1 ea c hm l ?_
  refine PySem.W.callWith_K (first := [.ref a]) (h₀ := X.base) I.ok.mod.kin hm.kp (thn (ha.run pos pins s1 σ H1 _ I1 q) fun us s2 ⟨vs, H2, I2, r, q2⟩ => ⟨I2.kIn, ?_⟩) hst hpl
  exact run_fnS (us := .ref a :: us) (vs := .ref a :: vs) F hr hb (hx σ) I2 (.cons rfl r) q2
theorem pe_methQ0 {pl : Sem Bool} (he : PE X o ta) (c : Cls X.K C) (hm : Meth X.K C m f) (F : FnOk X.prog X.w X.K X.mg X.base CX k f fd ps sp) (hr : Room k X.A) (hb : Binds X.K fd ps []) (hx : ∀ σ, PassesAt CX X σ (E σ))
    (ht : eval (.Call (.Attribute o m apos) [] [] pos) X.env = (do
      let ov ← eval o X.env
      standAt apos.atName
      let (f, first) ← holding [ov] (getMethod ov m pl)
      callWith pos f first (backTo pos (starEach [] X.env)) (backToKw pos (keywordEach [] X.env))) := by rfl) :
    PE X (.Call (.Attribute o m apos) [] [] pos) (tMethQ C m sp E ta tNil) := by
  refine ⟨fun pins s σ H Q I h => ?_⟩
  refine PySem.W.methodCall_KW (pl := pl) (thn (he.run pins s σ H _ I h) fun u s1 ⟨x, H1, I1, rx, a, dx, fs, ex, ea, l, q⟩ => ?_) ht
  subst ex
  obtain rfl : u = Value.ref a := rx
  refine getmeth_ok I1 ea c hm l ?_
  exact PySem.W.callWith_K0 (first := [.ref a]) I1.kIn hm.kp (run_fnS (us := [.ref a]) (vs := [.ref a]) F hr hb (hx σ) I1 (.cons rfl .nil) q)
/-- C(..): a new instance and its dict, then __init__, which may raise -/
def tMakeQ (C : Addr) (sp : Sp) (E : L2.St → XK) (t : TA) : TE := fun σ H Q => t σ H fun vs H1 => ∀ x dx, H1 x = none → H1 dx = none → dx ≠ x →
  sp (.ref x :: vs) (upd (upd H1 dx (.own x)) x (.ins C dx [])) (fun v H2 => v = .non ∧ Q (.ref x) H2) (E σ)
theorem run_makeQ {pins : List (Addr × Obj)} {σ : L2.St} {H : Hp} {s : Shared} {Q : VK} {us : List Value} {vs : List V} (M : Mk X.K C f) (F : FnOk X.prog X.w X.K X.mg X.base CX k f fd ps sp) (hr : Room (k + 1) X.A) (hb : Binds X.K fd ps [])
    (hx : PassesAt CX X σ (E σ)) (I : Inv X pins σ H s) (r : Vals vs us)
    (h : ∀ x dx, H x = none → H dx = none → dx ≠ x → sp (.ref x :: vs) (upd (upd H dx (.own x)) x (.ins C dx [])) (fun v H2 => v = .non ∧ Q (.ref x) H2) (E σ)) :
    wpAny (model X.prog X.w) X.A (call (.ref C) us) (EP X pins σ Q) X.xe s := by
  have hq := h (s.heap.objs.size + 1) s.heap.objs.size (I.hok.fresh (Nat.le_succ _)) (I.hok.fresh (Nat.le_refl _)) (Nat.ne_of_lt (Nat.lt_succ_self _))
  have I2 := Inv.made (C := C) I
  have r2 : Vals (V.ref (s.heap.objs.size + 1) :: vs) (Value.ref (s.heap.objs.size + 1) :: us) := .cons rfl r
  have hl : (Value.ref (s.heap.objs.size + 1) :: us).length = ps.length := by
    have e := r2.length
    rw [F.len _ _ _ _ hq] at e
    exact e.symm
  have hb2 := hb _ (Value.ref (s.heap.objs.size + 1) :: us) I2.kIn (by rw [List.append_nil]; exact hl)
  rw [List.append_nil] at hb2
  refine wpAny_call (make_map (f := f) I.kIn M.makes M.init (beq_iff_eq.mp M.fn) (codeAny_mono (F.run _ X.stack _ _ ⟨Value.ref (s.heap.objs.size + 1) :: us, []⟩ (Value.ref (s.heap.objs.size + 1) :: us) _ _ (E σ) (hr.make C us [])
    (I2.env0.make C us []) hb2 r2 hq) fun r s' hq' => ?_))
  cases r with
  | error e => exact hx pins _ _ e s' I2 hq'
  | ok fl =>
    cases fl with
    | ret u =>
      obtain ⟨v, H', I3, rv, ev, q3⟩ := I2.after hq'
      subst ev
      exact ⟨rv, ⟨V.ref (s.heap.objs.size + 1), H', I3, rfl, q3⟩⟩
    | next => exact False.elim hq'
    | brk => exact False.elim hq'
    | cont => exact False.elim hq'
theorem pe_makeQ (M : Mk X.K C f) (F : FnOk X.prog X.w X.K X.mg X.base CX k f fd ps sp) (hr : Room (k + 1) X.A) (hg : Gl X x) (hm : X.mg x = some (.ref C)) (hb : Binds X.K fd ps []) (hx : ∀ σ, PassesAt CX X σ (E σ))
    (ha : PA X (e :: es) t) (hdb : (x == ("__debug__" : Str)) = false := by decide) (he : starEach (e :: es) X.env = (false, eval e X.env) :: starEach es X.env := by rfl) (hpl : (backTo pos (starEach es X.env)).any (·.1) = false := by rfl) :
    PE X (.Call (.Name x p) (e :: es) [] pos) (tMakeQ C sp E t) := by
  refine ⟨fun pins s σ H Q I h => ?_⟩
  refine wpAny_Call_Name_kw (ld_glob I hg hm ?_ hdb)
  refine PySem.W.callWith_K (h₀ := X.base) I.ok.mod.kin M.kp (thn (ha.run pos pins s σ H _ I h) fun us s1 ⟨vs, H1, I1, r, q⟩ => ⟨I1.kIn, ?_⟩) he hpl
  exact run_makeQ M F hr hb (hx σ) I1 r q
theorem passQ0 (σ : L2.St) : PassesAt CX0 X σ E0 := fun _ _ _ _ _ _ h => h.elim
theorem passQL (σ : L2.St) : PassesAt (L2.CX X.prog X.w) X σ E0 := fun pins H s e s' I h => passL pins σ H s e s' I h
end
/-- o.m(..) of an instance of one of two classes -/
theorem pe_or {X : Cx} {e : Expr} {t1 t2 : TE} (h1 : PE X e t1) (h2 : PE X e t2) : PE X e (fun σ H Q => t1 σ H Q ∨ t2 σ H Q) :=
  ⟨fun pins s σ H Q I h => h.elim (h1.run pins s σ H Q I) (h2.run pins s σ H Q I)⟩
/-- nothing is wished of an exception: none comes -/
theorem takes_no {X : Cx} : Takes X (fun _ _ _ _ => False) := fun _ _ ⟨_, _, _, _, _, _, _, _, _, _, _, _, _, _, _, _, z⟩ => z.elim
end Ps

namespace Ps
open PySem PySem.Spec PyProof.Rows L2
section
variable {X : Cx} {pins : List (Addr × Obj)} {σ : L2.St} {H : Hp} {s : Shared}
/-- its dict stands, or there is none -/
def ExDict (H : Hp) (d : Option Addr) : Prop := d = none ∨ ∃ dd fs, d = some dd ∧ H dd = some (.xd fs)
theorem exv_inst (I : Inv X pins σ H s) {a C : Addr} {d : Option Addr} (e : H a = some (exv a C d)) (hd : ExDict H d) : ∃ ox od, PySem.W.InstAt s.heap a ox C od := by
  obtain ⟨vs, sl, h1⟩ := exv_at I.hok e
  rcases hd with rfl | ⟨dd, fs, rfl, h2⟩
  · exact ⟨_, none, h1, rfl, rfl, trivial⟩
  · have hx : ObjOk X.prog X.w H s.heap dd (.xd fs) := I.hok dd _ h2
    obtain ⟨mA, hns, hr⟩ := hx
    obtain ⟨od, ho, hl⟩ := lookIn_ns hns
    exact ⟨_, some od, h1, rfl, rfl, ho⟩
theorem exc_kit {K : PySem.W.Frag} {C : Addr} (c : ExcC K C) (x : Addr) (ox : Obj) (od : Option Obj) : PySem.W.KitX K (.ref x) (.ref C) (fun h => PySem.W.InstAt h x ox C od) :=
  PySem.W.kitx_exc (by obtain ⟨cd, hc, _⟩ := PySem.W.any_some c.hd; rw [hc]; rfl) c.hg c.hk c.hs c.ha c.hn c.ht c.hm
/-- isinstance(x, c) of a kept exception -/
def rIsiX (K : PySem.W.Frag) : List V → Hp → VK → Prop := fun xs H Q => ∃ (a C : Addr) (d : Option Addr) (c : V) (cv : Value) (b : Bool), xs = [.ref a, c] ∧ H a = some (exv a C d) ∧ ExDict H d ∧ ExcC K C ∧ ClsV c cv ∧ PySem.W.kitOne K (.ref C) cv = some b ∧ Q (.bl b) H
theorem call_isiX : CallR X (.builtin "isinstance") (rIsiX X.K) := by
  intro pins s σ H xs us Q I r h
  obtain ⟨a, C, d, c, cv, b, rfl, e, hd, k, hc, hb, q⟩ := h
  obtain ⟨u1, u2, rfl, r1, r2⟩ := vals2 r
  cases (show u1 = Value.ref a from r1)
  obtain ⟨ox, od, J⟩ := exv_inst I e hd
  have e2 := ClsV.all (Paired.cons hc .nil) (.cons r2 .nil)
  cases e2
  exact PySem.W.kia_one (exc_kit k a ox od) I.kIn J hb (fun z => nomatch z) fun tk => ⟨.bl b, H, I.tok tk, rfl, q⟩
def rIsiXT (K : PySem.W.Frag) : List V → Hp → VK → Prop := fun xs H Q => ∃ (a C : Addr) (d : Option Addr) (tp : Addr) (cs : List V) (us : List Value) (b : Bool), xs = [.ref a, .ref tp] ∧ H a = some (exv a C d) ∧ ExDict H d ∧ ExcC K C ∧ H tp = some (.tup cs) ∧ Paired ClsV cs us ∧ PySem.W.kitAny K (.ref C) us = some b ∧ Q (.bl b) H
theorem call_isiXT : CallR X (.builtin "isinstance") (rIsiXT X.K) := by
  intro pins s σ H xs us Q I r h
  obtain ⟨a, C, d, tp, cs, ws, b, rfl, e, hd, k, hT, hc, hb, q⟩ := h
  obtain ⟨u1, u2, rfl, r1, r2⟩ := vals2 r
  cases (show u1 = Value.ref a from r1)
  cases (show u2 = Value.ref tp from r2)
  obtain ⟨ox, od, J⟩ := exv_inst I e hd
  obtain ⟨_, its, rv, o, h1, h2, n, h3⟩ := (show ObjOk X.prog X.w H s.heap tp (.tup cs) from I.hok tp _ hT)
  have e3 := ClsV.all hc rv
  subst e3
  obtain ⟨oc, od', dt, sl⟩ := o
  simp only at h2 h3
  subst h2 h3
  exact PySem.W.kia_tup (exc_kit k a ox od) I.kIn J h1 hb (fun z => nomatch z) fun tk => ⟨.bl b, H, I.tok tk, rfl, q⟩
def rIsiE (K : PySem.W.Frag) : List V → Hp → VK → Prop := fun xs H Q => rIsiU K xs H Q ∨ (rIsiX K xs H Q ∨ rIsiXT K xs H Q)
theorem call_isiE : CallR X (.builtin "isinstance") (rIsiE X.K) := callr_or call_isiU (callr_or call_isiX call_isiXT)
/-- a field of a kept exception -/
def tFldX (K : PySem.W.Frag) (te : TE) (n : Str) : TE := fun σ H Q => te σ H fun x H1 => ∃ (a C dd : Addr) (fs : List (Str × V)) (v : V), x = .ref a ∧ H1 a = some (exv a C (some dd)) ∧ H1 dd = some (.xd fs) ∧ XfC K C ∧ PySem.W.findIn K (.ref C) n = some none ∧ fs.lookup n = some v ∧ Q v H1
theorem pe_fldX {e : Expr} {te : TE} {pos : Pos} {n : Str} (he : PE X e te) (hb : attributeBase e n X.env (eval e X.env) = eval e X.env := by rfl) : PE X (.Attribute e n pos) (tFldX X.K te n) := by
  refine ⟨fun pins s σ H Q I h => ?_⟩
  refine attr_of hb (thn (he.run pins s σ H _ I h) fun u s1 hh => ?_)
  obtain ⟨x, H1, I1, rx, a, C, dd, fs, v, ex, ea, ed, T, hno, l, q⟩ := hh
  subst ex
  obtain rfl : u = Value.ref a := rx
  obtain ⟨vs, sl, h1⟩ := exv_at I1.hok ea
  have hx : ObjOk X.prog X.w H1 s1.heap dd (.xd fs) := I1.hok dd _ ed
  obtain ⟨mA, hns, hr⟩ := hx
  obtain ⟨od, ho, hl⟩ := lookIn_ns hns
  obtain ⟨u, hu, ru⟩ := RelO.some_of (v := v) (o := mA n) (by rw [← l]; exact hr n)
  have J : PySem.W.InstAt s1.heap a _ C (some od) := ⟨h1, rfl, rfl, ho⟩
  exact HandSPX.exc_get I1.kIn J T.ga T.gg T.exC (PySem.W.findObj_own T.hdC hno rfl (by rw [hl, hu])) (handed_of ru) ⟨v, H1, I1.tok _, ru, q⟩
def tFldU (K : PySem.W.Frag) (te : TE) (n : Str) : TE := fun σ H Q => tFld K te n σ H Q ∨ tFldX K te n σ H Q
theorem pe_fldU {e : Expr} {te : TE} {pos : Pos} {n : Str} (he : PE X e te) (hb : attributeBase e n X.env (eval e X.env) = eval e X.env := by rfl) : PE X (.Attribute e n pos) (tFldU X.K te n) := pe_or (pe_fld he hb) (pe_fldX he hb)
/-- B.__init__(self, ..), B an own class whose __init__ is ValueError's -/
theorem pe_binit {x : Str} {C0 : Addr} {e : Expr} {es : List Expr} {ta : TA} {p1 p2 pos : Pos} {pl : Sem Bool} (hg : Gl X x) (hm : X.mg x = some (.ref C0)) (rC : ClX.CRead X.K C0 (.type "type")) (vV : PySem.W.findCls X.K (.ref C0) (.type "type") "__init__" = some (.val (.builtin "ValueError.__init__"))) (ha : PA X (e :: es) ta)
    (hdb : (x == ("__debug__" : Str)) = false := by decide)
    (hc : eval (.Call (.Attribute (.Name x p1) "__init__" p2) (e :: es) [] pos) X.env = (do
      let ov ← eval (.Name x p1) X.env
      standAt p2.atName
      let (f, first) ← holding [ov] (getMethod ov "__init__" pl)
      callWith pos f first (backTo pos (starEach (e :: es) X.env)) (backToKw pos (keywordEach [] X.env))) := by rfl)
    (he : starEach (e :: es) X.env = (false, eval e X.env) :: starEach es X.env := by rfl) (hpl : (backTo pos (starEach es X.env)).any (·.1) = false := by rfl) :
    PE X (.Call (.Attribute (.Name x p1) "__init__" p2) (e :: es) [] pos) (tVeI X.K ta) := by
  refine ⟨fun pins s σ H Q I h => ?_⟩
  refine PySem.W.methodCall_KW (ld_glob I hg hm ?_ hdb) hc
  refine PySem.W.method_cls I.kIn rC.ga (PySem.W.cls_value I.kIn rC.rd vV rfl ?_)
  show wpAny _ _ (callWith pos (Value.builtin "ValueError.__init__") [] (backTo pos (starEach (e :: es) X.env)) []) _ _ _
  refine PyProof.Rows.callWith_method1 (thn (ha.run pos pins _ σ H _ (I.tok _) h) fun us s1 ⟨vs, H1, I1, r1, a, C, ws, ev, hl, T, ea, q⟩ => ?_) he hpl
  subst ev
  cases r1 with
  | @cons _ u0 _ ur ra rw' =>
    obtain rfl : u0 = Value.ref a := ra
    have hlen : ur.length ≤ sizeLine := by
      rw [← Paired.length rw', sizeLine_eq]
      omega
    exact oinit_ok T I1 ea hlen fun s' J => ⟨.non, H1, J, rfl, q⟩
end
end Ps

namespace Ps
open PySem PySem.Spec PyProof.Rows L2
theorem bt_ValueError : bootBuiltins "ValueError" = some (.type "ValueError") := by decide +kernel
def tRz (W : WX) (cls : Value) : TS := fun _ σ H => W cls none σ H
def tRzO (W : WX) (C : Addr) (sp : Sp) (ta : TA) : TS := fun _ σ H => tMkO C sp [] ta σ H fun cls d H' => W cls d σ H'
def tOrE (t1 t2 : TE) : TE := fun σ H Q => t1 σ H Q ∨ t2 σ H Q
/-- what a class of one's own must have, its fields' names -/
def ClsK (K : PySem.W.Frag) (C : Addr) (fs : List Str) : Prop := Cls K C ∧ ∀ f ∈ fs, NoAttr K C f
section
variable {K : PySem.W.Frag} {H H1 : Hp} {σ : L2.St} {D : Ends} {ta tv : TE} {f m : Str} {Q : VK} {a C dx : Addr} {fs : List (Str × V)} {fl : List Str} {v y : V} {t : TA} {sp : Sp} {E : L2.St → XK}
def FldK (K : PySem.W.Frag) (f : Str) (x : V) (H1 : Hp) (Q : VK) : Prop := ∃ a C dx fs v, x = .ref a ∧ H1 a = some (.ins C dx fs) ∧ Cls K C ∧ NoAttr K C f ∧ fs.lookup f = some v ∧ Q v H1
theorem w_fld (h : ta σ H fun x H1 => FldK K f x H1 Q) : tFld K ta f σ H Q := h
theorem w_fldI (ha : H a = some (.ins C dx fs)) (k : ClsK K C fl) (hf : f ∈ fl) (hv : fs.lookup f = some v) (h : Q v H) : FldK K f (.ref a) H Q := ⟨a, C, dx, fs, v, rfl, ha, k.1, k.2 f hf, hv, h⟩
def SFldK (K : PySem.W.Frag) (f : Str) (D : Ends) (σ : L2.St) (y x : V) (H2 : Hp) : Prop := ∃ a C dx fs, x = .ref a ∧ H2 a = some (.ins C dx fs) ∧ Cls K C ∧ NoAttr K C f ∧ fs.length < 1000 ∧ D.nx σ (upd H2 a (.ins C dx (putF f y fs)))
theorem w_sfld (h : tv σ H fun y H1 => ta σ H1 fun x H2 => SFldK K f D σ y x H2) : sFld K ta tv f D σ H := h
theorem w_sfldI (ha : H a = some (.ins C dx fs)) (k : ClsK K C fl) (hf : f ∈ fl) (hz : fs.length < 1000) (h : D.nx σ (upd H a (.ins C dx (putF f y fs)))) : SFldK K f D σ y (.ref a) H := ⟨a, C, dx, fs, rfl, ha, k.1, k.2 f hf, hz, h⟩
def AFldK (K : PySem.W.Frag) (f : Str) (rd : V → V → Hp → VK → Prop) (tv : TE) (D : Ends) (σ : L2.St) (x : V) (H1 : Hp) : Prop := ∃ a C dx fs v, x = .ref a ∧ H1 a = some (.ins C dx fs) ∧ Cls K C ∧ NoAttr K C f ∧ fs.lookup f = some v ∧
  tv σ H1 fun y H2 => rd v y H2 fun z H3 => ∃ dx' fs', H3 a = some (.ins C dx' fs') ∧ fs'.length < 1000 ∧ D.nx σ (upd H3 a (.ins C dx' (putF f z fs')))
theorem w_afld {rd : V → V → Hp → VK → Prop} (h : ta σ H fun x H1 => AFldK K f rd tv D σ x H1) : sFldAug K ta tv rd f D σ H := h
theorem w_afldI {rd : V → V → Hp → VK → Prop} (ha : H a = some (.ins C dx fs)) (k : ClsK K C fl) (hf : f ∈ fl) (hv : fs.lookup f = some v)
    (h : tv σ H fun y H2 => rd v y H2 fun z H3 => ∃ dx' fs', H3 a = some (.ins C dx' fs') ∧ fs'.length < 1000 ∧ D.nx σ (upd H3 a (.ins C dx' (putF f z fs')))) : AFldK K f rd tv D σ (.ref a) H := ⟨a, C, dx, fs, v, rfl, ha, k.1, k.2 f hf, hv, h⟩
theorem w_rAdd {i j : Int} (h : Q (.int (i + j)) H) : rAdd (.int i) (.int j) H Q := ⟨i, j, rfl, rfl, h⟩
theorem w_rSub {i j : Int} (h : Q (.int (i - j)) H) : rSub (.int i) (.int j) H Q := ⟨i, j, rfl, rfl, h⟩
def MethK (C : Addr) (m : Str) (sp : Sp) (E : XK) (t : TA) (σ : L2.St) (x : V) (H1 : Hp) (Q : VK) : Prop := ∃ a dx fs, x = .ref a ∧ H1 a = some (.ins C dx fs) ∧ fs.lookup m = none ∧ t σ H1 fun vs H2 => sp (x :: vs) H2 Q E
theorem w_meth (h : ta σ H fun x H1 => MethK C m sp (E σ) t σ x H1 Q) : tMethQ C m sp E ta t σ H Q := h
theorem w_methI {E : XK} (ha : H a = some (.ins C dx fs)) (hv : fs.lookup m = none) (h : t σ H fun vs H2 => sp (.ref a :: vs) H2 Q E) : MethK C m sp E t σ (.ref a) H Q := ⟨a, dx, fs, rfl, ha, hv, h⟩
theorem w_make (h : t σ H fun vs H1 => ∀ x dx, H1 x = none → H1 dx = none → dx ≠ x → sp (.ref x :: vs) (upd (upd H1 dx (.own x)) x (.ins C dx [])) (fun v H2 => v = .non ∧ Q (.ref x) H2) (E σ)) : tMakeQ C sp E t σ H Q := h
theorem w_orL {t1 t2 : TE} (h : t1 σ H Q) : tOrE t1 t2 σ H Q := .inl h
theorem w_orR {t1 t2 : TE} (h : t2 σ H Q) : tOrE t1 t2 σ H Q := .inr h
theorem w_rz {W : WX} {cls : Value} (h : W cls none σ H) : tRz W cls D σ H := h
theorem w_try {c : Value} {i j : Nat} {tb : WX → TS} {Wout : WX} (h : tb (wKeep K c i j Wout D) D σ H) : tTryK K c i j tb Wout D σ H := h
theorem w_tryP {c : Value} {i j : Nat} {tb : WX → TS} {Wout : WX} (h : ∀ P : L2.St → Hp → Prop, (∀ σ H, D.nx σ H → P σ H) → tb (wKeep K c i j Wout ⟨P, D.rt, D.bk, D.ct⟩) ⟨P, D.rt, D.bk, D.ct⟩ σ H) : tTryK K c i j tb Wout D σ H := h D.nx fun _ _ q => q
theorem w_keep {c : Value} {i j : Nat} {Wout : WX} {d : Option Addr} (e : PySem.W.exmOne K (.ref C) c = some true) (h : ∀ a, H a = none → D.nx (((σ.set i (some (.ref a))).set j (some (.ref a))).set i none) (upd H a (exv a C d))) : wKeep K c i j Wout D (.ref C) d σ H :=
  ⟨C, true, rfl, e, fun _ => h, fun z => by cases z⟩
theorem w_isX {d : Option Addr} {c : V} {cv : Value} {b : Bool} (ha : H a = some (exv a C d)) (hd : ExDict H d) (k : ExcC K C) (hc : ClsV c cv) (hb : PySem.W.kitOne K (.ref C) cv = some b) (h : Q (.bl b) H) : rIsiE K [.ref a, c] H Q :=
  .inr (.inl ⟨a, C, d, c, cv, b, rfl, ha, hd, k, hc, hb, h⟩)
theorem w_isXT {d : Option Addr} {tp : Addr} {cs : List V} {us : List Value} {b : Bool} (ha : H a = some (exv a C d)) (hd : ExDict H d) (k : ExcC K C) (hT : H tp = some (.tup cs)) (hc : Paired ClsV cs us) (hb : PySem.W.kitAny K (.ref C) us = some b) (h : Q (.bl b) H) : rIsiE K [.ref a, .ref tp] H Q :=
  .inr (.inr ⟨a, C, d, tp, cs, us, b, rfl, ha, hd, k, hT, hc, hb, h⟩)
theorem w_max2 {i j : Int} (h : Q (.int (if j > i then j else i)) H) : rMax2 [.int i, .int j] H Q := ⟨i, j, rfl, h⟩
end
end Ps

namespace Ps
open PySem PySem.Spec PyProof.Rows L2
/-- a tuple or a list is taken apart -/
def gTupU (K : PySem.W.Frag) (n : Nat) (t : TGs) : TG := fun v σ H Q => gTup K n t v σ H Q ∨ gLst K n t v σ H Q
theorem pg_or {X : Cx} {e : Expr} {t1 t2 : TG} (h1 : PG X e t1) (h2 : PG X e t2) : PG X e (fun v σ H Q => t1 v σ H Q ∨ t2 v σ H Q) :=
  ⟨fun pins s σ H v u Q I r h => h.elim (h1.run pins s σ H v u Q I r) (h2.run pins s σ H v u Q I r)⟩
theorem pg_tupU {X : Cx} {pos : Pos} {es : List Expr} {k : Nat} {t : TGs} {n : Nat} (hc : X.calm = true) (h : PGs X es t)
    (hn : (assignEach es X.env).length = n := by rfl) (hst : (assignEach es X.env).findIdx? (·.1) = none := by rfl) : PG X (.Tuple es k pos) (gTupU X.K n t) := pg_or (pg_tup hc h hn hst) (pg_lst hc h hn hst)
theorem w_gtL {K : PySem.W.Frag} {gs : TGs} {n : Nat} {a : Addr} {xs : List V} {σ : L2.St} {H : Hp} {Q : L2.St → Hp → Prop} (ht : SqL K H a xs) (hn : xs.length = n) (h : gs xs σ H Q) : gTupU K n gs (.ref a) σ H Q := .inr ⟨a, xs, rfl, ht, hn, h⟩
theorem w_gtT {K : PySem.W.Frag} {gs : TGs} {n : Nat} {a : Addr} {xs : List V} {σ : L2.St} {H : Hp} {Q : L2.St → Hp → Prop} (ht : SqT K H a xs) (hn : xs.length = n) (h : gs xs σ H Q) : gTupU K n gs (.ref a) σ H Q := .inl ⟨a, xs, rfl, ht, hn, h⟩
end Ps

/-! L52: rooms. -/
namespace Ps
open PySem PySem.Spec PyProof.Rows L2
local macro_rules | `(tactic| walk_at "s1") => `(tactic| first
  | (with_reducible refine w_seq ?_) | (with_reducible refine w_asg ?_) | (with_reducible refine w_op ?_) | (with_reducible refine w_c ?_)
  | ((with_reducible refine' w_var ?hx ?_); (case hx => exact rfl))
  | (with_reducible refine w_gname ?_) | (with_reducible refine w_cons ?_) | (with_reducible refine w_nil ?_) | (with_reducible refine w_cb ?_) | (with_reducible refine w_call ?_)
  | (with_reducible refine w_ret ?_) | (with_reducible refine w_drop ?_) | (with_reducible refine w_ifs ?_) | (with_reducible refine w_test ?_) | (with_reducible refine w_next ?_)
  | (with_reducible refine w_addI ?_) | (with_reducible refine w_subI ?_) | (with_reducible refine w_negI ?_) | (with_reducible refine w_eqI ?_) | (with_reducible refine w_neI ?_) | (with_reducible refine w_ltI ?_) | (with_reducible refine w_leI ?_)
  | (with_reducible refine w_gtI ?_) | (with_reducible refine w_geI ?_) | (with_reducible refine w_isNn ?_) | (with_reducible refine w_isNi ?_) | (with_reducible refine w_isNs ?_) | (with_reducible refine w_isNr ?_) | (with_reducible refine w_ntNn ?_) | (with_reducible refine w_ntNi ?_) | (with_reducible refine w_ntNs ?_) | (with_reducible refine w_ntNr ?_) | (with_reducible refine w_isN ?_) | (with_reducible refine w_notN ?_) | (with_reducible refine w_ipaI ?_) | (with_reducible refine w_eqS ?_) | (with_reducible refine w_neS ?_)
  | (with_reducible refine w_blE ?_) | (with_reducible refine w_truB ?_) | (with_reducible refine w_intI ?_) | (with_reducible refine w_intB ?_)
  | (with_reducible refine w_bm ?_) | (with_reducible refine w_bm0 ?_) | (with_reducible refine w_lst ?_) | (with_reducible refine w_tup ?_) | (with_reducible refine w_un ?_) | (with_reducible refine w_sl ?_) | (with_reducible refine w_nopart ?_) | (with_reducible refine w_part ?_) | (with_reducible refine w_partI ?_)
  | (with_reducible refine w_gsub ?_) | (with_reducible refine w_gcons ?_) | (with_reducible refine w_gnil ?_) | (with_reducible refine w_and ?_) | (with_reducible refine w_or ?_) | (with_reducible refine w_not ?_) | (with_reducible refine w_tru ?_) | (with_reducible refine w_yes ?_)
  | (with_reducible refine w_andV ?_) | (with_reducible refine w_orV ?_) | (with_reducible refine w_notV ?_) | (with_reducible refine w_tif ?_) | (with_reducible refine w_callS ?_) | (with_reducible refine w_for ?_)
  | (with_reducible refine w_par ?_) | (with_reducible refine w_par2 ?_) | (with_reducible refine w_retN ?_) | (with_reducible refine w_brk ?_) | (with_reducible refine w_cont ?_)
  | ((with_reducible refine' w_aug ?hx ?_); (case hx => exact rfl)) | (with_reducible refine w_ipsI ?_)
  | (with_reducible refine w_is_int_dict ?_) | (with_reducible refine w_is_int_list ?_) | (with_reducible refine w_is_int_tuple ?_) | (with_reducible refine w_is_int_str ?_) | (with_reducible refine w_is_int_int ?_) | (with_reducible refine w_is_int_bool ?_) | (with_reducible refine w_is_bool_dict ?_) | (with_reducible refine w_is_bool_list ?_) | (with_reducible refine w_is_bool_tuple ?_) | (with_reducible refine w_is_bool_str ?_) | (with_reducible refine w_is_bool_int ?_) | (with_reducible refine w_is_bool_bool ?_) | (with_reducible refine w_is_str_dict ?_) | (with_reducible refine w_is_str_list ?_) | (with_reducible refine w_is_str_tuple ?_) | (with_reducible refine w_is_str_str ?_) | (with_reducible refine w_is_str_int ?_) | (with_reducible refine w_is_str_bool ?_)
  | (with_reducible refine w_ifT ?_) | (with_reducible refine w_ifF ?_) | (with_reducible refine w_ifNF ?_) | (with_reducible refine w_ifNT ?_)
  | (with_reducible refine w_fld ?_) | (with_reducible refine w_sfld ?_) | (with_reducible refine w_afld ?_) | (with_reducible refine w_meth ?_) | (with_reducible refine w_make ?_) | (with_reducible refine w_rz ?_) | (with_reducible refine w_rAdd ?_) | (with_reducible refine w_rSub ?_) | (with_reducible refine w_max2 ?_) | (with_reducible refine w_lc ?_) | (with_reducible refine w_zip ?_) | (with_reducible refine w_seqv ?_) | (with_reducible refine w_rng1 ?_) | (with_reducible refine w_rng2 ?_) | (with_reducible refine w_rng3 ?_) | (with_reducible refine w_enum ?_) | (with_reducible refine w_rev ?_))
local macro_rules | `(tactic| walk_at "go") => `(tactic| repeat (walk_at "s1"))
/- Room.__init__: 0 self, 1 most -/
def t_Room_init (K : PySem.W.Frag) : TS :=
      (tSeq (sFld K (tVar 0) (tVar 1) ("so_many" : Str))
      (tSeq (sFld K (tVar 0) (tC (.int 0)) ("in_use" : Str))
      (sFld K (tVar 0) (tC (.int 0)) ("top" : Str))))
abbrev N_Room_init : List Str := [("self" : Str), ("most" : Str)]

/- Room.hold: 0 self, 1 many -/
def t_Room_hold (K : PySem.W.Frag) (c_NoRoom : Addr) (E : XK) : TS :=
      (tSeq (tIfS (tTest (tOp (rGtU) (tOp (rAddU K) (tFld K (tVar 0) ("in_use" : Str)) (tVar 1)) (tFld K (tVar 0) ("so_many" : Str))))
      (tRz (fun c d _ H => E c d H) (.ref c_NoRoom))
      tNext)
      (tSeq (sFldAug K (tVar 0) (tVar 1) rAdd ("in_use" : Str))
      (sFld K (tVar 0) (tCB (rMax2) (tCons (tFld K (tVar 0) ("top" : Str)) (tCons (tFld K (tVar 0) ("in_use" : Str)) tNil))) ("top" : Str))))
abbrev N_Room_hold : List Str := [("self" : Str), ("many" : Str)]

/- Room.free: 0 self, 1 many -/
def t_Room_free (K : PySem.W.Frag) (c_NoRoom : Addr) (E : XK) : TS :=
      (tSeq (tIfS (tTest (tOp (rGtU) (tVar 1) (tFld K (tVar 0) ("in_use" : Str))))
      (tRz (fun c d _ H => E c d H) (.ref c_NoRoom))
      tNext)
      (sFldAug K (tVar 0) (tVar 1) rSub ("in_use" : Str)))
abbrev N_Room_free : List Str := [("self" : Str), ("many" : Str)]

/- Room.most: 0 self -/
def t_Room_most (K : PySem.W.Frag) : TS :=
      (tRet (tFld K (tVar 0) ("so_many" : Str)))
abbrev N_Room_most : List Str := [("self" : Str)]

/- Room.held: 0 self -/
def t_Room_held (K : PySem.W.Frag) : TS :=
      (tRet (tFld K (tVar 0) ("in_use" : Str)))
abbrev N_Room_held : List Str := [("self" : Str)]

/- Room.peak: 0 self -/
def t_Room_peak (K : PySem.W.Frag) : TS :=
      (tRet (tFld K (tVar 0) ("top" : Str)))
abbrev N_Room_peak : List Str := [("self" : Str)]

/- _law_tried: 0 _law_room, 1 _law_way, 2 _law_many, 3 _law_caught, 4 e -/
def t_tried (K : PySem.W.Frag) (s_Room_hold_ : Sp) (s_Room_free_ : Sp) (c_StoreError : Addr) (c_NoRoom : Addr) (c_NoPart : Addr) (c_NoName : Addr) (c_NoMoment : Addr) (c_NoHeap : Addr) (c_NoFile : Addr) (c_BadText : Addr) (c_BadRow : Addr) (c_BadBytes : Addr) (c_Taken : Addr) (c_NotSound : Addr) (c_NoRow : Addr) (c_Room : Addr) : TS :=
      (tSeq (tAsg (tC .non) (gName 3))
      (tSeq (tTryK K (.ref c_StoreError) 4 3 (fun W =>
      (tIfS (tTest (tOp (rEqU K) (tVar 1) (tC (.int 0))))
      (tDrop (tMethQ c_Room ("hold" : Str) s_Room_hold_ (WE W) (tVar 0) (tCons (tVar 2) tNil)))
      (tDrop (tMethQ c_Room ("free" : Str) s_Room_free_ (WE W) (tVar 0) (tCons (tVar 2) tNil))))) (fun _ _ _ _ => False))
      (tSeq (tIfS (tTest (tOp (rIsN) (tVar 3) (tC .non)))
      (tRet (tC (.str ("told" : Str))))
      tNext)
      (tSeq (tIfS (tOr (tNot (tTru K (tCB (rIsiE K) (tCons (tVar 3) (tCons (tC (.ref c_NoRoom)) tNil))))) (tNot (tTru K (tCB (rIsiE K) (tCons (tVar 3) (tCons (tC (.ty "ValueError")) tNil))))))
      (tRet (tC (.str ("other" : Str))))
      tNext)
      (tSeq (tIfS (tTru K (tCB (rIsiE K) (tCons (tVar 3) (tCons (tTup (tCons (tC (.ref c_BadBytes)) (tCons (tC (.ref c_BadRow)) (tCons (tC (.ref c_BadText)) (tCons (tC (.ref c_NoFile)) (tCons (tC (.ref c_NoHeap)) (tCons (tC (.ref c_NoMoment)) (tCons (tC (.ref c_NoName)) (tCons (tC (.ref c_NoPart)) tNil))))))))) tNil))))
      (tRet (tC (.str ("other" : Str))))
      tNext)
      (tRet (tOp (rIxU K) (tLst (tCons (tC (.str ("refused" : Str))) (tCons (tC (.str ("other" : Str))) tNil))) (tCB (rIntU) (tCons (tCB (rIsiE K) (tCons (tVar 3) (tCons (tTup (tCons (tC (.ref c_NoRow)) (tCons (tC (.ref c_NotSound)) (tCons (tC (.ref c_Taken)) tNil)))) tNil))) tNil)))))))))
abbrev N_tried : List Str := [("_law_room" : Str), ("_law_way" : Str), ("_law_many" : Str), ("_law_caught" : Str), ("e" : Str)]

/- _law_as_counted: 0 _law_room, 1 _law_own -/
def t_as_counted (K : PySem.W.Frag) (s_same_ : Sp) (s_Room_peak_ : Sp) (s_Room_held_ : Sp) (s_Room_most_ : Sp) (c_Room : Addr) : TS :=
      (tRet (tCall s_same_ [] E0 (tCons (tLst (tCons (tMethQ c_Room ("most" : Str) s_Room_most_ (fun _ => E0) (tVar 0) tNil) (tCons (tMethQ c_Room ("held" : Str) s_Room_held_ (fun _ => E0) (tVar 0) tNil) (tCons (tMethQ c_Room ("peak" : Str) s_Room_peak_ (fun _ => E0) (tVar 0) tNil) tNil)))) (tCons (tVar 1) tNil))))
abbrev N_as_counted : List Str := [("_law_room" : Str), ("_law_own" : Str)]

/- law: 0 _law_script, 1 _law_state, 2 _law_rooms, 3 _law_owns, 4 _law_turn, 5 _law_most, 6 _law_k, 7 _law_held, 8 _law_peak, 9 _law_way, 10 _law_left, 11 _law_many, 12 _law_due, 13 _law_room, 14 _law_own -/
def t_law (K : PySem.W.Frag) (s_begin_ : Sp) (s_take_ : Sp) (s_tried_ : Sp) (s_as_counted_ : Sp) (s_Room_init_ : Sp) (c_Room : Addr) : TS :=
      (tSeq (tAsg (tCall s_begin_ [] E0 (tCons (tVar 0) tNil)) (gName 1))
      (tSeq (tAsg (tLst tNil) (gName 2))
      (tSeq (tAsg (tLst tNil) (gName 3))
      (tSeq (tFor (iRng1 (tCons (tOp (rAddU K) (tC (.int 1)) (tCall s_take_ [] E0 (tCons (tVar 1) (tCons (tC (.int 3)) tNil)))) tNil)) (gName 4)
      (tSeq (tAsg (tOp (rIxU K) (tLst (tCons (tC (.int 6)) (tCons (tC (.int 7)) (tCons (tC (.int 12)) (tCons (tOp (rAddU K) (tC (.int 6)) (tCall s_take_ [] E0 (tCons (tVar 1) (tCons (tC (.int 995)) tNil)))) (tCons (tC (.int 1000)) tNil)))))) (tCall s_take_ [] E0 (tCons (tVar 1) (tCons (tC (.int 5)) tNil)))) (gName 5))
      (tSeq (tDrop (tBM K "list" (rAppend) (tVar 2) (tCons (tMakeQ c_Room s_Room_init_ (fun _ => E0) (tCons (tVar 5) tNil)) tNil)))
      (tDrop (tBM K "list" (rAppend) (tVar 3) (tCons (tLst (tCons (tVar 5) (tCons (tC (.int 0)) (tCons (tC (.int 0)) tNil)))) tNil))))))
      (tSeq (tFor (iRng1 (tCons (tOp (rAddU K) (tC (.int 10)) (tCall s_take_ [] E0 (tCons (tVar 1) (tCons (tC (.int 31)) tNil)))) tNil)) (gName 4)
      (tSeq (tAsg (tCall s_take_ [] E0 (tCons (tVar 1) (tCons (tCB (rLenU K) (tCons (tVar 2) tNil)) tNil))) (gName 6))
      (tSeq (tAsg (tOp (rIxU K) (tVar 3) (tVar 6)) (gTupU K 3 (gCons (gName 5) (gCons (gName 7) (gCons (gName 8) gNil)))))
      (tSeq (tAsg (tCall s_take_ [] E0 (tCons (tVar 1) (tCons (tC (.int 2)) tNil))) (gName 9))
      (tSeq (tAsg (tOp (rIxU K) (tLst (tCons (tOp (rSubU) (tVar 5) (tVar 7)) (tCons (tVar 7) tNil))) (tVar 9)) (gName 10))
      (tSeq (tAsg (tOp (rIxU K) (tLst (tCons (tC (.int 0)) (tCons (tC (.int 1)) (tCons (tVar 10) (tCons (tOp (rAddU K) (tVar 10) (tC (.int 1))) (tCons (tCall s_take_ [] E0 (tCons (tVar 1) (tCons (tC (.int 1001)) tNil))) (tCons (tCall s_take_ [] E0 (tCons (tVar 1) (tCons (tOp (rAddU K) (tVar 10) (tC (.int 1))) tNil))) tNil))))))) (tCall s_take_ [] E0 (tCons (tVar 1) (tCons (tC (.int 6)) tNil)))) (gName 11))
      (tSeq (tAsg (tOp (rIxU K) (tLst (tCons (tC (.str ("told" : Str))) (tCons (tC (.str ("refused" : Str))) tNil))) (tCB (rIntU) (tCons (tOp (rGtU) (tVar 11) (tVar 10)) tNil))) (gName 12))
      (tSeq (tIfS (tTest (tOp (rNeU K) (tCall s_tried_ [] E0 (tCons (tOp (rIxU K) (tVar 2) (tVar 6)) (tCons (tVar 9) (tCons (tVar 11) tNil)))) (tVar 12)))
      (tRet (tC (.bl false)))
      tNext)
      (tSeq (tIfS (tTest (tOp (rEqU K) (tVar 12) (tC (.str ("told" : Str)))))
      (tSeq (tAsg (tOp (rAddU K) (tVar 7) (tOp (rIxU K) (tLst (tCons (tVar 11) (tCons (tUn rNeg (tVar 11)) tNil))) (tVar 9))) (gName 7))
      (tAsg (tLst (tCons (tVar 5) (tCons (tVar 7) (tCons (tCB (rMax2) (tCons (tVar 8) (tCons (tVar 7) tNil))) tNil)))) (gSub (tVar 3) (tVar 6) rSetU)))
      tNext)
      (tIfS (tNot (tTru K (tCB (rAll K) (tCons (tLc (RZ.iZipA K (tCons (tVar 2) (tCons (tVar 3) tNil))) (gTupU K 2 (gCons (gName 13) (gCons (gName 14) gNil))) tYes (tCall s_as_counted_ [] E0 (tCons (tVar 13) (tCons (tVar 14) tNil))) [13, 14]) tNil))))
      (tRet (tC (.bl false)))
      tNext))))))))))
      (tRet (tC (.bl true))))))))
abbrev N_law : List Str := [("_law_script" : Str), ("_law_state" : Str), ("_law_rooms" : Str), ("_law_owns" : Str), ("_law_turn" : Str), ("_law_most" : Str), ("_law_k" : Str), ("_law_held" : Str), ("_law_peak" : Str), ("_law_way" : Str), ("_law_left" : Str), ("_law_many" : Str), ("_law_due" : Str), ("_law_room" : Str), ("_law_own" : Str)]

abbrev roomF : List Str := ["so_many", "in_use", "top"]
/-- a room -/
def rmO (C dx : Addr) (s u t : Int) : HO := .ins C dx [("so_many", .int s), ("in_use", .int u), ("top", .int t)]
def spRInit (C : Addr) : Sp := fun vs H Q _ => ∃ (x dx : Addr) (n : Int), vs = [.ref x, .int n] ∧ H x = some (.ins C dx []) ∧ Q .non (upd H x (rmO C dx n 0 0))
theorem pure_Room_init {K : PySem.W.Frag} {C : Addr} (k : ClsK K C roomF) (vs : List V) (H : Hp) (Q : VK) (E : XK) (h : spRInit C vs H Q E) : t_Room_init K { nx := fun _ H' => Q .non H', rt := Q } (start N_Room_init vs) H := by
  obtain ⟨x, dx, n, rfl, hx, q⟩ := h
  unfold t_Room_init
  walk_at "go"
  refine w_sfldI hx k (by decide +kernel) (by show 0 < 1000; decide) ?_
  walk_at "go"
  refine w_sfldI upd_same k (by decide +kernel) (by show 1 < 1000; decide) ?_
  walk_at "go"
  refine w_sfldI upd_same k (by decide +kernel) (by show 2 < 1000; decide) ?_
  rw [upd_upd, upd_upd]
  exact q
def spHold (C N : Addr) : Sp := fun vs H Q E => ∃ (x dx : Addr) (s u t n : Int), vs = [.ref x, .int n] ∧ H x = some (rmO C dx s u t) ∧
  if s < u + n then E (.ref N) none H else Q .non (upd H x (rmO C dx s (u + n) (if u + n > t then u + n else t)))
theorem pure_Room_hold {K : PySem.W.Frag} {C N : Addr} (k : ClsK K C roomF) (vs : List V) (H : Hp) (Q : VK) (E : XK) (h : spHold C N vs H Q E) : t_Room_hold K N E { nx := fun _ H' => Q .non H', rt := Q } (start N_Room_hold vs) H := by
  obtain ⟨x, dx, s, u, t, n, rfl, hx, q⟩ := h
  unfold t_Room_hold
  walk_at "go"
  refine w_fldI hx k (by decide +kernel) (by rfl) ?_
  walk_at "go"
  refine w_fldI hx k (by decide +kernel) (by rfl) ?_
  walk_at "go"
  refine w_ifd (fun c => ?_) (fun c => ?_)
  · rw [if_pos c] at q
    exact q
  · rw [if_neg c] at q
    walk_at "go"
    refine w_afldI hx k (by decide +kernel) (by rfl) ?_
    walk_at "go"
    refine ⟨_, _, hx, by show 3 < 1000; decide, ?_⟩
    walk_at "go"
    refine w_fldI upd_same k (by decide +kernel) (by rfl) ?_
    walk_at "go"
    refine w_fldI upd_same k (by decide +kernel) (by rfl) ?_
    walk_at "go"
    refine w_sfldI upd_same k (by decide +kernel) (by show 3 < 1000; decide) ?_
    rw [upd_upd]
    exact q
def spFree (C N : Addr) : Sp := fun vs H Q E => ∃ (x dx : Addr) (s u t n : Int), vs = [.ref x, .int n] ∧ H x = some (rmO C dx s u t) ∧
  if u < n then E (.ref N) none H else Q .non (upd H x (rmO C dx s (u - n) t))
theorem pure_Room_free {K : PySem.W.Frag} {C N : Addr} (k : ClsK K C roomF) (vs : List V) (H : Hp) (Q : VK) (E : XK) (h : spFree C N vs H Q E) : t_Room_free K N E { nx := fun _ H' => Q .non H', rt := Q } (start N_Room_free vs) H := by
  obtain ⟨x, dx, s, u, t, n, rfl, hx, q⟩ := h
  unfold t_Room_free
  walk_at "go"
  refine w_fldI hx k (by decide +kernel) (by rfl) ?_
  walk_at "go"
  refine w_ifd (fun c => ?_) (fun c => ?_)
  · rw [if_pos c] at q
    exact q
  · rw [if_neg c] at q
    walk_at "go"
    refine w_afldI hx k (by decide +kernel) (by rfl) ?_
    walk_at "go"
    exact ⟨_, _, hx, by show 3 < 1000; decide, q⟩
def spRGet (C : Addr) (f : Int → Int → Int → Int) : Sp := fun vs H Q _ => ∃ (x dx : Addr) (s u t : Int), vs = [.ref x] ∧ H x = some (rmO C dx s u t) ∧ Q (.int (f s u t)) H
theorem pure_Room_most {K : PySem.W.Frag} {C : Addr} (k : ClsK K C roomF) (vs : List V) (H : Hp) (Q : VK) (E : XK) (h : spRGet C (fun s _ _ => s) vs H Q E) : t_Room_most K { nx := fun _ H' => Q .non H', rt := Q } (start N_Room_most vs) H := by
  obtain ⟨x, dx, s, u, t, rfl, hx, q⟩ := h
  unfold t_Room_most
  walk_at "go"
  exact w_fldI hx k (by decide +kernel) (by rfl) q
theorem pure_Room_held {K : PySem.W.Frag} {C : Addr} (k : ClsK K C roomF) (vs : List V) (H : Hp) (Q : VK) (E : XK) (h : spRGet C (fun _ u _ => u) vs H Q E) : t_Room_held K { nx := fun _ H' => Q .non H', rt := Q } (start N_Room_held vs) H := by
  obtain ⟨x, dx, s, u, t, rfl, hx, q⟩ := h
  unfold t_Room_held
  walk_at "go"
  exact w_fldI hx k (by decide +kernel) (by rfl) q
theorem pure_Room_peak {K : PySem.W.Frag} {C : Addr} (k : ClsK K C roomF) (vs : List V) (H : Hp) (Q : VK) (E : XK) (h : spRGet C (fun _ _ t => t) vs H Q E) : t_Room_peak K { nx := fun _ H' => Q .non H', rt := Q } (start N_Room_peak vs) H := by
  obtain ⟨x, dx, s, u, t, rfl, hx, q⟩ := h
  unfold t_Room_peak
  walk_at "go"
  exact w_fldI hx k (by decide +kernel) (by rfl) q
/-- what isinstance says of a kept NoRoom -/
structure RoomX (K : PySem.W.Frag) (C SE N b1 b2 b3 b4 b5 b6 b7 b8 b9 b10 b11 : Addr) : Prop where
  k : ClsK K C roomF
  ek : ExcC K N
  ex : PySem.W.exmOne K (.ref N) (.ref SE) = some true
  i1 : PySem.W.kitOne K (.ref N) (.ref N) = some true
  i2 : PySem.W.kitOne K (.ref N) (.type "ValueError") = some true
  i3 : PySem.W.kitAny K (.ref N) [.ref b8, .ref b7, .ref b6, .ref b5, .ref b4, .ref b3, .ref b2, .ref b1] = some false
  i4 : PySem.W.kitAny K (.ref N) [.ref b11, .ref b10, .ref b9] = some false
def spTried (C : Addr) : Sp := fun vs H Q _ => ∃ (x dx : Addr) (s u t way n : Int), vs = [.ref x, .int way, .int n] ∧ H x = some (rmO C dx s u t) ∧
  if (if way = 0 then s - u else u) < n then (∀ H', Same H H' → Q (.str "refused") H') else
    Q (.str "told") (upd H x (if way = 0 then rmO C dx s (u + n) (if u + n > t then u + n else t) else rmO C dx s (u - n) t))
theorem pure_tried {K : PySem.W.Frag} {C SE N b1 b2 b3 b4 b5 b6 b7 b8 b9 b10 b11 : Addr} (k : RoomX K C SE N b1 b2 b3 b4 b5 b6 b7 b8 b9 b10 b11) (vs : List V) (H : Hp) (Q : VK) (E : XK) (h : spTried C vs H Q E) :
    t_tried K (spHold C N) (spFree C N) SE N b1 b2 b3 b4 b5 b6 b7 b8 b9 b10 b11 C { nx := fun _ H' => Q .non H', rt := Q } (start N_tried vs) H := by
  obtain ⟨x, dx, s, u, t, way, n, rfl, hx, q⟩ := h
  unfold t_tried
  walk_at "go"
  refine w_tryP fun P hP => ?_
  have told : ∀ H' : Hp, Q (.str "told") H' → P [some (.ref x), some (.int way), some (.int n), some .non, none] H' := fun H' q => by
    refine hP _ _ ?_
    walk_at "go"
    exact q
  have refd : (∀ H', Same H H' → Q (.str "refused") H') → ∀ a, H a = none → P [some (.ref x), some (.int way), some (.int n), some (.ref a), none] (upd H a (exv a N none)) := fun q a na => by
    refine hP _ _ ?_
    have hd : ∀ H', ExDict H' none := fun _ => .inl rfl
    walk_at "go"
    refine w_isX upd_same (hd _) k.ek (.own N) k.i1 ?_
    walk_at "go"
    refine w_isX upd_same (hd _) k.ek (.ty "ValueError") k.i2 ?_
    walk_at "go"
    refine ⟨by show 8 ≤ sizeLine; decide, fun t1 ht1 => ?_⟩
    have n1 : a ≠ t1 := fun z => by rw [← z, upd_same] at ht1; cases ht1
    refine w_isXT (by rw [upd_ne n1]; exact upd_same) (hd _) k.ek upd_same (.cons (.own _) (.cons (.own _) (.cons (.own _) (.cons (.own _) (.cons (.own _) (.cons (.own _) (.cons (.own _) (.cons (.own _) .nil)))))))) k.i3 ?_
    walk_at "go"
    refine ⟨by show 2 ≤ sizeLine; decide, fun t2 ht2 => ?_⟩
    walk_at "go"
    refine ⟨by show 3 ≤ sizeLine; decide, fun t3 ht3 => ?_⟩
    have s1 := same_new (o := .tup [.ref b8, .ref b7, .ref b6, .ref b5, .ref b4, .ref b3, .ref b2, .ref b1]) ht1
    have s2 := s1.trans (same_new (o := .lst [.str "refused", .str "other"]) ht2)
    have s3 := s2.trans (same_new (o := .tup [.ref b11, .ref b10, .ref b9]) ht3)
    refine w_isXT (s3 _ _ upd_same) (hd _) k.ek upd_same (.cons (.own _) (.cons (.own _) (.cons (.own _) .nil))) k.i4 ?_
    walk_at "go"
    refine w_ixL (SqL.of ((same_new ht3) _ _ upd_same)) (by rfl) ?_
    exact q _ ((same_new na).trans s3)
  walk_at "go"
  refine w_ifd (fun c => ?_) (fun c => ?_)
  · walk_at "go"
    refine w_methI hx (by rfl) ?_
    walk_at "go"
    rw [if_pos c] at q
    refine ⟨x, dx, s, u, t, n, rfl, hx, ?_⟩
    by_cases z : s < u + n
    · rw [if_pos z]
      rw [if_pos (by omega)] at q
      exact w_keep k.ex (refd q)
    · rw [if_neg z]
      rw [if_neg (by omega), if_pos c] at q
      exact told _ q
  · walk_at "go"
    refine w_methI hx (by rfl) ?_
    walk_at "go"
    rw [if_neg c] at q
    refine ⟨x, dx, s, u, t, n, rfl, hx, ?_⟩
    by_cases z : u < n
    · rw [if_pos z]
      rw [if_pos (by omega)] at q
      exact w_keep k.ex (refd q)
    · rw [if_neg z]
      rw [if_neg (by omega), if_neg c] at q
      exact told _ q
def spAsC (C : Addr) : Sp := fun vs H Q _ => ∃ (x o dx : Addr) (s u t : Int), vs = [.ref x, .ref o] ∧ H x = some (rmO C dx s u t) ∧ H o = some (.lst ([s, u, t].map V.int)) ∧ ∀ H', Same H H' → Q (.bl true) H'
theorem pure_as_counted {K : PySem.W.Frag} {C : Addr} {n : Nat} (hn : 2 ≤ n) (vs : List V) (H : Hp) (Q : VK) (E : XK) (h : spAsC C vs H Q E) :
    t_as_counted K (spSame K n) (spRGet C fun _ _ t => t) (spRGet C fun _ u _ => u) (spRGet C fun s _ _ => s) C { nx := fun _ H' => Q .non H', rt := Q } (start N_as_counted vs) H := by
  obtain ⟨x, o, dx, s, u, t, rfl, hx, ho, q⟩ := h
  obtain ⟨n, rfl⟩ : ∃ n', n = n' + 2 := ⟨n - 2, by omega⟩
  unfold t_as_counted
  walk_at "go"
  refine w_methI hx (by rfl) ?_
  walk_at "go"
  refine ⟨x, dx, s, u, t, rfl, hx, ?_⟩
  walk_at "go"
  refine w_methI hx (by rfl) ?_
  walk_at "go"
  refine ⟨x, dx, s, u, t, rfl, hx, ?_⟩
  walk_at "go"
  refine w_methI hx (by rfl) ?_
  walk_at "go"
  refine ⟨x, dx, s, u, t, rfl, hx, ?_⟩
  walk_at "go"
  refine ⟨by show 3 ≤ sizeLine; decide, fun p hp => ?_⟩
  walk_at "go"
  refine w_same (dp_ints (ns := [s, u, t]) upd_same) (dp_ints (ns := [s, u, t]) (same_new hp _ _ ho)) (okD_ints _ _ (by show 3 ≤ _; decide)) fun H1 s1 => ?_
  exact q _ ((same_new hp).trans s1)
/-- a room at x, its numbers also in the list at o -/
structure Rm where
  (x dx o : Addr) (s u t : Int)
def Rm.ro (C : Addr) (r : Rm) : Addr × HO := (r.x, rmO C r.dx r.s r.u r.t)
def Rw (C p q : Addr) (rs : List Rm) : List (Addr × HO) := (p, .lst (rs.map fun r => .ref r.x)) :: (q, .lst (rs.map fun r => .ref r.o)) :: rs.map (Rm.ro C)
theorem List.set_getElem?_self' {α : Type} {l : List α} {i : Nat} {x : α} (h : l[i]? = some x) : l.set i x = l := by
  obtain ⟨h1, rfl⟩ := List.getElem?_eq_some_iff.mp h
  exact List.set_getElem_self h1
theorem rooms_row {K : PySem.W.Frag} {C st p q : Addr} {m c : Nat} {G H : Hp} {rs : List Rm} {v0 v1 v4 v5 v6 v7 v8 v9 v10 v11 v12 : Option V} {D : Ends} (hc : c ≤ 3) (hn : rs.length = c) (hr : ∀ r ∈ rs, G r.o = some (.lst ([r.s, r.u, r.t].map V.int)))
    (w : LW m st (Rw C p q rs) G H) (kk : ∀ H9, LW m st (Rw C p q rs) G H9 → D.nx [v0, v1, some (.ref p), some (.ref q), v4, v5, v6, v7, v8, v9, v10, v11, v12, none, none] H9) :
    (tIfS (tNot (tTru K (tCB (rAll K) (tCons (tLc (RZ.iZipA K (tCons (tVar 2) (tCons (tVar 3) tNil))) (gTupU K 2 (gCons (gName 13) (gCons (gName 14) gNil))) tYes (tCall (spAsC C) [] E0 (tCons (tVar 13) (tCons (tVar 14) tNil))) [13, 14]) tNil))))
      (tRet (tC (.bl false))) tNext) D [v0, v1, some (.ref p), some (.ref q), v4, v5, v6, v7, v8, v9, v10, v11, v12, none, none] H := by
  walk_at "go"
  refine w_itMZ (n := c) (w.get (i := 0) rfl) (w.get (i := 1) rfl) (by rw [List.length_map, List.length_map, hn, Nat.min_self]) fun J hJ => ?_
  intro D2 hD2
  refine lc_it hJ (fun i H' => LW m st ((D2, .lst ((List.replicate i true).map V.bl)) :: Rw C p q rs) G H') (w.mk hD2) (fun i H' _ w => ⟨w.get (i := 1) rfl, w.get (i := 2) rfl⟩) (fun i u Hi H' hi w y => ?_) (fun H6 w => ?_)
  · obtain ⟨T, x, y, rfl, hT, rfl, ex, ey⟩ := y
    have w := w.same (same_new (o := .tup [x, y]) hT)
    have hi' : i < rs.length := by omega
    obtain ⟨r, er⟩ : ∃ r, rs[i]? = some r := ⟨_, List.getElem?_eq_getElem hi'⟩
    have ex : (rs.map fun r => V.ref r.x)[i]? = some x := ex
    have ey : (rs.map fun r => V.ref r.o)[i]? = some y := ey
    rw [List.getElem?_map, er] at ex ey
    cases ex
    cases ey
    refine w_gtT (SqT.of upd_same) rfl ?_
    walk_at "go"
    refine ⟨rfl, ?_⟩
    walk_at "go"
    refine ⟨r.x, r.o, r.dx, r.s, r.u, r.t, rfl, w.get (i := i + 3) (by show (rs.map (Rm.ro C))[i]? = _; rw [List.getElem?_map, er]; rfl), w.v _ _ (hr r (List.mem_of_getElem? er)), fun H' s' => ?_⟩
    have w := w.same s'
    refine ⟨_, w.hd, by rw [List.length_map, List.length_replicate]; exact sz_lt (by omega), ?_⟩
    have w := w.put (o' := .lst ((List.replicate i true).map V.bl ++ [V.bl true]))
    rw [List.replicate_succ', List.map_append]
    exact w
  · walk_at "go"
    refine w_all (SqL.of w.hd) ?_
    rw [all_rep]
    walk_at "go"
    exact kk _ w.drop
theorem pure_law52 {K : PySem.W.Frag} {C : Addr} (vs : List V) (H : Hp) (Q : VK) (E : XK) (h : spLaw K vs H Q E) : t_law K (spBegin K) spTake (spTried C) (spAsC C) (spRInit C) C { nx := fun _ H' => Q .non H', rt := Q } (start N_law vs) H := by
  obtain ⟨a, ns, rfl, hs, hl, k⟩ := h
  unfold t_law
  walk_at "go"
  refine w_begin hs hl fun st H1 w => ?_
  walk_at "go"
  refine ⟨Nat.zero_le _, fun p hp => ?_⟩
  have w := w.mk (o := .lst []) hp
  walk_at "go"
  refine ⟨Nat.zero_le _, fun q hq => ?_⟩
  have w := (w.mk (o := .lst []) hq).perm (R' := Rw C p q []) (List.Perm.swap _ _ _)
  walk_at "go"
  refine w_take (m := 10000) (w.le (by decide)) (by decide) (by decide) fun z1 H2 w h1 h2 => ?_
  walk_at "go"
  obtain ⟨c, hc⟩ : ∃ n : Nat, 1 + z1 = (n : Int) := ⟨(1 + z1).toNat, by omega⟩
  rw [hc]
  refine w_rg (n := c) (by omega) fun J hJ => ?_
  refine for_it hJ (fun i σ H' => ∃ (v4 v5 : Option V) (G : Hp) (rs : List Rm), σ = [some (.ref a), some (.ref st), some (.ref p), some (.ref q), v4, v5, none, none, none, none, none, none, none, none, none] ∧ rs.length = i ∧
      (∀ r ∈ rs, G r.o = some (.lst ([r.s, r.u, r.t].map V.int)) ∧ 0 ≤ r.u ∧ r.u ≤ r.s ∧ r.s ≤ 1000 ∧ r.u ≤ r.t) ∧ LW (9000 + 10 * (c - i)) st (Rw C p q rs) G H')
    ⟨none, none, _, [], rfl, rfl, by simp, w.le (by omega)⟩ (fun _ _ _ _ _ => trivial) (fun i x σ Hi H' hi y yy => ?_) (fun σ H3 y => ?_)
  · obtain ⟨v4, v5, G, rs, rfl, hn, hr, w⟩ := y
    obtain ⟨rfl, rfl⟩ := yy
    walk_at "go"
    refine w_take (m := 9000 + 10 * (c - (i + 1)) + 5) (w.le (by omega)) (by decide) (by decide) fun z2 H3 w h3 h4 => ?_
    walk_at "go"
    refine ⟨by show 5 ≤ sizeLine; decide, fun e he => ?_⟩
    have w := w.mk (o := .lst ([6, 7, 12, 6 + z2, 1000].map V.int)) he
    walk_at "go"
    refine w_take w (by decide) (by decide) fun z3 H4 w h5 h6 => ?_
    obtain ⟨s, hm, em⟩ := at_lit [6, 7, 12, 6 + z2, 1000] h5 h6
    refine w_ixL (SqL.of w.hd) em ?_
    have w := w.drop
    have hs : 6 ≤ s ∧ s ≤ 1000 := by simp at hm; omega
    walk_at "go"
    refine w_tyl (w.get (i := 0) rfl) ?_
    walk_at "go"
    intro x dx hx hdx hne
    have w := (w.mk (o := .own x) hdx).drop
    have hx' : (upd H4 dx (.own x)) x = none := by rw [upd_ne (Ne.symm hne)]; exact hx
    have w := w.mk (o := .ins C dx []) hx'
    refine ⟨x, dx, s, rfl, w.hd, rfl, ?_⟩
    have w := w.put (o' := rmO C dx s 0 0)
    walk_at "go"
    refine w_app (w.sd) (by rw [List.length_map]; exact sz_lt (by omega)) ?_
    have w := w.set (i := 1) (o' := .lst (rs.map (fun r => .ref r.x) ++ [.ref x])) rfl
    walk_at "go"
    refine w_tyl (w.get (i := 2) rfl) ?_
    walk_at "go"
    refine ⟨by show 3 ≤ sizeLine; decide, fun o ho => ?_⟩
    have w := (w.mk (o := .lst ([s, 0, 0].map V.int)) ho)
    have g1 : ∀ r ∈ rs, (upd G o (.lst ([s, 0, 0].map V.int))) r.o = some (.lst ([r.s, r.u, r.t].map V.int)) := fun r h => w.gsame _ _ _ (hr r h).1
    have w := w.share
    walk_at "go"
    refine w_app (w.get (i := 2) rfl) (by rw [List.length_map]; exact sz_lt (by omega)) ?_
    have w := w.set (i := 2) (o' := .lst (rs.map (fun r => .ref r.o) ++ [.ref o])) rfl
    refine ⟨_, _, _, rs ++ [⟨x, dx, o, s, 0, 0⟩], rfl, by simp [hn], fun r h => ?_, (w.perm ?_).le (by omega)⟩
    · rcases List.mem_append.mp h with h | h
      · exact ⟨g1 r h, (hr r h).2⟩
      · rw [List.mem_singleton.mp h]
        exact ⟨upd_same, Int.le_refl 0, by show (0 : Int) ≤ s; omega, hs.2, Int.le_refl 0⟩
    · unfold Rw
      rw [List.map_append, List.map_append, List.map_append]
      exact List.perm_append_comm (l₁ := (p, HO.lst (rs.map (fun r => V.ref r.x) ++ [V.ref x])) :: (q, HO.lst (rs.map (fun r => V.ref r.o) ++ [V.ref o])) :: rs.map (Rm.ro C)) (l₂ := [(x, rmO C dx s 0 0)])
  · obtain ⟨v4, v5, G, rs, rfl, hn, hr, w⟩ := y
    have hc3 : 1 ≤ c ∧ c ≤ 3 := by omega
    walk_at "go"
    refine w_take (m := 8000) (w.le (by omega)) (by decide) (by decide) fun z2 H4 w h3 h4 => ?_
    walk_at "go"
    obtain ⟨c2, hc2⟩ : ∃ n : Nat, 10 + z2 = (n : Int) := ⟨(10 + z2).toNat, by omega⟩
    rw [hc2]
    refine w_rg (n := c2) (by omega) fun J hJ => ?_
    refine for_it hJ (fun i σ H' => ∃ (v4 v5 v6 v7 v8 v9 v10 v11 v12 : Option V) (G : Hp) (rs : List Rm), σ = [some (.ref a), some (.ref st), some (.ref p), some (.ref q), v4, v5, v6, v7, v8, v9, v10, v11, v12, none, none] ∧ rs.length = c ∧
        (∀ r ∈ rs, G r.o = some (.lst ([r.s, r.u, r.t].map V.int)) ∧ 0 ≤ r.u ∧ r.u ≤ r.s ∧ r.s ≤ 1000 ∧ r.u ≤ r.t) ∧ LW (1000 + 10 * (c2 - i)) st (Rw C p q rs) G H')
      ⟨v4, v5, none, none, none, none, none, none, none, _, rs, rfl, by omega, hr, w.le (by omega)⟩ (fun _ _ _ _ _ => trivial) (fun i x σ Hi H' hi y yy => ?_) (fun σ H3 y => ?_)
    · obtain ⟨v4, v5, v6, v7, v8, v9, v10, v11, v12, G, rs, rfl, hn, hr, w⟩ := y
      obtain ⟨rfl, rfl⟩ := yy
      walk_at "go"
      refine w_lenL (SqL.of (w.get (i := 0) rfl)) ?_
      walk_at "go"
      rw [List.length_map]
      refine w_take (m := 1000 + 10 * (c2 - (i + 1)) + 5) (w.le (by omega)) (by omega) (by omega) fun z3 H4 w h3 h4 => ?_
      obtain ⟨j, rfl⟩ : ∃ n : Nat, z3 = (n : Int) := ⟨z3.toNat, by omega⟩
      have hj : j < rs.length := by omega
      obtain ⟨r, er⟩ : ∃ r, rs[j]? = some r := ⟨_, List.getElem?_eq_getElem hj⟩
      have hrj := hr r (List.mem_of_getElem? er)
      walk_at "go"
      refine w_ixL (v := .ref r.o) (SqL.of (w.get (i := 1) rfl)) (atI_nat (by rw [List.getElem?_map, er]; rfl)) ?_
      walk_at "go"
      refine w_gtL (xs := [.int r.s, .int r.u, .int r.t]) (SqL.of (w.v _ _ hrj.1)) rfl ?_
      walk_at "go"
      refine w_take w (by decide) (by decide) fun way H5 w h5 h6 => ?_
      walk_at "go"
      refine ⟨by show 2 ≤ sizeLine; decide, fun e he => ?_⟩
      have w := w.mk (o := .lst ([r.s - r.u, r.u].map V.int)) he
      walk_at "go"
      have e0 : atI ([r.s - r.u, r.u].map V.int) way = some (.int (if way = 0 then r.s - r.u else r.u)) := by
        have : way = 0 ∨ way = 1 := by omega
        rcases this with rfl | rfl <;> rfl
      refine w_ixL (SqL.of w.hd) e0 ?_
      have w := w.drop
      obtain ⟨lf, hlf⟩ : ∃ lf : Int, (if way = 0 then r.s - r.u else r.u) = lf := ⟨_, rfl⟩
      have hlf0 : 0 ≤ lf ∧ lf ≤ 1000 := by rw [← hlf]; split <;> omega
      rw [hlf]
      walk_at "go"
      refine w_take w (by decide) (by decide) fun y1 H6 w g1 g2 => ?_
      walk_at "go"
      refine w_take w (by omega) (by omega) fun y2 H7 w g3 g4 => ?_
      walk_at "go"
      refine ⟨by show 6 ≤ sizeLine; decide, fun e2 he2 => ?_⟩
      have w := w.mk (o := .lst ([0, 1, lf, lf + 1, y1, y2].map V.int)) he2
      walk_at "go"
      refine w_take w (by decide) (by decide) fun y3 H8 w g5 g6 => ?_
      obtain ⟨n, hm, em⟩ := at_lit [0, 1, lf, lf + 1, y1, y2] g5 g6
      refine w_ixL (SqL.of w.hd) em ?_
      have w := w.drop
      have hn0 : 0 ≤ n := by simp at hm; omega
      walk_at "go"
      refine ⟨by show 2 ≤ sizeLine; decide, fun e3 he3 => ?_⟩
      have w := w.mk (o := .lst [.str "told", .str "refused"]) he3
      walk_at "go"
      have e1 : atI [V.str "told", V.str "refused"] (if decide (lf < n) = true then 1 else 0) = some (.str (if lf < n then "refused" else "told")) := by
        by_cases z : lf < n
        · rw [if_pos (decide_eq_true z), if_pos z]; rfl
        · rw [if_neg (by simpa using z), if_neg z]; rfl
      refine w_ixL (SqL.of w.hd) e1 ?_
      have w := w.drop
      walk_at "go"
      refine w_ixL (v := .ref r.x) (SqL.of (w.get (i := 0) rfl)) (atI_nat (by rw [List.getElem?_map, er]; rfl)) ?_
      walk_at "go"
      refine ⟨r.x, r.dx, r.s, r.u, r.t, way, n, rfl, w.get (i := j + 2) (by show (rs.map (Rm.ro C))[j]? = _; rw [List.getElem?_map, er]; rfl), ?_⟩
      rw [hlf]
      have ex : (Rw C p q rs)[j + 2]? = some (r.x, rmO C r.dx r.s r.u r.t) := by show (rs.map (Rm.ro C))[j]? = _; rw [List.getElem?_map, er]; rfl
      by_cases z : lf < n
      · -- refused
        rw [if_pos z]
        intro H9 s9
        have w := w.same s9
        rw [if_pos z]
        walk_at "go"
        rw [show decide (("refused" : Str) = ("refused" : Str)) = true from decide_eq_true rfl]
        walk_at "go"
        refine w_ifO fun P hP => ?_
        rw [show decide (("refused" : Str) = ("told" : Str)) = false from by decide +kernel]
        walk_at "go"
        refine hP _ _ (rooms_row (m := 1000 + 10 * (c2 - (i + 1))) hc3.2 hn (fun r h => (hr r h).1) (w.le (by omega)) fun H9 w => ?_)
        exact ⟨_, _, _, _, _, _, _, _, _, G, rs, rfl, hn, hr, w⟩
      · rw [if_neg z, if_neg z]
        have w := w.set (o' := if way = 0 then rmO C r.dx r.s (r.u + n) (if r.u + n > r.t then r.u + n else r.t) else rmO C r.dx r.s (r.u - n) r.t) ex
        walk_at "go"
        rw [show decide (("told" : Str) = ("told" : Str)) = true from decide_eq_true rfl]
        walk_at "go"
        refine w_ifO fun P hP => ?_
        rw [show decide (("told" : Str) = ("told" : Str)) = true from decide_eq_true rfl]
        walk_at "go"
        refine ⟨by show 2 ≤ sizeLine; decide, fun e4 he4 => ?_⟩
        have w := w.mk (o := .lst ([n, -n].map V.int)) he4
        walk_at "go"
        have e5 : atI ([n, -n].map V.int) way = some (.int (if way = 0 then n else -n)) := by
          have : way = 0 ∨ way = 1 := by omega
          rcases this with rfl | rfl <;> rfl
        refine w_ixL (SqL.of w.hd) e5 ?_
        have w := w.drop
        walk_at "go"
        obtain ⟨u', hu'⟩ : ∃ u', r.u + (if way = 0 then n else -n) = u' := ⟨_, rfl⟩
        rw [hu']
        walk_at "go"
        obtain ⟨t', ht'⟩ : ∃ t', (if u' > r.t then u' else r.t) = t' := ⟨_, rfl⟩
        rw [ht']
        have hu0 : 0 ≤ u' ∧ u' ≤ r.s ∧ u' ≤ t' := by
          rcases (by omega : way = 0 ∨ way = 1) with rfl | rfl
          · simp at hu' hlf
            refine ⟨by omega, by omega, ?_⟩
            rw [← ht']; split <;> omega
          · simp at hu' hlf
            refine ⟨by omega, by omega, ?_⟩
            rw [← ht']; split <;> omega
        have hro : (if way = 0 then rmO C r.dx r.s (r.u + n) (if r.u + n > r.t then r.u + n else r.t) else rmO C r.dx r.s (r.u - n) r.t) = rmO C r.dx r.s u' t' := by
          rcases (by omega : way = 0 ∨ way = 1) with rfl | rfl
          · rw [if_pos rfl] at hu' ⊢
            rw [← ht', ← hu']
          · rw [if_neg (by decide)] at hu' ⊢
            rw [if_neg (by omega)] at ht'
            rw [← ht', ← hu', Int.sub_eq_add_neg]
        rw [hro] at w ⊢
        refine ⟨by show 3 ≤ sizeLine; decide, fun o' ho' => ?_⟩
        have w := w.mk (o := .lst ([r.s, u', t'].map V.int)) ho'
        have g1 : ∀ r2 ∈ rs, (upd G o' (.lst ([r.s, u', t'].map V.int))) r2.o = some (.lst ([r2.s, r2.u, r2.t].map V.int)) := fun r2 h => w.gsame _ _ _ (hr r2 h).1
        have w := w.share
        walk_at "go"
        refine w_setL (xs := rs.map fun r => .ref r.o) (k := j) (w.get (i := 1) rfl) (by rw [List.length_map]; exact ixN_nat hj) ?_
        have w := w.set (i := 1) (o' := .lst ((rs.map fun r => .ref r.o).set j (.ref o'))) rfl
        have hR : Rw C p q (rs.set j ⟨r.x, r.dx, o', r.s, u', t'⟩) = ((Rw C p q rs).set (j + 2) (r.x, rmO C r.dx r.s u' t')).set 1 (q, .lst ((rs.map fun r => .ref r.o).set j (.ref o'))) := by
          unfold Rw
          rw [List.map_set, List.map_set, List.map_set]
          show (p, HO.lst ((rs.map fun r => V.ref r.x).set j (.ref r.x))) :: _ = (p, HO.lst (rs.map fun r => V.ref r.x)) :: _
          rw [show (rs.map fun r => V.ref r.x).set j (.ref r.x) = rs.map fun r => V.ref r.x from List.set_getElem?_self' (by rw [List.getElem?_map, er]; rfl)]
          rfl
        rw [← hR] at w
        have hr' : ∀ r2 ∈ rs.set j ⟨r.x, r.dx, o', r.s, u', t'⟩, (upd G o' (.lst ([r.s, u', t'].map V.int))) r2.o = some (.lst ([r2.s, r2.u, r2.t].map V.int)) ∧ 0 ≤ r2.u ∧ r2.u ≤ r2.s ∧ r2.s ≤ 1000 ∧ r2.u ≤ r2.t := fun r2 h => by
          rcases List.mem_or_eq_of_mem_set h with h | h
          · exact ⟨g1 r2 h, (hr r2 h).2⟩
          · rw [h]; exact ⟨upd_same, hu0.1, hu0.2.1, hrj.2.2.2.1, hu0.2.2⟩
        refine hP _ _ (rooms_row (m := 1000 + 10 * (c2 - (i + 1))) hc3.2 (by rw [List.length_set]; exact hn) (fun r h => (hr' r h).1) (w.le (by omega)) fun H9 w => ?_)
        exact ⟨_, _, _, _, _, _, _, _, _, _, _, rfl, by rw [List.length_set]; exact hn, hr', w⟩
    · obtain ⟨v4, v5, v6, v7, v8, v9, v10, v11, v12, G, rs, rfl, hn, hr, w⟩ := y
      walk_at "go"
      exact k _
end Ps

namespace Ps
open PySem PySem.Spec PyProof.Rows L2
def topS (i : Nat) : Stmt := PySem.Challenge.pw_pillarstore_k52_rooms.main.body.getD i (.Pass ⟨0, 0, 0, 0⟩)
section
variable {P : Program} {w : World} {K : PySem.W.Frag} {mg : Str → Option Value} {base : Heap}
abbrev s_Room_init : Stmt := inClass (topS 15) 0
theorem sc_Room_init : FnScope N_Room_init [("self" : Str), ("most" : Str)] (defScope s_Room_init) := ⟨rfl, rfl, rfl, by decide +kernel, rfl, by decide +kernel, by decide +kernel⟩
theorem ok_Room_init {f : Addr} {fd : FuncData} (F : Fun K ("__init__" : Str) ("Room.__init__" : Str) s_Room_init f fd) {sp : Sp} (hl : ∀ vs H Q E, sp vs H Q E → vs.length = 2)
    (hp : ∀ vs H Q E, sp vs H Q E → t_Room_init K { nx := fun _ H' => Q .non H', rt := Q } (start N_Room_init vs) H) : FnOk P w K mg base CX0 1 f fd [("self" : Str), ("most" : Str)] sp := by
  refine F.ok (k := 0) sc_Room_init hl (fun cdv A outer s H vs Q E hr h => ⟨t_Room_init K, ?_, hp vs H Q E h⟩)
  exact (pss_cons (ps_fld (pv 0) (pv 1) rfl)
      (pss_cons (ps_fld (pv 0) pe_int rfl)
      (pss_one (ps_fld (pv 0) pe_int rfl))))
abbrev s_Room_hold : Stmt := inClass (topS 15) 1
theorem sc_Room_hold : FnScope N_Room_hold [("self" : Str), ("many" : Str)] (defScope s_Room_hold) := ⟨rfl, rfl, rfl, by decide +kernel, rfl, by decide +kernel, by decide +kernel⟩
theorem ok_Room_hold {f : Addr} {fd : FuncData} (F : Fun K ("hold" : Str) ("Room.hold" : Str) s_Room_hold f fd) {c_NoRoom : Addr} (x_NoRoom : PySem.W.excIn K c_NoRoom [.type "ValueError", .type "Exception", .type "BaseException", .type "object"] "ValueError.__new__" = true) (kc_NoRoom : PySem.W.keepIn K (.ref c_NoRoom) = true) (bs_NoRoom : PySem.W.subIn K (.ref c_NoRoom) (.type "BaseException") = some true) (ty_NoRoom : PySem.W.typeIn K (.ref c_NoRoom) = some (.type "type")) (z_max : mg ("max" : Str) = none) (m_NoRoom : mg ("NoRoom" : Str) = some (.ref c_NoRoom)) {sp : Sp} (hl : ∀ vs H Q E, sp vs H Q E → vs.length = 2)
    (hp : ∀ vs H Q E, sp vs H Q E → t_Room_hold K c_NoRoom E { nx := fun _ H' => Q .non H', rt := Q } (start N_Room_hold vs) H) : FnOk P w K mg base (L2.CX P w) 1 f fd [("self" : Str), ("many" : Str)] sp := by
  refine F.okX (k := 0) sc_Room_hold hl (fun cdv A outer s H vs Q E hr h => ⟨t_Room_hold K c_NoRoom E, ?_, hp vs H Q E h⟩)
  exact (pss_cons (ps_if (pt_cmpR op_gtU (pe_op op_addU (pe_fld (pv 0) rfl) (pv 1)) (pe_fld (pv 0) rfl) (nomark _))
      (pss_one (ps_raise rfl (takes_of rfl rfl rfl rfl) (pmk_own PySem.F.excBase_ValueError x_NoRoom m_NoRoom kc_NoRoom (raises_own bs_NoRoom ty_NoRoom) (by exact rfl))))
      pss_nil)
      (pss_cons (ps_fldaug (pv 0) (pv 1) in_add)
      (pss_one (ps_fld (pv 0) (pe_callB (call_max2U (by rfl)) (by rfl) z_max bt_max (pa_cons (pe_fld (pv 0) rfl) (pa_cons (pe_fld (pv 0) rfl) pa_nil))) rfl))))
abbrev s_Room_free : Stmt := inClass (topS 15) 2
theorem sc_Room_free : FnScope N_Room_free [("self" : Str), ("many" : Str)] (defScope s_Room_free) := ⟨rfl, rfl, rfl, by decide +kernel, rfl, by decide +kernel, by decide +kernel⟩
theorem ok_Room_free {f : Addr} {fd : FuncData} (F : Fun K ("free" : Str) ("Room.free" : Str) s_Room_free f fd) {c_NoRoom : Addr} (x_NoRoom : PySem.W.excIn K c_NoRoom [.type "ValueError", .type "Exception", .type "BaseException", .type "object"] "ValueError.__new__" = true) (kc_NoRoom : PySem.W.keepIn K (.ref c_NoRoom) = true) (bs_NoRoom : PySem.W.subIn K (.ref c_NoRoom) (.type "BaseException") = some true) (ty_NoRoom : PySem.W.typeIn K (.ref c_NoRoom) = some (.type "type")) (m_NoRoom : mg ("NoRoom" : Str) = some (.ref c_NoRoom)) {sp : Sp} (hl : ∀ vs H Q E, sp vs H Q E → vs.length = 2)
    (hp : ∀ vs H Q E, sp vs H Q E → t_Room_free K c_NoRoom E { nx := fun _ H' => Q .non H', rt := Q } (start N_Room_free vs) H) : FnOk P w K mg base (L2.CX P w) 1 f fd [("self" : Str), ("many" : Str)] sp := by
  refine F.okX (k := 0) sc_Room_free hl (fun cdv A outer s H vs Q E hr h => ⟨t_Room_free K c_NoRoom E, ?_, hp vs H Q E h⟩)
  exact (pss_cons (ps_if (pt_cmpR op_gtU (pv 1) (pe_fld (pv 0) rfl) (nomark _))
      (pss_one (ps_raise rfl (takes_of rfl rfl rfl rfl) (pmk_own PySem.F.excBase_ValueError x_NoRoom m_NoRoom kc_NoRoom (raises_own bs_NoRoom ty_NoRoom) (by exact rfl))))
      pss_nil)
      (pss_one (ps_fldaug (pv 0) (pv 1) in_sub)))
abbrev s_Room_most : Stmt := inClass (topS 15) 3
theorem sc_Room_most : FnScope N_Room_most [("self" : Str)] (defScope s_Room_most) := ⟨rfl, rfl, rfl, by decide +kernel, rfl, by decide +kernel, by decide +kernel⟩
theorem ok_Room_most {f : Addr} {fd : FuncData} (F : Fun K ("most" : Str) ("Room.most" : Str) s_Room_most f fd) {sp : Sp} (hl : ∀ vs H Q E, sp vs H Q E → vs.length = 1)
    (hp : ∀ vs H Q E, sp vs H Q E → t_Room_most K { nx := fun _ H' => Q .non H', rt := Q } (start N_Room_most vs) H) : FnOk P w K mg base CX0 1 f fd [("self" : Str)] sp := by
  refine F.ok (k := 0) sc_Room_most hl (fun cdv A outer s H vs Q E hr h => ⟨t_Room_most K, ?_, hp vs H Q E h⟩)
  exact (pss_one (ps_ret (pe_fld (pv 0) rfl)))
abbrev s_Room_held : Stmt := inClass (topS 15) 4
theorem sc_Room_held : FnScope N_Room_held [("self" : Str)] (defScope s_Room_held) := ⟨rfl, rfl, rfl, by decide +kernel, rfl, by decide +kernel, by decide +kernel⟩
theorem ok_Room_held {f : Addr} {fd : FuncData} (F : Fun K ("held" : Str) ("Room.held" : Str) s_Room_held f fd) {sp : Sp} (hl : ∀ vs H Q E, sp vs H Q E → vs.length = 1)
    (hp : ∀ vs H Q E, sp vs H Q E → t_Room_held K { nx := fun _ H' => Q .non H', rt := Q } (start N_Room_held vs) H) : FnOk P w K mg base CX0 1 f fd [("self" : Str)] sp := by
  refine F.ok (k := 0) sc_Room_held hl (fun cdv A outer s H vs Q E hr h => ⟨t_Room_held K, ?_, hp vs H Q E h⟩)
  exact (pss_one (ps_ret (pe_fld (pv 0) rfl)))
abbrev s_Room_peak : Stmt := inClass (topS 15) 5
theorem sc_Room_peak : FnScope N_Room_peak [("self" : Str)] (defScope s_Room_peak) := ⟨rfl, rfl, rfl, by decide +kernel, rfl, by decide +kernel, by decide +kernel⟩
theorem ok_Room_peak {f : Addr} {fd : FuncData} (F : Fun K ("peak" : Str) ("Room.peak" : Str) s_Room_peak f fd) {sp : Sp} (hl : ∀ vs H Q E, sp vs H Q E → vs.length = 1)
    (hp : ∀ vs H Q E, sp vs H Q E → t_Room_peak K { nx := fun _ H' => Q .non H', rt := Q } (start N_Room_peak vs) H) : FnOk P w K mg base CX0 1 f fd [("self" : Str)] sp := by
  refine F.ok (k := 0) sc_Room_peak hl (fun cdv A outer s H vs Q E hr h => ⟨t_Room_peak K, ?_, hp vs H Q E h⟩)
  exact (pss_one (ps_ret (pe_fld (pv 0) rfl)))
abbrev s_begin : Stmt := topS 17
theorem sc_begin : FnScope N_begin [("_law_script" : Str)] (defScope s_begin) := ⟨rfl, rfl, rfl, by decide +kernel, rfl, by decide +kernel, by decide +kernel⟩
theorem ok_begin {f : Addr} {fd : FuncData} (F : Fun K ("_law_begin" : Str) ("_law_begin" : Str) s_begin f fd) (z_list : mg ("list" : Str) = none) {sp : Sp} (hl : ∀ vs H Q E, sp vs H Q E → vs.length = 1)
    (hp : ∀ vs H Q E, sp vs H Q E → t_begin K { nx := fun _ H' => Q .non H', rt := Q } (start N_begin vs) H) : FnOk P w K mg base CX0 1 f fd [("_law_script" : Str)] sp := by
  refine F.ok (k := 0) sc_begin hl (fun cdv A outer s H vs Q E hr h => ⟨t_begin K, ?_, hp vs H Q E h⟩)
  exact (pss_cons (ps_set (i := 1) sc_begin.nd rfl (by first | exact Or.inl rfl | exact Or.inr rfl) (pe_callTy (call_listU (by rfl)) (by rfl) z_list bt_list (pa_cons (pe_slice sl_u (pv 0) po_none (po_some pe_int)) pa_nil)))
      (pss_cons (ps_if (pt_cmpR (op_eqU hr.units) (pv 1) (pe_lst pa_nil) (nomark _))
      (pss_one (ps_set (i := 1) sc_begin.nd rfl (by first | exact Or.inl rfl | exact Or.inr rfl) (pe_lst (pa_cons pe_int pa_nil))))
      pss_nil)
      (pss_one (ps_ret (pe_disp (pps_cons pe_str (pv 1) (pps_cons pe_str pe_int pps_nil)) (by rfl) (by rfl) (fun z => by cases z) (by decide))))))
abbrev s_take : Stmt := topS 18
theorem sc_take : FnScope N_take [("_law_state" : Str), ("_law_many" : Str)] (defScope s_take) := ⟨rfl, rfl, rfl, by decide +kernel, rfl, by decide +kernel, by decide +kernel⟩
theorem ok_take {f : Addr} {fd : FuncData} (F : Fun K ("_law_take" : Str) ("_law_take" : Str) s_take f fd) (z_len : mg ("len" : Str) = none) (z_divmod : mg ("divmod" : Str) = none) {sp : Sp} (hl : ∀ vs H Q E, sp vs H Q E → vs.length = 2)
    (hp : ∀ vs H Q E, sp vs H Q E → t_take K { nx := fun _ H' => Q .non H', rt := Q } (start N_take vs) H) : FnOk P w K mg base CX0 1 f fd [("_law_state" : Str), ("_law_many" : Str)] sp := by
  refine F.ok (k := 0) sc_take hl (fun cdv A outer s H vs Q E hr h => ⟨t_take K, ?_, hp vs H Q E h⟩)
  exact (pss_cons (ps_set (i := 2) sc_take.nd rfl (by first | exact Or.inl rfl | exact Or.inr rfl) (pe_op op_addU (pe_ix (ix_u (hu_of hr)) (pv 0) pe_str (fun _ _ => rfl)) pe_int))
      (pss_cons (ps_asg (pv 2) (pg_sub (pv 0) pe_str (set_u (hu_of hr))))
      (pss_cons (ps_set (i := 3) sc_take.nd rfl (by first | exact Or.inl rfl | exact Or.inr rfl) (pe_op op_modU (pv 2) (pe_callB call_lenU (by rfl) z_len bt_len (pa_cons (pe_ix (ix_u (hu_of hr)) (pv 0) pe_str (fun _ _ => rfl)) pa_nil))))
      (pss_cons (ps_set (i := 4) sc_take.nd rfl (by first | exact Or.inl rfl | exact Or.inr rfl) (pe_ix (ix_u (hu_of hr)) (pe_ix (ix_u (hu_of hr)) (pv 0) pe_str (fun _ _ => rfl)) (pv 3) (fun _ _ => rfl)))
      (pss_cons (ps_if (pt_cmpR op_geU (pv 4) (pe_op op_powU pe_int pe_int) (nomark _))
      (pss_cons (ps_asg (pe_callB call_divmodU (by rfl) z_divmod bt_divmod (pa_cons (pv 4) (pa_cons (pv 1) pa_nil))) (pg_tup rfl (pgs_cons (pg_sub (pe_ix (ix_u (hu_of hr)) (pv 0) pe_str (fun _ _ => rfl)) (pv 3) (set_u (hu_of hr))) (pgs_cons (pg_name (i := 5) sc_take.nd rfl (by first | exact Or.inl rfl | exact Or.inr rfl)) pgs_nil))))
      (pss_one (ps_ret (pv 5))))
      pss_nil)
      (pss_cons (ps_set (i := 6) sc_take.nd rfl (by first | exact Or.inl rfl | exact Or.inr rfl) (pe_op op_modU (pe_op op_mulU (pe_op op_addU (pe_op op_addU (pe_op op_modU (pv 4) pe_int) (pe_op op_mulU (pe_op op_mulU (pv 2) (pv 2)) pe_int)) pe_int) pe_int) pe_int))
      (pss_cons (ps_set (i := 6) sc_take.nd rfl (by first | exact Or.inl rfl | exact Or.inr rfl) (pe_op op_modU (pe_op op_mulU (pv 6) (pv 6)) pe_int))
      (pss_one (ps_ret (pe_op op_modU (pe_op op_divU (pe_op op_modU (pe_op op_mulU (pe_op op_addU (pv 6) (pe_op op_mulU (pv 2) pe_int)) pe_int) pe_int) pe_int) (pv 1)))))))))))
abbrev s_same : Stmt := topS 19
theorem sc_same : FnScope N_same [("_law_found" : Str), ("_law_due" : Str)] (defScope s_same) := ⟨rfl, rfl, rfl, by decide +kernel, rfl, by decide +kernel, by decide +kernel⟩
theorem ok_same {k : Nat} {f : Addr} {fd : FuncData} (F : Fun K ("_law_same" : Str) ("_law_same" : Str) s_same f fd) {f_same : Addr} {fd_same : FuncData} {s_same_ : Sp} (G_same : FnOk P w K mg base CX0 k f_same fd_same [("_law_found" : Str), ("_law_due" : Str)] s_same_) (b_same : Binds K fd_same [("_law_found" : Str), ("_law_due" : Str)] []) (m_same : mg ("_law_same" : Str) = some (.ref f_same)) (kp_same : PySem.W.keepIn K (.ref f_same) = true) (z_isinstance : mg ("isinstance" : Str) = none) (z_dict : mg ("dict" : Str) = none) (z_list : mg ("list" : Str) = none) (z_tuple : mg ("tuple" : Str) = none) (z_len : mg ("len" : Str) = none) (z_all : mg ("all" : Str) = none) (z_zip : mg ("zip" : Str) = none) (z_str : mg ("str" : Str) = none) (z_int : mg ("int" : Str) = none) (z_bool : mg ("bool" : Str) = none) {sp : Sp} (hl : ∀ vs H Q E, sp vs H Q E → vs.length = 2)
    (hp : ∀ vs H Q E, sp vs H Q E → t_same K s_same_ { nx := fun _ H' => Q .non H', rt := Q } (start N_same vs) H) : FnOk P w K mg base CX0 (k + 1) f fd [("_law_found" : Str), ("_law_due" : Str)] sp := by
  refine F.ok (k := k) sc_same hl (fun cdv A outer s H vs Q E hr h => ⟨t_same K s_same_, ?_, hp vs H Q E h⟩)
  exact (pss_cons (ps_if (pt_cmpR op_isNU (pv 1) pe_non (nomark _))
      (pss_one (ps_ret (pe_cmpR op_isNU (pv 0) pe_non (nomark _))))
      pss_nil)
      (pss_cons (ps_if (pt_truU (pe_callB call_isiU (by rfl) z_isinstance bt_isinstance (pa_cons (pv 1) (pa_cons (pe_bltn (by rfl) z_dict bt_dict rfl) pa_nil))) (by intro _; rfl))
      (pss_cons ps_never
      (pss_one ps_never))
      pss_nil)
      (pss_cons (ps_if (PW.pt (pw_or (pt_truU (pe_callB call_isiU (by rfl) z_isinstance bt_isinstance (pa_cons (pv 1) (pa_cons (pe_bltn (by rfl) z_list bt_list rfl) pa_nil))) (by intro _; rfl)) (pw_or1 (pt_truU (pe_callB call_isiU (by rfl) z_isinstance bt_isinstance (pa_cons (pv 1) (pa_cons (pe_bltn (by rfl) z_tuple bt_tuple rfl) pa_nil))) (by intro _; rfl)))))
      (pss_cons (ps_if (pt_cmpR (op_neU hr.units) (pe_callB call_isiU (by rfl) z_isinstance bt_isinstance (pa_cons (pv 0) (pa_cons (pe_bltn (by rfl) z_list bt_list rfl) pa_nil))) (pe_callB call_isiU (by rfl) z_isinstance bt_isinstance (pa_cons (pv 1) (pa_cons (pe_bltn (by rfl) z_list bt_list rfl) pa_nil))) (nomark _))
      (pss_one (ps_ret pe_bl))
      pss_nil)
      (pss_cons (ps_if (PW.pt (pw_or (pt_cmpR (op_neU hr.units) (pe_callB call_isiU (by rfl) z_isinstance bt_isinstance (pa_cons (pv 0) (pa_cons (pe_bltn (by rfl) z_tuple bt_tuple rfl) pa_nil))) (pe_callB call_isiU (by rfl) z_isinstance bt_isinstance (pa_cons (pv 1) (pa_cons (pe_bltn (by rfl) z_tuple bt_tuple rfl) pa_nil))) (nomark _)) (pw_or1 (pt_cmpR (op_neU hr.units) (pe_callB call_lenU (by rfl) z_len bt_len (pa_cons (pv 0) pa_nil)) (pe_callB call_lenU (by rfl) z_len bt_len (pa_cons (pv 1) pa_nil)) (nomark _)))))
      (pss_one (ps_ret pe_bl))
      pss_nil)
      (pss_one (ps_ret (pe_callB (cr_all (by rfl)) (by rfl) z_all bt_all (pa_cons (pe_lc (own := [(("_law_one" : Str), 3), (("_law_other" : Str), 4)]) (g := (gTup K 2 (gCons (gName 3) (gCons (gName 4) gNil)))) (tt := tYes) (te := (tCall s_same_ [] E0 (tCons (tVar 3) (tCons (tVar 4) tNil)))) (by rfl) sc_same.nd (RZ.pi_zipA (by rfl) z_zip (pa_cons (pv 0) (pa_cons (pv 1) pa_nil))) (blkOk_by (own := [(("_law_one" : Str), 3), (("_law_other" : Str), 4)]) (N := [("_law_found" : Str), ("_law_due" : Str), ("_law_name" : Str), ("_law_one" : Str), ("_law_other" : Str)]) (sc := defScope s_same) (by decide +kernel)) (fun _ _ _ _ _ => (pg_tup rfl (pgs_cons (pg_name (i := 3) sc_same.nd rfl (by first | exact Or.inl rfl | exact Or.inr rfl)) (pgs_cons (pg_name (i := 4) sc_same.nd rfl (by first | exact Or.inl rfl | exact Or.inr rfl)) pgs_nil)))) (fun _ _ _ _ _ => pts_nil) (fun _ _ _ _ _ => (pe_call G_same (hr.mono (by exact Nat.le_refl _)) (by rfl) m_same kp_same b_same .nil pass0 (pa_cons (pv 3) (pa_cons (pv 4) pa_nil))))) pa_nil))))))
      pss_nil)
      (pss_cons (ps_if (pt_truU (pe_callB call_isiU (by rfl) z_isinstance bt_isinstance (pa_cons (pv 1) (pa_cons (pe_bltn (by rfl) z_str bt_str rfl) pa_nil))) (by intro _; rfl))
      (pss_one (ps_ret (pe_and (pe_callB call_isiU (by rfl) z_isinstance bt_isinstance (pa_cons (pv 0) (pa_cons (pe_bltn (by rfl) z_str bt_str rfl) pa_nil))) (pe_one (pe_cmpR (op_eqU hr.units) (pv 0) (pv 1) (nomark _))))))
      pss_nil)
      (pss_one (ps_ret (pe_and (pe_callB call_isiU (by rfl) z_isinstance bt_isinstance (pa_cons (pv 0) (pa_cons (pe_bltn (by rfl) z_int bt_int rfl) pa_nil))) (pe_and (pe_not (pe_callB call_isiU (by rfl) z_isinstance bt_isinstance (pa_cons (pv 0) (pa_cons (pe_bltn (by rfl) z_bool bt_bool rfl) pa_nil)))) (pe_one (pe_cmpR (op_eqU hr.units) (pv 0) (pv 1) (nomark _)))))))))))
abbrev s_tried : Stmt := topS 20
theorem sc_tried : FnScope N_tried [("_law_room" : Str), ("_law_way" : Str), ("_law_many" : Str)] (defScope s_tried) := ⟨rfl, rfl, rfl, by decide +kernel, rfl, by decide +kernel, by decide +kernel⟩
theorem ok_tried {f : Addr} {fd : FuncData} (F : Fun K ("_law_tried" : Str) ("_law_tried" : Str) s_tried f fd) {f_Room_hold : Addr} {fd_Room_hold : FuncData} {s_Room_hold_ : Sp} (G_Room_hold : FnOk P w K mg base (L2.CX P w) 1 f_Room_hold fd_Room_hold [("self" : Str), ("many" : Str)] s_Room_hold_) (b_Room_hold : Binds K fd_Room_hold [("self" : Str), ("many" : Str)] []) {c_Room : Addr} (cl_Room : Cls K c_Room) (me_Room_hold : Meth K c_Room ("hold" : Str) f_Room_hold) {f_Room_free : Addr} {fd_Room_free : FuncData} {s_Room_free_ : Sp} (G_Room_free : FnOk P w K mg base (L2.CX P w) 1 f_Room_free fd_Room_free [("self" : Str), ("many" : Str)] s_Room_free_) (b_Room_free : Binds K fd_Room_free [("self" : Str), ("many" : Str)] []) (me_Room_free : Meth K c_Room ("free" : Str) f_Room_free) (z_isinstance : mg ("isinstance" : Str) = none) (z_ValueError : mg ("ValueError" : Str) = none) (z_int : mg ("int" : Str) = none) {c_StoreError : Addr} (m_StoreError : mg ("StoreError" : Str) = some (.ref c_StoreError)) {c_NoRoom : Addr} (m_NoRoom : mg ("NoRoom" : Str) = some (.ref c_NoRoom)) {c_NoPart : Addr} (m_NoPart : mg ("NoPart" : Str) = some (.ref c_NoPart)) {c_NoName : Addr} (m_NoName : mg ("NoName" : Str) = some (.ref c_NoName)) {c_NoMoment : Addr} (m_NoMoment : mg ("NoMoment" : Str) = some (.ref c_NoMoment)) {c_NoHeap : Addr} (m_NoHeap : mg ("NoHeap" : Str) = some (.ref c_NoHeap)) {c_NoFile : Addr} (m_NoFile : mg ("NoFile" : Str) = some (.ref c_NoFile)) {c_BadText : Addr} (m_BadText : mg ("BadText" : Str) = some (.ref c_BadText)) {c_BadRow : Addr} (m_BadRow : mg ("BadRow" : Str) = some (.ref c_BadRow)) {c_BadBytes : Addr} (m_BadBytes : mg ("BadBytes" : Str) = some (.ref c_BadBytes)) {c_Taken : Addr} (m_Taken : mg ("Taken" : Str) = some (.ref c_Taken)) {c_NotSound : Addr} (m_NotSound : mg ("NotSound" : Str) = some (.ref c_NotSound)) {c_NoRow : Addr} (m_NoRow : mg ("NoRow" : Str) = some (.ref c_NoRow)) {sp : Sp} (hl : ∀ vs H Q E, sp vs H Q E → vs.length = 3)
    (hp : ∀ vs H Q E, sp vs H Q E → t_tried K s_Room_hold_ s_Room_free_ c_StoreError c_NoRoom c_NoPart c_NoName c_NoMoment c_NoHeap c_NoFile c_BadText c_BadRow c_BadBytes c_Taken c_NotSound c_NoRow c_Room { nx := fun _ H' => Q .non H', rt := Q } (start N_tried vs) H) : FnOk P w K mg base CX0 2 f fd [("_law_room" : Str), ("_law_way" : Str), ("_law_many" : Str)] sp := by
  refine F.ok (k := 1) sc_tried hl (fun cdv A outer s H vs Q E hr h => ⟨t_tried K s_Room_hold_ s_Room_free_ c_StoreError c_NoRoom c_NoPart c_NoName c_NoMoment c_NoHeap c_NoFile c_BadText c_BadRow c_BadBytes c_Taken c_NotSound c_NoRow c_Room, ?_, hp vs H Q E h⟩)
  exact (pss_cons (ps_set (i := 3) sc_tried.nd rfl (by first | exact Or.inl rfl | exact Or.inr rfl) pe_non)
      (pss_cons (ps_try_keep (i := 4) (j := 3) rfl rfl sc_tried.nd rfl rfl rfl rfl rfl ⟨by exact rfl, by decide, .inl m_StoreError⟩ takes_no (fun W pn xe tkW poW =>
      (pss_one (ps_if (pt_cmpR (op_eqU hr.units) (pv 1) pe_int (nomark _))
      (pss_one (ps_expr (pe_methQ (pv 0) cl_Room me_Room_hold G_Room_hold (hr.mono (by decide)) b_Room_hold (fun σ => passAt tkW σ) (pa_cons (pv 2) pa_nil))))
      (pss_one (ps_expr (pe_methQ (pv 0) cl_Room me_Room_free G_Room_free (hr.mono (by decide)) b_Room_free (fun σ => passAt tkW σ) (pa_cons (pv 2) pa_nil))))))))
      (pss_cons (ps_if (pt_cmpR op_isNU (pv 3) pe_non (nomark _))
      (pss_one (ps_ret pe_str))
      pss_nil)
      (pss_cons (ps_if (PW.pt (pw_or (pt_not (pt_truU (pe_callB call_isiE (by rfl) z_isinstance bt_isinstance (pa_cons (pv 3) (pa_cons (pe_glob rfl m_NoRoom rfl) pa_nil))) (by intro _; rfl))) (pw_or1 (pt_not (pt_truU (pe_callB call_isiE (by rfl) z_isinstance bt_isinstance (pa_cons (pv 3) (pa_cons (pe_bltn (by rfl) z_ValueError bt_ValueError rfl) pa_nil))) (by intro _; rfl))))))
      (pss_one (ps_ret pe_str))
      pss_nil)
      (pss_cons (ps_if (pt_truU (pe_callB call_isiE (by rfl) z_isinstance bt_isinstance (pa_cons (pv 3) (pa_cons (pe_tup (pa_cons (pe_glob rfl m_BadBytes rfl) (pa_cons (pe_glob rfl m_BadRow rfl) (pa_cons (pe_glob rfl m_BadText rfl) (pa_cons (pe_glob rfl m_NoFile rfl) (pa_cons (pe_glob rfl m_NoHeap rfl) (pa_cons (pe_glob rfl m_NoMoment rfl) (pa_cons (pe_glob rfl m_NoName rfl) (pa_cons (pe_glob rfl m_NoPart rfl) pa_nil))))))))) pa_nil))) (by intro _; rfl))
      (pss_one (ps_ret pe_str))
      pss_nil)
      (pss_one (ps_ret (pe_ix (ix_u (hu_of hr)) (pe_lst (pa_cons pe_str (pa_cons pe_str pa_nil))) (pe_callTy call_intU (by rfl) z_int bt_int (pa_cons (pe_callB call_isiE (by rfl) z_isinstance bt_isinstance (pa_cons (pv 3) (pa_cons (pe_tup (pa_cons (pe_glob rfl m_NoRow rfl) (pa_cons (pe_glob rfl m_NotSound rfl) (pa_cons (pe_glob rfl m_Taken rfl) pa_nil)))) pa_nil))) pa_nil)) (fun _ _ => rfl)))))))))
abbrev s_as_counted : Stmt := topS 21
theorem sc_as_counted : FnScope N_as_counted [("_law_room" : Str), ("_law_own" : Str)] (defScope s_as_counted) := ⟨rfl, rfl, rfl, by decide +kernel, rfl, by decide +kernel, by decide +kernel⟩
theorem ok_as_counted {f : Addr} {fd : FuncData} (F : Fun K ("_law_as_counted" : Str) ("_law_as_counted" : Str) s_as_counted f fd) {f_same : Addr} {fd_same : FuncData} {s_same_ : Sp} (G_same : FnOk P w K mg base CX0 6 f_same fd_same [("_law_found" : Str), ("_law_due" : Str)] s_same_) (b_same : Binds K fd_same [("_law_found" : Str), ("_law_due" : Str)] []) (m_same : mg ("_law_same" : Str) = some (.ref f_same)) (kp_same : PySem.W.keepIn K (.ref f_same) = true) {f_Room_peak : Addr} {fd_Room_peak : FuncData} {s_Room_peak_ : Sp} (G_Room_peak : FnOk P w K mg base CX0 1 f_Room_peak fd_Room_peak [("self" : Str)] s_Room_peak_) (b_Room_peak : Binds K fd_Room_peak [("self" : Str)] []) {c_Room : Addr} (cl_Room : Cls K c_Room) (me_Room_peak : Meth K c_Room ("peak" : Str) f_Room_peak) {f_Room_held : Addr} {fd_Room_held : FuncData} {s_Room_held_ : Sp} (G_Room_held : FnOk P w K mg base CX0 1 f_Room_held fd_Room_held [("self" : Str)] s_Room_held_) (b_Room_held : Binds K fd_Room_held [("self" : Str)] []) (me_Room_held : Meth K c_Room ("held" : Str) f_Room_held) {f_Room_most : Addr} {fd_Room_most : FuncData} {s_Room_most_ : Sp} (G_Room_most : FnOk P w K mg base CX0 1 f_Room_most fd_Room_most [("self" : Str)] s_Room_most_) (b_Room_most : Binds K fd_Room_most [("self" : Str)] []) (me_Room_most : Meth K c_Room ("most" : Str) f_Room_most) {sp : Sp} (hl : ∀ vs H Q E, sp vs H Q E → vs.length = 2)
    (hp : ∀ vs H Q E, sp vs H Q E → t_as_counted K s_same_ s_Room_peak_ s_Room_held_ s_Room_most_ c_Room { nx := fun _ H' => Q .non H', rt := Q } (start N_as_counted vs) H) : FnOk P w K mg base CX0 7 f fd [("_law_room" : Str), ("_law_own" : Str)] sp := by
  refine F.ok (k := 6) sc_as_counted hl (fun cdv A outer s H vs Q E hr h => ⟨t_as_counted K s_same_ s_Room_peak_ s_Room_held_ s_Room_most_ c_Room, ?_, hp vs H Q E h⟩)
  exact (pss_one (ps_ret (pe_call G_same (hr.mono (by decide)) (by rfl) m_same kp_same b_same .nil pass0 (pa_cons (pe_lst (pa_cons (pe_methQ0 (pv 0) cl_Room me_Room_most G_Room_most (hr.mono (by decide)) b_Room_most passQ0) (pa_cons (pe_methQ0 (pv 0) cl_Room me_Room_held G_Room_held (hr.mono (by decide)) b_Room_held passQ0) (pa_cons (pe_methQ0 (pv 0) cl_Room me_Room_peak G_Room_peak (hr.mono (by decide)) b_Room_peak passQ0) pa_nil)))) (pa_cons (pv 1) pa_nil)))))
abbrev s_law : Stmt := topS 22
theorem sc_law : FnScope N_law [("_law_script" : Str)] (defScope s_law) := ⟨rfl, rfl, rfl, by decide +kernel, rfl, by decide +kernel, by decide +kernel⟩
theorem ok_law {f : Addr} {fd : FuncData} (F : Fun K ("law" : Str) ("law" : Str) s_law f fd) {f_begin : Addr} {fd_begin : FuncData} {s_begin_ : Sp} (G_begin : FnOk P w K mg base CX0 1 f_begin fd_begin [("_law_script" : Str)] s_begin_) (b_begin : Binds K fd_begin [("_law_script" : Str)] []) (m_begin : mg ("_law_begin" : Str) = some (.ref f_begin)) (kp_begin : PySem.W.keepIn K (.ref f_begin) = true) {f_take : Addr} {fd_take : FuncData} {s_take_ : Sp} (G_take : FnOk P w K mg base CX0 1 f_take fd_take [("_law_state" : Str), ("_law_many" : Str)] s_take_) (b_take : Binds K fd_take [("_law_state" : Str), ("_law_many" : Str)] []) (m_take : mg ("_law_take" : Str) = some (.ref f_take)) (kp_take : PySem.W.keepIn K (.ref f_take) = true) {f_tried : Addr} {fd_tried : FuncData} {s_tried_ : Sp} (G_tried : FnOk P w K mg base CX0 2 f_tried fd_tried [("_law_room" : Str), ("_law_way" : Str), ("_law_many" : Str)] s_tried_) (b_tried : Binds K fd_tried [("_law_room" : Str), ("_law_way" : Str), ("_law_many" : Str)] []) (m_tried : mg ("_law_tried" : Str) = some (.ref f_tried)) (kp_tried : PySem.W.keepIn K (.ref f_tried) = true) {f_as_counted : Addr} {fd_as_counted : FuncData} {s_as_counted_ : Sp} (G_as_counted : FnOk P w K mg base CX0 7 f_as_counted fd_as_counted [("_law_room" : Str), ("_law_own" : Str)] s_as_counted_) (b_as_counted : Binds K fd_as_counted [("_law_room" : Str), ("_law_own" : Str)] []) (m_as_counted : mg ("_law_as_counted" : Str) = some (.ref f_as_counted)) (kp_as_counted : PySem.W.keepIn K (.ref f_as_counted) = true) {f_Room_init : Addr} {fd_Room_init : FuncData} {s_Room_init_ : Sp} (G_Room_init : FnOk P w K mg base CX0 1 f_Room_init fd_Room_init [("self" : Str), ("most" : Str)] s_Room_init_) (b_Room_init : Binds K fd_Room_init [("self" : Str), ("most" : Str)] []) {c_Room : Addr} (mk_Room : Mk K c_Room f_Room_init) (z_range : mg ("range" : Str) = none) (z_len : mg ("len" : Str) = none) (z_int : mg ("int" : Str) = none) (z_max : mg ("max" : Str) = none) (z_all : mg ("all" : Str) = none) (z_zip : mg ("zip" : Str) = none) (m_Room : mg ("Room" : Str) = some (.ref c_Room)) {sp : Sp} (hl : ∀ vs H Q E, sp vs H Q E → vs.length = 1)
    (hp : ∀ vs H Q E, sp vs H Q E → t_law K s_begin_ s_take_ s_tried_ s_as_counted_ s_Room_init_ c_Room { nx := fun _ H' => Q .non H', rt := Q } (start N_law vs) H) : FnOk P w K mg base CX0 8 f fd [("_law_script" : Str)] sp := by
  refine F.ok (k := 7) sc_law hl (fun cdv A outer s H vs Q E hr h => ⟨t_law K s_begin_ s_take_ s_tried_ s_as_counted_ s_Room_init_ c_Room, ?_, hp vs H Q E h⟩)
  exact (pss_cons (ps_set (i := 1) sc_law.nd rfl (by first | exact Or.inl rfl | exact Or.inr rfl) (pe_call G_begin (hr.mono (by decide)) (by rfl) m_begin kp_begin b_begin .nil pass0 (pa_cons (pv 0) pa_nil)))
      (pss_cons (ps_set (i := 2) sc_law.nd rfl (by first | exact Or.inl rfl | exact Or.inr rfl) (pe_lst pa_nil))
      (pss_cons (ps_set (i := 3) sc_law.nd rfl (by first | exact Or.inl rfl | exact Or.inr rfl) (pe_lst pa_nil))
      (pss_cons (ps_for PassesOwn.never rfl (pi_range1 rfl z_range (pa_cons (pe_op op_addU pe_int (pe_call G_take (hr.mono (by decide)) (by rfl) m_take kp_take b_take .nil pass0 (pa_cons (pv 1) (pa_cons pe_int pa_nil)))) pa_nil)) (pg_name (i := 4) sc_law.nd rfl (by first | exact Or.inl rfl | exact Or.inr rfl))
      (pss_cons (ps_set (i := 5) sc_law.nd rfl (by first | exact Or.inl rfl | exact Or.inr rfl) (pe_ix (ix_u (hu_of hr)) (pe_lst (pa_cons pe_int (pa_cons pe_int (pa_cons pe_int (pa_cons (pe_op op_addU pe_int (pe_call G_take (hr.mono (by decide)) (by rfl) m_take kp_take b_take .nil pass0 (pa_cons (pv 1) (pa_cons pe_int pa_nil)))) (pa_cons pe_int pa_nil)))))) (pe_call G_take (hr.mono (by decide)) (by rfl) m_take kp_take b_take .nil pass0 (pa_cons (pv 1) (pa_cons pe_int pa_nil))) (fun _ _ => rfl)))
      (pss_cons (ps_expr (pe_bm PySem.F.plainAttrs_list PySem.F.slot_list_append PySem.F.type_list_append mt_append (pv 2) (pa_cons (pe_makeQ mk_Room G_Room_init (hr.mono (by decide)) (by rfl) m_Room b_Room_init passQ0 (pa_cons (pv 5) pa_nil)) pa_nil)))
      (pss_one (ps_expr (pe_bm PySem.F.plainAttrs_list PySem.F.slot_list_append PySem.F.type_list_append mt_append (pv 3) (pa_cons (pe_lst (pa_cons (pv 5) (pa_cons pe_int (pa_cons pe_int pa_nil)))) pa_nil)))))))
      (pss_cons (ps_for PassesOwn.never rfl (pi_range1 rfl z_range (pa_cons (pe_op op_addU pe_int (pe_call G_take (hr.mono (by decide)) (by rfl) m_take kp_take b_take .nil pass0 (pa_cons (pv 1) (pa_cons pe_int pa_nil)))) pa_nil)) (pg_name (i := 4) sc_law.nd rfl (by first | exact Or.inl rfl | exact Or.inr rfl))
      (pss_cons (ps_set (i := 6) sc_law.nd rfl (by first | exact Or.inl rfl | exact Or.inr rfl) (pe_call G_take (hr.mono (by decide)) (by rfl) m_take kp_take b_take .nil pass0 (pa_cons (pv 1) (pa_cons (pe_callB call_lenU (by rfl) z_len bt_len (pa_cons (pv 2) pa_nil)) pa_nil))))
      (pss_cons (ps_asg (pe_ix (ix_u (hu_of hr)) (pv 3) (pv 6) (fun _ _ => rfl)) (pg_tupU (by rfl) (pgs_cons (pg_name (i := 5) sc_law.nd rfl (by first | exact Or.inl rfl | exact Or.inr rfl)) (pgs_cons (pg_name (i := 7) sc_law.nd rfl (by first | exact Or.inl rfl | exact Or.inr rfl)) (pgs_cons (pg_name (i := 8) sc_law.nd rfl (by first | exact Or.inl rfl | exact Or.inr rfl)) pgs_nil)))))
      (pss_cons (ps_set (i := 9) sc_law.nd rfl (by first | exact Or.inl rfl | exact Or.inr rfl) (pe_call G_take (hr.mono (by decide)) (by rfl) m_take kp_take b_take .nil pass0 (pa_cons (pv 1) (pa_cons pe_int pa_nil))))
      (pss_cons (ps_set (i := 10) sc_law.nd rfl (by first | exact Or.inl rfl | exact Or.inr rfl) (pe_ix (ix_u (hu_of hr)) (pe_lst (pa_cons (pe_op op_subU (pv 5) (pv 7)) (pa_cons (pv 7) pa_nil))) (pv 9) (fun _ _ => rfl)))
      (pss_cons (ps_set (i := 11) sc_law.nd rfl (by first | exact Or.inl rfl | exact Or.inr rfl) (pe_ix (ix_u (hu_of hr)) (pe_lst (pa_cons pe_int (pa_cons pe_int (pa_cons (pv 10) (pa_cons (pe_op op_addU (pv 10) pe_int) (pa_cons (pe_call G_take (hr.mono (by decide)) (by rfl) m_take kp_take b_take .nil pass0 (pa_cons (pv 1) (pa_cons pe_int pa_nil))) (pa_cons (pe_call G_take (hr.mono (by decide)) (by rfl) m_take kp_take b_take .nil pass0 (pa_cons (pv 1) (pa_cons (pe_op op_addU (pv 10) pe_int) pa_nil))) pa_nil))))))) (pe_call G_take (hr.mono (by decide)) (by rfl) m_take kp_take b_take .nil pass0 (pa_cons (pv 1) (pa_cons pe_int pa_nil))) (fun _ _ => rfl)))
      (pss_cons (ps_set (i := 12) sc_law.nd rfl (by first | exact Or.inl rfl | exact Or.inr rfl) (pe_ix (ix_u (hu_of hr)) (pe_lst (pa_cons pe_str (pa_cons pe_str pa_nil))) (pe_callTy call_intU (by rfl) z_int bt_int (pa_cons (pe_cmpR op_gtU (pv 11) (pv 10) (nomark _)) pa_nil)) (fun _ _ => rfl)))
      (pss_cons (ps_if (pt_cmpR (op_neU hr.units) (pe_call G_tried (hr.mono (by decide)) (by rfl) m_tried kp_tried b_tried .nil pass0 (pa_cons (pe_ix (ix_u (hu_of hr)) (pv 2) (pv 6) (fun _ _ => rfl)) (pa_cons (pv 9) (pa_cons (pv 11) pa_nil)))) (pv 12) (nomark _))
      (pss_one (ps_ret pe_bl))
      pss_nil)
      (pss_cons (ps_if (pt_cmpR (op_eqU hr.units) (pv 12) pe_str (nomark _))
      (pss_cons (ps_set (i := 7) sc_law.nd rfl (by first | exact Or.inl rfl | exact Or.inr rfl) (pe_op op_addU (pv 7) (pe_ix (ix_u (hu_of hr)) (pe_lst (pa_cons (pv 11) (pa_cons (pe_un un_negU (pv 11)) pa_nil))) (pv 9) (fun _ _ => rfl))))
      (pss_one (ps_asg (pe_lst (pa_cons (pv 5) (pa_cons (pv 7) (pa_cons (pe_callB (call_max2U (by rfl)) (by rfl) z_max bt_max (pa_cons (pv 8) (pa_cons (pv 7) pa_nil))) pa_nil)))) (pg_sub (pv 3) (pv 6) (set_u (hu_of hr))))))
      pss_nil)
      (pss_one (ps_if (pt_not (pt_truU (pe_callB (cr_all (by rfl)) (by rfl) z_all bt_all (pa_cons (pe_lc (own := [(("_law_room" : Str), 13), (("_law_own" : Str), 14)]) (g := (gTupU K 2 (gCons (gName 13) (gCons (gName 14) gNil)))) (tt := tYes) (te := (tCall s_as_counted_ [] E0 (tCons (tVar 13) (tCons (tVar 14) tNil)))) (by rfl) sc_law.nd (RZ.pi_zipA (by rfl) z_zip (pa_cons (pv 2) (pa_cons (pv 3) pa_nil))) (blkOk_by (own := [(("_law_room" : Str), 13), (("_law_own" : Str), 14)]) (N := [("_law_script" : Str), ("_law_state" : Str), ("_law_rooms" : Str), ("_law_owns" : Str), ("_law_turn" : Str), ("_law_most" : Str), ("_law_k" : Str), ("_law_held" : Str), ("_law_peak" : Str), ("_law_way" : Str), ("_law_left" : Str), ("_law_many" : Str), ("_law_due" : Str), ("_law_room" : Str), ("_law_own" : Str)]) (sc := defScope s_law) (by decide +kernel)) (fun _ _ _ _ _ => (pg_tupU (by rfl) (pgs_cons (pg_name (i := 13) sc_law.nd rfl (by first | exact Or.inl rfl | exact Or.inr rfl)) (pgs_cons (pg_name (i := 14) sc_law.nd rfl (by first | exact Or.inl rfl | exact Or.inr rfl)) pgs_nil)))) (fun _ _ _ _ _ => pts_nil) (fun _ _ _ _ _ => (pe_call G_as_counted (hr.mono (by decide)) (by rfl) m_as_counted kp_as_counted b_as_counted .nil pass0 (pa_cons (pv 13) (pa_cons (pv 14) pa_nil))))) pa_nil)) (by intro _; rfl)))
      (pss_one (ps_ret pe_bl))
      pss_nil)))))))))))
      (pss_one (ps_ret pe_bl)))))))
end
theorem all_mk {l : PySem.W.OpenLaw} {w : World} {K : PySem.W.Frag} {h : Heap} {mg : Str → Option Value} {fa : Addr} (X : K.In h) (G : h.Ns mainGlobals mg) (hfa : mg "law" = some (.ref fa))
    {c_NoRoom : Addr} {c_StoreError : Addr} {c_NoPart : Addr} {c_NoName : Addr} {c_NoMoment : Addr} {c_NoHeap : Addr} {c_NoFile : Addr} {c_BadText : Addr} {c_BadRow : Addr} {c_BadBytes : Addr} {c_Taken : Addr} {c_NotSound : Addr} {c_NoRow : Addr} {c_Room : Addr} {f_Room_init : Addr} {od_Room_init an_Room_init : Option Addr} {sl_Room_init : Array (Option Value)} {oc_Room_init kV_Room_init dc_Room_init pm_Room_init cd_Room_init ct_Room_init : Value} {f_Room_hold : Addr} {od_Room_hold an_Room_hold : Option Addr} {sl_Room_hold : Array (Option Value)} {oc_Room_hold kV_Room_hold dc_Room_hold pm_Room_hold cd_Room_hold ct_Room_hold : Value} {f_Room_free : Addr} {od_Room_free an_Room_free : Option Addr} {sl_Room_free : Array (Option Value)} {oc_Room_free kV_Room_free dc_Room_free pm_Room_free cd_Room_free ct_Room_free : Value} {f_Room_most : Addr} {od_Room_most an_Room_most : Option Addr} {sl_Room_most : Array (Option Value)} {oc_Room_most kV_Room_most dc_Room_most pm_Room_most cd_Room_most ct_Room_most : Value} {f_Room_held : Addr} {od_Room_held an_Room_held : Option Addr} {sl_Room_held : Array (Option Value)} {oc_Room_held kV_Room_held dc_Room_held pm_Room_held cd_Room_held ct_Room_held : Value} {f_Room_peak : Addr} {od_Room_peak an_Room_peak : Option Addr} {sl_Room_peak : Array (Option Value)} {oc_Room_peak kV_Room_peak dc_Room_peak pm_Room_peak cd_Room_peak ct_Room_peak : Value} {f_begin : Addr} {od_begin an_begin : Option Addr} {sl_begin : Array (Option Value)} {oc_begin kV_begin dc_begin pm_begin cd_begin ct_begin : Value} {f_take : Addr} {od_take an_take : Option Addr} {sl_take : Array (Option Value)} {oc_take kV_take dc_take pm_take cd_take ct_take : Value} {f_same : Addr} {od_same an_same : Option Addr} {sl_same : Array (Option Value)} {oc_same kV_same dc_same pm_same cd_same ct_same : Value} {f_tried : Addr} {od_tried an_tried : Option Addr} {sl_tried : Array (Option Value)} {oc_tried kV_tried dc_tried pm_tried cd_tried ct_tried : Value} {f_as_counted : Addr} {od_as_counted an_as_counted : Option Addr} {sl_as_counted : Array (Option Value)} {oc_as_counted kV_as_counted dc_as_counted pm_as_counted cd_as_counted ct_as_counted : Value} {f_law : Addr} {od_law an_law : Option Addr} {sl_law : Array (Option Value)} {oc_law kV_law dc_law pm_law cd_law ct_law : Value}
    (a_NoRoom : PySem.W.nsIn K mainGlobals ("NoRoom" : Str) = some (some (.ref c_NoRoom)))
    (a_StoreError : PySem.W.nsIn K mainGlobals ("StoreError" : Str) = some (some (.ref c_StoreError)))
    (a_NoPart : PySem.W.nsIn K mainGlobals ("NoPart" : Str) = some (some (.ref c_NoPart)))
    (a_NoName : PySem.W.nsIn K mainGlobals ("NoName" : Str) = some (some (.ref c_NoName)))
    (a_NoMoment : PySem.W.nsIn K mainGlobals ("NoMoment" : Str) = some (some (.ref c_NoMoment)))
    (a_NoHeap : PySem.W.nsIn K mainGlobals ("NoHeap" : Str) = some (some (.ref c_NoHeap)))
    (a_NoFile : PySem.W.nsIn K mainGlobals ("NoFile" : Str) = some (some (.ref c_NoFile)))
    (a_BadText : PySem.W.nsIn K mainGlobals ("BadText" : Str) = some (some (.ref c_BadText)))
    (a_BadRow : PySem.W.nsIn K mainGlobals ("BadRow" : Str) = some (some (.ref c_BadRow)))
    (a_BadBytes : PySem.W.nsIn K mainGlobals ("BadBytes" : Str) = some (some (.ref c_BadBytes)))
    (a_Taken : PySem.W.nsIn K mainGlobals ("Taken" : Str) = some (some (.ref c_Taken)))
    (a_NotSound : PySem.W.nsIn K mainGlobals ("NotSound" : Str) = some (some (.ref c_NotSound)))
    (a_NoRow : PySem.W.nsIn K mainGlobals ("NoRow" : Str) = some (some (.ref c_NoRow)))
    (a_Room : PySem.W.nsIn K mainGlobals ("Room" : Str) = some (some (.ref c_Room)))
    (a_Room_init : PySem.W.findIn K (.ref c_Room) ("__init__" : Str) = some (some (.ref f_Room_init)))
    (i_Room_init : PySem.W.isFn K (.ref f_Room_init) = true)
    (l_Room_init : K.lookup f_Room_init = some ⟨oc_Room_init, od_Room_init, .func (PySem.W.fnOf ("__init__" : Str) ("Room.__init__" : Str) (defArgs s_Room_init) (defBody s_Room_init) (defScope s_Room_init) .none kV_Room_init dc_Room_init pm_Room_init an_Room_init cd_Room_init ct_Room_init), sl_Room_init⟩)
    (c_Room_init : PySem.W.codeIn K cd_Room_init ("Room.__init__" : Str) = true)
    (kp_Room_init : PySem.W.keepIn K (.ref f_Room_init) = true)
    (a_Room_hold : PySem.W.findIn K (.ref c_Room) ("hold" : Str) = some (some (.ref f_Room_hold)))
    (i_Room_hold : PySem.W.isFn K (.ref f_Room_hold) = true)
    (l_Room_hold : K.lookup f_Room_hold = some ⟨oc_Room_hold, od_Room_hold, .func (PySem.W.fnOf ("hold" : Str) ("Room.hold" : Str) (defArgs s_Room_hold) (defBody s_Room_hold) (defScope s_Room_hold) .none kV_Room_hold dc_Room_hold pm_Room_hold an_Room_hold cd_Room_hold ct_Room_hold), sl_Room_hold⟩)
    (c_Room_hold : PySem.W.codeIn K cd_Room_hold ("Room.hold" : Str) = true)
    (kp_Room_hold : PySem.W.keepIn K (.ref f_Room_hold) = true)
    (a_Room_free : PySem.W.findIn K (.ref c_Room) ("free" : Str) = some (some (.ref f_Room_free)))
    (i_Room_free : PySem.W.isFn K (.ref f_Room_free) = true)
    (l_Room_free : K.lookup f_Room_free = some ⟨oc_Room_free, od_Room_free, .func (PySem.W.fnOf ("free" : Str) ("Room.free" : Str) (defArgs s_Room_free) (defBody s_Room_free) (defScope s_Room_free) .none kV_Room_free dc_Room_free pm_Room_free an_Room_free cd_Room_free ct_Room_free), sl_Room_free⟩)
    (c_Room_free : PySem.W.codeIn K cd_Room_free ("Room.free" : Str) = true)
    (kp_Room_free : PySem.W.keepIn K (.ref f_Room_free) = true)
    (a_Room_most : PySem.W.findIn K (.ref c_Room) ("most" : Str) = some (some (.ref f_Room_most)))
    (i_Room_most : PySem.W.isFn K (.ref f_Room_most) = true)
    (l_Room_most : K.lookup f_Room_most = some ⟨oc_Room_most, od_Room_most, .func (PySem.W.fnOf ("most" : Str) ("Room.most" : Str) (defArgs s_Room_most) (defBody s_Room_most) (defScope s_Room_most) .none kV_Room_most dc_Room_most pm_Room_most an_Room_most cd_Room_most ct_Room_most), sl_Room_most⟩)
    (c_Room_most : PySem.W.codeIn K cd_Room_most ("Room.most" : Str) = true)
    (kp_Room_most : PySem.W.keepIn K (.ref f_Room_most) = true)
    (a_Room_held : PySem.W.findIn K (.ref c_Room) ("held" : Str) = some (some (.ref f_Room_held)))
    (i_Room_held : PySem.W.isFn K (.ref f_Room_held) = true)
    (l_Room_held : K.lookup f_Room_held = some ⟨oc_Room_held, od_Room_held, .func (PySem.W.fnOf ("held" : Str) ("Room.held" : Str) (defArgs s_Room_held) (defBody s_Room_held) (defScope s_Room_held) .none kV_Room_held dc_Room_held pm_Room_held an_Room_held cd_Room_held ct_Room_held), sl_Room_held⟩)
    (c_Room_held : PySem.W.codeIn K cd_Room_held ("Room.held" : Str) = true)
    (kp_Room_held : PySem.W.keepIn K (.ref f_Room_held) = true)
    (a_Room_peak : PySem.W.findIn K (.ref c_Room) ("peak" : Str) = some (some (.ref f_Room_peak)))
    (i_Room_peak : PySem.W.isFn K (.ref f_Room_peak) = true)
    (l_Room_peak : K.lookup f_Room_peak = some ⟨oc_Room_peak, od_Room_peak, .func (PySem.W.fnOf ("peak" : Str) ("Room.peak" : Str) (defArgs s_Room_peak) (defBody s_Room_peak) (defScope s_Room_peak) .none kV_Room_peak dc_Room_peak pm_Room_peak an_Room_peak cd_Room_peak ct_Room_peak), sl_Room_peak⟩)
    (c_Room_peak : PySem.W.codeIn K cd_Room_peak ("Room.peak" : Str) = true)
    (kp_Room_peak : PySem.W.keepIn K (.ref f_Room_peak) = true)
    (a_begin : PySem.W.nsIn K mainGlobals ("_law_begin" : Str) = some (some (.ref f_begin)))
    (l_begin : K.lookup f_begin = some ⟨oc_begin, od_begin, .func (PySem.W.fnOf ("_law_begin" : Str) ("_law_begin" : Str) (defArgs s_begin) (defBody s_begin) (defScope s_begin) .none kV_begin dc_begin pm_begin an_begin cd_begin ct_begin), sl_begin⟩)
    (c_begin : PySem.W.codeIn K cd_begin ("_law_begin" : Str) = true)
    (kp_begin : PySem.W.keepIn K (.ref f_begin) = true)
    (a_take : PySem.W.nsIn K mainGlobals ("_law_take" : Str) = some (some (.ref f_take)))
    (l_take : K.lookup f_take = some ⟨oc_take, od_take, .func (PySem.W.fnOf ("_law_take" : Str) ("_law_take" : Str) (defArgs s_take) (defBody s_take) (defScope s_take) .none kV_take dc_take pm_take an_take cd_take ct_take), sl_take⟩)
    (c_take : PySem.W.codeIn K cd_take ("_law_take" : Str) = true)
    (kp_take : PySem.W.keepIn K (.ref f_take) = true)
    (a_same : PySem.W.nsIn K mainGlobals ("_law_same" : Str) = some (some (.ref f_same)))
    (l_same : K.lookup f_same = some ⟨oc_same, od_same, .func (PySem.W.fnOf ("_law_same" : Str) ("_law_same" : Str) (defArgs s_same) (defBody s_same) (defScope s_same) .none kV_same dc_same pm_same an_same cd_same ct_same), sl_same⟩)
    (c_same : PySem.W.codeIn K cd_same ("_law_same" : Str) = true)
    (kp_same : PySem.W.keepIn K (.ref f_same) = true)
    (a_tried : PySem.W.nsIn K mainGlobals ("_law_tried" : Str) = some (some (.ref f_tried)))
    (l_tried : K.lookup f_tried = some ⟨oc_tried, od_tried, .func (PySem.W.fnOf ("_law_tried" : Str) ("_law_tried" : Str) (defArgs s_tried) (defBody s_tried) (defScope s_tried) .none kV_tried dc_tried pm_tried an_tried cd_tried ct_tried), sl_tried⟩)
    (c_tried : PySem.W.codeIn K cd_tried ("_law_tried" : Str) = true)
    (kp_tried : PySem.W.keepIn K (.ref f_tried) = true)
    (a_as_counted : PySem.W.nsIn K mainGlobals ("_law_as_counted" : Str) = some (some (.ref f_as_counted)))
    (l_as_counted : K.lookup f_as_counted = some ⟨oc_as_counted, od_as_counted, .func (PySem.W.fnOf ("_law_as_counted" : Str) ("_law_as_counted" : Str) (defArgs s_as_counted) (defBody s_as_counted) (defScope s_as_counted) .none kV_as_counted dc_as_counted pm_as_counted an_as_counted cd_as_counted ct_as_counted), sl_as_counted⟩)
    (c_as_counted : PySem.W.codeIn K cd_as_counted ("_law_as_counted" : Str) = true)
    (kp_as_counted : PySem.W.keepIn K (.ref f_as_counted) = true)
    (a_law : PySem.W.nsIn K mainGlobals ("law" : Str) = some (some (.ref f_law)))
    (l_law : K.lookup f_law = some ⟨oc_law, od_law, .func (PySem.W.fnOf ("law" : Str) ("law" : Str) (defArgs s_law) (defBody s_law) (defScope s_law) .none kV_law dc_law pm_law an_law cd_law ct_law), sl_law⟩)
    (c_law : PySem.W.codeIn K cd_law ("law" : Str) = true)
    (kp_law : PySem.W.keepIn K (.ref f_law) = true)
    (zz_max : PySem.W.nsIn K mainGlobals ("max" : Str) = some none)
    (zz_list : PySem.W.nsIn K mainGlobals ("list" : Str) = some none)
    (zz_len : PySem.W.nsIn K mainGlobals ("len" : Str) = some none)
    (zz_divmod : PySem.W.nsIn K mainGlobals ("divmod" : Str) = some none)
    (zz_isinstance : PySem.W.nsIn K mainGlobals ("isinstance" : Str) = some none)
    (zz_dict : PySem.W.nsIn K mainGlobals ("dict" : Str) = some none)
    (zz_tuple : PySem.W.nsIn K mainGlobals ("tuple" : Str) = some none)
    (zz_all : PySem.W.nsIn K mainGlobals ("all" : Str) = some none)
    (zz_zip : PySem.W.nsIn K mainGlobals ("zip" : Str) = some none)
    (zz_str : PySem.W.nsIn K mainGlobals ("str" : Str) = some none)
    (zz_int : PySem.W.nsIn K mainGlobals ("int" : Str) = some none)
    (zz_bool : PySem.W.nsIn K mainGlobals ("bool" : Str) = some none)
    (zz_ValueError : PySem.W.nsIn K mainGlobals ("ValueError" : Str) = some none)
    (zz_range : PySem.W.nsIn K mainGlobals ("range" : Str) = some none)
    (pg_Room : PySem.W.plainGet K c_Room Str.empty = true)
    (hd_Room : PySem.W.hasDictIn K c_Room = true)
    (po_Room : PySem.W.plainOver K c_Room = true)
    (sa_Room : PySem.W.findIn K (.ref c_Room) "__setattr__" = some (some (.builtin "object.__setattr__")))
    (na_Room_so_many : PySem.W.findIn K (.ref c_Room) ("so_many" : Str) = some none)
    (na_Room_in_use : PySem.W.findIn K (.ref c_Room) ("in_use" : Str) = some none)
    (na_Room_top : PySem.W.findIn K (.ref c_Room) ("top" : Str) = some none)
    (mm_Room : PySem.W.makesIn K c_Room = true)
    (kc_Room : PySem.W.keepIn K (.ref c_Room) = true)
    (x_NoRoom : PySem.W.excIn K c_NoRoom [.type "ValueError", .type "Exception", .type "BaseException", .type "object"] "ValueError.__new__" = true)
    (kc_NoRoom : PySem.W.keepIn K (.ref c_NoRoom) = true)
    (bs_NoRoom : PySem.W.subIn K (.ref c_NoRoom) (.type "BaseException") = some true)
    (ty_NoRoom : PySem.W.typeIn K (.ref c_NoRoom) = some (.type "type"))
    (e1_NoRoom : PySem.W.findIn K (.ref c_NoRoom) "__getattribute__" = some (some (.builtin "BaseException.__getattribute__")))
    (e2_NoRoom : PySem.W.findIn K (.ref c_NoRoom) "__getattr__" = some none)
    (e4_NoRoom : PySem.W.hasDictIn K c_NoRoom = true)
    (e5_NoRoom : PySem.W.findIn K (.ref c_NoRoom) "__class__" = some (some (.builtin "object.__class__")))
    (e6 : PySem.W.specialIn K (.builtin "object.__class__") "__get__" = some (some (.builtin "getset_descriptor.__get__")))
    (e7 : PySem.W.takesIn K (.builtin "object.__class__") = some true)
    (e8_NoRoom : PySem.W.mroIn K c_NoRoom (.type "object") = some true)
    (bs_StoreError : PySem.W.subIn K (.ref c_StoreError) (.type "BaseException") = some true)
    (hd_StoreError : PySem.W.hasDictIn K c_StoreError = true)
    (ty_StoreError : PySem.W.typeIn K (.ref c_StoreError) = some (.type "type"))
    (su_NoRoom_StoreError : PySem.W.subIn K (.ref c_NoRoom) (.ref c_StoreError) = some true)
    (i1 : PySem.W.kitOne K (.ref c_NoRoom) (.ref c_NoRoom) = some true)
    (i2 : PySem.W.kitOne K (.ref c_NoRoom) (.type "ValueError") = some true)
    (i3 : PySem.W.kitAny K (.ref c_NoRoom) [.ref c_BadBytes, .ref c_BadRow, .ref c_BadText, .ref c_NoFile, .ref c_NoHeap, .ref c_NoMoment, .ref c_NoName, .ref c_NoPart] = some false)
    (i4 : PySem.W.kitAny K (.ref c_NoRoom) [.ref c_NoRow, .ref c_NotSound, .ref c_Taken] = some false) :
    ∃ fd : FuncData, (∀ (s : Shared) (v : Value), BindsTo s fd ⟨[v], []⟩ [("_law_script", v)]) ∧ ∀ base : Heap, K.In base → base.Ns mainGlobals mg → FnOk l.prog w K mg base CX0 8 fa fd ["_law_script"] (spLaw K) := by
  have e := hfa.symm.trans (PySem.W.mg_of X G a_law)
  cases e
  have F_Room_init := fun_mk (st := s_Room_init) l_Room_init c_Room_init kp_Room_init
  have b_Room_init := F_Room_init.binds (ps := [("self" : Str), ("most" : Str)]) fun _ _ _ _ _ _ us hl => match us, hl with | [_, _], _ => rfl
  have F_Room_hold := fun_mk (st := s_Room_hold) l_Room_hold c_Room_hold kp_Room_hold
  have b_Room_hold := F_Room_hold.binds (ps := [("self" : Str), ("many" : Str)]) fun _ _ _ _ _ _ us hl => match us, hl with | [_, _], _ => rfl
  have F_Room_free := fun_mk (st := s_Room_free) l_Room_free c_Room_free kp_Room_free
  have b_Room_free := F_Room_free.binds (ps := [("self" : Str), ("many" : Str)]) fun _ _ _ _ _ _ us hl => match us, hl with | [_, _], _ => rfl
  have F_Room_most := fun_mk (st := s_Room_most) l_Room_most c_Room_most kp_Room_most
  have b_Room_most := F_Room_most.binds (ps := [("self" : Str)]) fun _ _ _ _ _ _ us hl => match us, hl with | [_], _ => rfl
  have F_Room_held := fun_mk (st := s_Room_held) l_Room_held c_Room_held kp_Room_held
  have b_Room_held := F_Room_held.binds (ps := [("self" : Str)]) fun _ _ _ _ _ _ us hl => match us, hl with | [_], _ => rfl
  have F_Room_peak := fun_mk (st := s_Room_peak) l_Room_peak c_Room_peak kp_Room_peak
  have b_Room_peak := F_Room_peak.binds (ps := [("self" : Str)]) fun _ _ _ _ _ _ us hl => match us, hl with | [_], _ => rfl
  have F_begin := fun_mk (st := s_begin) l_begin c_begin kp_begin
  have m_begin := PySem.W.mg_of X G a_begin
  have b_begin := F_begin.binds (ps := [("_law_script" : Str)]) fun _ _ _ _ _ _ us hl => match us, hl with | [_], _ => rfl
  have F_take := fun_mk (st := s_take) l_take c_take kp_take
  have m_take := PySem.W.mg_of X G a_take
  have b_take := F_take.binds (ps := [("_law_state" : Str), ("_law_many" : Str)]) fun _ _ _ _ _ _ us hl => match us, hl with | [_, _], _ => rfl
  have F_same := fun_mk (st := s_same) l_same c_same kp_same
  have m_same := PySem.W.mg_of X G a_same
  have b_same := F_same.binds (ps := [("_law_found" : Str), ("_law_due" : Str)]) fun _ _ _ _ _ _ us hl => match us, hl with | [_, _], _ => rfl
  have F_tried := fun_mk (st := s_tried) l_tried c_tried kp_tried
  have m_tried := PySem.W.mg_of X G a_tried
  have b_tried := F_tried.binds (ps := [("_law_room" : Str), ("_law_way" : Str), ("_law_many" : Str)]) fun _ _ _ _ _ _ us hl => match us, hl with | [_, _, _], _ => rfl
  have F_as_counted := fun_mk (st := s_as_counted) l_as_counted c_as_counted kp_as_counted
  have m_as_counted := PySem.W.mg_of X G a_as_counted
  have b_as_counted := F_as_counted.binds (ps := [("_law_room" : Str), ("_law_own" : Str)]) fun _ _ _ _ _ _ us hl => match us, hl with | [_, _], _ => rfl
  have F_law := fun_mk (st := s_law) l_law c_law kp_law
  have m_law := PySem.W.mg_of X G a_law
  have b_law := F_law.binds (ps := [("_law_script" : Str)]) fun _ _ _ _ _ _ us hl => match us, hl with | [_], _ => rfl
  have z_max := PySem.W.mg_none_of X G zz_max
  have z_list := PySem.W.mg_none_of X G zz_list
  have z_len := PySem.W.mg_none_of X G zz_len
  have z_divmod := PySem.W.mg_none_of X G zz_divmod
  have z_isinstance := PySem.W.mg_none_of X G zz_isinstance
  have z_dict := PySem.W.mg_none_of X G zz_dict
  have z_tuple := PySem.W.mg_none_of X G zz_tuple
  have z_all := PySem.W.mg_none_of X G zz_all
  have z_zip := PySem.W.mg_none_of X G zz_zip
  have z_str := PySem.W.mg_none_of X G zz_str
  have z_int := PySem.W.mg_none_of X G zz_int
  have z_bool := PySem.W.mg_none_of X G zz_bool
  have z_ValueError := PySem.W.mg_none_of X G zz_ValueError
  have z_range := PySem.W.mg_none_of X G zz_range
  have m_NoRoom := PySem.W.mg_of X G a_NoRoom
  have m_StoreError := PySem.W.mg_of X G a_StoreError
  have m_NoPart := PySem.W.mg_of X G a_NoPart
  have m_NoName := PySem.W.mg_of X G a_NoName
  have m_NoMoment := PySem.W.mg_of X G a_NoMoment
  have m_NoHeap := PySem.W.mg_of X G a_NoHeap
  have m_NoFile := PySem.W.mg_of X G a_NoFile
  have m_BadText := PySem.W.mg_of X G a_BadText
  have m_BadRow := PySem.W.mg_of X G a_BadRow
  have m_BadBytes := PySem.W.mg_of X G a_BadBytes
  have m_Taken := PySem.W.mg_of X G a_Taken
  have m_NotSound := PySem.W.mg_of X G a_NotSound
  have m_NoRow := PySem.W.mg_of X G a_NoRow
  have m_Room := PySem.W.mg_of X G a_Room
  have cl_Room : Cls K c_Room := ⟨pg_Room, hd_Room, po_Room, sa_Room⟩
  have kx_Room : ClsK K c_Room [("so_many" : Str), ("in_use" : Str), ("top" : Str)] := ⟨cl_Room, by simp only [List.forall_mem_cons]; exact ⟨na_Room_so_many, na_Room_in_use, na_Room_top,  fun _ h => by cases h⟩⟩
  have mk_Room : Mk K c_Room f_Room_init := ⟨mm_Room, a_Room_init, i_Room_init, kc_Room⟩
  have me_Room_hold : Meth K c_Room ("hold" : Str) f_Room_hold := ⟨a_Room_hold, i_Room_hold, kp_Room_hold⟩
  have me_Room_free : Meth K c_Room ("free" : Str) f_Room_free := ⟨a_Room_free, i_Room_free, kp_Room_free⟩
  have me_Room_peak : Meth K c_Room ("peak" : Str) f_Room_peak := ⟨a_Room_peak, i_Room_peak, kp_Room_peak⟩
  have me_Room_held : Meth K c_Room ("held" : Str) f_Room_held := ⟨a_Room_held, i_Room_held, kp_Room_held⟩
  have me_Room_most : Meth K c_Room ("most" : Str) f_Room_most := ⟨a_Room_most, i_Room_most, kp_Room_most⟩
  have ek_NoRoom : ExcC K c_NoRoom := ⟨e1_NoRoom, e2_NoRoom, bs_NoRoom, e4_NoRoom, e5_NoRoom, e6, e7, e8_NoRoom⟩
  have exm_NoRoom_StoreError : PySem.W.exmOne K (.ref c_NoRoom) (.ref c_StoreError) = some true := PySem.W.exm_ref bs_StoreError hd_StoreError ty_StoreError su_NoRoom_StoreError
  have X52 := (⟨kx_Room, ek_NoRoom, exm_NoRoom_StoreError, i1, i2, i3, i4⟩ : RoomX K c_Room c_StoreError c_NoRoom c_NoPart c_NoName c_NoMoment c_NoHeap c_NoFile c_BadText c_BadRow c_BadBytes c_Taken c_NotSound c_NoRow)
  refine ⟨PySem.W.fnOf ("law" : Str) ("law" : Str) (defArgs s_law) (defBody s_law) (defScope s_law) .none kV_law dc_law pm_law an_law cd_law ct_law, fun s v => .of_eq rfl, fun base hb hg => ?_⟩
  have G_Room_init : FnOk l.prog w K mg base CX0 1 f_Room_init _ [("self" : Str), ("most" : Str)] (spRInit c_Room) := ok_Room_init (P := l.prog) (w := w) (base := base) F_Room_init (sp := (spRInit c_Room)) (by rintro vs H Q E ⟨_, _, _, rfl, _⟩; rfl) (pure_Room_init kx_Room)
  have G_Room_hold : FnOk l.prog w K mg base (L2.CX l.prog w) 1 f_Room_hold _ [("self" : Str), ("many" : Str)] (spHold c_Room c_NoRoom) := ok_Room_hold (P := l.prog) (w := w) (base := base) F_Room_hold x_NoRoom kc_NoRoom bs_NoRoom ty_NoRoom z_max m_NoRoom (sp := (spHold c_Room c_NoRoom)) (by rintro vs H Q E ⟨_, _, _, _, _, _, rfl, _⟩; rfl) (pure_Room_hold kx_Room)
  have G_Room_free : FnOk l.prog w K mg base (L2.CX l.prog w) 1 f_Room_free _ [("self" : Str), ("many" : Str)] (spFree c_Room c_NoRoom) := ok_Room_free (P := l.prog) (w := w) (base := base) F_Room_free x_NoRoom kc_NoRoom bs_NoRoom ty_NoRoom m_NoRoom (sp := (spFree c_Room c_NoRoom)) (by rintro vs H Q E ⟨_, _, _, _, _, _, rfl, _⟩; rfl) (pure_Room_free kx_Room)
  have G_Room_most : FnOk l.prog w K mg base CX0 1 f_Room_most _ [("self" : Str)] (spRGet c_Room fun s _ _ => s) := ok_Room_most (P := l.prog) (w := w) (base := base) F_Room_most (sp := (spRGet c_Room fun s _ _ => s)) (by rintro vs H Q E ⟨_, _, _, _, _, rfl, _⟩; rfl) (pure_Room_most kx_Room)
  have G_Room_held : FnOk l.prog w K mg base CX0 1 f_Room_held _ [("self" : Str)] (spRGet c_Room fun _ u _ => u) := ok_Room_held (P := l.prog) (w := w) (base := base) F_Room_held (sp := (spRGet c_Room fun _ u _ => u)) (by rintro vs H Q E ⟨_, _, _, _, _, rfl, _⟩; rfl) (pure_Room_held kx_Room)
  have G_Room_peak : FnOk l.prog w K mg base CX0 1 f_Room_peak _ [("self" : Str)] (spRGet c_Room fun _ _ t => t) := ok_Room_peak (P := l.prog) (w := w) (base := base) F_Room_peak (sp := (spRGet c_Room fun _ _ t => t)) (by rintro vs H Q E ⟨_, _, _, _, _, rfl, _⟩; rfl) (pure_Room_peak kx_Room)
  have G_begin : FnOk l.prog w K mg base CX0 1 f_begin _ [("_law_script" : Str)] (spBegin K) := ok_begin (P := l.prog) (w := w) (base := base) F_begin z_list (sp := (spBegin K)) (by rintro vs H Q E ⟨_, _, rfl, _⟩; rfl) pure_begin
  have G_take : FnOk l.prog w K mg base CX0 1 f_take _ [("_law_state" : Str), ("_law_many" : Str)] spTake := ok_take (P := l.prog) (w := w) (base := base) F_take z_len z_divmod (sp := spTake) (by rintro vs H Q E ⟨_, _, _, _, _, rfl, _⟩; rfl) pure_take
  have G_same_0 : FnOk l.prog w K mg base CX0 0 f_same _ [("_law_found" : Str), ("_law_due" : Str)] (spSame K 0) := fn_no (fd := PySem.W.fnOf ("_law_same" : Str) ("_law_same" : Str) (defArgs s_same) (defBody s_same) (defScope s_same) .none kV_same dc_same pm_same an_same cd_same ct_same) same_no
  have G_same_1 : FnOk l.prog w K mg base CX0 1 f_same _ [("_law_found" : Str), ("_law_due" : Str)] (spSame K 1) := ok_same (P := l.prog) (w := w) (base := base) F_same G_same_0 b_same m_same kp_same z_isinstance z_dict z_list z_tuple z_len z_all z_zip z_str z_int z_bool (sp := (spSame K 1)) (by rintro vs H Q E ⟨_, _, _, rfl, _⟩; rfl) pure_same
  have G_same_2 : FnOk l.prog w K mg base CX0 2 f_same _ [("_law_found" : Str), ("_law_due" : Str)] (spSame K 2) := ok_same (P := l.prog) (w := w) (base := base) F_same G_same_1 b_same m_same kp_same z_isinstance z_dict z_list z_tuple z_len z_all z_zip z_str z_int z_bool (sp := (spSame K 2)) (by rintro vs H Q E ⟨_, _, _, rfl, _⟩; rfl) pure_same
  have G_same_3 : FnOk l.prog w K mg base CX0 3 f_same _ [("_law_found" : Str), ("_law_due" : Str)] (spSame K 3) := ok_same (P := l.prog) (w := w) (base := base) F_same G_same_2 b_same m_same kp_same z_isinstance z_dict z_list z_tuple z_len z_all z_zip z_str z_int z_bool (sp := (spSame K 3)) (by rintro vs H Q E ⟨_, _, _, rfl, _⟩; rfl) pure_same
  have G_same_4 : FnOk l.prog w K mg base CX0 4 f_same _ [("_law_found" : Str), ("_law_due" : Str)] (spSame K 4) := ok_same (P := l.prog) (w := w) (base := base) F_same G_same_3 b_same m_same kp_same z_isinstance z_dict z_list z_tuple z_len z_all z_zip z_str z_int z_bool (sp := (spSame K 4)) (by rintro vs H Q E ⟨_, _, _, rfl, _⟩; rfl) pure_same
  have G_same_5 : FnOk l.prog w K mg base CX0 5 f_same _ [("_law_found" : Str), ("_law_due" : Str)] (spSame K 5) := ok_same (P := l.prog) (w := w) (base := base) F_same G_same_4 b_same m_same kp_same z_isinstance z_dict z_list z_tuple z_len z_all z_zip z_str z_int z_bool (sp := (spSame K 5)) (by rintro vs H Q E ⟨_, _, _, rfl, _⟩; rfl) pure_same
  have G_same_6 : FnOk l.prog w K mg base CX0 6 f_same _ [("_law_found" : Str), ("_law_due" : Str)] (spSame K 6) := ok_same (P := l.prog) (w := w) (base := base) F_same G_same_5 b_same m_same kp_same z_isinstance z_dict z_list z_tuple z_len z_all z_zip z_str z_int z_bool (sp := (spSame K 6)) (by rintro vs H Q E ⟨_, _, _, rfl, _⟩; rfl) pure_same
  have G_same := G_same_6
  have G_tried : FnOk l.prog w K mg base CX0 2 f_tried _ [("_law_room" : Str), ("_law_way" : Str), ("_law_many" : Str)] (spTried c_Room) := ok_tried (P := l.prog) (w := w) (base := base) F_tried G_Room_hold b_Room_hold cl_Room me_Room_hold G_Room_free b_Room_free me_Room_free z_isinstance z_ValueError z_int m_StoreError m_NoRoom m_NoPart m_NoName m_NoMoment m_NoHeap m_NoFile m_BadText m_BadRow m_BadBytes m_Taken m_NotSound m_NoRow (sp := (spTried c_Room)) (by rintro vs H Q E ⟨_, _, _, _, _, _, _, rfl, _⟩; rfl) (pure_tried X52)
  have G_as_counted : FnOk l.prog w K mg base CX0 7 f_as_counted _ [("_law_room" : Str), ("_law_own" : Str)] (spAsC c_Room) := ok_as_counted (P := l.prog) (w := w) (base := base) F_as_counted G_same b_same m_same kp_same G_Room_peak b_Room_peak cl_Room me_Room_peak G_Room_held b_Room_held me_Room_held G_Room_most b_Room_most me_Room_most (sp := (spAsC c_Room)) (by rintro vs H Q E ⟨_, _, _, _, _, _, rfl, _⟩; rfl) (pure_as_counted (by decide))
  exact ok_law (P := l.prog) (w := w) (base := base) F_law G_begin b_begin m_begin kp_begin G_take b_take m_take kp_take G_tried b_tried m_tried kp_tried G_as_counted b_as_counted m_as_counted kp_as_counted G_Room_init b_Room_init mk_Room z_range z_len z_int z_max z_all z_zip m_Room (sp := (spLaw K)) (by rintro vs H Q E ⟨_, _, rfl, _⟩; rfl) pure_law52
theorem walk {l : PySem.W.OpenLaw} {q : Program} {loose : List Str} {XP : (Str → Option Value) → Heap → Prop} {YP : World → Heap → Prop} {d : DefRec} {K : Params → PySem.W.Frag} (hn : l.most = some 63) (hdf : d.params.defaults = [])
    (hY : ∀ (w : World) (h : Heap), YP w h → (K w.params).In h)
    (F : ∀ (w : World) (mg : Str → Option Value) (fa : Addr) (h : Heap), (K w.params).In h → h.Ns mainGlobals mg → mg d.name = some (.ref fa) →
      ∃ fd : FuncData, (∀ (s : Shared) (u : Value), BindsTo s fd ⟨[u], []⟩ [("_law_script", u)]) ∧ ∀ base : Heap, (K w.params).In base → base.Ns mainGlobals mg → FnOk l.prog w (K w.params) mg base CX0 8 fa fd ["_law_script"] (spLaw (K w.params))) :
    PySem.W.WalkO q loose XP YP l.row.toRowW d [] (fun f vs => PySem.call f vs) :=
  L2.walk_of (n := 63) (k := 8) (x := "_law_script") (CX := fun _ => CX0) (sp := fun w => spLaw (K w.params)) hn (by decide) hdf ⟨rfl, by decide, by decide⟩ hY F (fun _ _ a ns hl _ hS => ⟨a, ns, rfl, hS, hl, fun _ => rfl⟩) fun _ _ _ _ _ z => z
end Ps
open PySem PySem.W PyProof.Rows
set_option maxRecDepth 100000 in
set_option maxHeartbeats 0 in
theorem PySem.Challenge.cw_pillarstore_k52_rooms_holds : PySem.Challenge.rw_pillarstore_k52_rooms.Holds := by
  w_on; o_law; k_head; (case hw => w_witness2)
  k_fill
  refine Ps.walk (l := PySem.Challenge.rw_pillarstore_k52_rooms) rfl rfl (fun w h Y => PySem.W.kIn_of Y) ?F
  case F =>
    intro w mg fa h KX G hmg
    refine' Ps.all_mk KX G hmg ?a_NoRoom ?a_StoreError ?a_NoPart ?a_NoName ?a_NoMoment ?a_NoHeap ?a_NoFile ?a_BadText ?a_BadRow ?a_BadBytes ?a_Taken ?a_NotSound ?a_NoRow ?a_Room ?a_Room_init ?i_Room_init ?l_Room_init ?c_Room_init ?kp_Room_init ?a_Room_hold ?i_Room_hold ?l_Room_hold ?c_Room_hold ?kp_Room_hold ?a_Room_free ?i_Room_free ?l_Room_free ?c_Room_free ?kp_Room_free ?a_Room_most ?i_Room_most ?l_Room_most ?c_Room_most ?kp_Room_most ?a_Room_held ?i_Room_held ?l_Room_held ?c_Room_held ?kp_Room_held ?a_Room_peak ?i_Room_peak ?l_Room_peak ?c_Room_peak ?kp_Room_peak ?a_begin ?l_begin ?c_begin ?kp_begin ?a_take ?l_take ?c_take ?kp_take ?a_same ?l_same ?c_same ?kp_same ?a_tried ?l_tried ?c_tried ?kp_tried ?a_as_counted ?l_as_counted ?c_as_counted ?kp_as_counted ?a_law ?l_law ?c_law ?kp_law ?zz_max ?zz_list ?zz_len ?zz_divmod ?zz_isinstance ?zz_dict ?zz_tuple ?zz_all ?zz_zip ?zz_str ?zz_int ?zz_bool ?zz_ValueError ?zz_range ?pg_Room ?hd_Room ?po_Room ?sa_Room ?na_Room_so_many ?na_Room_in_use ?na_Room_top ?mm_Room ?kc_Room ?x_NoRoom ?kc_NoRoom ?bs_NoRoom ?ty_NoRoom ?e1_NoRoom ?e2_NoRoom ?e4_NoRoom ?e5_NoRoom ?e6 ?e7 ?e8_NoRoom ?bs_StoreError ?hd_StoreError ?ty_StoreError ?su_NoRoom_StoreError ?i1 ?i2 ?i3 ?i4
    (case a_NoRoom => k_is)
    (case a_StoreError => k_is)
    (case a_NoPart => k_is)
    (case a_NoName => k_is)
    (case a_NoMoment => k_is)
    (case a_NoHeap => k_is)
    (case a_NoFile => k_is)
    (case a_BadText => k_is)
    (case a_BadRow => k_is)
    (case a_BadBytes => k_is)
    (case a_Taken => k_is)
    (case a_NotSound => k_is)
    (case a_NoRow => k_is)
    (case a_Room => k_is)
    (case a_Room_init => k_is)
    (case i_Room_init => k_is)
    (case l_Room_init => k_is)
    (case c_Room_init => k_is)
    (case kp_Room_init => k_is)
    (case a_Room_hold => k_is)
    (case i_Room_hold => k_is)
    (case l_Room_hold => k_is)
    (case c_Room_hold => k_is)
    (case kp_Room_hold => k_is)
    (case a_Room_free => k_is)
    (case i_Room_free => k_is)
    (case l_Room_free => k_is)
    (case c_Room_free => k_is)
    (case kp_Room_free => k_is)
    (case a_Room_most => k_is)
    (case i_Room_most => k_is)
    (case l_Room_most => k_is)
    (case c_Room_most => k_is)
    (case kp_Room_most => k_is)
    (case a_Room_held => k_is)
    (case i_Room_held => k_is)
    (case l_Room_held => k_is)
    (case c_Room_held => k_is)
    (case kp_Room_held => k_is)
    (case a_Room_peak => k_is)
    (case i_Room_peak => k_is)
    (case l_Room_peak => k_is)
    (case c_Room_peak => k_is)
    (case kp_Room_peak => k_is)
    (case a_begin => k_is)
    (case l_begin => k_is)
    (case c_begin => k_is)
    (case kp_begin => k_is)
    (case a_take => k_is)
    (case l_take => k_is)
    (case c_take => k_is)
    (case kp_take => k_is)
    (case a_same => k_is)
    (case l_same => k_is)
    (case c_same => k_is)
    (case kp_same => k_is)
    (case a_tried => k_is)
    (case l_tried => k_is)
    (case c_tried => k_is)
    (case kp_tried => k_is)
    (case a_as_counted => k_is)
    (case l_as_counted => k_is)
    (case c_as_counted => k_is)
    (case kp_as_counted => k_is)
    (case a_law => k_is)
    (case l_law => k_is)
    (case c_law => k_is)
    (case kp_law => k_is)
    (case zz_max => k_is)
    (case zz_list => k_is)
    (case zz_len => k_is)
    (case zz_divmod => k_is)
    (case zz_isinstance => k_is)
    (case zz_dict => k_is)
    (case zz_tuple => k_is)
    (case zz_all => k_is)
    (case zz_zip => k_is)
    (case zz_str => k_is)
    (case zz_int => k_is)
    (case zz_bool => k_is)
    (case zz_ValueError => k_is)
    (case zz_range => k_is)
    (case pg_Room => k_is)
    (case hd_Room => k_is)
    (case po_Room => k_is)
    (case sa_Room => k_is)
    (case na_Room_so_many => k_is)
    (case na_Room_in_use => k_is)
    (case na_Room_top => k_is)
    (case mm_Room => k_is)
    (case kc_Room => k_is)
    (case x_NoRoom => k_exc)
    (case kc_NoRoom => k_is)
    (case bs_NoRoom => k_is)
    (case ty_NoRoom => k_is)
    (case e1_NoRoom => k_is)
    (case e2_NoRoom => k_is)
    (case e4_NoRoom => k_is)
    (case e5_NoRoom => k_is)
    (case e6 => k_is)
    (case e7 => k_is)
    (case e8_NoRoom => k_is)
    (case bs_StoreError => k_is)
    (case hd_StoreError => k_is)
    (case ty_StoreError => k_is)
    (case su_NoRoom_StoreError => k_is)
    (case i1 => kit_is)
    (case i2 => kit_is)
    (case i3 => kit_is)
    (case i4 => kit_is)
#print axioms PySem.Challenge.cw_pillarstore_k52_rooms_holds

