import PyProof.Rows.All
import Wide.All
import OpenK.AllK
import Wide.FinOn
import HandS.ForMost
import HandS.ForExc
import HandS.IsInst
import HandS.Walk
import HandS.Zip
import HandS.Wide
import HandS.Flow
import HandS.Small
import HandS.Rev
import HandS.More
import HandS.Steps
import HandS.WideBits
import HandS.TupAny
import KE.GoesEnum
import PyProof.Rows.ChunkEnd
import HandS.ExcInit
import HandS.ExcIs
import HandS.ExcField
import HandS.ClsMeth
import KE.KExcIs
import HandS.TryOnly
import KE.RegKIsAll
import HandS.Replace
import HandS.Text
import HandS.ReplaceList
import PySem.Challenge.RW_pillarstore_k58_parts_of_cells
set_option Elab.async false
set_option linter.all false
set_option maxRecDepth 100000
set_option maxHeartbeats 4000000
/-! PsA: rules that choose by the value at hand, for a printed walk. -/
namespace Ps
open PySem PySem.Spec PyProof.Rows L2

theorem opr_or {X : Cx} {f : Value → Value → Sem Value} {r r' : R2} (h : OpR X f r) (h' : OpR X f r') : OpR X f (fun x y H Q => r x y H Q ∨ r' x y H Q) := by
  intro pins s σ H x y v u Q I rx ry q
  rcases q with q | q
  · exact h pins s σ H x y v u Q I rx ry q
  · exact h' pins s σ H x y v u Q I rx ry q
theorem callr_or {X : Cx} {f : Value} {r r' : List V → Hp → VK → Prop} (h : CallR X f r) (h' : CallR X f r') : CallR X f (fun xs H Q => r xs H Q ∨ r' xs H Q) := by
  intro pins s σ H xs us Q I r q
  rcases q with q | q
  · exact h pins s σ H xs us Q I r q
  · exact h' pins s σ H xs us Q I r q
theorem pi_or {X : Cx} {tg e : Expr} {w w' : TI} (h : PI X tg e w) (h' : PI X tg e w') : PI X tg e (fun σ H R => w σ H R ∨ w' σ H R) := by
  refine ⟨fun pins s σ H R I q => ?_⟩
  rcases q with q | q
  · exact h.run pins s σ H R I q
  · exact h'.run pins s σ H R I q
theorem pset_or {X : Cx} {r r' : TSet} (h : PSet X r) (h' : PSet X r') : PSet X (fun o i v H Q => r o i v H Q ∨ r' o i v H Q) := by
  intro pins s σ H o i v ov iv u Q I ro ri rv q
  rcases q with q | q
  · exact h pins s σ H o i v ov iv u Q I ro ri rv q
  · exact h' pins s σ H o i v ov iv u Q I ro ri rv q

/-! ### operators -/
def rStrAdd : R2 := fun x y H Q => ∃ i j, x = .str i ∧ y = .str j ∧ i.length + j.length ≤ sizeLine ∧ Q (.str (i ++ j)) H
def rAddU (K : PySem.W.Frag) : R2 := fun x y H Q => (rI0 (fun i j => .int (i + j)) x y H Q ∨ rStrAdd x y H Q) ∨ (rCat x y H Q ∨ rCatA K x y H Q)
def rMulU : R2 := fun x y H Q => (rI CMul (fun i j => .int (i * j)) x y H Q ∨ rI CMulW (fun i j => .int (i * j)) x y H Q) ∨ rRep x y H Q
def rDivU : R2 := fun x y H Q => rI CDiv (fun i j => .int (i / j)) x y H Q ∨ rI CDivW (fun i j => .int (i / j)) x y H Q
def rModU : R2 := rI (fun _ j => 0 < j) fun i j => .int (i % j)
def rPowU : R2 := rI CPow fun i j => .int (i ^ j.toNat)
def rSubU : R2 := rI0 fun i j => .int (i - j)
def rIxD : R2 := fun x y H Q => ∃ a v, x = .ref a ∧ DGet H a y (some v) ∧ Q v H
def rIxU (K : PySem.W.Frag) : R2 := fun x y H Q => (rIxL K x y H Q ∨ rIxT K x y H Q) ∨ (rIxS x y H Q ∨ rIxD x y H Q)
def rEqU (K : PySem.W.Frag) : R2 := fun x y H Q => rEq x y H Q ∨ rEqD K x y H Q
def rNeU (K : PySem.W.Frag) : R2 := fun x y H Q => rNe x y H Q ∨ rNeD K x y H Q
def rLtS : R2 := fun x y H Q => ∃ i j, x = .str i ∧ y = .str j ∧ Q (.bl (decide (i.cps.toList < j.cps.toList))) H
def rLtU (K : PySem.W.Frag) : R2 := fun x y H Q => rI0 (fun i j => .bl (decide (i < j))) x y H Q ∨ rLtS x y H Q
def rLeU : R2 := rI0 fun i j => .bl (decide (i ≤ j))
def rGtU : R2 := rI0 fun i j => .bl (decide (j < i))
def rGeU : R2 := rI0 fun i j => .bl (decide (j ≤ i))
def rInD (neg : Bool) : R2 := fun y x H Q => ∃ a o, x = .ref a ∧ DGet H a y o ∧ Q (.bl (if neg then !o.isSome else o.isSome)) H
def rInS (neg : Bool) : R2 := fun x y H Q => ∃ i j, x = .str i ∧ y = .str j ∧ Q (.bl (if neg then !(!(Builtin.Str.occurrences j i 0 j.length 1).isEmpty) else !(Builtin.Str.occurrences j i 0 j.length 1).isEmpty)) H
def rInU (K : PySem.W.Frag) (neg : Bool) : R2 := fun x y H Q => rIn K neg x y H Q ∨ (rInS neg x y H Q ∨ rInD neg x y H Q)
def rIsN : R2 := fun x y H Q => y = .non ∧ Q (.bl (decide (x = .non))) H
def rNotN : R2 := fun x y H Q => y = .non ∧ Q (.bl (!decide (x = .non))) H

section
variable {X : Cx}
theorem op_addU : OpR X (binaryOp .Add) (rAddU X.K) := opr_or (opr_or op_add op_add_str) (opr_or op_cat op_catA)
theorem op_mulU : OpR X (binaryOp .Mult) rMulU := opr_or (opr_or op_mul op_mulW) op_rep
theorem op_divU : OpR X (binaryOp .FloorDiv) rDivU := opr_or op_fdiv op_fdivW
theorem op_modU : OpR X (binaryOp .Mod) rModU := op_mod
theorem op_powU : OpR X (binaryOp .Pow) rPowU := op_pow
theorem op_subU : OpR X (binaryOp .Sub) rSubU := op_sub
theorem op_eqU (hu : X.A.units + 64 < cLine) : OpR X (compareOp .Eq) (rEqU X.K) := opr_or op_eq (op_eqD hu)
theorem op_neU (hu : X.A.units + 64 < cLine) : OpR X (compareOp .NotEq) (rNeU X.K) := opr_or op_ne (op_neD hu)
theorem op_ltU : OpR X (compareOp .Lt) (rLtU X.K) := opr_or op_lt op_lt_str
theorem op_leU : OpR X (compareOp .LtE) rLeU := op_le
theorem op_gtU : OpR X (compareOp .Gt) rGtU := op_gt
theorem op_geU : OpR X (compareOp .GtE) rGeU := op_ge
theorem op_inD (hu : X.A.units + 1 < cLine) : OpR X (compareOp .In) (rInD false) := by
  intro pins s σ H x y v u Q I rx ry h
  obtain ⟨a, o, rfl, g, q⟩ := h
  cases ry
  exact d_in hu I g rx fun s3 I3 => ⟨.bl o.isSome, H, I3, rfl, q⟩
theorem op_niD (hu : X.A.units + 1 < cLine) : OpR X (compareOp .NotIn) (rInD true) := by
  intro pins s σ H x y v u Q I rx ry h
  obtain ⟨a, o, rfl, g, q⟩ := h
  cases ry
  exact d_notIn hu I g rx fun s3 I3 => ⟨.bl (!o.isSome), H, I3, rfl, q⟩
theorem op_inU (hu : X.A.units + 1 < cLine) : OpR X (compareOp .In) (rInU X.K false) := opr_or op_in_seq (opr_or op_in_str (op_inD hu))
theorem op_niU (hu : X.A.units + 1 < cLine) : OpR X (compareOp .NotIn) (rInU X.K true) := opr_or op_notIn_seq (opr_or op_notIn_str (op_niD hu))
theorem op_isNU : OpR X (compareOp .Is) rIsN := op_isN
theorem op_notNU : OpR X (compareOp .IsNot) rNotN := op_notN
theorem ix_dict (hu : X.A.units + 1 < cLine) : IxR X rIxD := by
  intro value slice pins s σ H x y v u Q I rx ry h hs
  obtain ⟨a, z, rfl, g, q⟩ := h
  cases rx
  have hT := dict_typeIs I g
  have h2 : wpAny (model X.prog X.w) X.A (getItem (.ref a) u) (EP X pins σ Q) X.xe s := d_getItem hu I g ry fun w' s3 I3 rw' => ⟨z, H, I3, rw', q⟩
  unfold subscriptTail
  refine wpAny_bind ?_
  rw [getitemInPython_of_ne hT.not_modules]
  refine wpAny_bind (wpAny_specialOf hT PySem.F.slot_dict_getitem.lookup ?_)
  have fin : wpAny (model X.prog X.w) X.A (subscripted slice false (.ref a) u) (fun r s₃ => wpAny (model X.prog X.w) X.A (letTemporaryGo value (.ref a) r >>= fun _ => pure r) (EP X pins σ Q) X.xe s₃) X.xe s := by
    rw [hs]
    exact wpAny_operating (wpAny_mono h2 (fun r s₃ h₃ => wpAny_bind (wpAny_letTemporaryGo (wpAny_pure h₃))) fun _ _ x => x)
  first
    | exact wpAny_pure (wpAny_bind fin)
    | exact wpAny_bind (wpAny_pure (wpAny_bind fin))
    | exact wpAny_bind fin
theorem ix_u (hu : X.A.units + 1 < cLine) : IxR X (rIxU X.K) := (ix_list.or ix_tup).or (ix_str.or (ix_dict hu))
end

/-! ### calls of what is built in -/
def rLenU (K : PySem.W.Frag) : List V → Hp → VK → Prop := fun xs H Q => (∃ x n, xs = [x] ∧ LenV K x H n ∧ Q (.int n) H) ∨ ∃ a kvs, xs = [V.ref a] ∧ Rd H a (.dK kvs) ∧ Q (.int kvs.length) H
def rListU (K : PySem.W.Frag) : List V → Hp → VK → Prop := fun xs H Q => (∃ p ys, xs = [.ref p] ∧ (SqL K H p ys ∨ SqT K H p ys) ∧ ∀ l, H l = none → Q (.ref l) (upd H l (.lst ys))) ∨
  ∃ (a : Addr) (kvs : List (Key × V)), xs = [.ref a] ∧ Rd H a (.dK kvs) ∧ ∀ p, H p = none → Q (.ref p) (upd H p (.lst (kvs.map fun kv => kV kv.1)))
def rTupU (K : PySem.W.Frag) : List V → Hp → VK → Prop := fun xs H Q => ∃ p ys, xs = [.ref p] ∧ ((SqL K H p ys ∧ ∀ l, H l = none → Q (.ref l) (upd H l (.tup ys))) ∨ (SqT K H p ys ∧ Q (.ref p) H))
def rIntU : List V → Hp → VK → Prop := fun xs H Q => (∃ i, xs = [.int i] ∧ Q (.int i) H) ∨ ∃ k, xs = [.bl k] ∧ Q (.int (if k then 1 else 0)) H
def rDivmod : List V → Hp → VK → Prop := fun xs H Q => ∃ i j, xs = [.int i, .int j] ∧ CDivP i j ∧ ∀ p, H p = none → Q (.ref p) (upd H p (.tup [.int (i / j), .int (i % j)]))
def rAbs : List V → Hp → VK → Prop := fun xs H Q => ∃ i, xs = [.int i] ∧ Q (.int (if i < 0 then -i else i)) H
def rMax2 : List V → Hp → VK → Prop := fun xs H Q => ∃ i j, xs = [.int i, .int j] ∧ Q (.int (if j > i then j else i)) H
def rMin2 : List V → Hp → VK → Prop := fun xs H Q => ∃ i j, xs = [.int i, .int j] ∧ Q (.int (if j < i then j else i)) H
def rSetU : TSet := fun o i v H Q => rSetL o i v H Q ∨ rSetD o i v H Q
def rSlU (K : PySem.W.Frag) : V → Option Int → Option Int → Hp → VK → Prop := fun x lo hi H Q => (rSlL K x lo hi H Q ∨ rSlA K x lo hi H Q) ∨ ∃ z, x = .str z ∧ z.length ≤ sizeLine ∧ Q (.str (cutS z lo hi)) H
section
variable {X : Cx}
theorem call_lenDk : CallR X (.builtin "len") (fun xs H Q => ∃ a kvs, xs = [V.ref a] ∧ Rd H a (.dK kvs) ∧ Q (.int kvs.length) H) := by
  intro pins s σ H xs us Q I r h
  obtain ⟨a, kvs, rfl, ha, q⟩ := h
  obtain ⟨u, rfl, ru⟩ := vals1 r
  cases ru
  exact d_len I ha fun t s' I' => ⟨.int kvs.length, H, I', ⟨t, rfl⟩, q⟩
theorem call_lenU : CallR X (.builtin "len") (rLenU X.K) := callr_or call_len call_lenDk
theorem call_listU (hc : X.calm = true) : CallR X (.type "list") (rListU X.K) := callr_or call_list_of (call_listD hc)
theorem call_tupU : CallR X (.type "tuple") (rTupU X.K) := call_tuple_of
theorem call_intU : CallR X (.type "int") rIntU := call_int1
theorem call_divmodU : CallR X (.builtin "divmod") rDivmod := call_divmodW
theorem call_absU : CallR X (.builtin "abs") rAbs := call_abs
theorem call_max2U (hc : X.calm = true) : CallR X (.builtin "max") rMax2 := call_max2 hc
theorem call_min2U (hc : X.calm = true) : CallR X (.builtin "min") rMin2 := call_min2 hc
theorem set_u (hu : X.A.units + 1 < cLine) : PSet X rSetU := pset_or set_list (set_dict hu)
theorem sl_u : SlR X (rSlU X.K) := (sl_list.or sl_tupA).or sl_str
end

/-! ### what is walked -/
/-- a list, a tuple, a text at a name -/
def iSeqV (K : PySem.W.Frag) (tl : TE) : TI := fun σ H R => tl σ H fun x H1 => (∃ a xs, x = .ref a ∧ SqL K H1 a xs ∧ R (Itl K a) H1) ∨ (∃ a xs, x = .ref a ∧ SqT K H1 a xs ∧ R (Itt K a) H1) ∨ ∃ z, x = .str z ∧ R (Its z) H1
section
variable {X : Cx} {tg : Expr}
/-- a value that has come already: the rest of a rule of PE's -/
theorem pi_seqV {l : Expr} {tl : TE} (hl : PE X l tl) : PI X tg l (iSeqV X.K tl) := by
  refine ⟨fun pins s σ H R I h => ?_⟩
  have hA : ∀ (a : Addr) (s1 : Shared) (H1 : Hp), Inv X pins σ H1 s1 → ∀ xs, SqL X.K H1 a xs → R (Itl X.K a) H1 → wpAny (model X.prog X.w) X.A (pyIter (.ref a)) (PIE X pins σ tg R) X.xe s1 := by
    intro a s1 H1 I1 xs hq q
    obtain ⟨its, rv, p, hz⟩ := I1.list hq
    refine wpAny_pyIter_list p.isList ?_
    refine ⟨s1.heap.objs.size, [s1.heap.objs.size], _, _, H1, rfl, I1.kept (t' := s1.toks) fun b o e => Heap.get?_push_of_some _ e, turn_list a _, ⟨_, Heap.get?_push_size _ rfl, rfl, rfl⟩, fun b hb => ?_, q⟩
    have e : b = s1.heap.objs.size := by simpa using hb
    subst e
    exact I1.fpOk (Nat.le_refl _) (I1.hok.fresh (Nat.le_refl _))
  have hB : ∀ (a : Addr) (s1 : Shared) (H1 : Hp), Inv X pins σ H1 s1 → ∀ xs, SqT X.K H1 a xs → R (Itt X.K a) H1 → wpAny (model X.prog X.w) X.A (pyIter (.ref a)) (PIE X pins σ tg R) X.xe s1 := by
    intro a s1 H1 I1 xs hq q
    obtain ⟨its, rv, p, hz⟩ := I1.tuple hq
    refine wpAny_pyIter_tuple (show s1.heap.IsTuple a its.toArray from p) ?_
    refine ⟨s1.heap.objs.size, [s1.heap.objs.size], _, _, H1, rfl, I1.kept (t' := s1.toks) fun b o e => Heap.get?_push_of_some _ e, turn_tuple a _, ⟨_, Heap.get?_push_size _ rfl, rfl, rfl⟩, fun b hb => ?_, q⟩
    have e : b = s1.heap.objs.size := by simpa using hb
    subst e
    exact I1.fpOk (Nat.le_refl _) (I1.hok.fresh (Nat.le_refl _))
  have hC : ∀ (z : Str) (s1 : Shared) (H1 : Hp) (u : Value), Inv X pins σ H1 s1 → RelV (.str z) u → R (Its z) H1 → wpAny (model X.prog X.w) X.A (pyIter u) (PIE X pins σ tg R) X.xe s1 := by
    intro z s1 H1 u I1 ru q
    obtain ⟨t, rfl⟩ := ru
    cases ha : z.cps.all (· < 128)
    · exact wpAny_pyIter_wide ha (pi_one (tk := s1.toks) I1 _ (turn_str _ z t "str_iterator" (.inr rfl)) ⟨_, Heap.get?_push_size _ rfl, rfl, rfl⟩ q)
    · exact wpAny_pyIter_ascii ha (pi_one (tk := s1.toks) I1 _ (turn_str _ z t "str_ascii_iterator" (.inl rfl)) ⟨_, Heap.get?_push_size _ rfl, rfl, rfl⟩ q)
  exact thn (hl.run pins s σ H _ I h) fun v s1 ⟨x, H1, I1, r1, q1⟩ => by
    rcases q1 with ⟨a, xs, e, hq, q⟩ | ⟨a, xs, e, hq, q⟩ | ⟨z, e, q⟩
    · subst e
      cases r1
      exact hA a s1 H1 I1 xs hq q
    · subst e
      cases r1
      exact hB a s1 H1 I1 xs hq q
    · subst e
      exact hC z s1 H1 v I1 r1 q
end

/-! ### names that are built in, further forms -/
theorem bt_len : bootBuiltins "len" = some (.builtin "len") := by decide +kernel
theorem bt_isinstance : bootBuiltins "isinstance" = some (.builtin "isinstance") := by decide +kernel
theorem bt_all : bootBuiltins "all" = some (.builtin "all") := by decide +kernel
theorem bt_any : bootBuiltins "any" = some (.builtin "any") := by decide +kernel
theorem bt_sum : bootBuiltins "sum" = some (.builtin "sum") := by decide +kernel
theorem bt_divmod : bootBuiltins "divmod" = some (.builtin "divmod") := by decide +kernel
theorem bt_abs : bootBuiltins "abs" = some (.builtin "abs") := by decide +kernel
theorem bt_max : bootBuiltins "max" = some (.builtin "max") := by decide +kernel
theorem bt_min : bootBuiltins "min" = some (.builtin "min") := by decide +kernel
theorem bt_sorted : bootBuiltins "sorted" = some (.builtin "sorted") := by decide +kernel
theorem bt_int : bootBuiltins "int" = some (.type "int") := by decide +kernel
theorem bt_bool : bootBuiltins "bool" = some (.type "bool") := by decide +kernel
theorem bt_str : bootBuiltins "str" = some (.type "str") := by decide +kernel
theorem bt_list : bootBuiltins "list" = some (.type "list") := by decide +kernel
theorem bt_tuple : bootBuiltins "tuple" = some (.type "tuple") := by decide +kernel
theorem bt_dict : bootBuiltins "dict" = some (.type "dict") := by decide +kernel
theorem bt_set : bootBuiltins "set" = some (.type "set") := by decide +kernel
theorem bt_type : bootBuiltins "type" = some (.type "type") := by decide +kernel
theorem bt_range : bootBuiltins "range" = some (.type "range") := by decide +kernel
theorem bt_zip : bootBuiltins "zip" = some (.type "zip") := by decide +kernel
theorem bt_enumerate : bootBuiltins "enumerate" = some (.type "enumerate") := by decide +kernel
theorem bt_reversed : bootBuiltins "reversed" = some (.type "reversed") := by decide +kernel
def rIsiU (K : PySem.W.Frag) : List V → Hp → VK → Prop := fun xs H Q => rIsi K xs H Q ∨ rIsiT K xs H Q
def rNeg : V → Hp → VK → Prop := rU fun i => .int (-i)
def ipAddU (K : PySem.W.Frag) : TIp := fun x y H Q => (∃ i j, x = .int i ∧ y = .int j ∧ Q (.int (i + j)) H) ∨ ∃ i j, x = .str i ∧ y = .str j ∧ i.length + j.length ≤ sizeLine ∧ Q (.str (i ++ j)) H
def ipMulU : TIp := fun x y H Q => ∃ i j, x = .int i ∧ y = .int j ∧ (CMul i j ∨ CMulW i j) ∧ Q (.int (i * j)) H
section
variable {X : Cx}
theorem call_isiU : CallR X (.builtin "isinstance") (rIsiU X.K) := callr_or call_isi call_isiT
theorem un_negU : UnR X (unaryOp .USub) rNeg := un_neg
theorem ip_addU : PIp X .Add (ipAddU X.K) := by
  intro pins s σ H x y v u Q I rx ry h
  rcases h with h | h
  · exact ip_add pins s σ H x y v u Q I rx ry h
  · exact iop_add_str pins s σ H x y v u Q I rx ry h
theorem ip_mulU : PIp X .Mult ipMulU := by
  intro pins s σ H x y v u Q I rx ry h
  obtain ⟨i, j, rfl, rfl, hc, q⟩ := h
  obtain ⟨t, rfl⟩ := rx
  obtain ⟨t', rfl⟩ := ry
  refine imul_int ⟨.int _, H, I.tok _, ⟨_, rfl⟩, q⟩ ?_
  rcases hc with hc | hc
  · exact hc.ok
  · exact hc.ok
theorem pt_truU {a : Expr} {ta : TE} (ha : PE X a ta) (he : ∀ whole, isTrue a X.env whole = (do let v ← whole; standAt a.pos; holding [v] (truthy v))) : PT X a (tTru X.K ta) := pt_truth ha he
end

end Ps

/-! PsB: enumerate over a tuple, too. -/
namespace Ps
open PySem PySem.Spec PyProof.Rows L2

theorem meets_enum1B {v : Value} {o : Obj} {H : Heap → Prop} (B : Begins v o H) :
    Meets (Builtin.«enumerate.__new__» ⟨[.type "enumerate", v], []⟩) (fun _ R s => H s.heap ∧
      R (.ok (.ret (.ref (s.heap.push o).objs.size))) { s with heap := (s.heap.push o).push { cls := .type "enumerate", data := .fields #[.none, .bool false, .ref s.heap.objs.size, rawInt 0, .none, .none] } }) :=
  .of_wp fun prog w A R s h => by
    obtain ⟨hp, g, d, tk, os⟩ := s; obtain ⟨h1, h⟩ := h
    have hsub := sub_enumerate
    have q1 : ∀ {A' : Around} {E : Value → Shared → Prop} {Q : Value → Shared → Prop}, Q (.ref hp.objs.size) ⟨hp.push o, g, d, tk, os⟩ → wpAny (model prog w) A' (pyIter v) Q E ⟨hp, g, d, tk, os⟩ :=
      fun q => B.iter prog w _ _ ⟨hp, g, d, tk, os⟩ _ h1 q
    wp_walk using q1
    refine wpAny_stack_any fun st => wpAny_pure ?_
    split
    · rename_i c _ _ _ _ _
      cases (c == Value.type "enumerate")
      · wp_walk using q1
        exact ⟨_, rfl, h⟩
      · wp_walk using q1
        exact ⟨_, rfl, h⟩
    · wp_walk using q1
      exact ⟨_, rfl, h⟩
section
variable {prog : Program} {w : World} {A : Around} {E : Value → Shared → Prop} {s : Shared}
theorem call_enumB {v : Value} {o : Obj} {H : Heap → Prop} {Q : Value → Shared → Prop} (B : Begins v o H) (h1 : H s.heap)
    (h : ∀ h', IsEnum h' (s.heap.objs.size + 1) s.heap.objs.size 0 .none → h'.get? s.heap.objs.size = some o → h'.objs.size = s.heap.objs.size + 2 →
      (∀ b o, s.heap.get? b = some o → h'.get? b = some o) → Q (.ref (s.heap.objs.size + 1)) { s with heap := h' }) :
    wpAny (model prog w) A (call (.type "enumerate") [v]) Q E s := by
  refine callType_new F.called_enumerate (by decide) (F.typeCall_enumerate_1 _) (F.newCall_enumerate_1 _) (fun obj => F.args_object_init_2 obj _) F.entry_enumerate_new
    (meets_enum1B B) ⟨h1, ?_⟩
  have hz : (s.heap.push o).objs.size = s.heap.objs.size + 1 := Heap.size_push ..
  show _ ∧ _
  rw [hz]
  have he : IsEnum ((s.heap.push o).push { cls := .type "enumerate", data := .fields #[.none, .bool false, .ref s.heap.objs.size, rawInt 0, .none, .none] }) (s.heap.objs.size + 1) s.heap.objs.size 0 .none := by
    have := Heap.get?_push_size (s.heap.push o) (o := { cls := .type "enumerate", data := .fields #[.none, .bool false, .ref s.heap.objs.size, rawInt 0, .none, .none] }) rfl
    rw [hz] at this; exact this
  refine ⟨⟨_, he, rfl⟩, h _ he (Heap.get?_push_of_some _ (Heap.get?_push_size _ B.free)) (by rw [Heap.size_push, hz]) fun b o x => Heap.get?_push_of_some _ (Heap.get?_push_of_some _ x)⟩
end

section
variable {prog : Program} {w : World} {A : Around} {E : Value → Shared → Prop} {s : Shared}
theorem enumT_end {e it l : Addr} {i : Nat} {items : Array Value} {old : Value} {Q : Option Value → Shared → Prop} (hh : A.handled = none)
    (he : IsEnum s.heap e it i old) (hit : s.heap.IsTupleIter it l i) (hl : s.heap.IsTuple l items) (hx : items[i]? = none)
    (hQ : ∀ h', Heap.ExtBut it s.heap h' → Q none { s with heap := h' }) : wpAny (model prog w) A (pyNext (.ref e)) Q E s := by
  have hT : s.TypeIs (.ref e) "enumerate" := ⟨_, he, rfl⟩
  unfold pyNext
  refine wpAny_bind (wpAny_attempt (wpAny_callSpecial?_slot (name := Str.ofString "__next__") hT F.slot_enumerate_next
    (wpAny_call_entry F.slot_enumerate_next hT F.entry_enumerate_next ?_ (F.args_enumerate_next_1 _))))
  show wpAny _ _ (field (.ref e) 2 >>= _) _ _ _
  refine wpAny_bind (wpAny_field he rfl (x := .ref it) rfl ?_)
  refine wpAny_bind (wpAny_nextOf_tuple_end hh hit hl hx fun h' x he' hx' => ?_)
  obtain ⟨o, ho, hc⟩ := hx'
  refine wpAny_bind (wpAny_isInstance (T := "StopIteration") (b := true) ⟨o, ho, hc⟩ isSubtype_stop ?_)
  exact wpAny_pure (hQ _ he')
end

def IteT (K : PySem.W.Frag) (a : Addr) : It :=
  ⟨fun i H => ∃ (xs : List V) (x : V), SqT K H a xs ∧ xs[i]? = some x, fun i H v H' => ∃ T x, v = .ref T ∧ H T = none ∧ H' = upd H T (.tup [.int (i : Nat), x]) ∧ ∀ xs, SqT K H a xs → xs[i]? = some x, fun i H => ∃ xs : List V, SqT K H a xs ∧ xs.length ≤ i⟩
theorem turn_enumT {P : Program} {w : World} {K : PySem.W.Frag} {elts : List Expr} {kk : Nat} {tpos : Pos} (a e it : Addr) :
    Turn P w K (.Tuple elts kk tpos) (IteT K a) [e, it] e (fun i h => (∃ old, IsEnum h e it ((i : Nat) : Int) old) ∧ h.IsTupleIter it a i ∧ e ≠ it ∧ a ≠ it ∧ a ≠ e) where
  mem := by simp
  obj := fun i h st b hb => by
    obtain ⟨⟨old, he⟩, ⟨o, ho, hc, hd⟩, _⟩ := st
    have e' : b = e ∨ b = it := by simpa using hb
    rcases e' with z | z
    · rw [z]; exact ⟨_, he, fun v q => nomatch q⟩
    · rw [z]; exact ⟨o, ho, fun v q => by rw [hd] at q; cases q⟩
  keep := fun i h h' st k => let ⟨⟨old, he⟩, hi, hne⟩ := st; ⟨⟨old, k e (by simp) _ he⟩, hi.at fun o q => k it (by simp) o q, hne⟩
  item := by
    intro X hP hw hK hc i pins s σ H E I hf st hg
    subst hP hw hK
    obtain ⟨⟨old, he⟩, hit, hne, nai, nae⟩ := st
    obtain ⟨xs, x, hq, hx⟩ := hg
    obtain ⟨its, rv, p, hz⟩ := I.tuple hq
    obtain ⟨u, hu, ru⟩ := rv.get hx
    have hel : e < s.heap.objs.size := Heap.lt_size he
    have hil : it < s.heap.objs.size := by obtain ⟨_, q, _⟩ := hit; exact Heap.lt_size q
    have hlt : i < its.toArray.size := by
      have q := (List.getElem?_eq_some_iff.mp hu).1
      simpa using q
    refine wpAny_pyNext_enum_itemD (Draws.tuple (prog := X.prog) (w := X.w) (A := X.A.in1) (I.ok.hd hc) it a nai its.toArray) he ⟨hit, p⟩ hlt hne (by simp [hne, Ne.symm nae]) fun x' h' tk hx' ho st' hT hsz hk => ?_
    have ex : x' = u := by
      have q : its[i]? = some x' := by simpa using hx'
      rw [hu] at q
      exact (Option.some.inj q).symm
    subst ex
    refine ⟨_, rfl, wpAny_letOwnedTupleGo_enum (s := { s with heap := h', toks := tk + 1 }) ho fun h'' he' sb => ?_⟩
    have hT2 : h''.get? s.heap.objs.size = some { cls := .type "tuple", data := .seq #[.int i tk, x'] } := (sb.2 _ (Nat.ne_of_gt hel)).trans hT
    have new : ObjOk X.prog X.w (upd H s.heap.objs.size (.tup [.int (i : Nat), x])) h'' s.heap.objs.size (.tup [.int (i : Nat), x]) :=
      ⟨by show 2 ≤ sizeLine; decide, [.int i tk, x'], .cons ⟨_, rfl⟩ (.cons ru .nil), ⟨_, hT2, rfl, _, rfl⟩⟩
    have I1 : Inv X pins σ (upd H s.heap.objs.size (.tup [.int (i : Nat), x])) { s with heap := h'', toks := tk + 1 } :=
      I.turnedNew (ch := [e, it]) (fun b ob hb q => (sb.2 b (fun z => hb (by simp [z]))).trans (hk b ob (fun z => hb (by simp [z])) (fun z => hb (by simp [z])) q)) hf (Nat.le_refl _) new
    refine ⟨.ref s.heap.objs.size, _, I1, rfl, ⟨_, x, rfl, I.hok.fresh (Nat.le_refl _), rfl, fun ys hy => by rw [I.tuple_inj hy hq]; exact hx⟩, ⟨⟨x', ?_⟩, st'.1.at fun o q => (sb.2 it (Ne.symm hne)).trans q, hne, nai, nae⟩, fun b hb => ?_⟩
    · have e1 : ((i + 1 : Nat) : Int) = (i : Int) + 1 := by omega
      rw [e1]; exact he'
    · have hb' : b < s.heap.objs.size := by
        have e' : b = e ∨ b = it := by simpa using hb
        rcases e' with z | z
        · rw [z]; exact hel
        · rw [z]; exact hil
      rw [upd_ne (Nat.ne_of_lt hb')]
      exact (hf b hb).1
  done := by
    intro X hP hw hK hc i pins s σ H E I hf st hg
    subst hP hw hK
    obtain ⟨⟨old, he⟩, hit, hne, nai, nae⟩ := st
    obtain ⟨xs, hq, hx⟩ := hg
    obtain ⟨its, rv, p, hz⟩ := I.tuple hq
    obtain ⟨f0, f1, f2, f3, f4, f5⟩ := hf it (by simp)
    have hl := rv.length
    exact enumT_end (I.ok.hd hc) he hit p (by simp; omega) fun h' eb => ⟨rfl, I.turned (t' := s.toks) (fun b o hb q => eb b o hb q) f0 f1 f3 f4 f5⟩
  self := fun A i s Q E st h => let ⟨⟨_, he⟩, _⟩ := st; wpAny_pyIter_enum he h
def iEnumU (K : PySem.W.Frag) (ta : TA) : TI := fun σ H R => ta σ H fun vs H1 => ∃ a xs, vs = [.ref a] ∧ ((SqL K H1 a xs ∧ R (Ite K a) H1) ∨ (SqT K H1 a xs ∧ R (IteT K a) H1))
theorem pi_enumU {X : Cx} {e : Expr} {ta : TA} {p pos tpos : Pos} {elts : List Expr} {kk : Nat} (hg : Gl X "enumerate") (hm : X.mg "enumerate" = none) (ha : PA X [e] ta) (hs : starEach [e] X.env = [(false, eval e X.env)] := by rfl) :
    PI X (.Tuple elts kk tpos) (.Call (.Name "enumerate" p) [e] [] pos) (iEnumU X.K ta) := by
  refine ⟨fun pins s σ H R I h => ?_⟩
  refine Call_ (ld_blt I hg hm boot_enumerate (PyProof.Rows.callWith_type1 (thn (ha.run pos pins s σ H _ I h) fun us s1 ⟨vs, H1, I1, r1, q1⟩ => ?_) hs rfl))
  obtain ⟨a, xs, ex, q1⟩ := q1
  subst ex
  cases r1 with
  | cons r rr =>
    cases rr
    cases r
    have fr : ∀ b, b ∈ [s1.heap.objs.size + 1, s1.heap.objs.size] → FpOk X pins H1 b := fun b hb => by
      have e' : b = s1.heap.objs.size + 1 ∨ b = s1.heap.objs.size := by simpa using hb
      have hle : s1.heap.objs.size ≤ b := by
        rcases e' with z | z
        · rw [z]; exact Nat.le_add_right _ _
        · rw [z]; exact Nat.le_refl _
      exact I1.fpOk hle (I1.hok.fresh hle)
    rcases q1 with ⟨hq, q⟩ | ⟨hq, q⟩
    · obtain ⟨its, rv, p', hz⟩ := I1.list hq
      refine call_enumerate_list p'.isList fun h' he hit hsz hk => wpAny_pyIter_enum he ?_
      have I2 : Inv X pins σ H1 { s1 with heap := h' } := I1.kept (t' := s1.toks) hk
      exact ⟨s1.heap.objs.size + 1, [s1.heap.objs.size + 1, s1.heap.objs.size], _, _, H1, rfl, I2, turn_enum a (s1.heap.objs.size + 1) s1.heap.objs.size, ⟨⟨.none, he⟩, hit, Nat.succ_ne_self _⟩, fr, q⟩
    · obtain ⟨its, rv, p', hz⟩ := I1.tuple hq
      have la : a < s1.heap.objs.size := p'.lt
      refine call_enumB (begins_tuple a its.toArray) (show s1.heap.IsTuple a its.toArray from p') fun h' he hit hsz hk => wpAny_pyIter_enum he ?_
      have I2 : Inv X pins σ H1 { s1 with heap := h' } := I1.kept (t' := s1.toks) hk
      exact ⟨s1.heap.objs.size + 1, [s1.heap.objs.size + 1, s1.heap.objs.size], _, _, H1, rfl, I2, turn_enumT a (s1.heap.objs.size + 1) s1.heap.objs.size, ⟨⟨.none, he⟩, ⟨_, hit, rfl, rfl⟩, Nat.succ_ne_self _, Nat.ne_of_lt la, Nat.ne_of_lt (Nat.lt_succ_of_lt la)⟩, fr, q⟩
theorem walk_enumT {K : PySem.W.Frag} {a : Addr} {xs : List V} : Walk (IteT K a) xs.length (fun H => SqT K H a xs) (YPair (fun i => some (.int (i : Nat))) (fun i => xs[i]?)) := by
  refine ⟨fun i _ hi q => ⟨xs, xs[i], q, by simp [hi]⟩, fun _ q => ⟨xs, q, Nat.le_refl _⟩, fun i H v H' _ q y => ?_⟩
  obtain ⟨T, x, h1, h2, h3, h4⟩ := y
  exact ⟨T, .int (i : Nat), x, h1, h2, h3, rfl, h4 xs q⟩
theorem walk_zipT {K : PySem.W.Frag} {a b : Addr} {xs ys : List V} {n : Nat} (hn : n = min xs.length ys.length) : Walk (RZ.ItzT K a b) n (fun H => SqT K H a xs ∧ SqT K H b ys) (YPair (fun i => xs[i]?) (fun i => ys[i]?)) := by
  subst hn
  refine ⟨fun i _ hi q => ?_, fun _ q => ⟨xs, ys, q.1, q.2, by omega⟩, fun i H v H' _ q y => ?_⟩
  · have h1 : i < xs.length := by omega
    have h2 : i < ys.length := by omega
    exact ⟨xs, ys, xs[i], ys[i], q.1, q.2, by simp [h1], by simp [h2]⟩
  · obtain ⟨T, x, z, h1, h2, h3, h4, h5⟩ := y
    exact ⟨T, x, z, h1, h2, h3, h4 xs q.1, h5 ys q.2⟩

end Ps

/-! PsC: the heap as a shared part that only grows and a list of owned objects; the steps of a reading, one a construct. -/
namespace Ps
open PySem PySem.Spec PyProof.Rows L2

/-! ### shared and owned -/
/-- S: objects that the code at hand owns; G: what is shared, and stays -/
def Wd (S : List (Addr × HO)) (G H : Hp) : Prop := Same G H ∧ (∀ x ∈ S, H x.1 = some x.2 ∧ G x.1 = none) ∧ (S.map Prod.fst).Nodup
structure Grow (H G H' G' : Hp) : Prop where
  gg : Same G G'
  gh : Same G' H'
  hh : Same H H'
  nn : ∀ a, H a ≠ none → G a = none → G' a = none
section
variable {S A B : List (Addr × HO)} {G G' G'' H H' H'' : Hp} {a p l : Addr} {o o' : HO} {x : Addr × HO} {K : PySem.W.Frag} {xs : List V}
theorem same_new (hp : H p = none) : Same H (upd H p o) := fun b u e => by
  rw [upd_ne (ne_of_none e hp)]
  exact e
theorem same_mut (v : Same G H) (h : G l = none) : Same G (upd H l o) := fun b u e => by
  rw [upd_ne (ne_of_none e h)]
  exact v b u e
theorem same_l (e : Same H H') (h : SqL K H a xs) : SqL K H' a xs := e.seq h
theorem same_t (e : Same H H') (h : SqT K H a xs) : SqT K H' a xs := by
  rcases h with (h | ⟨o, h⟩) | h
  · exact .inl (.inl (e _ _ h))
  · exact .inl (.inr ⟨o, e _ _ h⟩)
  · exact .inr h
theorem Grow.refl (v : Same G H) : Grow H G H G := ⟨Same.refl _, v, Same.refl _, fun _ _ h => h⟩
theorem Grow.same (v : Same G H) (s : Same H H') : Grow H G H' G := ⟨Same.refl _, v.trans s, s, fun _ _ h => h⟩
theorem Grow.new (v : Same G H) (hp : H p = none) : Grow H G (upd H p o) (upd G p o) := by
  have gp : G p = none := v.free hp
  refine ⟨same_new gp, fun b u e => ?_, same_new hp, fun b hb hg => ?_⟩
  · by_cases q : b = p
    · subst q; rw [upd_same] at e ⊢; exact e
    · rw [upd_ne q] at e ⊢; exact v b u e
  · have q : b ≠ p := fun z => hb (z ▸ hp)
    rw [upd_ne q]; exact hg
theorem Grow.trans (a : Grow H G H' G') (b : Grow H' G' H'' G'') : Grow H G H'' G'' :=
  ⟨a.gg.trans b.gg, b.gh, a.hh.trans b.hh, fun c hc hg => b.nn c (fun z => hc (a.hh.free z)) (a.nn c hc hg)⟩
theorem Wd.v (w : Wd S G H) : Same G H := w.1
theorem Wd.nil (v : Same G H) : Wd [] G H := ⟨v, fun x h => absurd h (by simp), List.nodup_nil⟩
theorem Wd.mem (w : Wd S G H) (h : (a, o) ∈ S) : H a = some o := (w.2.1 _ h).1
theorem Wd.hd (w : Wd ((a, o) :: S) G H) : H a = some o := w.mem List.mem_cons_self
theorem Wd.sd (w : Wd (x :: (a, o) :: S) G H) : H a = some o := w.mem (List.mem_cons_of_mem _ List.mem_cons_self)
theorem Wd.td {y : Addr × HO} (w : Wd (x :: y :: (a, o) :: S) G H) : H a = some o := w.mem (List.mem_cons_of_mem _ (List.mem_cons_of_mem _ List.mem_cons_self))
theorem Wd.same (w : Wd S G H) (s : Same H H') : Wd S G H' := ⟨w.1.trans s, fun y hy => ⟨s _ _ (w.2.1 y hy).1, (w.2.1 y hy).2⟩, w.2.2⟩
theorem Wd.grow (w : Wd S G H) (g : Grow H G H' G') : Wd S G' H' :=
  ⟨g.gh, fun y hy => ⟨g.hh _ _ (w.2.1 y hy).1, g.nn _ (by rw [(w.2.1 y hy).1]; simp) (w.2.1 y hy).2⟩, w.2.2⟩
theorem Wd.own' (w : Wd S G H) (s : Same H H') (hp : H p = none) (h : H' p = some o) : Wd ((p, o) :: S) G H' := by
  refine ⟨w.1.trans s, fun y hy => ?_, ?_⟩
  · rcases List.mem_cons.mp hy with rfl | hy
    · exact ⟨h, w.1.free hp⟩
    · exact ⟨s _ _ (w.2.1 y hy).1, (w.2.1 y hy).2⟩
  · rw [List.map_cons]
    refine List.nodup_cons.mpr ⟨fun m => ?_, w.2.2⟩
    obtain ⟨y, hy, e⟩ := List.mem_map.mp m
    have q := (w.2.1 y hy).1
    rw [e, hp] at q; cases q
theorem Wd.own (w : Wd S G H) (hp : H p = none) : Wd ((p, o) :: S) G (upd H p o) := w.own' (same_new hp) hp upd_same
theorem Wd.new (w : Wd S G H) (hp : H p = none) : Wd S (upd G p o) (upd H p o) := w.grow (Grow.new w.1 hp)
theorem Wd.perm (w : Wd S G H) (h : B.Perm S) : Wd B G H := ⟨w.1, fun y hy => w.2.1 y (h.mem_iff.mp hy), (h.map _).nodup_iff.mpr w.2.2⟩
theorem Wd.drop (w : Wd (x :: S) G H) : Wd S G H := ⟨w.1, fun y hy => w.2.1 y (List.mem_cons_of_mem _ hy), (List.nodup_cons.mp w.2.2).2⟩
theorem Wd.dropR (w : Wd (A ++ B) G H) : Wd A G H := ⟨w.1, fun y hy => w.2.1 y (List.mem_append_left _ hy), by
  have h := w.2.2
  rw [List.map_append] at h
  exact (List.nodup_append.mp h).1⟩
theorem Wd.put (w : Wd ((l, o) :: S) G H) : Wd ((l, o') :: S) G (upd H l o') := by
  have hl := (w.2.1 _ List.mem_cons_self).2
  have nd := List.nodup_cons.mp w.2.2
  refine ⟨same_mut w.1 hl, fun y hy => ?_, w.2.2⟩
  rcases List.mem_cons.mp hy with rfl | hy
  · exact ⟨upd_same, hl⟩
  · have q : y.1 ≠ l := fun z => nd.1 (List.mem_map.mpr ⟨y, hy, z⟩)
    rw [upd_ne q]
    exact w.2.1 y (List.mem_cons_of_mem _ hy)
theorem Wd.swap {y : Addr × HO} (w : Wd (x :: y :: S) G H) : Wd (y :: x :: S) G H := w.perm (List.Perm.swap _ _ _)
theorem Wd.put2 (w : Wd (x :: (l, o) :: S) G H) : Wd (x :: (l, o') :: S) G (upd H l o') := w.swap.put.swap
theorem Wd.rot3 {y z : Addr × HO} (w : Wd (x :: y :: z :: S) G H) : Wd (z :: x :: y :: S) G H :=
  w.perm ((List.Perm.swap _ _ _).trans (List.Perm.cons _ (List.Perm.swap _ _ _)))
theorem Wd.rot3' {y z : Addr × HO} (w : Wd (z :: x :: y :: S) G H) : Wd (x :: y :: z :: S) G H :=
  w.perm ((List.Perm.cons _ (List.Perm.swap _ _ _)).trans (List.Perm.swap _ _ _))
theorem Wd.put3 {y : Addr × HO} (w : Wd (x :: y :: (l, o) :: S) G H) : Wd (x :: y :: (l, o') :: S) G (upd H l o') := w.rot3.put.rot3'
theorem Wd.share (w : Wd ((p, o) :: S) G H) : Wd S (upd G p o) H := by
  have nd := List.nodup_cons.mp w.2.2
  refine ⟨fun b u e => ?_, fun y hy => ⟨(w.2.1 y (List.mem_cons_of_mem _ hy)).1, ?_⟩, nd.2⟩
  · by_cases q : b = p
    · subst q; rw [upd_same] at e; rw [← e]; exact w.hd
    · rw [upd_ne q] at e; exact w.1 b u e
  · have q : y.1 ≠ p := fun z => nd.1 (List.mem_map.mpr ⟨y, hy, z⟩)
    rw [upd_ne q]
    exact (w.2.1 y (List.mem_cons_of_mem _ hy)).2
theorem Wd.gp (w : Wd ((p, o) :: S) G H) : G p = none := (w.2.1 _ List.mem_cons_self).2
theorem Wd.gsame (w : Wd ((p, o) :: S) G H) (o' : HO) : Same G (upd G p o') := same_new w.gp
/-- an owned one ahead of two -/
theorem Wd.own3 {y : Addr × HO} (w : Wd (x :: y :: S) G H) (s : Same H H') (hp : H p = none) (h : H' p = some o) : Wd (x :: y :: (p, o) :: S) G H' := (w.own' s hp h).rot3'
end

/-! ### data -/
section
variable {K : PySem.W.Frag} {H H' : Hp}
mutual
theorem dp_mono (s : Same H H') : ∀ (d : PyData) (v : V), Dp K H v d → Dp K H' v d
  | _, _, .non => .non
  | _, _, .bl b => .bl b
  | _, _, .int i => .int i
  | _, _, .str x => .str x
  | .list ds, _, .lst hq ha => .lst (same_l s hq) (dpAll_mono s ds _ ha)
  | .tuple ds, _, .tup hq ha => .tup (same_t s hq) (dpAll_mono s ds _ ha)
theorem dpAll_mono (s : Same H H') : ∀ (ds : List PyData) (vs : List V), DpAll K H vs ds → DpAll K H' vs ds
  | [], _, .nil => .nil
  | d :: ds, _, .cons h t => .cons (dp_mono s d _ h) (dpAll_mono s ds _ t)
end
theorem dpAll_len : ∀ {vs : List V} {ds : List PyData}, DpAll K H vs ds → vs.length = ds.length
  | _, _, .nil => rfl
  | _, _, .cons _ t => by rw [List.length_cons, List.length_cons, dpAll_len t]
theorem dpAll_get : ∀ {vs : List V} {ds : List PyData} {i : Nat} {v : V} {d : PyData}, DpAll K H vs ds → vs[i]? = some v → ds[i]? = some d → Dp K H v d
  | _, _, _, _, _, .nil, h, _ => by simp at h
  | _, _, 0, _, _, .cons h _, e, e' => by
    simp at e e'; subst e; subst e'; exact h
  | _, _, i + 1, _, _, .cons _ t, e, e' => dpAll_get (i := i) t (by simpa using e) (by simpa using e')
theorem dpAll_ints : ∀ (ns : List Int), DpAll K H (ns.map V.int) (ns.map PyData.int)
  | [] => .nil
  | _ :: r => .cons (.int _) (dpAll_ints r)
/-- a list of ints -/
def dI (ns : List Int) : PyData := .list (ns.map PyData.int)
theorem dp_ints {a : Addr} {ns : List Int} (h : H a = some (.lst (ns.map V.int))) : Dp K H (.ref a) (dI ns) := .lst (SqL.of h) (dpAll_ints ns)
theorem dp_intsT {a : Addr} {ns : List Int} (h : H a = some (.tup (ns.map V.int))) : Dp K H (.ref a) (.tuple (ns.map PyData.int)) := .tup (SqT.of h) (dpAll_ints ns)
end

/-! ### the steps: statements -/
section
variable {t u : TS} {D : Ends} {σ : L2.St} {H : Hp} {te : TE} {g : TG} {i : Nat} {v x y : V} {K : PySem.W.Frag}
theorem w_seq (h : t ⟨u D, D.rt, D.bk, D.ct⟩ σ H) : tSeq t u D σ H := h
theorem w_asg (h : te σ H fun x H1 => g x σ H1 D.nx) : tAsg te g D σ H := h
theorem w_ret (h : te σ H D.rt) : tRet te D σ H := h
theorem w_retN (h : D.rt .non H) : tRetN D σ H := h
theorem w_drop (h : te σ H fun _ H1 => D.nx σ H1) : tDrop te D σ H := h
theorem w_ifs {c : TT} (h : c σ H fun b H1 => if b = true then t D σ H1 else u D σ H1) : tIfS c t u D σ H := h
theorem w_next (h : D.nx σ H) : tNext D σ H := h
theorem w_brk (h : D.bk σ H) : tBreak D σ H := h
theorem w_cont (h : D.ct σ H) : tCont D σ H := h
theorem w_aug {ti : TIp} (hx : σ[i]? = some (some x)) (h : te σ H fun y H1 => ti x y H1 fun z H2 => D.nx (σ.set i (some z)) H2) : tAug i te ti D σ H := ⟨x, hx, h⟩
theorem w_par {ta : TA} {j : Nat} (h : ta σ H fun vs H1 => ∃ v w, vs = [v, w] ∧ D.nx ((σ.set i (some v)).set j (some w)) H1) : tPar i j ta D σ H := h
theorem w_par2 {j : Nat} {v w : V} (h : D.nx ((σ.set i (some v)).set j (some w)) H) : ∃ v' w', [v, w] = [v', w'] ∧ D.nx ((σ.set i (some v')).set j (some w')) H := ⟨v, w, rfl, h⟩
theorem w_for {wi : TI} {tb : TS} (h : wi σ H fun J H1 => ∃ W : Nat → Nat → L2.St → Hp → Prop, (∃ m, W 0 m σ H1) ∧ ∀ i m σ H, W i m σ H →
    (J.stop i H ∧ D.nx σ H) ∨ (J.go i H ∧ ∃ N : L2.St → Hp → Prop, (∀ σ' H', N σ' H' → ∃ m', m' < m ∧ W (i + 1) m' σ' H') ∧ ∀ x H', J.yld i H x H' → g x σ H' fun σ2 H2 => tb { D with nx := N, ct := N, bk := D.nx } σ2 H2)) : tFor wi g tb D σ H := h
/-! targets -/
theorem w_gname {Q : L2.St → Hp → Prop} (h : Q (σ.set i (some v)) H) : gName i v σ H Q := h
theorem w_gnil {Q : L2.St → Hp → Prop} (h : Q σ H) : gNil [] σ H Q := ⟨rfl, h⟩
theorem w_gcons {gs : TGs} {r : List V} {Q : L2.St → Hp → Prop} (h : g v σ H fun σ' H' => gs r σ' H' Q) : gCons g gs (v :: r) σ H Q := ⟨v, r, rfl, h⟩
theorem w_gtup {gs : TGs} {n : Nat} {a : Addr} {xs : List V} {Q : L2.St → Hp → Prop} (ht : SqT K H a xs) (hn : xs.length = n) (h : gs xs σ H Q) : gTup K n gs (.ref a) σ H Q := ⟨a, xs, rfl, ht, hn, h⟩
theorem w_gsub {to ti : TE} {s : TSet} {Q : L2.St → Hp → Prop} (h : to σ H fun o H1 => ti σ H1 fun i H2 => s o i v H2 fun H3 => Q σ H3) : gSub to ti s v σ H Q := h
/-! expressions -/
variable {Q : VK} {ta tb tc : TE} {r : R2}
theorem w_var (hx : σ[i]? = some (some v)) (h : Q v H) : tVar i σ H Q := ⟨v, hx, h⟩
theorem w_c (h : Q v H) : tC v σ H Q := h
theorem w_op (h : ta σ H fun x H1 => tb σ H1 fun y H2 => r x y H2 Q) : tOp r ta tb σ H Q := h
theorem w_un {r1 : V → Hp → VK → Prop} (h : ta σ H fun x H1 => r1 x H1 Q) : tUn r1 ta σ H Q := h
theorem w_cb {tl : TA} {rc : List V → Hp → VK → Prop} (h : tl σ H fun vs H1 => rc vs H1 Q) : tCB rc tl σ H Q := h
theorem w_bm {tl : TA} {T : String} {rm : V → List V → Hp → VK → Prop} (h : ta σ H fun x H1 => tyV K T x H1 ∧ tl σ H1 fun xs H2 => rm x xs H2 Q) : tBM K T rm ta tl σ H Q := h
theorem w_bm0 {T : String} {rm : V → List V → Hp → VK → Prop} (h : ta σ H fun x H1 => tyV K T x H1 ∧ rm x [] H1 Q) : tBM0 K T rm ta σ H Q := h
theorem w_tyl {a : Addr} {xs : List V} {P : Prop} (hl : H a = some (.lst xs)) (h : P) : tyV K "list" (.ref a) H ∧ P := ⟨.inl ⟨rfl, _, SqL.of hl⟩, h⟩
theorem w_lst {tl : TA} (h : tl σ H fun xs H1 => xs.length ≤ sizeLine ∧ ∀ p, H1 p = none → Q (.ref p) (upd H1 p (.lst xs))) : tLst tl σ H Q := h
theorem w_tup {tl : TA} (h : tl σ H fun xs H1 => xs.length ≤ sizeLine ∧ ∀ p, H1 p = none → Q (.ref p) (upd H1 p (.tup xs))) : tTup tl σ H Q := h
theorem w_call {tl : TA} {sp : Sp} {dvs : List V} {E : XK} (h : tl σ H fun vs H1 => sp (vs ++ dvs) H1 Q E) : tCall sp dvs E tl σ H Q := h
theorem w_callS {tl : TA} {sp : Sp} {E : L2.St → XK} (h : tl σ H fun vs H1 => sp vs H1 Q (E σ)) : tCallS sp E tl σ H Q := h
theorem w_sl {tl th : TO} {rs : V → Option Int → Option Int → Hp → VK → Prop} (h : te σ H fun x H1 => tl σ H1 fun l H2 => th σ H2 fun u H3 => rs x l u H3 Q) : tSl rs te tl th σ H Q := h
theorem w_nopart {P : Option Int → Hp → Prop} (h : P none H) : tNoPart σ H P := h
theorem w_part {P : Option Int → Hp → Prop} (h : te σ H fun x H1 => ∃ i, x = .int i ∧ P (some i) H1) : tPart te σ H P := h
theorem w_partI {P : Int → Prop} {i : Int} (h : P i) : ∃ j, V.int i = .int j ∧ P j := ⟨i, rfl, h⟩
theorem w_nil {P : List V → Hp → Prop} (h : P [] H) : tNil σ H P := h
theorem w_cons {tl : TA} {P : List V → Hp → Prop} (h : ta σ H fun x H1 => tl σ H1 fun xs H2 => P (x :: xs) H2) : tCons ta tl σ H P := h
theorem w_tif {c : TT} (h : c σ H fun b H1 => if b = true then ta σ H1 Q else tb σ H1 Q) : tIf c ta tb σ H Q := h
theorem w_andV (h : ta σ H fun x H1 => ∃ c, x = .bl c ∧ if c = true then tb σ H1 Q else Q (.bl false) H1) : tAndV ta tb σ H Q := h
theorem w_orV (h : ta σ H fun x H1 => ∃ c, x = .bl c ∧ if c = true then Q (.bl true) H1 else tb σ H1 Q) : tOrV ta tb σ H Q := h
theorem w_notV (h : ta σ H fun x H1 => ∃ c, x = .bl c ∧ Q (.bl (!c)) H1) : tNotV ta σ H Q := h
theorem w_blE {P : Bool → Prop} {b : Bool} (h : P b) : ∃ c, V.bl b = .bl c ∧ P c := ⟨b, rfl, h⟩
/-! tests -/
variable {P : Bool → Hp → Prop} {c d : TT}
theorem w_test (h : te σ H fun x H' => ∃ k, x = .bl k ∧ P k H') : tTest te σ H P := h
theorem w_tru (h : te σ H fun x H' => ∃ k, TruV K x H' k ∧ P k H') : tTru K te σ H P := h
theorem w_truB {b : Bool} {P : Bool → Prop} (h : P b) : ∃ k, TruV K (.bl b) H k ∧ P k := ⟨b, rfl, h⟩
theorem w_and (h : c σ H fun b H1 => if b = true then d σ H1 P else P false H1) : tAnd c d σ H P := h
theorem w_or (h : c σ H fun b H1 => if b = true then P true H1 else d σ H1 P) : tOr c d σ H P := h
theorem w_not (h : c σ H fun b H1 => P (!b) H1) : tNot c σ H P := h
theorem w_yes (h : P true H) : tYes σ H P := h
end

/-! ### the steps: operators by the values at hand -/
section
variable {H : Hp} {Q : VK} {K : PySem.W.Frag} {i j : Int} {a b : Addr} {xs ys : List V} {v : V}
theorem w_addI (h : Q (.int (i + j)) H) : rAddU K (.int i) (.int j) H Q := .inl (.inl ⟨i, j, rfl, rfl, h⟩)
theorem w_addS {x y : Str} (hz : x.length + y.length ≤ sizeLine) (h : Q (.str (x ++ y)) H) : rAddU K (.str x) (.str y) H Q := .inl (.inr ⟨x, y, rfl, rfl, hz, h⟩)
theorem w_addL (ha : H a = some (.lst xs)) (hb : H b = some (.lst ys)) (hz : xs.length + ys.length ≤ sizeLine) (h : ∀ p, H p = none → Q (.ref p) (upd H p (.lst (xs ++ ys)))) : rAddU K (.ref a) (.ref b) H Q :=
  .inr (.inl ⟨a, b, xs, ys, rfl, rfl, ha, hb, hz, h⟩)
theorem w_subI (h : Q (.int (i - j)) H) : rSubU (.int i) (.int j) H Q := ⟨i, j, rfl, rfl, h⟩
theorem w_mulI (hc : CMul i j) (h : Q (.int (i * j)) H) : rMulU (.int i) (.int j) H Q := .inl (.inl ⟨i, j, rfl, rfl, hc, h⟩)
theorem w_mulW (hc : CMulW i j) (h : Q (.int (i * j)) H) : rMulU (.int i) (.int j) H Q := .inl (.inr ⟨i, j, rfl, rfl, hc, h⟩)
theorem w_divI (hc : CDiv i j) (h : Q (.int (i / j)) H) : rDivU (.int i) (.int j) H Q := .inl ⟨i, j, rfl, rfl, hc, h⟩
theorem w_divW (hc : CDivW i j) (h : Q (.int (i / j)) H) : rDivU (.int i) (.int j) H Q := .inr ⟨i, j, rfl, rfl, hc, h⟩
theorem w_modI (hc : 0 < j) (h : Q (.int (i % j)) H) : rModU (.int i) (.int j) H Q := ⟨i, j, rfl, rfl, hc, h⟩
theorem w_modF (hc : 0 < j) (h : ∀ z, 0 ≤ z → z < j → Q (.int z) H) : rModU (.int i) (.int j) H Q := w_modI hc (h _ (Int.emod_nonneg _ (by omega)) (Int.emod_lt_of_pos _ hc))
theorem w_powI (hc : CPow i j) (h : Q (.int (i ^ j.toNat)) H) : rPowU (.int i) (.int j) H Q := ⟨i, j, rfl, rfl, hc, h⟩
theorem w_negI (h : Q (.int (-i)) H) : rNeg (.int i) H Q := ⟨i, rfl, h⟩
theorem w_ixL (hl : SqL K H a xs) (hi : atI xs i = some v) (h : Q v H) : rIxU K (.ref a) (.int i) H Q := .inl (.inl ⟨a, xs, i, v, rfl, rfl, hl, hi, h⟩)
theorem w_ixT (hl : SqT K H a xs) (hi : atI xs i = some v) (h : Q v H) : rIxU K (.ref a) (.int i) H Q := .inl (.inr ⟨a, xs, i, v, rfl, rfl, hl, hi, h⟩)
theorem w_ixS {z : Str} {c : Nat} (hz : z.length ≤ sizeLine) (hi : atI z.cps.toList i = some c) (h : Q (.str ⟨#[c]⟩) H) : rIxU K (.str z) (.int i) H Q := .inr (.inl ⟨z, i, c, rfl, rfl, hz, hi, h⟩)
theorem w_ixDs {kvs : List (Key × V)} {x : Str} (hd : H a = some (.dK kvs)) (hv : valV kvs (Sum.inr x) = some v) (h : Q v H) : rIxU K (.ref a) (.str x) H Q :=
  .inr (.inr ⟨a, v, rfl, by have g := DGet.k (k := Sum.inr x) hd; rw [hv] at g; exact g, h⟩)
theorem w_ixDi {kvs : List (Key × V)} (hd : H a = some (.dK kvs)) (hv : valV kvs (Sum.inl i) = some v) (h : Q v H) : rIxU K (.ref a) (.int i) H Q :=
  .inr (.inr ⟨a, v, rfl, by have g := DGet.k (k := Sum.inl i) hd; rw [hv] at g; exact g, h⟩)
theorem w_setDs {kvs : List (Key × V)} {x : Str} {P : Hp → Prop} (hd : H a = some (.dK kvs)) (hz : kvs.length < sizeLine) (h : P (upd H a (.dK (putK kvs (Sum.inr x) v)))) : rSetU (.ref a) (.str x) v H P :=
  .inr ⟨a, _, rfl, DPut.k (k := Sum.inr x) hd hz, h⟩
theorem w_setL {P : Hp → Prop} {k : Nat} (hd : H a = some (.lst xs)) (hi : ixN xs.length i = some k) (h : P (upd H a (.lst (xs.set k v)))) : rSetU (.ref a) (.int i) v H P :=
  .inl ⟨a, xs, i, k, rfl, rfl, hd, hi, h⟩
theorem w_eqI (h : Q (.bl (decide (i = j))) H) : rEqU K (.int i) (.int j) H Q := .inl ⟨rfl, by
  have e : decide (V.int i = V.int j) = decide (i = j) := by simp
  rw [e]; exact h⟩
theorem w_neI (h : Q (.bl (!decide (i = j))) H) : rNeU K (.int i) (.int j) H Q := .inl ⟨rfl, by
  have e : decide (V.int i = V.int j) = decide (i = j) := by simp
  rw [e]; exact h⟩
theorem w_eqS {x y : Str} (h : Q (.bl (decide (x = y))) H) : rEqU K (.str x) (.str y) H Q := .inl ⟨rfl, by
  have e : decide (V.str x = V.str y) = decide (x = y) := by simp
  rw [e]; exact h⟩
theorem w_neS {x y : Str} (h : Q (.bl (!decide (x = y))) H) : rNeU K (.str x) (.str y) H Q := .inl ⟨rfl, by
  have e : decide (V.str x = V.str y) = decide (x = y) := by simp
  rw [e]; exact h⟩
theorem w_eqB {x y : Bool} (h : Q (.bl (decide (x = y))) H) : rEqU K (.bl x) (.bl y) H Q := .inl ⟨rfl, by
  have e : decide (V.bl x = V.bl y) = decide (x = y) := by simp
  rw [e]; exact h⟩
theorem w_neB {x y : Bool} (h : Q (.bl (!decide (x = y))) H) : rNeU K (.bl x) (.bl y) H Q := .inl ⟨rfl, by
  have e : decide (V.bl x = V.bl y) = decide (x = y) := by simp
  rw [e]; exact h⟩
theorem w_eqD {x y : V} {d e : PyData} (hd : Dp K H x d) (he : Dp K H y e) (sd : SeqAt.shaped d = true) (se : SeqAt.shaped e = true) (h : Q (.bl (PyData.eqv d e)) H) : rEqU K x y H Q := .inr ⟨d, e, hd, he, sd, se, h⟩
theorem w_neD {x y : V} {d e : PyData} (hd : Dp K H x d) (he : Dp K H y e) (sd : SeqAt.shaped d = true) (se : SeqAt.shaped e = true) (h : Q (.bl (!PyData.eqv d e)) H) : rNeU K x y H Q := .inr ⟨d, e, hd, he, sd, se, h⟩
theorem w_ltI (h : Q (.bl (decide (i < j))) H) : rLtU K (.int i) (.int j) H Q := .inl ⟨i, j, rfl, rfl, h⟩
theorem w_leI (h : Q (.bl (decide (i ≤ j))) H) : rLeU (.int i) (.int j) H Q := ⟨i, j, rfl, rfl, h⟩
theorem w_gtI (h : Q (.bl (decide (j < i))) H) : rGtU (.int i) (.int j) H Q := ⟨i, j, rfl, rfl, h⟩
theorem w_geI (h : Q (.bl (decide (j ≤ i))) H) : rGeU (.int i) (.int j) H Q := ⟨i, j, rfl, rfl, h⟩
theorem w_isN {x : V} (h : Q (.bl (decide (x = .non))) H) : rIsN x .non H Q := ⟨rfl, h⟩
theorem w_isNn (h : Q (.bl true) H) : rIsN .non .non H Q := ⟨rfl, by rw [decide_eq_true rfl]; exact h⟩
theorem w_isNi (h : Q (.bl false) H) : rIsN (.int i) .non H Q := ⟨rfl, by rw [decide_eq_false (by simp)]; exact h⟩
theorem w_isNs {z : Str} (h : Q (.bl false) H) : rIsN (.str z) .non H Q := ⟨rfl, by rw [decide_eq_false (by simp)]; exact h⟩
theorem w_isNr (h : Q (.bl false) H) : rIsN (.ref a) .non H Q := ⟨rfl, by rw [decide_eq_false (by simp)]; exact h⟩
theorem w_isNb {k : Bool} (h : Q (.bl false) H) : rIsN (.bl k) .non H Q := ⟨rfl, by rw [decide_eq_false (by simp)]; exact h⟩
theorem w_ntNn (h : Q (.bl false) H) : rNotN .non .non H Q := ⟨rfl, by rw [decide_eq_true rfl]; exact h⟩
theorem w_ntNi (h : Q (.bl true) H) : rNotN (.int i) .non H Q := ⟨rfl, by rw [decide_eq_false (by simp)]; exact h⟩
theorem w_ntNs {z : Str} (h : Q (.bl true) H) : rNotN (.str z) .non H Q := ⟨rfl, by rw [decide_eq_false (by simp)]; exact h⟩
theorem w_ntNr (h : Q (.bl true) H) : rNotN (.ref a) .non H Q := ⟨rfl, by rw [decide_eq_false (by simp)]; exact h⟩
theorem w_neBf {x y : Bool} (e : x = y) (h : Q (.bl false) H) : rNeU K (.bl x) (.bl y) H Q := .inl ⟨rfl, by subst e; rw [decide_eq_true rfl]; exact h⟩
theorem w_eqBt {x y : Bool} (e : x = y) (h : Q (.bl true) H) : rEqU K (.bl x) (.bl y) H Q := .inl ⟨rfl, by subst e; rw [decide_eq_true rfl]; exact h⟩
theorem w_notN {x : V} (h : Q (.bl (!decide (x = .non))) H) : rNotN x .non H Q := ⟨rfl, h⟩
theorem w_ipaI (h : Q (.int (i + j)) H) : ipAddU K (.int i) (.int j) H Q := .inl ⟨i, j, rfl, rfl, h⟩
theorem w_ipsI {f : Int → Int → Int} (h : Q (.int (f i j)) H) : ipI f (.int i) (.int j) H Q := ⟨i, j, rfl, rfl, h⟩
theorem w_ipm (hc : CMul i j ∨ CMulW i j) (h : Q (.int (i * j)) H) : ipMulU (.int i) (.int j) H Q := ⟨i, j, rfl, rfl, hc, h⟩
/-! calls -/
theorem w_lenL (hl : SqL K H a xs) (h : Q (.int xs.length) H) : rLenU K [.ref a] H Q := .inl ⟨_, _, rfl, .inl ⟨xs, hl, rfl⟩, h⟩
theorem w_lenT (hl : SqT K H a xs) (h : Q (.int xs.length) H) : rLenU K [.ref a] H Q := .inl ⟨_, _, rfl, .inr ⟨xs, hl, rfl⟩, h⟩
theorem w_lenS {z : Str} (hz : z.length ≤ sizeLine) (h : Q (.int z.length) H) : rLenU K [.str z] H Q := .inl ⟨_, _, rfl, ⟨hz, rfl⟩, h⟩
theorem w_lenD {kvs : List (Key × V)} (hl : H a = some (.dK kvs)) (h : Q (.int kvs.length) H) : rLenU K [.ref a] H Q := .inr ⟨a, kvs, rfl, .inl hl, h⟩
theorem w_listL (hl : SqL K H a xs) (h : ∀ p, H p = none → Q (.ref p) (upd H p (.lst xs))) : rListU K [.ref a] H Q := .inl ⟨a, xs, rfl, .inl hl, h⟩
theorem w_listT (hl : SqT K H a xs) (h : ∀ p, H p = none → Q (.ref p) (upd H p (.lst xs))) : rListU K [.ref a] H Q := .inl ⟨a, xs, rfl, .inr hl, h⟩
theorem w_tupL (hl : SqL K H a xs) (h : ∀ p, H p = none → Q (.ref p) (upd H p (.tup xs))) : rTupU K [.ref a] H Q := ⟨a, xs, rfl, .inl ⟨hl, h⟩⟩
theorem w_tupT (hl : SqT K H a xs) (h : Q (.ref a) H) : rTupU K [.ref a] H Q := ⟨a, xs, rfl, .inr ⟨hl, h⟩⟩
theorem w_intI (h : Q (.int i) H) : rIntU [.int i] H Q := .inl ⟨i, rfl, h⟩
theorem w_intB {k : Bool} (h : Q (.int (if k then 1 else 0)) H) : rIntU [.bl k] H Q := .inr ⟨k, rfl, h⟩
theorem w_divmod (hc : CDivW i j) (h : ∀ p, H p = none → Q (.ref p) (upd H p (.tup [.int (i / j), .int (i % j)]))) : rDivmod [.int i, .int j] H Q := ⟨i, j, rfl, ⟨hc.1, PyProof.noPylong_of_log2 hc.2⟩, h⟩
theorem w_sum {ns : List Int} (hl : SqL K H a (ns.map V.int)) (h : Q (.int ns.sum) H) : rSum K [.ref a] H Q := ⟨a, ns, rfl, hl, h⟩
theorem w_all {bs : List Bool} (hl : SqL K H a (bs.map V.bl)) (h : Q (.bl (bs.all id)) H) : rAll K [.ref a] H Q := ⟨a, bs, rfl, hl, h⟩
theorem w_any {bs : List Bool} (hl : SqL K H a (bs.map V.bl)) (h : Q (.bl (bs.any id)) H) : rAny K [.ref a] H Q := ⟨a, bs, rfl, hl, h⟩
theorem w_app (hl : H a = some (.lst xs)) (hz : xs.length < sizeLine) (h : Q .non (upd H a (.lst (xs ++ [v])))) : rAppend (.ref a) [v] H Q := ⟨a, xs, v, rfl, rfl, hl, hz, h⟩
theorem w_isi {x : V} {n : String} {t : Value} {k : Bool} (ht : TyX K H x t) (hk : PySem.W.kitOne K t (.type n) = some k) (h : Q (.bl k) H) : rIsiU K [x, .ty n] H Q := .inl ⟨x, .ty n, t, .type n, k, rfl, .ty n, ht, hk, h⟩
/-! isinstance -/
theorem ty_l (h : SqL K H a xs) : TyX K H (.ref a) (.type "list") := by
  rcases h with (h | ⟨o, h⟩) | ⟨o, its, n, h, c, _⟩
  · exact .base (.lst h)
  · exact .base (.frz h)
  · exact .kList h c
theorem ty_t (h : SqT K H a xs) : TyX K H (.ref a) (.type "tuple") := by
  rcases h with (h | ⟨o, h⟩) | ⟨o, its, n, h, c, _⟩
  · exact .base (.tup h)
  · exact .fTuple h
  · exact .kTuple h c
theorem w_is_int_dict {i : Int} (h : Q (.bl false) H) : rIsiU K [.int i, .ty "dict"] H Q := w_isi (.base (.int i)) (kit_ty (r := false) (by decide +kernel)) h
theorem w_is_int_list {i : Int} (h : Q (.bl false) H) : rIsiU K [.int i, .ty "list"] H Q := w_isi (.base (.int i)) (kit_ty (r := false) (by decide +kernel)) h
theorem w_is_int_tuple {i : Int} (h : Q (.bl false) H) : rIsiU K [.int i, .ty "tuple"] H Q := w_isi (.base (.int i)) (kit_ty (r := false) (by decide +kernel)) h
theorem w_is_int_str {i : Int} (h : Q (.bl false) H) : rIsiU K [.int i, .ty "str"] H Q := w_isi (.base (.int i)) (kit_ty (r := false) (by decide +kernel)) h
theorem w_is_int_int {i : Int} (h : Q (.bl true) H) : rIsiU K [.int i, .ty "int"] H Q := w_isi (.base (.int i)) (kit_ty (r := true) (by decide +kernel)) h
theorem w_is_int_bool {i : Int} (h : Q (.bl false) H) : rIsiU K [.int i, .ty "bool"] H Q := w_isi (.base (.int i)) (kit_ty (r := false) (by decide +kernel)) h
theorem w_is_bool_dict {kk : Bool} (h : Q (.bl false) H) : rIsiU K [.bl kk, .ty "dict"] H Q := w_isi (.base (.bl kk)) (kit_ty (r := false) (by decide +kernel)) h
theorem w_is_bool_list {kk : Bool} (h : Q (.bl false) H) : rIsiU K [.bl kk, .ty "list"] H Q := w_isi (.base (.bl kk)) (kit_ty (r := false) (by decide +kernel)) h
theorem w_is_bool_tuple {kk : Bool} (h : Q (.bl false) H) : rIsiU K [.bl kk, .ty "tuple"] H Q := w_isi (.base (.bl kk)) (kit_ty (r := false) (by decide +kernel)) h
theorem w_is_bool_str {kk : Bool} (h : Q (.bl false) H) : rIsiU K [.bl kk, .ty "str"] H Q := w_isi (.base (.bl kk)) (kit_ty (r := false) (by decide +kernel)) h
theorem w_is_bool_int {kk : Bool} (h : Q (.bl true) H) : rIsiU K [.bl kk, .ty "int"] H Q := w_isi (.base (.bl kk)) (kit_ty (r := true) (by decide +kernel)) h
theorem w_is_bool_bool {kk : Bool} (h : Q (.bl true) H) : rIsiU K [.bl kk, .ty "bool"] H Q := w_isi (.base (.bl kk)) (kit_ty (r := true) (by decide +kernel)) h
theorem w_is_str_dict {zz : Str} (h : Q (.bl false) H) : rIsiU K [.str zz, .ty "dict"] H Q := w_isi (.base (.str zz)) (kit_ty (r := false) (by decide +kernel)) h
theorem w_is_str_list {zz : Str} (h : Q (.bl false) H) : rIsiU K [.str zz, .ty "list"] H Q := w_isi (.base (.str zz)) (kit_ty (r := false) (by decide +kernel)) h
theorem w_is_str_tuple {zz : Str} (h : Q (.bl false) H) : rIsiU K [.str zz, .ty "tuple"] H Q := w_isi (.base (.str zz)) (kit_ty (r := false) (by decide +kernel)) h
theorem w_is_str_str {zz : Str} (h : Q (.bl true) H) : rIsiU K [.str zz, .ty "str"] H Q := w_isi (.base (.str zz)) (kit_ty (r := true) (by decide +kernel)) h
theorem w_is_str_int {zz : Str} (h : Q (.bl false) H) : rIsiU K [.str zz, .ty "int"] H Q := w_isi (.base (.str zz)) (kit_ty (r := false) (by decide +kernel)) h
theorem w_is_str_bool {zz : Str} (h : Q (.bl false) H) : rIsiU K [.str zz, .ty "bool"] H Q := w_isi (.base (.str zz)) (kit_ty (r := false) (by decide +kernel)) h
theorem w_is_nonetype_dict (h : Q (.bl false) H) : rIsiU K [.non, .ty "dict"] H Q := w_isi (.base .non) (kit_ty (r := false) (by decide +kernel)) h
theorem w_is_nonetype_list (h : Q (.bl false) H) : rIsiU K [.non, .ty "list"] H Q := w_isi (.base .non) (kit_ty (r := false) (by decide +kernel)) h
theorem w_is_nonetype_tuple (h : Q (.bl false) H) : rIsiU K [.non, .ty "tuple"] H Q := w_isi (.base .non) (kit_ty (r := false) (by decide +kernel)) h
theorem w_is_nonetype_str (h : Q (.bl false) H) : rIsiU K [.non, .ty "str"] H Q := w_isi (.base .non) (kit_ty (r := false) (by decide +kernel)) h
theorem w_is_nonetype_int (h : Q (.bl false) H) : rIsiU K [.non, .ty "int"] H Q := w_isi (.base .non) (kit_ty (r := false) (by decide +kernel)) h
theorem w_is_nonetype_bool (h : Q (.bl false) H) : rIsiU K [.non, .ty "bool"] H Q := w_isi (.base .non) (kit_ty (r := false) (by decide +kernel)) h
theorem w_is_list_dict (hl : SqL K H a xs) (h : Q (.bl false) H) : rIsiU K [.ref a, .ty "dict"] H Q := w_isi (ty_l hl) (kit_ty (r := false) (by decide +kernel)) h
theorem w_is_list_list (hl : SqL K H a xs) (h : Q (.bl true) H) : rIsiU K [.ref a, .ty "list"] H Q := w_isi (ty_l hl) (kit_ty (r := true) (by decide +kernel)) h
theorem w_is_list_tuple (hl : SqL K H a xs) (h : Q (.bl false) H) : rIsiU K [.ref a, .ty "tuple"] H Q := w_isi (ty_l hl) (kit_ty (r := false) (by decide +kernel)) h
theorem w_is_list_str (hl : SqL K H a xs) (h : Q (.bl false) H) : rIsiU K [.ref a, .ty "str"] H Q := w_isi (ty_l hl) (kit_ty (r := false) (by decide +kernel)) h
theorem w_is_list_int (hl : SqL K H a xs) (h : Q (.bl false) H) : rIsiU K [.ref a, .ty "int"] H Q := w_isi (ty_l hl) (kit_ty (r := false) (by decide +kernel)) h
theorem w_is_list_bool (hl : SqL K H a xs) (h : Q (.bl false) H) : rIsiU K [.ref a, .ty "bool"] H Q := w_isi (ty_l hl) (kit_ty (r := false) (by decide +kernel)) h
theorem w_is_tuple_dict (hl : SqT K H a xs) (h : Q (.bl false) H) : rIsiU K [.ref a, .ty "dict"] H Q := w_isi (ty_t hl) (kit_ty (r := false) (by decide +kernel)) h
theorem w_is_tuple_list (hl : SqT K H a xs) (h : Q (.bl false) H) : rIsiU K [.ref a, .ty "list"] H Q := w_isi (ty_t hl) (kit_ty (r := false) (by decide +kernel)) h
theorem w_is_tuple_tuple (hl : SqT K H a xs) (h : Q (.bl true) H) : rIsiU K [.ref a, .ty "tuple"] H Q := w_isi (ty_t hl) (kit_ty (r := true) (by decide +kernel)) h
theorem w_is_tuple_str (hl : SqT K H a xs) (h : Q (.bl false) H) : rIsiU K [.ref a, .ty "str"] H Q := w_isi (ty_t hl) (kit_ty (r := false) (by decide +kernel)) h
theorem w_is_tuple_int (hl : SqT K H a xs) (h : Q (.bl false) H) : rIsiU K [.ref a, .ty "int"] H Q := w_isi (ty_t hl) (kit_ty (r := false) (by decide +kernel)) h
theorem w_is_tuple_bool (hl : SqT K H a xs) (h : Q (.bl false) H) : rIsiU K [.ref a, .ty "bool"] H Q := w_isi (ty_t hl) (kit_ty (r := false) (by decide +kernel)) h
theorem w_slL {lo hi : Option Int} (hl : SqL K H a xs) (h : ∀ p, H p = none → Q (.ref p) (upd H p (.lst (cutV xs lo hi)))) : rSlU K (.ref a) lo hi H Q := .inl (.inl ⟨a, xs, rfl, hl, h⟩)
theorem w_rep {k : Int} (hl : H a = some (.lst xs)) (h1 : -(2 ^ 63) ≤ k) (h2 : k < 2 ^ 63) (h3 : xs.length * k.toNat ≤ sizeLine) (h : ∀ p, H p = none → Q (.ref p) (upd H p (.lst ((List.replicate k.toNat xs).flatten)))) : rMulU (.ref a) (.int k) H Q := by
  refine .inr ?_
  exact ⟨a, k, xs, rfl, rfl, hl, h1, h2, h3, h⟩
/-! ifs -/
theorem w_ifd {p A B : Prop} [Decidable p] (h1 : p → A) (h2 : ¬ p → B) : if decide p = true then A else B := by
  by_cases h : p
  · rw [if_pos (decide_eq_true h)]; exact h1 h
  · rw [if_neg (by simp [h])]; exact h2 h
theorem w_ifn {p A B : Prop} [Decidable p] (h1 : ¬ p → A) (h2 : p → B) : if (!decide p) = true then A else B := by
  by_cases h : p
  · rw [if_neg (by simp [h])]; exact h2 h
  · rw [if_pos (by simp [h])]; exact h1 h
theorem w_ifb {b : Bool} {A B : Prop} (h1 : b = true → A) (h2 : b = false → B) : if b = true then A else B := by
  cases b with
  | true => exact h1 rfl
  | false => exact h2 rfl
theorem w_ifNF {A B : Prop} (h : A) : if (!false) = true then A else B := by simpa using h
theorem w_ifNT {A B : Prop} (h : B) : if (!true) = true then A else B := by simpa using h
theorem w_ifT {A B : Prop} (h : A) : if true = true then A else B := by rw [if_pos rfl]; exact h
theorem w_ifF {A B : Prop} (h : B) : if false = true then A else B := by rw [if_neg Bool.false_ne_true]; exact h
end
/-! what is walked -/
section
variable {σ : L2.St} {H : Hp} {Q : VK} {K : PySem.W.Frag} {R : It → Hp → Prop} {ta : TA} {te : TE}
theorem w_lc {wi : TI} {g : TG} {tt : TT} {te : TE} {vs : List Nat} (h : wi σ H fun J H1 => ∀ D, H1 D = none → ∃ W : Nat → Nat → Hp → Prop, (∃ m, W 0 m (upd H1 D (.lst []))) ∧ ∀ i m H, W i m H →
  (J.stop i H ∧ Q (.ref D) H) ∨ (J.go i H ∧ ∃ Nx : Hp → Prop, (∀ H', Nx H' → ∃ m', m' < m ∧ W (i + 1) m' H') ∧ ∀ x H', J.yld i H x H' → g x (wipe σ vs) H' fun σ2 H2 => wipe σ2 vs = wipe σ vs ∧ tt σ2 H2 fun b H3 =>
    if b = true then te σ2 H3 fun y H4 => ∃ acc, H4 D = some (.lst acc) ∧ acc.length < sizeLine ∧ Nx (upd H4 D (.lst (acc ++ [y]))) else Nx H3)) : tLc wi g tt te vs σ H Q := h
/-- what has come is walked -/
def ZipK (K : PySem.W.Frag) (R : It → Hp → Prop) (vs : List V) (H1 : Hp) : Prop := ∃ a b xs ys, vs = [.ref a, .ref b] ∧ ((SqL K H1 a xs ∧ SqL K H1 b ys ∧ R (Itz K a b) H1) ∨ (SqT K H1 a xs ∧ SqT K H1 b ys ∧ R (RZ.ItzT K a b) H1))
def SeqK (K : PySem.W.Frag) (R : It → Hp → Prop) (x : V) (H1 : Hp) : Prop := (∃ a xs, x = .ref a ∧ SqL K H1 a xs ∧ R (Itl K a) H1) ∨ (∃ a xs, x = .ref a ∧ SqT K H1 a xs ∧ R (Itt K a) H1) ∨ ∃ z, x = .str z ∧ R (Its z) H1
def Rng1K (R : It → Hp → Prop) (vs : List V) (H1 : Hp) : Prop := ∃ j : Int, vs = [.int j] ∧ -(2 ^ 62) ≤ j ∧ j < 2 ^ 62 ∧ R (Itr 0 j.toNat) H1
def Rng2K (R : It → Hp → Prop) (vs : List V) (H1 : Hp) : Prop := ∃ i j : Int, vs = [.int i, .int j] ∧ (-(2 ^ 62) ≤ i ∧ i < 2 ^ 62 ∧ -(2 ^ 62) ≤ j ∧ j < 2 ^ 62) ∧ R (Itr i (j - i).toNat) H1
def EnumK (K : PySem.W.Frag) (R : It → Hp → Prop) (vs : List V) (H1 : Hp) : Prop := ∃ a xs, vs = [.ref a] ∧ ((SqL K H1 a xs ∧ R (Ite K a) H1) ∨ (SqT K H1 a xs ∧ R (IteT K a) H1))
def RevK (K : PySem.W.Frag) (R : It → Hp → Prop) (v : V) (H1 : Hp) : Prop := ∃ (a : Addr) (xs : List V), v = .ref a ∧ ((SqL K H1 a xs ∧ R (Itv K a xs.length) H1) ∨ (SqT K H1 a xs ∧ R (RT.ItvT K a xs.length) H1))
theorem w_zip (h : ta σ H fun vs H1 => ZipK K R vs H1) : RZ.iZipA K ta σ H R := h
theorem w_seqv (h : te σ H fun x H1 => SeqK K R x H1) : iSeqV K te σ H R := h
theorem w_rng1 (h : ta σ H fun vs H1 => Rng1K R vs H1) : iRng1 ta σ H R := h
theorem w_rng2 (h : ta σ H fun vs H1 => Rng2K R vs H1) : iRng2 ta σ H R := h
theorem w_enum (h : ta σ H fun vs H1 => EnumK K R vs H1) : iEnumU K ta σ H R := h
theorem w_rev (h : te σ H fun v H1 => RevK K R v H1) : RT.iRevA K te σ H R := h
theorem w_itL {a : Addr} {xs : List V} (hl : SqL K H a xs) (h : R (Itl K a) H) : SeqK K R (.ref a) H := .inl ⟨a, xs, rfl, hl, h⟩
theorem w_itT {a : Addr} {xs : List V} (hl : SqT K H a xs) (h : R (Itt K a) H) : SeqK K R (.ref a) H := .inr (.inl ⟨a, xs, rfl, hl, h⟩)
theorem w_itS {z : Str} (h : R (Its z) H) : SeqK K R (.str z) H := .inr (.inr ⟨z, rfl, h⟩)
theorem w_itR {j : Int} (h1 : -(2 ^ 62) ≤ j) (h2 : j < 2 ^ 62) (h : R (Itr 0 j.toNat) H) : Rng1K R [.int j] H := ⟨j, rfl, h1, h2, h⟩
theorem w_itR2 {i j : Int} (h1 : -(2 ^ 62) ≤ i ∧ i < 2 ^ 62 ∧ -(2 ^ 62) ≤ j ∧ j < 2 ^ 62) (h : R (Itr i (j - i).toNat) H) : Rng2K R [.int i, .int j] H := ⟨i, j, rfl, h1, h⟩
theorem w_itEL {a : Addr} {xs : List V} (hl : SqL K H a xs) (h : R (Ite K a) H) : EnumK K R [.ref a] H := ⟨a, xs, rfl, .inl ⟨hl, h⟩⟩
theorem w_itET {a : Addr} {xs : List V} (hl : SqT K H a xs) (h : R (IteT K a) H) : EnumK K R [.ref a] H := ⟨a, xs, rfl, .inr ⟨hl, h⟩⟩
theorem w_itZL {a b : Addr} {xs ys : List V} (ha : SqL K H a xs) (hb : SqL K H b ys) (h : R (Itz K a b) H) : ZipK K R [.ref a, .ref b] H := ⟨a, b, xs, ys, rfl, .inl ⟨ha, hb, h⟩⟩
theorem w_itZT {a b : Addr} {xs ys : List V} (ha : SqT K H a xs) (hb : SqT K H b ys) (h : R (RZ.ItzT K a b) H) : ZipK K R [.ref a, .ref b] H := ⟨a, b, xs, ys, rfl, .inr ⟨ha, hb, h⟩⟩
theorem w_itVL {a : Addr} {xs : List V} (hl : SqL K H a xs) (h : R (Itv K a xs.length) H) : RevK K R (.ref a) H := ⟨a, xs, rfl, .inl ⟨hl, h⟩⟩
theorem w_itVT {a : Addr} {xs : List V} (hl : SqT K H a xs) (h : R (RT.ItvT K a xs.length) H) : RevK K R (.ref a) H := ⟨a, xs, rfl, .inr ⟨hl, h⟩⟩
end
theorem sz_le {n : Nat} (h : n ≤ 16777216) : n ≤ sizeLine := by rw [sizeLine_eq]; exact h
theorem sz_lt {n : Nat} (h : n < 16777216) : n < sizeLine := by rw [sizeLine_eq]; exact h

end Ps

/-! PsD: what every law begins with: its draws. -/
namespace Ps
open PySem PySem.Spec PyProof.Rows L2
local macro_rules | `(tactic| walk_at "s1") => `(tactic| first
  | (with_reducible refine w_seq ?_) | (with_reducible refine w_asg ?_) | (with_reducible refine w_op ?_) | (with_reducible refine w_c ?_)
  | ((with_reducible refine' w_var ?hx ?_); (case hx => exact rfl))
  | (with_reducible refine w_gname ?_) | (with_reducible refine w_cons ?_) | (with_reducible refine w_nil ?_) | (with_reducible refine w_cb ?_) | (with_reducible refine w_call ?_)
  | (with_reducible refine w_ret ?_) | (with_reducible refine w_drop ?_) | (with_reducible refine w_ifs ?_) | (with_reducible refine w_test ?_) | (with_reducible refine w_next ?_)
  | (with_reducible refine w_addI ?_) | (with_reducible refine w_subI ?_) | (with_reducible refine w_negI ?_) | (with_reducible refine w_eqI ?_) | (with_reducible refine w_neI ?_) | (with_reducible refine w_ltI ?_) | (with_reducible refine w_leI ?_)
  | (with_reducible refine w_gtI ?_) | (with_reducible refine w_geI ?_) | (with_reducible refine w_isNn ?_) | (with_reducible refine w_isNi ?_) | (with_reducible refine w_isNs ?_) | (with_reducible refine w_isNr ?_) | (with_reducible refine w_ntNn ?_) | (with_reducible refine w_ntNi ?_) | (with_reducible refine w_ntNs ?_) | (with_reducible refine w_ntNr ?_) | (with_reducible refine w_isN ?_) | (with_reducible refine w_notN ?_) | (with_reducible refine w_ipaI ?_) | (with_reducible refine w_eqS ?_) | (with_reducible refine w_neS ?_)
  | (with_reducible refine w_blE ?_) | (with_reducible refine w_truB ?_) | (with_reducible refine w_intI ?_) | (with_reducible refine w_intB ?_)
  | (with_reducible refine w_bm ?_) | (with_reducible refine w_bm0 ?_) | (with_reducible refine w_lst ?_) | (with_reducible refine w_tup ?_) | (with_reducible refine w_un ?_) | (with_reducible refine w_sl ?_) | (with_reducible refine w_nopart ?_) | (with_reducible refine w_part ?_) | (with_reducible refine w_partI ?_)
  | (with_reducible refine w_gsub ?_) | (with_reducible refine w_gcons ?_) | (with_reducible refine w_gnil ?_) | (with_reducible refine w_and ?_) | (with_reducible refine w_or ?_) | (with_reducible refine w_not ?_) | (with_reducible refine w_tru ?_) | (with_reducible refine w_yes ?_)
  | (with_reducible refine w_andV ?_) | (with_reducible refine w_orV ?_) | (with_reducible refine w_notV ?_) | (with_reducible refine w_tif ?_) | (with_reducible refine w_callS ?_) | (with_reducible refine w_for ?_)
  | (with_reducible refine w_par ?_) | (with_reducible refine w_par2 ?_) | (with_reducible refine w_retN ?_) | (with_reducible refine w_brk ?_) | (with_reducible refine w_cont ?_)
  | ((with_reducible refine' w_aug ?hx ?_); (case hx => exact rfl)) | (with_reducible refine w_ipsI ?_)
  | (with_reducible refine w_is_int_dict ?_) | (with_reducible refine w_is_int_list ?_) | (with_reducible refine w_is_int_tuple ?_) | (with_reducible refine w_is_int_str ?_) | (with_reducible refine w_is_int_int ?_) | (with_reducible refine w_is_int_bool ?_) | (with_reducible refine w_is_bool_dict ?_) | (with_reducible refine w_is_bool_list ?_) | (with_reducible refine w_is_bool_tuple ?_) | (with_reducible refine w_is_bool_str ?_) | (with_reducible refine w_is_bool_int ?_) | (with_reducible refine w_is_bool_bool ?_) | (with_reducible refine w_is_str_dict ?_) | (with_reducible refine w_is_str_list ?_) | (with_reducible refine w_is_str_tuple ?_) | (with_reducible refine w_is_str_str ?_) | (with_reducible refine w_is_str_int ?_) | (with_reducible refine w_is_str_bool ?_)
  | (with_reducible refine w_ifT ?_) | (with_reducible refine w_ifF ?_) | (with_reducible refine w_ifNF ?_) | (with_reducible refine w_ifNT ?_)
  | (with_reducible refine w_tys ?_) | (with_reducible refine w_chain ?_) | (with_reducible refine w_ost ?_) | (with_reducible refine w_vei ?_) | (with_reducible refine w_rzO ?_) | (with_reducible refine w_fld ?_) | (with_reducible refine w_sfld ?_) | (with_reducible refine w_afld ?_) | (with_reducible refine w_meth ?_) | (with_reducible refine w_make ?_) | (with_reducible refine w_rz ?_) | (with_reducible refine w_rAdd ?_) | (with_reducible refine w_rSub ?_) | (with_reducible refine w_max2 ?_) | (with_reducible refine w_lc ?_) | (with_reducible refine w_zip ?_) | (with_reducible refine w_seqv ?_) | (with_reducible refine w_rng1 ?_) | (with_reducible refine w_rng2 ?_) | (with_reducible refine w_rng3 ?_) | (with_reducible refine w_enum ?_) | (with_reducible refine w_rev ?_))
local macro_rules | `(tactic| walk_at "go") => `(tactic| repeat (walk_at "s1"))
/- _law_begin: 0 _law_script, 1 _law_cells -/
def t_begin (K : PySem.W.Frag) : TS :=
      (tSeq (tAsg (tCB (rListU K) (tCons (tSl (rSlU K) (tVar 0) tNoPart (tPart (tC (.int 63)))) tNil)) (gName 1))
      (tSeq (tIfS (tTest (tOp (rEqU K) (tVar 1) (tLst tNil)))
      (tAsg (tLst (tCons (tC (.int 7)) tNil)) (gName 1))
      tNext)
      (tRet (tDisp [((tC (.str ("cells" : Str))), (tVar 1)), ((tC (.str ("turn" : Str))), (tC (.int 0)))]))))
abbrev N_begin : List Str := [("_law_script" : Str), ("_law_cells" : Str)]

/- _law_take: 0 _law_state, 1 _law_many, 2 _law_turn, 3 _law_place, 4 _law_cell, 5 _law_digit, 6 _law_mixed -/
def t_take (K : PySem.W.Frag) : TS :=
      (tSeq (tAsg (tOp (rAddU K) (tOp (rIxU K) (tVar 0) (tC (.str ("turn" : Str)))) (tC (.int 1))) (gName 2))
      (tSeq (tAsg (tVar 2) (gSub (tVar 0) (tC (.str ("turn" : Str))) rSetU))
      (tSeq (tAsg (tOp (rModU) (tVar 2) (tCB (rLenU K) (tCons (tOp (rIxU K) (tVar 0) (tC (.str ("cells" : Str)))) tNil))) (gName 3))
      (tSeq (tAsg (tOp (rIxU K) (tOp (rIxU K) (tVar 0) (tC (.str ("cells" : Str)))) (tVar 3)) (gName 4))
      (tSeq (tIfS (tTest (tOp (rGeU) (tVar 4) (tOp (rPowU) (tC (.int 10)) (tC (.int 18)))))
      (tSeq (tAsg (tCB (rDivmod) (tCons (tVar 4) (tCons (tVar 1) tNil))) (gTup K 2 (gCons (gSub (tOp (rIxU K) (tVar 0) (tC (.str ("cells" : Str)))) (tVar 3) rSetU) (gCons (gName 5) gNil))))
      (tRet (tVar 5)))
      tNext)
      (tSeq (tAsg (tOp (rModU) (tOp (rMulU) (tOp (rAddU K) (tOp (rAddU K) (tOp (rModU) (tVar 4) (tC (.int 2147483629))) (tOp (rMulU) (tOp (rMulU) (tVar 2) (tVar 2)) (tC (.int 7919)))) (tC (.int 11))) (tC (.int 48271))) (tC (.int 2147483647))) (gName 6))
      (tSeq (tAsg (tOp (rModU) (tOp (rMulU) (tVar 6) (tVar 6)) (tC (.int 2147483587))) (gName 6))
      (tRet (tOp (rModU) (tOp (rDivU) (tOp (rModU) (tOp (rMulU) (tOp (rAddU K) (tVar 6) (tOp (rMulU) (tVar 2) (tC (.int 104729)))) (tC (.int 69621))) (tC (.int 2147483629))) (tC (.int 7))) (tVar 1))))))))))
abbrev N_take : List Str := [("_law_state" : Str), ("_law_many" : Str), ("_law_turn" : Str), ("_law_place" : Str), ("_law_cell" : Str), ("_law_digit" : Str), ("_law_mixed" : Str)]

/-- the law's state: its cells at c, its turn -/
def stD (c : Addr) (t : Int) : HO := .dK [(.inr "cells", .ref c), (.inr "turn", .int t)]
/-- the law's world: m turns may still be taken -/
def LW (m : Nat) (a : Addr) (R : List (Addr × HO)) (G H : Hp) : Prop := ∃ (c : Addr) (t : Int) (ns : List Int), Wd ((a, stD c t) :: (c, .lst (ns.map V.int)) :: R) G H ∧ 0 < ns.length ∧ 0 ≤ t ∧ t + m ≤ 2 ^ 50
section
variable {m m' : Nat} {a p l : Addr} {R : List (Addr × HO)} {G G' H H' : Hp} {o o' : HO} {x : Addr × HO}
theorem LW.le (h : LW m a R G H) (l : m' ≤ m) : LW m' a R G H := by
  obtain ⟨c, t, ns, w, h1, h2, h3⟩ := h
  exact ⟨c, t, ns, w, h1, h2, by omega⟩
theorem LW.v (h : LW m a R G H) : Same G H := by
  obtain ⟨c, t, ns, w, _⟩ := h
  exact w.v
theorem LW.same (h : LW m a R G H) (s : Same H H') : LW m a R G H' := by
  obtain ⟨c, t, ns, w, r⟩ := h
  exact ⟨c, t, ns, w.same s, r⟩
theorem LW.grow (h : LW m a R G H) (g : Grow H G H' G') : LW m a R G' H' := by
  obtain ⟨c, t, ns, w, r⟩ := h
  exact ⟨c, t, ns, w.grow g, r⟩
theorem LW.own (h : LW m a R G H) (s : Same H H') (hp : H p = none) (e : H' p = some o) : LW m a ((p, o) :: R) G H' := by
  obtain ⟨c, t, ns, w, r⟩ := h
  exact ⟨c, t, ns, w.own3 s hp e, r⟩
theorem LW.new (h : LW m a R G H) (hp : H p = none) : LW m a R (upd G p o) (upd H p o) := h.grow (Grow.new h.v hp)
theorem LW.mk (h : LW m a R G H) (hp : H p = none) : LW m a ((p, o) :: R) G (upd H p o) := h.own (same_new hp) hp upd_same
theorem LW.put (h : LW m a ((l, o) :: R) G H) : LW m a ((l, o') :: R) G (upd H l o') := by
  obtain ⟨c, t, ns, w, r⟩ := h
  exact ⟨c, t, ns, w.put3, r⟩
theorem LW.hd (h : LW m a ((l, o) :: R) G H) : H l = some o := by
  obtain ⟨c, t, ns, w, r⟩ := h
  exact w.td
theorem LW.drop (h : LW m a (x :: R) G H) : LW m a R G H := by
  obtain ⟨c, t, ns, w, r⟩ := h
  exact ⟨c, t, ns, w.rot3.drop, r⟩
theorem LW.share (h : LW m a ((l, o) :: R) G H) : LW m a R (upd G l o) H := by
  obtain ⟨c, t, ns, w, r⟩ := h
  exact ⟨c, t, ns, w.rot3.share, r⟩
theorem LW.gsame (h : LW m a ((l, o) :: R) G H) (o' : HO) : Same G (upd G l o') := by
  obtain ⟨c, t, ns, w, r⟩ := h
  exact w.rot3.gsame o'
end
theorem ne_ct : ¬ (Str.ofString "cells" = Str.ofString "turn") := by decide +kernel
theorem st_turn {c : Addr} {t : Int} : valV [((.inr "cells" : Key), V.ref c), (.inr "turn", V.int t)] (.inr "turn") = some (.int t) := by
  simp [valV, ne_ct]
theorem st_cells {c : Addr} {t : Int} : valV [((.inr "cells" : Key), V.ref c), (.inr "turn", V.int t)] (.inr "cells") = some (.ref c) := by
  simp [valV]
theorem st_len {c : Addr} {t : Int} : [((.inr "cells" : Key), V.ref c), (.inr "turn", V.int t)].length < sizeLine := by
  show 2 < sizeLine
  decide
theorem st_put {c : Addr} {t u : Int} : HO.dK (putK [((.inr "cells" : Key), V.ref c), (.inr "turn", V.int t)] (.inr "turn") (.int u)) = stD c u := by
  simp [putK, stD, ne_ct]
theorem ixN_nat {n j : Nat} (hj : j < n) : ixN n (j : Int) = some j := by
  unfold ixN
  rw [if_pos (by omega), if_pos (by omega)]
  simp
/-- _law_take -/
def spTake : Sp := fun vs H Q _ => ∃ (m : Nat) (a : Addr) (n : Int) (R : List (Addr × HO)) (G : Hp), vs = [.ref a, .int n] ∧ LW (m + 1) a R G H ∧ 0 < n ∧ n < 2 ^ 62 ∧
  ∀ (v : Int) (H' : Hp), LW m a R G H' → 0 ≤ v → v < n → Q (.int v) H'
theorem spTake_len (vs : List V) (H : Hp) (Q : VK) (E : XK) (h : spTake vs H Q E) : vs.length = 2 := by
  obtain ⟨m, a, n, R, G, rfl, _⟩ := h
  rfl
theorem pure_take {K : PySem.W.Frag} (vs : List V) (H : Hp) (Q : VK) (E : XK) (h : spTake vs H Q E) : t_take K { nx := fun _ H' => Q .non H', rt := Q } (start N_take vs) H := by
  obtain ⟨m, a, n, R, G, rfl, ⟨c, t, ns, w, hns, ht0, htm⟩, hn0, hn1, k⟩ := h
  unfold t_take
  walk_at "go"
  refine w_ixDs w.hd st_turn ?_
  walk_at "go"
  refine w_setDs w.hd st_len ?_
  rw [st_put]
  have w1 : Wd ((a, stD c (t + 1)) :: (c, .lst (ns.map V.int)) :: R) G (upd H a (stD c (t + 1))) := w.put
  revert w1
  generalize upd H a (stD c (t + 1)) = H1
  intro w1
  walk_at "go"
  refine w_ixDs w1.hd st_cells ?_
  walk_at "go"
  refine w_lenL (SqL.of w1.sd) ?_
  walk_at "go"
  refine w_modI (by rw [List.length_map]; omega) ?_
  rw [List.length_map]
  obtain ⟨j, hj, ej⟩ : ∃ j : Nat, j < ns.length ∧ (t + 1) % (ns.length : Int) = (j : Int) := ⟨((t + 1) % (ns.length : Int)).toNat, by
    have h1 := Int.emod_nonneg (t + 1) (show (ns.length : Int) ≠ 0 by omega)
    have h2 := Int.emod_lt_of_pos (t + 1) (show (0 : Int) < ns.length by omega)
    omega, by
    have h1 := Int.emod_nonneg (t + 1) (show (ns.length : Int) ≠ 0 by omega)
    omega⟩
  rw [ej]
  walk_at "go"
  refine w_ixDs w1.hd st_cells ?_
  walk_at "go"
  refine w_ixL (v := V.int ns[j]) (SqL.of w1.sd) (atI_nat (by simp [hj])) ?_
  walk_at "go"
  refine w_powI ⟨by decide, by decide, by decide⟩ ?_
  walk_at "go"
  refine w_ifd (fun hc => ?_) (fun hc => ?_)
  · walk_at "go"
    refine w_divmod (wide_div (b := 62) hn0 (by omega) (by decide) (by decide)) fun p hp => ?_
    have w2 := w1.new (o := .tup [.int (ns[j] / n), .int (ns[j] % n)]) hp
    walk_at "go"
    refine w_gtup (SqT.of upd_same) rfl ?_
    walk_at "go"
    refine w_ixDs w2.hd st_cells ?_
    walk_at "go"
    refine w_setL (k := j) w2.sd (by rw [List.length_map]; exact ixN_nat hj) ?_
    have w3 := w2.put2 (o' := .lst ((ns.map V.int).set j (.int (ns[j] / n))))
    walk_at "go"
    have el : (ns.map V.int).set j (.int (ns[j] / n)) = (ns.set j (ns[j] / n)).map V.int := by rw [List.map_set]
    rw [el] at w3 ⊢
    refine k _ _ ?_ (Int.emod_nonneg _ (by omega)) (Int.emod_lt_of_pos _ hn0)
    obtain ⟨v3, o3, n3⟩ := w3
    exact ⟨c, t + 1, ns.set j (ns[j] / n), ⟨(same_new (w1.v.free hp)).trans v3, fun y hy => ⟨(o3 y hy).1, (same_new (w1.v.free hp)).free (o3 y hy).2⟩, n3⟩, by rw [List.length_set]; exact hns, by omega, by omega⟩
  · have ht : -(2 ^ 64) < t + 1 ∧ t + 1 < 2 ^ 64 := by omega
    walk_at "go"
    refine w_modF (by decide) fun z1 h1 h2 => ?_
    walk_at "go"
    refine w_mulI (.inl ht) ?_
    walk_at "go"
    refine w_mulI (.inr ⟨by decide, by decide⟩) ?_
    walk_at "go"
    refine w_mulI (.inr ⟨by decide, by decide⟩) ?_
    walk_at "go"
    refine w_modF (by decide) fun z2 h3 h4 => ?_
    walk_at "go"
    refine w_mulI (.inl ⟨by omega, by omega⟩) ?_
    walk_at "go"
    refine w_modF (by decide) fun z3 h5 h6 => ?_
    walk_at "go"
    refine w_mulI (.inr ⟨by decide, by decide⟩) ?_
    walk_at "go"
    refine w_mulI (.inr ⟨by decide, by decide⟩) ?_
    walk_at "go"
    refine w_modF (by decide) fun z4 h7 h8 => ?_
    walk_at "go"
    refine w_divI ⟨by decide, by decide⟩ ?_
    walk_at "go"
    refine w_modF hn0 fun z5 h9 h10 => ?_
    exact k _ _ ⟨c, t + 1, ns, w1, hns, by omega, by omega⟩ h9 h10
end Ps

/-! PsE: how a law begins, how it compares. -/
namespace Ps
open PySem PySem.Spec PyProof.Rows L2
local macro_rules | `(tactic| walk_at "s1") => `(tactic| first
  | (with_reducible refine w_seq ?_) | (with_reducible refine w_asg ?_) | (with_reducible refine w_op ?_) | (with_reducible refine w_c ?_)
  | ((with_reducible refine' w_var ?hx ?_); (case hx => exact rfl))
  | (with_reducible refine w_gname ?_) | (with_reducible refine w_cons ?_) | (with_reducible refine w_nil ?_) | (with_reducible refine w_cb ?_) | (with_reducible refine w_call ?_)
  | (with_reducible refine w_ret ?_) | (with_reducible refine w_drop ?_) | (with_reducible refine w_ifs ?_) | (with_reducible refine w_test ?_) | (with_reducible refine w_next ?_)
  | (with_reducible refine w_addI ?_) | (with_reducible refine w_subI ?_) | (with_reducible refine w_negI ?_) | (with_reducible refine w_eqI ?_) | (with_reducible refine w_neI ?_) | (with_reducible refine w_ltI ?_) | (with_reducible refine w_leI ?_)
  | (with_reducible refine w_gtI ?_) | (with_reducible refine w_geI ?_) | (with_reducible refine w_isNn ?_) | (with_reducible refine w_isNi ?_) | (with_reducible refine w_isNs ?_) | (with_reducible refine w_isNr ?_) | (with_reducible refine w_ntNn ?_) | (with_reducible refine w_ntNi ?_) | (with_reducible refine w_ntNs ?_) | (with_reducible refine w_ntNr ?_) | (with_reducible refine w_isN ?_) | (with_reducible refine w_notN ?_) | (with_reducible refine w_ipaI ?_) | (with_reducible refine w_eqS ?_) | (with_reducible refine w_neS ?_)
  | (with_reducible refine w_blE ?_) | (with_reducible refine w_truB ?_) | (with_reducible refine w_intI ?_) | (with_reducible refine w_intB ?_)
  | (with_reducible refine w_bm ?_) | (with_reducible refine w_bm0 ?_) | (with_reducible refine w_lst ?_) | (with_reducible refine w_tup ?_) | (with_reducible refine w_un ?_) | (with_reducible refine w_sl ?_) | (with_reducible refine w_nopart ?_) | (with_reducible refine w_part ?_) | (with_reducible refine w_partI ?_)
  | (with_reducible refine w_gsub ?_) | (with_reducible refine w_gcons ?_) | (with_reducible refine w_gnil ?_) | (with_reducible refine w_and ?_) | (with_reducible refine w_or ?_) | (with_reducible refine w_not ?_) | (with_reducible refine w_tru ?_) | (with_reducible refine w_yes ?_)
  | (with_reducible refine w_andV ?_) | (with_reducible refine w_orV ?_) | (with_reducible refine w_notV ?_) | (with_reducible refine w_tif ?_) | (with_reducible refine w_callS ?_) | (with_reducible refine w_for ?_)
  | (with_reducible refine w_par ?_) | (with_reducible refine w_par2 ?_) | (with_reducible refine w_retN ?_) | (with_reducible refine w_brk ?_) | (with_reducible refine w_cont ?_)
  | ((with_reducible refine' w_aug ?hx ?_); (case hx => exact rfl)) | (with_reducible refine w_ipsI ?_)
  | (with_reducible refine w_is_int_dict ?_) | (with_reducible refine w_is_int_list ?_) | (with_reducible refine w_is_int_tuple ?_) | (with_reducible refine w_is_int_str ?_) | (with_reducible refine w_is_int_int ?_) | (with_reducible refine w_is_int_bool ?_) | (with_reducible refine w_is_bool_dict ?_) | (with_reducible refine w_is_bool_list ?_) | (with_reducible refine w_is_bool_tuple ?_) | (with_reducible refine w_is_bool_str ?_) | (with_reducible refine w_is_bool_int ?_) | (with_reducible refine w_is_bool_bool ?_) | (with_reducible refine w_is_str_dict ?_) | (with_reducible refine w_is_str_list ?_) | (with_reducible refine w_is_str_tuple ?_) | (with_reducible refine w_is_str_str ?_) | (with_reducible refine w_is_str_int ?_) | (with_reducible refine w_is_str_bool ?_)
  | (with_reducible refine w_ifT ?_) | (with_reducible refine w_ifF ?_) | (with_reducible refine w_ifNF ?_) | (with_reducible refine w_ifNT ?_)
  | (with_reducible refine w_tys ?_) | (with_reducible refine w_chain ?_) | (with_reducible refine w_ost ?_) | (with_reducible refine w_vei ?_) | (with_reducible refine w_rzO ?_) | (with_reducible refine w_fld ?_) | (with_reducible refine w_sfld ?_) | (with_reducible refine w_afld ?_) | (with_reducible refine w_meth ?_) | (with_reducible refine w_make ?_) | (with_reducible refine w_rz ?_) | (with_reducible refine w_rAdd ?_) | (with_reducible refine w_rSub ?_) | (with_reducible refine w_max2 ?_) | (with_reducible refine w_lc ?_) | (with_reducible refine w_zip ?_) | (with_reducible refine w_seqv ?_) | (with_reducible refine w_rng1 ?_) | (with_reducible refine w_rng2 ?_) | (with_reducible refine w_rng3 ?_) | (with_reducible refine w_enum ?_) | (with_reducible refine w_rev ?_))
local macro_rules | `(tactic| walk_at "go") => `(tactic| repeat (walk_at "s1"))
/- _law_same: 0 _law_found, 1 _law_due, 2 _law_name, 3 _law_one, 4 _law_other -/
def t_same (K : PySem.W.Frag) (s_same_ : Sp) : TS :=
      (tSeq (tIfS (tTest (tOp (rIsN) (tVar 1) (tC .non)))
      (tRet (tOp (rIsN) (tVar 0) (tC .non)))
      tNext)
      (tSeq (tIfS (tTru K (tCB (rIsiU K) (tCons (tVar 1) (tCons (tC (.ty "dict")) tNil))))
      (tSeq tNever
      tNever)
      tNext)
      (tSeq (tIfS (tOr (tTru K (tCB (rIsiU K) (tCons (tVar 1) (tCons (tC (.ty "list")) tNil)))) (tTru K (tCB (rIsiU K) (tCons (tVar 1) (tCons (tC (.ty "tuple")) tNil)))))
      (tSeq (tIfS (tTest (tOp (rNeU K) (tCB (rIsiU K) (tCons (tVar 0) (tCons (tC (.ty "list")) tNil))) (tCB (rIsiU K) (tCons (tVar 1) (tCons (tC (.ty "list")) tNil)))))
      (tRet (tC (.bl false)))
      tNext)
      (tSeq (tIfS (tOr (tTest (tOp (rNeU K) (tCB (rIsiU K) (tCons (tVar 0) (tCons (tC (.ty "tuple")) tNil))) (tCB (rIsiU K) (tCons (tVar 1) (tCons (tC (.ty "tuple")) tNil))))) (tTest (tOp (rNeU K) (tCB (rLenU K) (tCons (tVar 0) tNil)) (tCB (rLenU K) (tCons (tVar 1) tNil)))))
      (tRet (tC (.bl false)))
      tNext)
      (tRet (tCB (rAll K) (tCons (tLc (RZ.iZipA K (tCons (tVar 0) (tCons (tVar 1) tNil))) (gTup K 2 (gCons (gName 3) (gCons (gName 4) gNil))) tYes (tCall s_same_ [] E0 (tCons (tVar 3) (tCons (tVar 4) tNil))) [3, 4]) tNil)))))
      tNext)
      (tSeq (tIfS (tTru K (tCB (rIsiU K) (tCons (tVar 1) (tCons (tC (.ty "str")) tNil))))
      (tRet (tAndV (tCB (rIsiU K) (tCons (tVar 0) (tCons (tC (.ty "str")) tNil))) (tOp (rEqU K) (tVar 0) (tVar 1))))
      tNext)
      (tRet (tAndV (tCB (rIsiU K) (tCons (tVar 0) (tCons (tC (.ty "int")) tNil))) (tAndV (tNotV (tCB (rIsiU K) (tCons (tVar 0) (tCons (tC (.ty "bool")) tNil)))) (tOp (rEqU K) (tVar 0) (tVar 1)))))))))
abbrev N_same : List Str := [("_law_found" : Str), ("_law_due" : Str), ("_law_name" : Str), ("_law_one" : Str), ("_law_other" : Str)]

theorem canLayAll_ints : ∀ ns : List Int, PyData.canLayAll0 (ns.map PyData.int) = true
  | [] => rfl
  | n :: r => by
    rw [List.map_cons, PyData.canLayAll0, canLayAll_ints r]
    rfl
theorem depthAll_ints : ∀ ns : List Int, PyData.depthAll (ns.map PyData.int) = 0
  | [] => rfl
  | n :: r => by
    rw [List.map_cons, PyData.depthAll, depthAll_ints r]
    rfl
theorem shaped_dI (ns : List Int) : SeqAt.shaped (dI ns) = true := by
  unfold SeqAt.shaped dI
  rw [PyData.canLay0, PyData.depth, canLayAll_ints, depthAll_ints]
  rfl
theorem eqvAll_ints : ∀ ns ms : List Int, PyData.eqvAll (ns.map PyData.int) (ms.map PyData.int) = decide (ns = ms)
  | [], [] => by simp [PyData.eqvAll]
  | [], _ :: _ => by simp [PyData.eqvAll]
  | _ :: _, [] => by simp [PyData.eqvAll]
  | n :: r, m :: q => by
    rw [List.map_cons, List.map_cons, PyData.eqvAll, eqvAll_ints r q, PyData.eqv]
    by_cases h : n = m
    · subst h; simp
    · simp [h]
theorem eqv_dI (ns ms : List Int) : PyData.eqv (dI ns) (dI ms) = decide (ns = ms) := by
  unfold dI
  rw [PyData.eqv]
  exact eqvAll_ints ns ms
section
variable {H : Hp} {Q : VK} {K : PySem.W.Frag} {σ : L2.St} {a : Addr}
/-- two lists of ints compared -/
theorem w_eqLI {b : Addr} {ns ms : List Int} (ha : H a = some (.lst (ns.map V.int))) (hb : H b = some (.lst (ms.map V.int))) (h : Q (.bl (decide (ns = ms))) H) : rEqU K (.ref a) (.ref b) H Q :=
  w_eqD (dp_ints ha) (dp_ints hb) (shaped_dI _) (shaped_dI _) (by rw [eqv_dI]; exact h)
theorem w_neLI {b : Addr} {ns ms : List Int} (ha : H a = some (.lst (ns.map V.int))) (hb : H b = some (.lst (ms.map V.int))) (h : Q (.bl (!decide (ns = ms))) H) : rNeU K (.ref a) (.ref b) H Q :=
  w_neD (dp_ints ha) (dp_ints hb) (shaped_dI _) (shaped_dI _) (by rw [eqv_dI]; exact h)
theorem w_disp {trs : List (TE × TE)} (h : ∀ p, H p = none → tPairs trs σ (upd H p (.dK [])) fun ps H2 => H2 p = some (.dK []) ∧ ∃ kvs : List (Key × V), ps = kvs.map (fun kv => (kV kv.1, kv.2)) ∧ kvs.length ≤ 15 ∧ Q (.ref p) (upd H2 p (.dK (mergeK [] kvs)))) : tDisp trs σ H Q := h
theorem w_pcons {tk tv : TE} {r : List (TE × TE)} {P : List (V × V) → Hp → Prop} (h : tk σ H fun x H1 => tv σ H1 fun y H2 => tPairs r σ H2 fun ps H3 => P ((x, y) :: ps) H3) : tPairs ((tk, tv) :: r) σ H P := h
theorem w_pnil {P : List (V × V) → Hp → Prop} (h : P [] H) : tPairs [] σ H P := h
theorem cutV_to (xs : List V) (n : Nat) : cutV xs none (some (n : Int)) = xs.take n := by
  unfold cutV
  rw [HT.sIx_none, HT.sIx_nat, List.drop_zero, Nat.sub_zero]
  by_cases h : n ≤ xs.length
  · rw [Nat.min_eq_left h]
  · rw [Nat.min_eq_right (by omega), List.take_of_length_le (Nat.le_refl _), List.take_of_length_le (by omega)]
theorem cutV_from (xs : List V) (n : Nat) : cutV xs (some (n : Int)) none = xs.drop n := by
  unfold cutV
  rw [HT.sIx_none, HT.sIx_nat]
  by_cases h : n ≤ xs.length
  · rw [Nat.min_eq_left h, List.take_of_length_le (by rw [List.length_drop]; exact Nat.le_refl _)]
  · rw [Nat.min_eq_right (by omega), Nat.sub_self, List.take_zero, List.drop_of_length_le (by omega)]
end
/-- _law_begin -/
def spBegin (K : PySem.W.Frag) : Sp := fun vs H Q _ => ∃ (s : Addr) (ns : List Int), vs = [.ref s] ∧ SqL K H s (ns.map V.int) ∧ ns.length ≤ 63 ∧ ∀ a H', LW (2 ^ 50) a [] H H' → Q (.ref a) H'
theorem pure_begin {K : PySem.W.Frag} (vs : List V) (H : Hp) (Q : VK) (E : XK) (h : spBegin K vs H Q E) : t_begin K { nx := fun _ H' => Q .non H', rt := Q } (start N_begin vs) H := by
  obtain ⟨s, ns, rfl, hs, hl, k⟩ := h
  unfold t_begin
  walk_at "go"
  refine w_slL hs fun p hp => ?_
  have e1 : cutV (ns.map V.int) none (some 63) = ns.map V.int := by
    have q := cutV_to (ns.map V.int) 63
    rw [List.take_of_length_le (by rw [List.length_map]; exact hl)] at q
    exact q
  rw [e1]
  have s1 : Same H (upd H p (.lst (ns.map V.int))) := same_new hp
  walk_at "go"
  refine w_listL (SqL.of upd_same) fun c hc => ?_
  have s2 := s1.trans (same_new (o := .lst (ns.map V.int)) hc)
  have c2 : upd (upd H p (.lst (ns.map V.int))) c (.lst (ns.map V.int)) c = some (.lst (ns.map V.int)) := upd_same
  have hc0 : H c = none := s1.free hc
  revert c2 s2
  generalize upd (upd H p (.lst (ns.map V.int))) c (.lst (ns.map V.int)) = H2
  intro s2 c2
  walk_at "go"
  refine ⟨Nat.zero_le _, fun q hq => ?_⟩
  have s3 := s2.trans (same_new (o := .lst []) hq)
  have c3 := same_new (o := .lst []) hq _ _ c2
  refine w_eqLI (ns := ns) (ms := []) c3 upd_same ?_
  walk_at "go"
  have fin : ∀ (H3 : Hp) (c' : Addr) (ms : List Int), Same H H3 → H c' = none → H3 c' = some (.lst (ms.map V.int)) → 0 < ms.length → ∀ p, H3 p = none → Q (.ref p) (upd (upd H3 p (.dK [])) p (.dK (mergeK [] [(.inr "cells", .ref c'), (.inr "turn", .int 0)]))) := by
    intro H3 c' ms s3 h1 h2 h3 p hp
    have e : HO.dK (mergeK [] [(.inr "cells", .ref c'), (.inr "turn", .int 0)]) = stD c' 0 := by
      show HO.dK (putK (putK [] (.inr "cells") (.ref c')) (.inr "turn") (.int 0)) = stD c' 0
      simp [putK, stD, ne_ct]
    rw [e, upd_upd]
    have w := ((Wd.nil (Same.refl H)).own' s3 h1 h2).own (p := p) (o := stD c' 0) hp
    exact k p _ ⟨c', 0, ms, w, h3, by decide, by decide⟩
  refine w_ifd (fun he => ?_) (fun he => ?_)
  · walk_at "go"
    refine ⟨by decide, fun r hr => ?_⟩
    walk_at "go"
    refine w_disp fun p hp => ?_
    refine w_pcons ?_
    walk_at "go"
    refine w_pcons ?_
    walk_at "go"
    refine w_pnil ?_
    exact ⟨upd_same, [(.inr "cells", .ref r), (.inr "turn", .int 0)], rfl, by show 2 ≤ 15; decide, fin _ r [7] (s3.trans (same_new hr)) (s3.free hr) upd_same (by decide) p hp⟩
  · walk_at "go"
    refine w_disp fun p hp => ?_
    refine w_pcons ?_
    walk_at "go"
    refine w_pcons ?_
    walk_at "go"
    refine w_pnil ?_
    refine ⟨upd_same, [(.inr "cells", .ref c), (.inr "turn", .int 0)], rfl, by show 2 ≤ 15; decide, fin _ c ns s3 hc0 c3 ?_ p hp⟩
    cases ns with
    | nil => exact absurd rfl he
    | cons _ _ => exact Nat.succ_pos _
/-! ### _law_same -/
/-- data that _law_same knows, at most n deep -/
def okD : Nat → PyData → Bool
  | 0, _ => false
  | _ + 1, .none => true
  | _ + 1, .int _ => true
  | _ + 1, .str _ => true
  | n + 1, .list ds => decide (ds.length ≤ 16777216) && ds.all (okD n)
  | n + 1, .tuple ds => decide (ds.length ≤ 16777216) && ds.all (okD n)
  | _ + 1, .bool _ => false
  | _ + 1, .dict _ => false
def spSame (K : PySem.W.Frag) (n : Nat) : Sp := fun vs H Q _ => ∃ (x y : V) (d : PyData), vs = [x, y] ∧ Dp K H x d ∧ Dp K H y d ∧ okD n d = true ∧ ∀ H', Same H H' → Q (.bl true) H'
theorem all_rep (n : Nat) : (List.replicate n true).all id = true := by
  induction n with
  | zero => rfl
  | succ n ih => rw [List.replicate_succ, List.all_cons, ih]; rfl
theorem pure_same {K : PySem.W.Frag} {n : Nat} (vs : List V) (H : Hp) (Q : VK) (E : XK) (h : spSame K (n + 1) vs H Q E) : t_same K (spSame K n) { nx := fun _ H' => Q .non H', rt := Q } (start N_same vs) H := by
  obtain ⟨x, y, d, rfl, hx, hy, hd, k⟩ := h
  unfold t_same
  have zip_turn : ∀ (ds : List PyData) (xs ys : List V), DpAll K H xs ds → DpAll K H ys ds → ds.all (okD n) = true → ∀ (σ : L2.St) (i : Nat) (u : V) (D : Addr) (Hi H' : Hp), H D = none → Same H Hi → Hi D = some (.lst (List.replicate i (.bl true))) → i < ds.length → ds.length ≤ 16777216 → σ.length = 5 →
      YPair (fun i => xs[i]?) (fun i => ys[i]?) i Hi u H' → (gTup K 2 (gCons (gName 3) (gCons (gName 4) gNil))) u (wipe σ [3, 4]) H' fun σ2 H2 => wipe σ2 [3, 4] = wipe σ [3, 4] ∧ tYes σ2 H2 fun b H3 =>
        if b = true then (tCall (spSame K n) [] E0 (tCons (tVar 3) (tCons (tVar 4) tNil))) σ2 H3 fun y H4 => ∃ acc, H4 D = some (.lst acc) ∧ acc.length < sizeLine ∧ (Same H (upd H4 D (.lst (acc ++ [y]))) ∧ upd H4 D (.lst (acc ++ [y])) D = some (.lst (List.replicate (i + 1) (.bl true)))) else (Same H H3 ∧ H3 D = some (.lst (List.replicate (i + 1) (.bl true)))) := by
    intro ds xs ys ax ay ok σ i u D Hi H' hD si hi hlt hsz hσ hY
    obtain ⟨T, x1, y1, rfl, hT, rfl, ex, ey⟩ := hY
    have s2 := si.trans (same_new (o := .tup [x1, y1]) hT)
    have d2 := same_new (o := .tup [x1, y1]) hT _ _ hi
    refine w_gtup (SqT.of upd_same) rfl ?_
    obtain ⟨s0, s1, s2', s3, s4, rfl⟩ : ∃ s0 s1 s2' s3 s4, σ = [s0, s1, s2', s3, s4] := by
      match σ, hσ with
      | [s0, s1, s2', s3, s4], _ => exact ⟨s0, s1, s2', s3, s4, rfl⟩
    walk_at "go"
    refine ⟨rfl, ?_⟩
    walk_at "go"
    have hd1 : ds[i]? = some ds[i] := List.getElem?_eq_getElem hlt
    refine ⟨x1, y1, ds[i], rfl, dp_mono s2 _ _ (dpAll_get ax ex hd1), dp_mono s2 _ _ (dpAll_get ay ey hd1), List.all_eq_true.mp ok _ (List.getElem_mem hlt), fun H4 s4 => ?_⟩
    refine ⟨_, s4 _ _ d2, by rw [List.length_replicate]; exact sz_lt (by omega), same_mut (s2.trans s4) hD, ?_⟩
    rw [upd_same, List.replicate_succ']
  cases hx with
  | non =>
    cases hy
    walk_at "go"
    exact k _ (Same.refl _)
  | bl b => exact absurd hd (by simp [okD])
  | int i =>
    cases hy
    walk_at "go"
    rw [decide_eq_true rfl]
    exact k _ (Same.refl _)
  | str z =>
    cases hy
    walk_at "go"
    rw [decide_eq_true rfl]
    exact k _ (Same.refl _)
  | @lst a xs ds ha ax =>
    cases hy with
    | @lst b ys _ hb ay =>
      walk_at "go"
      refine w_is_list_dict hb ?_
      walk_at "go"
      refine w_is_list_list hb ?_
      walk_at "go"
      refine w_is_list_list ha ?_
      walk_at "go"
      refine w_is_list_list hb ?_
      walk_at "go"
      refine w_neBf rfl ?_
      walk_at "go"
      refine w_is_list_tuple ha ?_
      walk_at "go"
      refine w_is_list_tuple hb ?_
      walk_at "go"
      refine w_neBf rfl ?_
      walk_at "go"
      refine w_lenL ha ?_
      walk_at "go"
      refine w_lenL hb ?_
      walk_at "go"
      have lx := dpAll_len ax
      have ly := dpAll_len ay
      refine w_ifn (fun q => absurd (by rw [lx, ly]) q) (fun _ => ?_)
      walk_at "go"
      refine w_itZL ha hb ?_
      intro D hD
      have hz : ds.length ≤ 16777216 ∧ ds.all (okD n) = true := by simpa [okD] using hd
      refine lc_it (walk_zip (xs := xs) (ys := ys) (n := ds.length) (by omega)) (fun i H' => Same H H' ∧ H' D = some (.lst (List.replicate i (.bl true)))) ⟨same_new hD, upd_same⟩ (fun i H' _ p => ⟨same_l p.1 ha, same_l p.1 hb⟩) (fun i u Hi H' hi p y => ?_) (fun H' p => ?_)
      · exact zip_turn ds xs ys ax ay hz.2 _ i u D Hi H' hD p.1 p.2 hi hz.1 rfl y
      · walk_at "go"
        refine w_all (bs := List.replicate ds.length true) (SqL.of (by rw [p.2, List.map_replicate])) ?_
        rw [all_rep]
        exact k _ p.1
  | @tup a xs ds ha ax =>
    cases hy with
    | @tup b ys _ hb ay =>
      walk_at "go"
      refine w_is_tuple_dict hb ?_
      walk_at "go"
      refine w_is_tuple_list hb ?_
      walk_at "go"
      refine w_is_tuple_tuple hb ?_
      walk_at "go"
      refine w_is_tuple_list ha ?_
      walk_at "go"
      refine w_is_tuple_list hb ?_
      walk_at "go"
      refine w_neBf rfl ?_
      walk_at "go"
      refine w_is_tuple_tuple ha ?_
      walk_at "go"
      refine w_is_tuple_tuple hb ?_
      walk_at "go"
      refine w_neBf rfl ?_
      walk_at "go"
      refine w_lenT ha ?_
      walk_at "go"
      refine w_lenT hb ?_
      walk_at "go"
      have lx := dpAll_len ax
      have ly := dpAll_len ay
      refine w_ifn (fun q => absurd (by rw [lx, ly]) q) (fun _ => ?_)
      walk_at "go"
      refine w_itZT ha hb ?_
      intro D hD
      have hz : ds.length ≤ 16777216 ∧ ds.all (okD n) = true := by simpa [okD] using hd
      refine lc_it (walk_zipT (xs := xs) (ys := ys) (n := ds.length) (by omega)) (fun i H' => Same H H' ∧ H' D = some (.lst (List.replicate i (.bl true)))) ⟨same_new hD, upd_same⟩ (fun i H' _ p => ⟨same_t p.1 ha, same_t p.1 hb⟩) (fun i u Hi H' hi p y => ?_) (fun H' p => ?_)
      · exact zip_turn ds xs ys ax ay hz.2 _ i u D Hi H' hD p.1 p.2 hi hz.1 rfl y
      · walk_at "go"
        refine w_all (bs := List.replicate ds.length true) (SqL.of (by rw [p.2, List.map_replicate])) ?_
        rw [all_rep]
        exact k _ p.1
end Ps

/-! PsF: loops, whatever is walked. -/
namespace Ps
open PySem PySem.Spec PyProof.Rows L2
/-- a list or a tuple -/
def Sq (K : PySem.W.Frag) (H : Hp) (a : Addr) (xs : List V) : Prop := SqL K H a xs ∨ SqT K H a xs
section
variable {K : PySem.W.Frag} {H H' Hi H4 : Hp} {a b D p : Addr} {xs ys vs : List V} {R : It → Hp → Prop} {v y : V} {i n : Nat}
theorem Sq.same (s : Same H H') (h : Sq K H a xs) : Sq K H' a xs := h.elim (fun h => .inl (same_l s h)) fun h => .inr (same_t s h)
theorem Sq.l (h : H a = some (.lst xs)) : Sq K H a xs := .inl (SqL.of h)
theorem Sq.t (h : H a = some (.tup xs)) : Sq K H a xs := .inr (SqT.of h)
theorem w_it (ha : Sq K H a xs) (h : ∀ J, Walk J xs.length (Same H) (YAt xs) → R J H) : SeqK K R (.ref a) H := by
  rcases ha with ha | ha
  · exact w_itL ha (h _ (walk_list.mono (fun _ s => same_l s ha) fun _ _ _ _ _ _ y => y))
  · exact w_itT ha (h _ (walk_tup.mono (fun _ s => same_t s ha) fun _ _ _ _ _ _ y => y))
theorem w_itE (ha : Sq K H a xs) (h : ∀ J, Walk J xs.length (Same H) (YPair (fun i => some (.int (i : Nat))) fun i => xs[i]?) → R J H) : EnumK K R [.ref a] H := by
  rcases ha with ha | ha
  · exact w_itEL ha (h _ (walk_enum.mono (fun _ s => same_l s ha) fun _ _ _ _ _ _ y => y))
  · exact w_itET ha (h _ (walk_enumT.mono (fun _ s => same_t s ha) fun _ _ _ _ _ _ y => y))
theorem w_itV (ha : Sq K H a xs) (h : ∀ J, Walk J xs.length (Same H) (fun i H x H' => H' = H ∧ xs[xs.length - 1 - i]? = some x) → R J H) : RevK K R (.ref a) H := by
  rcases ha with ha | ha
  · exact w_itVL ha (h _ (walk_rev.mono (fun _ s => same_l s ha) fun _ _ _ _ _ _ y => y))
  · refine w_itVT ha (h _ ⟨fun i _ hi s => ⟨hi, xs, xs[xs.length - 1 - i]'(by omega), same_t s ha, by simp [show xs.length - 1 - i < xs.length by omega]⟩, fun _ _ => Nat.le_refl _, fun _ _ _ _ _ s y => ⟨y.1, y.2 xs (same_t s ha)⟩⟩)
theorem w_itZ (ha : SqL K H a xs ∧ SqL K H b ys ∨ SqT K H a xs ∧ SqT K H b ys) (hn : n = min xs.length ys.length) (h : ∀ J, Walk J n (Same H) (YPair (fun i => xs[i]?) fun i => ys[i]?) → R J H) : ZipK K R [.ref a, .ref b] H := by
  rcases ha with ⟨ha, hb⟩ | ⟨ha, hb⟩
  · exact w_itZL ha hb (h _ ((walk_zip hn).mono (fun _ s => ⟨same_l s ha, same_l s hb⟩) fun _ _ _ _ _ _ y => y))
  · exact w_itZT ha hb (h _ ((walk_zipT hn).mono (fun _ s => ⟨same_t s ha, same_t s hb⟩) fun _ _ _ _ _ _ y => y))
theorem w_len (ha : Sq K H a xs) {Q : VK} (h : Q (.int xs.length) H) : rLenU K [.ref a] H Q := ha.elim (fun ha => w_lenL ha h) fun ha => w_lenT ha h
theorem w_ix (ha : Sq K H a xs) {Q : VK} {j : Int} (hj : atI xs j = some v) (h : Q v H) : rIxU K (.ref a) (.int j) H Q := ha.elim (fun ha => w_ixL ha hj h) fun ha => w_ixT ha hj h
theorem w_list (ha : Sq K H a xs) {Q : VK} (h : ∀ p, H p = none → Q (.ref p) (upd H p (.lst xs))) : rListU K [.ref a] H Q := ha.elim (fun ha => w_listL ha h) fun ha => w_listT ha h
/-- a comprehension's list so far: the first i of vs -/
def LcP (H : Hp) (D : Addr) (vs : List V) (i : Nat) (H' : Hp) : Prop := Same H H' ∧ H' D = some (.lst (vs.take i))
theorem lc_go (hD : H D = none) : LcP H D vs 0 (upd H D (.lst [])) := ⟨same_new hD, by rw [upd_same, List.take_zero]⟩
theorem take_snoc {α : Type} : ∀ {l : List α} {i : Nat} {x : α}, l[i]? = some x → l.take (i + 1) = l.take i ++ [x] := fun {l i x} h => by
  rw [List.take_add_one, h]
  rfl
theorem lc_fin (hD : H D = none) (p : LcP H D vs i Hi) (s : Same Hi H4) (e : vs[i]? = some y) (hi : i < 16777216) : ∃ acc, H4 D = some (.lst acc) ∧ acc.length < sizeLine ∧ LcP H D vs (i + 1) (upd H4 D (.lst (acc ++ [y]))) :=
  ⟨_, s _ _ p.2, sz_lt (by rw [List.length_take]; omega), same_mut (p.1.trans s) hD, by rw [upd_same, take_snoc e]⟩
theorem lc_end (p : LcP H D vs n H') (hn : vs.length ≤ n) : H' D = some (.lst vs) := by rw [p.2, List.take_of_length_le hn]
theorem int_at {ns : List Int} {i : Nat} {y : V} (h : (ns.map V.int)[i]? = some y) : ∃ b, ns[i]? = some b ∧ y = .int b := by
  rw [List.getElem?_map] at h
  cases e : ns[i]? with
  | none => rw [e] at h; cases h
  | some b => rw [e] at h; exact ⟨b, rfl, (Option.some.inj h).symm⟩
theorem at_int {ns : List Int} {i : Nat} {b : Int} (h : ns[i]? = some b) : (ns.map V.int)[i]? = some (.int b) := by rw [List.getElem?_map, h]; rfl
end
/-- a range -/
theorem w_rg {H : Hp} {R : It → Hp → Prop} {n : Nat} (hn : n < 2 ^ 62) (h : ∀ J, Walk J n (fun _ => True) (YFn fun i => .int (i : Nat)) → R J H) : Rng1K R [.int (n : Int)] H := by
  refine w_itR (by omega) (by omega) (h _ ?_)
  rw [Int.toNat_natCast]
  exact walk_range.mono (fun _ s => s) fun i H x H' _ _ y => ⟨y.1, by
    rw [y.2]
    show V.int (0 + (i : Int)) = V.int i
    rw [Int.zero_add]⟩
theorem w_rg2 {H : Hp} {R : It → Hp → Prop} {lo : Int} {n : Nat} {hi : Int} (h1 : -(2 ^ 62) ≤ lo ∧ lo < 2 ^ 62 ∧ -(2 ^ 62) ≤ hi ∧ hi < 2 ^ 62) (hn : n = (hi - lo).toNat) (h : ∀ J, Walk J n (fun _ => True) (YFn fun i => .int (lo + (i : Nat))) → R J H) : Rng2K R [.int lo, .int hi] H := by
  refine w_itR2 h1 ?_
  rw [← hn]
  exact h _ walk_range
theorem fn_no {P : Program} {w : World} {K : PySem.W.Frag} {mg : Str → Option Value} {base : Heap} {CX : CXT} {k : Nat} {f : Addr} {fd : FuncData} {ps : List Str} {sp : Sp} (h : ∀ vs H Q E, ¬ sp vs H Q E) : FnOk P w K mg base CX k f fd ps sp :=
  ⟨fun vs H Q E q => (h _ _ _ _ q).elim, fun _ _ _ _ _ _ _ _ _ _ _ _ _ q => (h _ _ _ _ q).elim⟩
theorem same_no {K : PySem.W.Frag} (vs : List V) (H : Hp) (Q : VK) (E : XK) : ¬ spSame K 0 vs H Q E := by
  rintro ⟨x, y, d, _, _, _, hd, _⟩
  cases hd
/-! ### the law's world at a call -/
section
variable {m : Nat} {a l : Addr} {R : List (Addr × HO)} {G H : Hp} {o : HO} {n : Int} {Q : VK} {E : XK} {K : PySem.W.Frag}
theorem LW.at (h : LW m a R G H) (q : (l, o) ∈ R) : H l = some o := by
  obtain ⟨c, t, ns, w, r⟩ := h
  exact w.mem (List.mem_cons_of_mem _ (List.mem_cons_of_mem _ q))
theorem LW.sd {x : Addr × HO} (h : LW m a (x :: (l, o) :: R) G H) : H l = some o := h.at (List.mem_cons_of_mem _ List.mem_cons_self)
theorem LW.td {x y : Addr × HO} (h : LW m a (x :: y :: (l, o) :: R) G H) : H l = some o := h.at (List.mem_cons_of_mem _ (List.mem_cons_of_mem _ List.mem_cons_self))
theorem LW.perm {R' : List (Addr × HO)} (h : LW m a R G H) (p : R'.Perm R) : LW m a R' G H := by
  obtain ⟨c, t, ns, w, r⟩ := h
  exact ⟨c, t, ns, w.perm ((p.cons _).cons _), r⟩
theorem w_take (lw : LW (m + 1) a R G H) (h0 : 0 < n) (h1 : n < 2 ^ 62) (k : ∀ v H', LW m a R G H' → 0 ≤ v → v < n → Q (.int v) H') : spTake ([.ref a, .int n] ++ []) H Q E :=
  ⟨m, a, n, R, G, rfl, lw, h0, h1, k⟩
theorem w_same {x y : V} {d : PyData} {n : Nat} (hx : Dp K H x d) (hy : Dp K H y d) (hd : okD n d = true) (k : ∀ H', Same H H' → Q (.bl true) H') : spSame K n ([x, y] ++ []) H Q E := ⟨x, y, d, rfl, hx, hy, hd, k⟩
theorem w_begin {ns : List Int} (hs : SqL K H a (ns.map V.int)) (hn : ns.length ≤ 63) (k : ∀ a H', LW (2 ^ 50) a [] H H' → Q (.ref a) H') : spBegin K ([.ref a] ++ []) H Q E := ⟨a, ns, rfl, hs, hn, k⟩
end
/-- a written list of ints, at a place that is drawn -/
theorem at_lit (l : List Int) {v : Int} (h0 : 0 ≤ v) (h1 : v < l.length) : ∃ z, z ∈ l ∧ atI (l.map V.int) v = some (.int z) := by
  obtain ⟨j, rfl⟩ : ∃ j : Nat, v = (j : Int) := ⟨v.toNat, by omega⟩
  have hj : j < l.length := by omega
  exact ⟨l[j], List.getElem_mem hj, atI_nat (by rw [List.getElem?_map, List.getElem?_eq_getElem hj]; rfl)⟩
theorem okD_ints (n : Nat) (ns : List Int) (h : ns.length ≤ 16777216) : okD (n + 2) (dI ns) = true := by
  unfold dI
  simp only [okD, Bool.and_eq_true, decide_eq_true_eq, List.length_map]
  refine ⟨h, List.all_eq_true.mpr fun d hd => ?_⟩
  obtain ⟨z, _, rfl⟩ := List.mem_map.mp hd
  rfl
/-- what the law asks -/
def spLaw (K : PySem.W.Frag) : Sp := fun vs H Q _ => ∃ (a : Addr) (ns : List Int), vs = [.ref a] ∧ SqL K H a (ns.map V.int) ∧ ns.length ≤ 63 ∧ ∀ H', Q (.bl true) H'
end Ps

/-! PsG: while loops; walks over lists while the heap changes elsewhere; slices from the end. -/
namespace Ps
open PySem PySem.Spec PyProof.Rows L2
section
variable {K : PySem.W.Frag} {H H' H1 Hi H4 : Hp} {a b D p : Addr} {xs ys vs : List V} {R : It → Hp → Prop} {v y : V} {i n m : Nat}
theorem w_while {c : TT} {tb : TS} {D : Ends} {σ : L2.St} (W : Nat → L2.St → Hp → Prop) (m : Nat) (h0 : W m σ H)
    (hs : ∀ m σ H, W m σ H → c σ H fun b H1 => if b = true then ∃ N : L2.St → Hp → Prop, (∀ σ' H', N σ' H' → ∃ m', m' < m ∧ W m' σ' H') ∧ tb { D with nx := N, ct := N, bk := D.nx } σ H1 else D.nx σ H1) : tWhile c tb D σ H := ⟨W, ⟨m, h0⟩, hs⟩
theorem w_loop {tb : TS} {D : Ends} {σ : L2.St} {W : Nat → L2.St → Hp → Prop}
    (h : tb { D with nx := fun σ' H' => ∃ m', m' < m ∧ W m' σ' H', ct := fun σ' H' => ∃ m', m' < m ∧ W m' σ' H', bk := D.nx } σ H1) : ∃ N : L2.St → Hp → Prop, (∀ σ' H', N σ' H' → ∃ m', m' < m ∧ W m' σ' H') ∧ tb { D with nx := N, ct := N, bk := D.nx } σ H1 :=
  ⟨_, fun _ _ q => q, h⟩
theorem w_itML (ha : H a = some (.lst xs)) (h : ∀ J, Walk J xs.length (fun H' => H' a = some (.lst xs)) (YAt xs) → R J H) : SeqK K R (.ref a) H :=
  w_itL (SqL.of ha) (h _ (walk_list.mono (fun _ s => SqL.of s) fun _ _ _ _ _ _ y => y))
theorem w_itMT (ha : H a = some (.tup xs)) (h : ∀ J, Walk J xs.length (fun H' => H' a = some (.tup xs)) (YAt xs) → R J H) : SeqK K R (.ref a) H :=
  w_itT (SqT.of ha) (h _ (walk_tup.mono (fun _ s => SqT.of s) fun _ _ _ _ _ _ y => y))
theorem w_itME (ha : H a = some (.lst xs)) (h : ∀ J, Walk J xs.length (fun H' => H' a = some (.lst xs)) (YPair (fun i => some (.int (i : Nat))) fun i => xs[i]?) → R J H) : EnumK K R [.ref a] H :=
  w_itEL (SqL.of ha) (h _ (walk_enum.mono (fun _ s => SqL.of s) fun _ _ _ _ _ _ y => y))
theorem w_itMZ (ha : H a = some (.lst xs)) (hb : H b = some (.lst ys)) (hn : n = min xs.length ys.length) (h : ∀ J, Walk J n (fun H' => H' a = some (.lst xs) ∧ H' b = some (.lst ys)) (YPair (fun i => xs[i]?) fun i => ys[i]?) → R J H) : ZipK K R [.ref a, .ref b] H :=
  w_itZL (SqL.of ha) (SqL.of hb) (h _ ((walk_zip hn).mono (fun _ s => ⟨SqL.of s.1, SqL.of s.2⟩) fun _ _ _ _ _ _ y => y))
/-- a row of an earlier heap is walked while newer things change -/
theorem w_itB {H0 : Hp} (s : Same H0 H) (ha : Sq K H0 a xs) (h : ∀ J, Walk J xs.length (Same H0) (YAt xs) → R J H) : SeqK K R (.ref a) H := by
  rcases ha with ha | ha
  · exact w_itL (same_l s ha) (h _ (walk_list.mono (fun _ s => same_l s ha) fun _ _ _ _ _ _ y => y))
  · exact w_itT (same_t s ha) (h _ (walk_tup.mono (fun _ s => same_t s ha) fun _ _ _ _ _ _ y => y))
theorem w_itEB {H0 : Hp} (s : Same H0 H) (ha : Sq K H0 a xs) (h : ∀ J, Walk J xs.length (Same H0) (YPair (fun i => some (.int (i : Nat))) fun i => xs[i]?) → R J H) : EnumK K R [.ref a] H := by
  rcases ha with ha | ha
  · exact w_itEL (same_l s ha) (h _ (walk_enum.mono (fun _ s => same_l s ha) fun _ _ _ _ _ _ y => y))
  · exact w_itET (same_t s ha) (h _ (walk_enumT.mono (fun _ s => same_t s ha) fun _ _ _ _ _ _ y => y))
theorem w_itVB {H0 : Hp} (s : Same H0 H) (ha : Sq K H0 a xs) (h : ∀ J, Walk J xs.length (Same H0) (fun i H x H' => H' = H ∧ xs[xs.length - 1 - i]? = some x) → R J H) : RevK K R (.ref a) H := by
  rcases ha with ha | ha
  · exact w_itVL (same_l s ha) (h _ (walk_rev.mono (fun _ s => same_l s ha) fun _ _ _ _ _ _ y => y))
  · refine w_itVT (same_t s ha) (h _ ⟨fun i _ hi s => ⟨hi, xs, xs[xs.length - 1 - i]'(by omega), same_t s ha, by simp [show xs.length - 1 - i < xs.length by omega]⟩, fun _ _ => Nat.le_refl _, fun _ _ _ _ _ s y => ⟨y.1, y.2 xs (same_t s ha)⟩⟩)
end
/-- what comes behind an if, as a wish of its own: both ways end in it -/
theorem w_ifO {c : Prop} [Decidable c] {t u : TS} {N B C : L2.St → Hp → Prop} {r : VK} {σ : L2.St} {H : Hp} (h : ∀ P : L2.St → Hp → Prop, (∀ σ H, N σ H → P σ H) → if c then t ⟨P, r, B, C⟩ σ H else u ⟨P, r, B, C⟩ σ H) : if c then t ⟨N, r, B, C⟩ σ H else u ⟨N, r, B, C⟩ σ H := h N fun _ _ q => q
theorem w_seqO {t u : TS} {D : Ends} {σ : L2.St} {H : Hp} (h : ∀ P : L2.St → Hp → Prop, (∀ σ H, u D σ H → P σ H) → t ⟨P, D.rt, D.bk, D.ct⟩ σ H) : tSeq t u D σ H := h _ fun _ _ q => q
theorem w_ifK {c : Prop} [Decidable c] {A B : L2.VK → Prop} {Q : L2.VK} (h : ∀ P : L2.VK, (∀ v H, Q v H → P v H) → if c then A P else B P) : if c then A Q else B Q := h Q fun _ _ q => q
theorem sIx_none (n d : Nat) : HT.sIx n d none = d := rfl
theorem w_slSq {K : PySem.W.Frag} {H : Hp} {a : Addr} {xs : List V} {lo hi : Option Int} {Q : VK} (ha : Sq K H a xs) (h : ∀ b H', Same H H' → Sq K H' b (cutV xs lo hi) → Q (.ref b) H') : rSlU K (.ref a) lo hi H Q := by
  rcases ha with ha | ha
  · exact w_slL ha fun p hp => h p _ (same_new hp) (.inl (SqL.of upd_same))
  · refine .inl (.inr ⟨a, xs, rfl, ha, fun hw => h a H (Same.refl _) (.inr ?_), fun _ p hp => h p _ (same_new hp) (.inr (SqT.of upd_same))⟩)
    unfold cutV
    rw [hw.1, hw.2, List.drop_zero, Nat.sub_zero, List.take_length]
    exact ha
theorem sIx_m1 {n : Nat} (d : Nat) : HT.sIx (n + 1) d (some (-1)) = n := by
  unfold HT.sIx
  simp
  omega
theorem cutV_front {xs : List V} {x : V} : cutV (xs ++ [x]) none (some (-1)) = xs := by
  unfold cutV
  rw [List.length_append, List.length_singleton, sIx_m1]
  have e : HT.sIx (xs.length + 1) 0 none = 0 := rfl
  rw [e, List.drop_zero, Nat.sub_zero, List.take_left]
theorem cutV_last {xs : List V} {x : V} : cutV (xs ++ [x]) (some (-1)) none = [x] := by
  unfold cutV
  rw [List.length_append, List.length_singleton, sIx_m1]
  have e : HT.sIx (xs.length + 1) (xs.length + 1) none = xs.length + 1 := rfl
  rw [e, List.drop_left, Nat.add_sub_cancel_left]
  rfl
theorem sIx_nat {n d j : Nat} : HT.sIx n d (some (j : Int)) = min j n := by
  unfold HT.sIx
  simp
  intro h
  omega
theorem cutV_mid (xs : List V) (i j : Nat) : cutV xs (some (i : Int)) (some (j : Int)) = (xs.drop i).take (j - i) := by
  unfold cutV
  rw [sIx_nat, sIx_nat]
  by_cases c : i ≤ xs.length
  · rw [Nat.min_eq_left c]
    by_cases c2 : j ≤ xs.length
    · rw [Nat.min_eq_left c2]
    · rw [Nat.min_eq_right (by omega), List.take_of_length_le (by rw [List.length_drop]; omega), List.take_of_length_le (by rw [List.length_drop]; omega)]
  · rw [Nat.min_eq_right (show xs.length ≤ i by omega), List.drop_eq_nil_of_le (Nat.le_refl xs.length), List.drop_eq_nil_of_le (show xs.length ≤ i by omega)]
    simp
/-- range(0, n, c) -/
def RngCK (R : It → Hp → Prop) (vs : List V) (H1 : Hp) : Prop := ∃ (i j c : Int) (n : Nat), vs = [.int i, .int j, .int c] ∧ RgC i j c n ∧ R (Itc i c n) H1
theorem w_rng3 {ta : TA} {σ : L2.St} {H : Hp} {R : It → Hp → Prop} (h : ta σ H fun vs H1 => RngCK R vs H1) : iRng3 ta σ H R := h
theorem rgC_up {n c k : Nat} (hn : n < 2 ^ 61) (h0 : 0 < c) (h1 : c < 1073741824) (hk : k = (n + c - 1) / c) : RgC 0 n c k := by
  have hs : Builtin.Range.rangeSize 0 n c = k := by
    rw [rangeSize_pos (by omega) (by omega), hk]
    push_cast
    rw [Int.ofNat_sub (by omega)]
    push_cast
    rfl
  have hb : (k : Int) * c ≤ n + c := by
    have := Nat.div_mul_le_self (n + c - 1) c
    rw [← hk] at this
    have h2 : ((k * c : Nat) : Int) ≤ n + c := by omega
    rw [Int.natCast_mul] at h2
    exact h2
  refine ⟨by omega, by omega, ?_, hs⟩
  unfold Builtin.Range.small
  rw [hs]
  simp only [Builtin.Range.rangeFitsLong, Bool.and_eq_true, Bool.or_eq_true, decide_eq_true_eq, beq_iff_eq, show (c : Int) > 0 by omega, if_true]
  have hk2 : k ≤ n + c := by
    rw [hk]
    exact Nat.le_trans (Nat.div_le_self _ _) (by omega)
  omega
theorem w_rg3 {H : Hp} {R : It → Hp → Prop} {n c k : Nat} (hn : n < 2 ^ 61) (h0 : 0 < c) (h1 : c < 1073741824) (hk : k = (n + c - 1) / c) (h : ∀ J, Walk J k (fun _ => True) (YFn fun i => .int (((i * c : Nat)) : Int)) → R J H) : RngCK R [.int 0, .int n, .int c] H := by
  refine ⟨_, _, _, k, rfl, rgC_up hn h0 h1 hk, h _ ?_⟩
  exact walk_rangeC.mono (fun _ s => s) fun i H x H' _ _ y => ⟨y.1, by
    rw [y.2]
    show V.int (0 + (i : Int) * c) = V.int ((i * c : Nat) : Int)
    rw [Int.zero_add, Int.natCast_mul]⟩
theorem split_at {α : Type} {l : List α} {i : Nat} {x : α} (h : l[i]? = some x) : ∃ A B, l = A ++ x :: B ∧ A.length = i := by
  obtain ⟨h1, h2⟩ := List.getElem?_eq_some_iff.mp h
  refine ⟨l.take i, l.drop (i + 1), ?_, by rw [List.length_take]; omega⟩
  rw [← h2, List.getElem_cons_drop, List.take_append_drop]
theorem set_mid {α : Type} (A B : List α) (x y : α) : (A ++ x :: B).set A.length y = A ++ y :: B := by
  rw [List.set_append_right _ _ (Nat.le_refl _), Nat.sub_self, List.set_cons_zero]
section
variable {m : Nat} {a l p : Addr} {R : List (Addr × HO)} {G H : Hp} {o o' : HO} {i : Nat}
/-- an owned thing is changed, wherever it stands -/
theorem LW.set (h : LW m a R G H) (e : R[i]? = some (l, o)) : LW m a (R.set i (l, o')) G (upd H l o') := by
  obtain ⟨A, B, rfl, rfl⟩ := split_at e
  rw [set_mid]
  have h1 := h.perm (R' := (l, o) :: (A ++ B)) List.perm_middle.symm
  exact (h1.put (o' := o')).perm List.perm_middle
theorem LW.get (h : LW m a R G H) (e : R[i]? = some (l, o)) : H l = some o := h.at (List.mem_of_getElem? e)
end
end Ps

/-! PsX: an exception that is caught and kept in a name; methods that raise; a base's __init__ called by its class's name. -/
namespace Ps
open PySem PySem.Spec PyProof.Rows L2

/-- a kept exception of the class at C, its own dict d -/
def exv (a C : Addr) (d : Option Addr) : HO := .ext fun h => ∃ vs sl, h.get? a = some ({ cls := .ref C, dict := d, data := .fields vs, slots := sl } : Obj)
theorem exv_ok {P : Program} {w : World} {H : Hp} {h : Heap} {a C : Addr} {d : Option Addr} {vs : Array Value} {sl : Array (Option Value)} (e : h.get? a = some ({ cls := .ref C, dict := d, data := .fields vs, slots := sl } : Obj)) : ObjOk P w H h a (exv a C d) := by
  refine ⟨⟨vs, sl, e⟩, ⟨_, e⟩, ?_⟩
  rintro h1 h2 ⟨vs', sl', e'⟩ k
  exact ⟨vs', sl', k _ e'⟩
section
variable {X : Cx} {pins : List (Addr × Obj)} {σ : L2.St} {H : Hp} {s : Shared}
theorem exv_at {P : Program} {w : World} {h : Heap} {a C : Addr} {d : Option Addr} (x : HOk P w H h) (e : H a = some (exv a C d)) : ∃ vs sl, h.get? a = some ({ cls := .ref C, dict := d, data := .fields vs, slots := sl } : Obj) := (x a _ e).1
/-- an object of the heap that nobody tracks is tracked from now on -/
theorem inv_track {a : Addr} {o : HO} (I : Inv X pins σ H s) (na : H a = none) (new : ObjOk X.prog X.w (upd H a o) s.heap a o) (h0 : X.s_0.heap.get? a = none) (hl : a ≠ X.env.locals)
    (hc : ∀ x c, X.env.cells.lookup x = some c → c ≠ a) (hp : ∀ p ∈ X.pn ++ pins, p.1 ≠ a) : Inv X pins σ (upd H a o) s := by
  have ne : ∀ b u, H b = some u → b ≠ a := fun b u e => ne_of_none e na
  refine ⟨I.ok, I.os, I.bare, ⟨I.base.keep, I.base.slot, fun b u e n hx => ?_, I.base.there, fun b xs e => ?_, fun b u xs e => ?_, fun b ps e => ?_⟩, I.loc, I.cell, ?_, fun x c e => ?_, fun p h => ?_, fun b u e => ?_, I.len⟩
  · have nb : b ≠ a := fun z => by rw [z, h0] at e; cases e
    rw [upd_ne nb]; exact I.base.free b u e n hx
  · have q := I.base.tups b xs e
    rw [upd_ne (ne b _ q)]; exact q
  · have q := I.base.frzs b u xs e
    rw [upd_ne (ne b _ q)]; exact q
  · obtain ⟨m, q⟩ := I.base.tbls b ps e
    exact ⟨m, by rw [upd_ne (ne b _ q)]; exact q⟩
  · rw [upd_ne (Ne.symm hl)]; exact I.free
  · rw [upd_ne (hc x c e)]; exact I.freeC x c e
  · obtain ⟨q1, q2, q3⟩ := I.pin p h
    exact ⟨q1, by rw [upd_ne (hp p h)]; exact q2, q3⟩
  · by_cases z : b = a
    · subst z; rw [upd_same] at e; cases e; exact new
    · rw [upd_ne z] at e
      exact (I.hok b u e).stay (fun _ _ _ q => q) (fun c q => by rw [upd_ne (ne c _ q)]; exact q) fun c xs q => by rw [upd_ne (ne c _ q)]; exact q
end

/-- what «except x as n: y = n» wishes of an exception of the body: it stands kept, at a, in slot j; n's slot i is empty again -/
def wKeep (K : PySem.W.Frag) (c : Value) (i j : Nat) (Wout : WX) (D : Ends) : WX := fun cls d σ H =>
  ∃ (C : Addr) (b : Bool), cls = .ref C ∧ PySem.W.exmOne K cls c = some b ∧ (b = true → ∀ a, H a = none → D.nx (((σ.set i (some (.ref a))).set j (some (.ref a))).set i none) (upd H a (exv a C d))) ∧ (b = false → Wout cls d σ H)
def tTryK (K : PySem.W.Frag) (c : Value) (i j : Nat) (tb : WX → TS) (Wout : WX) : TS := fun D σ H => tb (wKeep K c i j Wout D) D σ H
section
variable {X : Cx} {x n y : Str} {c : Value} {i j : Nat} {body : List Stmt} {np pos pos' p1 p2 p3 : Pos} {tb : WX → TS} {Wout : WX}
theorem ps_try_keep (hs : X.stack = X.env :: X.outer) (hf : X.env.frame = some X.env.locals) (hN : X.N.Nodup) (hi : X.N[i]? = some n) (hln : X.env.kindOf n = some .local) (hj : X.N[j]? = some y) (hly : X.env.kindOf y = some .local)
    (hex : X.ex = []) (hc : Names X x c) (tk : Takes X Wout)
    (hb : ∀ (W : WX) (pn : List (Addr × Obj)) (xe : Value → Shared → Prop), Takes (X.tr pn xe) W → PassesOwn (model X.prog X.w) X.A X.env xe → PSs (X.tr pn xe) body (tb W))
    (hdn : (n == ("__debug__" : Str)) = false := by decide) (hcd : (n == ("__classdict__" : Str)) = false := by decide) (hsw : swapsWith (.Name n p2) (some (.Name y p1)) p3.line X.env = pure false := by rfl) :
    PS X (.Try body [.ExceptHandler (some (.Name x np)) (some n) [.Assign [.Name y p1] (.Name n p2) p3] pos'] [] [] pos) (tTryK X.K c i j tb Wout) := by
  refine ⟨fun pins s σ H D I h => ?_⟩
  have ok := I.ok
  have hfr : X.A.frames = some (X.env :: X.outer) := by rw [ok.frames, hs]
  refine wpAny_Try_except ?_
  let hd : List ExceptHandler := [.ExceptHandler (some (.Name x np)) (some n) [.Assign [.Name y p1] (.Name n p2) p3] pos']
  let xe' : Value → Shared → Prop := fun e s₁ => wpAny (model X.prog X.w) X.A (noteFrame e X.env) (fun _ s₂ => wpAny (model X.prog X.w) X.A (setFlight e none) (fun _ s₃ => wpAny (model X.prog X.w) X.A (handleBy e X.env hd) (SP X pins D) X.xe s₃) X.xe s₂) X.xe s₁
  have catch_ : Takes (X.tr (X.pn ++ pins) xe') (wKeep X.K c i j Wout D) := by
    intro u s' xx
    obtain ⟨a, B, sI, pins', σ', H', cls, d, rfl, J', nb, up, sky, na, os, ag, C, b, rfl, hb1, hyes, hno⟩ := xx
    have J : Inv X pins σ' H' sI := J'.ofTry ok
    rw [show (X.tr (X.pn ++ pins) xe').stack = X.env :: X.outer from hs] at sky
    -- the ground does not know the exception
    have hBa : B.get? a = none := by
      rcases sky with ⟨_, q, _⟩ | ⟨_, q, _⟩ | ⟨_, q, _⟩ <;> exact q
    show wpAny (model X.prog X.w) X.A (noteFrame (.ref a) X.env) _ _ _
    refine Sky.land Zc.steady hfr hf sky fun h3 fl3 up3 => ?_
    have J3 : Inv X pins σ' H' { s' with heap := h3 } := J.landed nb fl3.1 (up.trans up3) os ag
    obtain ⟨oe3, vs3, he3, hz3, hd3⟩ := fl3.there
    have nfr : a ∉ frs (X.env :: X.outer) := fun hm => by
      obtain ⟨_, o', e', hnf⟩ := fl3.2.2.1.mem hm
      rw [he3] at e'; cases e'
      exact hnf _ hd3
    have nL : a ≠ X.env.locals := fun z => nfr (List.mem_filterMap.mpr ⟨X.env, List.mem_cons_self, by rw [hf, z]⟩)
    have nF : a ∉ X.fs := fun hm => by
      obtain ⟨e, he, q⟩ := List.mem_filterMap.mp hm
      exact nfr (List.mem_filterMap.mpr ⟨e, List.mem_cons_of_mem _ he, q⟩)
    have nI : sI.heap.get? a = none := by
      cases q : sI.heap.get? a with
      | none => rfl
      | some o =>
        have z := nb a o q (by rw [show (X.tr (X.pn ++ pins) xe').stack = X.env :: X.outer from hs]; exact nfr)
        rw [hBa] at z; cases z
    have n0 : X.s_0.heap.get? a = none := by
      cases q : X.s_0.heap.get? a with
      | none => rfl
      | some o =>
        obtain ⟨o', z⟩ := J.base.there a o q (by rw [hex]; exact List.not_mem_nil)
        rw [nI] at z; cases z
    have S3 := J3.suite he3 hd3 na nL nF
    refine wpAny_handleBy_cons (codeAny_handlers_test ?_) (by intro q; cases q)
    have LT : PySem.W.Looks (model X.prog X.w) h3 (typeOf (.ref a)) (.ref C) := fun A Q E s k q => wpAny_typeOf_ref (k _ _ he3) (by rw [hz3.1]; exact q)
    have LM := PySem.W.exm_one (M := model X.prog X.w) (J3.kIn) LT hb1
    have test : ∀ {Q : Value → Shared → Prop} {E : Value → Shared → Prop}, Q c { s' with heap := h3 } → wpAny (model X.prog X.w) (X.A.mark (some (.ref a))) (eval (.Name x np) X.env) Q E { s' with heap := h3 } := fun {Q E} q => by
      obtain ⟨hg, hdbg, hm | ⟨hm, hv, hnn⟩⟩ := hc
      · exact ld_glob (X := X.suite a ((a, oe3) :: (X.pn ++ pins))) S3 hg hm q hdbg
      · exact ld_blt (X := X.suite a ((a, oe3) :: (X.pn ++ pins))) S3 hg hm hv q hnn hdbg
    refine test (LM.here ?_)
    cases b with
    | true =>
      refine codeAny_handlers_suite_as ?_
      refine HandSPX.lands_againZ fl3 fun h4 fl4 up4 => ?_
      have J4 : Inv X pins σ' H' { s' with heap := h4 } := J.landed nb fl4.1 ((up.trans up3).trans up4) os ag
      obtain ⟨oe4, vs4, he4, hz4, hd4⟩ := fl4.there
      have S4 := J4.suite he4 hd4 na nL nF
      refine store_ok (X := X.suite a ((a, oe4) :: (X.pn ++ pins))) (v := .ref a) S4 hN hi (.inl hln) rfl (fun s5 S5 => ?_) (.inr hln)
      have hli : i < σ'.length := by rw [J4.len]; exact (List.getElem?_eq_some_iff.mp hi).1
      have P : PSs (X.suite a ((a, oe4) :: (X.pn ++ pins))) [.Assign [.Name y p1] (.Name n p2) p3] (tAsg (tVar i) (gName j)) :=
        pss_one (ps_set (X := X.suite a ((a, oe4) :: (X.pn ++ pins))) hN hj (.inl hly) (pe_var hi (.inl hln) hdn hcd) hsw (.inr hly))
      let D' : Ends := { nx := fun σ2 H2 => σ2 = (σ'.set i (some (.ref a))).set j (some (.ref a)) ∧ H2 = H', rt := fun _ _ => False, bk := fun _ _ => False, ct := fun _ _ => False }
      refine wpAny_mono (P.run [] s5 _ H' D' S5 ⟨.ref a, List.getElem?_set_self hli, rfl, rfl⟩) (fun f s6 hsp => ?_) (fun _ _ z => False.elim z)
      cases f with
      | next =>
        obtain ⟨σ6, H6, S6, q6⟩ := hsp
        obtain ⟨e6, e7⟩ := q6
        rw [e6, e7] at S6
        have U6 : Inv X ((a, oe4) :: pins) ((σ'.set i (some (.ref a))).set j (some (.ref a))) H' s6 :=
          ⟨ok, S6.os, S6.bare, S6.base, S6.loc, S6.cell, S6.free, S6.freeC, fun p hp => S6.pin p (by
            show p ∈ ((a, oe4) :: (X.pn ++ pins)) ++ []
            rw [List.append_nil]
            rcases List.mem_append.mp hp with h | h
            · exact List.mem_cons_of_mem _ (List.mem_append_left _ h)
            · rcases List.mem_cons.mp h with e | h
              · rw [e]; exact List.mem_cons_self
              · exact List.mem_cons_of_mem _ (List.mem_append_right _ h)), S6.hok, S6.len⟩
        refine gone_ok U6 hN hi hln fun s7 J7 => ?_
        have pa := J7.pin (a, oe4) (List.mem_append_right _ List.mem_cons_self)
        have J8 : Inv X pins (((σ'.set i (some (.ref a))).set j (some (.ref a))).set i none) H' s7 :=
          ⟨ok, J7.os, J7.bare, J7.base, J7.loc, J7.cell, J7.free, J7.freeC, fun p hp => J7.pin p (by
            rcases List.mem_append.mp hp with h | h
            · exact List.mem_append_left _ h
            · exact List.mem_append_right _ (List.mem_cons_of_mem _ h)), J7.hok, J7.len⟩
        have ea : s7.heap.get? a = some ({ cls := .ref C, dict := d, data := .fields vs4, slots := oe4.slots } : Obj) := by
          rw [pa.1]
          obtain ⟨hz1, hz2⟩ := hz4
          show some oe4 = _
          rw [← hz1, ← hz2, ← hd4]
        have nc : ∀ x c, X.env.cells.lookup x = some c → c ≠ a := fun x c e z => by
          obtain ⟨v, w⟩ := J7.cell x c e
          rw [z] at w
          obtain ⟨o', e1, e2⟩ := w
          rw [ea] at e1; cases e1; cases e2
        have np : ∀ p ∈ X.pn ++ pins, p.1 ≠ a := fun p hp z => by
          have q := (J.pin p hp).1
          rw [z, nI] at q; cases q
        exact ⟨_, _, inv_track J8 na (exv_ok ea) n0 nL nc np, hyes rfl a na⟩
      | brk =>
        obtain ⟨σ6, H6, S6, q6⟩ := hsp
        exact q6.elim
      | cont =>
        obtain ⟨σ6, H6, S6, q6⟩ := hsp
        exact q6.elim
      | ret u =>
        obtain ⟨v6, σ6, H6, S6, r6, q6⟩ := hsp
        exact q6.elim
    | false =>
      show wpAny _ X.A (handleBy (.ref a) X.env []) _ _ _
      refine wpAny_handleBy_nil ?_
      obtain ⟨k1, k2, k3, oe, vs, T, oT, ts', he, hz, hd, h1, hr⟩ := id fl3
      unfold PySem.passOn
      refine wpAny_bind (wpAny_field he hd h1 ?_)
      rw [if_neg (show ¬ ((Value.ref T == Value.none) = true) from by simp)]
      have fin : wpAny (model X.prog X.w) X.A (setFlight (.ref a) X.env.frame) (fun _ s4 => wpAny (model X.prog X.w) X.A (throw (.ref a) : Sem Flow) (SP X pins D) X.xe s4) X.xe { s' with heap := h3 } := by
        rw [hf]
        refine HandSPX.setFlight_upZ fl3 fun h4 hh4 up4 => wpAny_throw (tk _ _ ?_)
        exact ⟨a, B, sI, pins, σ', H', .ref C, d, rfl, J, nb, (up.trans up3).trans up4, .inr (.inr (by rw [hs]; exact hh4)), na, os, ag, hno rfl⟩
      first
        | exact wpAny_bind (wpAny_pure (wpAny_bind fin))
        | exact wpAny_bind fin
  refine wpAny_mono ((hb (wKeep X.K c i j Wout D) (X.pn ++ pins) xe' catch_ PassesOwn.looking).run [] s σ H D (I.toTry _) h) (fun f s1 hsp => ?_) (fun e s1 he => he)
  cases f with
  | next =>
    obtain ⟨σ', H', J', q⟩ := hsp
    exact wpAny_execs_nil ⟨σ', H', J'.ofTry ok, q⟩
  | brk =>
    obtain ⟨σ', H', J', q⟩ := hsp
    exact ⟨σ', H', J'.ofTry ok, q⟩
  | cont =>
    obtain ⟨σ', H', J', q⟩ := hsp
    exact ⟨σ', H', J'.ofTry ok, q⟩
  | ret u =>
    obtain ⟨v, σ', H', J', r, q⟩ := hsp
    exact ⟨v, σ', H', J'.ofTry ok, r, q⟩
end
end Ps

namespace Ps
open PySem PySem.Spec PyProof.Rows L2
/-! ### methods and makings, slot by slot -/
section
variable {X : Cx} {CX : CXT} {k : Nat} {f C : Addr} {fd : FuncData} {ps : List Str} {sp : Sp} {E : L2.St → XK} {x m : Str} {p pos apos : Pos} {e o : Expr} {es : List Expr} {ta : TE} {t : TA}
def tMethQ (C : Addr) (m : Str) (sp : Sp) (E : L2.St → XK) (ta : TE) (t : TA) : TE := fun σ H Q => ta σ H fun x H1 => ∃ a dx fs, x = .ref a ∧ H1 a = some (.ins C dx fs) ∧ fs.lookup m = none ∧ t σ H1 fun vs H2 => sp (x :: vs) H2 Q (E σ)
theorem pe_methQ {pl : Sem Bool} (he : PE X o ta) (c : Cls X.K C) (hm : Meth X.K C m f) (F : FnOk X.prog X.w X.K X.mg X.base CX k f fd ps sp) (hr : Room k X.A) (hb : Binds X.K fd ps []) (hx : ∀ σ, PassesAt CX X σ (E σ)) (ha : PA X (e :: es) t)
    (hst : starEach (e :: es) X.env = (false, eval e X.env) :: starEach es X.env := by rfl) (hpl : (backTo pos (starEach es X.env)).any (·.1) = false := by rfl)
    (ht : eval (.Call (.Attribute o m apos) (e :: es) [] pos) X.env = (do
      let ov ← eval o X.env
      standAt apos.atName
      let (f, first) ← holding [ov] (getMethod ov m pl)
      callWith pos f first (backTo pos (starEach (e :: es) X.env)) (backToKw pos (keywordEach [] X.env))) := by rfl) :
    PE X (.Call (.Attribute o m apos) (e :: es) [] pos) (tMethQ C m sp E ta t) := by
  refine ⟨fun pins s σ H Q I h => ?_⟩
  refine PySem.W.methodCall_KW (pl := pl) (thn (he.run pins s σ H _ I h) fun u s1 ⟨x, H1, I1, rx, a, dx, fs, ex, ea, l, q⟩ => ?_) ht
  subst ex
  obtain rfl : u = Value.ref a := rx
  refine getmeth_ok I1 ea c hm l ?_
  refine PySem.W.callWith_K (first := [.ref a]) (h₀ := X.base) I.ok.mod.kin hm.kp (thn (ha.run pos pins s1 σ H1 _ I1 q) fun us s2 ⟨vs, H2, I2, r, q2⟩ => ⟨I2.kIn, ?_⟩) hst hpl
  exact run_fnS (us := .ref a :: us) (vs := .ref a :: vs) F hr hb (hx σ) I2 (.cons rfl r) q2
theorem pe_methQ0 {pl : Sem Bool} (he : PE X o ta) (c : Cls X.K C) (hm : Meth X.K C m f) (F : FnOk X.prog X.w X.K X.mg X.base CX k f fd ps sp) (hr : Room k X.A) (hb : Binds X.K fd ps []) (hx : ∀ σ, PassesAt CX X σ (E σ))
    (ht : eval (.Call (.Attribute o m apos) [] [] pos) X.env = (do
      let ov ← eval o X.env
      standAt apos.atName
      let (f, first) ← holding [ov] (getMethod ov m pl)
      callWith pos f first (backTo pos (starEach [] X.env)) (backToKw pos (keywordEach [] X.env))) := by rfl) :
    PE X (.Call (.Attribute o m apos) [] [] pos) (tMethQ C m sp E ta tNil) := by
  refine ⟨fun pins s σ H Q I h => ?_⟩
  refine PySem.W.methodCall_KW (pl := pl) (thn (he.run pins s σ H _ I h) fun u s1 ⟨x, H1, I1, rx, a, dx, fs, ex, ea, l, q⟩ => ?_) ht
  subst ex
  obtain rfl : u = Value.ref a := rx
  refine getmeth_ok I1 ea c hm l ?_
  exact PySem.W.callWith_K0 (first := [.ref a]) I1.kIn hm.kp (run_fnS (us := [.ref a]) (vs := [.ref a]) F hr hb (hx σ) I1 (.cons rfl .nil) q)
/-- C(..): a new instance and its dict, then __init__, which may raise -/
def tMakeQ (C : Addr) (sp : Sp) (E : L2.St → XK) (t : TA) : TE := fun σ H Q => t σ H fun vs H1 => ∀ x dx, H1 x = none → H1 dx = none → dx ≠ x →
  sp (.ref x :: vs) (upd (upd H1 dx (.own x)) x (.ins C dx [])) (fun v H2 => v = .non ∧ Q (.ref x) H2) (E σ)
theorem run_makeQ {pins : List (Addr × Obj)} {σ : L2.St} {H : Hp} {s : Shared} {Q : VK} {us : List Value} {vs : List V} (M : Mk X.K C f) (F : FnOk X.prog X.w X.K X.mg X.base CX k f fd ps sp) (hr : Room (k + 1) X.A) (hb : Binds X.K fd ps [])
    (hx : PassesAt CX X σ (E σ)) (I : Inv X pins σ H s) (r : Vals vs us)
    (h : ∀ x dx, H x = none → H dx = none → dx ≠ x → sp (.ref x :: vs) (upd (upd H dx (.own x)) x (.ins C dx [])) (fun v H2 => v = .non ∧ Q (.ref x) H2) (E σ)) :
    wpAny (model X.prog X.w) X.A (call (.ref C) us) (EP X pins σ Q) X.xe s := by
  have hq := h (s.heap.objs.size + 1) s.heap.objs.size (I.hok.fresh (Nat.le_succ _)) (I.hok.fresh (Nat.le_refl _)) (Nat.ne_of_lt (Nat.lt_succ_self _))
  have I2 := Inv.made (C := C) I
  have r2 : Vals (V.ref (s.heap.objs.size + 1) :: vs) (Value.ref (s.heap.objs.size + 1) :: us) := .cons rfl r
  have hl : (Value.ref (s.heap.objs.size + 1) :: us).length = ps.length := by
    have e := r2.length
    rw [F.len _ _ _ _ hq] at e
    exact e.symm
  have hb2 := hb _ (Value.ref (s.heap.objs.size + 1) :: us) I2.kIn (by rw [List.append_nil]; exact hl)
  rw [List.append_nil] at hb2
  refine wpAny_call (make_map (f := f) I.kIn M.makes M.init (beq_iff_eq.mp M.fn) (codeAny_mono (F.run _ X.stack _ _ ⟨Value.ref (s.heap.objs.size + 1) :: us, []⟩ (Value.ref (s.heap.objs.size + 1) :: us) _ _ (E σ) (hr.make C us [])
    (I2.env0.make C us []) hb2 r2 hq) fun r s' hq' => ?_))
  cases r with
  | error e => exact hx pins _ _ e s' I2 hq'
  | ok fl =>
    cases fl with
    | ret u =>
      obtain ⟨v, H', I3, rv, ev, q3⟩ := I2.after hq'
      subst ev
      exact ⟨rv, ⟨V.ref (s.heap.objs.size + 1), H', I3, rfl, q3⟩⟩
    | next => exact False.elim hq'
    | brk => exact False.elim hq'
    | cont => exact False.elim hq'
theorem pe_makeQ (M : Mk X.K C f) (F : FnOk X.prog X.w X.K X.mg X.base CX k f fd ps sp) (hr : Room (k + 1) X.A) (hg : Gl X x) (hm : X.mg x = some (.ref C)) (hb : Binds X.K fd ps []) (hx : ∀ σ, PassesAt CX X σ (E σ))
    (ha : PA X (e :: es) t) (hdb : (x == ("__debug__" : Str)) = false := by decide) (he : starEach (e :: es) X.env = (false, eval e X.env) :: starEach es X.env := by rfl) (hpl : (backTo pos (starEach es X.env)).any (·.1) = false := by rfl) :
    PE X (.Call (.Name x p) (e :: es) [] pos) (tMakeQ C sp E t) := by
  refine ⟨fun pins s σ H Q I h => ?_⟩
  refine wpAny_Call_Name_kw (ld_glob I hg hm ?_ hdb)
  refine PySem.W.callWith_K (h₀ := X.base) I.ok.mod.kin M.kp (thn (ha.run pos pins s σ H _ I h) fun us s1 ⟨vs, H1, I1, r, q⟩ => ⟨I1.kIn, ?_⟩) he hpl
  exact run_makeQ M F hr hb (hx σ) I1 r q
theorem passQ0 (σ : L2.St) : PassesAt CX0 X σ E0 := fun _ _ _ _ _ _ h => h.elim
theorem passQL (σ : L2.St) : PassesAt (L2.CX X.prog X.w) X σ E0 := fun pins H s e s' I h => passL pins σ H s e s' I h
end
/-- o.m(..) of an instance of one of two classes -/
theorem pe_or {X : Cx} {e : Expr} {t1 t2 : TE} (h1 : PE X e t1) (h2 : PE X e t2) : PE X e (fun σ H Q => t1 σ H Q ∨ t2 σ H Q) :=
  ⟨fun pins s σ H Q I h => h.elim (h1.run pins s σ H Q I) (h2.run pins s σ H Q I)⟩
/-- nothing is wished of an exception: none comes -/
theorem takes_no {X : Cx} : Takes X (fun _ _ _ _ => False) := fun _ _ ⟨_, _, _, _, _, _, _, _, _, _, _, _, _, _, _, _, z⟩ => z.elim
end Ps

namespace Ps
open PySem PySem.Spec PyProof.Rows L2
section
variable {X : Cx} {pins : List (Addr × Obj)} {σ : L2.St} {H : Hp} {s : Shared}
/-- its dict stands, or there is none -/
def ExDict (H : Hp) (d : Option Addr) : Prop := d = none ∨ ∃ dd fs, d = some dd ∧ H dd = some (.xd fs)
theorem exv_inst (I : Inv X pins σ H s) {a C : Addr} {d : Option Addr} (e : H a = some (exv a C d)) (hd : ExDict H d) : ∃ ox od, PySem.W.InstAt s.heap a ox C od := by
  obtain ⟨vs, sl, h1⟩ := exv_at I.hok e
  rcases hd with rfl | ⟨dd, fs, rfl, h2⟩
  · exact ⟨_, none, h1, rfl, rfl, trivial⟩
  · have hx : ObjOk X.prog X.w H s.heap dd (.xd fs) := I.hok dd _ h2
    obtain ⟨mA, hns, hr⟩ := hx
    obtain ⟨od, ho, hl⟩ := lookIn_ns hns
    exact ⟨_, some od, h1, rfl, rfl, ho⟩
theorem exc_kit {K : PySem.W.Frag} {C : Addr} (c : ExcC K C) (x : Addr) (ox : Obj) (od : Option Obj) : PySem.W.KitX K (.ref x) (.ref C) (fun h => PySem.W.InstAt h x ox C od) :=
  PySem.W.kitx_exc (by obtain ⟨cd, hc, _⟩ := PySem.W.any_some c.hd; rw [hc]; rfl) c.hg c.hk c.hs c.ha c.hn c.ht c.hm
/-- isinstance(x, c) of a kept exception -/
def rIsiX (K : PySem.W.Frag) : List V → Hp → VK → Prop := fun xs H Q => ∃ (a C : Addr) (d : Option Addr) (c : V) (cv : Value) (b : Bool), xs = [.ref a, c] ∧ H a = some (exv a C d) ∧ ExDict H d ∧ ExcC K C ∧ ClsV c cv ∧ PySem.W.kitOne K (.ref C) cv = some b ∧ Q (.bl b) H
theorem call_isiX : CallR X (.builtin "isinstance") (rIsiX X.K) := by
  intro pins s σ H xs us Q I r h
  obtain ⟨a, C, d, c, cv, b, rfl, e, hd, k, hc, hb, q⟩ := h
  obtain ⟨u1, u2, rfl, r1, r2⟩ := vals2 r
  cases (show u1 = Value.ref a from r1)
  obtain ⟨ox, od, J⟩ := exv_inst I e hd
  have e2 := ClsV.all (Paired.cons hc .nil) (.cons r2 .nil)
  cases e2
  exact PySem.W.kia_one (exc_kit k a ox od) I.kIn J hb (fun z => nomatch z) fun tk => ⟨.bl b, H, I.tok tk, rfl, q⟩
def rIsiXT (K : PySem.W.Frag) : List V → Hp → VK → Prop := fun xs H Q => ∃ (a C : Addr) (d : Option Addr) (tp : Addr) (cs : List V) (us : List Value) (b : Bool), xs = [.ref a, .ref tp] ∧ H a = some (exv a C d) ∧ ExDict H d ∧ ExcC K C ∧ H tp = some (.tup cs) ∧ Paired ClsV cs us ∧ PySem.W.kitAny K (.ref C) us = some b ∧ Q (.bl b) H
theorem call_isiXT : CallR X (.builtin "isinstance") (rIsiXT X.K) := by
  intro pins s σ H xs us Q I r h
  obtain ⟨a, C, d, tp, cs, ws, b, rfl, e, hd, k, hT, hc, hb, q⟩ := h
  obtain ⟨u1, u2, rfl, r1, r2⟩ := vals2 r
  cases (show u1 = Value.ref a from r1)
  cases (show u2 = Value.ref tp from r2)
  obtain ⟨ox, od, J⟩ := exv_inst I e hd
  obtain ⟨_, its, rv, o, h1, h2, n, h3⟩ := (show ObjOk X.prog X.w H s.heap tp (.tup cs) from I.hok tp _ hT)
  have e3 := ClsV.all hc rv
  subst e3
  obtain ⟨oc, od', dt, sl⟩ := o
  simp only at h2 h3
  subst h2 h3
  exact PySem.W.kia_tup (exc_kit k a ox od) I.kIn J h1 hb (fun z => nomatch z) fun tk => ⟨.bl b, H, I.tok tk, rfl, q⟩
def rIsiE (K : PySem.W.Frag) : List V → Hp → VK → Prop := fun xs H Q => rIsiU K xs H Q ∨ (rIsiX K xs H Q ∨ rIsiXT K xs H Q)
theorem call_isiE : CallR X (.builtin "isinstance") (rIsiE X.K) := callr_or call_isiU (callr_or call_isiX call_isiXT)
/-- a field of a kept exception -/
def tFldX (K : PySem.W.Frag) (te : TE) (n : Str) : TE := fun σ H Q => te σ H fun x H1 => ∃ (a C dd : Addr) (fs : List (Str × V)) (v : V), x = .ref a ∧ H1 a = some (exv a C (some dd)) ∧ H1 dd = some (.xd fs) ∧ XfC K C ∧ PySem.W.findIn K (.ref C) n = some none ∧ fs.lookup n = some v ∧ Q v H1
theorem pe_fldX {e : Expr} {te : TE} {pos : Pos} {n : Str} (he : PE X e te) (hb : attributeBase e n X.env (eval e X.env) = eval e X.env := by rfl) : PE X (.Attribute e n pos) (tFldX X.K te n) := by
  refine ⟨fun pins s σ H Q I h => ?_⟩
  refine attr_of hb (thn (he.run pins s σ H _ I h) fun u s1 hh => ?_)
  obtain ⟨x, H1, I1, rx, a, C, dd, fs, v, ex, ea, ed, T, hno, l, q⟩ := hh
  subst ex
  obtain rfl : u = Value.ref a := rx
  obtain ⟨vs, sl, h1⟩ := exv_at I1.hok ea
  have hx : ObjOk X.prog X.w H1 s1.heap dd (.xd fs) := I1.hok dd _ ed
  obtain ⟨mA, hns, hr⟩ := hx
  obtain ⟨od, ho, hl⟩ := lookIn_ns hns
  obtain ⟨u, hu, ru⟩ := RelO.some_of (v := v) (o := mA n) (by rw [← l]; exact hr n)
  have J : PySem.W.InstAt s1.heap a _ C (some od) := ⟨h1, rfl, rfl, ho⟩
  exact HandSPX.exc_get I1.kIn J T.ga T.gg T.exC (PySem.W.findObj_own T.hdC hno rfl (by rw [hl, hu])) (handed_of ru) ⟨v, H1, I1.tok _, ru, q⟩
def tFldU (K : PySem.W.Frag) (te : TE) (n : Str) : TE := fun σ H Q => tFld K te n σ H Q ∨ tFldX K te n σ H Q
theorem pe_fldU {e : Expr} {te : TE} {pos : Pos} {n : Str} (he : PE X e te) (hb : attributeBase e n X.env (eval e X.env) = eval e X.env := by rfl) : PE X (.Attribute e n pos) (tFldU X.K te n) := pe_or (pe_fld he hb) (pe_fldX he hb)
/-- B.__init__(self, ..), B an own class whose __init__ is ValueError's -/
theorem pe_binit {x : Str} {C0 : Addr} {e : Expr} {es : List Expr} {ta : TA} {p1 p2 pos : Pos} {pl : Sem Bool} (hg : Gl X x) (hm : X.mg x = some (.ref C0)) (rC : ClX.CRead X.K C0 (.type "type")) (vV : PySem.W.findCls X.K (.ref C0) (.type "type") "__init__" = some (.val (.builtin "ValueError.__init__"))) (ha : PA X (e :: es) ta)
    (hdb : (x == ("__debug__" : Str)) = false := by decide)
    (hc : eval (.Call (.Attribute (.Name x p1) "__init__" p2) (e :: es) [] pos) X.env = (do
      let ov ← eval (.Name x p1) X.env
      standAt p2.atName
      let (f, first) ← holding [ov] (getMethod ov "__init__" pl)
      callWith pos f first (backTo pos (starEach (e :: es) X.env)) (backToKw pos (keywordEach [] X.env))) := by rfl)
    (he : starEach (e :: es) X.env = (false, eval e X.env) :: starEach es X.env := by rfl) (hpl : (backTo pos (starEach es X.env)).any (·.1) = false := by rfl) :
    PE X (.Call (.Attribute (.Name x p1) "__init__" p2) (e :: es) [] pos) (tVeI X.K ta) := by
  refine ⟨fun pins s σ H Q I h => ?_⟩
  refine PySem.W.methodCall_KW (ld_glob I hg hm ?_ hdb) hc
  refine PySem.W.method_cls I.kIn rC.ga (PySem.W.cls_value I.kIn rC.rd vV rfl ?_)
  show wpAny _ _ (callWith pos (Value.builtin "ValueError.__init__") [] (backTo pos (starEach (e :: es) X.env)) []) _ _ _
  refine PyProof.Rows.callWith_method1 (thn (ha.run pos pins _ σ H _ (I.tok _) h) fun us s1 ⟨vs, H1, I1, r1, a, C, ws, ev, hl, T, ea, q⟩ => ?_) he hpl
  subst ev
  cases r1 with
  | @cons _ u0 _ ur ra rw' =>
    obtain rfl : u0 = Value.ref a := ra
    have hlen : ur.length ≤ sizeLine := by
      rw [← Paired.length rw', sizeLine_eq]
      omega
    exact oinit_ok T I1 ea hlen fun s' J => ⟨.non, H1, J, rfl, q⟩
end
end Ps

namespace Ps
open PySem PySem.Spec PyProof.Rows L2
theorem bt_ValueError : bootBuiltins "ValueError" = some (.type "ValueError") := by decide +kernel
def tRz (W : WX) (cls : Value) : TS := fun _ σ H => W cls none σ H
def tRzO (W : WX) (C : Addr) (sp : Sp) (ta : TA) : TS := fun _ σ H => tMkO C sp [] ta σ H fun cls d H' => W cls d σ H'
def tOrE (t1 t2 : TE) : TE := fun σ H Q => t1 σ H Q ∨ t2 σ H Q
/-- what a class of one's own must have, its fields' names -/
def ClsK (K : PySem.W.Frag) (C : Addr) (fs : List Str) : Prop := Cls K C ∧ ∀ f ∈ fs, NoAttr K C f
section
variable {K : PySem.W.Frag} {H H1 : Hp} {σ : L2.St} {D : Ends} {ta tv : TE} {f m : Str} {Q : VK} {a C dx : Addr} {fs : List (Str × V)} {fl : List Str} {v y : V} {t : TA} {sp : Sp} {E : L2.St → XK}
def FldK (K : PySem.W.Frag) (f : Str) (x : V) (H1 : Hp) (Q : VK) : Prop := ∃ a C dx fs v, x = .ref a ∧ H1 a = some (.ins C dx fs) ∧ Cls K C ∧ NoAttr K C f ∧ fs.lookup f = some v ∧ Q v H1
theorem w_fld (h : ta σ H fun x H1 => FldK K f x H1 Q) : tFld K ta f σ H Q := h
theorem w_fldI (ha : H a = some (.ins C dx fs)) (k : ClsK K C fl) (hf : f ∈ fl) (hv : fs.lookup f = some v) (h : Q v H) : FldK K f (.ref a) H Q := ⟨a, C, dx, fs, v, rfl, ha, k.1, k.2 f hf, hv, h⟩
def SFldK (K : PySem.W.Frag) (f : Str) (D : Ends) (σ : L2.St) (y x : V) (H2 : Hp) : Prop := ∃ a C dx fs, x = .ref a ∧ H2 a = some (.ins C dx fs) ∧ Cls K C ∧ NoAttr K C f ∧ fs.length < 1000 ∧ D.nx σ (upd H2 a (.ins C dx (putF f y fs)))
theorem w_sfld (h : tv σ H fun y H1 => ta σ H1 fun x H2 => SFldK K f D σ y x H2) : sFld K ta tv f D σ H := h
theorem w_sfldI (ha : H a = some (.ins C dx fs)) (k : ClsK K C fl) (hf : f ∈ fl) (hz : fs.length < 1000) (h : D.nx σ (upd H a (.ins C dx (putF f y fs)))) : SFldK K f D σ y (.ref a) H := ⟨a, C, dx, fs, rfl, ha, k.1, k.2 f hf, hz, h⟩
def AFldK (K : PySem.W.Frag) (f : Str) (rd : V → V → Hp → VK → Prop) (tv : TE) (D : Ends) (σ : L2.St) (x : V) (H1 : Hp) : Prop := ∃ a C dx fs v, x = .ref a ∧ H1 a = some (.ins C dx fs) ∧ Cls K C ∧ NoAttr K C f ∧ fs.lookup f = some v ∧
  tv σ H1 fun y H2 => rd v y H2 fun z H3 => ∃ dx' fs', H3 a = some (.ins C dx' fs') ∧ fs'.length < 1000 ∧ D.nx σ (upd H3 a (.ins C dx' (putF f z fs')))
theorem w_afld {rd : V → V → Hp → VK → Prop} (h : ta σ H fun x H1 => AFldK K f rd tv D σ x H1) : sFldAug K ta tv rd f D σ H := h
theorem w_afldI {rd : V → V → Hp → VK → Prop} (ha : H a = some (.ins C dx fs)) (k : ClsK K C fl) (hf : f ∈ fl) (hv : fs.lookup f = some v)
    (h : tv σ H fun y H2 => rd v y H2 fun z H3 => ∃ dx' fs', H3 a = some (.ins C dx' fs') ∧ fs'.length < 1000 ∧ D.nx σ (upd H3 a (.ins C dx' (putF f z fs')))) : AFldK K f rd tv D σ (.ref a) H := ⟨a, C, dx, fs, v, rfl, ha, k.1, k.2 f hf, hv, h⟩
theorem w_rAdd {i j : Int} (h : Q (.int (i + j)) H) : rAdd (.int i) (.int j) H Q := ⟨i, j, rfl, rfl, h⟩
theorem w_rSub {i j : Int} (h : Q (.int (i - j)) H) : rSub (.int i) (.int j) H Q := ⟨i, j, rfl, rfl, h⟩
def MethK (C : Addr) (m : Str) (sp : Sp) (E : XK) (t : TA) (σ : L2.St) (x : V) (H1 : Hp) (Q : VK) : Prop := ∃ a dx fs, x = .ref a ∧ H1 a = some (.ins C dx fs) ∧ fs.lookup m = none ∧ t σ H1 fun vs H2 => sp (x :: vs) H2 Q E
theorem w_meth (h : ta σ H fun x H1 => MethK C m sp (E σ) t σ x H1 Q) : tMethQ C m sp E ta t σ H Q := h
theorem w_methI {E : XK} (ha : H a = some (.ins C dx fs)) (hv : fs.lookup m = none) (h : t σ H fun vs H2 => sp (.ref a :: vs) H2 Q E) : MethK C m sp E t σ (.ref a) H Q := ⟨a, dx, fs, rfl, ha, hv, h⟩
theorem w_make (h : t σ H fun vs H1 => ∀ x dx, H1 x = none → H1 dx = none → dx ≠ x → sp (.ref x :: vs) (upd (upd H1 dx (.own x)) x (.ins C dx [])) (fun v H2 => v = .non ∧ Q (.ref x) H2) (E σ)) : tMakeQ C sp E t σ H Q := h
theorem w_orL {t1 t2 : TE} (h : t1 σ H Q) : tOrE t1 t2 σ H Q := .inl h
theorem w_orR {t1 t2 : TE} (h : t2 σ H Q) : tOrE t1 t2 σ H Q := .inr h
theorem w_rz {W : WX} {cls : Value} (h : W cls none σ H) : tRz W cls D σ H := h
theorem w_try {c : Value} {i j : Nat} {tb : WX → TS} {Wout : WX} (h : tb (wKeep K c i j Wout D) D σ H) : tTryK K c i j tb Wout D σ H := h
theorem w_tryP {c : Value} {i j : Nat} {tb : WX → TS} {Wout : WX} (h : ∀ P : L2.St → Hp → Prop, (∀ σ H, D.nx σ H → P σ H) → tb (wKeep K c i j Wout ⟨P, D.rt, D.bk, D.ct⟩) ⟨P, D.rt, D.bk, D.ct⟩ σ H) : tTryK K c i j tb Wout D σ H := h D.nx fun _ _ q => q
theorem w_keep {c : Value} {i j : Nat} {Wout : WX} {d : Option Addr} (e : PySem.W.exmOne K (.ref C) c = some true) (h : ∀ a, H a = none → D.nx (((σ.set i (some (.ref a))).set j (some (.ref a))).set i none) (upd H a (exv a C d))) : wKeep K c i j Wout D (.ref C) d σ H :=
  ⟨C, true, rfl, e, fun _ => h, fun z => by cases z⟩
theorem w_vei {ta : TA} (h : ta σ H fun vs H1 => ∃ (a C : Addr) (ws : List V), vs = .ref a :: ws ∧ ws.length ≤ 1000 ∧ OexC K C ∧ H1 a = some (exo a C none) ∧ Q .non H1) : tVeI K ta σ H Q := h
theorem w_ost {to te : TE} (h : te σ H fun y H1 => to σ H1 fun x H2 => ∃ a C : Addr, x = .ref a ∧ OexC K C ∧ PySem.W.findIn K (.ref C) f = some none ∧
  ((H2 a = some (exo a C none) ∧ ∀ dx, H2 dx = none → dx ≠ a → D.nx σ (upd (upd H2 dx (exd dx [(f, y)])) a (exo a C (some dx)))) ∨
    ∃ (dx : Addr) (fs : List (Str × V)), H2 a = some (exo a C (some dx)) ∧ H2 dx = some (exd dx fs) ∧ fs.length ≤ 900 ∧ D.nx σ (upd H2 dx (exd dx ((f, y) :: fs))))) : tOst K f to te D σ H := h
theorem w_isX {d : Option Addr} {c : V} {cv : Value} {b : Bool} (ha : H a = some (exv a C d)) (hd : ExDict H d) (k : ExcC K C) (hc : ClsV c cv) (hb : PySem.W.kitOne K (.ref C) cv = some b) (h : Q (.bl b) H) : rIsiE K [.ref a, c] H Q :=
  .inr (.inl ⟨a, C, d, c, cv, b, rfl, ha, hd, k, hc, hb, h⟩)
theorem w_isXT {d : Option Addr} {tp : Addr} {cs : List V} {us : List Value} {b : Bool} (ha : H a = some (exv a C d)) (hd : ExDict H d) (k : ExcC K C) (hT : H tp = some (.tup cs)) (hc : Paired ClsV cs us) (hb : PySem.W.kitAny K (.ref C) us = some b) (h : Q (.bl b) H) : rIsiE K [.ref a, .ref tp] H Q :=
  .inr (.inr ⟨a, C, d, tp, cs, us, b, rfl, ha, hd, k, hT, hc, hb, h⟩)
theorem w_max2 {i j : Int} (h : Q (.int (if j > i then j else i)) H) : rMax2 [.int i, .int j] H Q := ⟨i, j, rfl, h⟩
end
end Ps

namespace Ps
open PySem PySem.Spec PyProof.Rows L2
/-- a tuple or a list is taken apart -/
def gTupU (K : PySem.W.Frag) (n : Nat) (t : TGs) : TG := fun v σ H Q => gTup K n t v σ H Q ∨ gLst K n t v σ H Q
theorem pg_or {X : Cx} {e : Expr} {t1 t2 : TG} (h1 : PG X e t1) (h2 : PG X e t2) : PG X e (fun v σ H Q => t1 v σ H Q ∨ t2 v σ H Q) :=
  ⟨fun pins s σ H v u Q I r h => h.elim (h1.run pins s σ H v u Q I r) (h2.run pins s σ H v u Q I r)⟩
theorem pg_tupU {X : Cx} {pos : Pos} {es : List Expr} {k : Nat} {t : TGs} {n : Nat} (hc : X.calm = true) (h : PGs X es t)
    (hn : (assignEach es X.env).length = n := by rfl) (hst : (assignEach es X.env).findIdx? (·.1) = none := by rfl) : PG X (.Tuple es k pos) (gTupU X.K n t) := pg_or (pg_tup hc h hn hst) (pg_lst hc h hn hst)
theorem w_gtL {K : PySem.W.Frag} {gs : TGs} {n : Nat} {a : Addr} {xs : List V} {σ : L2.St} {H : Hp} {Q : L2.St → Hp → Prop} (ht : SqL K H a xs) (hn : xs.length = n) (h : gs xs σ H Q) : gTupU K n gs (.ref a) σ H Q := .inr ⟨a, xs, rfl, ht, hn, h⟩
theorem w_gtT {K : PySem.W.Frag} {gs : TGs} {n : Nat} {a : Addr} {xs : List V} {σ : L2.St} {H : Hp} {Q : L2.St → Hp → Prop} (ht : SqT K H a xs) (hn : xs.length = n) (h : gs xs σ H Q) : gTupU K n gs (.ref a) σ H Q := .inl ⟨a, xs, rfl, ht, hn, h⟩
end Ps

/-! Pba: numbers as rows of bytes, plain. -/
namespace Ps
open PySem PySem.Spec PyProof.Rows L2
/-- a number's sevens, the lowest ones first -/
def sev (r : Nat) : List Int := if r < 128 then [(r : Int)] else ((r % 128 + 128 : Nat) : Int) :: sev (r / 128)
termination_by r
decreasing_by omega
theorem sev_lt {r : Nat} (h : r < 128) : sev r = [(r : Int)] := by rw [sev, if_pos h]
theorem sev_ge {r : Nat} (h : ¬ r < 128) : sev r = ((r % 128 + 128 : Nat) : Int) :: sev (r / 128) := by rw [sev, if_neg h]
def zz (n : Int) : Nat := if n < 0 then (-2 * n - 1).toNat else (2 * n).toNat
def uz (r : Nat) : Int := if r % 2 = 0 then ((r / 2 : Nat) : Int) else -((r / 2 : Nat) : Int) - 1
theorem uz_zz (n : Int) : uz (zz n) = n := by
  unfold uz zz
  by_cases h : n < 0
  · rw [if_pos h, if_neg (by omega)]; omega
  · rw [if_neg h, if_pos (by omega)]; omega
def nb (n : Int) : List Int := sev (zz n)
theorem sev_len : ∀ (k r : Nat), r < 128 ^ (k + 1) → (sev r).length ≤ k + 1
  | k, r, h => by
    by_cases c : r < 128
    · rw [sev_lt c]; simp
    · cases k with
      | zero => omega
      | succ k =>
        rw [sev_ge c, List.length_cons]
        have q := sev_len k (r / 128) (by rw [Nat.pow_succ] at h; exact Nat.div_lt_of_lt_mul (by rw [Nat.mul_comm]; exact h))
        omega
theorem sev_pos (r : Nat) : 0 < (sev r).length := by
  by_cases c : r < 128
  · rw [sev_lt c]; simp
  · rw [sev_ge c]; simp
theorem nb_len {n : Int} (h : n.natAbs < 2 ^ 200) : (nb n).length ≤ 30 := by
  refine sev_len 29 _ ?_
  have : (2 : Nat) * 2 ^ 200 ≤ 128 ^ 30 := by decide
  unfold zz
  split <;> omega
theorem sev_byte : ∀ (r : Nat) (b : Int), b ∈ sev r → 0 ≤ b ∧ b < 256
  | r, b, h => by
    by_cases c : r < 128
    · rw [sev_lt c] at h
      simp at h; omega
    · rw [sev_ge c] at h
      rcases List.mem_cons.mp h with e | e
      · omega
      · exact sev_byte (r / 128) b e
termination_by r => r
decreasing_by omega
/-- what a reader tells: a thing and the place behind it, or why there is none -/
inductive Rd (α : Type) where
  | got (x : α) (j : Nat)
  | bad (w : Str)
/-- a number's reader: f bytes at most are left, w the weight, r what is read, j the place -/
def tnG (xs : List Int) : Nat → Bool → Nat → Nat → Nat → Rd Int
  | 0, _, _, _, _ => .bad "long"
  | f + 1, first, w, r, j => match xs[j]? with
    | none => .bad "short"
    | some b => if b < 128 then (if b = 0 ∧ first = false then .bad "long" else .got (uz (r + (b % 128).toNat * w)) (j + 1)) else tnG xs f false (w * 128) (r + (b % 128).toNat * w) (j + 1)
def takeN (xs : List Int) (at_ : Nat) : Rd Int := tnG xs 9 true 1 0 at_
theorem tnG_sev : ∀ (f : Nat) (xs A B : List Int) (s : Nat) (first : Bool) (w r j : Nat), xs = A ++ sev s ++ B → j = A.length → (sev s).length ≤ f → (first = true ∨ s ≠ 0) → tnG xs f first w r j = .got (uz (r + s * w)) (j + (sev s).length)
  | 0, xs, A, B, s, first, w, r, j, _, _, hl, _ => absurd (sev_pos s) (by omega)
  | f + 1, xs, A, B, s, first, w, r, j, e, ej, hl, hf => by
    by_cases c : s < 128
    · rw [sev_lt c] at e ⊢
      have q : xs[j]? = some (s : Int) := by subst e ej; simp
      unfold tnG
      rw [q]
      show (if (s : Int) < 128 then _ else _) = _
      rw [if_pos (by omega), if_neg (by rintro ⟨q1, q2⟩; exact hf.elim (fun h => by rw [h] at q2; cases q2) (fun h => by omega))]
      have e1 : ((s : Int) % 128).toNat = s := by omega
      rw [e1]
      rfl
    · rw [sev_ge c] at e hl ⊢
      have q : xs[j]? = some ((s % 128 + 128 : Nat) : Int) := by subst e ej; simp
      unfold tnG
      rw [q]
      show (if (((s % 128 + 128 : Nat) : Int)) < 128 then _ else _) = _
      rw [if_neg (by omega)]
      have e1 : (((s % 128 + 128 : Nat) : Int) % 128).toNat = s % 128 := by omega
      rw [e1, tnG_sev f xs (A ++ [((s % 128 + 128 : Nat) : Int)]) B (s / 128) false (w * 128) (r + s % 128 * w) (j + 1) (by rw [e]; simp) (by rw [ej]; simp) (by rw [List.length_cons] at hl; omega) (.inr (by omega))]
      have e2 : r + s % 128 * w + s / 128 * (w * 128) = r + s * w := by
        have := Nat.div_add_mod s 128
        calc r + s % 128 * w + s / 128 * (w * 128) = r + (128 * (s / 128) + s % 128) * w := by
              rw [Nat.add_mul, Nat.mul_comm 128, Nat.mul_assoc, Nat.mul_comm 128 w]; omega
          _ = r + s * w := by rw [this]
      rw [e2, List.length_cons, Nat.add_assoc, Nat.add_comm 1]
theorem takeN_nb {A B : List Int} {n : Int} (h : (nb n).length ≤ 9) : takeN (A ++ nb n ++ B) A.length = .got n (A.length + (nb n).length) := by
  unfold takeN nb at *
  rw [tnG_sev 9 _ A B (zz n) true 1 0 _ rfl rfl h (.inl rfl), Nat.mul_one, Nat.zero_add, uz_zz]
end Ps

/-! Pbb: the program's numbers as bytes. -/
namespace Ps
open PySem PySem.Spec PyProof.Rows L2
local macro_rules | `(tactic| walk_at "s1") => `(tactic| first
  | (with_reducible refine w_seq ?_) | (with_reducible refine w_asg ?_) | (with_reducible refine w_op ?_) | (with_reducible refine w_c ?_)
  | ((with_reducible refine' w_var ?hx ?_); (case hx => exact rfl))
  | (with_reducible refine w_gname ?_) | (with_reducible refine w_cons ?_) | (with_reducible refine w_nil ?_) | (with_reducible refine w_cb ?_) | (with_reducible refine w_call ?_)
  | (with_reducible refine w_ret ?_) | (with_reducible refine w_drop ?_) | (with_reducible refine w_ifs ?_) | (with_reducible refine w_test ?_) | (with_reducible refine w_next ?_)
  | (with_reducible refine w_addI ?_) | (with_reducible refine w_subI ?_) | (with_reducible refine w_negI ?_) | (with_reducible refine w_eqI ?_) | (with_reducible refine w_neI ?_) | (with_reducible refine w_ltI ?_) | (with_reducible refine w_leI ?_)
  | (with_reducible refine w_gtI ?_) | (with_reducible refine w_geI ?_) | (with_reducible refine w_isNn ?_) | (with_reducible refine w_isNi ?_) | (with_reducible refine w_isNs ?_) | (with_reducible refine w_isNr ?_) | (with_reducible refine w_ntNn ?_) | (with_reducible refine w_ntNi ?_) | (with_reducible refine w_ntNs ?_) | (with_reducible refine w_ntNr ?_) | (with_reducible refine w_isN ?_) | (with_reducible refine w_notN ?_) | (with_reducible refine w_ipaI ?_) | (with_reducible refine w_eqS ?_) | (with_reducible refine w_neS ?_)
  | (with_reducible refine w_blE ?_) | (with_reducible refine w_truB ?_) | (with_reducible refine w_intI ?_) | (with_reducible refine w_intB ?_)
  | (with_reducible refine w_bm ?_) | (with_reducible refine w_bm0 ?_) | (with_reducible refine w_lst ?_) | (with_reducible refine w_tup ?_) | (with_reducible refine w_un ?_) | (with_reducible refine w_sl ?_) | (with_reducible refine w_nopart ?_) | (with_reducible refine w_part ?_) | (with_reducible refine w_partI ?_)
  | (with_reducible refine w_gsub ?_) | (with_reducible refine w_gcons ?_) | (with_reducible refine w_gnil ?_) | (with_reducible refine w_and ?_) | (with_reducible refine w_or ?_) | (with_reducible refine w_not ?_) | (with_reducible refine w_tru ?_) | (with_reducible refine w_yes ?_)
  | (with_reducible refine w_andV ?_) | (with_reducible refine w_orV ?_) | (with_reducible refine w_notV ?_) | (with_reducible refine w_tif ?_) | (with_reducible refine w_callS ?_) | (with_reducible refine w_for ?_)
  | (with_reducible refine w_par ?_) | (with_reducible refine w_par2 ?_) | (with_reducible refine w_retN ?_) | (with_reducible refine w_brk ?_) | (with_reducible refine w_cont ?_)
  | ((with_reducible refine' w_aug ?hx ?_); (case hx => exact rfl)) | (with_reducible refine w_ipsI ?_)
  | (with_reducible refine w_is_int_dict ?_) | (with_reducible refine w_is_int_list ?_) | (with_reducible refine w_is_int_tuple ?_) | (with_reducible refine w_is_int_str ?_) | (with_reducible refine w_is_int_int ?_) | (with_reducible refine w_is_int_bool ?_) | (with_reducible refine w_is_bool_dict ?_) | (with_reducible refine w_is_bool_list ?_) | (with_reducible refine w_is_bool_tuple ?_) | (with_reducible refine w_is_bool_str ?_) | (with_reducible refine w_is_bool_int ?_) | (with_reducible refine w_is_bool_bool ?_) | (with_reducible refine w_is_str_dict ?_) | (with_reducible refine w_is_str_list ?_) | (with_reducible refine w_is_str_tuple ?_) | (with_reducible refine w_is_str_str ?_) | (with_reducible refine w_is_str_int ?_) | (with_reducible refine w_is_str_bool ?_)
  | (with_reducible refine w_ifT ?_) | (with_reducible refine w_ifF ?_) | (with_reducible refine w_ifNF ?_) | (with_reducible refine w_ifNT ?_)
  | (with_reducible refine w_tys ?_) | (with_reducible refine w_chain ?_) | (with_reducible refine w_ost ?_) | (with_reducible refine w_vei ?_) | (with_reducible refine w_rzO ?_) | (with_reducible refine w_fld ?_) | (with_reducible refine w_sfld ?_) | (with_reducible refine w_afld ?_) | (with_reducible refine w_meth ?_) | (with_reducible refine w_make ?_) | (with_reducible refine w_rz ?_) | (with_reducible refine w_rAdd ?_) | (with_reducible refine w_rSub ?_) | (with_reducible refine w_max2 ?_) | (with_reducible refine w_lc ?_) | (with_reducible refine w_zip ?_) | (with_reducible refine w_seqv ?_) | (with_reducible refine w_rng1 ?_) | (with_reducible refine w_rng2 ?_) | (with_reducible refine w_rng3 ?_) | (with_reducible refine w_enum ?_) | (with_reducible refine w_rev ?_))
local macro_rules | `(tactic| walk_at "go") => `(tactic| repeat (walk_at "s1"))
/- BadBytes.__init__: 0 self, 1 why -/
def t_BadBytes_init (K : PySem.W.Frag) : TS :=
      (tSeq (tDrop (tVeI K (tCons (tVar 0) (tCons (tC (.str ("bytes that are none" : Str))) tNil))))
      (tOst K ("why" : Str) (tVar 0) (tVar 1)))
abbrev N_BadBytes_init : List Str := [("self" : Str), ("why" : Str)]

/- byte_at: 0 row, 1 at -/
def t_byte_at (K : PySem.W.Frag) (s_BadBytes_init_ : Sp) (c_BadBytes : Addr) (E : XK) : TS :=
      (tSeq (tIfS (tTest (tOp (rGeU) (tVar 1) (tCB (rLenU K) (tCons (tVar 0) tNil))))
      (tRzO (fun c d _ H => E c d H) c_BadBytes s_BadBytes_init_ (tCons (tC (.str ("short" : Str))) tNil))
      tNext)
      (tRet (tOp (rIxU K) (tVar 0) (tVar 1))))
abbrev N_byte_at : List Str := [("row" : Str), ("at" : Str)]

/- number_of: 0 rest -/
def t_number_of (K : PySem.W.Frag) : TS :=
      (tSeq (tIfS (tTest (tOp (rEqU K) (tOp (rModU) (tVar 0) (tC (.int 2))) (tC (.int 0))))
      (tRet (tOp (rDivU) (tVar 0) (tC (.int 2))))
      tNext)
      (tRet (tOp (rSubU) (tUn rNeg (tOp (rDivU) (tVar 0) (tC (.int 2)))) (tC (.int 1)))))
abbrev N_number_of : List Str := [("rest" : Str)]

/- take_number: 0 row, 1 at, 2 rest, 3 weight, 4 turn, 5 byte -/
def t_take_number (K : PySem.W.Frag) (s_byte_at_ : Sp) (s_number_of_ : Sp) (s_BadBytes_init_ : Sp) (c_BadBytes : Addr) (E : XK) : TS :=
      (tSeq (tAsg (tC (.int 0)) (gName 2))
      (tSeq (tAsg (tC (.int 1)) (gName 3))
      (tSeq (tFor (iRng1 (tCons (tC (.int 9)) tNil)) (gName 4)
      (tSeq (tAsg (tCallS s_byte_at_ (WE (fun c d _ H => E c d H)) (tCons (tVar 0) (tCons (tOp (rAddU K) (tVar 1) (tVar 4)) tNil))) (gName 5))
      (tSeq (tAug 2 (tOp (rMulU) (tOp (rModU) (tVar 5) (tC (.int 128))) (tVar 3)) (ipAddU K))
      (tSeq (tAug 3 (tC (.int 128)) (ipMulU))
      (tIfS (tTest (tOp (rLtU K) (tVar 5) (tC (.int 128))))
      (tSeq (tIfS (tAnd (tTest (tOp (rEqU K) (tVar 5) (tC (.int 0)))) (tTest (tOp (rGtU) (tVar 4) (tC (.int 0)))))
      (tRzO (fun c d _ H => E c d H) c_BadBytes s_BadBytes_init_ (tCons (tC (.str ("long" : Str))) tNil))
      tNext)
      (tRet (tTup (tCons (tCall s_number_of_ [] E0 (tCons (tVar 2) tNil)) (tCons (tOp (rAddU K) (tOp (rAddU K) (tVar 1) (tVar 4)) (tC (.int 1))) tNil)))))
      tNext)))))
      (tRzO (fun c d _ H => E c d H) c_BadBytes s_BadBytes_init_ (tCons (tC (.str ("long" : Str))) tNil)))))
abbrev N_take_number : List Str := [("row" : Str), ("at" : Str), ("rest" : Str), ("weight" : Str), ("turn" : Str), ("byte" : Str)]

/- number_bytes: 0 number, 1 rest, 2 made -/
def t_number_bytes (K : PySem.W.Frag) : TS :=
      (tSeq (tAsg (tOp (rMulU) (tC (.int 2)) (tVar 0)) (gName 1))
      (tSeq (tIfS (tTest (tOp (rLtU K) (tVar 0) (tC (.int 0))))
      (tAsg (tOp (rSubU) (tOp (rMulU) (tUn rNeg (tC (.int 2))) (tVar 0)) (tC (.int 1))) (gName 1))
      tNext)
      (tSeq (tAsg (tLst tNil) (gName 2))
      (tSeq (tWhile (tTest (tOp (rGeU) (tVar 1) (tC (.int 128))))
      (tSeq (tDrop (tBM K "list" (rAppend) (tVar 2) (tCons (tOp (rAddU K) (tOp (rModU) (tVar 1) (tC (.int 128))) (tC (.int 128))) tNil)))
      (tAsg (tOp (rDivU) (tVar 1) (tC (.int 128))) (gName 1))))
      (tRet (tOp (rAddU K) (tVar 2) (tLst (tCons (tVar 1) tNil))))))))
abbrev N_number_bytes : List Str := [("number" : Str), ("rest" : Str), ("made" : Str)]

/-- BadBytes.__init__ -/
def spBadI (K : PySem.W.Frag) (C : Addr) : Sp := fun vs H Q _ => ∃ (a : Addr) (v : V), vs = [.ref a, v] ∧ H a = some (exo a C none) ∧
  ∀ dx, H dx = none → dx ≠ a → Q .non (upd (upd H dx (exd dx [("why", v)])) a (exo a C (some dx)))
theorem pure_BadBytes_init {K : PySem.W.Frag} {C : Addr} (T : OexC K C) (hw : PySem.W.findIn K (.ref C) "why" = some none) (vs : List V) (H : Hp) (Q : VK) (E : XK) (h : spBadI K C vs H Q E) : t_BadBytes_init K { nx := fun _ H' => Q .non H', rt := Q } (start N_BadBytes_init vs) H := by
  obtain ⟨a, v, rfl, ha, q⟩ := h
  unfold t_BadBytes_init
  walk_at "go"
  refine ⟨a, C, _, rfl, by show 1 ≤ 1000; decide, T, ha, ?_⟩
  walk_at "go"
  exact ⟨a, C, rfl, T, hw, .inl ⟨ha, q⟩⟩
def RzK (K : PySem.W.Frag) (C : Addr) (W : WX) (σ : L2.St) (vs : List V) (H1 : Hp) : Prop := vs.length ≤ 1000 ∧ ∀ a, H1 a = none → spBadI K C (.ref a :: (vs ++ [])) (upd H1 a (exo a C none))
  (fun v H2 => v = .non ∧ ∃ (d : Addr) (fs : List (Str × V)), H2 a = some (exo a C (some d)) ∧ H2 d = some (exd d fs) ∧ H1 d = none ∧ W (.ref C) (some d) σ (upd (del H2 a) d (.xd fs))) (fun _ _ _ => False)
/-- BadBytes of the class at C, why w, is what is wished -/
def Bad (C : Addr) (w : Str) (H : Hp) (E : XK) : Prop := ∀ d H', Same H H' → H d = none → H' d = some (.xd [("why", .str w)]) → E (.ref C) (some d) H'
theorem w_rzO {W : WX} {K : PySem.W.Frag} {C : Addr} {ta : TA} {D : Ends} {σ : L2.St} {H : Hp} (h : ta σ H fun vs H1 => RzK K C W σ vs H1) : tRzO W C (spBadI K C) ta D σ H := h
theorem w_bad {W : WX} {K : PySem.W.Frag} {C : Addr} {σ : L2.St} {H : Hp} {w : Str} (h : Bad C w H fun c d H' => W c d σ H') : RzK K C W σ [.str w] H := by
  refine ⟨by show 1 ≤ 1000; decide, fun a ha => ⟨a, .str w, rfl, upd_same, fun dx hdx ne => ⟨rfl, dx, _, upd_same, by rw [upd_ne ne]; exact upd_same, ?_, ?_⟩⟩⟩
  · rw [upd_ne ne] at hdx; exact hdx
  · rw [upd_ne ne] at hdx
    refine h dx _ (fun b u e => ?_) hdx upd_same
    have nb : b ≠ dx := fun z => by rw [z, hdx] at e; cases e
    have na : b ≠ a := fun z => by rw [z, ha] at e; cases e
    rw [upd_ne nb, del_ne na, upd_ne na, upd_ne nb, upd_ne na]
    exact e
local macro_rules | `(tactic| walk_at "s1") => `(tactic| first
  | (with_reducible refine w_seq ?_) | (with_reducible refine w_asg ?_) | (with_reducible refine w_op ?_) | (with_reducible refine w_c ?_)
  | ((with_reducible refine' w_var ?hx ?_); (case hx => exact rfl))
  | (with_reducible refine w_gname ?_) | (with_reducible refine w_cons ?_) | (with_reducible refine w_nil ?_) | (with_reducible refine w_cb ?_) | (with_reducible refine w_call ?_)
  | (with_reducible refine w_ret ?_) | (with_reducible refine w_drop ?_) | (with_reducible refine w_ifs ?_) | (with_reducible refine w_test ?_) | (with_reducible refine w_next ?_)
  | (with_reducible refine w_addI ?_) | (with_reducible refine w_subI ?_) | (with_reducible refine w_negI ?_) | (with_reducible refine w_eqI ?_) | (with_reducible refine w_neI ?_) | (with_reducible refine w_ltI ?_) | (with_reducible refine w_leI ?_)
  | (with_reducible refine w_gtI ?_) | (with_reducible refine w_geI ?_) | (with_reducible refine w_isNn ?_) | (with_reducible refine w_isNi ?_) | (with_reducible refine w_isNs ?_) | (with_reducible refine w_isNr ?_) | (with_reducible refine w_ntNn ?_) | (with_reducible refine w_ntNi ?_) | (with_reducible refine w_ntNs ?_) | (with_reducible refine w_ntNr ?_) | (with_reducible refine w_isN ?_) | (with_reducible refine w_notN ?_) | (with_reducible refine w_ipaI ?_) | (with_reducible refine w_eqS ?_) | (with_reducible refine w_neS ?_)
  | (with_reducible refine w_blE ?_) | (with_reducible refine w_truB ?_) | (with_reducible refine w_intI ?_) | (with_reducible refine w_intB ?_)
  | (with_reducible refine w_bm ?_) | (with_reducible refine w_bm0 ?_) | (with_reducible refine w_lst ?_) | (with_reducible refine w_tup ?_) | (with_reducible refine w_un ?_) | (with_reducible refine w_sl ?_) | (with_reducible refine w_nopart ?_) | (with_reducible refine w_part ?_) | (with_reducible refine w_partI ?_)
  | (with_reducible refine w_gsub ?_) | (with_reducible refine w_gcons ?_) | (with_reducible refine w_gnil ?_) | (with_reducible refine w_and ?_) | (with_reducible refine w_or ?_) | (with_reducible refine w_not ?_) | (with_reducible refine w_tru ?_) | (with_reducible refine w_yes ?_)
  | (with_reducible refine w_andV ?_) | (with_reducible refine w_orV ?_) | (with_reducible refine w_notV ?_) | (with_reducible refine w_tif ?_) | (with_reducible refine w_callS ?_) | (with_reducible refine w_for ?_)
  | (with_reducible refine w_par ?_) | (with_reducible refine w_par2 ?_) | (with_reducible refine w_retN ?_) | (with_reducible refine w_brk ?_) | (with_reducible refine w_cont ?_)
  | ((with_reducible refine' w_aug ?hx ?_); (case hx => exact rfl)) | (with_reducible refine w_ipsI ?_)
  | (with_reducible refine w_is_int_dict ?_) | (with_reducible refine w_is_int_list ?_) | (with_reducible refine w_is_int_tuple ?_) | (with_reducible refine w_is_int_str ?_) | (with_reducible refine w_is_int_int ?_) | (with_reducible refine w_is_int_bool ?_) | (with_reducible refine w_is_bool_dict ?_) | (with_reducible refine w_is_bool_list ?_) | (with_reducible refine w_is_bool_tuple ?_) | (with_reducible refine w_is_bool_str ?_) | (with_reducible refine w_is_bool_int ?_) | (with_reducible refine w_is_bool_bool ?_) | (with_reducible refine w_is_str_dict ?_) | (with_reducible refine w_is_str_list ?_) | (with_reducible refine w_is_str_tuple ?_) | (with_reducible refine w_is_str_str ?_) | (with_reducible refine w_is_str_int ?_) | (with_reducible refine w_is_str_bool ?_)
  | (with_reducible refine w_ifT ?_) | (with_reducible refine w_ifF ?_) | (with_reducible refine w_ifNF ?_) | (with_reducible refine w_ifNT ?_)
  | (with_reducible refine w_tys ?_) | (with_reducible refine w_chain ?_) | (with_reducible refine w_ost ?_) | (with_reducible refine w_vei ?_) | (with_reducible refine w_rzO ?_) | (with_reducible refine w_fld ?_) | (with_reducible refine w_sfld ?_) | (with_reducible refine w_afld ?_) | (with_reducible refine w_meth ?_) | (with_reducible refine w_make ?_) | (with_reducible refine w_rz ?_) | (with_reducible refine w_rAdd ?_) | (with_reducible refine w_rSub ?_) | (with_reducible refine w_max2 ?_) | (with_reducible refine w_lc ?_) | (with_reducible refine w_zip ?_) | (with_reducible refine w_seqv ?_) | (with_reducible refine w_rng1 ?_) | (with_reducible refine w_rng2 ?_) | (with_reducible refine w_rng3 ?_) | (with_reducible refine w_enum ?_) | (with_reducible refine w_rev ?_))
local macro_rules | `(tactic| walk_at "go") => `(tactic| repeat (walk_at "s1"))
theorem w_badE {K : PySem.W.Frag} {C : Addr} {σ : L2.St} {H : Hp} {w : Str} {E : XK} (h : Bad C w H E) : RzK K C (fun c d _ H => E c d H) σ [.str w] H := w_bad (W := fun c d _ H => E c d H) (σ := σ) h
def spNb : Sp := fun vs H Q _ => ∃ n : Int, vs = [.int n] ∧ n.natAbs < 2 ^ 200 ∧ ∀ p H', Same H H' → H p = none → H' p = some (.lst ((nb n).map V.int)) → Q (.ref p) H'
theorem pure_number_bytes {K : PySem.W.Frag} (vs : List V) (H : Hp) (Q : VK) (E : XK) (h : spNb vs H Q E) : t_number_bytes K { nx := fun _ H' => Q .non H', rt := Q } (start N_number_bytes vs) H := by
  obtain ⟨n, rfl, hb, k⟩ := h
  have hlen := nb_len hb
  unfold t_number_bytes
  walk_at "go"
  refine w_mulI (.inl ⟨by decide, by decide⟩) ?_
  walk_at "go"
  have main : ∀ r : Int, r = (zz n : Nat) → (tSeq (tAsg (tLst tNil) (gName 2))
      (tSeq (tWhile (tTest (tOp (rGeU) (tVar 1) (tC (.int 128))))
      (tSeq (tDrop (tBM K "list" (rAppend) (tVar 2) (tCons (tOp (rAddU K) (tOp (rModU) (tVar 1) (tC (.int 128))) (tC (.int 128))) tNil)))
      (tAsg (tOp (rDivU) (tVar 1) (tC (.int 128))) (gName 1))))
      (tRet (tOp (rAddU K) (tVar 2) (tLst (tCons (tVar 1) tNil))))))  { nx := fun _ H' => Q .non H', rt := Q } [some (.int n), some (.int r), none] H := by
    rintro r rfl
    walk_at "go"
    refine ⟨Nat.zero_le _, fun p hp => ?_⟩
    walk_at "go"
    refine w_while (fun m σ H' => ∃ (pre : List Int), σ = [some (.int n), some (.int m), some (.ref p)] ∧ Same H H' ∧ H' p = some (.lst (pre.map V.int)) ∧ nb n = pre ++ sev m) (zz n)
      ⟨[], rfl, same_new hp, upd_same, rfl⟩ (fun s σ H1 w => ?_)
    obtain ⟨pre, rfl, s1, e1, e2⟩ := w
    have hpl : pre.length ≤ 30 := by
      have := congrArg List.length e2
      rw [List.length_append] at this
      omega
    walk_at "go"
    refine w_ifd (fun c => ?_) (fun c => ?_)
    · refine w_loop ?_
      walk_at "go"
      refine w_tyl e1 ?_
      walk_at "go"
      refine w_modI (by decide) ?_
      walk_at "go"
      refine w_app e1 (by rw [List.length_map]; exact sz_lt (by omega)) ?_
      walk_at "go"
      refine w_divI ⟨by decide, by decide⟩ ?_
      walk_at "go"
      refine ⟨s / 128, by omega, pre ++ [((s % 128 + 128 : Nat) : Int)], rfl, same_mut s1 hp, ?_, ?_⟩
      · rw [upd_same, List.map_append]; rfl
      · rw [e2, sev_ge (by omega), List.append_assoc]; rfl
    · walk_at "go"
      refine ⟨by show 1 ≤ sizeLine; decide, fun q hq => ?_⟩
      have nq : q ≠ p := fun z => by rw [z, e1] at hq; cases hq
      refine w_addL (xs := pre.map V.int) (ys := [V.int s]) (by rw [upd_ne nq.symm]; exact e1) upd_same (by rw [List.length_map]; exact sz_le (by show pre.length + 1 ≤ _; omega)) fun q2 hq2 => ?_
      walk_at "go"
      refine k _ _ (s1.trans ((same_new hq).trans (same_new hq2))) ((s1.trans (same_new hq)).free hq2) ?_
      rw [upd_same, e2, sev_lt (by omega), List.map_append]
      rfl
  refine w_ifd (fun c => ?_) (fun c => ?_)
  · walk_at "go"
    refine w_mulI (.inl ⟨by decide, by decide⟩) ?_
    walk_at "go"
    refine main _ ?_
    unfold zz
    rw [if_pos c]; omega
  · walk_at "go"
    refine main _ ?_
    unfold zz
    rw [if_neg c]; omega
def spByte (K : PySem.W.Frag) (C : Addr) : Sp := fun vs H Q E => ∃ (a : Addr) (xs : List Int) (j : Nat), vs = [.ref a, .int j] ∧ Sq K H a (xs.map V.int) ∧ match xs[j]? with | some b => Q (.int b) H | none => Bad C "short" H E
theorem pure_byte_at {K : PySem.W.Frag} {C : Addr} (vs : List V) (H : Hp) (Q : VK) (E : XK) (h : spByte K C vs H Q E) : t_byte_at K (spBadI K C) C E { nx := fun _ H' => Q .non H', rt := Q } (start N_byte_at vs) H := by
  obtain ⟨a, xs, j, rfl, ha, k⟩ := h
  unfold t_byte_at
  walk_at "go"
  refine w_len ha ?_
  walk_at "go"
  rw [List.length_map]
  cases hb : xs[j]? with
  | none =>
    rw [hb] at k
    have hj := List.getElem?_eq_none_iff.mp hb
    refine w_ifd (fun _ => ?_) (fun c => absurd (by omega) c)
    walk_at "go"
    exact w_badE k
  | some b =>
    rw [hb] at k
    have hj : j < xs.length := (List.getElem?_eq_some_iff.mp hb).1
    refine w_ifd (fun c => absurd c (by omega)) (fun _ => ?_)
    walk_at "go"
    exact w_ix ha (atI_nat (at_int hb)) k
def spNumOf : Sp := fun vs H Q _ => ∃ r : Nat, vs = [.int r] ∧ Q (.int (uz r)) H
theorem pure_number_of {K : PySem.W.Frag} (vs : List V) (H : Hp) (Q : VK) (E : XK) (h : spNumOf vs H Q E) : t_number_of K { nx := fun _ H' => Q .non H', rt := Q } (start N_number_of vs) H := by
  obtain ⟨r, rfl, k⟩ := h
  unfold t_number_of
  walk_at "go"
  refine w_modI (by decide) ?_
  walk_at "go"
  unfold uz at k
  refine w_ifd (fun c => ?_) (fun c => ?_)
  · walk_at "go"
    refine w_divI ⟨by decide, by decide⟩ ?_
    rw [if_pos (by omega)] at k
    exact k
  · walk_at "go"
    refine w_divI ⟨by decide, by decide⟩ ?_
    walk_at "go"
    rw [if_neg (by omega)] at k
    exact k
def spTakeN (K : PySem.W.Frag) (C : Addr) : Sp := fun vs H Q E => ∃ (a : Addr) (xs : List Int) (j : Nat), vs = [.ref a, .int j] ∧ Sq K H a (xs.map V.int) ∧ match takeN xs j with
  | .got n e => ∀ p H', Same H H' → H p = none → H' p = some (.tup [.int n, .int e]) → Q (.ref p) H'
  | .bad w => Bad C w H E
theorem pure_take_number {K : PySem.W.Frag} {C : Addr} (vs : List V) (H : Hp) (Q : VK) (E : XK) (h : spTakeN K C vs H Q E) : t_take_number K (spByte K C) spNumOf (spBadI K C) C E { nx := fun _ H' => Q .non H', rt := Q } (start N_take_number vs) H := by
  obtain ⟨a, xs, j, rfl, ha, k⟩ := h
  unfold t_take_number
  walk_at "go"
  refine w_rg (n := 9) (by decide) fun J hJ => ?_
  refine for_it hJ (fun i σ H' => ∃ (v5 v4 : Option V) (r : Nat), σ = [some (.ref a), some (.int j), some (.int r), some (.int ((128 ^ i : Nat) : Int)), v4, v5] ∧ H' = H ∧ takeN xs j = tnG xs (9 - i) (decide (i = 0)) (128 ^ i) r (j + i))
      ⟨none, none, 0, rfl, rfl, rfl⟩ (fun _ _ _ _ _ => trivial) (fun i x σ Hi H' hi p y => ?_) (fun σ H2 p => ?_)
  · obtain ⟨v5, v4, r, rfl, rfl, hg⟩ := p
    obtain ⟨rfl, rfl⟩ := y
    obtain ⟨f, hf⟩ : ∃ f, 9 - i = f + 1 := ⟨8 - i, by omega⟩
    rw [hf] at hg
    unfold tnG at hg
    walk_at "go"
    refine ⟨a, xs, j + i, rfl, ha, ?_⟩
    cases hb : xs[j + i]? with
    | none =>
      rw [hb] at hg
      rw [show takeN xs j = .bad "short" from hg] at k
      exact k
    | some b =>
      rw [hb] at hg
      have hg : takeN xs j = (if b < 128 then (if b = 0 ∧ decide (i = 0) = false then Rd.bad "long" else .got (uz (r + (b % 128).toNat * 128 ^ i)) (j + i + 1)) else tnG xs f false (128 ^ i * 128) (r + (b % 128).toNat * 128 ^ i) (j + i + 1)) := hg
      show (tSeq _ _ : TS) _ _ _
      walk_at "go"
      refine w_modI (by decide) ?_
      have hw : (128 ^ i : Nat) < 2 ^ 64 := Nat.lt_of_le_of_lt (Nat.pow_le_pow_right (by decide) (show i ≤ 8 by omega)) (by decide)
      walk_at "go"
      generalize hW : 128 ^ i = W at *
      refine w_mulI (.inr ⟨by omega, by omega⟩) ?_
      walk_at "go"
      refine w_ipm (.inl (.inr ⟨by decide, by decide⟩)) ?_
      walk_at "go"
      have eb : b % 128 = ((b % 128).toNat : Int) := by omega
      generalize hc : (b % 128).toNat = c at *
      rw [eb, show (r : Int) + (c : Int) * (W : Int) = ((r + c * W : Nat) : Int) by push_cast; rfl]
      refine w_ifd (fun q => ?_) (fun q => ?_)
      · rw [if_pos q] at hg
        walk_at "go"
        by_cases z : b = 0 ∧ decide (i = 0) = false
        · rw [if_pos z] at hg
          rw [hg] at k
          have z2 : 0 < i := by have := z.2; simp at this; omega
          rw [show decide (b = 0) = true from decide_eq_true z.1]
          walk_at "go"
          rw [show decide ((0 : Int) < (i : Int)) = true from decide_eq_true (by omega)]
          walk_at "go"
          exact w_badE k
        · rw [if_neg z] at hg
          rw [hg] at k
          refine w_ifd (fun b0 => ?g1) (fun b0 => ?g2)
          case' g1 =>
            walk_at "go"
            refine w_ifd (fun c => absurd ⟨b0, decide_eq_false (by omega)⟩ z) (fun _ => ?_)
          all_goals
            walk_at "go"
            refine ⟨r + c * W, rfl, ?_⟩
            walk_at "go"
            refine ⟨by show 2 ≤ sizeLine; decide, fun p hp => ?_⟩
            exact k _ _ (same_new hp) hp upd_same
      · rw [if_neg q] at hg
        walk_at "go"
        refine ⟨some (.int b), some (.int i), r + c * W, ?_, rfl, ?_⟩
        · rw [Nat.pow_succ, hW]; rfl
        · rw [show 9 - (i + 1) = f by omega, show decide (i + 1 = 0) = false from decide_eq_false (by omega), Nat.pow_succ, hW]; exact hg
  · obtain ⟨v5, v4, r, rfl, rfl, hg⟩ := p
    rw [show takeN xs j = .bad "long" from hg] at k
    walk_at "go"
    exact w_badE k
end Ps

/-! Pbc: packed numbers, plain. -/
namespace Ps
open PySem PySem.Spec PyProof.Rows L2
/-- digits to a number, the lowest ones first -/
def num (b : Nat) : List Nat → Nat
  | [] => 0
  | x :: r => x + b * num b r
/-- the k lowest digits of a number -/
def dig (b : Nat) : Nat → Nat → List Nat
  | 0, _ => []
  | k + 1, r => r % b :: dig b k (r / b)
theorem dig_len (b : Nat) : ∀ k r, (dig b k r).length = k
  | 0, _ => rfl
  | k + 1, r => by rw [dig, List.length_cons, dig_len b k]
theorem dig_lt {b : Nat} (hb : 0 < b) : ∀ k r, ∀ x ∈ dig b k r, x < b
  | 0, _, x, h => by cases h
  | k + 1, r, x, h => by
    rcases List.mem_cons.mp h with e | h
    · rw [e]; exact Nat.mod_lt _ hb
    · exact dig_lt hb k _ x h
theorem num_lt {b : Nat} (hb : 0 < b) : ∀ xs : List Nat, (∀ x ∈ xs, x < b) → num b xs < b ^ xs.length
  | [], _ => by simp [num]
  | x :: r, h => by
    have q := num_lt hb r fun y hy => h y (List.mem_cons_of_mem _ hy)
    have q2 := h x List.mem_cons_self
    rw [num, List.length_cons, Nat.pow_succ, Nat.mul_comm _ b]
    calc x + b * num b r < b + b * num b r := by omega
      _ = b * (num b r + 1) := by rw [Nat.mul_add, Nat.mul_one, Nat.add_comm]
      _ ≤ b * b ^ r.length := Nat.mul_le_mul_left _ q
theorem dig_num {b : Nat} (hb : 0 < b) : ∀ xs : List Nat, (∀ x ∈ xs, x < b) → dig b xs.length (num b xs) = xs
  | [], _ => rfl
  | x :: r, h => by
    have q2 := h x List.mem_cons_self
    rw [num, List.length_cons, dig, Nat.add_mul_mod_self_left, Nat.mod_eq_of_lt q2, Nat.add_mul_div_left _ _ hb, Nat.div_eq_of_lt q2, Nat.zero_add, dig_num hb r fun y hy => h y (List.mem_cons_of_mem _ hy)]
theorem num_dig {b : Nat} (hb : 0 < b) : ∀ k r, num b (dig b k r) = r % b ^ k
  | 0, r => by rw [dig, num, Nat.pow_zero, Nat.mod_one]
  | k + 1, r => by rw [dig, num, num_dig hb k, Nat.pow_succ, Nat.mul_comm _ b, Nat.mod_mul]
theorem num_append (b : Nat) : ∀ xs ys : List Nat, num b (xs ++ ys) = num b xs + b ^ xs.length * num b ys
  | [], ys => by simp [num]
  | x :: r, ys => by
    rw [List.cons_append, num, num, num_append b r ys, List.length_cons, Nat.pow_succ, Nat.mul_add, Nat.mul_comm _ b, Nat.mul_assoc]
    omega
theorem dig_snoc (b : Nat) : ∀ k r, dig b (k + 1) r = dig b k r ++ [r / b ^ k % b]
  | 0, r => by simp [dig]
  | k + 1, r => by
    show r % b :: dig b (k + 1) (r / b) = (r % b :: dig b k (r / b)) ++ _
    rw [dig_snoc b k, List.cons_append, Nat.div_div_eq_div_mul, ← Nat.pow_succ']
theorem dig_take (b : Nat) : ∀ {k n r : Nat}, k ≤ n → (dig b n r).take k = dig b k r
  | 0, n, r, _ => by rw [List.take_zero]; rfl
  | k + 1, 0, r, h => by omega
  | k + 1, n + 1, r, h => by rw [dig, dig, List.take_succ_cons, dig_take b (by omega)]
theorem num_two (w : Nat) : ∀ xs : List Nat, (∀ x ∈ xs, x < 2 ^ w) → num 2 (xs.flatMap (dig 2 w)) = num (2 ^ w) xs
  | [], _ => rfl
  | x :: r, h => by
    rw [List.flatMap_cons, num_append, num_dig (by decide), dig_len, Nat.mod_eq_of_lt (h x List.mem_cons_self), num_two w r fun y hy => h y (List.mem_cons_of_mem _ hy), num]
/-- how many bytes -/
def bcn (n w : Nat) : Nat := (n * w + 7) / 8
def pk (xs : List Nat) (w : Nat) : List Nat := dig 256 (bcn xs.length w) (num (2 ^ w) xs)
theorem pk_len (xs : List Nat) (w : Nat) : (pk xs w).length = bcn xs.length w := dig_len _ _ _
theorem pk_lt (xs : List Nat) (w : Nat) : ∀ x ∈ pk xs w, x < 256 := dig_lt (by decide) _ _
theorem bcn_pow (n w : Nat) : (2 ^ w) ^ n ≤ 256 ^ bcn n w := by
  rw [← Nat.pow_mul, show (256 : Nat) = 2 ^ 8 from rfl, ← Nat.pow_mul]
  refine Nat.pow_le_pow_right (by decide) ?_
  have : w * n = n * w := Nat.mul_comm _ _
  unfold bcn
  omega
theorem pk_num {xs : List Nat} {w : Nat} (h : ∀ x ∈ xs, x < 2 ^ w) : num 256 (pk xs w) = num (2 ^ w) xs := by
  unfold pk
  rw [num_dig (by decide)]
  exact Nat.mod_eq_of_lt (Nat.lt_of_lt_of_le (num_lt (Nat.two_pow_pos w) xs h) (bcn_pow _ _))
/-- bits, eight a byte -/
theorem num_split (b : Nat) (xs : List Nat) (k : Nat) : num b xs = num b (xs.take k) + b ^ (xs.take k).length * num b (xs.drop k) := by
  conv => lhs; rw [← List.take_append_drop k xs]
  exact num_append b _ _
def bytesOf (bits : List Nat) (n : Nat) : List Nat := (List.range n).map fun i => num 2 ((bits.drop (8 * i)).take 8)
theorem bytes_dig : ∀ (n : Nat) (bits : List Nat), (∀ x ∈ bits, x < 2) → bytesOf bits n = dig 256 n (num 2 bits)
  | 0, _, _ => rfl
  | n + 1, bits, h => by
    unfold bytesOf
    rw [List.range_succ_eq_map, List.map_cons, List.map_map, dig]
    have h1 : num 2 (bits.take 8) < 256 := by
      have := num_lt (by decide : 0 < 2) (bits.take 8) fun x hx => h x (List.mem_of_mem_take hx)
      have h2 : 2 ^ (bits.take 8).length ≤ 2 ^ 8 := Nat.pow_le_pow_right (by decide) (by rw [List.length_take]; omega)
      omega
    have e : num 2 bits = num 2 (bits.take 8) + 256 * num 2 (bits.drop 8) := by
      by_cases c : bits.length ≤ 8
      · rw [List.drop_eq_nil_of_le c, List.take_of_length_le c, num, Nat.mul_zero, Nat.add_zero]
      · have q := num_split 2 bits 8
        rw [show (bits.take 8).length = 8 by rw [List.length_take]; omega] at q
        exact q
    congr 1
    · rw [Nat.mul_zero, List.drop_zero, e]; omega
    · have e2 : num 2 bits / 256 = num 2 (bits.drop 8) := by rw [e]; omega
      rw [e2, ← bytes_dig n (bits.drop 8) fun x hx => h x (List.mem_of_mem_drop hx)]
      unfold bytesOf
      refine List.map_congr_left fun i _ => ?_
      show num 2 ((bits.drop (8 * (i + 1))).take 8) = _
      rw [List.drop_drop, show 8 * (i + 1) = 8 + 8 * i by omega]
theorem bits_len (w : Nat) : ∀ xs : List Nat, (xs.flatMap (dig 2 w)).length = xs.length * w
  | [] => by simp
  | x :: r => by rw [List.flatMap_cons, List.length_append, dig_len, bits_len w r, List.length_cons, Nat.add_mul, Nat.one_mul, Nat.add_comm]
theorem bits_two (w : Nat) (xs : List Nat) : ∀ x ∈ xs.flatMap (dig 2 w), x < 2 := fun x hx => by
  obtain ⟨y, _, h⟩ := List.mem_flatMap.mp hx
  exact dig_lt (by decide) _ _ x h
theorem pk_bits {xs : List Nat} {w : Nat} (h : ∀ x ∈ xs, x < 2 ^ w) : bytesOf (xs.flatMap (dig 2 w)) (bcn xs.length w) = pk xs w := by
  rw [bytes_dig _ _ (bits_two w xs), num_two w xs h]
  rfl
/-- how many bits a number has -/
def bl (n : Nat) : Nat := if n = 0 then 0 else bl (n / 2) + 1
termination_by n
decreasing_by omega
theorem bl_zero : bl 0 = 0 := by rw [bl, if_pos rfl]
theorem bl_pos {n : Nat} (h : 0 < n) : bl n = bl (n / 2) + 1 := by rw [bl, if_neg (by omega)]
theorem bl_le : ∀ (w n : Nat), n < 2 ^ w → bl n ≤ w
  | w, n, h => by
    by_cases c : n = 0
    · rw [c, bl_zero]; omega
    · cases w with
      | zero => simp at h; omega
      | succ w =>
        rw [bl_pos (by omega)]
        have := bl_le w (n / 2) (by rw [Nat.pow_succ] at h; omega)
        omega
theorem bl_lt (n : Nat) : n < 2 ^ bl n := by
  by_cases c : n = 0
  · rw [c, bl_zero]; decide
  · rw [bl_pos (by omega), Nat.pow_succ]
    have := bl_lt (n / 2)
    omega
termination_by n
decreasing_by omega
theorem bl_ge {n : Nat} (h : 0 < n) : 2 ^ (bl n - 1) ≤ n := by
  rw [bl_pos h, Nat.add_sub_cancel]
  by_cases c : n / 2 = 0
  · rw [c, bl_zero]; simp; omega
  · have q := bl_ge (n := n / 2) (by omega)
    have e : bl (n / 2) = bl (n / 2) - 1 + 1 := by
      have := bl_pos (n := n / 2) (by omega)
      omega
    rw [e, Nat.pow_succ]
    omega
termination_by n
decreasing_by omega
theorem bl_pow : ∀ w : Nat, bl (2 ^ w) = w + 1
  | 0 => by rw [Nat.pow_zero, bl_pos (by decide), bl_zero]
  | w + 1 => by rw [bl_pos (Nat.two_pow_pos _), Nat.pow_succ, Nat.mul_div_cancel _ (by decide), bl_pow w]
theorem bl_pred : ∀ w : Nat, bl (2 ^ w - 1) = w
  | 0 => bl_zero
  | w + 1 => by
    have h := Nat.two_pow_pos w
    rw [bl_pos (by rw [Nat.pow_succ]; omega), show (2 ^ (w + 1) - 1) / 2 = 2 ^ w - 1 by rw [Nat.pow_succ]; omega, bl_pred w]
def ins (xs : List Nat) : List Int := xs.map fun x : Nat => (x : Int)
theorem ins_len (xs : List Nat) : (ins xs).length = xs.length := List.length_map _
theorem ins_get {xs : List Nat} {i : Nat} {b : Int} (h : (ins xs)[i]? = some b) : ∃ x : Nat, xs[i]? = some x ∧ b = x := by
  unfold ins at h
  rw [List.getElem?_map] at h
  cases e : xs[i]? with
  | none => rw [e] at h; cases h
  | some x => rw [e] at h; exact ⟨x, rfl, (Option.some.inj h).symm⟩
theorem ins_append (xs ys : List Nat) : ins (xs ++ ys) = ins xs ++ ins ys := List.map_append
theorem ins_at {xs : List Nat} {i : Nat} {y : V} (h : ((ins xs).map V.int)[i]? = some y) : ∃ x : Nat, xs[i]? = some x ∧ y = .int x := by
  obtain ⟨b, h1, rfl⟩ := int_at h
  obtain ⟨x, h2, rfl⟩ := ins_get h1
  exact ⟨x, h2, rfl⟩
theorem ins_snoc (xs : List Nat) (x : Nat) : (ins xs).map V.int ++ [V.int (x : Int)] = (ins (xs ++ [x])).map V.int := by rw [ins_append, List.map_append]; rfl
theorem nat_list {A : List Int} (h : ∀ b ∈ A, 0 ≤ b ∧ b < 256) : ∃ B : List Nat, A = ins B ∧ ∀ b ∈ B, b < 256 := by
  refine ⟨A.map Int.toNat, ?_, fun b hb => ?_⟩
  · unfold ins
    rw [List.map_map]
    conv => lhs; rw [← List.map_id A]
    refine List.map_congr_left fun x hx => ?_
    have := h x hx
    show x = ((x.toNat : Nat) : Int)
    omega
  · obtain ⟨x, hx, rfl⟩ := List.mem_map.mp hb
    have := h x hx
    omega
theorem num_cut {b : Nat} {xs : List Nat} {i x : Nat} (h : xs[xs.length - 1 - i]? = some x) (hi : i < xs.length) : num b (xs.drop (xs.length - (i + 1))) = num b (xs.drop (xs.length - i)) * b + x := by
  have e : xs.length - 1 - i = xs.length - (i + 1) := by omega
  rw [e] at h
  obtain ⟨h1, h2⟩ := List.getElem?_eq_some_iff.mp h
  rw [List.drop_eq_getElem_cons h1, num, h2, show xs.length - (i + 1) + 1 = xs.length - i by omega, Nat.mul_comm b]
  omega
theorem num_snoc (b : Nat) (xs : List Nat) (x : Nat) : num b (xs ++ [x]) = num b xs + b ^ xs.length * x := by rw [num_append, num, num, Nat.mul_zero, Nat.add_zero]
end Ps

/-! PsH: walks over a row that stays where it is. -/
namespace Ps
open PySem PySem.Spec PyProof.Rows L2
section
variable {K : PySem.W.Frag} {H H' : Hp} {a : Addr} {xs : List V} {R : It → Hp → Prop}
theorem sql_at (e : H' a = H a) (h : SqL K H a xs) : SqL K H' a xs := h.imp (fun h => by unfold L2.Rd at h ⊢; rw [e]; exact h) id
theorem sqt_at (e : H' a = H a) (h : SqT K H a xs) : SqT K H' a xs := h.imp (fun h => by unfold L2.Rd at h ⊢; rw [e]; exact h) id
theorem Sq.at (h : Sq K H a xs) (e : H' a = H a) : Sq K H' a xs := h.imp (sql_at e) (sqt_at e)
theorem w_itQ (ha : Sq K H a xs) (h : ∀ J, Walk J xs.length (fun H' => H' a = H a) (YAt xs) → R J H) : SeqK K R (.ref a) H := by
  rcases ha with ha | ha
  · exact w_itL ha (h _ (walk_list.mono (fun _ s => sql_at s ha) fun _ _ _ _ _ _ y => y))
  · exact w_itT ha (h _ (walk_tup.mono (fun _ s => sqt_at s ha) fun _ _ _ _ _ _ y => y))
end
theorem w_chain {r r' : R2} {ta tb tc : TE} {σ : L2.St} {H : Hp} {Q : VK} (h : ta σ H fun x H1 => tb σ H1 fun y H2 => r x y H2 fun z H3 => ∃ k, z = .bl k ∧ (if k = true then tc σ H3 fun w' H4 => r' y w' H4 Q else Q (.bl false) H3)) : tChain r r' ta tb tc σ H Q := h
end Ps

/-! PsS: texts: many times one, joined, a sign's place. -/
namespace Ps
open PySem PySem.Spec PyProof.Rows L2
/-- a text k times -/
def repS (z : Str) (k : Nat) : Str := ⟨(List.replicate k z.cps).foldl (· ++ ·) #[]⟩
def rSMul : R2 := fun x y H Q => ∃ (z : Str) (k : Nat), x = .str z ∧ y = .int (k : Int) ∧ 2 ≤ k ∧ z.length ≠ 0 ∧ z.length * k ≤ 16777216 ∧ Q (.str (repS z k)) H
theorem op_smul {X : Cx} : OpR X (binaryOp .Mult) rSMul := by
  intro pins s σ H x y v u Q I rx ry h
  obtain ⟨z, k, rfl, rfl, hk, h0, hz, q⟩ := h
  obtain ⟨t, rfl⟩ := rx
  obtain ⟨t', rfl⟩ := ry
  have hk2 : k ≤ 16777216 := Nat.le_trans (Nat.le_mul_of_pos_left k (by omega)) hz
  have hl : Builtin.Str.tooLong (z.length * k) = false := by
    unfold Builtin.Str.tooLong
    exact decide_eq_false (by rw [sizeLine_eq]; omega)
  refine PySem.P.mul_str (by rw [decide_eq_false (by omega), decide_eq_false (by omega)]; rfl) (fun _ _ => ?_) (fun _ _ => by rw [Int.toNat_natCast]; exact hl) ?_
  · have : (z.length : Int) * k ≤ 16777216 := by
      have h2 : ((z.length * k : Nat) : Int) ≤ 16777216 := by omega
      rw [Int.natCast_mul] at h2
      exact h2
    have := Int.le_ediv_of_mul_le (c := (k : Int)) (a := (z.length : Int)) (b := 2 ^ 63 - 1) (by omega) (by omega)
    omega
  · rw [if_neg (by omega), if_neg (by
      have e1 : ((k : Int) == 1) = false := beq_false_of_ne (by omega)
      have e2 : (z.length == 0) = false := beq_false_of_ne h0
      rw [e1, e2]
      exact Bool.false_ne_true), Int.toNat_natCast]
    exact ⟨PySem.fits_reps hl, ⟨.str (repS z k), H, I.tok _, ⟨_, rfl⟩, q⟩⟩
def rMulT : R2 := fun x y H Q => rMulU x y H Q ∨ rSMul x y H Q
theorem op_mulT {X : Cx} : OpR X (binaryOp .Mult) rMulT := opr_or op_mulU op_smul
def rJoinS (K : PySem.W.Frag) : V → List V → Hp → VK → Prop := fun x xs H Q => ∃ a p, ∃ ys : List Str, x = .str a ∧ xs = [.ref p] ∧ (SqL K H p (ys.map V.str) ∨ SqT K H p (ys.map V.str)) ∧
  (ys.map (·.length)).sum + ys.length * a.length ≤ 16777216 ∧ Q (.str (Txt.join a ys)) H
theorem mt_joinS {X : Cx} : MtR X "str.join" (rJoinS X.K) := mt_join
def rSIdx : V → List V → Hp → VK → Prop := fun x xs H Q => ∃ a b i rest, x = .str a ∧ xs = [.str b] ∧ Builtin.Str.occurrences a b 0 a.length 1 = i :: rest ∧ Q (.int (i : Nat)) H
theorem mt_sidx {X : Cx} : MtR X "str.index" rSIdx := mt_sindex
theorem join_one (cs : List Nat) : Txt.join Str.empty (cs.map fun c => (⟨#[c]⟩ : Str)) = ⟨cs.toArray⟩ := by
  show Builtin.Str.glued Str.empty _ = _
  cases cs with
  | nil => rfl
  | cons c r =>
    have e := PySem.StrLaws.glued_list Str.empty ⟨#[c]⟩ (r.map fun c => (⟨#[c]⟩ : Str))
    have g : ∀ l : List Nat, PySem.StrLaws.glueL [] (l.map fun c => (⟨#[c]⟩ : Str)) = l := fun l => by
      induction l with
      | nil => rfl
      | cons x l ih =>
        show [] ++ ([x] ++ PySem.StrLaws.glueL [] (l.map fun c => (⟨#[c]⟩ : Str))) = _
        rw [ih]; rfl
    have e2 : (Builtin.Str.glued Str.empty ((c :: r).map fun c => (⟨#[c]⟩ : Str))).cps.toList = c :: r := by
      rw [List.map_cons, e]
      show [c] ++ PySem.StrLaws.glueL [] (r.map fun c => (⟨#[c]⟩ : Str)) = _
      rw [g]; rfl
    generalize Builtin.Str.glued Str.empty ((c :: r).map fun c => (⟨#[c]⟩ : Str)) = z at *
    obtain ⟨arr⟩ := z
    congr 1
    rw [← e2]
section
variable {K : PySem.W.Frag} {H : Hp} {Q : VK} {p : Addr}
theorem w_tys {z : Str} {P : Prop} (h : P) : tyV K "str" (.str z) H ∧ P := ⟨rfl, h⟩
theorem w_joinE {cs : List Nat} (ha : H p = some (.lst (cs.map fun c => V.str ⟨#[c]⟩))) (hz : cs.length ≤ 1000000) (h : Q (.str ⟨cs.toArray⟩) H) : rJoinS K (.str Str.empty) [.ref p] H Q := by
  refine ⟨Str.empty, p, cs.map fun c => (⟨#[c]⟩ : Str), rfl, rfl, .inl (SqL.of (by rw [List.map_map]; exact ha)), ?_, ?_⟩
  · have e : ((cs.map fun c => (⟨#[c]⟩ : Str)).map (·.length)).sum = cs.length := by
      have g : ∀ l : List Nat, ((l.map fun c => (⟨#[c]⟩ : Str)).map (·.length)).sum = l.length := fun l => by
        induction l with
        | nil => rfl
        | cons x l ih => rw [List.map_cons, List.map_cons, List.sum_cons, ih, List.length_cons]; show 1 + _ = _; omega
      exact g cs
    rw [e]
    show cs.length + _ * 0 ≤ _
    omega
  · rw [join_one]; exact h
theorem w_mulTI {i j : Int} (hc : CMul i j) (h : Q (.int (i * j)) H) : rMulT (.int i) (.int j) H Q := .inl (w_mulI hc h)
theorem w_smul {z : Str} {k : Nat} (hk : 2 ≤ k) (h0 : z.length ≠ 0) (hz : z.length * k ≤ 16777216) (h : Q (.str (repS z k)) H) : rMulT (.str z) (.int (k : Int)) H Q := .inr ⟨z, k, rfl, rfl, hk, h0, hz, h⟩
theorem w_sidx {a b : Str} {i : Nat} {rest : List Nat} (ho : Builtin.Str.occurrences a b 0 a.length 1 = i :: rest) (h : Q (.int (i : Nat)) H) : rSIdx (.str a) [.str b] H Q := ⟨a, b, i, rest, rfl, rfl, ho, h⟩
end
end Ps

/-! Pta: texts of the ninety-four signs, plain. -/
namespace Ps
open PySem PySem.Spec PyProof.Rows L2
def signs : Str := (" !\"#$&'()*+,-./0123456789:;<=>?@ABCDEFGHIJKLMNOPQRSTUVWXYZ[\\]^_`abcdefghijklmnopqrstuvwxyz{|}~" : Str)
def sgA : Array Nat := signs.cps
/-- the k-th sign -/
def sg (k : Nat) : Nat := signs.cps.toList.getD k 0
/-- the text of these signs -/
def txt (ks : List Nat) : Str := ⟨(ks.map sg).toArray⟩
theorem signs_len : signs.length = 94 := by decide +kernel
theorem signs_list : signs.cps.toList.length = 94 := by decide +kernel
theorem sg_at {k : Nat} (h : k < 94) : signs.cps.toList[k]? = some (sg k) := by
  have h2 : k < signs.cps.toList.length := by rw [signs_list]; exact h
  unfold sg
  rw [List.getD_eq_getElem?_getD, List.getElem?_eq_getElem h2]
  rfl
theorem sg_occ : ∀ k : Fin 94, Builtin.Str.occurrences signs ⟨#[sg k.val]⟩ 0 signs.length 1 = [k.val] := by decide +kernel
theorem txt_len (ks : List Nat) : (txt ks).length = ks.length := by
  show (ks.map sg).toArray.size = _
  rw [List.size_toArray, List.length_map]
theorem txt_cps (ks : List Nat) : (txt ks).cps.toList = ks.map sg := by simp [txt]
theorem sg_inj : ∀ k l : Fin 94, sg k.val = sg l.val → k = l := by decide +kernel
theorem sg_lt : ∀ k l : Fin 94, k.val < l.val → sg k.val < sg l.val := by decide +kernel
/-- a text of at most n signs -/
def IsT (n : Nat) (z : Str) : Prop := ∃ ks : List Nat, z = txt ks ∧ ks.length ≤ n ∧ ∀ k ∈ ks, k < 94
def okT (n : Nat) (z : Str) : Bool := z.cps.toList.all (fun c => signs.cps.toList.contains c) && decide (z.length ≤ n)
theorem sg_of {c : Nat} (h : signs.cps.toList.contains c = true) : ∃ k, k < 94 ∧ sg k = c := by
  have hm : c ∈ signs.cps.toList := by simpa using h
  obtain ⟨k, hk, e⟩ := List.getElem_of_mem hm
  refine ⟨k, by rw [signs_list] at hk; exact hk, ?_⟩
  unfold sg
  rw [List.getD_eq_getElem?_getD, List.getElem?_eq_getElem hk, e]
  rfl
theorem isT_list : ∀ cs : List Nat, (∀ c ∈ cs, signs.cps.toList.contains c = true) → ∃ ks : List Nat, cs = ks.map sg ∧ ∀ k ∈ ks, k < 94
  | [], _ => ⟨[], rfl, by simp⟩
  | c :: r, h => by
    obtain ⟨k, hk, e⟩ := sg_of (h c List.mem_cons_self)
    obtain ⟨ks, e2, h2⟩ := isT_list r fun x hx => h x (List.mem_cons_of_mem _ hx)
    exact ⟨k :: ks, by rw [List.map_cons, e, ← e2], fun x hx => (List.mem_cons.mp hx).elim (fun z => z ▸ hk) (h2 x)⟩
theorem okT_is {n : Nat} {z : Str} (h : okT n z = true) : IsT n z := by
  unfold okT at h
  obtain ⟨h1, h2⟩ := Bool.and_eq_true_iff.mp h
  obtain ⟨ks, e, hk⟩ := isT_list z.cps.toList (List.all_eq_true.mp h1)
  have hz : z = txt ks := by
    obtain ⟨arr⟩ := z
    unfold txt
    rw [← e]
  refine ⟨ks, hz, ?_, hk⟩
  have := of_decide_eq_true h2
  rw [hz, txt_len] at this
  exact this
end Ps

/-! Pla: what several laws draw. -/
namespace Ps
open PySem PySem.Spec PyProof.Rows L2
local macro_rules | `(tactic| walk_at "s1") => `(tactic| first
  | (with_reducible refine w_seq ?_) | (with_reducible refine w_asg ?_) | (with_reducible refine w_op ?_) | (with_reducible refine w_c ?_)
  | ((with_reducible refine' w_var ?hx ?_); (case hx => exact rfl))
  | (with_reducible refine w_gname ?_) | (with_reducible refine w_cons ?_) | (with_reducible refine w_nil ?_) | (with_reducible refine w_cb ?_) | (with_reducible refine w_call ?_)
  | (with_reducible refine w_ret ?_) | (with_reducible refine w_drop ?_) | (with_reducible refine w_ifs ?_) | (with_reducible refine w_test ?_) | (with_reducible refine w_next ?_)
  | (with_reducible refine w_addI ?_) | (with_reducible refine w_subI ?_) | (with_reducible refine w_negI ?_) | (with_reducible refine w_eqI ?_) | (with_reducible refine w_neI ?_) | (with_reducible refine w_ltI ?_) | (with_reducible refine w_leI ?_)
  | (with_reducible refine w_gtI ?_) | (with_reducible refine w_geI ?_) | (with_reducible refine w_isNn ?_) | (with_reducible refine w_isNi ?_) | (with_reducible refine w_isNs ?_) | (with_reducible refine w_isNr ?_) | (with_reducible refine w_ntNn ?_) | (with_reducible refine w_ntNi ?_) | (with_reducible refine w_ntNs ?_) | (with_reducible refine w_ntNr ?_) | (with_reducible refine w_isN ?_) | (with_reducible refine w_notN ?_) | (with_reducible refine w_ipaI ?_) | (with_reducible refine w_eqS ?_) | (with_reducible refine w_neS ?_)
  | (with_reducible refine w_blE ?_) | (with_reducible refine w_truB ?_) | (with_reducible refine w_intI ?_) | (with_reducible refine w_intB ?_)
  | (with_reducible refine w_bm ?_) | (with_reducible refine w_bm0 ?_) | (with_reducible refine w_lst ?_) | (with_reducible refine w_tup ?_) | (with_reducible refine w_un ?_) | (with_reducible refine w_sl ?_) | (with_reducible refine w_nopart ?_) | (with_reducible refine w_part ?_) | (with_reducible refine w_partI ?_)
  | (with_reducible refine w_gsub ?_) | (with_reducible refine w_gcons ?_) | (with_reducible refine w_gnil ?_) | (with_reducible refine w_and ?_) | (with_reducible refine w_or ?_) | (with_reducible refine w_not ?_) | (with_reducible refine w_tru ?_) | (with_reducible refine w_yes ?_)
  | (with_reducible refine w_andV ?_) | (with_reducible refine w_orV ?_) | (with_reducible refine w_notV ?_) | (with_reducible refine w_tif ?_) | (with_reducible refine w_callS ?_) | (with_reducible refine w_for ?_)
  | (with_reducible refine w_par ?_) | (with_reducible refine w_par2 ?_) | (with_reducible refine w_retN ?_) | (with_reducible refine w_brk ?_) | (with_reducible refine w_cont ?_)
  | ((with_reducible refine' w_aug ?hx ?_); (case hx => exact rfl)) | (with_reducible refine w_ipsI ?_)
  | (with_reducible refine w_is_int_dict ?_) | (with_reducible refine w_is_int_list ?_) | (with_reducible refine w_is_int_tuple ?_) | (with_reducible refine w_is_int_str ?_) | (with_reducible refine w_is_int_int ?_) | (with_reducible refine w_is_int_bool ?_) | (with_reducible refine w_is_bool_dict ?_) | (with_reducible refine w_is_bool_list ?_) | (with_reducible refine w_is_bool_tuple ?_) | (with_reducible refine w_is_bool_str ?_) | (with_reducible refine w_is_bool_int ?_) | (with_reducible refine w_is_bool_bool ?_) | (with_reducible refine w_is_str_dict ?_) | (with_reducible refine w_is_str_list ?_) | (with_reducible refine w_is_str_tuple ?_) | (with_reducible refine w_is_str_str ?_) | (with_reducible refine w_is_str_int ?_) | (with_reducible refine w_is_str_bool ?_)
  | (with_reducible refine w_ifT ?_) | (with_reducible refine w_ifF ?_) | (with_reducible refine w_ifNF ?_) | (with_reducible refine w_ifNT ?_)
  | (with_reducible refine w_tys ?_) | (with_reducible refine w_chain ?_) | (with_reducible refine w_ost ?_) | (with_reducible refine w_vei ?_) | (with_reducible refine w_rzO ?_) | (with_reducible refine w_fld ?_) | (with_reducible refine w_sfld ?_) | (with_reducible refine w_afld ?_) | (with_reducible refine w_meth ?_) | (with_reducible refine w_make ?_) | (with_reducible refine w_rz ?_) | (with_reducible refine w_rAdd ?_) | (with_reducible refine w_rSub ?_) | (with_reducible refine w_max2 ?_) | (with_reducible refine w_lc ?_) | (with_reducible refine w_zip ?_) | (with_reducible refine w_seqv ?_) | (with_reducible refine w_rng1 ?_) | (with_reducible refine w_rng2 ?_) | (with_reducible refine w_rng3 ?_) | (with_reducible refine w_enum ?_) | (with_reducible refine w_rev ?_))
local macro_rules | `(tactic| walk_at "go") => `(tactic| repeat (walk_at "s1"))
/- _law_number: 0 _law_state, 1 _law_way, 2 _law_number_here -/
def t_number (K : PySem.W.Frag) (s_take_ : Sp) : TS :=
      (tSeq (tAsg (tCall s_take_ [] E0 (tCons (tVar 0) (tCons (tC (.int 6)) tNil))) (gName 1))
      (tSeq (tAsg (tCall s_take_ [] E0 (tCons (tVar 0) (tCons (tC (.int 12)) tNil))) (gName 2))
      (tSeq (tIfS (tTest (tOp (rEqU K) (tVar 1) (tC (.int 1))))
      (tAsg (tOp (rIxU K) (tLst (tCons (tC (.int 0)) (tCons (tC (.int 1)) (tCons (tC (.int 63)) (tCons (tC (.int 64)) (tCons (tC (.int 127)) (tCons (tC (.int 128)) (tCons (tC (.int 8191)) (tCons (tC (.int 8192)) (tCons (tOp (rSubU) (tOp (rPowU) (tC (.int 10)) (tC (.int 18))) (tC (.int 1))) (tCons (tOp (rPowU) (tC (.int 10)) (tC (.int 17))) (tCons (tC (.int 255)) (tCons (tC (.int 256)) tNil))))))))))))) (tVar 2)) (gName 2))
      tNext)
      (tSeq (tIfS (tTest (tOp (rEqU K) (tVar 1) (tC (.int 2))))
      (tAsg (tOp (rAddU K) (tOp (rMulU) (tCall s_take_ [] E0 (tCons (tVar 0) (tCons (tOp (rPowU) (tC (.int 10)) (tC (.int 9))) tNil))) (tOp (rPowU) (tC (.int 10)) (tC (.int 9)))) (tCall s_take_ [] E0 (tCons (tVar 0) (tCons (tOp (rPowU) (tC (.int 10)) (tC (.int 9))) tNil)))) (gName 2))
      tNext)
      (tSeq (tIfS (tTest (tOp (rEqU K) (tVar 1) (tC (.int 3))))
      (tAsg (tCall s_take_ [] E0 (tCons (tVar 0) (tCons (tC (.int 2000)) tNil))) (gName 2))
      tNext)
      (tRet (tOp (rMulU) (tVar 2) (tOp (rIxU K) (tLst (tCons (tC (.int 1)) (tCons (tUn rNeg (tC (.int 1))) tNil))) (tCall s_take_ [] E0 (tCons (tVar 0) (tCons (tC (.int 2)) tNil)))))))))))
abbrev N_number : List Str := [("_law_state" : Str), ("_law_way" : Str), ("_law_number_here" : Str)]

/- _law_noise: 0 _law_state, 1 _law_many, 2 _law_made, 3 _law_k, 4 _law_some -/
def t_noise (K : PySem.W.Frag) (s_take_ : Sp) : TS :=
      (tSeq (tAsg (tLst tNil) (gName 2))
      (tSeq (tFor (iRng1 (tCons (tVar 1) tNil)) (gName 3)
      (tSeq (tAsg (tLst (tCons (tCall s_take_ [] E0 (tCons (tVar 0) (tCons (tC (.int 256)) tNil))) (tCons (tCall s_take_ [] E0 (tCons (tVar 0) (tCons (tC (.int 3)) tNil))) (tCons (tOp (rAddU K) (tC (.int 127)) (tCall s_take_ [] E0 (tCons (tVar 0) (tCons (tC (.int 2)) tNil)))) tNil)))) (gName 4))
      (tDrop (tBM K "list" (rAppend) (tVar 2) (tCons (tOp (rIxU K) (tVar 4) (tCall s_take_ [] E0 (tCons (tVar 0) (tCons (tC (.int 3)) tNil)))) tNil)))))
      (tRet (tVar 2))))
abbrev N_noise : List Str := [("_law_state" : Str), ("_law_many" : Str), ("_law_made" : Str), ("_law_k" : Str), ("_law_some" : Str)]

theorem okD_intsT (n : Nat) (ns : List Int) (h : ns.length ≤ 16777216) : okD (n + 2) (.tuple (ns.map PyData.int)) = true := by
  simp only [okD, Bool.and_eq_true, decide_eq_true_eq, List.length_map]
  refine ⟨h, List.all_eq_true.mpr fun d hd => ?_⟩
  obtain ⟨z, _, rfl⟩ := List.mem_map.mp hd
  rfl
/-- a drawn number -/
def spNumber : Sp := fun vs H Q _ => ∃ (m : Nat) (a : Addr) (R : List (Addr × HO)) (G : Hp), vs = [.ref a] ∧ LW (m + 8) a R G H ∧
  ∀ (n : Int) (H' : Hp), LW m a R G H' → n.natAbs < 10 ^ 18 → Q (.int n) H'
theorem pure_number {K : PySem.W.Frag} (vs : List V) (H : Hp) (Q : VK) (E : XK) (h : spNumber vs H Q E) : t_number K spTake { nx := fun _ H' => Q .non H', rt := Q } (start N_number vs) H := by
  obtain ⟨m, a, R, G, rfl, w, k⟩ := h
  unfold t_number
  walk_at "go"
  refine w_take w (by decide) (by decide) fun way H1 w hw0 hw1 => ?_
  walk_at "go"
  refine w_take w (by decide) (by decide) fun z1 H2 w h1 h2 => ?_
  walk_at "go"
  refine w_ifO fun P1 p1 => ?_
  have f1 : ∀ (n : Int) (H : Hp), LW (m + 6) a R G H → n.natAbs < 10 ^ 18 → P1 [some (.ref a), some (.int way), some (.int n)] H := by
    intro n H w hn
    refine p1 _ _ ?_
    walk_at "go"
    refine w_ifO fun P2 p2 => ?_
    have f2 : ∀ (n : Int) (H : Hp), LW (m + 4) a R G H → n.natAbs < 10 ^ 18 → P2 [some (.ref a), some (.int way), some (.int n)] H := by
      intro n H w hn
      refine p2 _ _ ?_
      walk_at "go"
      refine w_ifO fun P3 p3 => ?_
      have f3 : ∀ (n : Int) (H : Hp), LW (m + 3) a R G H → n.natAbs < 10 ^ 18 → P3 [some (.ref a), some (.int way), some (.int n)] H := by
        intro n H w hn
        refine p3 _ _ ?_
        walk_at "go"
        refine ⟨by show 2 ≤ sizeLine; decide, fun p hp => ?_⟩
        have w := w.mk (o := .lst [.int 1, .int (-1)]) hp
        walk_at "go"
        refine w_take w (by decide) (by decide) fun z H3 w h3 h4 => ?_
        obtain ⟨s, hm, em⟩ := at_lit [1, -1] h3 h4
        refine w_ixL (SqL.of w.hd) em ?_
        simp at hm
        refine w_mulI (.inr ⟨by omega, by omega⟩) ?_
        refine k _ _ (w.drop.le (by omega)) ?_
        rcases hm with rfl | rfl <;> omega
      refine w_ifd (fun c => ?_) (fun c => ?_)
      · walk_at "go"
        refine w_take w (by decide) (by decide) fun z3 H3 w h3 h4 => ?_
        walk_at "go"
        exact f3 _ _ w (by omega)
      · exact f3 _ _ (w.le (by omega)) hn
    refine w_ifd (fun c => ?_) (fun c => ?_)
    · walk_at "go"
      refine w_powI ⟨by decide, by decide, by decide⟩ ?_
      rw [show (10 : Int) ^ (9 : Int).toNat = 1000000000 from rfl]
      walk_at "go"
      refine w_take w (by decide) (by decide) fun z3 H3 w h3 h4 => ?_
      walk_at "go"
      refine w_powI ⟨by decide, by decide, by decide⟩ ?_
      rw [show (10 : Int) ^ (9 : Int).toNat = 1000000000 from rfl]
      refine w_mulI (.inr ⟨by decide, by decide⟩) ?_
      walk_at "go"
      refine w_powI ⟨by decide, by decide, by decide⟩ ?_
      rw [show (10 : Int) ^ (9 : Int).toNat = 1000000000 from rfl]
      walk_at "go"
      refine w_take w (by decide) (by decide) fun z4 H4 w h5 h6 => ?_
      walk_at "go"
      exact f2 _ _ w (by omega)
    · exact f2 _ _ (w.le (by omega)) hn
  refine w_ifd (fun c => ?_) (fun c => ?_)
  · walk_at "go"
    refine w_powI ⟨by decide, by decide, by decide⟩ ?_
    walk_at "go"
    refine w_powI ⟨by decide, by decide, by decide⟩ ?_
    rw [show (10 : Int) ^ (17 : Int).toNat = 100000000000000000 from rfl, show (10 : Int) ^ (18 : Int).toNat = 1000000000000000000 from rfl]
    walk_at "go"
    refine ⟨by show 12 ≤ sizeLine; decide, fun p hp => ?_⟩
    have w := w.mk (o := .lst [.int 0, .int 1, .int 63, .int 64, .int 127, .int 128, .int 8191, .int 8192, .int (1000000000000000000 - 1), .int 100000000000000000, .int 255, .int 256]) hp
    walk_at "go"
    obtain ⟨s, hm, em⟩ := at_lit [0, 1, 63, 64, 127, 128, 8191, 8192, 1000000000000000000 - 1, 100000000000000000, 255, 256] h1 h2
    refine w_ixL (SqL.of w.hd) em ?_
    have hs : s.natAbs < 10 ^ 18 := by
      simp at hm
      omega
    walk_at "go"
    exact f1 _ _ w.drop hs
  · exact f1 _ _ w (by omega)
theorem abs_mul {i j : Int} {b c : Nat} (h1 : i.natAbs < b) (h2 : j.natAbs < c) : (i * j).natAbs < b * c := by
  rw [Int.natAbs_mul]
  exact Nat.mul_lt_mul'' h1 h2
def spNoise : Sp := fun vs H Q _ => ∃ (m : Nat) (a : Addr) (R : List (Addr × HO)) (G : Hp) (n : Nat), vs = [.ref a, .int n] ∧ n ≤ 10000 ∧ LW (m + 4 * n) a R G H ∧
  ∀ (p : Addr) (ns : List Int) (H' : Hp), LW m a ((p, .lst (ns.map V.int)) :: R) G H' → ns.length = n → (∀ b ∈ ns, 0 ≤ b ∧ b < 256) → Q (.ref p) H'
theorem pure_noise {K : PySem.W.Frag} (vs : List V) (H : Hp) (Q : VK) (E : XK) (h : spNoise vs H Q E) : t_noise K spTake { nx := fun _ H' => Q .non H', rt := Q } (start N_noise vs) H := by
  obtain ⟨m, a, R, G, n, rfl, hn, w, k⟩ := h
  unfold t_noise
  walk_at "go"
  refine ⟨Nat.zero_le _, fun p hp => ?_⟩
  walk_at "go"
  refine w_rg (by omega) fun J hJ => ?_
  refine for_it hJ (fun i σ H' => ∃ (v3 v4 : Option V) (ns : List Int), σ = [some (.ref a), some (.int n), some (.ref p), v3, v4] ∧ LW (m + 4 * (n - i)) a ((p, .lst (ns.map V.int)) :: R) G H' ∧ ns.length = i ∧ ∀ b ∈ ns, 0 ≤ b ∧ b < 256)
    ⟨none, none, [], rfl, w.mk hp, rfl, by simp⟩ (fun _ _ _ _ _ => trivial) (fun i x σ Hi H' hi q y => ?_) (fun σ H2 q => ?_)
  · obtain ⟨v3, v4, ns, rfl, w, hl, hb⟩ := q
    obtain ⟨rfl, rfl⟩ := y
    walk_at "go"
    refine w_take (m := m + 4 * (n - (i + 1)) + 3) (w.le (by omega)) (by decide) (by decide) fun z1 H4 w h1 h2 => ?_
    walk_at "go"
    refine w_take w (by decide) (by decide) fun z2 H4 w h3 h4 => ?_
    walk_at "go"
    refine w_take w (by decide) (by decide) fun z3 H4 w h5 h6 => ?_
    walk_at "go"
    refine ⟨by show 3 ≤ sizeLine; decide, fun q hq => ?_⟩
    have w := w.mk (o := .lst [.int z1, .int z2, .int (127 + z3)]) hq
    walk_at "go"
    refine w_tyl w.sd ?_
    walk_at "go"
    refine w_take w (by decide) (by decide) fun z H4 w h7 h8 => ?_
    obtain ⟨s, hm, em⟩ := at_lit [z1, z2, 127 + z3] h7 h8
    refine w_ixL (SqL.of w.hd) em ?_
    have w := w.drop
    simp at hm
    walk_at "go"
    refine w_app w.hd (by rw [List.length_map]; exact sz_lt (by omega)) ?_
    have w := w.put (o' := .lst (ns.map V.int ++ [.int s]))
    refine ⟨_, _, ns ++ [s], rfl, by rw [List.map_append]; exact w, by simp [hl], fun b h => ?_⟩
    rcases List.mem_append.mp h with h | h
    · exact hb b h
    · simp at h; omega
  · obtain ⟨v3, v4, ns, rfl, w, hl, hb⟩ := q
    walk_at "go"
    exact k _ _ _ (w.le (by omega)) hl hb
end Ps

/-! Ptb: texts and cells as bytes, the program. -/
namespace Ps
open PySem PySem.Spec PyProof.Rows L2
local macro_rules | `(tactic| walk_at "s1") => `(tactic| first
  | (with_reducible refine w_seq ?_) | (with_reducible refine w_asg ?_) | (with_reducible refine w_op ?_) | (with_reducible refine w_c ?_)
  | ((with_reducible refine' w_var ?hx ?_); (case hx => exact rfl))
  | (with_reducible refine w_gname ?_) | (with_reducible refine w_cons ?_) | (with_reducible refine w_nil ?_) | (with_reducible refine w_cb ?_) | (with_reducible refine w_call ?_)
  | (with_reducible refine w_ret ?_) | (with_reducible refine w_drop ?_) | (with_reducible refine w_ifs ?_) | (with_reducible refine w_test ?_) | (with_reducible refine w_next ?_)
  | (with_reducible refine w_addI ?_) | (with_reducible refine w_subI ?_) | (with_reducible refine w_negI ?_) | (with_reducible refine w_eqI ?_) | (with_reducible refine w_neI ?_) | (with_reducible refine w_ltI ?_) | (with_reducible refine w_leI ?_)
  | (with_reducible refine w_gtI ?_) | (with_reducible refine w_geI ?_) | (with_reducible refine w_isNn ?_) | (with_reducible refine w_isNi ?_) | (with_reducible refine w_isNs ?_) | (with_reducible refine w_isNr ?_) | (with_reducible refine w_ntNn ?_) | (with_reducible refine w_ntNi ?_) | (with_reducible refine w_ntNs ?_) | (with_reducible refine w_ntNr ?_) | (with_reducible refine w_isN ?_) | (with_reducible refine w_notN ?_) | (with_reducible refine w_ipaI ?_) | (with_reducible refine w_eqS ?_) | (with_reducible refine w_neS ?_)
  | (with_reducible refine w_blE ?_) | (with_reducible refine w_truB ?_) | (with_reducible refine w_intI ?_) | (with_reducible refine w_intB ?_)
  | (with_reducible refine w_bm ?_) | (with_reducible refine w_bm0 ?_) | (with_reducible refine w_lst ?_) | (with_reducible refine w_tup ?_) | (with_reducible refine w_un ?_) | (with_reducible refine w_sl ?_) | (with_reducible refine w_nopart ?_) | (with_reducible refine w_part ?_) | (with_reducible refine w_partI ?_)
  | (with_reducible refine w_gsub ?_) | (with_reducible refine w_gcons ?_) | (with_reducible refine w_gnil ?_) | (with_reducible refine w_and ?_) | (with_reducible refine w_or ?_) | (with_reducible refine w_not ?_) | (with_reducible refine w_tru ?_) | (with_reducible refine w_yes ?_)
  | (with_reducible refine w_andV ?_) | (with_reducible refine w_orV ?_) | (with_reducible refine w_notV ?_) | (with_reducible refine w_tif ?_) | (with_reducible refine w_callS ?_) | (with_reducible refine w_for ?_)
  | (with_reducible refine w_par ?_) | (with_reducible refine w_par2 ?_) | (with_reducible refine w_retN ?_) | (with_reducible refine w_brk ?_) | (with_reducible refine w_cont ?_)
  | ((with_reducible refine' w_aug ?hx ?_); (case hx => exact rfl)) | (with_reducible refine w_ipsI ?_)
  | (with_reducible refine w_is_int_dict ?_) | (with_reducible refine w_is_int_list ?_) | (with_reducible refine w_is_int_tuple ?_) | (with_reducible refine w_is_int_str ?_) | (with_reducible refine w_is_int_int ?_) | (with_reducible refine w_is_int_bool ?_) | (with_reducible refine w_is_bool_dict ?_) | (with_reducible refine w_is_bool_list ?_) | (with_reducible refine w_is_bool_tuple ?_) | (with_reducible refine w_is_bool_str ?_) | (with_reducible refine w_is_bool_int ?_) | (with_reducible refine w_is_bool_bool ?_) | (with_reducible refine w_is_str_dict ?_) | (with_reducible refine w_is_str_list ?_) | (with_reducible refine w_is_str_tuple ?_) | (with_reducible refine w_is_str_str ?_) | (with_reducible refine w_is_str_int ?_) | (with_reducible refine w_is_str_bool ?_)
  | (with_reducible refine w_ifT ?_) | (with_reducible refine w_ifF ?_) | (with_reducible refine w_ifNF ?_) | (with_reducible refine w_ifNT ?_)
  | (with_reducible refine w_tys ?_) | (with_reducible refine w_chain ?_) | (with_reducible refine w_ost ?_) | (with_reducible refine w_vei ?_) | (with_reducible refine w_rzO ?_) | (with_reducible refine w_fld ?_) | (with_reducible refine w_sfld ?_) | (with_reducible refine w_afld ?_) | (with_reducible refine w_meth ?_) | (with_reducible refine w_make ?_) | (with_reducible refine w_rz ?_) | (with_reducible refine w_rAdd ?_) | (with_reducible refine w_rSub ?_) | (with_reducible refine w_max2 ?_) | (with_reducible refine w_lc ?_) | (with_reducible refine w_zip ?_) | (with_reducible refine w_seqv ?_) | (with_reducible refine w_rng1 ?_) | (with_reducible refine w_rng2 ?_) | (with_reducible refine w_rng3 ?_) | (with_reducible refine w_enum ?_) | (with_reducible refine w_rev ?_))
local macro_rules | `(tactic| walk_at "go") => `(tactic| repeat (walk_at "s1"))
/- text_bytes: 0 text, 1 sign -/
def t_text_bytes (K : PySem.W.Frag) (s_number_bytes_ : Sp) : TS :=
      (tRet (tOp (rAddU K) (tCall s_number_bytes_ [] E0 (tCons (tCB (rLenU K) (tCons (tVar 0) tNil)) tNil)) (tLc (iSeqV K (tVar 0)) (gName 1) tYes (tBM K "str" (rSIdx) (tC (.str (" !\"#$&'()*+,-./0123456789:;<=>?@ABCDEFGHIJKLMNOPQRSTUVWXYZ[\\]^_`abcdefghijklmnopqrstuvwxyz{|}~" : Str))) (tCons (tVar 1) tNil)) [1])))
abbrev N_text_bytes : List Str := [("text" : Str), ("sign" : Str)]

/- cell_bytes: 0 cell -/
def t_cell_bytes (K : PySem.W.Frag) (s_text_bytes_ : Sp) (s_number_bytes_ : Sp) : TS :=
      (tSeq (tIfS (tTest (tOp (rIsN) (tVar 0) (tC .non)))
      (tRet (tLst (tCons (tC (.int 0)) tNil)))
      tNext)
      (tSeq (tIfS (tTru K (tCB (rIsiU K) (tCons (tVar 0) (tCons (tC (.ty "str")) tNil))))
      (tRet (tOp (rAddU K) (tLst (tCons (tC (.int 2)) tNil)) (tCall s_text_bytes_ [] E0 (tCons (tVar 0) tNil))))
      tNext)
      (tRet (tOp (rAddU K) (tLst (tCons (tC (.int 1)) tNil)) (tCall s_number_bytes_ [] E0 (tCons (tVar 0) tNil))))))
abbrev N_cell_bytes : List Str := [("cell" : Str)]

/- take_text: 0 row, 1 at, 2 many, 3 text, 4 turn, 5 byte -/
def t_take_text (K : PySem.W.Frag) (s_take_number_ : Sp) (s_byte_at_ : Sp) (s_BadBytes_init_ : Sp) (c_BadBytes : Addr) (E : XK) : TS :=
      (tSeq (tAsg (tCallS s_take_number_ (WE (fun c d _ H => E c d H)) (tCons (tVar 0) (tCons (tVar 1) tNil))) (gTup K 2 (gCons (gName 2) (gCons (gName 1) gNil))))
      (tSeq (tIfS (tNot (tTest (tChain (rLeU) (rLeU) (tC (.int 0)) (tVar 2) (tC (.int 20)))))
      (tRzO (fun c d _ H => E c d H) c_BadBytes s_BadBytes_init_ (tCons (tC (.str ("count" : Str))) tNil))
      tNext)
      (tSeq (tAsg (tC (.str ("" : Str))) (gName 3))
      (tSeq (tFor (iRng1 (tCons (tVar 2) tNil)) (gName 4)
      (tSeq (tAsg (tCallS s_byte_at_ (WE (fun c d _ H => E c d H)) (tCons (tVar 0) (tCons (tOp (rAddU K) (tVar 1) (tVar 4)) tNil))) (gName 5))
      (tSeq (tIfS (tNot (tTest (tChain (rLeU) (rLtU K) (tC (.int 0)) (tVar 5) (tCB (rLenU K) (tCons (tC (.str (" !\"#$&'()*+,-./0123456789:;<=>?@ABCDEFGHIJKLMNOPQRSTUVWXYZ[\\]^_`abcdefghijklmnopqrstuvwxyz{|}~" : Str))) tNil)))))
      (tRzO (fun c d _ H => E c d H) c_BadBytes s_BadBytes_init_ (tCons (tC (.str ("sign" : Str))) tNil))
      tNext)
      (tAug 3 (tOp (rIxU K) (tC (.str (" !\"#$&'()*+,-./0123456789:;<=>?@ABCDEFGHIJKLMNOPQRSTUVWXYZ[\\]^_`abcdefghijklmnopqrstuvwxyz{|}~" : Str))) (tVar 5)) (ipAddU K)))))
      (tRet (tTup (tCons (tVar 3) (tCons (tOp (rAddU K) (tVar 1) (tVar 2)) tNil))))))))
abbrev N_take_text : List Str := [("row" : Str), ("at" : Str), ("many" : Str), ("text" : Str), ("turn" : Str), ("byte" : Str)]

/- take_cell: 0 row, 1 at, 2 kind -/
def t_take_cell (K : PySem.W.Frag) (s_byte_at_ : Sp) (s_take_number_ : Sp) (s_take_text_ : Sp) (s_BadBytes_init_ : Sp) (c_BadBytes : Addr) (E : XK) : TS :=
      (tSeq (tAsg (tCallS s_byte_at_ (WE (fun c d _ H => E c d H)) (tCons (tVar 0) (tCons (tVar 1) tNil))) (gName 2))
      (tSeq (tIfS (tTest (tOp (rEqU K) (tVar 2) (tC (.int 0))))
      (tRet (tTup (tCons (tC .non) (tCons (tOp (rAddU K) (tVar 1) (tC (.int 1))) tNil))))
      tNext)
      (tSeq (tIfS (tTest (tOp (rEqU K) (tVar 2) (tC (.int 1))))
      (tRet (tCallS s_take_number_ (WE (fun c d _ H => E c d H)) (tCons (tVar 0) (tCons (tOp (rAddU K) (tVar 1) (tC (.int 1))) tNil))))
      tNext)
      (tSeq (tIfS (tTest (tOp (rEqU K) (tVar 2) (tC (.int 2))))
      (tRet (tCallS s_take_text_ (WE (fun c d _ H => E c d H)) (tCons (tVar 0) (tCons (tOp (rAddU K) (tVar 1) (tC (.int 1))) tNil))))
      tNext)
      (tRzO (fun c d _ H => E c d H) c_BadBytes s_BadBytes_init_ (tCons (tC (.str ("kind" : Str))) tNil))))))
abbrev N_take_cell : List Str := [("row" : Str), ("at" : Str), ("kind" : Str)]

/-- a cell -/
inductive Cel where
  | non
  | num (z : Int)
  | txt (ks : List Nat)
def cv : Cel → V
  | .non => .non
  | .num z => .int z
  | .txt ks => .str (txt ks)
def tb (ks : List Nat) : List Int := nb ks.length ++ ins ks
def cb : Cel → List Int
  | .non => [0]
  | .num z => 1 :: nb z
  | .txt ks => 2 :: tb ks
def okC : Cel → Prop
  | .non => True
  | .num z => z.natAbs < 2 ^ 200
  | .txt ks => ks.length ≤ 1000 ∧ ∀ k ∈ ks, k < 94
def spTb : Sp := fun vs H Q _ => ∃ ks : List Nat, vs = [.str (txt ks)] ∧ ks.length ≤ 1000 ∧ (∀ k ∈ ks, k < 94) ∧ ∀ p H', Same H H' → H p = none → H' p = some (.lst ((tb ks).map V.int)) → Q (.ref p) H'
theorem pure_text_bytes {K : PySem.W.Frag} (vs : List V) (H : Hp) (Q : VK) (E : XK) (h : spTb vs H Q E) : t_text_bytes K spNb { nx := fun _ H' => Q .non H', rt := Q } (start N_text_bytes vs) H := by
  obtain ⟨ks, rfl, hl, hk, k⟩ := h
  unfold t_text_bytes
  walk_at "go"
  refine w_lenS (by rw [txt_len]; exact sz_le (by omega)) ?_
  rw [txt_len]
  walk_at "go"
  have hn : ((ks.length : Nat) : Int).natAbs < 2 ^ 200 := by
    rw [Int.natAbs_natCast]
    exact Nat.lt_of_le_of_lt hl (by decide)
  have hlen := nb_len hn
  refine ⟨ks.length, rfl, hn, fun p H1 s1 hp e1 => ?_⟩
  walk_at "go"
  refine w_itS ?_
  intro D hD
  have hsz : (txt ks).cps.size = ks.length := by show (txt ks).length = _; exact txt_len ks
  refine lc_it walk_str (LcP H1 D ((ins ks).map V.int)) (lc_go hD) (fun i H' _ p => trivial) (fun i u Hi H' hi q y => ?_) (fun H2 q => ?_)
  · rw [hsz] at hi
    obtain ⟨rfl, c, ec, rfl⟩ := y
    obtain ⟨x, ex⟩ : ∃ x, ks[i]? = some x := ⟨_, List.getElem?_eq_getElem hi⟩
    have hx := hk x (List.mem_of_getElem? ex)
    have ecx : c = sg x := by
      have e2 : (txt ks).cps.toList[i]? = some c := by rw [← ec]; simp
      rw [txt_cps, List.getElem?_map, ex] at e2
      exact (Option.some.inj e2).symm
    subst ecx
    walk_at "go"
    refine ⟨rfl, ?_⟩
    walk_at "go"
    refine w_sidx (sg_occ ⟨x, hx⟩) ?_
    exact lc_fin hD q (Same.refl _) (at_int (by unfold ins; rw [List.getElem?_map, ex]; rfl)) (by omega)
  · rw [hsz] at q
    have e2 := lc_end q (by rw [List.length_map, ins_len]; exact Nat.le_refl _)
    refine w_addL (q.1 _ _ e1) e2 (by rw [List.length_map, List.length_map, ins_len]; exact sz_le (by omega)) fun p2 hp2 => ?_
    rw [← List.map_append]
    exact k _ _ (s1.trans (q.1.trans (same_new hp2))) ((s1.trans q.1).free hp2) upd_same
def spCb : Sp := fun vs H Q _ => ∃ c : Cel, vs = [cv c] ∧ okC c ∧ ∀ p H', Same H H' → H p = none → H' p = some (.lst ((cb c).map V.int)) → Q (.ref p) H'
theorem tb_len {ks : List Nat} (h : ks.length ≤ 1000) : (tb ks).length ≤ 1030 := by
  unfold tb
  rw [List.length_append, ins_len]
  have := nb_len (n := (ks.length : Int)) (by rw [Int.natAbs_natCast]; exact Nat.lt_of_le_of_lt h (by decide))
  omega
theorem pure_cell_bytes {K : PySem.W.Frag} (vs : List V) (H : Hp) (Q : VK) (E : XK) (h : spCb vs H Q E) : t_cell_bytes K spTb spNb { nx := fun _ H' => Q .non H', rt := Q } (start N_cell_bytes vs) H := by
  obtain ⟨c, rfl, hc, k⟩ := h
  unfold t_cell_bytes
  cases c with
  | non =>
    show (tSeq _ _ : TS) _ [some V.non] _
    walk_at "go"
    refine ⟨by show 1 ≤ sizeLine; decide, fun p hp => ?_⟩
    exact k _ _ (same_new hp) hp upd_same
  | num z =>
    show (tSeq _ _ : TS) _ [some (V.int z)] _
    walk_at "go"
    refine ⟨by show 1 ≤ sizeLine; decide, fun p hp => ?_⟩
    walk_at "go"
    refine ⟨z, rfl, hc, fun q H1 s1 hq e1 => ?_⟩
    have hl := nb_len hc
    refine w_addL (xs := [.int 1]) (s1 _ _ upd_same) e1 (by rw [List.length_map]; exact sz_le (by show 1 + _ ≤ _; omega)) fun p2 hp2 => ?_
    exact k _ _ ((same_new hp).trans (s1.trans (same_new hp2))) (((same_new hp).trans s1).free hp2) upd_same
  | txt ks =>
    show (tSeq _ _ : TS) _ [some (V.str (txt ks))] _
    walk_at "go"
    refine ⟨by show 1 ≤ sizeLine; decide, fun p hp => ?_⟩
    walk_at "go"
    refine ⟨ks, rfl, hc.1, hc.2, fun q H1 s1 hq e1 => ?_⟩
    have hl := tb_len hc.1
    refine w_addL (xs := [.int 2]) (s1 _ _ upd_same) e1 (by rw [List.length_map]; exact sz_le (by show 1 + _ ≤ _; omega)) fun p2 hp2 => ?_
    exact k _ _ ((same_new hp).trans (s1.trans (same_new hp2))) (((same_new hp).trans s1).free hp2) upd_same
/-- n signs are read from place j on -/
def tkS (xs : List Int) : Nat → Nat → List Nat → Rd (List Nat)
  | 0, j, acc => .got acc j
  | n + 1, j, acc => match xs[j]? with
    | none => .bad "short"
    | some b => if 0 ≤ b ∧ b < 94 then tkS xs n (j + 1) (acc ++ [b.toNat]) else .bad "sign"
theorem tkS_succ (xs : List Int) (n j : Nat) (acc : List Nat) : tkS xs (n + 1) j acc = match xs[j]? with
    | none => .bad "short"
    | some b => if 0 ≤ b ∧ b < 94 then tkS xs n (j + 1) (acc ++ [b.toNat]) else .bad "sign" := rfl
def takeT (xs : List Int) (j : Nat) : Rd (List Nat) := match takeN xs j with
  | .bad w => .bad w
  | .got n e => if 0 ≤ n ∧ n ≤ 20 then tkS xs n.toNat e [] else .bad "count"
def takeC (xs : List Int) (j : Nat) : Rd Cel := match xs[j]? with
  | none => .bad "short"
  | some b => if b = 0 then .got .non (j + 1) else
    if b = 1 then (match takeN xs (j + 1) with | .got n e => .got (.num n) e | .bad w => .bad w) else
    if b = 2 then (match takeT xs (j + 1) with | .got ks e => .got (.txt ks) e | .bad w => .bad w) else .bad "kind"
def spTakeT (K : PySem.W.Frag) (C : Addr) : Sp := fun vs H Q E => ∃ (a : Addr) (xs : List Int) (j : Nat), vs = [.ref a, .int j] ∧ Sq K H a (xs.map V.int) ∧ match takeT xs j with
  | .got ks e => ∀ p H', Same H H' → H p = none → H' p = some (.tup [.str (txt ks), .int e]) → Q (.ref p) H'
  | .bad w => Bad C w H E
theorem Bad.same' {C : Addr} {w : Str} {H H3 : Hp} {E : XK} (h : Bad C w H E) (s : Same H H3) : Bad C w H3 E := fun d H' s' hd e => h d H' (s.trans s') (s.free hd) e
theorem txt_snoc (ks : List Nat) (k : Nat) : txt ks ++ (⟨#[sg k]⟩ : Str) = txt (ks ++ [k]) := by
  show (⟨(ks.map sg).toArray ++ #[sg k]⟩ : Str) = ⟨((ks ++ [k]).map sg).toArray⟩
  rw [List.map_append]
  simp
theorem pure_take_text {K : PySem.W.Frag} {C : Addr} (vs : List V) (H : Hp) (Q : VK) (E : XK) (h : spTakeT K C vs H Q E) : t_take_text K (spTakeN K C) (spByte K C) (spBadI K C) C E { nx := fun _ H' => Q .non H', rt := Q } (start N_take_text vs) H := by
  obtain ⟨a, xs, j, rfl, ha, k⟩ := h
  unfold t_take_text
  walk_at "go"
  refine ⟨a, xs, j, rfl, ha, ?_⟩
  unfold takeT at k
  cases ht : takeN xs j with
  | bad w =>
    rw [ht] at k
    exact k
  | got n e =>
    rw [ht] at k
    have k : (match (if 0 ≤ n ∧ n ≤ 20 then tkS xs n.toNat e [] else .bad "count") with
      | .got ks e => ∀ p H', Same H H' → H p = none → H' p = some (.tup [.str (txt ks), .int e]) → Q (.ref p) H'
      | .bad w => Bad C w H E) := k
    intro p H1 s1 hp ep
    show gTup K 2 _ _ _ _ _
    refine w_gtup (SqT.of ep) rfl ?_
    walk_at "go"
    by_cases c1 : 0 ≤ n ∧ n ≤ 20
    · rw [if_pos c1] at k
      obtain ⟨m, rfl⟩ : ∃ m : Nat, n = (m : Int) := ⟨n.toNat, by omega⟩
      rw [Int.toNat_natCast] at k
      rw [show decide ((0 : Int) ≤ (m : Int)) = true from decide_eq_true c1.1]
      walk_at "go"
      rw [show decide ((m : Int) ≤ 20) = true from decide_eq_true c1.2]
      walk_at "go"
      refine w_rg (n := m) (by omega) fun J hJ => ?_
      refine for_it hJ (fun i σ H' => ∃ (v4 v5 : Option V) (ks : List Nat), σ = [some (.ref a), some (.int e), some (.int m), some (.str (txt ks)), v4, v5] ∧ H' = H1 ∧ ks.length = i ∧ tkS xs m e [] = tkS xs (m - i) (e + i) ks)
        ⟨none, none, [], rfl, rfl, rfl, rfl⟩ (fun _ _ _ _ _ => trivial) (fun i x σ Hi H' hi q y => ?_) (fun σ H2 q => ?_)
      · obtain ⟨v4, v5, ks, rfl, rfl, hks, hg⟩ := q
        obtain ⟨rfl, rfl⟩ := y
        obtain ⟨f, hf⟩ : ∃ f, m - i = f + 1 := ⟨m - i - 1, by omega⟩
        rw [hf, tkS_succ] at hg
        walk_at "go"
        refine ⟨a, xs, e + i, rfl, ha.same s1, ?_⟩
        cases hb : xs[e + i]? with
        | none =>
          rw [hb] at hg
          rw [show tkS xs m e [] = .bad "short" from hg] at k
          exact Bad.same' k s1
        | some b =>
          rw [hb] at hg
          have hg : tkS xs m e [] = (if 0 ≤ b ∧ b < 94 then tkS xs f (e + i + 1) (ks ++ [b.toNat]) else .bad "sign") := hg
          show (tSeq _ _ : TS) _ _ _
          walk_at "go"
          by_cases c2 : 0 ≤ b ∧ b < 94
          · rw [if_pos c2] at hg
            obtain ⟨c, rfl⟩ : ∃ c : Nat, b = (c : Int) := ⟨b.toNat, by omega⟩
            rw [show decide ((0 : Int) ≤ (c : Int)) = true from decide_eq_true c2.1]
            walk_at "go"
            refine w_lenS (z := signs) (by rw [signs_len]; exact sz_le (by decide)) ?_
            rw [signs_len]
            walk_at "go"
            rw [show decide ((c : Int) < ((94 : Nat) : Int)) = true from decide_eq_true (by omega)]
            walk_at "go"
            refine w_ixS (z := signs) (by rw [signs_len]; exact sz_le (by decide)) (atI_nat (sg_at (by omega))) ?_
            refine .inr ⟨_, _, rfl, rfl, ?_, ?_⟩
            · rw [txt_len]; exact sz_le (by show _ + 1 ≤ _; omega)
            · rw [txt_snoc]
              refine ⟨_, _, ks ++ [c], rfl, rfl, by rw [List.length_append, hks]; rfl, ?_⟩
              rw [show m - (i + 1) = f by omega]
              exact hg
          · rw [if_neg c2] at hg
            rw [hg] at k
            have k : Bad C "sign" H E := k
            refine w_ifd (fun c3 => ?_) (fun c3 => ?_)
            · walk_at "go"
              refine w_lenS (z := signs) (by rw [signs_len]; exact sz_le (by decide)) ?_
              rw [signs_len]
              walk_at "go"
              rw [show decide (b < ((94 : Nat) : Int)) = false from decide_eq_false (fun z => c2 ⟨c3, by omega⟩)]
              walk_at "go"
              exact w_badE (Bad.same' k s1)
            · walk_at "go"
              exact w_badE (Bad.same' k s1)
      · obtain ⟨v4, v5, ks, rfl, rfl, hks, hg⟩ := q
        rw [Nat.sub_self] at hg
        rw [show tkS xs m e [] = .got ks (e + m) from hg] at k
        walk_at "go"
        refine ⟨by show 2 ≤ sizeLine; decide, fun p2 hp2 => ?_⟩
        exact k _ _ (s1.trans (same_new hp2)) (s1.free hp2) upd_same
    · rw [if_neg c1] at k
      have k : Bad C "count" H E := k
      refine w_ifd (fun c3 => ?_) (fun c3 => ?_)
      · walk_at "go"
        rw [show decide (n ≤ 20) = false from decide_eq_false (fun z => c1 ⟨c3, z⟩)]
        walk_at "go"
        exact w_badE (Bad.same' k s1)
      · walk_at "go"
        exact w_badE (Bad.same' k s1)
def spTakeC (K : PySem.W.Frag) (C : Addr) : Sp := fun vs H Q E => ∃ (a : Addr) (xs : List Int) (j : Nat), vs = [.ref a, .int j] ∧ Sq K H a (xs.map V.int) ∧ match takeC xs j with
  | .got c e => ∀ p H', Same H H' → H p = none → H' p = some (.tup [cv c, .int e]) → Q (.ref p) H'
  | .bad w => Bad C w H E
theorem pure_take_cell {K : PySem.W.Frag} {C : Addr} (vs : List V) (H : Hp) (Q : VK) (E : XK) (h : spTakeC K C vs H Q E) : t_take_cell K (spByte K C) (spTakeN K C) (spTakeT K C) (spBadI K C) C E { nx := fun _ H' => Q .non H', rt := Q } (start N_take_cell vs) H := by
  obtain ⟨a, xs, j, rfl, ha, k⟩ := h
  unfold t_take_cell
  walk_at "go"
  refine ⟨a, xs, j, rfl, ha, ?_⟩
  unfold takeC at k
  cases hb : xs[j]? with
  | none =>
    rw [hb] at k
    exact k
  | some b =>
    rw [hb] at k
    show (tSeq _ _ : TS) _ _ _
    walk_at "go"
    refine w_ifd (fun c => ?_) (fun c0 => ?_)
    · have k : (match (if b = 0 then (.got .non (j + 1) : Rd Cel) else _) with | .got c e => _ | .bad w => _) := k
      rw [if_pos c] at k
      walk_at "go"
      refine ⟨by show 2 ≤ sizeLine; decide, fun p hp => ?_⟩
      exact k _ _ (same_new hp) hp upd_same
    walk_at "go"
    refine w_ifd (fun c => ?_) (fun c1 => ?_)
    · walk_at "go"
      refine ⟨a, xs, j + 1, rfl, ha, ?_⟩
      simp only [c0, c, if_false, if_true] at k
      cases ht : takeN xs (j + 1) with
      | got n e => rw [ht] at k; exact k
      | bad w => rw [ht] at k; exact k
    walk_at "go"
    refine w_ifd (fun c => ?_) (fun c2 => ?_)
    · walk_at "go"
      refine ⟨a, xs, j + 1, rfl, ha, ?_⟩
      simp only [c0, c1, c, if_false, if_true] at k
      cases ht : takeT xs (j + 1) with
      | got n e => rw [ht] at k; exact k
      | bad w => rw [ht] at k; exact k
    · simp only [c0, c1, c2, if_false] at k
      walk_at "go"
      exact w_badE k
/-! read back -/
theorem tkS_ins : ∀ (ks : List Nat) (xs A B : List Int) (j : Nat) (acc : List Nat), xs = A ++ ins ks ++ B → j = A.length → (∀ k ∈ ks, k < 94) → tkS xs ks.length j acc = .got (acc ++ ks) (j + ks.length)
  | [], xs, A, B, j, acc, _, _, _ => by rw [List.append_nil]; rfl
  | c :: r, xs, A, B, j, acc, e, ej, h => by
    have hc := h c List.mem_cons_self
    have q : xs[j]? = some (c : Int) := by subst e ej; simp [ins]
    rw [List.length_cons, tkS_succ, q]
    show (if 0 ≤ (c : Int) ∧ (c : Int) < 94 then _ else _) = _
    rw [if_pos ⟨by omega, by omega⟩, tkS_ins r xs (A ++ [(c : Int)]) B (j + 1) _ (by rw [e]; simp [ins]) (by rw [ej]; simp) fun k hk => h k (List.mem_cons_of_mem _ hk)]
    rw [Int.toNat_natCast, List.append_assoc]
    simp
    omega
theorem nb_small {n : Nat} (h : n < 64) : nb (n : Int) = [((2 * n : Nat) : Int)] := by
  unfold nb zz
  rw [if_neg (by omega)]
  have e : (2 * (n : Int)).toNat = 2 * n := by omega
  rw [e, sev_lt (by omega)]
theorem takeT_tb {A B : List Int} {ks : List Nat} (hl : ks.length ≤ 20) (hk : ∀ k ∈ ks, k < 94) : takeT (A ++ tb ks ++ B) A.length = .got ks (A.length + (tb ks).length) := by
  unfold takeT tb
  have e1 : A ++ (nb (ks.length : Int) ++ ins ks) ++ B = A ++ nb (ks.length : Int) ++ (ins ks ++ B) := by simp
  have h1 : (nb (ks.length : Int)).length = 1 := by rw [nb_small (by omega)]; rfl
  rw [e1, takeN_nb (by omega)]
  show (if 0 ≤ (ks.length : Int) ∧ (ks.length : Int) ≤ 20 then _ else _) = _
  rw [if_pos ⟨by omega, by omega⟩, Int.toNat_natCast, tkS_ins ks _ (A ++ nb (ks.length : Int)) B _ [] (by simp) (by rw [List.length_append]) hk, List.length_append, ins_len, List.nil_append, Nat.add_assoc]
theorem nb_nine {n : Int} (h : n.natAbs < 2 ^ 62) : (nb n).length ≤ 9 := by
  refine sev_len 8 _ ?_
  have : (2 : Nat) * 2 ^ 62 ≤ 128 ^ 9 := by decide
  unfold zz
  split <;> omega
/-- a cell that may be read back -/
def okR : Cel → Prop
  | .non => True
  | .num z => z.natAbs < 2 ^ 62
  | .txt ks => ks.length ≤ 20 ∧ ∀ k ∈ ks, k < 94
theorem takeC_cb {A B : List Int} {c : Cel} (h : okR c) : takeC (A ++ cb c ++ B) A.length = .got c (A.length + (cb c).length) := by
  have q : ∀ (b : Int) (r : List Int), (A ++ b :: r ++ B)[A.length]? = some b := fun b r => by simp
  unfold takeC
  cases c with
  | non =>
    show (match (A ++ [0] ++ B)[A.length]? with | none => _ | some b => _) = _
    rw [q]
    rfl
  | num z =>
    show (match (A ++ 1 :: nb z ++ B)[A.length]? with | none => _ | some b => _) = _
    rw [q]
    show (match takeN (A ++ 1 :: nb z ++ B) (A.length + 1) with | .got n e => (.got (.num n) e : Rd Cel) | .bad w => .bad w) = _
    rw [show A ++ 1 :: nb z ++ B = (A ++ [1]) ++ nb z ++ B by simp, show A.length + 1 = (A ++ [(1 : Int)]).length by simp, takeN_nb (nb_nine h)]
    show Rd.got (Cel.num z) _ = Rd.got (Cel.num z) (A.length + ((nb z).length + 1))
    rw [List.length_append, List.length_singleton]
    congr 1
    omega
  | txt ks =>
    show (match (A ++ 2 :: tb ks ++ B)[A.length]? with | none => _ | some b => _) = _
    rw [q]
    show (match takeT (A ++ 2 :: tb ks ++ B) (A.length + 1) with | .got n e => (.got (.txt n) e : Rd Cel) | .bad w => .bad w) = _
    rw [show A ++ 2 :: tb ks ++ B = (A ++ [2]) ++ tb ks ++ B by simp, show A.length + 1 = (A ++ [(2 : Int)]).length by simp, takeT_tb h.1 h.2]
    show Rd.got (Cel.txt ks) _ = Rd.got (Cel.txt ks) (A.length + ((tb ks).length + 1))
    rw [List.length_append, List.length_singleton]
    congr 1
    omega
end Ps

/-! Ptd: texts that several laws draw. -/
namespace Ps
open PySem PySem.Spec PyProof.Rows L2
local macro_rules | `(tactic| walk_at "s1") => `(tactic| first
  | (with_reducible refine w_seq ?_) | (with_reducible refine w_asg ?_) | (with_reducible refine w_op ?_) | (with_reducible refine w_c ?_)
  | ((with_reducible refine' w_var ?hx ?_); (case hx => exact rfl))
  | (with_reducible refine w_gname ?_) | (with_reducible refine w_cons ?_) | (with_reducible refine w_nil ?_) | (with_reducible refine w_cb ?_) | (with_reducible refine w_call ?_)
  | (with_reducible refine w_ret ?_) | (with_reducible refine w_drop ?_) | (with_reducible refine w_ifs ?_) | (with_reducible refine w_test ?_) | (with_reducible refine w_next ?_)
  | (with_reducible refine w_addI ?_) | (with_reducible refine w_subI ?_) | (with_reducible refine w_negI ?_) | (with_reducible refine w_eqI ?_) | (with_reducible refine w_neI ?_) | (with_reducible refine w_ltI ?_) | (with_reducible refine w_leI ?_)
  | (with_reducible refine w_gtI ?_) | (with_reducible refine w_geI ?_) | (with_reducible refine w_isNn ?_) | (with_reducible refine w_isNi ?_) | (with_reducible refine w_isNs ?_) | (with_reducible refine w_isNr ?_) | (with_reducible refine w_ntNn ?_) | (with_reducible refine w_ntNi ?_) | (with_reducible refine w_ntNs ?_) | (with_reducible refine w_ntNr ?_) | (with_reducible refine w_isN ?_) | (with_reducible refine w_notN ?_) | (with_reducible refine w_ipaI ?_) | (with_reducible refine w_eqS ?_) | (with_reducible refine w_neS ?_)
  | (with_reducible refine w_blE ?_) | (with_reducible refine w_truB ?_) | (with_reducible refine w_intI ?_) | (with_reducible refine w_intB ?_)
  | (with_reducible refine w_bm ?_) | (with_reducible refine w_bm0 ?_) | (with_reducible refine w_lst ?_) | (with_reducible refine w_tup ?_) | (with_reducible refine w_un ?_) | (with_reducible refine w_sl ?_) | (with_reducible refine w_nopart ?_) | (with_reducible refine w_part ?_) | (with_reducible refine w_partI ?_)
  | (with_reducible refine w_gsub ?_) | (with_reducible refine w_gcons ?_) | (with_reducible refine w_gnil ?_) | (with_reducible refine w_and ?_) | (with_reducible refine w_or ?_) | (with_reducible refine w_not ?_) | (with_reducible refine w_tru ?_) | (with_reducible refine w_yes ?_)
  | (with_reducible refine w_andV ?_) | (with_reducible refine w_orV ?_) | (with_reducible refine w_notV ?_) | (with_reducible refine w_tif ?_) | (with_reducible refine w_callS ?_) | (with_reducible refine w_for ?_)
  | (with_reducible refine w_par ?_) | (with_reducible refine w_par2 ?_) | (with_reducible refine w_retN ?_) | (with_reducible refine w_brk ?_) | (with_reducible refine w_cont ?_)
  | ((with_reducible refine' w_aug ?hx ?_); (case hx => exact rfl)) | (with_reducible refine w_ipsI ?_)
  | (with_reducible refine w_is_int_dict ?_) | (with_reducible refine w_is_int_list ?_) | (with_reducible refine w_is_int_tuple ?_) | (with_reducible refine w_is_int_str ?_) | (with_reducible refine w_is_int_int ?_) | (with_reducible refine w_is_int_bool ?_) | (with_reducible refine w_is_bool_dict ?_) | (with_reducible refine w_is_bool_list ?_) | (with_reducible refine w_is_bool_tuple ?_) | (with_reducible refine w_is_bool_str ?_) | (with_reducible refine w_is_bool_int ?_) | (with_reducible refine w_is_bool_bool ?_) | (with_reducible refine w_is_str_dict ?_) | (with_reducible refine w_is_str_list ?_) | (with_reducible refine w_is_str_tuple ?_) | (with_reducible refine w_is_str_str ?_) | (with_reducible refine w_is_str_int ?_) | (with_reducible refine w_is_str_bool ?_)
  | (with_reducible refine w_ifT ?_) | (with_reducible refine w_ifF ?_) | (with_reducible refine w_ifNF ?_) | (with_reducible refine w_ifNT ?_)
  | (with_reducible refine w_tys ?_) | (with_reducible refine w_chain ?_) | (with_reducible refine w_ost ?_) | (with_reducible refine w_vei ?_) | (with_reducible refine w_rzO ?_) | (with_reducible refine w_fld ?_) | (with_reducible refine w_sfld ?_) | (with_reducible refine w_afld ?_) | (with_reducible refine w_meth ?_) | (with_reducible refine w_make ?_) | (with_reducible refine w_rz ?_) | (with_reducible refine w_rAdd ?_) | (with_reducible refine w_rSub ?_) | (with_reducible refine w_max2 ?_) | (with_reducible refine w_lc ?_) | (with_reducible refine w_zip ?_) | (with_reducible refine w_seqv ?_) | (with_reducible refine w_rng1 ?_) | (with_reducible refine w_rng2 ?_) | (with_reducible refine w_rng3 ?_) | (with_reducible refine w_enum ?_) | (with_reducible refine w_rev ?_))
local macro_rules | `(tactic| walk_at "go") => `(tactic| repeat (walk_at "s1"))
/- _law_text: 0 _law_state, 1 _law_words, 2 _law_signs_here, 3 _law_turn -/
def t_text (K : PySem.W.Frag) (s_take_ : Sp) : TS :=
      (tSeq (tAsg (tLst (tCons (tC (.str ("a" : Str))) (tCons (tC (.str ("" : Str))) (tCons (tC (.str ("aa" : Str))) (tCons (tC (.str ("b" : Str))) (tCons (tC (.str ("ab" : Str))) (tCons (tC (.str ("~" : Str))) (tCons (tC (.str (" " : Str))) (tCons (tC (.str ("zz top" : Str))) (tCons (tC (.str ("Aa" : Str))) (tCons (tC (.str ("0" : Str))) (tCons (tOp (rMulT) (tC (.str ("a" : Str))) (tC (.int 20))) (tCons (tSl (rSlU K) (tC (.str ("the twenty signs of it" : Str))) tNoPart (tPart (tC (.int 20)))) tNil))))))))))))) (gName 1))
      (tSeq (tIfS (tTest (tOp (rGtU) (tCall s_take_ [] E0 (tCons (tVar 0) (tCons (tC (.int 4)) tNil))) (tC (.int 0))))
      (tRet (tOp (rIxU K) (tVar 1) (tCall s_take_ [] E0 (tCons (tVar 0) (tCons (tC (.int 12)) tNil)))))
      tNext)
      (tSeq (tAsg (tC (.str (" !\"#$&'()*+,-./0123456789:;<=>?@ABCXYZ[]^_`abcxyz{|}~" : Str))) (gName 2))
      (tRet (tBM K "str" (rJoinS K) (tC (.str ("" : Str))) (tCons (tLc (iRng1 (tCons (tCall s_take_ [] E0 (tCons (tVar 0) (tCons (tC (.int 21)) tNil))) tNil)) (gName 3) tYes (tOp (rIxU K) (tVar 2) (tCall s_take_ [] E0 (tCons (tVar 0) (tCons (tCB (rLenU K) (tCons (tVar 2) tNil)) tNil)))) [3]) tNil))))))
abbrev N_text : List Str := [("_law_state" : Str), ("_law_words" : Str), ("_law_signs_here" : Str), ("_law_turn" : Str)]

/- _law_signs: 0 _law_some -/
def t_signs (K : PySem.W.Frag) : TS :=
      (tSeq (tAsg (tC (.str (" !\"#$&'()*+,-./0123456789:;<=>?@ABCDEFGHIJKLMNOPQRSTUVWXYZ[\\]^_`" : Str))) (gName 0))
      (tRet (tOp (rAddU K) (tVar 0) (tC (.str ("abcdefghijklmnopqrstuvwxyz{|}~" : Str))))))
abbrev N_signs : List Str := [("_law_some" : Str)]

/- _law_any_text: 0 _law_state, 1 _law_signs_here, 2 _law_k -/
def t_any_text (K : PySem.W.Frag) (s_take_ : Sp) (s_text_ : Sp) (s_signs_ : Sp) : TS :=
      (tSeq (tIfS (tTest (tOp (rEqU K) (tCall s_take_ [] E0 (tCons (tVar 0) (tCons (tC (.int 2)) tNil))) (tC (.int 0))))
      (tRet (tCall s_text_ [] E0 (tCons (tVar 0) tNil)))
      tNext)
      (tSeq (tAsg (tCall s_signs_ [] E0 tNil) (gName 1))
      (tRet (tBM K "str" (rJoinS K) (tC (.str ("" : Str))) (tCons (tLc (iRng1 (tCons (tCall s_take_ [] E0 (tCons (tVar 0) (tCons (tC (.int 21)) tNil))) tNil)) (gName 2) tYes (tOp (rIxU K) (tVar 1) (tCall s_take_ [] E0 (tCons (tVar 0) (tCons (tC (.int 94)) tNil)))) [2]) tNil)))))
abbrev N_any_text : List Str := [("_law_state" : Str), ("_law_signs_here" : Str), ("_law_k" : Str)]

theorem at_strs (l : List Str) {v : Int} (h0 : 0 ≤ v) (h1 : v < l.length) : ∃ z, z ∈ l ∧ atI (l.map V.str) v = some (.str z) := by
  obtain ⟨j, rfl⟩ : ∃ j : Nat, v = (j : Int) := ⟨v.toNat, by omega⟩
  have hj : j < l.length := by omega
  exact ⟨l[j], List.getElem_mem hj, atI_nat (by rw [List.getElem?_map, List.getElem?_eq_getElem hj]; rfl)⟩
def words : List Str := ["a", "", "aa", "b", "ab", "~", " ", "zz top", "Aa", "0", repS "a" 20, cutS "the twenty signs of it" none (some 20)]
theorem words_ok : ∀ z ∈ words, okT 20 z = true := by decide +kernel
def someS : Str := (" !\"#$&'()*+,-./0123456789:;<=>?@ABCXYZ[]^_`abcxyz{|}~" : Str)
theorem someS_len : someS.length = 53 := by decide +kernel
theorem someS_ok : ∀ c ∈ someS.cps.toList, signs.cps.toList.contains c = true := by decide +kernel
theorem signs_ok : ∀ c ∈ signs.cps.toList, signs.cps.toList.contains c = true := by decide +kernel
theorem isT_arr {n : Nat} {cs : List Nat} (hl : cs.length ≤ n) (h : ∀ c ∈ cs, signs.cps.toList.contains c = true) : IsT n (⟨cs.toArray⟩ : Str) := by
  obtain ⟨ks, e, hk⟩ := isT_list cs h
  refine ⟨ks, by rw [e]; rfl, ?_, hk⟩
  rw [e, List.length_map] at hl
  exact hl
theorem S_at {z : Str} {n : Nat} (hz : z.length = n) {v : Int} (h0 : 0 ≤ v) (h1 : v < n) : ∃ c, c ∈ z.cps.toList ∧ atI z.cps.toList v = some c := by
  obtain ⟨j, rfl⟩ : ∃ j : Nat, v = (j : Int) := ⟨v.toNat, by omega⟩
  have hj : j < z.cps.toList.length := by
    have : z.cps.toList.length = z.length := by simp [Str.length]
    omega
  exact ⟨_, List.getElem_mem hj, atI_nat (List.getElem?_eq_getElem hj)⟩
def spText : Sp := fun vs H Q _ => ∃ (m : Nat) (a : Addr) (R : List (Addr × HO)) (G : Hp), vs = [.ref a] ∧ LW (m + 30) a R G H ∧ ∀ (z : Str) (H' : Hp), LW m a R G H' → IsT 20 z → Q (.str z) H'
theorem pure_text {K : PySem.W.Frag} (vs : List V) (H : Hp) (Q : VK) (E : XK) (h : spText vs H Q E) : t_text K spTake { nx := fun _ H' => Q .non H', rt := Q } (start N_text vs) H := by
  obtain ⟨m, a, R, G, rfl, w, k⟩ := h
  unfold t_text
  walk_at "go"
  refine w_smul (k := 20) (by decide) (by decide +kernel) (by decide +kernel) ?_
  walk_at "go"
  refine .inr ⟨_, rfl, by decide +kernel, ?_⟩
  walk_at "go"
  refine ⟨by show 12 ≤ sizeLine; decide, fun p hp => ?_⟩
  have w := w.mk (o := .lst (words.map V.str)) hp
  walk_at "go"
  refine w_take w (by decide) (by decide) fun z1 H1 w h1 h2 => ?_
  walk_at "go"
  refine w_ifd (fun _ => ?_) (fun _ => ?_)
  · walk_at "go"
    refine w_take w (by decide) (by decide) fun z2 H2 w h3 h4 => ?_
    obtain ⟨z, hz, ez⟩ := at_strs words h3 h4
    refine w_ixL (SqL.of w.hd) ez ?_
    exact k z _ (w.drop.le (by omega)) (okT_is (words_ok z hz))
  · walk_at "go"
    refine w_take w (by decide) (by decide) fun z2 H2 w h3 h4 => ?_
    obtain ⟨c, rfl⟩ : ∃ n : Nat, z2 = (n : Int) := ⟨z2.toNat, by omega⟩
    walk_at "go"
    refine w_rg (n := c) (by omega) fun J hJ => ?_
    intro D hD
    refine lc_it hJ (fun i H' => ∃ cs : List Nat, cs.length = i ∧ (∀ x ∈ cs, signs.cps.toList.contains x = true) ∧ LW (m + (c - i)) a ((D, .lst (cs.map fun x => V.str ⟨#[x]⟩)) :: (p, .lst (words.map V.str)) :: R) G H') ⟨[], rfl, by simp, (w.mk hD).le (by omega)⟩ (fun _ _ _ _ => trivial) (fun i u Hi H' hi q y => ?_) (fun H5 q => ?_)
    · obtain ⟨cs, hcs, hok, w⟩ := q
      obtain ⟨rfl, rfl⟩ := y
      walk_at "go"
      refine ⟨rfl, ?_⟩
      walk_at "go"
      refine w_lenS (z := someS) (by rw [someS_len]; exact sz_le (by decide)) ?_
      rw [someS_len]
      walk_at "go"
      refine w_take (m := m + (c - (i + 1))) (w.le (by omega)) (by decide) (by decide) fun z3 H6 w h5 h6 => ?_
      obtain ⟨x, hx, ex⟩ := S_at someS_len h5 h6
      refine w_ixS (z := someS) (by rw [someS_len]; exact sz_le (by decide)) ex ?_
      refine ⟨_, w.hd, by rw [List.length_map]; exact sz_lt (by omega), cs ++ [x], by simp [hcs], fun u hu => ?_, ?_⟩
      · rcases List.mem_append.mp hu with h | h
        · exact hok u h
        · rw [List.mem_singleton.mp h]; exact someS_ok x hx
      · rw [List.map_append]
        exact w.put
    · obtain ⟨cs, hcs, hok, w⟩ := q
      walk_at "go"
      refine w_joinE w.hd (by omega) ?_
      exact k _ _ (w.drop.drop.le (by omega)) (isT_arr (by omega) hok)
def spSigns : Sp := fun vs H Q _ => vs = [] ∧ Q (.str signs) H
theorem signs_cat : ((" !\"#$&'()*+,-./0123456789:;<=>?@ABCDEFGHIJKLMNOPQRSTUVWXYZ[\\]^_`" : Str) ++ ("abcdefghijklmnopqrstuvwxyz{|}~" : Str)) = signs := by decide +kernel
theorem pure_signs {K : PySem.W.Frag} (vs : List V) (H : Hp) (Q : VK) (E : XK) (h : spSigns vs H Q E) : t_signs K { nx := fun _ H' => Q .non H', rt := Q } (start N_signs vs) H := by
  obtain ⟨rfl, k⟩ := h
  unfold t_signs
  walk_at "go"
  refine w_addS (by decide +kernel) ?_
  rw [signs_cat]
  exact k
def spAnyText : Sp := fun vs H Q _ => ∃ (m : Nat) (a : Addr) (R : List (Addr × HO)) (G : Hp), vs = [.ref a] ∧ LW (m + 40) a R G H ∧ ∀ (z : Str) (H' : Hp), LW m a R G H' → IsT 20 z → Q (.str z) H'
theorem pure_any_text {K : PySem.W.Frag} (vs : List V) (H : Hp) (Q : VK) (E : XK) (h : spAnyText vs H Q E) : t_any_text K spTake spText spSigns { nx := fun _ H' => Q .non H', rt := Q } (start N_any_text vs) H := by
  obtain ⟨m, a, R, G, rfl, w, k⟩ := h
  unfold t_any_text
  walk_at "go"
  refine w_take w (by decide) (by decide) fun z1 H1 w h1 h2 => ?_
  walk_at "go"
  refine w_ifd (fun _ => ?_) (fun _ => ?_)
  · walk_at "go"
    exact ⟨m, a, R, G, rfl, w.le (by omega), k⟩
  · walk_at "go"
    refine ⟨rfl, ?_⟩
    walk_at "go"
    refine w_take w (by decide) (by decide) fun z2 H2 w h3 h4 => ?_
    obtain ⟨c, rfl⟩ : ∃ n : Nat, z2 = (n : Int) := ⟨z2.toNat, by omega⟩
    walk_at "go"
    refine w_rg (n := c) (by omega) fun J hJ => ?_
    intro D hD
    refine lc_it hJ (fun i H' => ∃ cs : List Nat, cs.length = i ∧ (∀ x ∈ cs, signs.cps.toList.contains x = true) ∧ LW (m + (c - i)) a ((D, .lst (cs.map fun x => V.str ⟨#[x]⟩)) :: R) G H') ⟨[], rfl, by simp, (w.mk hD).le (by omega)⟩ (fun _ _ _ _ => trivial) (fun i u Hi H' hi q y => ?_) (fun H5 q => ?_)
    · obtain ⟨cs, hcs, hok, w⟩ := q
      obtain ⟨rfl, rfl⟩ := y
      walk_at "go"
      refine ⟨rfl, ?_⟩
      walk_at "go"
      refine w_take (m := m + (c - (i + 1))) (w.le (by omega)) (by decide) (by decide) fun z3 H6 w h5 h6 => ?_
      obtain ⟨x, hx, ex⟩ := S_at signs_len h5 h6
      refine w_ixS (z := signs) (by rw [signs_len]; exact sz_le (by decide)) ex ?_
      refine ⟨_, w.hd, by rw [List.length_map]; exact sz_lt (by omega), cs ++ [x], by simp [hcs], fun u hu => ?_, ?_⟩
      · rcases List.mem_append.mp hu with h | h
        · exact hok u h
        · rw [List.mem_singleton.mp h]; exact signs_ok x hx
      · rw [List.map_append]
        exact w.put
    · obtain ⟨cs, hcs, hok, w⟩ := q
      walk_at "go"
      refine w_joinE w.hd (by omega) ?_
      exact k _ _ (w.drop.le (by omega)) (isT_arr (by omega) hok)
end Ps

/-! L58: parts of cells. -/
namespace Ps
open PySem PySem.Spec PyProof.Rows L2
local macro_rules | `(tactic| walk_at "s1") => `(tactic| first
  | (with_reducible refine w_seq ?_) | (with_reducible refine w_asg ?_) | (with_reducible refine w_op ?_) | (with_reducible refine w_c ?_)
  | ((with_reducible refine' w_var ?hx ?_); (case hx => exact rfl))
  | (with_reducible refine w_gname ?_) | (with_reducible refine w_cons ?_) | (with_reducible refine w_nil ?_) | (with_reducible refine w_cb ?_) | (with_reducible refine w_call ?_)
  | (with_reducible refine w_ret ?_) | (with_reducible refine w_drop ?_) | (with_reducible refine w_ifs ?_) | (with_reducible refine w_test ?_) | (with_reducible refine w_next ?_)
  | (with_reducible refine w_addI ?_) | (with_reducible refine w_subI ?_) | (with_reducible refine w_negI ?_) | (with_reducible refine w_eqI ?_) | (with_reducible refine w_neI ?_) | (with_reducible refine w_ltI ?_) | (with_reducible refine w_leI ?_)
  | (with_reducible refine w_gtI ?_) | (with_reducible refine w_geI ?_) | (with_reducible refine w_isNn ?_) | (with_reducible refine w_isNi ?_) | (with_reducible refine w_isNs ?_) | (with_reducible refine w_isNr ?_) | (with_reducible refine w_ntNn ?_) | (with_reducible refine w_ntNi ?_) | (with_reducible refine w_ntNs ?_) | (with_reducible refine w_ntNr ?_) | (with_reducible refine w_isN ?_) | (with_reducible refine w_notN ?_) | (with_reducible refine w_ipaI ?_) | (with_reducible refine w_eqS ?_) | (with_reducible refine w_neS ?_)
  | (with_reducible refine w_blE ?_) | (with_reducible refine w_truB ?_) | (with_reducible refine w_intI ?_) | (with_reducible refine w_intB ?_)
  | (with_reducible refine w_bm ?_) | (with_reducible refine w_bm0 ?_) | (with_reducible refine w_lst ?_) | (with_reducible refine w_tup ?_) | (with_reducible refine w_un ?_) | (with_reducible refine w_sl ?_) | (with_reducible refine w_nopart ?_) | (with_reducible refine w_part ?_) | (with_reducible refine w_partI ?_)
  | (with_reducible refine w_gsub ?_) | (with_reducible refine w_gcons ?_) | (with_reducible refine w_gnil ?_) | (with_reducible refine w_and ?_) | (with_reducible refine w_or ?_) | (with_reducible refine w_not ?_) | (with_reducible refine w_tru ?_) | (with_reducible refine w_yes ?_)
  | (with_reducible refine w_andV ?_) | (with_reducible refine w_orV ?_) | (with_reducible refine w_notV ?_) | (with_reducible refine w_tif ?_) | (with_reducible refine w_callS ?_) | (with_reducible refine w_for ?_)
  | (with_reducible refine w_par ?_) | (with_reducible refine w_par2 ?_) | (with_reducible refine w_retN ?_) | (with_reducible refine w_brk ?_) | (with_reducible refine w_cont ?_)
  | ((with_reducible refine' w_aug ?hx ?_); (case hx => exact rfl)) | (with_reducible refine w_ipsI ?_)
  | (with_reducible refine w_is_int_dict ?_) | (with_reducible refine w_is_int_list ?_) | (with_reducible refine w_is_int_tuple ?_) | (with_reducible refine w_is_int_str ?_) | (with_reducible refine w_is_int_int ?_) | (with_reducible refine w_is_int_bool ?_) | (with_reducible refine w_is_bool_dict ?_) | (with_reducible refine w_is_bool_list ?_) | (with_reducible refine w_is_bool_tuple ?_) | (with_reducible refine w_is_bool_str ?_) | (with_reducible refine w_is_bool_int ?_) | (with_reducible refine w_is_bool_bool ?_) | (with_reducible refine w_is_str_dict ?_) | (with_reducible refine w_is_str_list ?_) | (with_reducible refine w_is_str_tuple ?_) | (with_reducible refine w_is_str_str ?_) | (with_reducible refine w_is_str_int ?_) | (with_reducible refine w_is_str_bool ?_)
  | (with_reducible refine w_ifT ?_) | (with_reducible refine w_ifF ?_) | (with_reducible refine w_ifNF ?_) | (with_reducible refine w_ifNT ?_)
  | (with_reducible refine w_tys ?_) | (with_reducible refine w_chain ?_) | (with_reducible refine w_ost ?_) | (with_reducible refine w_vei ?_) | (with_reducible refine w_rzO ?_) | (with_reducible refine w_fld ?_) | (with_reducible refine w_sfld ?_) | (with_reducible refine w_afld ?_) | (with_reducible refine w_meth ?_) | (with_reducible refine w_make ?_) | (with_reducible refine w_rz ?_) | (with_reducible refine w_rAdd ?_) | (with_reducible refine w_rSub ?_) | (with_reducible refine w_max2 ?_) | (with_reducible refine w_lc ?_) | (with_reducible refine w_zip ?_) | (with_reducible refine w_seqv ?_) | (with_reducible refine w_rng1 ?_) | (with_reducible refine w_rng2 ?_) | (with_reducible refine w_rng3 ?_) | (with_reducible refine w_enum ?_) | (with_reducible refine w_rev ?_))
local macro_rules | `(tactic| walk_at "go") => `(tactic| repeat (walk_at "s1"))
/- part_of: 0 cells, 1 level, 2 number, 3 cell, 4 byte, 5 turn -/
def t_part_of (K : PySem.W.Frag) (s_cell_bytes_ : Sp) : TS :=
      (tSeq (tAsg (tOp (rDivU) (tVar 1) (tC (.int 8))) (gName 2))
      (tSeq (tFor (iSeqV K (tVar 0)) (gName 3)
      (tFor (iSeqV K (tCall s_cell_bytes_ [] E0 (tCons (tVar 3) tNil))) (gName 4)
      (tAsg (tOp (rModU) (tOp (rAddU K) (tOp (rAddU K) (tOp (rMulU) (tVar 2) (tC (.int 31))) (tVar 4)) (tC (.int 1))) (tC (.int 65521))) (gName 2))))
      (tSeq (tFor (iRng1 (tCons (tOp (rModU) (tVar 1) (tC (.int 8))) tNil)) (gName 5)
      (tAsg (tOp (rDivU) (tVar 2) (tC (.int 4))) (gName 2)))
      (tRet (tOp (rModU) (tVar 2) (tC (.int 4)))))))
abbrev N_part_of : List Str := [("cells" : Str), ("level" : Str), ("number" : Str), ("cell" : Str), ("byte" : Str), ("turn" : Str)]

/- _law_number_bytes: 0 _law_number_here, 1 _law_left, 2 _law_told -/
def t_own_number_bytes58 (K : PySem.W.Frag) : TS :=
      (tSeq (tAsg (tIf (tTest (tOp (rGeU) (tVar 0) (tC (.int 0)))) (tOp (rMulU) (tC (.int 2)) (tVar 0)) (tOp (rSubU) (tOp (rMulU) (tUn rNeg (tC (.int 2))) (tVar 0)) (tC (.int 1)))) (gName 1))
      (tSeq (tAsg (tLst (tCons (tOp (rModU) (tVar 1) (tC (.int 128))) tNil)) (gName 2))
      (tSeq (tAsg (tOp (rDivU) (tVar 1) (tC (.int 128))) (gName 1))
      (tSeq (tWhile (tTest (tOp (rGtU) (tVar 1) (tC (.int 0))))
      (tSeq (tAsg (tOp (rAddU K) (tOp (rIxU K) (tVar 2) (tUn rNeg (tC (.int 1)))) (tC (.int 128))) (gSub (tVar 2) (tUn rNeg (tC (.int 1))) rSetU))
      (tSeq (tDrop (tBM K "list" (rAppend) (tVar 2) (tCons (tOp (rModU) (tVar 1) (tC (.int 128))) tNil)))
      (tAsg (tOp (rDivU) (tVar 1) (tC (.int 128))) (gName 1)))))
      (tRet (tVar 2))))))
abbrev N_own_number_bytes58 : List Str := [("_law_number_here" : Str), ("_law_left" : Str), ("_law_told" : Str)]

/- _law_cell_bytes: 0 _law_cell, 1 _law_signs, 2 _law_sign -/
def t_own_cell_bytes (K : PySem.W.Frag) (s_own_number_bytes58_ : Sp) : TS :=
      (tSeq (tAsg (tC (.str (" !\"#$&'()*+,-./0123456789:;<=>?@ABCDEFGHIJKLMNOPQRSTUVWXYZ" : Str))) (gName 1))
      (tSeq (tAsg (tOp (rAddU K) (tVar 1) (tC (.str ("[\\]^_`abcdefghijklmnopqrstuvwxyz{|}~" : Str)))) (gName 1))
      (tSeq (tIfS (tTest (tOp (rIsN) (tVar 0) (tC .non)))
      (tRet (tLst (tCons (tC (.int 0)) tNil)))
      tNext)
      (tSeq (tIfS (tTru K (tCB (rIsiU K) (tCons (tVar 0) (tCons (tC (.ty "str")) tNil))))
      (tRet (tOp (rAddU K) (tOp (rAddU K) (tLst (tCons (tC (.int 2)) tNil)) (tCall s_own_number_bytes58_ [] E0 (tCons (tCB (rLenU K) (tCons (tVar 0) tNil)) tNil))) (tLc (iSeqV K (tVar 0)) (gName 2) tYes (tBM K "str" (rSIdx) (tVar 1) (tCons (tVar 2) tNil)) [2])))
      tNext)
      (tRet (tOp (rAddU K) (tLst (tCons (tC (.int 1)) tNil)) (tCall s_own_number_bytes58_ [] E0 (tCons (tVar 0) tNil))))))))
abbrev N_own_cell_bytes : List Str := [("_law_cell" : Str), ("_law_signs" : Str), ("_law_sign" : Str)]

/- _law_part: 0 _law_cells, 1 _law_level, 2 _law_number_here, 3 _law_cell, 4 _law_byte -/
def t_part (K : PySem.W.Frag) (s_own_cell_bytes_ : Sp) : TS :=
      (tSeq (tAsg (tOp (rDivU) (tVar 1) (tC (.int 8))) (gName 2))
      (tSeq (tFor (iSeqV K (tVar 0)) (gName 3)
      (tFor (iSeqV K (tCall s_own_cell_bytes_ [] E0 (tCons (tVar 3) tNil))) (gName 4)
      (tAsg (tOp (rModU) (tOp (rAddU K) (tOp (rAddU K) (tOp (rMulU) (tVar 2) (tC (.int 31))) (tVar 4)) (tC (.int 1))) (tC (.int 65521))) (gName 2))))
      (tRet (tOp (rModU) (tOp (rDivU) (tVar 2) (tOp (rIxU K) (tLst (tCons (tC (.int 1)) (tCons (tC (.int 4)) (tCons (tC (.int 16)) (tCons (tC (.int 64)) (tCons (tC (.int 256)) (tCons (tC (.int 1024)) (tCons (tC (.int 4096)) (tCons (tC (.int 16384)) tNil))))))))) (tOp (rModU) (tVar 1) (tC (.int 8))))) (tC (.int 4))))))
abbrev N_part : List Str := [("_law_cells" : Str), ("_law_level" : Str), ("_law_number_here" : Str), ("_law_cell" : Str), ("_law_byte" : Str)]

/- _law_some_cell: 0 _law_state, 1 _law_way, 2 _law_great -/
def t_some_cell (K : PySem.W.Frag) (s_take_ : Sp) (s_text_ : Sp) (s_number_ : Sp) : TS :=
      (tSeq (tAsg (tCall s_take_ [] E0 (tCons (tVar 0) (tCons (tC (.int 6)) tNil))) (gName 1))
      (tSeq (tIfS (tTest (tOp (rEqU K) (tVar 1) (tC (.int 0))))
      (tRet (tC .non))
      tNext)
      (tSeq (tIfS (tTest (tOp (rLtU K) (tVar 1) (tC (.int 3))))
      (tRet (tCall s_text_ [] E0 (tCons (tVar 0) tNil)))
      tNext)
      (tSeq (tIfS (tTest (tOp (rEqU K) (tVar 1) (tC (.int 3))))
      (tSeq (tAsg (tOp (rIxU K) (tLst (tCons (tOp (rPowU) (tC (.int 10)) (tC (.int 18))) (tCons (tOp (rPowU) (tC (.int 10)) (tC (.int 19))) (tCons (tOp (rPowU) (tC (.int 10)) (tC (.int 27))) (tCons (tOp (rPowU) (tC (.int 10)) (tC (.int 40))) (tCons (tOp (rPowU) (tC (.int 10)) (tC (.int 59))) (tCons (tOp (rPowU) (tC (.int 2)) (tC (.int 62))) (tCons (tOp (rPowU) (tC (.int 2)) (tC (.int 63))) tNil)))))))) (tCall s_take_ [] E0 (tCons (tVar 0) (tCons (tC (.int 7)) tNil)))) (gName 2))
      (tRet (tOp (rMulU) (tOp (rIxU K) (tLst (tCons (tC (.int 1)) (tCons (tUn rNeg (tC (.int 1))) tNil))) (tCall s_take_ [] E0 (tCons (tVar 0) (tCons (tC (.int 2)) tNil)))) (tOp (rAddU K) (tCall s_take_ [] E0 (tCons (tVar 0) (tCons (tOp (rPowU) (tC (.int 10)) (tC (.int 9))) tNil))) (tVar 2)))))
      tNext)
      (tRet (tCall s_number_ [] E0 (tCons (tVar 0) tNil)))))))
abbrev N_some_cell : List Str := [("_law_state" : Str), ("_law_way" : Str), ("_law_great" : Str)]

/- law: 0 _law_script, 1 _law_state, 2 _law_turn, 3 _law_k, 4 _law_cells, 5 _law_level, 6 _law_due, 7 _law_handed, 8 _law_some, 9 _law_one -/
def t_law (K : PySem.W.Frag) (s_begin_ : Sp) (s_take_ : Sp) (s_some_cell_ : Sp) (s_part_ : Sp) (s_same_ : Sp) (s_part_of_ : Sp) : TS :=
      (tSeq (tAsg (tCall s_begin_ [] E0 (tCons (tVar 0) tNil)) (gName 1))
      (tSeq (tFor (iRng1 (tCons (tC (.int 12)) tNil)) (gName 2)
      (tSeq (tAsg (tLc (iRng1 (tCons (tCall s_take_ [] E0 (tCons (tVar 1) (tCons (tC (.int 5)) tNil))) tNil)) (gName 3) tYes (tCall s_some_cell_ [] E0 (tCons (tVar 1) tNil)) [3]) (gName 4))
      (tSeq (tAsg (tCall s_take_ [] E0 (tCons (tVar 1) (tCons (tC (.int 41)) tNil))) (gName 5))
      (tSeq (tIfS (tTest (tOp (rEqU K) (tCall s_take_ [] E0 (tCons (tVar 1) (tCons (tC (.int 4)) tNil))) (tC (.int 0))))
      (tAsg (tCall s_take_ [] E0 (tCons (tVar 1) (tCons (tC (.int 100000)) tNil))) (gName 5))
      tNext)
      (tSeq (tAsg (tCall s_part_ [] E0 (tCons (tVar 4) (tCons (tVar 5) tNil))) (gName 6))
      (tSeq (tAsg (tCB (rListU K) (tCons (tVar 4) tNil)) (gName 7))
      (tSeq (tIfS (tOr (tNot (tTru K (tCall s_same_ [] E0 (tCons (tCall s_part_of_ [] E0 (tCons (tVar 7) (tCons (tVar 5) tNil))) (tCons (tVar 6) tNil))))) (tTest (tOp (rNeU K) (tVar 7) (tVar 4))))
      (tRet (tC (.bl false)))
      tNext)
      (tSeq (tIfS (tNot (tTru K (tCall s_same_ [] E0 (tCons (tCall s_part_of_ [] E0 (tCons (tCB (rTupU K) (tCons (tVar 4) tNil)) (tCons (tVar 5) tNil))) (tCons (tVar 6) tNil)))))
      (tRet (tC (.bl false)))
      tNext)
      (tSeq (tAsg (tLc (iRng1 (tCons (tC (.int 16)) tNil)) (gName 3) tYes (tOp (rAddU K) (tVar 4) (tLst (tCons (tVar 3) tNil))) [3]) (gName 8))
      (tIfS (tTest (tOp (rNeU K) (tLc (iSeqV K (tVar 8)) (gName 9) tYes (tCall s_part_of_ [] E0 (tCons (tVar 9) (tCons (tVar 5) tNil))) [9]) (tLc (iSeqV K (tVar 8)) (gName 9) tYes (tCall s_part_ [] E0 (tCons (tVar 9) (tCons (tVar 5) tNil))) [9])))
      (tRet (tC (.bl false)))
      tNext))))))))))
      (tRet (tC (.bl true)))))
abbrev N_law : List Str := [("_law_script" : Str), ("_law_state" : Str), ("_law_turn" : Str), ("_law_k" : Str), ("_law_cells" : Str), ("_law_level" : Str), ("_law_due" : Str), ("_law_handed" : Str), ("_law_some" : Str), ("_law_one" : Str)]

theorem ixN_m1i (n : Nat) : ixN (n + 1) (-1) = some n := by
  unfold ixN
  rw [if_neg (by decide), if_pos (by omega)]
  congr 1
  omega
theorem last_atI (pre : List Int) (z : Int) : atI ((pre ++ [z]).map V.int) (-1) = some (.int z) := by
  unfold atI
  rw [List.length_map, List.length_append, List.length_singleton, ixN_m1i]
  show ((pre ++ [z]).map V.int)[pre.length]? = _
  rw [List.getElem?_map, List.getElem?_append_right (Nat.le_refl _), Nat.sub_self]
  rfl
theorem last_setI (pre : List Int) (z z' : Int) : ((pre ++ [z]).map V.int).set pre.length (.int z') = (pre ++ [z']).map V.int := by
  rw [List.map_append, List.map_append]
  have q := set_mid (pre.map V.int) [] (V.int z) (V.int z')
  rw [List.length_map] at q
  exact q
theorem pure_own_number_bytes58 {K : PySem.W.Frag} (vs : List V) (H : Hp) (Q : VK) (E : XK) (h : spNb vs H Q E) : t_own_number_bytes58 K { nx := fun _ H' => Q .non H', rt := Q } (start N_own_number_bytes58 vs) H := by
  obtain ⟨n, rfl, hb, k⟩ := h
  have hlen := nb_len hb
  unfold t_own_number_bytes58
  walk_at "go"
  refine w_ifK fun P1 p1 => ?_
  have main : ∀ r : Int, r = (zz n : Nat) → P1 (.int r) H := by
    rintro r rfl
    refine p1 _ _ ?_
    walk_at "go"
    refine w_modI (by decide) ?_
    walk_at "go"
    refine ⟨by show 1 ≤ sizeLine; decide, fun p hp => ?_⟩
    walk_at "go"
    refine w_divI ⟨by decide, by decide⟩ ?_
    walk_at "go"
    refine w_while (fun m σ H' => ∃ (pre : List Int), σ = [some (.int n), some (.int ((m : Int) / 128)), some (.ref p)] ∧ Same H H' ∧ H' p = some (.lst ((pre ++ [(m : Int) % 128]).map V.int)) ∧ nb n = pre ++ sev m) (zz n)
      ⟨[], rfl, same_new hp, upd_same, rfl⟩ (fun s σ H1 w => ?_)
    obtain ⟨pre, rfl, s1, e1, e2⟩ := w
    have hpl : pre.length ≤ 30 := by
      have := congrArg List.length e2
      rw [List.length_append] at this
      omega
    walk_at "go"
    refine w_ifd (fun c => ?_) (fun c => ?_)
    · refine w_loop ?_
      walk_at "go"
      refine w_ixL (SqL.of e1) (last_atI pre _) ?_
      walk_at "go"
      refine w_setL (k := pre.length) e1 (by rw [List.length_map, List.length_append]; exact ixN_m1i _) ?_
      rw [last_setI]
      walk_at "go"
      refine w_tyl upd_same ?_
      walk_at "go"
      refine w_modI (by decide) ?_
      walk_at "go"
      refine w_app upd_same (by rw [List.length_map, List.length_append]; exact sz_lt (by show pre.length + 1 < _; omega)) ?_
      rw [upd_upd]
      walk_at "go"
      refine w_divI ⟨by decide, by decide⟩ ?_
      walk_at "go"
      refine ⟨s / 128, by omega, pre ++ [((s % 128 + 128 : Nat) : Int)], rfl, same_mut s1 hp, ?_, ?_⟩
      · rw [upd_same, List.map_append (l₁ := pre ++ _)]; rfl
      · rw [e2, sev_ge (by omega), List.append_assoc]; rfl
    · walk_at "go"
      refine k _ _ s1 hp ?_
      rw [e1, e2, sev_lt (by omega), show (s : Int) % 128 = s by omega]
  refine w_ifd (fun c => ?_) (fun c => ?_)
  · walk_at "go"
    refine w_mulI (.inl ⟨by decide, by decide⟩) ?_
    refine main _ ?_
    unfold zz
    rw [if_neg (by omega)]; omega
  · walk_at "go"
    refine w_mulI (.inl ⟨by decide, by decide⟩) ?_
    walk_at "go"
    refine main _ ?_
    unfold zz
    rw [if_pos (by omega)]; omega
theorem signs_cat2 : ((" !\"#$&'()*+,-./0123456789:;<=>?@ABCDEFGHIJKLMNOPQRSTUVWXYZ" : Str) ++ ("[\\]^_`abcdefghijklmnopqrstuvwxyz{|}~" : Str)) = signs := by decide +kernel
theorem pure_own_cell_bytes {K : PySem.W.Frag} (vs : List V) (H : Hp) (Q : VK) (E : XK) (h : spCb vs H Q E) : t_own_cell_bytes K spNb { nx := fun _ H' => Q .non H', rt := Q } (start N_own_cell_bytes vs) H := by
  obtain ⟨c, rfl, hc, k⟩ := h
  unfold t_own_cell_bytes
  walk_at "go"
  refine w_addS (by decide +kernel) ?_
  rw [signs_cat2]
  cases c with
  | non =>
    show (tSeq _ _ : TS) _ [some V.non, some (.str signs), none] _
    walk_at "go"
    refine ⟨by show 1 ≤ sizeLine; decide, fun p hp => ?_⟩
    exact k _ _ (same_new hp) hp upd_same
  | num z =>
    show (tSeq _ _ : TS) _ [some (V.int z), some (.str signs), none] _
    walk_at "go"
    refine ⟨by show 1 ≤ sizeLine; decide, fun p hp => ?_⟩
    walk_at "go"
    refine ⟨z, rfl, hc, fun q H1 s1 hq e1 => ?_⟩
    have hl := nb_len hc
    refine w_addL (xs := [.int 1]) (s1 _ _ upd_same) e1 (by rw [List.length_map]; exact sz_le (by show 1 + _ ≤ _; omega)) fun p2 hp2 => ?_
    exact k _ _ ((same_new hp).trans (s1.trans (same_new hp2))) (((same_new hp).trans s1).free hp2) upd_same
  | txt ks =>
    show (tSeq _ _ : TS) _ [some (V.str (txt ks)), some (.str signs), none] _
    have hl := tb_len hc.1
    have hn : ((ks.length : Nat) : Int).natAbs < 2 ^ 200 := by
      rw [Int.natAbs_natCast]
      exact Nat.lt_of_le_of_lt hc.1 (by decide)
    have hlen := nb_len hn
    walk_at "go"
    refine ⟨by show 1 ≤ sizeLine; decide, fun p hp => ?_⟩
    walk_at "go"
    refine w_lenS (by rw [txt_len]; exact sz_le (by have := hc.1; omega)) ?_
    rw [txt_len]
    walk_at "go"
    refine ⟨ks.length, rfl, hn, fun q H1 s1 hq e1 => ?_⟩
    refine w_addL (xs := [.int 2]) (s1 _ _ upd_same) e1 (by rw [List.length_map]; exact sz_le (by show 1 + _ ≤ _; omega)) fun p2 hp2 => ?_
    have s2 := (same_new (o := .lst [.int 2]) hp).trans (s1.trans (same_new (o := .lst ([.int 2] ++ (nb ks.length).map V.int)) hp2))
    have e2 : (upd H1 p2 (.lst ([.int 2] ++ (nb ks.length).map V.int))) p2 = some (.lst ((2 :: nb ks.length : List Int).map V.int)) := upd_same
    generalize upd H1 p2 (.lst ([.int 2] ++ (nb ks.length).map V.int)) = H3 at s2 e2 ⊢
    walk_at "go"
    refine w_itS ?_
    intro D hD
    have hsz : (txt ks).cps.size = ks.length := by show (txt ks).length = _; exact txt_len ks
    refine lc_it walk_str (LcP H3 D ((ins ks).map V.int)) (lc_go hD) (fun i H' _ p => trivial) (fun i u Hi H' hi q y => ?_) (fun H4 q => ?_)
    · rw [hsz] at hi
      obtain ⟨rfl, c, ec, rfl⟩ := y
      obtain ⟨x, ex⟩ : ∃ x, ks[i]? = some x := ⟨_, List.getElem?_eq_getElem hi⟩
      have hx := hc.2 x (List.mem_of_getElem? ex)
      have ecx : c = sg x := by
        have e2 : (txt ks).cps.toList[i]? = some c := by rw [← ec]; simp
        rw [txt_cps, List.getElem?_map, ex] at e2
        exact (Option.some.inj e2).symm
      subst ecx
      walk_at "go"
      refine ⟨rfl, ?_⟩
      walk_at "go"
      refine w_sidx (sg_occ ⟨x, hx⟩) ?_
      exact lc_fin hD q (Same.refl _) (at_int (by unfold ins; rw [List.getElem?_map, ex]; rfl)) (by have := hc.1; omega)
    · rw [hsz] at q
      have e4 := lc_end q (by rw [List.length_map, ins_len]; exact Nat.le_refl _)
      refine w_addL (q.1 _ _ e2) e4 (by rw [List.length_map, List.length_map, ins_len, List.length_cons]; exact sz_le (by have := hc.1; omega)) fun p5 hp5 => ?_
      rw [← List.map_append]
      exact k _ _ (s2.trans (q.1.trans (same_new hp5))) ((s2.trans q.1).free hp5) upd_same
/-- a cell's bytes, mixed in -/
def mixB (n b : Int) : Int := (n * 31 + b + 1) % 65521
def mixC (n : Int) (c : Cel) : Int := (cb c).foldl mixB n
def partN (cs : List Cel) (lv : Nat) : Int := (cs.foldl mixC ((lv : Int) / 8)) / (4 : Int) ^ (lv % 8) % 4
def spPart (K : PySem.W.Frag) : Sp := fun vs H Q _ => ∃ (a : Addr) (cs : List Cel) (lv : Nat), vs = [.ref a, .int lv] ∧ Sq K H a (cs.map cv) ∧ (∀ c ∈ cs, okC c) ∧ ∀ H', Same H H' → Q (.int (partN cs lv)) H'
theorem cel_at {cs : List Cel} {i : Nat} {y : V} (h : (cs.map cv)[i]? = some y) : ∃ c, cs[i]? = some c ∧ y = cv c := by
  rw [List.getElem?_map] at h
  cases e : cs[i]? with
  | none => rw [e] at h; cases h
  | some c => rw [e] at h; exact ⟨c, rfl, (Option.some.inj h).symm⟩
theorem pow_div (n : Int) (i : Nat) : n / (4 : Int) ^ (i + 1) = n / (4 : Int) ^ i / 4 := by
  have h : (0 : Int) < 4 ^ i := Int.pow_pos (by decide)
  rw [Int.pow_succ, Int.ediv_ediv, if_neg (fun z => absurd z.1 (by omega)), Int.sub_zero]
theorem four_at (u : Nat) (h : u < 8) : atI [V.int 1, V.int 4, V.int 16, V.int 64, V.int 256, V.int 1024, V.int 4096, V.int 16384] (u : Int) = some (.int ((4 : Int) ^ u)) := by
  rcases (by omega : u = 0 ∨ u = 1 ∨ u = 2 ∨ u = 3 ∨ u = 4 ∨ u = 5 ∨ u = 6 ∨ u = 7) with rfl | rfl | rfl | rfl | rfl | rfl | rfl | rfl <;> rfl
theorem four_lt (u : Nat) (h : u < 8) : 0 < (4 : Int) ^ u ∧ (4 : Int) ^ u < 1073741824 := by
  rcases (by omega : u = 0 ∨ u = 1 ∨ u = 2 ∨ u = 3 ∨ u = 4 ∨ u = 5 ∨ u = 6 ∨ u = 7) with rfl | rfl | rfl | rfl | rfl | rfl | rfl | rfl <;> exact ⟨by decide, by decide⟩
theorem pure_part_of {K : PySem.W.Frag} (vs : List V) (H : Hp) (Q : VK) (E : XK) (h : spPart K vs H Q E) : t_part_of K spCb { nx := fun _ H' => Q .non H', rt := Q } (start N_part_of vs) H := by
  obtain ⟨a, cs, lv, rfl, ha, hc, k⟩ := h
  unfold t_part_of
  walk_at "go"
  refine w_divI ⟨by decide, by decide⟩ ?_
  walk_at "go"
  refine w_itB (Same.refl _) ha fun J hJ => ?_
  rw [List.length_map] at hJ
  refine for_it hJ (fun i σ H' => ∃ v3 v4 : Option V, σ = [some (.ref a), some (.int lv), some (.int ((cs.take i).foldl mixC ((lv : Int) / 8))), v3, v4, none] ∧ Same H H')
    ⟨none, none, rfl, Same.refl _⟩ (fun i σ H' _ q => q.elim fun _ q => q.elim fun _ q => q.2) (fun i x σ Hi H' hi q y => ?_) (fun σ H2 q => ?_)
  · obtain ⟨v3, v4, rfl, s1⟩ := q
    obtain ⟨rfl, ey⟩ := y
    obtain ⟨c, ec, rfl⟩ := cel_at ey
    rw [take_snoc ec, List.foldl_append]
    generalize (cs.take i).foldl mixC ((lv : Int) / 8) = n at *
    walk_at "go"
    refine ⟨c, rfl, hc c (List.mem_of_getElem? ec), fun p H3 s3 hp ep => ?_⟩
    have s4 := s1.trans s3
    refine w_it (Sq.l ep) fun J2 hJ2 => ?_
    rw [List.length_map] at hJ2
    refine for_it hJ2 (fun l σ H' => ∃ v4 : Option V, σ = [some (.ref a), some (.int lv), some (.int (((cb c).take l).foldl mixB n)), some (cv c), v4, none] ∧ H' = H3)
      ⟨v4, rfl, rfl⟩ (fun _ _ _ _ q => q.elim fun _ q => q.2 ▸ Same.refl _) (fun l x σ Hj H' hl q y => ?_) (fun σ H2 q => ?_)
    · obtain ⟨v4, rfl, rfl⟩ := q
      obtain ⟨rfl, ey⟩ := y
      obtain ⟨b, eb, rfl⟩ := int_at ey
      rw [take_snoc eb, List.foldl_append]
      generalize ((cb c).take l).foldl mixB n = n2 at *
      walk_at "go"
      refine w_mulI (.inr ⟨by decide, by decide⟩) ?_
      walk_at "go"
      refine w_modI (by decide) ?_
      walk_at "go"
      exact ⟨_, rfl, rfl⟩
    · obtain ⟨v4, rfl, rfl⟩ := q
      rw [List.take_length]
      exact ⟨_, _, rfl, s4⟩
  · obtain ⟨v3, v4, rfl, s1⟩ := q
    rw [List.take_length]
    unfold partN at k
    generalize cs.foldl mixC ((lv : Int) / 8) = n at *
    walk_at "go"
    refine w_modI (by decide) ?_
    rw [show (lv : Int) % 8 = ((lv % 8 : Nat) : Int) by omega]
    walk_at "go"
    refine w_rg (n := lv % 8) (by omega) fun J hJ => ?_
    generalize lv % 8 = t at *
    refine for_it hJ (fun i σ H' => ∃ v5 : Option V, σ = [some (.ref a), some (.int lv), some (.int (n / (4 : Int) ^ i)), v3, v4, v5] ∧ H' = H2)
      ⟨none, by rw [Int.pow_zero, Int.ediv_one], rfl⟩ (fun _ _ _ _ _ => trivial) (fun i x σ Hi H' hi q y => ?_) (fun σ H3 q => ?_)
    · obtain ⟨v5, rfl, rfl⟩ := q
      obtain ⟨rfl, rfl⟩ := y
      walk_at "go"
      refine w_divI ⟨by decide, by decide⟩ ?_
      walk_at "go"
      exact ⟨some (.int i), by rw [pow_div]; rfl, rfl⟩
    · obtain ⟨v5, rfl, rfl⟩ := q
      walk_at "go"
      refine w_modI (by decide) ?_
      exact k _ s1
theorem pure_part {K : PySem.W.Frag} (vs : List V) (H : Hp) (Q : VK) (E : XK) (h : spPart K vs H Q E) : t_part K spCb { nx := fun _ H' => Q .non H', rt := Q } (start N_part vs) H := by
  obtain ⟨a, cs, lv, rfl, ha, hc, k⟩ := h
  unfold t_part
  walk_at "go"
  refine w_divI ⟨by decide, by decide⟩ ?_
  walk_at "go"
  refine w_itB (Same.refl _) ha fun J hJ => ?_
  rw [List.length_map] at hJ
  refine for_it hJ (fun i σ H' => ∃ v3 v4 : Option V, σ = [some (.ref a), some (.int lv), some (.int ((cs.take i).foldl mixC ((lv : Int) / 8))), v3, v4] ∧ Same H H')
    ⟨none, none, rfl, Same.refl _⟩ (fun i σ H' _ q => q.elim fun _ q => q.elim fun _ q => q.2) (fun i x σ Hi H' hi q y => ?_) (fun σ H2 q => ?_)
  · obtain ⟨v3, v4, rfl, s1⟩ := q
    obtain ⟨rfl, ey⟩ := y
    obtain ⟨c, ec, rfl⟩ := cel_at ey
    rw [take_snoc ec, List.foldl_append]
    generalize (cs.take i).foldl mixC ((lv : Int) / 8) = n at *
    walk_at "go"
    refine ⟨c, rfl, hc c (List.mem_of_getElem? ec), fun p H3 s3 hp ep => ?_⟩
    have s4 := s1.trans s3
    refine w_it (Sq.l ep) fun J2 hJ2 => ?_
    rw [List.length_map] at hJ2
    refine for_it hJ2 (fun l σ H' => ∃ v4 : Option V, σ = [some (.ref a), some (.int lv), some (.int (((cb c).take l).foldl mixB n)), some (cv c), v4] ∧ H' = H3)
      ⟨v4, rfl, rfl⟩ (fun _ _ _ _ q => q.elim fun _ q => q.2 ▸ Same.refl _) (fun l x σ Hj H' hl q y => ?_) (fun σ H2 q => ?_)
    · obtain ⟨v4, rfl, rfl⟩ := q
      obtain ⟨rfl, ey⟩ := y
      obtain ⟨b, eb, rfl⟩ := int_at ey
      rw [take_snoc eb, List.foldl_append]
      generalize ((cb c).take l).foldl mixB n = n2 at *
      walk_at "go"
      refine w_mulI (.inr ⟨by decide, by decide⟩) ?_
      walk_at "go"
      refine w_modI (by decide) ?_
      walk_at "go"
      exact ⟨_, rfl, rfl⟩
    · obtain ⟨v4, rfl, rfl⟩ := q
      rw [List.take_length]
      exact ⟨_, _, rfl, s4⟩
  · obtain ⟨v3, v4, rfl, s1⟩ := q
    rw [List.take_length]
    unfold partN at k
    generalize cs.foldl mixC ((lv : Int) / 8) = n at *
    walk_at "go"
    refine ⟨by show 8 ≤ sizeLine; decide, fun p hp => ?_⟩
    walk_at "go"
    refine w_modI (by decide) ?_
    rw [show (lv : Int) % 8 = ((lv % 8 : Nat) : Int) by omega]
    refine w_ixL (SqL.of upd_same) (four_at (lv % 8) (by omega)) ?_
    have h4 : 0 < (4 : Int) ^ (lv % 8) ∧ (4 : Int) ^ (lv % 8) < 1073741824 := four_lt (lv % 8) (by omega)
    refine w_divI h4 ?_
    walk_at "go"
    refine w_modI (by decide) ?_
    exact k _ (s1.trans (same_new hp))
/-- a drawn cell -/
def spSomeC : Sp := fun vs H Q _ => ∃ (m : Nat) (a : Addr) (R : List (Addr × HO)) (G : Hp), vs = [.ref a] ∧ LW (m + 40) a R G H ∧ ∀ (c : Cel) (H' : Hp), LW m a R G H' → okC c → Q (cv c) H'
theorem pure_some_cell {K : PySem.W.Frag} (vs : List V) (H : Hp) (Q : VK) (E : XK) (h : spSomeC vs H Q E) : t_some_cell K spTake spText spNumber { nx := fun _ H' => Q .non H', rt := Q } (start N_some_cell vs) H := by
  obtain ⟨m, a, R, G, rfl, w, k⟩ := h
  unfold t_some_cell
  walk_at "go"
  refine w_take w (by decide) (by decide) fun way H1 w h1 h2 => ?_
  walk_at "go"
  refine w_ifd (fun _ => ?_) (fun _ => ?_)
  · walk_at "go"
    exact k .non _ (w.le (by omega)) trivial
  walk_at "go"
  refine w_ifd (fun _ => ?_) (fun _ => ?_)
  · walk_at "go"
    refine ⟨m, a, R, G, rfl, w.le (by omega), fun z H2 w hz => ?_⟩
    obtain ⟨ks, rfl, hl, hk⟩ := hz
    exact k (.txt ks) _ w ⟨by omega, hk⟩
  walk_at "go"
  refine w_ifd (fun _ => ?_) (fun _ => ?_)
  · walk_at "go"
    refine w_powI ⟨by decide, by decide, by decide⟩ ?_
    walk_at "go"
    refine w_powI ⟨by decide, by decide, by decide⟩ ?_
    walk_at "go"
    refine w_powI ⟨by decide, by decide, by decide⟩ ?_
    walk_at "go"
    refine w_powI ⟨by decide, by decide, by decide⟩ ?_
    walk_at "go"
    refine w_powI ⟨by decide, by decide, by decide⟩ ?_
    walk_at "go"
    refine w_powI ⟨by decide, by decide, by decide⟩ ?_
    walk_at "go"
    refine w_powI ⟨by decide, by decide, by decide⟩ ?_
    walk_at "go"
    refine ⟨by show 7 ≤ sizeLine; decide, fun p hp => ?_⟩
    have w := w.mk (o := .lst ([(10 : Int) ^ (18 : Int).toNat, (10 : Int) ^ (19 : Int).toNat, (10 : Int) ^ (27 : Int).toNat, (10 : Int) ^ (40 : Int).toNat, (10 : Int) ^ (59 : Int).toNat, (2 : Int) ^ (62 : Int).toNat, (2 : Int) ^ (63 : Int).toNat].map V.int)) hp
    walk_at "go"
    refine w_take w (by decide) (by decide) fun z1 H2 w h3 h4 => ?_
    obtain ⟨g, hm, em⟩ := at_lit [(10 : Int) ^ (18 : Int).toNat, (10 : Int) ^ (19 : Int).toNat, (10 : Int) ^ (27 : Int).toNat, (10 : Int) ^ (40 : Int).toNat, (10 : Int) ^ (59 : Int).toNat, (2 : Int) ^ (62 : Int).toNat, (2 : Int) ^ (63 : Int).toNat] h3 h4
    refine w_ixL (SqL.of w.hd) em ?_
    have hg : 0 ≤ g ∧ g ≤ 10 ^ 59 := (show ∀ g ∈ [(10 : Int) ^ (18 : Int).toNat, (10 : Int) ^ (19 : Int).toNat, (10 : Int) ^ (27 : Int).toNat, (10 : Int) ^ (40 : Int).toNat, (10 : Int) ^ (59 : Int).toNat, (2 : Int) ^ (62 : Int).toNat, (2 : Int) ^ (63 : Int).toNat], 0 ≤ g ∧ g ≤ 10 ^ 59 from by decide) g hm
    have w := w.drop
    walk_at "go"
    refine ⟨by show 2 ≤ sizeLine; decide, fun p hp => ?_⟩
    have w := w.mk (o := .lst [.int 1, .int (-1)]) hp
    walk_at "go"
    refine w_take w (by decide) (by decide) fun z2 H3 w h5 h6 => ?_
    obtain ⟨s, hs, es⟩ := at_lit [1, -1] h5 h6
    refine w_ixL (SqL.of w.hd) es ?_
    have w := w.drop
    simp at hs
    walk_at "go"
    refine w_powI ⟨by decide, by decide, by decide⟩ ?_
    rw [show (10 : Int) ^ (9 : Int).toNat = 1000000000 from rfl]
    walk_at "go"
    refine w_take w (by decide) (by decide) fun z3 H4 w h7 h8 => ?_
    walk_at "go"
    refine w_mulI (.inl ⟨by omega, by omega⟩) ?_
    refine k (.num (s * (z3 + g))) _ (w.le (by omega)) ?_
    show (s * (z3 + g)).natAbs < 2 ^ 200
    rcases hs with rfl | rfl <;> omega
  · walk_at "go"
    exact ⟨m, a, R, G, rfl, w.le (by omega), fun n H' w hn => k (.num n) _ w (Nat.lt_trans hn (by decide))⟩
/-- cells as data -/
def dC : Cel → PyData
  | .non => .none
  | .num z => .int z
  | .txt ks => .str (txt ks)
theorem signs_small : ∀ c ∈ signs.cps.toList, c < 128 := by decide +kernel
theorem sg_small (k : Nat) : sg k < 128 := by
  unfold sg
  rw [List.getD_eq_getElem?_getD]
  cases h : signs.cps.toList[k]? with
  | none => exact (by decide : 0 < 128)
  | some c => exact signs_small c (List.mem_of_getElem? h)
theorem lay_txt (ks : List Nat) : PyData.canLay0 (.str (txt ks)) = true := by
  show (ks.map sg).toArray.all (fun c => decide (c < 0x110000)) = true
  rw [List.all_toArray, List.all_eq_true]
  intro c hc
  obtain ⟨k, _, rfl⟩ := List.mem_map.mp hc
  have := sg_small k
  exact decide_eq_true (by omega)
theorem canLayAll_cells : ∀ cs : List Cel, PyData.canLayAll0 (cs.map dC) = true
  | [] => rfl
  | c :: r => by
    rw [List.map_cons, PyData.canLayAll0, canLayAll_cells r, Bool.and_true]
    cases c with
    | non => rfl
    | num z => rfl
    | txt ks => exact lay_txt ks
theorem depthAll_cells : ∀ cs : List Cel, PyData.depthAll (cs.map dC) = 0
  | [] => rfl
  | c :: r => by
    rw [List.map_cons, PyData.depthAll, depthAll_cells r]
    cases c <;> rfl
theorem shaped_cells (cs : List Cel) : SeqAt.shaped (.list (cs.map dC)) = true := by
  unfold SeqAt.shaped
  rw [PyData.canLay0, PyData.depth, canLayAll_cells, depthAll_cells]
  rfl
theorem eqvAll_cells : ∀ cs : List Cel, PyData.eqvAll (cs.map dC) (cs.map dC) = true
  | [] => by simp [PyData.eqvAll]
  | c :: r => by
    rw [List.map_cons, PyData.eqvAll, eqvAll_cells r]
    cases c <;> simp [dC, PyData.eqv]
theorem dpAll_cells {K : PySem.W.Frag} {H : Hp} : ∀ cs : List Cel, DpAll K H (cs.map cv) (cs.map dC)
  | [] => .nil
  | c :: r => by
    refine .cons ?_ (dpAll_cells r)
    cases c
    · exact .non
    · exact .int _
    · exact .str _
theorem w_neLC {K : PySem.W.Frag} {H : Hp} {a b : Addr} {cs : List Cel} {Q : VK} (ha : H a = some (.lst (cs.map cv))) (hb : H b = some (.lst (cs.map cv))) (h : Q (.bl false) H) : rNeU K (.ref a) (.ref b) H Q := by
  refine w_neD (.lst (SqL.of ha) (dpAll_cells cs)) (.lst (SqL.of hb) (dpAll_cells cs)) (shaped_cells _) (shaped_cells _) ?_
  rw [PyData.eqv, eqvAll_cells]
  exact h
theorem pure_law58 {K : PySem.W.Frag} {n : Nat} (hn : 2 ≤ n) (vs : List V) (H : Hp) (Q : VK) (E : XK) (h : spLaw K vs H Q E) : t_law K (spBegin K) spTake spSomeC (spPart K) (spSame K n) (spPart K) { nx := fun _ H' => Q .non H', rt := Q } (start N_law vs) H := by
  obtain ⟨a, ns, rfl, hs, hl, k⟩ := h
  obtain ⟨n, rfl⟩ : ∃ n', n = n' + 2 := ⟨n - 2, by omega⟩
  unfold t_law
  walk_at "go"
  refine w_begin hs hl fun st H1 w => ?_
  walk_at "go"
  refine w_rg (n := 12) (by decide) fun J hJ => ?_
  refine for_it hJ (fun i σ H' => ∃ (v2 v4 v5 v6 v7 v8 : Option V) (G : Hp), σ = [some (.ref a), some (.ref st), v2, none, v4, v5, v6, v7, v8, none] ∧ LW (1000 * (12 - i)) st [] G H')
    ⟨none, none, none, none, none, none, _, rfl, w.le (by decide)⟩ (fun _ _ _ _ _ => trivial) (fun i x σ Hi H' hi p y => ?_) (fun σ H2 p => ?_)
  · obtain ⟨v2, v4, v5, v6, v7, v8, G, rfl, w⟩ := p
    obtain ⟨rfl, rfl⟩ := y
    walk_at "go"
    refine w_take (m := 1000 * (12 - (i + 1)) + 500) (w.le (by omega)) (by decide) (by decide) fun z1 H2 w h1 h2 => ?_
    obtain ⟨c, rfl⟩ : ∃ n : Nat, z1 = (n : Int) := ⟨z1.toNat, by omega⟩
    walk_at "go"
    refine w_rg (n := c) (by omega) fun J hJ => ?_
    intro D hD
    refine lc_it hJ (fun l H' => ∃ cs : List Cel, cs.length = l ∧ (∀ x ∈ cs, okC x) ∧ LW (1000 * (12 - (i + 1)) + 100 + 40 * (c - l)) st [(D, .lst (cs.map cv))] G H') ⟨[], rfl, by simp, (w.mk hD).le (by omega)⟩ (fun _ _ _ _ => trivial) (fun l u Hi H' hl q y => ?_) (fun H5 q => ?_)
    · obtain ⟨cs, hcs, hok, w⟩ := q
      obtain ⟨rfl, rfl⟩ := y
      walk_at "go"
      refine ⟨rfl, ?_⟩
      walk_at "go"
      refine ⟨1000 * (12 - (i + 1)) + 100 + 40 * (c - (l + 1)), st, _, G, rfl, w.le (by omega), fun x H' w hx => ?_⟩
      refine ⟨_, w.hd, by rw [List.length_map]; exact sz_lt (by omega), cs ++ [x], by simp [hcs], fun u hu => ?_, ?_⟩
      · rcases List.mem_append.mp hu with h | h
        · exact hok u h
        · rw [List.mem_singleton.mp h]; exact hx
      · rw [List.map_append]
        exact w.put
    · obtain ⟨cs, hcs, hok, w⟩ := q
      walk_at "go"
      refine w_take (m := 1000 * (12 - (i + 1)) + 50) (w.le (by omega)) (by decide) (by decide) fun z2 H6 w h3 h4 => ?_
      with_reducible refine w_gname ?_
      with_reducible refine w_seqO fun P hP => ?_
      have fin : ∀ (lv : Nat) (H : Hp), LW (1000 * (12 - (i + 1))) st [(D, .lst (cs.map cv))] G H → P [some (.ref a), some (.ref st), some (.int i), none, some (.ref D), some (.int lv), v6, v7, v8, none] H := by
        intro lv H w
        refine hP _ _ ?_
        walk_at "go"
        refine ⟨D, cs, lv, rfl, Sq.l w.hd, hok, fun H7 s7 => ?_⟩
        have w := w.same s7
        walk_at "go"
        refine w_listL (SqL.of w.hd) fun p hp => ?_
        have w := w.mk (o := .lst (cs.map cv)) hp
        generalize upd H7 p (.lst (cs.map cv)) = H8 at w ⊢
        walk_at "go"
        refine ⟨p, cs, lv, rfl, Sq.l w.hd, hok, fun H9 s9 => ?_⟩
        have w := w.same s9
        walk_at "go"
        refine w_same (.int _) (.int _) (by rfl) fun H10 s10 => ?_
        have w := w.same s10
        walk_at "go"
        refine w_neLC w.hd w.sd ?_
        walk_at "go"
        refine w_tupL (SqL.of w.sd) fun t ht => ?_
        have w := w.mk (o := .tup (cs.map cv)) ht
        walk_at "go"
        refine ⟨t, cs, lv, rfl, Sq.t w.hd, hok, fun H11 s11 => ?_⟩
        have w := w.same s11
        walk_at "go"
        refine w_same (.int _) (.int _) (by rfl) fun H12 s12 => ?_
        have w := (w.same s12).drop.drop
        walk_at "go"
        refine w_rg (n := 16) (by decide) fun J hJ => ?_
        intro D2 hD2
        refine lc_it hJ (fun l H' => ∃ (G : Hp) (ps : List Addr), ps.length = l ∧ (∀ l2 p, ps[l2]? = some p → G p = some (.lst ((cs ++ [Cel.num (l2 : Nat)]).map cv))) ∧ LW (1000 * (12 - (i + 1))) st ((D2, .lst (ps.map V.ref)) :: [(D, .lst (cs.map cv))]) G H') ⟨G, [], rfl, fun l2 p h => by simp at h, w.mk hD2⟩ (fun _ _ _ _ => trivial) (fun l u Hi H' hl q y => ?_) (fun H13 q => ?_)
        · obtain ⟨G, ps, hps, hg, w⟩ := q
          obtain ⟨rfl, rfl⟩ := y
          walk_at "go"
          refine ⟨rfl, ?_⟩
          walk_at "go"
          refine ⟨by show 1 ≤ sizeLine; decide, fun e he => ?_⟩
          have w := (w.mk (o := .lst [.int l]) he)
          refine w_addL (w.td) w.hd (by rw [List.length_map]; exact sz_le (by show _ + 1 ≤ _; omega)) fun q hq => ?_
          have w0 := w.drop
          have w := w.drop.new (o := .lst ((cs ++ [Cel.num (l : Nat)]).map cv)) hq
          rw [show cs.map cv ++ [V.int (l : Int)] = (cs ++ [Cel.num (l : Nat)]).map cv by rw [List.map_append]; rfl]
          refine ⟨_, w.hd, by rw [List.length_map]; exact sz_lt (by omega), _, ps ++ [q], by simp [hps], fun l2 p h => ?_, by rw [List.map_append]; exact w.put⟩
          rw [List.getElem?_append] at h
          by_cases z : l2 < ps.length
          · rw [if_pos z] at h
            exact same_new (H := G) (by
              cases e : G q with
              | none => rfl
              | some o => have := w0.v _ _ e; rw [this] at hq; cases hq) _ _ (hg l2 p h)
          · rw [if_neg z] at h
            have z2 : l2 = l := by
              have := (List.getElem?_eq_some_iff.mp h).1
              simp at this
              omega
            subst z2
            rw [hps, Nat.sub_self] at h
            cases h
            exact upd_same
        · obtain ⟨G, ps, hps, hg, w⟩ := q
          have hok2 : ∀ (l : Nat), ∀ x ∈ cs ++ [Cel.num (l : Nat)], l < 16 → okC x := fun l x hx hl => by
            rcases List.mem_append.mp hx with h | h
            · exact hok x h
            · rw [List.mem_singleton.mp h]
              show ((l : Nat) : Int).natAbs < 2 ^ 200
              rw [Int.natAbs_natCast]
              exact Nat.lt_trans hl (by decide)
          let vals : List Int := (List.range 16).map fun l => partN (cs ++ [Cel.num (l : Nat)]) lv
          have hv : ∀ l, l < 16 → vals[l]? = some (partN (cs ++ [Cel.num (l : Nat)]) lv) := fun l hl => by
            show ((List.range 16).map fun l => partN (cs ++ [Cel.num (l : Nat)]) lv)[l]? = _
            rw [List.getElem?_map, List.getElem?_range hl]; rfl
          have hvl : vals.length = 16 := by show ((List.range 16).map _).length = 16; rw [List.length_map, List.length_range]
          have ref_at : ∀ {l : Nat} {y : V}, (ps.map V.ref)[l]? = some y → ∃ p, ps[l]? = some p ∧ y = .ref p := fun {l y} h => by
            rw [List.getElem?_map] at h
            cases e : ps[l]? with
            | none => rw [e] at h; cases h
            | some c => rw [e] at h; exact ⟨c, rfl, (Option.some.inj h).symm⟩
          walk_at "go"
          refine w_it (Sq.l w.hd) fun J hJ => ?_
          rw [List.length_map, hps] at hJ
          intro D3 hD3
          refine lc_it hJ (LcP H13 D3 (vals.map V.int)) (lc_go hD3) (fun i H' _ p => p.1) (fun l u Hi H' hl q y => ?_) (fun H14 q => ?_)
          · obtain ⟨rfl, ey⟩ := y
            obtain ⟨p, ep, rfl⟩ := ref_at ey
            walk_at "go"
            refine ⟨rfl, ?_⟩
            walk_at "go"
            exact ⟨p, cs ++ [Cel.num (l : Nat)], lv, rfl, Sq.l (q.1 _ _ (w.v _ _ (hg l p ep))), fun x hx => hok2 l x hx hl, fun H'' s'' => lc_fin hD3 q s'' (at_int (hv l hl)) (by omega)⟩
          · have e3 := lc_end q (by rw [List.length_map, hvl]; exact Nat.le_refl _)
            have w := w.same q.1
            walk_at "go"
            refine w_it (Sq.l w.hd) fun J hJ => ?_
            rw [List.length_map, hps] at hJ
            intro D4 hD4
            refine lc_it hJ (LcP H14 D4 (vals.map V.int)) (lc_go hD4) (fun i H' _ p => p.1) (fun l u Hi H' hl q y => ?_) (fun H15 q => ?_)
            · obtain ⟨rfl, ey⟩ := y
              obtain ⟨p, ep, rfl⟩ := ref_at ey
              walk_at "go"
              refine ⟨rfl, ?_⟩
              walk_at "go"
              exact ⟨p, cs ++ [Cel.num (l : Nat)], lv, rfl, Sq.l (q.1 _ _ (w.v _ _ (hg l p ep))), fun x hx => hok2 l x hx hl, fun H'' s'' => lc_fin hD4 q s'' (at_int (hv l hl)) (by omega)⟩
            · have e4 := lc_end q (by rw [List.length_map, hvl]; exact Nat.le_refl _)
              refine w_neLI (q.1 _ _ e3) e4 ?_
              walk_at "go"
              refine w_ifn (fun q => absurd rfl q) (fun _ => ?_)
              walk_at "go"
              exact ⟨_, _, _, _, _, _, G, rfl, (w.same q.1).drop.drop⟩
      walk_at "go"
      refine w_take (m := 1000 * (12 - (i + 1)) + 40) (w.le (by omega)) (by decide) (by decide) fun z3 H7 w h5 h6 => ?_
      walk_at "go"
      refine w_ifd (fun _ => ?_) (fun _ => ?_)
      · walk_at "go"
        refine w_take (m := 1000 * (12 - (i + 1))) (w.le (by omega)) (by decide) (by decide) fun z4 H8 w h7 h8 => ?_
        obtain ⟨lv, rfl⟩ : ∃ n : Nat, z4 = (n : Int) := ⟨z4.toNat, by omega⟩
        exact fin lv _ w
      · obtain ⟨lv, rfl⟩ : ∃ n : Nat, z2 = (n : Int) := ⟨z2.toNat, by omega⟩
        exact fin lv _ (w.le (by omega))
  · obtain ⟨v2, v4, v5, v6, v7, v8, G, rfl, w⟩ := p
    walk_at "go"
    exact k _
end Ps

namespace Ps
open PySem PySem.Spec PyProof.Rows L2
def topS (i : Nat) : Stmt := PySem.Challenge.pw_pillarstore_k58_parts_of_cells.main.body.getD i (.Pass ⟨0, 0, 0, 0⟩)
section
variable {P : Program} {w : World} {K : PySem.W.Frag} {mg : Str → Option Value} {base : Heap}
abbrev NN_number_bytes : List Str := [("number" : Str), ("rest" : Str), ("made" : Str)]
abbrev s_number_bytes : Stmt := topS 3
theorem sc_number_bytes : FnScope NN_number_bytes [("number" : Str)] (defScope s_number_bytes) := ⟨rfl, rfl, rfl, by decide +kernel, rfl, by decide +kernel, by decide +kernel⟩
theorem ok_number_bytes {f : Addr} {fd : FuncData} (F : Fun K ("number_bytes" : Str) ("number_bytes" : Str) s_number_bytes f fd) {kt_MORE : Tok} (k_MORE : mg ("MORE" : Str) = some (.int 128 kt_MORE)) {sp : Sp} (hl : ∀ vs H Q E, sp vs H Q E → vs.length = 1)
    (hp : ∀ vs H Q E, sp vs H Q E → t_number_bytes K { nx := fun _ H' => Q .non H', rt := Q } (start NN_number_bytes vs) H) : FnOk P w K mg base CX0 1 f fd [("number" : Str)] sp := by
  refine F.ok (k := 0) sc_number_bytes hl (fun cdv A outer s H vs Q E hr h => ⟨t_number_bytes K, ?_, hp vs H Q E h⟩)
  exact (pss_cons (ps_set (i := 1) sc_number_bytes.nd rfl (by first | exact Or.inl rfl | exact Or.inr rfl) (pe_op op_mulU pe_int (pv 0)))
      (pss_cons (ps_if (pt_cmpR op_ltU (pv 0) pe_int (nomark _))
      (pss_one (ps_set (i := 1) sc_number_bytes.nd rfl (by first | exact Or.inl rfl | exact Or.inr rfl) (pe_op op_subU (pe_op op_mulU (pe_un un_negU pe_int) (pv 0)) pe_int)))
      pss_nil)
      (pss_cons (ps_set (i := 2) sc_number_bytes.nd rfl (by first | exact Or.inl rfl | exact Or.inr rfl) (pe_lst pa_nil))
      (pss_cons (ps_while PassesOwn.never (pt_cmpR op_geU (pv 1) (pe_glob rfl k_MORE ⟨_, rfl⟩) (nomark _))
      (pss_cons (ps_expr (pe_bm PySem.F.plainAttrs_list PySem.F.slot_list_append PySem.F.type_list_append mt_append (pv 2) (pa_cons (pe_op op_addU (pe_op op_modU (pv 1) (pe_glob rfl k_MORE ⟨_, rfl⟩)) (pe_glob rfl k_MORE ⟨_, rfl⟩)) pa_nil)))
      (pss_one (ps_set (i := 1) sc_number_bytes.nd rfl (by first | exact Or.inl rfl | exact Or.inr rfl) (pe_op op_divU (pv 1) (pe_glob rfl k_MORE ⟨_, rfl⟩))))))
      (pss_one (ps_ret (pe_op op_addU (pv 2) (pe_lst (pa_cons (pv 1) pa_nil)))))))))
abbrev NN_text_bytes : List Str := [("text" : Str), ("sign" : Str)]
abbrev s_text_bytes : Stmt := topS 4
theorem sc_text_bytes : FnScope NN_text_bytes [("text" : Str)] (defScope s_text_bytes) := ⟨rfl, rfl, rfl, by decide +kernel, rfl, by decide +kernel, by decide +kernel⟩
theorem ok_text_bytes {f : Addr} {fd : FuncData} (F : Fun K ("text_bytes" : Str) ("text_bytes" : Str) s_text_bytes f fd) {f_number_bytes : Addr} {fd_number_bytes : FuncData} {s_number_bytes_ : Sp} (G_number_bytes : FnOk P w K mg base CX0 1 f_number_bytes fd_number_bytes [("number" : Str)] s_number_bytes_) (b_number_bytes : Binds K fd_number_bytes [("number" : Str)] []) (m_number_bytes : mg ("number_bytes" : Str) = some (.ref f_number_bytes)) (kp_number_bytes : PySem.W.keepIn K (.ref f_number_bytes) = true) (z_len : mg ("len" : Str) = none) {kt_SIGNS : Tok} (k_SIGNS : mg ("SIGNS" : Str) = some (.str (" !\"#$&'()*+,-./0123456789:;<=>?@ABCDEFGHIJKLMNOPQRSTUVWXYZ[\\]^_`abcdefghijklmnopqrstuvwxyz{|}~" : Str) kt_SIGNS)) {sp : Sp} (hl : ∀ vs H Q E, sp vs H Q E → vs.length = 1)
    (hp : ∀ vs H Q E, sp vs H Q E → t_text_bytes K s_number_bytes_ { nx := fun _ H' => Q .non H', rt := Q } (start NN_text_bytes vs) H) : FnOk P w K mg base CX0 2 f fd [("text" : Str)] sp := by
  refine F.ok (k := 1) sc_text_bytes hl (fun cdv A outer s H vs Q E hr h => ⟨t_text_bytes K s_number_bytes_, ?_, hp vs H Q E h⟩)
  exact (pss_one (ps_ret (pe_op op_addU (pe_call G_number_bytes (hr.mono (by decide)) (by rfl) m_number_bytes kp_number_bytes b_number_bytes .nil pass0 (pa_cons (pe_callB call_lenU (by rfl) z_len bt_len (pa_cons (pv 0) pa_nil)) pa_nil)) (pe_lc (own := [(("sign" : Str), 1)]) (g := (gName 1)) (tt := tYes) (te := (tBM K "str" (rSIdx) (tC (.str (" !\"#$&'()*+,-./0123456789:;<=>?@ABCDEFGHIJKLMNOPQRSTUVWXYZ[\\]^_`abcdefghijklmnopqrstuvwxyz{|}~" : Str))) (tCons (tVar 1) tNil))) (by rfl) sc_text_bytes.nd (pi_seqV (pv 0)) (blkOk_by (own := [(("sign" : Str), 1)]) (N := [("text" : Str), ("sign" : Str)]) (sc := defScope s_text_bytes) (by decide +kernel)) (fun _ _ _ _ _ => (pg_name (i := 1) sc_text_bytes.nd rfl (by first | exact Or.inl rfl | exact Or.inr rfl))) (fun _ _ _ _ _ => pts_nil) (fun _ _ _ _ _ => (pe_bm PySem.F.plainAttrs_str PySem.F.slot_str_index PySem.F.type_str_index mt_sidx (pe_glob rfl k_SIGNS ⟨_, rfl⟩) (pa_cons (pv 1) pa_nil)))))))
abbrev NN_cell_bytes : List Str := [("cell" : Str)]
abbrev s_cell_bytes : Stmt := topS 5
theorem sc_cell_bytes : FnScope NN_cell_bytes [("cell" : Str)] (defScope s_cell_bytes) := ⟨rfl, rfl, rfl, by decide +kernel, rfl, by decide +kernel, by decide +kernel⟩
theorem ok_cell_bytes {f : Addr} {fd : FuncData} (F : Fun K ("cell_bytes" : Str) ("cell_bytes" : Str) s_cell_bytes f fd) {f_text_bytes : Addr} {fd_text_bytes : FuncData} {s_text_bytes_ : Sp} (G_text_bytes : FnOk P w K mg base CX0 2 f_text_bytes fd_text_bytes [("text" : Str)] s_text_bytes_) (b_text_bytes : Binds K fd_text_bytes [("text" : Str)] []) (m_text_bytes : mg ("text_bytes" : Str) = some (.ref f_text_bytes)) (kp_text_bytes : PySem.W.keepIn K (.ref f_text_bytes) = true) {f_number_bytes : Addr} {fd_number_bytes : FuncData} {s_number_bytes_ : Sp} (G_number_bytes : FnOk P w K mg base CX0 1 f_number_bytes fd_number_bytes [("number" : Str)] s_number_bytes_) (b_number_bytes : Binds K fd_number_bytes [("number" : Str)] []) (m_number_bytes : mg ("number_bytes" : Str) = some (.ref f_number_bytes)) (kp_number_bytes : PySem.W.keepIn K (.ref f_number_bytes) = true) (z_isinstance : mg ("isinstance" : Str) = none) (z_str : mg ("str" : Str) = none) {sp : Sp} (hl : ∀ vs H Q E, sp vs H Q E → vs.length = 1)
    (hp : ∀ vs H Q E, sp vs H Q E → t_cell_bytes K s_text_bytes_ s_number_bytes_ { nx := fun _ H' => Q .non H', rt := Q } (start NN_cell_bytes vs) H) : FnOk P w K mg base CX0 3 f fd [("cell" : Str)] sp := by
  refine F.ok (k := 2) sc_cell_bytes hl (fun cdv A outer s H vs Q E hr h => ⟨t_cell_bytes K s_text_bytes_ s_number_bytes_, ?_, hp vs H Q E h⟩)
  exact (pss_cons (ps_if (pt_cmpR op_isNU (pv 0) pe_non (nomark _))
      (pss_one (ps_ret (pe_lst (pa_cons pe_int pa_nil))))
      pss_nil)
      (pss_cons (ps_if (pt_truU (pe_callB call_isiU (by rfl) z_isinstance bt_isinstance (pa_cons (pv 0) (pa_cons (pe_bltn (by rfl) z_str bt_str rfl) pa_nil))) (by intro _; rfl))
      (pss_one (ps_ret (pe_op op_addU (pe_lst (pa_cons pe_int pa_nil)) (pe_call G_text_bytes (hr.mono (by decide)) (by rfl) m_text_bytes kp_text_bytes b_text_bytes .nil pass0 (pa_cons (pv 0) pa_nil)))))
      pss_nil)
      (pss_one (ps_ret (pe_op op_addU (pe_lst (pa_cons pe_int pa_nil)) (pe_call G_number_bytes (hr.mono (by decide)) (by rfl) m_number_bytes kp_number_bytes b_number_bytes .nil pass0 (pa_cons (pv 0) pa_nil)))))))
abbrev NN_part_of : List Str := [("cells" : Str), ("level" : Str), ("number" : Str), ("cell" : Str), ("byte" : Str), ("turn" : Str)]
abbrev s_part_of : Stmt := topS 10
theorem sc_part_of : FnScope NN_part_of [("cells" : Str), ("level" : Str)] (defScope s_part_of) := ⟨rfl, rfl, rfl, by decide +kernel, rfl, by decide +kernel, by decide +kernel⟩
theorem ok_part_of {f : Addr} {fd : FuncData} (F : Fun K ("part_of" : Str) ("part_of" : Str) s_part_of f fd) {f_cell_bytes : Addr} {fd_cell_bytes : FuncData} {s_cell_bytes_ : Sp} (G_cell_bytes : FnOk P w K mg base CX0 3 f_cell_bytes fd_cell_bytes [("cell" : Str)] s_cell_bytes_) (b_cell_bytes : Binds K fd_cell_bytes [("cell" : Str)] []) (m_cell_bytes : mg ("cell_bytes" : Str) = some (.ref f_cell_bytes)) (kp_cell_bytes : PySem.W.keepIn K (.ref f_cell_bytes) = true) (z_range : mg ("range" : Str) = none) {kt_TIMES : Tok} (k_TIMES : mg ("TIMES" : Str) = some (.int 8 kt_TIMES)) {kt_ROUND : Tok} (k_ROUND : mg ("ROUND" : Str) = some (.int 65521 kt_ROUND)) {kt_WAYS : Tok} (k_WAYS : mg ("WAYS" : Str) = some (.int 4 kt_WAYS)) {sp : Sp} (hl : ∀ vs H Q E, sp vs H Q E → vs.length = 2)
    (hp : ∀ vs H Q E, sp vs H Q E → t_part_of K s_cell_bytes_ { nx := fun _ H' => Q .non H', rt := Q } (start NN_part_of vs) H) : FnOk P w K mg base CX0 4 f fd [("cells" : Str), ("level" : Str)] sp := by
  refine F.ok (k := 3) sc_part_of hl (fun cdv A outer s H vs Q E hr h => ⟨t_part_of K s_cell_bytes_, ?_, hp vs H Q E h⟩)
  exact (pss_cons (ps_set (i := 2) sc_part_of.nd rfl (by first | exact Or.inl rfl | exact Or.inr rfl) (pe_op op_divU (pv 1) (pe_glob rfl k_TIMES ⟨_, rfl⟩)))
      (pss_cons (ps_for PassesOwn.never rfl (pi_seqV (pv 0)) (pg_name (i := 3) sc_part_of.nd rfl (by first | exact Or.inl rfl | exact Or.inr rfl))
      (pss_one (ps_for PassesOwn.never rfl (pi_seqV (pe_call G_cell_bytes (hr.mono (by decide)) (by rfl) m_cell_bytes kp_cell_bytes b_cell_bytes .nil pass0 (pa_cons (pv 3) pa_nil))) (pg_name (i := 4) sc_part_of.nd rfl (by first | exact Or.inl rfl | exact Or.inr rfl))
      (pss_one (ps_set (i := 2) sc_part_of.nd rfl (by first | exact Or.inl rfl | exact Or.inr rfl) (pe_op op_modU (pe_op op_addU (pe_op op_addU (pe_op op_mulU (pv 2) pe_int) (pv 4)) pe_int) (pe_glob rfl k_ROUND ⟨_, rfl⟩)))))))
      (pss_cons (ps_for PassesOwn.never rfl (pi_range1 rfl z_range (pa_cons (pe_op op_modU (pv 1) (pe_glob rfl k_TIMES ⟨_, rfl⟩)) pa_nil)) (pg_name (i := 5) sc_part_of.nd rfl (by first | exact Or.inl rfl | exact Or.inr rfl))
      (pss_one (ps_set (i := 2) sc_part_of.nd rfl (by first | exact Or.inl rfl | exact Or.inr rfl) (pe_op op_divU (pv 2) (pe_glob rfl k_WAYS ⟨_, rfl⟩)))))
      (pss_one (ps_ret (pe_op op_modU (pv 2) (pe_glob rfl k_WAYS ⟨_, rfl⟩)))))))
abbrev NN_begin : List Str := [("_law_script" : Str), ("_law_cells" : Str)]
abbrev s_begin : Stmt := topS 12
theorem sc_begin : FnScope NN_begin [("_law_script" : Str)] (defScope s_begin) := ⟨rfl, rfl, rfl, by decide +kernel, rfl, by decide +kernel, by decide +kernel⟩
theorem ok_begin {f : Addr} {fd : FuncData} (F : Fun K ("_law_begin" : Str) ("_law_begin" : Str) s_begin f fd) (z_list : mg ("list" : Str) = none) {sp : Sp} (hl : ∀ vs H Q E, sp vs H Q E → vs.length = 1)
    (hp : ∀ vs H Q E, sp vs H Q E → t_begin K { nx := fun _ H' => Q .non H', rt := Q } (start NN_begin vs) H) : FnOk P w K mg base CX0 1 f fd [("_law_script" : Str)] sp := by
  refine F.ok (k := 0) sc_begin hl (fun cdv A outer s H vs Q E hr h => ⟨t_begin K, ?_, hp vs H Q E h⟩)
  exact (pss_cons (ps_set (i := 1) sc_begin.nd rfl (by first | exact Or.inl rfl | exact Or.inr rfl) (pe_callTy (call_listU (by rfl)) (by rfl) z_list bt_list (pa_cons (pe_slice sl_u (pv 0) po_none (po_some pe_int)) pa_nil)))
      (pss_cons (ps_if (pt_cmpR (op_eqU hr.units) (pv 1) (pe_lst pa_nil) (nomark _))
      (pss_one (ps_set (i := 1) sc_begin.nd rfl (by first | exact Or.inl rfl | exact Or.inr rfl) (pe_lst (pa_cons pe_int pa_nil))))
      pss_nil)
      (pss_one (ps_ret (pe_disp (pps_cons pe_str (pv 1) (pps_cons pe_str pe_int pps_nil)) (by rfl) (by rfl) (fun z => by cases z) (by decide))))))
abbrev NN_take : List Str := [("_law_state" : Str), ("_law_many" : Str), ("_law_turn" : Str), ("_law_place" : Str), ("_law_cell" : Str), ("_law_digit" : Str), ("_law_mixed" : Str)]
abbrev s_take : Stmt := topS 13
theorem sc_take : FnScope NN_take [("_law_state" : Str), ("_law_many" : Str)] (defScope s_take) := ⟨rfl, rfl, rfl, by decide +kernel, rfl, by decide +kernel, by decide +kernel⟩
theorem ok_take {f : Addr} {fd : FuncData} (F : Fun K ("_law_take" : Str) ("_law_take" : Str) s_take f fd) (z_len : mg ("len" : Str) = none) (z_divmod : mg ("divmod" : Str) = none) {sp : Sp} (hl : ∀ vs H Q E, sp vs H Q E → vs.length = 2)
    (hp : ∀ vs H Q E, sp vs H Q E → t_take K { nx := fun _ H' => Q .non H', rt := Q } (start NN_take vs) H) : FnOk P w K mg base CX0 1 f fd [("_law_state" : Str), ("_law_many" : Str)] sp := by
  refine F.ok (k := 0) sc_take hl (fun cdv A outer s H vs Q E hr h => ⟨t_take K, ?_, hp vs H Q E h⟩)
  exact (pss_cons (ps_set (i := 2) sc_take.nd rfl (by first | exact Or.inl rfl | exact Or.inr rfl) (pe_op op_addU (pe_ix (ix_u (hu_of hr)) (pv 0) pe_str (fun _ _ => rfl)) pe_int))
      (pss_cons (ps_asg (pv 2) (pg_sub (pv 0) pe_str (set_u (hu_of hr))))
      (pss_cons (ps_set (i := 3) sc_take.nd rfl (by first | exact Or.inl rfl | exact Or.inr rfl) (pe_op op_modU (pv 2) (pe_callB call_lenU (by rfl) z_len bt_len (pa_cons (pe_ix (ix_u (hu_of hr)) (pv 0) pe_str (fun _ _ => rfl)) pa_nil))))
      (pss_cons (ps_set (i := 4) sc_take.nd rfl (by first | exact Or.inl rfl | exact Or.inr rfl) (pe_ix (ix_u (hu_of hr)) (pe_ix (ix_u (hu_of hr)) (pv 0) pe_str (fun _ _ => rfl)) (pv 3) (fun _ _ => rfl)))
      (pss_cons (ps_if (pt_cmpR op_geU (pv 4) (pe_op op_powU pe_int pe_int) (nomark _))
      (pss_cons (ps_asg (pe_callB call_divmodU (by rfl) z_divmod bt_divmod (pa_cons (pv 4) (pa_cons (pv 1) pa_nil))) (pg_tup rfl (pgs_cons (pg_sub (pe_ix (ix_u (hu_of hr)) (pv 0) pe_str (fun _ _ => rfl)) (pv 3) (set_u (hu_of hr))) (pgs_cons (pg_name (i := 5) sc_take.nd rfl (by first | exact Or.inl rfl | exact Or.inr rfl)) pgs_nil))))
      (pss_one (ps_ret (pv 5))))
      pss_nil)
      (pss_cons (ps_set (i := 6) sc_take.nd rfl (by first | exact Or.inl rfl | exact Or.inr rfl) (pe_op op_modU (pe_op op_mulU (pe_op op_addU (pe_op op_addU (pe_op op_modU (pv 4) pe_int) (pe_op op_mulU (pe_op op_mulU (pv 2) (pv 2)) pe_int)) pe_int) pe_int) pe_int))
      (pss_cons (ps_set (i := 6) sc_take.nd rfl (by first | exact Or.inl rfl | exact Or.inr rfl) (pe_op op_modU (pe_op op_mulU (pv 6) (pv 6)) pe_int))
      (pss_one (ps_ret (pe_op op_modU (pe_op op_divU (pe_op op_modU (pe_op op_mulU (pe_op op_addU (pv 6) (pe_op op_mulU (pv 2) pe_int)) pe_int) pe_int) pe_int) (pv 1)))))))))))
abbrev NN_number : List Str := [("_law_state" : Str), ("_law_way" : Str), ("_law_number_here" : Str)]
abbrev s_number : Stmt := topS 14
theorem sc_number : FnScope NN_number [("_law_state" : Str)] (defScope s_number) := ⟨rfl, rfl, rfl, by decide +kernel, rfl, by decide +kernel, by decide +kernel⟩
theorem ok_number {f : Addr} {fd : FuncData} (F : Fun K ("_law_number" : Str) ("_law_number" : Str) s_number f fd) {f_take : Addr} {fd_take : FuncData} {s_take_ : Sp} (G_take : FnOk P w K mg base CX0 1 f_take fd_take [("_law_state" : Str), ("_law_many" : Str)] s_take_) (b_take : Binds K fd_take [("_law_state" : Str), ("_law_many" : Str)] []) (m_take : mg ("_law_take" : Str) = some (.ref f_take)) (kp_take : PySem.W.keepIn K (.ref f_take) = true) {sp : Sp} (hl : ∀ vs H Q E, sp vs H Q E → vs.length = 1)
    (hp : ∀ vs H Q E, sp vs H Q E → t_number K s_take_ { nx := fun _ H' => Q .non H', rt := Q } (start NN_number vs) H) : FnOk P w K mg base CX0 2 f fd [("_law_state" : Str)] sp := by
  refine F.ok (k := 1) sc_number hl (fun cdv A outer s H vs Q E hr h => ⟨t_number K s_take_, ?_, hp vs H Q E h⟩)
  exact (pss_cons (ps_set (i := 1) sc_number.nd rfl (by first | exact Or.inl rfl | exact Or.inr rfl) (pe_call G_take (hr.mono (by decide)) (by rfl) m_take kp_take b_take .nil pass0 (pa_cons (pv 0) (pa_cons pe_int pa_nil))))
      (pss_cons (ps_set (i := 2) sc_number.nd rfl (by first | exact Or.inl rfl | exact Or.inr rfl) (pe_call G_take (hr.mono (by decide)) (by rfl) m_take kp_take b_take .nil pass0 (pa_cons (pv 0) (pa_cons pe_int pa_nil))))
      (pss_cons (ps_if (pt_cmpR (op_eqU hr.units) (pv 1) pe_int (nomark _))
      (pss_one (ps_set (i := 2) sc_number.nd rfl (by first | exact Or.inl rfl | exact Or.inr rfl) (pe_ix (ix_u (hu_of hr)) (pe_lst (pa_cons pe_int (pa_cons pe_int (pa_cons pe_int (pa_cons pe_int (pa_cons pe_int (pa_cons pe_int (pa_cons pe_int (pa_cons pe_int (pa_cons (pe_op op_subU (pe_op op_powU pe_int pe_int) pe_int) (pa_cons (pe_op op_powU pe_int pe_int) (pa_cons pe_int (pa_cons pe_int pa_nil))))))))))))) (pv 2) (fun _ _ => rfl))))
      pss_nil)
      (pss_cons (ps_if (pt_cmpR (op_eqU hr.units) (pv 1) pe_int (nomark _))
      (pss_one (ps_set (i := 2) sc_number.nd rfl (by first | exact Or.inl rfl | exact Or.inr rfl) (pe_op op_addU (pe_op op_mulU (pe_call G_take (hr.mono (by decide)) (by rfl) m_take kp_take b_take .nil pass0 (pa_cons (pv 0) (pa_cons (pe_op op_powU pe_int pe_int) pa_nil))) (pe_op op_powU pe_int pe_int)) (pe_call G_take (hr.mono (by decide)) (by rfl) m_take kp_take b_take .nil pass0 (pa_cons (pv 0) (pa_cons (pe_op op_powU pe_int pe_int) pa_nil))))))
      pss_nil)
      (pss_cons (ps_if (pt_cmpR (op_eqU hr.units) (pv 1) pe_int (nomark _))
      (pss_one (ps_set (i := 2) sc_number.nd rfl (by first | exact Or.inl rfl | exact Or.inr rfl) (pe_call G_take (hr.mono (by decide)) (by rfl) m_take kp_take b_take .nil pass0 (pa_cons (pv 0) (pa_cons pe_int pa_nil)))))
      pss_nil)
      (pss_one (ps_ret (pe_op op_mulU (pv 2) (pe_ix (ix_u (hu_of hr)) (pe_lst (pa_cons pe_int (pa_cons (pe_un un_negU pe_int) pa_nil))) (pe_call G_take (hr.mono (by decide)) (by rfl) m_take kp_take b_take .nil pass0 (pa_cons (pv 0) (pa_cons pe_int pa_nil))) (fun _ _ => rfl))))))))))
abbrev NN_text : List Str := [("_law_state" : Str), ("_law_words" : Str), ("_law_signs" : Str), ("_law_turn" : Str)]
abbrev s_text : Stmt := topS 15
theorem sc_text : FnScope NN_text [("_law_state" : Str)] (defScope s_text) := ⟨rfl, rfl, rfl, by decide +kernel, rfl, by decide +kernel, by decide +kernel⟩
theorem ok_text {f : Addr} {fd : FuncData} (F : Fun K ("_law_text" : Str) ("_law_text" : Str) s_text f fd) {f_take : Addr} {fd_take : FuncData} {s_take_ : Sp} (G_take : FnOk P w K mg base CX0 1 f_take fd_take [("_law_state" : Str), ("_law_many" : Str)] s_take_) (b_take : Binds K fd_take [("_law_state" : Str), ("_law_many" : Str)] []) (m_take : mg ("_law_take" : Str) = some (.ref f_take)) (kp_take : PySem.W.keepIn K (.ref f_take) = true) (z_range : mg ("range" : Str) = none) (z_len : mg ("len" : Str) = none) {sp : Sp} (hl : ∀ vs H Q E, sp vs H Q E → vs.length = 1)
    (hp : ∀ vs H Q E, sp vs H Q E → t_text K s_take_ { nx := fun _ H' => Q .non H', rt := Q } (start NN_text vs) H) : FnOk P w K mg base CX0 2 f fd [("_law_state" : Str)] sp := by
  refine F.ok (k := 1) sc_text hl (fun cdv A outer s H vs Q E hr h => ⟨t_text K s_take_, ?_, hp vs H Q E h⟩)
  exact (pss_cons (ps_set (i := 1) sc_text.nd rfl (by first | exact Or.inl rfl | exact Or.inr rfl) (pe_lst (pa_cons pe_str (pa_cons pe_str (pa_cons pe_str (pa_cons pe_str (pa_cons pe_str (pa_cons pe_str (pa_cons pe_str (pa_cons pe_str (pa_cons pe_str (pa_cons pe_str (pa_cons (pe_op op_mulT pe_str pe_int) (pa_cons (pe_slice sl_u pe_str po_none (po_some pe_int)) pa_nil))))))))))))))
      (pss_cons (ps_if (pt_cmpR op_gtU (pe_call G_take (hr.mono (by decide)) (by rfl) m_take kp_take b_take .nil pass0 (pa_cons (pv 0) (pa_cons pe_int pa_nil))) pe_int (nomark _))
      (pss_one (ps_ret (pe_ix (ix_u (hu_of hr)) (pv 1) (pe_call G_take (hr.mono (by decide)) (by rfl) m_take kp_take b_take .nil pass0 (pa_cons (pv 0) (pa_cons pe_int pa_nil))) (fun _ _ => rfl))))
      pss_nil)
      (pss_cons (ps_set (i := 2) sc_text.nd rfl (by first | exact Or.inl rfl | exact Or.inr rfl) pe_str)
      (pss_one (ps_ret (pe_bm PySem.F.plainAttrs_str PySem.F.slot_str_join PySem.F.type_str_join mt_joinS pe_str (pa_cons (pe_lc (own := [(("_law_turn" : Str), 3)]) (g := (gName 3)) (tt := tYes) (te := (tOp (rIxU K) (tVar 2) (tCall s_take_ [] E0 (tCons (tVar 0) (tCons (tCB (rLenU K) (tCons (tVar 2) tNil)) tNil))))) (by rfl) sc_text.nd (pi_range1 rfl z_range (pa_cons (pe_call G_take (hr.mono (by decide)) (by rfl) m_take kp_take b_take .nil pass0 (pa_cons (pv 0) (pa_cons pe_int pa_nil))) pa_nil)) (blkOk_by (own := [(("_law_turn" : Str), 3)]) (N := [("_law_state" : Str), ("_law_words" : Str), ("_law_signs" : Str), ("_law_turn" : Str)]) (sc := defScope s_text) (by decide +kernel)) (fun _ _ _ _ _ => (pg_name (i := 3) sc_text.nd rfl (by first | exact Or.inl rfl | exact Or.inr rfl))) (fun _ _ _ _ _ => pts_nil) (fun _ _ _ _ _ => (pe_ix (ix_u (hu_of hr)) (pv 2) (pe_call G_take (hr.mono (by decide)) (by rfl) m_take kp_take b_take .nil pass0 (pa_cons (pv 0) (pa_cons (pe_callB call_lenU (by rfl) z_len bt_len (pa_cons (pv 2) pa_nil)) pa_nil))) (fun _ _ => rfl)))) pa_nil)))))))
abbrev NN_same : List Str := [("_law_found" : Str), ("_law_due" : Str), ("_law_name" : Str), ("_law_one" : Str), ("_law_other" : Str)]
abbrev s_same : Stmt := topS 16
theorem sc_same : FnScope NN_same [("_law_found" : Str), ("_law_due" : Str)] (defScope s_same) := ⟨rfl, rfl, rfl, by decide +kernel, rfl, by decide +kernel, by decide +kernel⟩
theorem ok_same {k : Nat} {f : Addr} {fd : FuncData} (F : Fun K ("_law_same" : Str) ("_law_same" : Str) s_same f fd) {f_same : Addr} {fd_same : FuncData} {s_same_ : Sp} (G_same : FnOk P w K mg base CX0 k f_same fd_same [("_law_found" : Str), ("_law_due" : Str)] s_same_) (b_same : Binds K fd_same [("_law_found" : Str), ("_law_due" : Str)] []) (m_same : mg ("_law_same" : Str) = some (.ref f_same)) (kp_same : PySem.W.keepIn K (.ref f_same) = true) (z_isinstance : mg ("isinstance" : Str) = none) (z_dict : mg ("dict" : Str) = none) (z_list : mg ("list" : Str) = none) (z_tuple : mg ("tuple" : Str) = none) (z_len : mg ("len" : Str) = none) (z_all : mg ("all" : Str) = none) (z_zip : mg ("zip" : Str) = none) (z_str : mg ("str" : Str) = none) (z_int : mg ("int" : Str) = none) (z_bool : mg ("bool" : Str) = none) {sp : Sp} (hl : ∀ vs H Q E, sp vs H Q E → vs.length = 2)
    (hp : ∀ vs H Q E, sp vs H Q E → t_same K s_same_ { nx := fun _ H' => Q .non H', rt := Q } (start NN_same vs) H) : FnOk P w K mg base CX0 (k + 1) f fd [("_law_found" : Str), ("_law_due" : Str)] sp := by
  refine F.ok (k := k) sc_same hl (fun cdv A outer s H vs Q E hr h => ⟨t_same K s_same_, ?_, hp vs H Q E h⟩)
  exact (pss_cons (ps_if (pt_cmpR op_isNU (pv 1) pe_non (nomark _))
      (pss_one (ps_ret (pe_cmpR op_isNU (pv 0) pe_non (nomark _))))
      pss_nil)
      (pss_cons (ps_if (pt_truU (pe_callB call_isiU (by rfl) z_isinstance bt_isinstance (pa_cons (pv 1) (pa_cons (pe_bltn (by rfl) z_dict bt_dict rfl) pa_nil))) (by intro _; rfl))
      (pss_cons ps_never
      (pss_one ps_never))
      pss_nil)
      (pss_cons (ps_if (PW.pt (pw_or (pt_truU (pe_callB call_isiU (by rfl) z_isinstance bt_isinstance (pa_cons (pv 1) (pa_cons (pe_bltn (by rfl) z_list bt_list rfl) pa_nil))) (by intro _; rfl)) (pw_or1 (pt_truU (pe_callB call_isiU (by rfl) z_isinstance bt_isinstance (pa_cons (pv 1) (pa_cons (pe_bltn (by rfl) z_tuple bt_tuple rfl) pa_nil))) (by intro _; rfl)))))
      (pss_cons (ps_if (pt_cmpR (op_neU hr.units) (pe_callB call_isiU (by rfl) z_isinstance bt_isinstance (pa_cons (pv 0) (pa_cons (pe_bltn (by rfl) z_list bt_list rfl) pa_nil))) (pe_callB call_isiU (by rfl) z_isinstance bt_isinstance (pa_cons (pv 1) (pa_cons (pe_bltn (by rfl) z_list bt_list rfl) pa_nil))) (nomark _))
      (pss_one (ps_ret pe_bl))
      pss_nil)
      (pss_cons (ps_if (PW.pt (pw_or (pt_cmpR (op_neU hr.units) (pe_callB call_isiU (by rfl) z_isinstance bt_isinstance (pa_cons (pv 0) (pa_cons (pe_bltn (by rfl) z_tuple bt_tuple rfl) pa_nil))) (pe_callB call_isiU (by rfl) z_isinstance bt_isinstance (pa_cons (pv 1) (pa_cons (pe_bltn (by rfl) z_tuple bt_tuple rfl) pa_nil))) (nomark _)) (pw_or1 (pt_cmpR (op_neU hr.units) (pe_callB call_lenU (by rfl) z_len bt_len (pa_cons (pv 0) pa_nil)) (pe_callB call_lenU (by rfl) z_len bt_len (pa_cons (pv 1) pa_nil)) (nomark _)))))
      (pss_one (ps_ret pe_bl))
      pss_nil)
      (pss_one (ps_ret (pe_callB (cr_all (by rfl)) (by rfl) z_all bt_all (pa_cons (pe_lc (own := [(("_law_one" : Str), 3), (("_law_other" : Str), 4)]) (g := (gTup K 2 (gCons (gName 3) (gCons (gName 4) gNil)))) (tt := tYes) (te := (tCall s_same_ [] E0 (tCons (tVar 3) (tCons (tVar 4) tNil)))) (by rfl) sc_same.nd (RZ.pi_zipA (by rfl) z_zip (pa_cons (pv 0) (pa_cons (pv 1) pa_nil))) (blkOk_by (own := [(("_law_one" : Str), 3), (("_law_other" : Str), 4)]) (N := [("_law_found" : Str), ("_law_due" : Str), ("_law_name" : Str), ("_law_one" : Str), ("_law_other" : Str)]) (sc := defScope s_same) (by decide +kernel)) (fun _ _ _ _ _ => (pg_tup rfl (pgs_cons (pg_name (i := 3) sc_same.nd rfl (by first | exact Or.inl rfl | exact Or.inr rfl)) (pgs_cons (pg_name (i := 4) sc_same.nd rfl (by first | exact Or.inl rfl | exact Or.inr rfl)) pgs_nil)))) (fun _ _ _ _ _ => pts_nil) (fun _ _ _ _ _ => (pe_call G_same (hr.mono (by exact Nat.le_refl _)) (by rfl) m_same kp_same b_same .nil pass0 (pa_cons (pv 3) (pa_cons (pv 4) pa_nil))))) pa_nil))))))
      pss_nil)
      (pss_cons (ps_if (pt_truU (pe_callB call_isiU (by rfl) z_isinstance bt_isinstance (pa_cons (pv 1) (pa_cons (pe_bltn (by rfl) z_str bt_str rfl) pa_nil))) (by intro _; rfl))
      (pss_one (ps_ret (pe_and (pe_callB call_isiU (by rfl) z_isinstance bt_isinstance (pa_cons (pv 0) (pa_cons (pe_bltn (by rfl) z_str bt_str rfl) pa_nil))) (pe_one (pe_cmpR (op_eqU hr.units) (pv 0) (pv 1) (nomark _))))))
      pss_nil)
      (pss_one (ps_ret (pe_and (pe_callB call_isiU (by rfl) z_isinstance bt_isinstance (pa_cons (pv 0) (pa_cons (pe_bltn (by rfl) z_int bt_int rfl) pa_nil))) (pe_and (pe_not (pe_callB call_isiU (by rfl) z_isinstance bt_isinstance (pa_cons (pv 0) (pa_cons (pe_bltn (by rfl) z_bool bt_bool rfl) pa_nil)))) (pe_one (pe_cmpR (op_eqU hr.units) (pv 0) (pv 1) (nomark _)))))))))))
abbrev NN_own_number_bytes58 : List Str := [("_law_number_here" : Str), ("_law_left" : Str), ("_law_told" : Str)]
abbrev s_own_number_bytes58 : Stmt := topS 17
theorem sc_own_number_bytes58 : FnScope NN_own_number_bytes58 [("_law_number_here" : Str)] (defScope s_own_number_bytes58) := ⟨rfl, rfl, rfl, by decide +kernel, rfl, by decide +kernel, by decide +kernel⟩
theorem ok_own_number_bytes58 {f : Addr} {fd : FuncData} (F : Fun K ("_law_number_bytes" : Str) ("_law_number_bytes" : Str) s_own_number_bytes58 f fd) {sp : Sp} (hl : ∀ vs H Q E, sp vs H Q E → vs.length = 1)
    (hp : ∀ vs H Q E, sp vs H Q E → t_own_number_bytes58 K { nx := fun _ H' => Q .non H', rt := Q } (start NN_own_number_bytes58 vs) H) : FnOk P w K mg base CX0 1 f fd [("_law_number_here" : Str)] sp := by
  refine F.ok (k := 0) sc_own_number_bytes58 hl (fun cdv A outer s H vs Q E hr h => ⟨t_own_number_bytes58 K, ?_, hp vs H Q E h⟩)
  exact (pss_cons (ps_set (i := 1) sc_own_number_bytes58.nd rfl (by first | exact Or.inl rfl | exact Or.inr rfl) (pe_ifExp (pt_cmpR op_geU (pv 0) pe_int (nomark _)) (pe_op op_mulU pe_int (pv 0)) (pe_op op_subU (pe_op op_mulU (pe_un un_negU pe_int) (pv 0)) pe_int)))
      (pss_cons (ps_set (i := 2) sc_own_number_bytes58.nd rfl (by first | exact Or.inl rfl | exact Or.inr rfl) (pe_lst (pa_cons (pe_op op_modU (pv 1) pe_int) pa_nil)))
      (pss_cons (ps_set (i := 1) sc_own_number_bytes58.nd rfl (by first | exact Or.inl rfl | exact Or.inr rfl) (pe_op op_divU (pv 1) pe_int))
      (pss_cons (ps_while PassesOwn.never (pt_cmpR op_gtU (pv 1) pe_int (nomark _))
      (pss_cons (ps_asg (pe_op op_addU (pe_ix (ix_u (hu_of hr)) (pv 2) (pe_un un_negU pe_int) (fun _ _ => rfl)) pe_int) (pg_sub (pv 2) (pe_un un_negU pe_int) (set_u (hu_of hr))))
      (pss_cons (ps_expr (pe_bm PySem.F.plainAttrs_list PySem.F.slot_list_append PySem.F.type_list_append mt_append (pv 2) (pa_cons (pe_op op_modU (pv 1) pe_int) pa_nil)))
      (pss_one (ps_set (i := 1) sc_own_number_bytes58.nd rfl (by first | exact Or.inl rfl | exact Or.inr rfl) (pe_op op_divU (pv 1) pe_int))))))
      (pss_one (ps_ret (pv 2)))))))
abbrev NN_own_cell_bytes : List Str := [("_law_cell" : Str), ("_law_signs" : Str), ("_law_sign" : Str)]
abbrev s_own_cell_bytes : Stmt := topS 18
theorem sc_own_cell_bytes : FnScope NN_own_cell_bytes [("_law_cell" : Str)] (defScope s_own_cell_bytes) := ⟨rfl, rfl, rfl, by decide +kernel, rfl, by decide +kernel, by decide +kernel⟩
theorem ok_own_cell_bytes {f : Addr} {fd : FuncData} (F : Fun K ("_law_cell_bytes" : Str) ("_law_cell_bytes" : Str) s_own_cell_bytes f fd) {f_own_number_bytes58 : Addr} {fd_own_number_bytes58 : FuncData} {s_own_number_bytes58_ : Sp} (G_own_number_bytes58 : FnOk P w K mg base CX0 1 f_own_number_bytes58 fd_own_number_bytes58 [("_law_number_here" : Str)] s_own_number_bytes58_) (b_own_number_bytes58 : Binds K fd_own_number_bytes58 [("_law_number_here" : Str)] []) (m_own_number_bytes58 : mg ("_law_number_bytes" : Str) = some (.ref f_own_number_bytes58)) (kp_own_number_bytes58 : PySem.W.keepIn K (.ref f_own_number_bytes58) = true) (z_isinstance : mg ("isinstance" : Str) = none) (z_str : mg ("str" : Str) = none) (z_len : mg ("len" : Str) = none) {sp : Sp} (hl : ∀ vs H Q E, sp vs H Q E → vs.length = 1)
    (hp : ∀ vs H Q E, sp vs H Q E → t_own_cell_bytes K s_own_number_bytes58_ { nx := fun _ H' => Q .non H', rt := Q } (start NN_own_cell_bytes vs) H) : FnOk P w K mg base CX0 2 f fd [("_law_cell" : Str)] sp := by
  refine F.ok (k := 1) sc_own_cell_bytes hl (fun cdv A outer s H vs Q E hr h => ⟨t_own_cell_bytes K s_own_number_bytes58_, ?_, hp vs H Q E h⟩)
  exact (pss_cons (ps_set (i := 1) sc_own_cell_bytes.nd rfl (by first | exact Or.inl rfl | exact Or.inr rfl) pe_str)
      (pss_cons (ps_set (i := 1) sc_own_cell_bytes.nd rfl (by first | exact Or.inl rfl | exact Or.inr rfl) (pe_op op_addU (pv 1) pe_str))
      (pss_cons (ps_if (pt_cmpR op_isNU (pv 0) pe_non (nomark _))
      (pss_one (ps_ret (pe_lst (pa_cons pe_int pa_nil))))
      pss_nil)
      (pss_cons (ps_if (pt_truU (pe_callB call_isiU (by rfl) z_isinstance bt_isinstance (pa_cons (pv 0) (pa_cons (pe_bltn (by rfl) z_str bt_str rfl) pa_nil))) (by intro _; rfl))
      (pss_one (ps_ret (pe_op op_addU (pe_op op_addU (pe_lst (pa_cons pe_int pa_nil)) (pe_call G_own_number_bytes58 (hr.mono (by decide)) (by rfl) m_own_number_bytes58 kp_own_number_bytes58 b_own_number_bytes58 .nil pass0 (pa_cons (pe_callB call_lenU (by rfl) z_len bt_len (pa_cons (pv 0) pa_nil)) pa_nil))) (pe_lc (own := [(("_law_sign" : Str), 2)]) (g := (gName 2)) (tt := tYes) (te := (tBM K "str" (rSIdx) (tVar 1) (tCons (tVar 2) tNil))) (by rfl) sc_own_cell_bytes.nd (pi_seqV (pv 0)) (blkOk_by (own := [(("_law_sign" : Str), 2)]) (N := [("_law_cell" : Str), ("_law_signs" : Str), ("_law_sign" : Str)]) (sc := defScope s_own_cell_bytes) (by decide +kernel)) (fun _ _ _ _ _ => (pg_name (i := 2) sc_own_cell_bytes.nd rfl (by first | exact Or.inl rfl | exact Or.inr rfl))) (fun _ _ _ _ _ => pts_nil) (fun _ _ _ _ _ => (pe_bm PySem.F.plainAttrs_str PySem.F.slot_str_index PySem.F.type_str_index mt_sidx (pv 1) (pa_cons (pv 2) pa_nil)))))))
      pss_nil)
      (pss_one (ps_ret (pe_op op_addU (pe_lst (pa_cons pe_int pa_nil)) (pe_call G_own_number_bytes58 (hr.mono (by decide)) (by rfl) m_own_number_bytes58 kp_own_number_bytes58 b_own_number_bytes58 .nil pass0 (pa_cons (pv 0) pa_nil)))))))))
abbrev NN_part : List Str := [("_law_cells" : Str), ("_law_level" : Str), ("_law_number_here" : Str), ("_law_cell" : Str), ("_law_byte" : Str)]
abbrev s_part : Stmt := topS 19
theorem sc_part : FnScope NN_part [("_law_cells" : Str), ("_law_level" : Str)] (defScope s_part) := ⟨rfl, rfl, rfl, by decide +kernel, rfl, by decide +kernel, by decide +kernel⟩
theorem ok_part {f : Addr} {fd : FuncData} (F : Fun K ("_law_part" : Str) ("_law_part" : Str) s_part f fd) {f_own_cell_bytes : Addr} {fd_own_cell_bytes : FuncData} {s_own_cell_bytes_ : Sp} (G_own_cell_bytes : FnOk P w K mg base CX0 2 f_own_cell_bytes fd_own_cell_bytes [("_law_cell" : Str)] s_own_cell_bytes_) (b_own_cell_bytes : Binds K fd_own_cell_bytes [("_law_cell" : Str)] []) (m_own_cell_bytes : mg ("_law_cell_bytes" : Str) = some (.ref f_own_cell_bytes)) (kp_own_cell_bytes : PySem.W.keepIn K (.ref f_own_cell_bytes) = true) {sp : Sp} (hl : ∀ vs H Q E, sp vs H Q E → vs.length = 2)
    (hp : ∀ vs H Q E, sp vs H Q E → t_part K s_own_cell_bytes_ { nx := fun _ H' => Q .non H', rt := Q } (start NN_part vs) H) : FnOk P w K mg base CX0 3 f fd [("_law_cells" : Str), ("_law_level" : Str)] sp := by
  refine F.ok (k := 2) sc_part hl (fun cdv A outer s H vs Q E hr h => ⟨t_part K s_own_cell_bytes_, ?_, hp vs H Q E h⟩)
  exact (pss_cons (ps_set (i := 2) sc_part.nd rfl (by first | exact Or.inl rfl | exact Or.inr rfl) (pe_op op_divU (pv 1) pe_int))
      (pss_cons (ps_for PassesOwn.never rfl (pi_seqV (pv 0)) (pg_name (i := 3) sc_part.nd rfl (by first | exact Or.inl rfl | exact Or.inr rfl))
      (pss_one (ps_for PassesOwn.never rfl (pi_seqV (pe_call G_own_cell_bytes (hr.mono (by decide)) (by rfl) m_own_cell_bytes kp_own_cell_bytes b_own_cell_bytes .nil pass0 (pa_cons (pv 3) pa_nil))) (pg_name (i := 4) sc_part.nd rfl (by first | exact Or.inl rfl | exact Or.inr rfl))
      (pss_one (ps_set (i := 2) sc_part.nd rfl (by first | exact Or.inl rfl | exact Or.inr rfl) (pe_op op_modU (pe_op op_addU (pe_op op_addU (pe_op op_mulU (pv 2) pe_int) (pv 4)) pe_int) pe_int))))))
      (pss_one (ps_ret (pe_op op_modU (pe_op op_divU (pv 2) (pe_ix (ix_u (hu_of hr)) (pe_lst (pa_cons pe_int (pa_cons pe_int (pa_cons pe_int (pa_cons pe_int (pa_cons pe_int (pa_cons pe_int (pa_cons pe_int (pa_cons pe_int pa_nil))))))))) (pe_op op_modU (pv 1) pe_int) (fun _ _ => rfl))) pe_int)))))
abbrev NN_some_cell : List Str := [("_law_state" : Str), ("_law_way" : Str), ("_law_great" : Str)]
abbrev s_some_cell : Stmt := topS 20
theorem sc_some_cell : FnScope NN_some_cell [("_law_state" : Str)] (defScope s_some_cell) := ⟨rfl, rfl, rfl, by decide +kernel, rfl, by decide +kernel, by decide +kernel⟩
theorem ok_some_cell {f : Addr} {fd : FuncData} (F : Fun K ("_law_some_cell" : Str) ("_law_some_cell" : Str) s_some_cell f fd) {f_take : Addr} {fd_take : FuncData} {s_take_ : Sp} (G_take : FnOk P w K mg base CX0 1 f_take fd_take [("_law_state" : Str), ("_law_many" : Str)] s_take_) (b_take : Binds K fd_take [("_law_state" : Str), ("_law_many" : Str)] []) (m_take : mg ("_law_take" : Str) = some (.ref f_take)) (kp_take : PySem.W.keepIn K (.ref f_take) = true) {f_text : Addr} {fd_text : FuncData} {s_text_ : Sp} (G_text : FnOk P w K mg base CX0 2 f_text fd_text [("_law_state" : Str)] s_text_) (b_text : Binds K fd_text [("_law_state" : Str)] []) (m_text : mg ("_law_text" : Str) = some (.ref f_text)) (kp_text : PySem.W.keepIn K (.ref f_text) = true) {f_number : Addr} {fd_number : FuncData} {s_number_ : Sp} (G_number : FnOk P w K mg base CX0 2 f_number fd_number [("_law_state" : Str)] s_number_) (b_number : Binds K fd_number [("_law_state" : Str)] []) (m_number : mg ("_law_number" : Str) = some (.ref f_number)) (kp_number : PySem.W.keepIn K (.ref f_number) = true) {sp : Sp} (hl : ∀ vs H Q E, sp vs H Q E → vs.length = 1)
    (hp : ∀ vs H Q E, sp vs H Q E → t_some_cell K s_take_ s_text_ s_number_ { nx := fun _ H' => Q .non H', rt := Q } (start NN_some_cell vs) H) : FnOk P w K mg base CX0 3 f fd [("_law_state" : Str)] sp := by
  refine F.ok (k := 2) sc_some_cell hl (fun cdv A outer s H vs Q E hr h => ⟨t_some_cell K s_take_ s_text_ s_number_, ?_, hp vs H Q E h⟩)
  exact (pss_cons (ps_set (i := 1) sc_some_cell.nd rfl (by first | exact Or.inl rfl | exact Or.inr rfl) (pe_call G_take (hr.mono (by decide)) (by rfl) m_take kp_take b_take .nil pass0 (pa_cons (pv 0) (pa_cons pe_int pa_nil))))
      (pss_cons (ps_if (pt_cmpR (op_eqU hr.units) (pv 1) pe_int (nomark _))
      (pss_one (ps_ret pe_non))
      pss_nil)
      (pss_cons (ps_if (pt_cmpR op_ltU (pv 1) pe_int (nomark _))
      (pss_one (ps_ret (pe_call G_text (hr.mono (by decide)) (by rfl) m_text kp_text b_text .nil pass0 (pa_cons (pv 0) pa_nil))))
      pss_nil)
      (pss_cons (ps_if (pt_cmpR (op_eqU hr.units) (pv 1) pe_int (nomark _))
      (pss_cons (ps_set (i := 2) sc_some_cell.nd rfl (by first | exact Or.inl rfl | exact Or.inr rfl) (pe_ix (ix_u (hu_of hr)) (pe_lst (pa_cons (pe_op op_powU pe_int pe_int) (pa_cons (pe_op op_powU pe_int pe_int) (pa_cons (pe_op op_powU pe_int pe_int) (pa_cons (pe_op op_powU pe_int pe_int) (pa_cons (pe_op op_powU pe_int pe_int) (pa_cons (pe_op op_powU pe_int pe_int) (pa_cons (pe_op op_powU pe_int pe_int) pa_nil)))))))) (pe_call G_take (hr.mono (by decide)) (by rfl) m_take kp_take b_take .nil pass0 (pa_cons (pv 0) (pa_cons pe_int pa_nil))) (fun _ _ => rfl)))
      (pss_one (ps_ret (pe_op op_mulU (pe_ix (ix_u (hu_of hr)) (pe_lst (pa_cons pe_int (pa_cons (pe_un un_negU pe_int) pa_nil))) (pe_call G_take (hr.mono (by decide)) (by rfl) m_take kp_take b_take .nil pass0 (pa_cons (pv 0) (pa_cons pe_int pa_nil))) (fun _ _ => rfl)) (pe_op op_addU (pe_call G_take (hr.mono (by decide)) (by rfl) m_take kp_take b_take .nil pass0 (pa_cons (pv 0) (pa_cons (pe_op op_powU pe_int pe_int) pa_nil))) (pv 2))))))
      pss_nil)
      (pss_one (ps_ret (pe_call G_number (hr.mono (by decide)) (by rfl) m_number kp_number b_number .nil pass0 (pa_cons (pv 0) pa_nil))))))))
abbrev NN_law : List Str := [("_law_script" : Str), ("_law_state" : Str), ("_law_turn" : Str), ("_law_k" : Str), ("_law_cells" : Str), ("_law_level" : Str), ("_law_due" : Str), ("_law_handed" : Str), ("_law_some" : Str), ("_law_one" : Str)]
abbrev s_law : Stmt := topS 21
theorem sc_law : FnScope NN_law [("_law_script" : Str)] (defScope s_law) := ⟨rfl, rfl, rfl, by decide +kernel, rfl, by decide +kernel, by decide +kernel⟩
theorem ok_law {f : Addr} {fd : FuncData} (F : Fun K ("law" : Str) ("law" : Str) s_law f fd) {f_begin : Addr} {fd_begin : FuncData} {s_begin_ : Sp} (G_begin : FnOk P w K mg base CX0 1 f_begin fd_begin [("_law_script" : Str)] s_begin_) (b_begin : Binds K fd_begin [("_law_script" : Str)] []) (m_begin : mg ("_law_begin" : Str) = some (.ref f_begin)) (kp_begin : PySem.W.keepIn K (.ref f_begin) = true) {f_take : Addr} {fd_take : FuncData} {s_take_ : Sp} (G_take : FnOk P w K mg base CX0 1 f_take fd_take [("_law_state" : Str), ("_law_many" : Str)] s_take_) (b_take : Binds K fd_take [("_law_state" : Str), ("_law_many" : Str)] []) (m_take : mg ("_law_take" : Str) = some (.ref f_take)) (kp_take : PySem.W.keepIn K (.ref f_take) = true) {f_some_cell : Addr} {fd_some_cell : FuncData} {s_some_cell_ : Sp} (G_some_cell : FnOk P w K mg base CX0 3 f_some_cell fd_some_cell [("_law_state" : Str)] s_some_cell_) (b_some_cell : Binds K fd_some_cell [("_law_state" : Str)] []) (m_some_cell : mg ("_law_some_cell" : Str) = some (.ref f_some_cell)) (kp_some_cell : PySem.W.keepIn K (.ref f_some_cell) = true) {f_part : Addr} {fd_part : FuncData} {s_part_ : Sp} (G_part : FnOk P w K mg base CX0 3 f_part fd_part [("_law_cells" : Str), ("_law_level" : Str)] s_part_) (b_part : Binds K fd_part [("_law_cells" : Str), ("_law_level" : Str)] []) (m_part : mg ("_law_part" : Str) = some (.ref f_part)) (kp_part : PySem.W.keepIn K (.ref f_part) = true) {f_same : Addr} {fd_same : FuncData} {s_same_ : Sp} (G_same : FnOk P w K mg base CX0 6 f_same fd_same [("_law_found" : Str), ("_law_due" : Str)] s_same_) (b_same : Binds K fd_same [("_law_found" : Str), ("_law_due" : Str)] []) (m_same : mg ("_law_same" : Str) = some (.ref f_same)) (kp_same : PySem.W.keepIn K (.ref f_same) = true) {f_part_of : Addr} {fd_part_of : FuncData} {s_part_of_ : Sp} (G_part_of : FnOk P w K mg base CX0 4 f_part_of fd_part_of [("cells" : Str), ("level" : Str)] s_part_of_) (b_part_of : Binds K fd_part_of [("cells" : Str), ("level" : Str)] []) (m_part_of : mg ("part_of" : Str) = some (.ref f_part_of)) (kp_part_of : PySem.W.keepIn K (.ref f_part_of) = true) (z_range : mg ("range" : Str) = none) (z_list : mg ("list" : Str) = none) (z_tuple : mg ("tuple" : Str) = none) {sp : Sp} (hl : ∀ vs H Q E, sp vs H Q E → vs.length = 1)
    (hp : ∀ vs H Q E, sp vs H Q E → t_law K s_begin_ s_take_ s_some_cell_ s_part_ s_same_ s_part_of_ { nx := fun _ H' => Q .non H', rt := Q } (start NN_law vs) H) : FnOk P w K mg base CX0 7 f fd [("_law_script" : Str)] sp := by
  refine F.ok (k := 6) sc_law hl (fun cdv A outer s H vs Q E hr h => ⟨t_law K s_begin_ s_take_ s_some_cell_ s_part_ s_same_ s_part_of_, ?_, hp vs H Q E h⟩)
  exact (pss_cons (ps_set (i := 1) sc_law.nd rfl (by first | exact Or.inl rfl | exact Or.inr rfl) (pe_call G_begin (hr.mono (by decide)) (by rfl) m_begin kp_begin b_begin .nil pass0 (pa_cons (pv 0) pa_nil)))
      (pss_cons (ps_for PassesOwn.never rfl (pi_range1 rfl z_range (pa_cons pe_int pa_nil)) (pg_name (i := 2) sc_law.nd rfl (by first | exact Or.inl rfl | exact Or.inr rfl))
      (pss_cons (ps_set (i := 4) sc_law.nd rfl (by first | exact Or.inl rfl | exact Or.inr rfl) (pe_lc (own := [(("_law_k" : Str), 3)]) (g := (gName 3)) (tt := tYes) (te := (tCall s_some_cell_ [] E0 (tCons (tVar 1) tNil))) (by rfl) sc_law.nd (pi_range1 rfl z_range (pa_cons (pe_call G_take (hr.mono (by decide)) (by rfl) m_take kp_take b_take .nil pass0 (pa_cons (pv 1) (pa_cons pe_int pa_nil))) pa_nil)) (blkOk_by (own := [(("_law_k" : Str), 3)]) (N := [("_law_script" : Str), ("_law_state" : Str), ("_law_turn" : Str), ("_law_k" : Str), ("_law_cells" : Str), ("_law_level" : Str), ("_law_due" : Str), ("_law_handed" : Str), ("_law_some" : Str), ("_law_one" : Str)]) (sc := defScope s_law) (by decide +kernel)) (fun _ _ _ _ _ => (pg_name (i := 3) sc_law.nd rfl (by first | exact Or.inl rfl | exact Or.inr rfl))) (fun _ _ _ _ _ => pts_nil) (fun _ _ _ _ _ => (pe_call G_some_cell (hr.mono (by decide)) (by rfl) m_some_cell kp_some_cell b_some_cell .nil pass0 (pa_cons (pv 1) pa_nil)))))
      (pss_cons (ps_set (i := 5) sc_law.nd rfl (by first | exact Or.inl rfl | exact Or.inr rfl) (pe_call G_take (hr.mono (by decide)) (by rfl) m_take kp_take b_take .nil pass0 (pa_cons (pv 1) (pa_cons pe_int pa_nil))))
      (pss_cons (ps_if (pt_cmpR (op_eqU hr.units) (pe_call G_take (hr.mono (by decide)) (by rfl) m_take kp_take b_take .nil pass0 (pa_cons (pv 1) (pa_cons pe_int pa_nil))) pe_int (nomark _))
      (pss_one (ps_set (i := 5) sc_law.nd rfl (by first | exact Or.inl rfl | exact Or.inr rfl) (pe_call G_take (hr.mono (by decide)) (by rfl) m_take kp_take b_take .nil pass0 (pa_cons (pv 1) (pa_cons pe_int pa_nil)))))
      pss_nil)
      (pss_cons (ps_set (i := 6) sc_law.nd rfl (by first | exact Or.inl rfl | exact Or.inr rfl) (pe_call G_part (hr.mono (by decide)) (by rfl) m_part kp_part b_part .nil pass0 (pa_cons (pv 4) (pa_cons (pv 5) pa_nil))))
      (pss_cons (ps_set (i := 7) sc_law.nd rfl (by first | exact Or.inl rfl | exact Or.inr rfl) (pe_callTy (call_listU (by rfl)) (by rfl) z_list bt_list (pa_cons (pv 4) pa_nil)))
      (pss_cons (ps_if (PW.pt (pw_or (pt_not (pt_truU (pe_call G_same (hr.mono (by decide)) (by rfl) m_same kp_same b_same .nil pass0 (pa_cons (pe_call G_part_of (hr.mono (by decide)) (by rfl) m_part_of kp_part_of b_part_of .nil pass0 (pa_cons (pv 7) (pa_cons (pv 5) pa_nil))) (pa_cons (pv 6) pa_nil))) (by intro _; rfl))) (pw_or1 (pt_cmpR (op_neU hr.units) (pv 7) (pv 4) (nomark _)))))
      (pss_one (ps_ret pe_bl))
      pss_nil)
      (pss_cons (ps_if (pt_not (pt_truU (pe_call G_same (hr.mono (by decide)) (by rfl) m_same kp_same b_same .nil pass0 (pa_cons (pe_call G_part_of (hr.mono (by decide)) (by rfl) m_part_of kp_part_of b_part_of .nil pass0 (pa_cons (pe_callTy call_tupU (by rfl) z_tuple bt_tuple (pa_cons (pv 4) pa_nil)) (pa_cons (pv 5) pa_nil))) (pa_cons (pv 6) pa_nil))) (by intro _; rfl)))
      (pss_one (ps_ret pe_bl))
      pss_nil)
      (pss_cons (ps_setLc (i := 8) (own := [(("_law_k" : Str), 3)]) (g := (gName 3)) (tt := tYes) (te := (tOp (rAddU K) (tVar 4) (tLst (tCons (tVar 3) tNil)))) (by rfl) sc_law.nd rfl rfl (sw_true rfl rfl rfl (by decide +kernel)) (pi_range1 rfl z_range (pa_cons pe_int pa_nil)) (blkOk_by (own := [(("_law_k" : Str), 3)]) (N := [("_law_script" : Str), ("_law_state" : Str), ("_law_turn" : Str), ("_law_k" : Str), ("_law_cells" : Str), ("_law_level" : Str), ("_law_due" : Str), ("_law_handed" : Str), ("_law_some" : Str), ("_law_one" : Str)]) (sc := defScope s_law) (by decide +kernel)) (fun _ _ _ _ _ => (pg_name (i := 3) sc_law.nd rfl (by first | exact Or.inl rfl | exact Or.inr rfl))) (fun _ _ _ _ _ => pts_nil) (fun _ _ _ _ _ => (pe_op op_addU (pv 4) (pe_lst (pa_cons (pv 3) pa_nil)))))
      (pss_one (ps_if (pt_cmpR (op_neU hr.units) (pe_lc (own := [(("_law_one" : Str), 9)]) (g := (gName 9)) (tt := tYes) (te := (tCall s_part_of_ [] E0 (tCons (tVar 9) (tCons (tVar 5) tNil)))) (by rfl) sc_law.nd (pi_seqV (pv 8)) (blkOk_by (own := [(("_law_one" : Str), 9)]) (N := [("_law_script" : Str), ("_law_state" : Str), ("_law_turn" : Str), ("_law_k" : Str), ("_law_cells" : Str), ("_law_level" : Str), ("_law_due" : Str), ("_law_handed" : Str), ("_law_some" : Str), ("_law_one" : Str)]) (sc := defScope s_law) (by decide +kernel)) (fun _ _ _ _ _ => (pg_name (i := 9) sc_law.nd rfl (by first | exact Or.inl rfl | exact Or.inr rfl))) (fun _ _ _ _ _ => pts_nil) (fun _ _ _ _ _ => (pe_call G_part_of (hr.mono (by decide)) (by rfl) m_part_of kp_part_of b_part_of .nil pass0 (pa_cons (pv 9) (pa_cons (pv 5) pa_nil))))) (pe_lc (own := [(("_law_one" : Str), 9)]) (g := (gName 9)) (tt := tYes) (te := (tCall s_part_ [] E0 (tCons (tVar 9) (tCons (tVar 5) tNil)))) (by rfl) sc_law.nd (pi_seqV (pv 8)) (blkOk_by (own := [(("_law_one" : Str), 9)]) (N := [("_law_script" : Str), ("_law_state" : Str), ("_law_turn" : Str), ("_law_k" : Str), ("_law_cells" : Str), ("_law_level" : Str), ("_law_due" : Str), ("_law_handed" : Str), ("_law_some" : Str), ("_law_one" : Str)]) (sc := defScope s_law) (by decide +kernel)) (fun _ _ _ _ _ => (pg_name (i := 9) sc_law.nd rfl (by first | exact Or.inl rfl | exact Or.inr rfl))) (fun _ _ _ _ _ => pts_nil) (fun _ _ _ _ _ => (pe_call G_part (hr.mono (by decide)) (by rfl) m_part kp_part b_part .nil pass0 (pa_cons (pv 9) (pa_cons (pv 5) pa_nil))))) (nomark _))
      (pss_one (ps_ret pe_bl))
      pss_nil)))))))))))
      (pss_one (ps_ret pe_bl))))
end
theorem all_mk {l : PySem.W.OpenLaw} {w : World} {K : PySem.W.Frag} {h : Heap} {mg : Str → Option Value} {fa : Addr} (X : K.In h) (G : h.Ns mainGlobals mg) (hfa : mg "law" = some (.ref fa))
    {f_number_bytes : Addr} {od_number_bytes an_number_bytes : Option Addr} {sl_number_bytes : Array (Option Value)} {oc_number_bytes kV_number_bytes dc_number_bytes pm_number_bytes cd_number_bytes ct_number_bytes : Value} {f_text_bytes : Addr} {od_text_bytes an_text_bytes : Option Addr} {sl_text_bytes : Array (Option Value)} {oc_text_bytes kV_text_bytes dc_text_bytes pm_text_bytes cd_text_bytes ct_text_bytes : Value} {f_cell_bytes : Addr} {od_cell_bytes an_cell_bytes : Option Addr} {sl_cell_bytes : Array (Option Value)} {oc_cell_bytes kV_cell_bytes dc_cell_bytes pm_cell_bytes cd_cell_bytes ct_cell_bytes : Value} {f_part_of : Addr} {od_part_of an_part_of : Option Addr} {sl_part_of : Array (Option Value)} {oc_part_of kV_part_of dc_part_of pm_part_of cd_part_of ct_part_of : Value} {f_begin : Addr} {od_begin an_begin : Option Addr} {sl_begin : Array (Option Value)} {oc_begin kV_begin dc_begin pm_begin cd_begin ct_begin : Value} {f_take : Addr} {od_take an_take : Option Addr} {sl_take : Array (Option Value)} {oc_take kV_take dc_take pm_take cd_take ct_take : Value} {f_number : Addr} {od_number an_number : Option Addr} {sl_number : Array (Option Value)} {oc_number kV_number dc_number pm_number cd_number ct_number : Value} {f_text : Addr} {od_text an_text : Option Addr} {sl_text : Array (Option Value)} {oc_text kV_text dc_text pm_text cd_text ct_text : Value} {f_same : Addr} {od_same an_same : Option Addr} {sl_same : Array (Option Value)} {oc_same kV_same dc_same pm_same cd_same ct_same : Value} {f_own_number_bytes58 : Addr} {od_own_number_bytes58 an_own_number_bytes58 : Option Addr} {sl_own_number_bytes58 : Array (Option Value)} {oc_own_number_bytes58 kV_own_number_bytes58 dc_own_number_bytes58 pm_own_number_bytes58 cd_own_number_bytes58 ct_own_number_bytes58 : Value} {f_own_cell_bytes : Addr} {od_own_cell_bytes an_own_cell_bytes : Option Addr} {sl_own_cell_bytes : Array (Option Value)} {oc_own_cell_bytes kV_own_cell_bytes dc_own_cell_bytes pm_own_cell_bytes cd_own_cell_bytes ct_own_cell_bytes : Value} {f_part : Addr} {od_part an_part : Option Addr} {sl_part : Array (Option Value)} {oc_part kV_part dc_part pm_part cd_part ct_part : Value} {f_some_cell : Addr} {od_some_cell an_some_cell : Option Addr} {sl_some_cell : Array (Option Value)} {oc_some_cell kV_some_cell dc_some_cell pm_some_cell cd_some_cell ct_some_cell : Value} {f_law : Addr} {od_law an_law : Option Addr} {sl_law : Array (Option Value)} {oc_law kV_law dc_law pm_law cd_law ct_law : Value} {kt_MORE : Tok} {kt_SIGNS : Tok} {kt_TIMES : Tok} {kt_ROUND : Tok} {kt_WAYS : Tok}
    (a_number_bytes : PySem.W.nsIn K mainGlobals ("number_bytes" : Str) = some (some (.ref f_number_bytes)))
    (l_number_bytes : K.lookup f_number_bytes = some ⟨oc_number_bytes, od_number_bytes, .func (PySem.W.fnOf ("number_bytes" : Str) ("number_bytes" : Str) (defArgs s_number_bytes) (defBody s_number_bytes) (defScope s_number_bytes) .none kV_number_bytes dc_number_bytes pm_number_bytes an_number_bytes cd_number_bytes ct_number_bytes), sl_number_bytes⟩)
    (c_number_bytes : PySem.W.codeIn K cd_number_bytes ("number_bytes" : Str) = true)
    (kp_number_bytes : PySem.W.keepIn K (.ref f_number_bytes) = true)
    (a_text_bytes : PySem.W.nsIn K mainGlobals ("text_bytes" : Str) = some (some (.ref f_text_bytes)))
    (l_text_bytes : K.lookup f_text_bytes = some ⟨oc_text_bytes, od_text_bytes, .func (PySem.W.fnOf ("text_bytes" : Str) ("text_bytes" : Str) (defArgs s_text_bytes) (defBody s_text_bytes) (defScope s_text_bytes) .none kV_text_bytes dc_text_bytes pm_text_bytes an_text_bytes cd_text_bytes ct_text_bytes), sl_text_bytes⟩)
    (c_text_bytes : PySem.W.codeIn K cd_text_bytes ("text_bytes" : Str) = true)
    (kp_text_bytes : PySem.W.keepIn K (.ref f_text_bytes) = true)
    (a_cell_bytes : PySem.W.nsIn K mainGlobals ("cell_bytes" : Str) = some (some (.ref f_cell_bytes)))
    (l_cell_bytes : K.lookup f_cell_bytes = some ⟨oc_cell_bytes, od_cell_bytes, .func (PySem.W.fnOf ("cell_bytes" : Str) ("cell_bytes" : Str) (defArgs s_cell_bytes) (defBody s_cell_bytes) (defScope s_cell_bytes) .none kV_cell_bytes dc_cell_bytes pm_cell_bytes an_cell_bytes cd_cell_bytes ct_cell_bytes), sl_cell_bytes⟩)
    (c_cell_bytes : PySem.W.codeIn K cd_cell_bytes ("cell_bytes" : Str) = true)
    (kp_cell_bytes : PySem.W.keepIn K (.ref f_cell_bytes) = true)
    (a_part_of : PySem.W.nsIn K mainGlobals ("part_of" : Str) = some (some (.ref f_part_of)))
    (l_part_of : K.lookup f_part_of = some ⟨oc_part_of, od_part_of, .func (PySem.W.fnOf ("part_of" : Str) ("part_of" : Str) (defArgs s_part_of) (defBody s_part_of) (defScope s_part_of) .none kV_part_of dc_part_of pm_part_of an_part_of cd_part_of ct_part_of), sl_part_of⟩)
    (c_part_of : PySem.W.codeIn K cd_part_of ("part_of" : Str) = true)
    (kp_part_of : PySem.W.keepIn K (.ref f_part_of) = true)
    (a_begin : PySem.W.nsIn K mainGlobals ("_law_begin" : Str) = some (some (.ref f_begin)))
    (l_begin : K.lookup f_begin = some ⟨oc_begin, od_begin, .func (PySem.W.fnOf ("_law_begin" : Str) ("_law_begin" : Str) (defArgs s_begin) (defBody s_begin) (defScope s_begin) .none kV_begin dc_begin pm_begin an_begin cd_begin ct_begin), sl_begin⟩)
    (c_begin : PySem.W.codeIn K cd_begin ("_law_begin" : Str) = true)
    (kp_begin : PySem.W.keepIn K (.ref f_begin) = true)
    (a_take : PySem.W.nsIn K mainGlobals ("_law_take" : Str) = some (some (.ref f_take)))
    (l_take : K.lookup f_take = some ⟨oc_take, od_take, .func (PySem.W.fnOf ("_law_take" : Str) ("_law_take" : Str) (defArgs s_take) (defBody s_take) (defScope s_take) .none kV_take dc_take pm_take an_take cd_take ct_take), sl_take⟩)
    (c_take : PySem.W.codeIn K cd_take ("_law_take" : Str) = true)
    (kp_take : PySem.W.keepIn K (.ref f_take) = true)
    (a_number : PySem.W.nsIn K mainGlobals ("_law_number" : Str) = some (some (.ref f_number)))
    (l_number : K.lookup f_number = some ⟨oc_number, od_number, .func (PySem.W.fnOf ("_law_number" : Str) ("_law_number" : Str) (defArgs s_number) (defBody s_number) (defScope s_number) .none kV_number dc_number pm_number an_number cd_number ct_number), sl_number⟩)
    (c_number : PySem.W.codeIn K cd_number ("_law_number" : Str) = true)
    (kp_number : PySem.W.keepIn K (.ref f_number) = true)
    (a_text : PySem.W.nsIn K mainGlobals ("_law_text" : Str) = some (some (.ref f_text)))
    (l_text : K.lookup f_text = some ⟨oc_text, od_text, .func (PySem.W.fnOf ("_law_text" : Str) ("_law_text" : Str) (defArgs s_text) (defBody s_text) (defScope s_text) .none kV_text dc_text pm_text an_text cd_text ct_text), sl_text⟩)
    (c_text : PySem.W.codeIn K cd_text ("_law_text" : Str) = true)
    (kp_text : PySem.W.keepIn K (.ref f_text) = true)
    (a_same : PySem.W.nsIn K mainGlobals ("_law_same" : Str) = some (some (.ref f_same)))
    (l_same : K.lookup f_same = some ⟨oc_same, od_same, .func (PySem.W.fnOf ("_law_same" : Str) ("_law_same" : Str) (defArgs s_same) (defBody s_same) (defScope s_same) .none kV_same dc_same pm_same an_same cd_same ct_same), sl_same⟩)
    (c_same : PySem.W.codeIn K cd_same ("_law_same" : Str) = true)
    (kp_same : PySem.W.keepIn K (.ref f_same) = true)
    (a_own_number_bytes58 : PySem.W.nsIn K mainGlobals ("_law_number_bytes" : Str) = some (some (.ref f_own_number_bytes58)))
    (l_own_number_bytes58 : K.lookup f_own_number_bytes58 = some ⟨oc_own_number_bytes58, od_own_number_bytes58, .func (PySem.W.fnOf ("_law_number_bytes" : Str) ("_law_number_bytes" : Str) (defArgs s_own_number_bytes58) (defBody s_own_number_bytes58) (defScope s_own_number_bytes58) .none kV_own_number_bytes58 dc_own_number_bytes58 pm_own_number_bytes58 an_own_number_bytes58 cd_own_number_bytes58 ct_own_number_bytes58), sl_own_number_bytes58⟩)
    (c_own_number_bytes58 : PySem.W.codeIn K cd_own_number_bytes58 ("_law_number_bytes" : Str) = true)
    (kp_own_number_bytes58 : PySem.W.keepIn K (.ref f_own_number_bytes58) = true)
    (a_own_cell_bytes : PySem.W.nsIn K mainGlobals ("_law_cell_bytes" : Str) = some (some (.ref f_own_cell_bytes)))
    (l_own_cell_bytes : K.lookup f_own_cell_bytes = some ⟨oc_own_cell_bytes, od_own_cell_bytes, .func (PySem.W.fnOf ("_law_cell_bytes" : Str) ("_law_cell_bytes" : Str) (defArgs s_own_cell_bytes) (defBody s_own_cell_bytes) (defScope s_own_cell_bytes) .none kV_own_cell_bytes dc_own_cell_bytes pm_own_cell_bytes an_own_cell_bytes cd_own_cell_bytes ct_own_cell_bytes), sl_own_cell_bytes⟩)
    (c_own_cell_bytes : PySem.W.codeIn K cd_own_cell_bytes ("_law_cell_bytes" : Str) = true)
    (kp_own_cell_bytes : PySem.W.keepIn K (.ref f_own_cell_bytes) = true)
    (a_part : PySem.W.nsIn K mainGlobals ("_law_part" : Str) = some (some (.ref f_part)))
    (l_part : K.lookup f_part = some ⟨oc_part, od_part, .func (PySem.W.fnOf ("_law_part" : Str) ("_law_part" : Str) (defArgs s_part) (defBody s_part) (defScope s_part) .none kV_part dc_part pm_part an_part cd_part ct_part), sl_part⟩)
    (c_part : PySem.W.codeIn K cd_part ("_law_part" : Str) = true)
    (kp_part : PySem.W.keepIn K (.ref f_part) = true)
    (a_some_cell : PySem.W.nsIn K mainGlobals ("_law_some_cell" : Str) = some (some (.ref f_some_cell)))
    (l_some_cell : K.lookup f_some_cell = some ⟨oc_some_cell, od_some_cell, .func (PySem.W.fnOf ("_law_some_cell" : Str) ("_law_some_cell" : Str) (defArgs s_some_cell) (defBody s_some_cell) (defScope s_some_cell) .none kV_some_cell dc_some_cell pm_some_cell an_some_cell cd_some_cell ct_some_cell), sl_some_cell⟩)
    (c_some_cell : PySem.W.codeIn K cd_some_cell ("_law_some_cell" : Str) = true)
    (kp_some_cell : PySem.W.keepIn K (.ref f_some_cell) = true)
    (a_law : PySem.W.nsIn K mainGlobals ("law" : Str) = some (some (.ref f_law)))
    (l_law : K.lookup f_law = some ⟨oc_law, od_law, .func (PySem.W.fnOf ("law" : Str) ("law" : Str) (defArgs s_law) (defBody s_law) (defScope s_law) .none kV_law dc_law pm_law an_law cd_law ct_law), sl_law⟩)
    (c_law : PySem.W.codeIn K cd_law ("law" : Str) = true)
    (kp_law : PySem.W.keepIn K (.ref f_law) = true)
    (zz_len : PySem.W.nsIn K mainGlobals ("len" : Str) = some none)
    (zz_isinstance : PySem.W.nsIn K mainGlobals ("isinstance" : Str) = some none)
    (zz_str : PySem.W.nsIn K mainGlobals ("str" : Str) = some none)
    (zz_range : PySem.W.nsIn K mainGlobals ("range" : Str) = some none)
    (zz_list : PySem.W.nsIn K mainGlobals ("list" : Str) = some none)
    (zz_divmod : PySem.W.nsIn K mainGlobals ("divmod" : Str) = some none)
    (zz_dict : PySem.W.nsIn K mainGlobals ("dict" : Str) = some none)
    (zz_tuple : PySem.W.nsIn K mainGlobals ("tuple" : Str) = some none)
    (zz_all : PySem.W.nsIn K mainGlobals ("all" : Str) = some none)
    (zz_zip : PySem.W.nsIn K mainGlobals ("zip" : Str) = some none)
    (zz_int : PySem.W.nsIn K mainGlobals ("int" : Str) = some none)
    (zz_bool : PySem.W.nsIn K mainGlobals ("bool" : Str) = some none)
    (kk_MORE : PySem.W.nsIn K mainGlobals ("MORE" : Str) = some (some (.int 128 kt_MORE)))
    (kk_SIGNS : PySem.W.nsIn K mainGlobals ("SIGNS" : Str) = some (some (.str (" !\"#$&'()*+,-./0123456789:;<=>?@ABCDEFGHIJKLMNOPQRSTUVWXYZ[\\]^_`abcdefghijklmnopqrstuvwxyz{|}~" : Str) kt_SIGNS)))
    (kk_TIMES : PySem.W.nsIn K mainGlobals ("TIMES" : Str) = some (some (.int 8 kt_TIMES)))
    (kk_ROUND : PySem.W.nsIn K mainGlobals ("ROUND" : Str) = some (some (.int 65521 kt_ROUND)))
    (kk_WAYS : PySem.W.nsIn K mainGlobals ("WAYS" : Str) = some (some (.int 4 kt_WAYS))) :
    ∃ fd : FuncData, (∀ (s : Shared) (v : Value), BindsTo s fd ⟨[v], []⟩ [("_law_script", v)]) ∧ ∀ base : Heap, K.In base → base.Ns mainGlobals mg → FnOk l.prog w K mg base CX0 7 fa fd ["_law_script"] (spLaw K) := by
  have e := hfa.symm.trans (PySem.W.mg_of X G a_law)
  cases e
  have F_number_bytes := fun_mk (st := s_number_bytes) l_number_bytes c_number_bytes kp_number_bytes
  have m_number_bytes := PySem.W.mg_of X G a_number_bytes
  have b_number_bytes := F_number_bytes.binds (ps := [("number" : Str)]) fun _ _ _ _ _ _ us hl => match us, hl with | [_], _ => rfl
  have F_text_bytes := fun_mk (st := s_text_bytes) l_text_bytes c_text_bytes kp_text_bytes
  have m_text_bytes := PySem.W.mg_of X G a_text_bytes
  have b_text_bytes := F_text_bytes.binds (ps := [("text" : Str)]) fun _ _ _ _ _ _ us hl => match us, hl with | [_], _ => rfl
  have F_cell_bytes := fun_mk (st := s_cell_bytes) l_cell_bytes c_cell_bytes kp_cell_bytes
  have m_cell_bytes := PySem.W.mg_of X G a_cell_bytes
  have b_cell_bytes := F_cell_bytes.binds (ps := [("cell" : Str)]) fun _ _ _ _ _ _ us hl => match us, hl with | [_], _ => rfl
  have F_part_of := fun_mk (st := s_part_of) l_part_of c_part_of kp_part_of
  have m_part_of := PySem.W.mg_of X G a_part_of
  have b_part_of := F_part_of.binds (ps := [("cells" : Str), ("level" : Str)]) fun _ _ _ _ _ _ us hl => match us, hl with | [_, _], _ => rfl
  have F_begin := fun_mk (st := s_begin) l_begin c_begin kp_begin
  have m_begin := PySem.W.mg_of X G a_begin
  have b_begin := F_begin.binds (ps := [("_law_script" : Str)]) fun _ _ _ _ _ _ us hl => match us, hl with | [_], _ => rfl
  have F_take := fun_mk (st := s_take) l_take c_take kp_take
  have m_take := PySem.W.mg_of X G a_take
  have b_take := F_take.binds (ps := [("_law_state" : Str), ("_law_many" : Str)]) fun _ _ _ _ _ _ us hl => match us, hl with | [_, _], _ => rfl
  have F_number := fun_mk (st := s_number) l_number c_number kp_number
  have m_number := PySem.W.mg_of X G a_number
  have b_number := F_number.binds (ps := [("_law_state" : Str)]) fun _ _ _ _ _ _ us hl => match us, hl with | [_], _ => rfl
  have F_text := fun_mk (st := s_text) l_text c_text kp_text
  have m_text := PySem.W.mg_of X G a_text
  have b_text := F_text.binds (ps := [("_law_state" : Str)]) fun _ _ _ _ _ _ us hl => match us, hl with | [_], _ => rfl
  have F_same := fun_mk (st := s_same) l_same c_same kp_same
  have m_same := PySem.W.mg_of X G a_same
  have b_same := F_same.binds (ps := [("_law_found" : Str), ("_law_due" : Str)]) fun _ _ _ _ _ _ us hl => match us, hl with | [_, _], _ => rfl
  have F_own_number_bytes58 := fun_mk (st := s_own_number_bytes58) l_own_number_bytes58 c_own_number_bytes58 kp_own_number_bytes58
  have m_own_number_bytes58 := PySem.W.mg_of X G a_own_number_bytes58
  have b_own_number_bytes58 := F_own_number_bytes58.binds (ps := [("_law_number_here" : Str)]) fun _ _ _ _ _ _ us hl => match us, hl with | [_], _ => rfl
  have F_own_cell_bytes := fun_mk (st := s_own_cell_bytes) l_own_cell_bytes c_own_cell_bytes kp_own_cell_bytes
  have m_own_cell_bytes := PySem.W.mg_of X G a_own_cell_bytes
  have b_own_cell_bytes := F_own_cell_bytes.binds (ps := [("_law_cell" : Str)]) fun _ _ _ _ _ _ us hl => match us, hl with | [_], _ => rfl
  have F_part := fun_mk (st := s_part) l_part c_part kp_part
  have m_part := PySem.W.mg_of X G a_part
  have b_part := F_part.binds (ps := [("_law_cells" : Str), ("_law_level" : Str)]) fun _ _ _ _ _ _ us hl => match us, hl with | [_, _], _ => rfl
  have F_some_cell := fun_mk (st := s_some_cell) l_some_cell c_some_cell kp_some_cell
  have m_some_cell := PySem.W.mg_of X G a_some_cell
  have b_some_cell := F_some_cell.binds (ps := [("_law_state" : Str)]) fun _ _ _ _ _ _ us hl => match us, hl with | [_], _ => rfl
  have F_law := fun_mk (st := s_law) l_law c_law kp_law
  have m_law := PySem.W.mg_of X G a_law
  have b_law := F_law.binds (ps := [("_law_script" : Str)]) fun _ _ _ _ _ _ us hl => match us, hl with | [_], _ => rfl
  have z_len := PySem.W.mg_none_of X G zz_len
  have z_isinstance := PySem.W.mg_none_of X G zz_isinstance
  have z_str := PySem.W.mg_none_of X G zz_str
  have z_range := PySem.W.mg_none_of X G zz_range
  have z_list := PySem.W.mg_none_of X G zz_list
  have z_divmod := PySem.W.mg_none_of X G zz_divmod
  have z_dict := PySem.W.mg_none_of X G zz_dict
  have z_tuple := PySem.W.mg_none_of X G zz_tuple
  have z_all := PySem.W.mg_none_of X G zz_all
  have z_zip := PySem.W.mg_none_of X G zz_zip
  have z_int := PySem.W.mg_none_of X G zz_int
  have z_bool := PySem.W.mg_none_of X G zz_bool
  have k_MORE := PySem.W.mg_of X G kk_MORE
  have k_SIGNS := PySem.W.mg_of X G kk_SIGNS
  have k_TIMES := PySem.W.mg_of X G kk_TIMES
  have k_ROUND := PySem.W.mg_of X G kk_ROUND
  have k_WAYS := PySem.W.mg_of X G kk_WAYS
  refine ⟨PySem.W.fnOf ("law" : Str) ("law" : Str) (defArgs s_law) (defBody s_law) (defScope s_law) .none kV_law dc_law pm_law an_law cd_law ct_law, fun s v => .of_eq rfl, fun base hb hg => ?_⟩
  have G_number_bytes : FnOk l.prog w K mg base CX0 1 f_number_bytes _ [("number" : Str)] spNb := ok_number_bytes (P := l.prog) (w := w) (base := base) F_number_bytes k_MORE (sp := spNb) (by rintro vs H Q E ⟨_, rfl, _⟩; rfl) pure_number_bytes
  have G_text_bytes : FnOk l.prog w K mg base CX0 2 f_text_bytes _ [("text" : Str)] spTb := ok_text_bytes (P := l.prog) (w := w) (base := base) F_text_bytes G_number_bytes b_number_bytes m_number_bytes kp_number_bytes z_len k_SIGNS (sp := spTb) (by rintro vs H Q E ⟨_, rfl, _⟩; rfl) pure_text_bytes
  have G_cell_bytes : FnOk l.prog w K mg base CX0 3 f_cell_bytes _ [("cell" : Str)] spCb := ok_cell_bytes (P := l.prog) (w := w) (base := base) F_cell_bytes G_text_bytes b_text_bytes m_text_bytes kp_text_bytes G_number_bytes b_number_bytes m_number_bytes kp_number_bytes z_isinstance z_str (sp := spCb) (by rintro vs H Q E ⟨_, rfl, _⟩; rfl) pure_cell_bytes
  have G_part_of : FnOk l.prog w K mg base CX0 4 f_part_of _ [("cells" : Str), ("level" : Str)] (spPart K) := ok_part_of (P := l.prog) (w := w) (base := base) F_part_of G_cell_bytes b_cell_bytes m_cell_bytes kp_cell_bytes z_range k_TIMES k_ROUND k_WAYS (sp := (spPart K)) (by rintro vs H Q E ⟨_, _, _, rfl, _⟩; rfl) pure_part_of
  have G_begin : FnOk l.prog w K mg base CX0 1 f_begin _ [("_law_script" : Str)] (spBegin K) := ok_begin (P := l.prog) (w := w) (base := base) F_begin z_list (sp := (spBegin K)) (by rintro vs H Q E ⟨_, _, rfl, _⟩; rfl) pure_begin
  have G_take : FnOk l.prog w K mg base CX0 1 f_take _ [("_law_state" : Str), ("_law_many" : Str)] spTake := ok_take (P := l.prog) (w := w) (base := base) F_take z_len z_divmod (sp := spTake) (by rintro vs H Q E ⟨_, _, _, _, _, rfl, _⟩; rfl) pure_take
  have G_number : FnOk l.prog w K mg base CX0 2 f_number _ [("_law_state" : Str)] spNumber := ok_number (P := l.prog) (w := w) (base := base) F_number G_take b_take m_take kp_take (sp := spNumber) (by rintro vs H Q E ⟨_, _, _, _, rfl, _⟩; rfl) pure_number
  have G_text : FnOk l.prog w K mg base CX0 2 f_text _ [("_law_state" : Str)] spText := ok_text (P := l.prog) (w := w) (base := base) F_text G_take b_take m_take kp_take z_range z_len (sp := spText) (by rintro vs H Q E ⟨_, _, _, _, rfl, _⟩; rfl) pure_text
  have G_same_0 : FnOk l.prog w K mg base CX0 0 f_same _ [("_law_found" : Str), ("_law_due" : Str)] (spSame K 0) := fn_no (fd := PySem.W.fnOf ("_law_same" : Str) ("_law_same" : Str) (defArgs s_same) (defBody s_same) (defScope s_same) .none kV_same dc_same pm_same an_same cd_same ct_same) same_no
  have G_same_1 : FnOk l.prog w K mg base CX0 1 f_same _ [("_law_found" : Str), ("_law_due" : Str)] (spSame K 1) := ok_same (P := l.prog) (w := w) (base := base) F_same G_same_0 b_same m_same kp_same z_isinstance z_dict z_list z_tuple z_len z_all z_zip z_str z_int z_bool (sp := (spSame K 1)) (by rintro vs H Q E ⟨_, _, _, rfl, _⟩; rfl) pure_same
  have G_same_2 : FnOk l.prog w K mg base CX0 2 f_same _ [("_law_found" : Str), ("_law_due" : Str)] (spSame K 2) := ok_same (P := l.prog) (w := w) (base := base) F_same G_same_1 b_same m_same kp_same z_isinstance z_dict z_list z_tuple z_len z_all z_zip z_str z_int z_bool (sp := (spSame K 2)) (by rintro vs H Q E ⟨_, _, _, rfl, _⟩; rfl) pure_same
  have G_same_3 : FnOk l.prog w K mg base CX0 3 f_same _ [("_law_found" : Str), ("_law_due" : Str)] (spSame K 3) := ok_same (P := l.prog) (w := w) (base := base) F_same G_same_2 b_same m_same kp_same z_isinstance z_dict z_list z_tuple z_len z_all z_zip z_str z_int z_bool (sp := (spSame K 3)) (by rintro vs H Q E ⟨_, _, _, rfl, _⟩; rfl) pure_same
  have G_same_4 : FnOk l.prog w K mg base CX0 4 f_same _ [("_law_found" : Str), ("_law_due" : Str)] (spSame K 4) := ok_same (P := l.prog) (w := w) (base := base) F_same G_same_3 b_same m_same kp_same z_isinstance z_dict z_list z_tuple z_len z_all z_zip z_str z_int z_bool (sp := (spSame K 4)) (by rintro vs H Q E ⟨_, _, _, rfl, _⟩; rfl) pure_same
  have G_same_5 : FnOk l.prog w K mg base CX0 5 f_same _ [("_law_found" : Str), ("_law_due" : Str)] (spSame K 5) := ok_same (P := l.prog) (w := w) (base := base) F_same G_same_4 b_same m_same kp_same z_isinstance z_dict z_list z_tuple z_len z_all z_zip z_str z_int z_bool (sp := (spSame K 5)) (by rintro vs H Q E ⟨_, _, _, rfl, _⟩; rfl) pure_same
  have G_same_6 : FnOk l.prog w K mg base CX0 6 f_same _ [("_law_found" : Str), ("_law_due" : Str)] (spSame K 6) := ok_same (P := l.prog) (w := w) (base := base) F_same G_same_5 b_same m_same kp_same z_isinstance z_dict z_list z_tuple z_len z_all z_zip z_str z_int z_bool (sp := (spSame K 6)) (by rintro vs H Q E ⟨_, _, _, rfl, _⟩; rfl) pure_same
  have G_same := G_same_6
  have G_own_number_bytes58 : FnOk l.prog w K mg base CX0 1 f_own_number_bytes58 _ [("_law_number_here" : Str)] spNb := ok_own_number_bytes58 (P := l.prog) (w := w) (base := base) F_own_number_bytes58 (sp := spNb) (by rintro vs H Q E ⟨_, rfl, _⟩; rfl) pure_own_number_bytes58
  have G_own_cell_bytes : FnOk l.prog w K mg base CX0 2 f_own_cell_bytes _ [("_law_cell" : Str)] spCb := ok_own_cell_bytes (P := l.prog) (w := w) (base := base) F_own_cell_bytes G_own_number_bytes58 b_own_number_bytes58 m_own_number_bytes58 kp_own_number_bytes58 z_isinstance z_str z_len (sp := spCb) (by rintro vs H Q E ⟨_, rfl, _⟩; rfl) pure_own_cell_bytes
  have G_part : FnOk l.prog w K mg base CX0 3 f_part _ [("_law_cells" : Str), ("_law_level" : Str)] (spPart K) := ok_part (P := l.prog) (w := w) (base := base) F_part G_own_cell_bytes b_own_cell_bytes m_own_cell_bytes kp_own_cell_bytes (sp := (spPart K)) (by rintro vs H Q E ⟨_, _, _, rfl, _⟩; rfl) pure_part
  have G_some_cell : FnOk l.prog w K mg base CX0 3 f_some_cell _ [("_law_state" : Str)] spSomeC := ok_some_cell (P := l.prog) (w := w) (base := base) F_some_cell G_take b_take m_take kp_take G_text b_text m_text kp_text G_number b_number m_number kp_number (sp := spSomeC) (by rintro vs H Q E ⟨_, _, _, _, rfl, _⟩; rfl) pure_some_cell
  exact ok_law (P := l.prog) (w := w) (base := base) F_law G_begin b_begin m_begin kp_begin G_take b_take m_take kp_take G_some_cell b_some_cell m_some_cell kp_some_cell G_part b_part m_part kp_part G_same b_same m_same kp_same G_part_of b_part_of m_part_of kp_part_of z_range z_list z_tuple (sp := (spLaw K)) (by rintro vs H Q E ⟨_, _, rfl, _⟩; rfl) (pure_law58 (by decide))
theorem walk {l : PySem.W.OpenLaw} {q : Program} {loose : List Str} {XP : (Str → Option Value) → Heap → Prop} {YP : World → Heap → Prop} {d : DefRec} {K : Params → PySem.W.Frag} (hn : l.most = some 63) (hdf : d.params.defaults = [])
    (hY : ∀ (w : World) (h : Heap), YP w h → (K w.params).In h)
    (F : ∀ (w : World) (mg : Str → Option Value) (fa : Addr) (h : Heap), (K w.params).In h → h.Ns mainGlobals mg → mg d.name = some (.ref fa) →
      ∃ fd : FuncData, (∀ (s : Shared) (u : Value), BindsTo s fd ⟨[u], []⟩ [("_law_script", u)]) ∧ ∀ base : Heap, (K w.params).In base → base.Ns mainGlobals mg → FnOk l.prog w (K w.params) mg base CX0 7 fa fd ["_law_script"] (spLaw (K w.params))) :
    PySem.W.WalkO q loose XP YP l.row.toRowW d [] (fun f vs => PySem.call f vs) :=
  L2.walk_of (n := 63) (k := 7) (x := "_law_script") (CX := fun _ => CX0) (sp := fun w => spLaw (K w.params)) hn (by decide) hdf ⟨rfl, by decide, by decide⟩ hY F (fun _ _ a ns hl _ hS => ⟨a, ns, rfl, hS, hl, fun _ => rfl⟩) fun _ _ _ _ _ z => z
end Ps
open PySem PySem.W PyProof.Rows
set_option maxRecDepth 100000 in
set_option maxHeartbeats 0 in
theorem PySem.Challenge.cw_pillarstore_k58_parts_of_cells_holds : PySem.Challenge.rw_pillarstore_k58_parts_of_cells.Holds := by
  w_on; o_law; k_head; (case hw => w_witness2)
  k_fill
  refine Ps.walk (l := PySem.Challenge.rw_pillarstore_k58_parts_of_cells) rfl rfl (fun w h Y => PySem.W.kIn_of Y) ?F
  case F =>
    intro w mg fa h KX G hmg
    refine' Ps.all_mk KX G hmg ?a_number_bytes ?l_number_bytes ?c_number_bytes ?kp_number_bytes ?a_text_bytes ?l_text_bytes ?c_text_bytes ?kp_text_bytes ?a_cell_bytes ?l_cell_bytes ?c_cell_bytes ?kp_cell_bytes ?a_part_of ?l_part_of ?c_part_of ?kp_part_of ?a_begin ?l_begin ?c_begin ?kp_begin ?a_take ?l_take ?c_take ?kp_take ?a_number ?l_number ?c_number ?kp_number ?a_text ?l_text ?c_text ?kp_text ?a_same ?l_same ?c_same ?kp_same ?a_own_number_bytes58 ?l_own_number_bytes58 ?c_own_number_bytes58 ?kp_own_number_bytes58 ?a_own_cell_bytes ?l_own_cell_bytes ?c_own_cell_bytes ?kp_own_cell_bytes ?a_part ?l_part ?c_part ?kp_part ?a_some_cell ?l_some_cell ?c_some_cell ?kp_some_cell ?a_law ?l_law ?c_law ?kp_law ?zz_len ?zz_isinstance ?zz_str ?zz_range ?zz_list ?zz_divmod ?zz_dict ?zz_tuple ?zz_all ?zz_zip ?zz_int ?zz_bool ?kk_MORE ?kk_SIGNS ?kk_TIMES ?kk_ROUND ?kk_WAYS
    (case a_number_bytes => k_is)
    (case l_number_bytes => k_is)
    (case c_number_bytes => k_is)
    (case kp_number_bytes => k_is)
    (case a_text_bytes => k_is)
    (case l_text_bytes => k_is)
    (case c_text_bytes => k_is)
    (case kp_text_bytes => k_is)
    (case a_cell_bytes => k_is)
    (case l_cell_bytes => k_is)
    (case c_cell_bytes => k_is)
    (case kp_cell_bytes => k_is)
    (case a_part_of => k_is)
    (case l_part_of => k_is)
    (case c_part_of => k_is)
    (case kp_part_of => k_is)
    (case a_begin => k_is)
    (case l_begin => k_is)
    (case c_begin => k_is)
    (case kp_begin => k_is)
    (case a_take => k_is)
    (case l_take => k_is)
    (case c_take => k_is)
    (case kp_take => k_is)
    (case a_number => k_is)
    (case l_number => k_is)
    (case c_number => k_is)
    (case kp_number => k_is)
    (case a_text => k_is)
    (case l_text => k_is)
    (case c_text => k_is)
    (case kp_text => k_is)
    (case a_same => k_is)
    (case l_same => k_is)
    (case c_same => k_is)
    (case kp_same => k_is)
    (case a_own_number_bytes58 => k_is)
    (case l_own_number_bytes58 => k_is)
    (case c_own_number_bytes58 => k_is)
    (case kp_own_number_bytes58 => k_is)
    (case a_own_cell_bytes => k_is)
    (case l_own_cell_bytes => k_is)
    (case c_own_cell_bytes => k_is)
    (case kp_own_cell_bytes => k_is)
    (case a_part => k_is)
    (case l_part => k_is)
    (case c_part => k_is)
    (case kp_part => k_is)
    (case a_some_cell => k_is)
    (case l_some_cell => k_is)
    (case c_some_cell => k_is)
    (case kp_some_cell => k_is)
    (case a_law => k_is)
    (case l_law => k_is)
    (case c_law => k_is)
    (case kp_law => k_is)
    (case zz_len => k_is)
    (case zz_isinstance => k_is)
    (case zz_str => k_is)
    (case zz_range => k_is)
    (case zz_list => k_is)
    (case zz_divmod => k_is)
    (case zz_dict => k_is)
    (case zz_tuple => k_is)
    (case zz_all => k_is)
    (case zz_zip => k_is)
    (case zz_int => k_is)
    (case zz_bool => k_is)
    (case kk_MORE => k_is)
    (case kk_SIGNS => k_is)
    (case kk_TIMES => k_is)
    (case kk_ROUND => k_is)
    (case kk_WAYS => k_is)
#print axioms PySem.Challenge.cw_pillarstore_k58_parts_of_cells_holds

