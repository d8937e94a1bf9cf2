import PyProof.Rows.All
import Wide.All
import OpenK.AllK
import Wide.FinOn
import HandS.ForMost
import HandS.ForExc
import HandS.IsInst
import HandS.Walk
import HandS.Zip
import HandS.Wide
import HandS.Flow
import HandS.Small
import HandS.Rev
import HandS.More
import HandS.Steps
import HandS.WideBits
import HandS.TupAny
import KE.GoesEnum
import HandS.ExcInit
import HandS.ExcIs
import HandS.ExcField
import HandS.ClsMeth
import KE.KExcIs
import HandS.TryOnly
import KE.RegKIsAll
import PyProof.Rows.ChunkEnd
import HandS.Replace
import HandS.Text
import HandS.ReplaceList
import HandS.Strs
import HandS.SetFor
import KE.KMinKey
import HandS.SortKw
import HandS.SortInts
import PyProof.P3Eq
import PySem.Challenge.RW_pillarstore_k17_notes
set_option Elab.async false
set_option linter.all false
set_option maxRecDepth 100000
set_option maxHeartbeats 4000000
/-! PsA: rules that choose by the value at hand, for a printed walk. -/
namespace Ps
open PySem PySem.Spec PyProof.Rows L2

theorem opr_or {X : Cx} {f : Value → Value → Sem Value} {r r' : R2} (h : OpR X f r) (h' : OpR X f r') : OpR X f (fun x y H Q => r x y H Q ∨ r' x y H Q) := by
  intro pins s σ H x y v u Q I rx ry q
  rcases q with q | q
  · exact h pins s σ H x y v u Q I rx ry q
  · exact h' pins s σ H x y v u Q I rx ry q
theorem callr_or {X : Cx} {f : Value} {r r' : List V → Hp → VK → Prop} (h : CallR X f r) (h' : CallR X f r') : CallR X f (fun xs H Q => r xs H Q ∨ r' xs H Q) := by
  intro pins s σ H xs us Q I r q
  rcases q with q | q
  · exact h pins s σ H xs us Q I r q
  · exact h' pins s σ H xs us Q I r q
theorem pi_or {X : Cx} {tg e : Expr} {w w' : TI} (h : PI X tg e w) (h' : PI X tg e w') : PI X tg e (fun σ H R => w σ H R ∨ w' σ H R) := by
  refine ⟨fun pins s σ H R I q => ?_⟩
  rcases q with q | q
  · exact h.run pins s σ H R I q
  · exact h'.run pins s σ H R I q
theorem pset_or {X : Cx} {r r' : TSet} (h : PSet X r) (h' : PSet X r') : PSet X (fun o i v H Q => r o i v H Q ∨ r' o i v H Q) := by
  intro pins s σ H o i v ov iv u Q I ro ri rv q
  rcases q with q | q
  · exact h pins s σ H o i v ov iv u Q I ro ri rv q
  · exact h' pins s σ H o i v ov iv u Q I ro ri rv q

/-! ### operators -/
def rStrAdd : R2 := fun x y H Q => ∃ i j, x = .str i ∧ y = .str j ∧ i.length + j.length ≤ sizeLine ∧ Q (.str (i ++ j)) H
def rAddU (K : PySem.W.Frag) : R2 := fun x y H Q => (rI0 (fun i j => .int (i + j)) x y H Q ∨ rStrAdd x y H Q) ∨ (rCat x y H Q ∨ rCatA K x y H Q)
def rMulU : R2 := fun x y H Q => (rI CMul (fun i j => .int (i * j)) x y H Q ∨ rI CMulW (fun i j => .int (i * j)) x y H Q) ∨ rRep x y H Q
def rDivU : R2 := fun x y H Q => rI CDiv (fun i j => .int (i / j)) x y H Q ∨ rI CDivW (fun i j => .int (i / j)) x y H Q
def rModU : R2 := rI (fun _ j => 0 < j) fun i j => .int (i % j)
def rPowU : R2 := rI CPow fun i j => .int (i ^ j.toNat)
def rSubU : R2 := rI0 fun i j => .int (i - j)
def rIxD : R2 := fun x y H Q => ∃ a v, x = .ref a ∧ DGet H a y (some v) ∧ Q v H
def rIxU (K : PySem.W.Frag) : R2 := fun x y H Q => (rIxL K x y H Q ∨ rIxT K x y H Q) ∨ (rIxS x y H Q ∨ rIxD x y H Q)
def rEqU (K : PySem.W.Frag) : R2 := fun x y H Q => rEq x y H Q ∨ rEqD K x y H Q
def rNeU (K : PySem.W.Frag) : R2 := fun x y H Q => rNe x y H Q ∨ rNeD K x y H Q
def rLtS : R2 := fun x y H Q => ∃ i j, x = .str i ∧ y = .str j ∧ Q (.bl (decide (i.cps.toList < j.cps.toList))) H
def rLtU (K : PySem.W.Frag) : R2 := fun x y H Q => rI0 (fun i j => .bl (decide (i < j))) x y H Q ∨ rLtS x y H Q
def rLeU : R2 := rI0 fun i j => .bl (decide (i ≤ j))
def rGtU : R2 := rI0 fun i j => .bl (decide (j < i))
def rGeU : R2 := rI0 fun i j => .bl (decide (j ≤ i))
def rInD (neg : Bool) : R2 := fun y x H Q => ∃ a o, x = .ref a ∧ DGet H a y o ∧ Q (.bl (if neg then !o.isSome else o.isSome)) H
def rInS (neg : Bool) : R2 := fun x y H Q => ∃ i j, x = .str i ∧ y = .str j ∧ Q (.bl (if neg then !(!(Builtin.Str.occurrences j i 0 j.length 1).isEmpty) else !(Builtin.Str.occurrences j i 0 j.length 1).isEmpty)) H
def rInU (K : PySem.W.Frag) (neg : Bool) : R2 := fun x y H Q => rIn K neg x y H Q ∨ (rInS neg x y H Q ∨ rInD neg x y H Q)
def rIsN : R2 := fun x y H Q => y = .non ∧ Q (.bl (decide (x = .non))) H
def rNotN : R2 := fun x y H Q => y = .non ∧ Q (.bl (!decide (x = .non))) H

section
variable {X : Cx}
theorem op_addU : OpR X (binaryOp .Add) (rAddU X.K) := opr_or (opr_or op_add op_add_str) (opr_or op_cat op_catA)
theorem op_mulU : OpR X (binaryOp .Mult) rMulU := opr_or (opr_or op_mul op_mulW) op_rep
theorem op_divU : OpR X (binaryOp .FloorDiv) rDivU := opr_or op_fdiv op_fdivW
theorem op_modU : OpR X (binaryOp .Mod) rModU := op_mod
theorem op_powU : OpR X (binaryOp .Pow) rPowU := op_pow
theorem op_subU : OpR X (binaryOp .Sub) rSubU := op_sub
theorem op_eqU (hu : X.A.units + 64 < cLine) : OpR X (compareOp .Eq) (rEqU X.K) := opr_or op_eq (op_eqD hu)
theorem op_neU (hu : X.A.units + 64 < cLine) : OpR X (compareOp .NotEq) (rNeU X.K) := opr_or op_ne (op_neD hu)
theorem op_ltU : OpR X (compareOp .Lt) (rLtU X.K) := opr_or op_lt op_lt_str
theorem op_leU : OpR X (compareOp .LtE) rLeU := op_le
theorem op_gtU : OpR X (compareOp .Gt) rGtU := op_gt
theorem op_geU : OpR X (compareOp .GtE) rGeU := op_ge
theorem op_inD (hu : X.A.units + 1 < cLine) : OpR X (compareOp .In) (rInD false) := by
  intro pins s σ H x y v u Q I rx ry h
  obtain ⟨a, o, rfl, g, q⟩ := h
  cases ry
  exact d_in hu I g rx fun s3 I3 => ⟨.bl o.isSome, H, I3, rfl, q⟩
theorem op_niD (hu : X.A.units + 1 < cLine) : OpR X (compareOp .NotIn) (rInD true) := by
  intro pins s σ H x y v u Q I rx ry h
  obtain ⟨a, o, rfl, g, q⟩ := h
  cases ry
  exact d_notIn hu I g rx fun s3 I3 => ⟨.bl (!o.isSome), H, I3, rfl, q⟩
theorem op_inU (hu : X.A.units + 1 < cLine) : OpR X (compareOp .In) (rInU X.K false) := opr_or op_in_seq (opr_or op_in_str (op_inD hu))
theorem op_niU (hu : X.A.units + 1 < cLine) : OpR X (compareOp .NotIn) (rInU X.K true) := opr_or op_notIn_seq (opr_or op_notIn_str (op_niD hu))
theorem op_isNU : OpR X (compareOp .Is) rIsN := op_isN
theorem op_notNU : OpR X (compareOp .IsNot) rNotN := op_notN
theorem ix_dict (hu : X.A.units + 1 < cLine) : IxR X rIxD := by
  intro value slice pins s σ H x y v u Q I rx ry h hs
  obtain ⟨a, z, rfl, g, q⟩ := h
  cases rx
  have hT := dict_typeIs I g
  have h2 : wpAny (model X.prog X.w) X.A (getItem (.ref a) u) (EP X pins σ Q) X.xe s := d_getItem hu I g ry fun w' s3 I3 rw' => ⟨z, H, I3, rw', q⟩
  unfold subscriptTail
  refine wpAny_bind ?_
  rw [getitemInPython_of_ne hT.not_modules]
  refine wpAny_bind (wpAny_specialOf hT PySem.F.slot_dict_getitem.lookup ?_)
  have fin : wpAny (model X.prog X.w) X.A (subscripted slice false (.ref a) u) (fun r s₃ => wpAny (model X.prog X.w) X.A (letTemporaryGo value (.ref a) r >>= fun _ => pure r) (EP X pins σ Q) X.xe s₃) X.xe s := by
    rw [hs]
    exact wpAny_operating (wpAny_mono h2 (fun r s₃ h₃ => wpAny_bind (wpAny_letTemporaryGo (wpAny_pure h₃))) fun _ _ x => x)
  first
    | exact wpAny_pure (wpAny_bind fin)
    | exact wpAny_bind (wpAny_pure (wpAny_bind fin))
    | exact wpAny_bind fin
theorem ix_u (hu : X.A.units + 1 < cLine) : IxR X (rIxU X.K) := (ix_list.or ix_tup).or (ix_str.or (ix_dict hu))
end

/-! ### calls of what is built in -/
def rLenU (K : PySem.W.Frag) : List V → Hp → VK → Prop := fun xs H Q => (∃ x n, xs = [x] ∧ LenV K x H n ∧ Q (.int n) H) ∨ ∃ a kvs, xs = [V.ref a] ∧ Rd H a (.dK kvs) ∧ Q (.int kvs.length) H
def rListU (K : PySem.W.Frag) : List V → Hp → VK → Prop := fun xs H Q => (∃ p ys, xs = [.ref p] ∧ (SqL K H p ys ∨ SqT K H p ys) ∧ ∀ l, H l = none → Q (.ref l) (upd H l (.lst ys))) ∨
  ∃ (a : Addr) (kvs : List (Key × V)), xs = [.ref a] ∧ Rd H a (.dK kvs) ∧ ∀ p, H p = none → Q (.ref p) (upd H p (.lst (kvs.map fun kv => kV kv.1)))
def rTupU (K : PySem.W.Frag) : List V → Hp → VK → Prop := fun xs H Q => ∃ p ys, xs = [.ref p] ∧ ((SqL K H p ys ∧ ∀ l, H l = none → Q (.ref l) (upd H l (.tup ys))) ∨ (SqT K H p ys ∧ Q (.ref p) H))
def rIntU : List V → Hp → VK → Prop := fun xs H Q => (∃ i, xs = [.int i] ∧ Q (.int i) H) ∨ ∃ k, xs = [.bl k] ∧ Q (.int (if k then 1 else 0)) H
def rDivmod : List V → Hp → VK → Prop := fun xs H Q => ∃ i j, xs = [.int i, .int j] ∧ CDivP i j ∧ ∀ p, H p = none → Q (.ref p) (upd H p (.tup [.int (i / j), .int (i % j)]))
def rAbs : List V → Hp → VK → Prop := fun xs H Q => ∃ i, xs = [.int i] ∧ Q (.int (if i < 0 then -i else i)) H
def rMax2 : List V → Hp → VK → Prop := fun xs H Q => ∃ i j, xs = [.int i, .int j] ∧ Q (.int (if j > i then j else i)) H
def rMin2 : List V → Hp → VK → Prop := fun xs H Q => ∃ i j, xs = [.int i, .int j] ∧ Q (.int (if j < i then j else i)) H
def rSetU : TSet := fun o i v H Q => rSetL o i v H Q ∨ rSetD o i v H Q
def rSlU (K : PySem.W.Frag) : V → Option Int → Option Int → Hp → VK → Prop := fun x lo hi H Q => (rSlL K x lo hi H Q ∨ rSlA K x lo hi H Q) ∨ ∃ z, x = .str z ∧ z.length ≤ sizeLine ∧ Q (.str (cutS z lo hi)) H
section
variable {X : Cx}
theorem call_lenDk : CallR X (.builtin "len") (fun xs H Q => ∃ a kvs, xs = [V.ref a] ∧ Rd H a (.dK kvs) ∧ Q (.int kvs.length) H) := by
  intro pins s σ H xs us Q I r h
  obtain ⟨a, kvs, rfl, ha, q⟩ := h
  obtain ⟨u, rfl, ru⟩ := vals1 r
  cases ru
  exact d_len I ha fun t s' I' => ⟨.int kvs.length, H, I', ⟨t, rfl⟩, q⟩
theorem call_lenU : CallR X (.builtin "len") (rLenU X.K) := callr_or call_len call_lenDk
theorem call_listU (hc : X.calm = true) : CallR X (.type "list") (rListU X.K) := callr_or call_list_of (call_listD hc)
theorem call_tupU : CallR X (.type "tuple") (rTupU X.K) := call_tuple_of
theorem call_intU : CallR X (.type "int") rIntU := call_int1
theorem call_divmodU : CallR X (.builtin "divmod") rDivmod := call_divmodW
theorem call_absU : CallR X (.builtin "abs") rAbs := call_abs
theorem call_max2U (hc : X.calm = true) : CallR X (.builtin "max") rMax2 := call_max2 hc
theorem call_min2U (hc : X.calm = true) : CallR X (.builtin "min") rMin2 := call_min2 hc
theorem set_u (hu : X.A.units + 1 < cLine) : PSet X rSetU := pset_or set_list (set_dict hu)
theorem sl_u : SlR X (rSlU X.K) := (sl_list.or sl_tupA).or sl_str
end

/-! ### what is walked -/
/-- a list, a tuple, a text at a name -/
def iSeqV (K : PySem.W.Frag) (tl : TE) : TI := fun σ H R => tl σ H fun x H1 => (∃ a xs, x = .ref a ∧ SqL K H1 a xs ∧ R (Itl K a) H1) ∨ (∃ a xs, x = .ref a ∧ SqT K H1 a xs ∧ R (Itt K a) H1) ∨ ∃ z, x = .str z ∧ R (Its z) H1
section
variable {X : Cx} {tg : Expr}
/-- a value that has come already: the rest of a rule of PE's -/
theorem pi_seqV {l : Expr} {tl : TE} (hl : PE X l tl) : PI X tg l (iSeqV X.K tl) := by
  refine ⟨fun pins s σ H R I h => ?_⟩
  have hA : ∀ (a : Addr) (s1 : Shared) (H1 : Hp), Inv X pins σ H1 s1 → ∀ xs, SqL X.K H1 a xs → R (Itl X.K a) H1 → wpAny (model X.prog X.w) X.A (pyIter (.ref a)) (PIE X pins σ tg R) X.xe s1 := by
    intro a s1 H1 I1 xs hq q
    obtain ⟨its, rv, p, hz⟩ := I1.list hq
    refine wpAny_pyIter_list p.isList ?_
    refine ⟨s1.heap.objs.size, [s1.heap.objs.size], _, _, H1, rfl, I1.kept (t' := s1.toks) fun b o e => Heap.get?_push_of_some _ e, turn_list a _, ⟨_, Heap.get?_push_size _ rfl, rfl, rfl⟩, fun b hb => ?_, q⟩
    have e : b = s1.heap.objs.size := by simpa using hb
    subst e
    exact I1.fpOk (Nat.le_refl _) (I1.hok.fresh (Nat.le_refl _))
  have hB : ∀ (a : Addr) (s1 : Shared) (H1 : Hp), Inv X pins σ H1 s1 → ∀ xs, SqT X.K H1 a xs → R (Itt X.K a) H1 → wpAny (model X.prog X.w) X.A (pyIter (.ref a)) (PIE X pins σ tg R) X.xe s1 := by
    intro a s1 H1 I1 xs hq q
    obtain ⟨its, rv, p, hz⟩ := I1.tuple hq
    refine wpAny_pyIter_tuple (show s1.heap.IsTuple a its.toArray from p) ?_
    refine ⟨s1.heap.objs.size, [s1.heap.objs.size], _, _, H1, rfl, I1.kept (t' := s1.toks) fun b o e => Heap.get?_push_of_some _ e, turn_tuple a _, ⟨_, Heap.get?_push_size _ rfl, rfl, rfl⟩, fun b hb => ?_, q⟩
    have e : b = s1.heap.objs.size := by simpa using hb
    subst e
    exact I1.fpOk (Nat.le_refl _) (I1.hok.fresh (Nat.le_refl _))
  have hC : ∀ (z : Str) (s1 : Shared) (H1 : Hp) (u : Value), Inv X pins σ H1 s1 → RelV (.str z) u → R (Its z) H1 → wpAny (model X.prog X.w) X.A (pyIter u) (PIE X pins σ tg R) X.xe s1 := by
    intro z s1 H1 u I1 ru q
    obtain ⟨t, rfl⟩ := ru
    cases ha : z.cps.all (· < 128)
    · exact wpAny_pyIter_wide ha (pi_one (tk := s1.toks) I1 _ (turn_str _ z t "str_iterator" (.inr rfl)) ⟨_, Heap.get?_push_size _ rfl, rfl, rfl⟩ q)
    · exact wpAny_pyIter_ascii ha (pi_one (tk := s1.toks) I1 _ (turn_str _ z t "str_ascii_iterator" (.inl rfl)) ⟨_, Heap.get?_push_size _ rfl, rfl, rfl⟩ q)
  exact thn (hl.run pins s σ H _ I h) fun v s1 ⟨x, H1, I1, r1, q1⟩ => by
    rcases q1 with ⟨a, xs, e, hq, q⟩ | ⟨a, xs, e, hq, q⟩ | ⟨z, e, q⟩
    · subst e
      cases r1
      exact hA a s1 H1 I1 xs hq q
    · subst e
      cases r1
      exact hB a s1 H1 I1 xs hq q
    · subst e
      exact hC z s1 H1 v I1 r1 q
end

/-! ### names that are built in, further forms -/
theorem bt_len : bootBuiltins "len" = some (.builtin "len") := by decide +kernel
theorem bt_isinstance : bootBuiltins "isinstance" = some (.builtin "isinstance") := by decide +kernel
theorem bt_all : bootBuiltins "all" = some (.builtin "all") := by decide +kernel
theorem bt_any : bootBuiltins "any" = some (.builtin "any") := by decide +kernel
theorem bt_sum : bootBuiltins "sum" = some (.builtin "sum") := by decide +kernel
theorem bt_divmod : bootBuiltins "divmod" = some (.builtin "divmod") := by decide +kernel
theorem bt_abs : bootBuiltins "abs" = some (.builtin "abs") := by decide +kernel
theorem bt_max : bootBuiltins "max" = some (.builtin "max") := by decide +kernel
theorem bt_min : bootBuiltins "min" = some (.builtin "min") := by decide +kernel
theorem bt_sorted : bootBuiltins "sorted" = some (.builtin "sorted") := by decide +kernel
theorem bt_int : bootBuiltins "int" = some (.type "int") := by decide +kernel
theorem bt_bool : bootBuiltins "bool" = some (.type "bool") := by decide +kernel
theorem bt_str : bootBuiltins "str" = some (.type "str") := by decide +kernel
theorem bt_list : bootBuiltins "list" = some (.type "list") := by decide +kernel
theorem bt_tuple : bootBuiltins "tuple" = some (.type "tuple") := by decide +kernel
theorem bt_dict : bootBuiltins "dict" = some (.type "dict") := by decide +kernel
theorem bt_set : bootBuiltins "set" = some (.type "set") := by decide +kernel
theorem bt_type : bootBuiltins "type" = some (.type "type") := by decide +kernel
theorem bt_range : bootBuiltins "range" = some (.type "range") := by decide +kernel
theorem bt_zip : bootBuiltins "zip" = some (.type "zip") := by decide +kernel
theorem bt_enumerate : bootBuiltins "enumerate" = some (.type "enumerate") := by decide +kernel
theorem bt_reversed : bootBuiltins "reversed" = some (.type "reversed") := by decide +kernel
def rIsiU (K : PySem.W.Frag) : List V → Hp → VK → Prop := fun xs H Q => rIsi K xs H Q ∨ rIsiT K xs H Q
def rNeg : V → Hp → VK → Prop := rU fun i => .int (-i)
def ipAddU (K : PySem.W.Frag) : TIp := fun x y H Q => (∃ i j, x = .int i ∧ y = .int j ∧ Q (.int (i + j)) H) ∨ ∃ i j, x = .str i ∧ y = .str j ∧ i.length + j.length ≤ sizeLine ∧ Q (.str (i ++ j)) H
def ipMulU : TIp := fun x y H Q => ∃ i j, x = .int i ∧ y = .int j ∧ (CMul i j ∨ CMulW i j) ∧ Q (.int (i * j)) H
section
variable {X : Cx}
theorem call_isiU : CallR X (.builtin "isinstance") (rIsiU X.K) := callr_or call_isi call_isiT
theorem un_negU : UnR X (unaryOp .USub) rNeg := un_neg
theorem ip_addU : PIp X .Add (ipAddU X.K) := by
  intro pins s σ H x y v u Q I rx ry h
  rcases h with h | h
  · exact ip_add pins s σ H x y v u Q I rx ry h
  · exact iop_add_str pins s σ H x y v u Q I rx ry h
theorem ip_mulU : PIp X .Mult ipMulU := by
  intro pins s σ H x y v u Q I rx ry h
  obtain ⟨i, j, rfl, rfl, hc, q⟩ := h
  obtain ⟨t, rfl⟩ := rx
  obtain ⟨t', rfl⟩ := ry
  refine imul_int ⟨.int _, H, I.tok _, ⟨_, rfl⟩, q⟩ ?_
  rcases hc with hc | hc
  · exact hc.ok
  · exact hc.ok
theorem pt_truU {a : Expr} {ta : TE} (ha : PE X a ta) (he : ∀ whole, isTrue a X.env whole = (do let v ← whole; standAt a.pos; holding [v] (truthy v))) : PT X a (tTru X.K ta) := pt_truth ha he
end

end Ps

/-! PsB: enumerate over a tuple, too. -/
namespace Ps
open PySem PySem.Spec PyProof.Rows L2

theorem meets_enum1B {v : Value} {o : Obj} {H : Heap → Prop} (B : Begins v o H) :
    Meets (Builtin.«enumerate.__new__» ⟨[.type "enumerate", v], []⟩) (fun _ R s => H s.heap ∧
      R (.ok (.ret (.ref (s.heap.push o).objs.size))) { s with heap := (s.heap.push o).push { cls := .type "enumerate", data := .fields #[.none, .bool false, .ref s.heap.objs.size, rawInt 0, .none, .none] } }) :=
  .of_wp fun prog w A R s h => by
    obtain ⟨hp, g, d, tk, os⟩ := s; obtain ⟨h1, h⟩ := h
    have hsub := sub_enumerate
    have q1 : ∀ {A' : Around} {E : Value → Shared → Prop} {Q : Value → Shared → Prop}, Q (.ref hp.objs.size) ⟨hp.push o, g, d, tk, os⟩ → wpAny (model prog w) A' (pyIter v) Q E ⟨hp, g, d, tk, os⟩ :=
      fun q => B.iter prog w _ _ ⟨hp, g, d, tk, os⟩ _ h1 q
    wp_walk using q1
    refine wpAny_stack_any fun st => wpAny_pure ?_
    split
    · rename_i c _ _ _ _ _
      cases (c == Value.type "enumerate")
      · wp_walk using q1
        exact ⟨_, rfl, h⟩
      · wp_walk using q1
        exact ⟨_, rfl, h⟩
    · wp_walk using q1
      exact ⟨_, rfl, h⟩
section
variable {prog : Program} {w : World} {A : Around} {E : Value → Shared → Prop} {s : Shared}
theorem call_enumB {v : Value} {o : Obj} {H : Heap → Prop} {Q : Value → Shared → Prop} (B : Begins v o H) (h1 : H s.heap)
    (h : ∀ h', IsEnum h' (s.heap.objs.size + 1) s.heap.objs.size 0 .none → h'.get? s.heap.objs.size = some o → h'.objs.size = s.heap.objs.size + 2 →
      (∀ b o, s.heap.get? b = some o → h'.get? b = some o) → Q (.ref (s.heap.objs.size + 1)) { s with heap := h' }) :
    wpAny (model prog w) A (call (.type "enumerate") [v]) Q E s := by
  refine callType_new F.called_enumerate (by decide) (F.typeCall_enumerate_1 _) (F.newCall_enumerate_1 _) (fun obj => F.args_object_init_2 obj _) F.entry_enumerate_new
    (meets_enum1B B) ⟨h1, ?_⟩
  have hz : (s.heap.push o).objs.size = s.heap.objs.size + 1 := Heap.size_push ..
  show _ ∧ _
  rw [hz]
  have he : IsEnum ((s.heap.push o).push { cls := .type "enumerate", data := .fields #[.none, .bool false, .ref s.heap.objs.size, rawInt 0, .none, .none] }) (s.heap.objs.size + 1) s.heap.objs.size 0 .none := by
    have := Heap.get?_push_size (s.heap.push o) (o := { cls := .type "enumerate", data := .fields #[.none, .bool false, .ref s.heap.objs.size, rawInt 0, .none, .none] }) rfl
    rw [hz] at this; exact this
  refine ⟨⟨_, he, rfl⟩, h _ he (Heap.get?_push_of_some _ (Heap.get?_push_size _ B.free)) (by rw [Heap.size_push, hz]) fun b o x => Heap.get?_push_of_some _ (Heap.get?_push_of_some _ x)⟩
end

section
variable {prog : Program} {w : World} {A : Around} {E : Value → Shared → Prop} {s : Shared}
theorem enumT_end {e it l : Addr} {i : Nat} {items : Array Value} {old : Value} {Q : Option Value → Shared → Prop} (hh : A.handled = none)
    (he : IsEnum s.heap e it i old) (hit : s.heap.IsTupleIter it l i) (hl : s.heap.IsTuple l items) (hx : items[i]? = none)
    (hQ : ∀ h', Heap.ExtBut it s.heap h' → Q none { s with heap := h' }) : wpAny (model prog w) A (pyNext (.ref e)) Q E s := by
  have hT : s.TypeIs (.ref e) "enumerate" := ⟨_, he, rfl⟩
  unfold pyNext
  refine wpAny_bind (wpAny_attempt (wpAny_callSpecial?_slot (name := Str.ofString "__next__") hT F.slot_enumerate_next
    (wpAny_call_entry F.slot_enumerate_next hT F.entry_enumerate_next ?_ (F.args_enumerate_next_1 _))))
  show wpAny _ _ (field (.ref e) 2 >>= _) _ _ _
  refine wpAny_bind (wpAny_field he rfl (x := .ref it) rfl ?_)
  refine wpAny_bind (wpAny_nextOf_tuple_end hh hit hl hx fun h' x he' hx' => ?_)
  obtain ⟨o, ho, hc⟩ := hx'
  refine wpAny_bind (wpAny_isInstance (T := "StopIteration") (b := true) ⟨o, ho, hc⟩ isSubtype_stop ?_)
  exact wpAny_pure (hQ _ he')
end

def IteT (K : PySem.W.Frag) (a : Addr) : It :=
  ⟨fun i H => ∃ (xs : List V) (x : V), SqT K H a xs ∧ xs[i]? = some x, fun i H v H' => ∃ T x, v = .ref T ∧ H T = none ∧ H' = upd H T (.tup [.int (i : Nat), x]) ∧ ∀ xs, SqT K H a xs → xs[i]? = some x, fun i H => ∃ xs : List V, SqT K H a xs ∧ xs.length ≤ i⟩
theorem turn_enumT {P : Program} {w : World} {K : PySem.W.Frag} {elts : List Expr} {kk : Nat} {tpos : Pos} (a e it : Addr) :
    Turn P w K (.Tuple elts kk tpos) (IteT K a) [e, it] e (fun i h => (∃ old, IsEnum h e it ((i : Nat) : Int) old) ∧ h.IsTupleIter it a i ∧ e ≠ it ∧ a ≠ it ∧ a ≠ e) where
  mem := by simp
  obj := fun i h st b hb => by
    obtain ⟨⟨old, he⟩, ⟨o, ho, hc, hd⟩, _⟩ := st
    have e' : b = e ∨ b = it := by simpa using hb
    rcases e' with z | z
    · rw [z]; exact ⟨_, he, fun v q => nomatch q⟩
    · rw [z]; exact ⟨o, ho, fun v q => by rw [hd] at q; cases q⟩
  keep := fun i h h' st k => let ⟨⟨old, he⟩, hi, hne⟩ := st; ⟨⟨old, k e (by simp) _ he⟩, hi.at fun o q => k it (by simp) o q, hne⟩
  item := by
    intro X hP hw hK hc i pins s σ H E I hf st hg
    subst hP hw hK
    obtain ⟨⟨old, he⟩, hit, hne, nai, nae⟩ := st
    obtain ⟨xs, x, hq, hx⟩ := hg
    obtain ⟨its, rv, p, hz⟩ := I.tuple hq
    obtain ⟨u, hu, ru⟩ := rv.get hx
    have hel : e < s.heap.objs.size := Heap.lt_size he
    have hil : it < s.heap.objs.size := by obtain ⟨_, q, _⟩ := hit; exact Heap.lt_size q
    have hlt : i < its.toArray.size := by
      have q := (List.getElem?_eq_some_iff.mp hu).1
      simpa using q
    refine wpAny_pyNext_enum_itemD (Draws.tuple (prog := X.prog) (w := X.w) (A := X.A.in1) (I.ok.hd hc) it a nai its.toArray) he ⟨hit, p⟩ hlt hne (by simp [hne, Ne.symm nae]) fun x' h' tk hx' ho st' hT hsz hk => ?_
    have ex : x' = u := by
      have q : its[i]? = some x' := by simpa using hx'
      rw [hu] at q
      exact (Option.some.inj q).symm
    subst ex
    refine ⟨_, rfl, wpAny_letOwnedTupleGo_enum (s := { s with heap := h', toks := tk + 1 }) ho fun h'' he' sb => ?_⟩
    have hT2 : h''.get? s.heap.objs.size = some { cls := .type "tuple", data := .seq #[.int i tk, x'] } := (sb.2 _ (Nat.ne_of_gt hel)).trans hT
    have new : ObjOk X.prog X.w (upd H s.heap.objs.size (.tup [.int (i : Nat), x])) h'' s.heap.objs.size (.tup [.int (i : Nat), x]) :=
      ⟨by show 2 ≤ sizeLine; decide, [.int i tk, x'], .cons ⟨_, rfl⟩ (.cons ru .nil), ⟨_, hT2, rfl, _, rfl⟩⟩
    have I1 : Inv X pins σ (upd H s.heap.objs.size (.tup [.int (i : Nat), x])) { s with heap := h'', toks := tk + 1 } :=
      I.turnedNew (ch := [e, it]) (fun b ob hb q => (sb.2 b (fun z => hb (by simp [z]))).trans (hk b ob (fun z => hb (by simp [z])) (fun z => hb (by simp [z])) q)) hf (Nat.le_refl _) new
    refine ⟨.ref s.heap.objs.size, _, I1, rfl, ⟨_, x, rfl, I.hok.fresh (Nat.le_refl _), rfl, fun ys hy => by rw [I.tuple_inj hy hq]; exact hx⟩, ⟨⟨x', ?_⟩, st'.1.at fun o q => (sb.2 it (Ne.symm hne)).trans q, hne, nai, nae⟩, fun b hb => ?_⟩
    · have e1 : ((i + 1 : Nat) : Int) = (i : Int) + 1 := by omega
      rw [e1]; exact he'
    · have hb' : b < s.heap.objs.size := by
        have e' : b = e ∨ b = it := by simpa using hb
        rcases e' with z | z
        · rw [z]; exact hel
        · rw [z]; exact hil
      rw [upd_ne (Nat.ne_of_lt hb')]
      exact (hf b hb).1
  done := by
    intro X hP hw hK hc i pins s σ H E I hf st hg
    subst hP hw hK
    obtain ⟨⟨old, he⟩, hit, hne, nai, nae⟩ := st
    obtain ⟨xs, hq, hx⟩ := hg
    obtain ⟨its, rv, p, hz⟩ := I.tuple hq
    obtain ⟨f0, f1, f2, f3, f4, f5⟩ := hf it (by simp)
    have hl := rv.length
    exact enumT_end (I.ok.hd hc) he hit p (by simp; omega) fun h' eb => ⟨rfl, I.turned (t' := s.toks) (fun b o hb q => eb b o hb q) f0 f1 f3 f4 f5⟩
  self := fun A i s Q E st h => let ⟨⟨_, he⟩, _⟩ := st; wpAny_pyIter_enum he h
def iEnumU (K : PySem.W.Frag) (ta : TA) : TI := fun σ H R => ta σ H fun vs H1 => ∃ a xs, vs = [.ref a] ∧ ((SqL K H1 a xs ∧ R (Ite K a) H1) ∨ (SqT K H1 a xs ∧ R (IteT K a) H1))
theorem pi_enumU {X : Cx} {e : Expr} {ta : TA} {p pos tpos : Pos} {elts : List Expr} {kk : Nat} (hg : Gl X "enumerate") (hm : X.mg "enumerate" = none) (ha : PA X [e] ta) (hs : starEach [e] X.env = [(false, eval e X.env)] := by rfl) :
    PI X (.Tuple elts kk tpos) (.Call (.Name "enumerate" p) [e] [] pos) (iEnumU X.K ta) := by
  refine ⟨fun pins s σ H R I h => ?_⟩
  refine Call_ (ld_blt I hg hm boot_enumerate (PyProof.Rows.callWith_type1 (thn (ha.run pos pins s σ H _ I h) fun us s1 ⟨vs, H1, I1, r1, q1⟩ => ?_) hs rfl))
  obtain ⟨a, xs, ex, q1⟩ := q1
  subst ex
  cases r1 with
  | cons r rr =>
    cases rr
    cases r
    have fr : ∀ b, b ∈ [s1.heap.objs.size + 1, s1.heap.objs.size] → FpOk X pins H1 b := fun b hb => by
      have e' : b = s1.heap.objs.size + 1 ∨ b = s1.heap.objs.size := by simpa using hb
      have hle : s1.heap.objs.size ≤ b := by
        rcases e' with z | z
        · rw [z]; exact Nat.le_add_right _ _
        · rw [z]; exact Nat.le_refl _
      exact I1.fpOk hle (I1.hok.fresh hle)
    rcases q1 with ⟨hq, q⟩ | ⟨hq, q⟩
    · obtain ⟨its, rv, p', hz⟩ := I1.list hq
      refine call_enumerate_list p'.isList fun h' he hit hsz hk => wpAny_pyIter_enum he ?_
      have I2 : Inv X pins σ H1 { s1 with heap := h' } := I1.kept (t' := s1.toks) hk
      exact ⟨s1.heap.objs.size + 1, [s1.heap.objs.size + 1, s1.heap.objs.size], _, _, H1, rfl, I2, turn_enum a (s1.heap.objs.size + 1) s1.heap.objs.size, ⟨⟨.none, he⟩, hit, Nat.succ_ne_self _⟩, fr, q⟩
    · obtain ⟨its, rv, p', hz⟩ := I1.tuple hq
      have la : a < s1.heap.objs.size := p'.lt
      refine call_enumB (begins_tuple a its.toArray) (show s1.heap.IsTuple a its.toArray from p') fun h' he hit hsz hk => wpAny_pyIter_enum he ?_
      have I2 : Inv X pins σ H1 { s1 with heap := h' } := I1.kept (t' := s1.toks) hk
      exact ⟨s1.heap.objs.size + 1, [s1.heap.objs.size + 1, s1.heap.objs.size], _, _, H1, rfl, I2, turn_enumT a (s1.heap.objs.size + 1) s1.heap.objs.size, ⟨⟨.none, he⟩, ⟨_, hit, rfl, rfl⟩, Nat.succ_ne_self _, Nat.ne_of_lt la, Nat.ne_of_lt (Nat.lt_succ_of_lt la)⟩, fr, q⟩
theorem walk_enumT {K : PySem.W.Frag} {a : Addr} {xs : List V} : Walk (IteT K a) xs.length (fun H => SqT K H a xs) (YPair (fun i => some (.int (i : Nat))) (fun i => xs[i]?)) := by
  refine ⟨fun i _ hi q => ⟨xs, xs[i], q, by simp [hi]⟩, fun _ q => ⟨xs, q, Nat.le_refl _⟩, fun i H v H' _ q y => ?_⟩
  obtain ⟨T, x, h1, h2, h3, h4⟩ := y
  exact ⟨T, .int (i : Nat), x, h1, h2, h3, rfl, h4 xs q⟩
theorem walk_zipT {K : PySem.W.Frag} {a b : Addr} {xs ys : List V} {n : Nat} (hn : n = min xs.length ys.length) : Walk (RZ.ItzT K a b) n (fun H => SqT K H a xs ∧ SqT K H b ys) (YPair (fun i => xs[i]?) (fun i => ys[i]?)) := by
  subst hn
  refine ⟨fun i _ hi q => ?_, fun _ q => ⟨xs, ys, q.1, q.2, by omega⟩, fun i H v H' _ q y => ?_⟩
  · have h1 : i < xs.length := by omega
    have h2 : i < ys.length := by omega
    exact ⟨xs, ys, xs[i], ys[i], q.1, q.2, by simp [h1], by simp [h2]⟩
  · obtain ⟨T, x, z, h1, h2, h3, h4, h5⟩ := y
    exact ⟨T, x, z, h1, h2, h3, h4 xs q.1, h5 ys q.2⟩

end Ps

/-! PsC: the heap as a shared part that only grows and a list of owned objects; the steps of a reading, one a construct. -/
namespace Ps
open PySem PySem.Spec PyProof.Rows L2

/-! ### shared and owned -/
/-- S: objects that the code at hand owns; G: what is shared, and stays -/
def Wd (S : List (Addr × HO)) (G H : Hp) : Prop := Same G H ∧ (∀ x ∈ S, H x.1 = some x.2 ∧ G x.1 = none) ∧ (S.map Prod.fst).Nodup
structure Grow (H G H' G' : Hp) : Prop where
  gg : Same G G'
  gh : Same G' H'
  hh : Same H H'
  nn : ∀ a, H a ≠ none → G a = none → G' a = none
section
variable {S A B : List (Addr × HO)} {G G' G'' H H' H'' : Hp} {a p l : Addr} {o o' : HO} {x : Addr × HO} {K : PySem.W.Frag} {xs : List V}
theorem same_new (hp : H p = none) : Same H (upd H p o) := fun b u e => by
  rw [upd_ne (ne_of_none e hp)]
  exact e
theorem same_mut (v : Same G H) (h : G l = none) : Same G (upd H l o) := fun b u e => by
  rw [upd_ne (ne_of_none e h)]
  exact v b u e
theorem same_l (e : Same H H') (h : SqL K H a xs) : SqL K H' a xs := e.seq h
theorem same_t (e : Same H H') (h : SqT K H a xs) : SqT K H' a xs := by
  rcases h with (h | ⟨o, h⟩) | h
  · exact .inl (.inl (e _ _ h))
  · exact .inl (.inr ⟨o, e _ _ h⟩)
  · exact .inr h
theorem Grow.refl (v : Same G H) : Grow H G H G := ⟨Same.refl _, v, Same.refl _, fun _ _ h => h⟩
theorem Grow.same (v : Same G H) (s : Same H H') : Grow H G H' G := ⟨Same.refl _, v.trans s, s, fun _ _ h => h⟩
theorem Grow.new (v : Same G H) (hp : H p = none) : Grow H G (upd H p o) (upd G p o) := by
  have gp : G p = none := v.free hp
  refine ⟨same_new gp, fun b u e => ?_, same_new hp, fun b hb hg => ?_⟩
  · by_cases q : b = p
    · subst q; rw [upd_same] at e ⊢; exact e
    · rw [upd_ne q] at e ⊢; exact v b u e
  · have q : b ≠ p := fun z => hb (z ▸ hp)
    rw [upd_ne q]; exact hg
theorem Grow.trans (a : Grow H G H' G') (b : Grow H' G' H'' G'') : Grow H G H'' G'' :=
  ⟨a.gg.trans b.gg, b.gh, a.hh.trans b.hh, fun c hc hg => b.nn c (fun z => hc (a.hh.free z)) (a.nn c hc hg)⟩
theorem Wd.v (w : Wd S G H) : Same G H := w.1
theorem Wd.nil (v : Same G H) : Wd [] G H := ⟨v, fun x h => absurd h (by simp), List.nodup_nil⟩
theorem Wd.mem (w : Wd S G H) (h : (a, o) ∈ S) : H a = some o := (w.2.1 _ h).1
theorem Wd.hd (w : Wd ((a, o) :: S) G H) : H a = some o := w.mem List.mem_cons_self
theorem Wd.sd (w : Wd (x :: (a, o) :: S) G H) : H a = some o := w.mem (List.mem_cons_of_mem _ List.mem_cons_self)
theorem Wd.td {y : Addr × HO} (w : Wd (x :: y :: (a, o) :: S) G H) : H a = some o := w.mem (List.mem_cons_of_mem _ (List.mem_cons_of_mem _ List.mem_cons_self))
theorem Wd.same (w : Wd S G H) (s : Same H H') : Wd S G H' := ⟨w.1.trans s, fun y hy => ⟨s _ _ (w.2.1 y hy).1, (w.2.1 y hy).2⟩, w.2.2⟩
theorem Wd.grow (w : Wd S G H) (g : Grow H G H' G') : Wd S G' H' :=
  ⟨g.gh, fun y hy => ⟨g.hh _ _ (w.2.1 y hy).1, g.nn _ (by rw [(w.2.1 y hy).1]; simp) (w.2.1 y hy).2⟩, w.2.2⟩
theorem Wd.own' (w : Wd S G H) (s : Same H H') (hp : H p = none) (h : H' p = some o) : Wd ((p, o) :: S) G H' := by
  refine ⟨w.1.trans s, fun y hy => ?_, ?_⟩
  · rcases List.mem_cons.mp hy with rfl | hy
    · exact ⟨h, w.1.free hp⟩
    · exact ⟨s _ _ (w.2.1 y hy).1, (w.2.1 y hy).2⟩
  · rw [List.map_cons]
    refine List.nodup_cons.mpr ⟨fun m => ?_, w.2.2⟩
    obtain ⟨y, hy, e⟩ := List.mem_map.mp m
    have q := (w.2.1 y hy).1
    rw [e, hp] at q; cases q
theorem Wd.own (w : Wd S G H) (hp : H p = none) : Wd ((p, o) :: S) G (upd H p o) := w.own' (same_new hp) hp upd_same
theorem Wd.new (w : Wd S G H) (hp : H p = none) : Wd S (upd G p o) (upd H p o) := w.grow (Grow.new w.1 hp)
theorem Wd.perm (w : Wd S G H) (h : B.Perm S) : Wd B G H := ⟨w.1, fun y hy => w.2.1 y (h.mem_iff.mp hy), (h.map _).nodup_iff.mpr w.2.2⟩
theorem Wd.drop (w : Wd (x :: S) G H) : Wd S G H := ⟨w.1, fun y hy => w.2.1 y (List.mem_cons_of_mem _ hy), (List.nodup_cons.mp w.2.2).2⟩
theorem Wd.dropR (w : Wd (A ++ B) G H) : Wd A G H := ⟨w.1, fun y hy => w.2.1 y (List.mem_append_left _ hy), by
  have h := w.2.2
  rw [List.map_append] at h
  exact (List.nodup_append.mp h).1⟩
theorem Wd.put (w : Wd ((l, o) :: S) G H) : Wd ((l, o') :: S) G (upd H l o') := by
  have hl := (w.2.1 _ List.mem_cons_self).2
  have nd := List.nodup_cons.mp w.2.2
  refine ⟨same_mut w.1 hl, fun y hy => ?_, w.2.2⟩
  rcases List.mem_cons.mp hy with rfl | hy
  · exact ⟨upd_same, hl⟩
  · have q : y.1 ≠ l := fun z => nd.1 (List.mem_map.mpr ⟨y, hy, z⟩)
    rw [upd_ne q]
    exact w.2.1 y (List.mem_cons_of_mem _ hy)
theorem Wd.swap {y : Addr × HO} (w : Wd (x :: y :: S) G H) : Wd (y :: x :: S) G H := w.perm (List.Perm.swap _ _ _)
theorem Wd.put2 (w : Wd (x :: (l, o) :: S) G H) : Wd (x :: (l, o') :: S) G (upd H l o') := w.swap.put.swap
theorem Wd.rot3 {y z : Addr × HO} (w : Wd (x :: y :: z :: S) G H) : Wd (z :: x :: y :: S) G H :=
  w.perm ((List.Perm.swap _ _ _).trans (List.Perm.cons _ (List.Perm.swap _ _ _)))
theorem Wd.rot3' {y z : Addr × HO} (w : Wd (z :: x :: y :: S) G H) : Wd (x :: y :: z :: S) G H :=
  w.perm ((List.Perm.cons _ (List.Perm.swap _ _ _)).trans (List.Perm.swap _ _ _))
theorem Wd.put3 {y : Addr × HO} (w : Wd (x :: y :: (l, o) :: S) G H) : Wd (x :: y :: (l, o') :: S) G (upd H l o') := w.rot3.put.rot3'
theorem Wd.share (w : Wd ((p, o) :: S) G H) : Wd S (upd G p o) H := by
  have nd := List.nodup_cons.mp w.2.2
  refine ⟨fun b u e => ?_, fun y hy => ⟨(w.2.1 y (List.mem_cons_of_mem _ hy)).1, ?_⟩, nd.2⟩
  · by_cases q : b = p
    · subst q; rw [upd_same] at e; rw [← e]; exact w.hd
    · rw [upd_ne q] at e; exact w.1 b u e
  · have q : y.1 ≠ p := fun z => nd.1 (List.mem_map.mpr ⟨y, hy, z⟩)
    rw [upd_ne q]
    exact (w.2.1 y (List.mem_cons_of_mem _ hy)).2
theorem Wd.gp (w : Wd ((p, o) :: S) G H) : G p = none := (w.2.1 _ List.mem_cons_self).2
theorem Wd.gsame (w : Wd ((p, o) :: S) G H) (o' : HO) : Same G (upd G p o') := same_new w.gp
/-- an owned one ahead of two -/
theorem Wd.own3 {y : Addr × HO} (w : Wd (x :: y :: S) G H) (s : Same H H') (hp : H p = none) (h : H' p = some o) : Wd (x :: y :: (p, o) :: S) G H' := (w.own' s hp h).rot3'
end

/-! ### data -/
section
variable {K : PySem.W.Frag} {H H' : Hp}
mutual
theorem dp_mono (s : Same H H') : ∀ (d : PyData) (v : V), Dp K H v d → Dp K H' v d
  | _, _, .non => .non
  | _, _, .bl b => .bl b
  | _, _, .int i => .int i
  | _, _, .str x => .str x
  | .list ds, _, .lst hq ha => .lst (same_l s hq) (dpAll_mono s ds _ ha)
  | .tuple ds, _, .tup hq ha => .tup (same_t s hq) (dpAll_mono s ds _ ha)
theorem dpAll_mono (s : Same H H') : ∀ (ds : List PyData) (vs : List V), DpAll K H vs ds → DpAll K H' vs ds
  | [], _, .nil => .nil
  | d :: ds, _, .cons h t => .cons (dp_mono s d _ h) (dpAll_mono s ds _ t)
end
theorem dpAll_len : ∀ {vs : List V} {ds : List PyData}, DpAll K H vs ds → vs.length = ds.length
  | _, _, .nil => rfl
  | _, _, .cons _ t => by rw [List.length_cons, List.length_cons, dpAll_len t]
theorem dpAll_get : ∀ {vs : List V} {ds : List PyData} {i : Nat} {v : V} {d : PyData}, DpAll K H vs ds → vs[i]? = some v → ds[i]? = some d → Dp K H v d
  | _, _, _, _, _, .nil, h, _ => by simp at h
  | _, _, 0, _, _, .cons h _, e, e' => by
    simp at e e'; subst e; subst e'; exact h
  | _, _, i + 1, _, _, .cons _ t, e, e' => dpAll_get (i := i) t (by simpa using e) (by simpa using e')
theorem dpAll_ints : ∀ (ns : List Int), DpAll K H (ns.map V.int) (ns.map PyData.int)
  | [] => .nil
  | _ :: r => .cons (.int _) (dpAll_ints r)
/-- a list of ints -/
def dI (ns : List Int) : PyData := .list (ns.map PyData.int)
theorem dp_ints {a : Addr} {ns : List Int} (h : H a = some (.lst (ns.map V.int))) : Dp K H (.ref a) (dI ns) := .lst (SqL.of h) (dpAll_ints ns)
theorem dp_intsT {a : Addr} {ns : List Int} (h : H a = some (.tup (ns.map V.int))) : Dp K H (.ref a) (.tuple (ns.map PyData.int)) := .tup (SqT.of h) (dpAll_ints ns)
end

/-! ### the steps: statements -/
section
variable {t u : TS} {D : Ends} {σ : L2.St} {H : Hp} {te : TE} {g : TG} {i : Nat} {v x y : V} {K : PySem.W.Frag}
theorem w_seq (h : t ⟨u D, D.rt, D.bk, D.ct⟩ σ H) : tSeq t u D σ H := h
theorem w_asg (h : te σ H fun x H1 => g x σ H1 D.nx) : tAsg te g D σ H := h
theorem w_ret (h : te σ H D.rt) : tRet te D σ H := h
theorem w_retN (h : D.rt .non H) : tRetN D σ H := h
theorem w_drop (h : te σ H fun _ H1 => D.nx σ H1) : tDrop te D σ H := h
theorem w_ifs {c : TT} (h : c σ H fun b H1 => if b = true then t D σ H1 else u D σ H1) : tIfS c t u D σ H := h
theorem w_next (h : D.nx σ H) : tNext D σ H := h
theorem w_brk (h : D.bk σ H) : tBreak D σ H := h
theorem w_cont (h : D.ct σ H) : tCont D σ H := h
theorem w_aug {ti : TIp} (hx : σ[i]? = some (some x)) (h : te σ H fun y H1 => ti x y H1 fun z H2 => D.nx (σ.set i (some z)) H2) : tAug i te ti D σ H := ⟨x, hx, h⟩
theorem w_par {ta : TA} {j : Nat} (h : ta σ H fun vs H1 => ∃ v w, vs = [v, w] ∧ D.nx ((σ.set i (some v)).set j (some w)) H1) : tPar i j ta D σ H := h
theorem w_par2 {j : Nat} {v w : V} (h : D.nx ((σ.set i (some v)).set j (some w)) H) : ∃ v' w', [v, w] = [v', w'] ∧ D.nx ((σ.set i (some v')).set j (some w')) H := ⟨v, w, rfl, h⟩
theorem w_for {wi : TI} {tb : TS} (h : wi σ H fun J H1 => ∃ W : Nat → Nat → L2.St → Hp → Prop, (∃ m, W 0 m σ H1) ∧ ∀ i m σ H, W i m σ H →
    (J.stop i H ∧ D.nx σ H) ∨ (J.go i H ∧ ∃ N : L2.St → Hp → Prop, (∀ σ' H', N σ' H' → ∃ m', m' < m ∧ W (i + 1) m' σ' H') ∧ ∀ x H', J.yld i H x H' → g x σ H' fun σ2 H2 => tb { D with nx := N, ct := N, bk := D.nx } σ2 H2)) : tFor wi g tb D σ H := h
/-! targets -/
theorem w_gname {Q : L2.St → Hp → Prop} (h : Q (σ.set i (some v)) H) : gName i v σ H Q := h
theorem w_gnil {Q : L2.St → Hp → Prop} (h : Q σ H) : gNil [] σ H Q := ⟨rfl, h⟩
theorem w_gcons {gs : TGs} {r : List V} {Q : L2.St → Hp → Prop} (h : g v σ H fun σ' H' => gs r σ' H' Q) : gCons g gs (v :: r) σ H Q := ⟨v, r, rfl, h⟩
theorem w_gtup {gs : TGs} {n : Nat} {a : Addr} {xs : List V} {Q : L2.St → Hp → Prop} (ht : SqT K H a xs) (hn : xs.length = n) (h : gs xs σ H Q) : gTup K n gs (.ref a) σ H Q := ⟨a, xs, rfl, ht, hn, h⟩
theorem w_gsub {to ti : TE} {s : TSet} {Q : L2.St → Hp → Prop} (h : to σ H fun o H1 => ti σ H1 fun i H2 => s o i v H2 fun H3 => Q σ H3) : gSub to ti s v σ H Q := h
/-! expressions -/
variable {Q : VK} {ta tb tc : TE} {r : R2}
theorem w_var (hx : σ[i]? = some (some v)) (h : Q v H) : tVar i σ H Q := ⟨v, hx, h⟩
theorem w_c (h : Q v H) : tC v σ H Q := h
theorem w_op (h : ta σ H fun x H1 => tb σ H1 fun y H2 => r x y H2 Q) : tOp r ta tb σ H Q := h
theorem w_un {r1 : V → Hp → VK → Prop} (h : ta σ H fun x H1 => r1 x H1 Q) : tUn r1 ta σ H Q := h
theorem w_cb {tl : TA} {rc : List V → Hp → VK → Prop} (h : tl σ H fun vs H1 => rc vs H1 Q) : tCB rc tl σ H Q := h
theorem w_bm {tl : TA} {T : String} {rm : V → List V → Hp → VK → Prop} (h : ta σ H fun x H1 => tyV K T x H1 ∧ tl σ H1 fun xs H2 => rm x xs H2 Q) : tBM K T rm ta tl σ H Q := h
theorem w_bm0 {T : String} {rm : V → List V → Hp → VK → Prop} (h : ta σ H fun x H1 => tyV K T x H1 ∧ rm x [] H1 Q) : tBM0 K T rm ta σ H Q := h
theorem w_tyl {a : Addr} {xs : List V} {P : Prop} (hl : H a = some (.lst xs)) (h : P) : tyV K "list" (.ref a) H ∧ P := ⟨.inl ⟨rfl, _, SqL.of hl⟩, h⟩
theorem w_lst {tl : TA} (h : tl σ H fun xs H1 => xs.length ≤ sizeLine ∧ ∀ p, H1 p = none → Q (.ref p) (upd H1 p (.lst xs))) : tLst tl σ H Q := h
theorem w_tup {tl : TA} (h : tl σ H fun xs H1 => xs.length ≤ sizeLine ∧ ∀ p, H1 p = none → Q (.ref p) (upd H1 p (.tup xs))) : tTup tl σ H Q := h
theorem w_call {tl : TA} {sp : Sp} {dvs : List V} {E : XK} (h : tl σ H fun vs H1 => sp (vs ++ dvs) H1 Q E) : tCall sp dvs E tl σ H Q := h
theorem w_callS {tl : TA} {sp : Sp} {E : L2.St → XK} (h : tl σ H fun vs H1 => sp vs H1 Q (E σ)) : tCallS sp E tl σ H Q := h
theorem w_sl {tl th : TO} {rs : V → Option Int → Option Int → Hp → VK → Prop} (h : te σ H fun x H1 => tl σ H1 fun l H2 => th σ H2 fun u H3 => rs x l u H3 Q) : tSl rs te tl th σ H Q := h
theorem w_nopart {P : Option Int → Hp → Prop} (h : P none H) : tNoPart σ H P := h
theorem w_part {P : Option Int → Hp → Prop} (h : te σ H fun x H1 => ∃ i, x = .int i ∧ P (some i) H1) : tPart te σ H P := h
theorem w_partI {P : Int → Prop} {i : Int} (h : P i) : ∃ j, V.int i = .int j ∧ P j := ⟨i, rfl, h⟩
theorem w_nil {P : List V → Hp → Prop} (h : P [] H) : tNil σ H P := h
theorem w_cons {tl : TA} {P : List V → Hp → Prop} (h : ta σ H fun x H1 => tl σ H1 fun xs H2 => P (x :: xs) H2) : tCons ta tl σ H P := h
theorem w_tif {c : TT} (h : c σ H fun b H1 => if b = true then ta σ H1 Q else tb σ H1 Q) : tIf c ta tb σ H Q := h
theorem w_andV (h : ta σ H fun x H1 => ∃ c, x = .bl c ∧ if c = true then tb σ H1 Q else Q (.bl false) H1) : tAndV ta tb σ H Q := h
theorem w_orV (h : ta σ H fun x H1 => ∃ c, x = .bl c ∧ if c = true then Q (.bl true) H1 else tb σ H1 Q) : tOrV ta tb σ H Q := h
theorem w_notV (h : ta σ H fun x H1 => ∃ c, x = .bl c ∧ Q (.bl (!c)) H1) : tNotV ta σ H Q := h
theorem w_blE {P : Bool → Prop} {b : Bool} (h : P b) : ∃ c, V.bl b = .bl c ∧ P c := ⟨b, rfl, h⟩
/-! tests -/
variable {P : Bool → Hp → Prop} {c d : TT}
theorem w_test (h : te σ H fun x H' => ∃ k, x = .bl k ∧ P k H') : tTest te σ H P := h
theorem w_tru (h : te σ H fun x H' => ∃ k, TruV K x H' k ∧ P k H') : tTru K te σ H P := h
theorem w_truB {b : Bool} {P : Bool → Prop} (h : P b) : ∃ k, TruV K (.bl b) H k ∧ P k := ⟨b, rfl, h⟩
theorem w_and (h : c σ H fun b H1 => if b = true then d σ H1 P else P false H1) : tAnd c d σ H P := h
theorem w_or (h : c σ H fun b H1 => if b = true then P true H1 else d σ H1 P) : tOr c d σ H P := h
theorem w_not (h : c σ H fun b H1 => P (!b) H1) : tNot c σ H P := h
theorem w_yes (h : P true H) : tYes σ H P := h
end

/-! ### the steps: operators by the values at hand -/
section
variable {H : Hp} {Q : VK} {K : PySem.W.Frag} {i j : Int} {a b : Addr} {xs ys : List V} {v : V}
theorem w_addI (h : Q (.int (i + j)) H) : rAddU K (.int i) (.int j) H Q := .inl (.inl ⟨i, j, rfl, rfl, h⟩)
theorem w_addS {x y : Str} (hz : x.length + y.length ≤ sizeLine) (h : Q (.str (x ++ y)) H) : rAddU K (.str x) (.str y) H Q := .inl (.inr ⟨x, y, rfl, rfl, hz, h⟩)
theorem w_addL (ha : H a = some (.lst xs)) (hb : H b = some (.lst ys)) (hz : xs.length + ys.length ≤ sizeLine) (h : ∀ p, H p = none → Q (.ref p) (upd H p (.lst (xs ++ ys)))) : rAddU K (.ref a) (.ref b) H Q :=
  .inr (.inl ⟨a, b, xs, ys, rfl, rfl, ha, hb, hz, h⟩)
theorem w_subI (h : Q (.int (i - j)) H) : rSubU (.int i) (.int j) H Q := ⟨i, j, rfl, rfl, h⟩
theorem w_mulI (hc : CMul i j) (h : Q (.int (i * j)) H) : rMulU (.int i) (.int j) H Q := .inl (.inl ⟨i, j, rfl, rfl, hc, h⟩)
theorem w_mulW (hc : CMulW i j) (h : Q (.int (i * j)) H) : rMulU (.int i) (.int j) H Q := .inl (.inr ⟨i, j, rfl, rfl, hc, h⟩)
theorem w_divI (hc : CDiv i j) (h : Q (.int (i / j)) H) : rDivU (.int i) (.int j) H Q := .inl ⟨i, j, rfl, rfl, hc, h⟩
theorem w_divW (hc : CDivW i j) (h : Q (.int (i / j)) H) : rDivU (.int i) (.int j) H Q := .inr ⟨i, j, rfl, rfl, hc, h⟩
theorem w_modI (hc : 0 < j) (h : Q (.int (i % j)) H) : rModU (.int i) (.int j) H Q := ⟨i, j, rfl, rfl, hc, h⟩
theorem w_modF (hc : 0 < j) (h : ∀ z, 0 ≤ z → z < j → Q (.int z) H) : rModU (.int i) (.int j) H Q := w_modI hc (h _ (Int.emod_nonneg _ (by omega)) (Int.emod_lt_of_pos _ hc))
theorem w_powI (hc : CPow i j) (h : Q (.int (i ^ j.toNat)) H) : rPowU (.int i) (.int j) H Q := ⟨i, j, rfl, rfl, hc, h⟩
theorem w_negI (h : Q (.int (-i)) H) : rNeg (.int i) H Q := ⟨i, rfl, h⟩
theorem w_ixL (hl : SqL K H a xs) (hi : atI xs i = some v) (h : Q v H) : rIxU K (.ref a) (.int i) H Q := .inl (.inl ⟨a, xs, i, v, rfl, rfl, hl, hi, h⟩)
theorem w_ixT (hl : SqT K H a xs) (hi : atI xs i = some v) (h : Q v H) : rIxU K (.ref a) (.int i) H Q := .inl (.inr ⟨a, xs, i, v, rfl, rfl, hl, hi, h⟩)
theorem w_ixS {z : Str} {c : Nat} (hz : z.length ≤ sizeLine) (hi : atI z.cps.toList i = some c) (h : Q (.str ⟨#[c]⟩) H) : rIxU K (.str z) (.int i) H Q := .inr (.inl ⟨z, i, c, rfl, rfl, hz, hi, h⟩)
theorem w_ixDs {kvs : List (Key × V)} {x : Str} (hd : H a = some (.dK kvs)) (hv : valV kvs (Sum.inr x) = some v) (h : Q v H) : rIxU K (.ref a) (.str x) H Q :=
  .inr (.inr ⟨a, v, rfl, by have g := DGet.k (k := Sum.inr x) hd; rw [hv] at g; exact g, h⟩)
theorem w_ixDi {kvs : List (Key × V)} (hd : H a = some (.dK kvs)) (hv : valV kvs (Sum.inl i) = some v) (h : Q v H) : rIxU K (.ref a) (.int i) H Q :=
  .inr (.inr ⟨a, v, rfl, by have g := DGet.k (k := Sum.inl i) hd; rw [hv] at g; exact g, h⟩)
theorem w_setDs {kvs : List (Key × V)} {x : Str} {P : Hp → Prop} (hd : H a = some (.dK kvs)) (hz : kvs.length < sizeLine) (h : P (upd H a (.dK (putK kvs (Sum.inr x) v)))) : rSetU (.ref a) (.str x) v H P :=
  .inr ⟨a, _, rfl, DPut.k (k := Sum.inr x) hd hz, h⟩
theorem w_setL {P : Hp → Prop} {k : Nat} (hd : H a = some (.lst xs)) (hi : ixN xs.length i = some k) (h : P (upd H a (.lst (xs.set k v)))) : rSetU (.ref a) (.int i) v H P :=
  .inl ⟨a, xs, i, k, rfl, rfl, hd, hi, h⟩
theorem w_eqI (h : Q (.bl (decide (i = j))) H) : rEqU K (.int i) (.int j) H Q := .inl ⟨rfl, by
  have e : decide (V.int i = V.int j) = decide (i = j) := by simp
  rw [e]; exact h⟩
theorem w_neI (h : Q (.bl (!decide (i = j))) H) : rNeU K (.int i) (.int j) H Q := .inl ⟨rfl, by
  have e : decide (V.int i = V.int j) = decide (i = j) := by simp
  rw [e]; exact h⟩
theorem w_eqS {x y : Str} (h : Q (.bl (decide (x = y))) H) : rEqU K (.str x) (.str y) H Q := .inl ⟨rfl, by
  have e : decide (V.str x = V.str y) = decide (x = y) := by simp
  rw [e]; exact h⟩
theorem w_neS {x y : Str} (h : Q (.bl (!decide (x = y))) H) : rNeU K (.str x) (.str y) H Q := .inl ⟨rfl, by
  have e : decide (V.str x = V.str y) = decide (x = y) := by simp
  rw [e]; exact h⟩
theorem w_eqB {x y : Bool} (h : Q (.bl (decide (x = y))) H) : rEqU K (.bl x) (.bl y) H Q := .inl ⟨rfl, by
  have e : decide (V.bl x = V.bl y) = decide (x = y) := by simp
  rw [e]; exact h⟩
theorem w_neB {x y : Bool} (h : Q (.bl (!decide (x = y))) H) : rNeU K (.bl x) (.bl y) H Q := .inl ⟨rfl, by
  have e : decide (V.bl x = V.bl y) = decide (x = y) := by simp
  rw [e]; exact h⟩
theorem w_eqD {x y : V} {d e : PyData} (hd : Dp K H x d) (he : Dp K H y e) (sd : SeqAt.shaped d = true) (se : SeqAt.shaped e = true) (h : Q (.bl (PyData.eqv d e)) H) : rEqU K x y H Q := .inr ⟨d, e, hd, he, sd, se, h⟩
theorem w_neD {x y : V} {d e : PyData} (hd : Dp K H x d) (he : Dp K H y e) (sd : SeqAt.shaped d = true) (se : SeqAt.shaped e = true) (h : Q (.bl (!PyData.eqv d e)) H) : rNeU K x y H Q := .inr ⟨d, e, hd, he, sd, se, h⟩
theorem w_ltI (h : Q (.bl (decide (i < j))) H) : rLtU K (.int i) (.int j) H Q := .inl ⟨i, j, rfl, rfl, h⟩
theorem w_leI (h : Q (.bl (decide (i ≤ j))) H) : rLeU (.int i) (.int j) H Q := ⟨i, j, rfl, rfl, h⟩
theorem w_gtI (h : Q (.bl (decide (j < i))) H) : rGtU (.int i) (.int j) H Q := ⟨i, j, rfl, rfl, h⟩
theorem w_geI (h : Q (.bl (decide (j ≤ i))) H) : rGeU (.int i) (.int j) H Q := ⟨i, j, rfl, rfl, h⟩
theorem w_isN {x : V} (h : Q (.bl (decide (x = .non))) H) : rIsN x .non H Q := ⟨rfl, h⟩
theorem w_isNn (h : Q (.bl true) H) : rIsN .non .non H Q := ⟨rfl, by rw [decide_eq_true rfl]; exact h⟩
theorem w_isNi (h : Q (.bl false) H) : rIsN (.int i) .non H Q := ⟨rfl, by rw [decide_eq_false (by simp)]; exact h⟩
theorem w_isNs {z : Str} (h : Q (.bl false) H) : rIsN (.str z) .non H Q := ⟨rfl, by rw [decide_eq_false (by simp)]; exact h⟩
theorem w_isNr (h : Q (.bl false) H) : rIsN (.ref a) .non H Q := ⟨rfl, by rw [decide_eq_false (by simp)]; exact h⟩
theorem w_isNb {k : Bool} (h : Q (.bl false) H) : rIsN (.bl k) .non H Q := ⟨rfl, by rw [decide_eq_false (by simp)]; exact h⟩
theorem w_ntNn (h : Q (.bl false) H) : rNotN .non .non H Q := ⟨rfl, by rw [decide_eq_true rfl]; exact h⟩
theorem w_ntNi (h : Q (.bl true) H) : rNotN (.int i) .non H Q := ⟨rfl, by rw [decide_eq_false (by simp)]; exact h⟩
theorem w_ntNs {z : Str} (h : Q (.bl true) H) : rNotN (.str z) .non H Q := ⟨rfl, by rw [decide_eq_false (by simp)]; exact h⟩
theorem w_ntNr (h : Q (.bl true) H) : rNotN (.ref a) .non H Q := ⟨rfl, by rw [decide_eq_false (by simp)]; exact h⟩
theorem w_neBf {x y : Bool} (e : x = y) (h : Q (.bl false) H) : rNeU K (.bl x) (.bl y) H Q := .inl ⟨rfl, by subst e; rw [decide_eq_true rfl]; exact h⟩
theorem w_eqBt {x y : Bool} (e : x = y) (h : Q (.bl true) H) : rEqU K (.bl x) (.bl y) H Q := .inl ⟨rfl, by subst e; rw [decide_eq_true rfl]; exact h⟩
theorem w_notN {x : V} (h : Q (.bl (!decide (x = .non))) H) : rNotN x .non H Q := ⟨rfl, h⟩
theorem w_ipaI (h : Q (.int (i + j)) H) : ipAddU K (.int i) (.int j) H Q := .inl ⟨i, j, rfl, rfl, h⟩
theorem w_ipsI {f : Int → Int → Int} (h : Q (.int (f i j)) H) : ipI f (.int i) (.int j) H Q := ⟨i, j, rfl, rfl, h⟩
theorem w_ipm (hc : CMul i j ∨ CMulW i j) (h : Q (.int (i * j)) H) : ipMulU (.int i) (.int j) H Q := ⟨i, j, rfl, rfl, hc, h⟩
/-! calls -/
theorem w_lenL (hl : SqL K H a xs) (h : Q (.int xs.length) H) : rLenU K [.ref a] H Q := .inl ⟨_, _, rfl, .inl ⟨xs, hl, rfl⟩, h⟩
theorem w_lenT (hl : SqT K H a xs) (h : Q (.int xs.length) H) : rLenU K [.ref a] H Q := .inl ⟨_, _, rfl, .inr ⟨xs, hl, rfl⟩, h⟩
theorem w_lenS {z : Str} (hz : z.length ≤ sizeLine) (h : Q (.int z.length) H) : rLenU K [.str z] H Q := .inl ⟨_, _, rfl, ⟨hz, rfl⟩, h⟩
theorem w_lenD {kvs : List (Key × V)} (hl : H a = some (.dK kvs)) (h : Q (.int kvs.length) H) : rLenU K [.ref a] H Q := .inr ⟨a, kvs, rfl, .inl hl, h⟩
theorem w_listL (hl : SqL K H a xs) (h : ∀ p, H p = none → Q (.ref p) (upd H p (.lst xs))) : rListU K [.ref a] H Q := .inl ⟨a, xs, rfl, .inl hl, h⟩
theorem w_listT (hl : SqT K H a xs) (h : ∀ p, H p = none → Q (.ref p) (upd H p (.lst xs))) : rListU K [.ref a] H Q := .inl ⟨a, xs, rfl, .inr hl, h⟩
theorem w_tupL (hl : SqL K H a xs) (h : ∀ p, H p = none → Q (.ref p) (upd H p (.tup xs))) : rTupU K [.ref a] H Q := ⟨a, xs, rfl, .inl ⟨hl, h⟩⟩
theorem w_tupT (hl : SqT K H a xs) (h : Q (.ref a) H) : rTupU K [.ref a] H Q := ⟨a, xs, rfl, .inr ⟨hl, h⟩⟩
theorem w_intI (h : Q (.int i) H) : rIntU [.int i] H Q := .inl ⟨i, rfl, h⟩
theorem w_intB {k : Bool} (h : Q (.int (if k then 1 else 0)) H) : rIntU [.bl k] H Q := .inr ⟨k, rfl, h⟩
theorem w_divmod (hc : CDivW i j) (h : ∀ p, H p = none → Q (.ref p) (upd H p (.tup [.int (i / j), .int (i % j)]))) : rDivmod [.int i, .int j] H Q := ⟨i, j, rfl, ⟨hc.1, PyProof.noPylong_of_log2 hc.2⟩, h⟩
theorem w_sum {ns : List Int} (hl : SqL K H a (ns.map V.int)) (h : Q (.int ns.sum) H) : rSum K [.ref a] H Q := ⟨a, ns, rfl, hl, h⟩
theorem w_all {bs : List Bool} (hl : SqL K H a (bs.map V.bl)) (h : Q (.bl (bs.all id)) H) : rAll K [.ref a] H Q := ⟨a, bs, rfl, hl, h⟩
theorem w_any {bs : List Bool} (hl : SqL K H a (bs.map V.bl)) (h : Q (.bl (bs.any id)) H) : rAny K [.ref a] H Q := ⟨a, bs, rfl, hl, h⟩
theorem w_app (hl : H a = some (.lst xs)) (hz : xs.length < sizeLine) (h : Q .non (upd H a (.lst (xs ++ [v])))) : rAppend (.ref a) [v] H Q := ⟨a, xs, v, rfl, rfl, hl, hz, h⟩
theorem w_isi {x : V} {n : String} {t : Value} {k : Bool} (ht : TyX K H x t) (hk : PySem.W.kitOne K t (.type n) = some k) (h : Q (.bl k) H) : rIsiU K [x, .ty n] H Q := .inl ⟨x, .ty n, t, .type n, k, rfl, .ty n, ht, hk, h⟩
/-! isinstance -/
theorem ty_l (h : SqL K H a xs) : TyX K H (.ref a) (.type "list") := by
  rcases h with (h | ⟨o, h⟩) | ⟨o, its, n, h, c, _⟩
  · exact .base (.lst h)
  · exact .base (.frz h)
  · exact .kList h c
theorem ty_t (h : SqT K H a xs) : TyX K H (.ref a) (.type "tuple") := by
  rcases h with (h | ⟨o, h⟩) | ⟨o, its, n, h, c, _⟩
  · exact .base (.tup h)
  · exact .fTuple h
  · exact .kTuple h c
theorem w_is_int_dict {i : Int} (h : Q (.bl false) H) : rIsiU K [.int i, .ty "dict"] H Q := w_isi (.base (.int i)) (kit_ty (r := false) (by decide +kernel)) h
theorem w_is_int_list {i : Int} (h : Q (.bl false) H) : rIsiU K [.int i, .ty "list"] H Q := w_isi (.base (.int i)) (kit_ty (r := false) (by decide +kernel)) h
theorem w_is_int_tuple {i : Int} (h : Q (.bl false) H) : rIsiU K [.int i, .ty "tuple"] H Q := w_isi (.base (.int i)) (kit_ty (r := false) (by decide +kernel)) h
theorem w_is_int_str {i : Int} (h : Q (.bl false) H) : rIsiU K [.int i, .ty "str"] H Q := w_isi (.base (.int i)) (kit_ty (r := false) (by decide +kernel)) h
theorem w_is_int_int {i : Int} (h : Q (.bl true) H) : rIsiU K [.int i, .ty "int"] H Q := w_isi (.base (.int i)) (kit_ty (r := true) (by decide +kernel)) h
theorem w_is_int_bool {i : Int} (h : Q (.bl false) H) : rIsiU K [.int i, .ty "bool"] H Q := w_isi (.base (.int i)) (kit_ty (r := false) (by decide +kernel)) h
theorem w_is_bool_dict {kk : Bool} (h : Q (.bl false) H) : rIsiU K [.bl kk, .ty "dict"] H Q := w_isi (.base (.bl kk)) (kit_ty (r := false) (by decide +kernel)) h
theorem w_is_bool_list {kk : Bool} (h : Q (.bl false) H) : rIsiU K [.bl kk, .ty "list"] H Q := w_isi (.base (.bl kk)) (kit_ty (r := false) (by decide +kernel)) h
theorem w_is_bool_tuple {kk : Bool} (h : Q (.bl false) H) : rIsiU K [.bl kk, .ty "tuple"] H Q := w_isi (.base (.bl kk)) (kit_ty (r := false) (by decide +kernel)) h
theorem w_is_bool_str {kk : Bool} (h : Q (.bl false) H) : rIsiU K [.bl kk, .ty "str"] H Q := w_isi (.base (.bl kk)) (kit_ty (r := false) (by decide +kernel)) h
theorem w_is_bool_int {kk : Bool} (h : Q (.bl true) H) : rIsiU K [.bl kk, .ty "int"] H Q := w_isi (.base (.bl kk)) (kit_ty (r := true) (by decide +kernel)) h
theorem w_is_bool_bool {kk : Bool} (h : Q (.bl true) H) : rIsiU K [.bl kk, .ty "bool"] H Q := w_isi (.base (.bl kk)) (kit_ty (r := true) (by decide +kernel)) h
theorem w_is_str_dict {zz : Str} (h : Q (.bl false) H) : rIsiU K [.str zz, .ty "dict"] H Q := w_isi (.base (.str zz)) (kit_ty (r := false) (by decide +kernel)) h
theorem w_is_str_list {zz : Str} (h : Q (.bl false) H) : rIsiU K [.str zz, .ty "list"] H Q := w_isi (.base (.str zz)) (kit_ty (r := false) (by decide +kernel)) h
theorem w_is_str_tuple {zz : Str} (h : Q (.bl false) H) : rIsiU K [.str zz, .ty "tuple"] H Q := w_isi (.base (.str zz)) (kit_ty (r := false) (by decide +kernel)) h
theorem w_is_str_str {zz : Str} (h : Q (.bl true) H) : rIsiU K [.str zz, .ty "str"] H Q := w_isi (.base (.str zz)) (kit_ty (r := true) (by decide +kernel)) h
theorem w_is_str_int {zz : Str} (h : Q (.bl false) H) : rIsiU K [.str zz, .ty "int"] H Q := w_isi (.base (.str zz)) (kit_ty (r := false) (by decide +kernel)) h
theorem w_is_str_bool {zz : Str} (h : Q (.bl false) H) : rIsiU K [.str zz, .ty "bool"] H Q := w_isi (.base (.str zz)) (kit_ty (r := false) (by decide +kernel)) h
theorem w_is_nonetype_dict (h : Q (.bl false) H) : rIsiU K [.non, .ty "dict"] H Q := w_isi (.base .non) (kit_ty (r := false) (by decide +kernel)) h
theorem w_is_nonetype_list (h : Q (.bl false) H) : rIsiU K [.non, .ty "list"] H Q := w_isi (.base .non) (kit_ty (r := false) (by decide +kernel)) h
theorem w_is_nonetype_tuple (h : Q (.bl false) H) : rIsiU K [.non, .ty "tuple"] H Q := w_isi (.base .non) (kit_ty (r := false) (by decide +kernel)) h
theorem w_is_nonetype_str (h : Q (.bl false) H) : rIsiU K [.non, .ty "str"] H Q := w_isi (.base .non) (kit_ty (r := false) (by decide +kernel)) h
theorem w_is_nonetype_int (h : Q (.bl false) H) : rIsiU K [.non, .ty "int"] H Q := w_isi (.base .non) (kit_ty (r := false) (by decide +kernel)) h
theorem w_is_nonetype_bool (h : Q (.bl false) H) : rIsiU K [.non, .ty "bool"] H Q := w_isi (.base .non) (kit_ty (r := false) (by decide +kernel)) h
theorem w_is_list_dict (hl : SqL K H a xs) (h : Q (.bl false) H) : rIsiU K [.ref a, .ty "dict"] H Q := w_isi (ty_l hl) (kit_ty (r := false) (by decide +kernel)) h
theorem w_is_list_list (hl : SqL K H a xs) (h : Q (.bl true) H) : rIsiU K [.ref a, .ty "list"] H Q := w_isi (ty_l hl) (kit_ty (r := true) (by decide +kernel)) h
theorem w_is_list_tuple (hl : SqL K H a xs) (h : Q (.bl false) H) : rIsiU K [.ref a, .ty "tuple"] H Q := w_isi (ty_l hl) (kit_ty (r := false) (by decide +kernel)) h
theorem w_is_list_str (hl : SqL K H a xs) (h : Q (.bl false) H) : rIsiU K [.ref a, .ty "str"] H Q := w_isi (ty_l hl) (kit_ty (r := false) (by decide +kernel)) h
theorem w_is_list_int (hl : SqL K H a xs) (h : Q (.bl false) H) : rIsiU K [.ref a, .ty "int"] H Q := w_isi (ty_l hl) (kit_ty (r := false) (by decide +kernel)) h
theorem w_is_list_bool (hl : SqL K H a xs) (h : Q (.bl false) H) : rIsiU K [.ref a, .ty "bool"] H Q := w_isi (ty_l hl) (kit_ty (r := false) (by decide +kernel)) h
theorem w_is_tuple_dict (hl : SqT K H a xs) (h : Q (.bl false) H) : rIsiU K [.ref a, .ty "dict"] H Q := w_isi (ty_t hl) (kit_ty (r := false) (by decide +kernel)) h
theorem w_is_tuple_list (hl : SqT K H a xs) (h : Q (.bl false) H) : rIsiU K [.ref a, .ty "list"] H Q := w_isi (ty_t hl) (kit_ty (r := false) (by decide +kernel)) h
theorem w_is_tuple_tuple (hl : SqT K H a xs) (h : Q (.bl true) H) : rIsiU K [.ref a, .ty "tuple"] H Q := w_isi (ty_t hl) (kit_ty (r := true) (by decide +kernel)) h
theorem w_is_tuple_str (hl : SqT K H a xs) (h : Q (.bl false) H) : rIsiU K [.ref a, .ty "str"] H Q := w_isi (ty_t hl) (kit_ty (r := false) (by decide +kernel)) h
theorem w_is_tuple_int (hl : SqT K H a xs) (h : Q (.bl false) H) : rIsiU K [.ref a, .ty "int"] H Q := w_isi (ty_t hl) (kit_ty (r := false) (by decide +kernel)) h
theorem w_is_tuple_bool (hl : SqT K H a xs) (h : Q (.bl false) H) : rIsiU K [.ref a, .ty "bool"] H Q := w_isi (ty_t hl) (kit_ty (r := false) (by decide +kernel)) h
theorem w_slL {lo hi : Option Int} (hl : SqL K H a xs) (h : ∀ p, H p = none → Q (.ref p) (upd H p (.lst (cutV xs lo hi)))) : rSlU K (.ref a) lo hi H Q := .inl (.inl ⟨a, xs, rfl, hl, h⟩)
theorem w_rep {k : Int} (hl : H a = some (.lst xs)) (h1 : -(2 ^ 63) ≤ k) (h2 : k < 2 ^ 63) (h3 : xs.length * k.toNat ≤ sizeLine) (h : ∀ p, H p = none → Q (.ref p) (upd H p (.lst ((List.replicate k.toNat xs).flatten)))) : rMulU (.ref a) (.int k) H Q := by
  refine .inr ?_
  exact ⟨a, k, xs, rfl, rfl, hl, h1, h2, h3, h⟩
/-! ifs -/
theorem w_ifd {p A B : Prop} [Decidable p] (h1 : p → A) (h2 : ¬ p → B) : if decide p = true then A else B := by
  by_cases h : p
  · rw [if_pos (decide_eq_true h)]; exact h1 h
  · rw [if_neg (by simp [h])]; exact h2 h
theorem w_ifn {p A B : Prop} [Decidable p] (h1 : ¬ p → A) (h2 : p → B) : if (!decide p) = true then A else B := by
  by_cases h : p
  · rw [if_neg (by simp [h])]; exact h2 h
  · rw [if_pos (by simp [h])]; exact h1 h
theorem w_ifb {b : Bool} {A B : Prop} (h1 : b = true → A) (h2 : b = false → B) : if b = true then A else B := by
  cases b with
  | true => exact h1 rfl
  | false => exact h2 rfl
theorem w_ifNF {A B : Prop} (h : A) : if (!false) = true then A else B := by simpa using h
theorem w_ifNT {A B : Prop} (h : B) : if (!true) = true then A else B := by simpa using h
theorem w_ifT {A B : Prop} (h : A) : if true = true then A else B := by rw [if_pos rfl]; exact h
theorem w_ifF {A B : Prop} (h : B) : if false = true then A else B := by rw [if_neg Bool.false_ne_true]; exact h
end
/-! what is walked -/
section
variable {σ : L2.St} {H : Hp} {Q : VK} {K : PySem.W.Frag} {R : It → Hp → Prop} {ta : TA} {te : TE}
theorem w_lc {wi : TI} {g : TG} {tt : TT} {te : TE} {vs : List Nat} (h : wi σ H fun J H1 => ∀ D, H1 D = none → ∃ W : Nat → Nat → Hp → Prop, (∃ m, W 0 m (upd H1 D (.lst []))) ∧ ∀ i m H, W i m H →
  (J.stop i H ∧ Q (.ref D) H) ∨ (J.go i H ∧ ∃ Nx : Hp → Prop, (∀ H', Nx H' → ∃ m', m' < m ∧ W (i + 1) m' H') ∧ ∀ x H', J.yld i H x H' → g x (wipe σ vs) H' fun σ2 H2 => wipe σ2 vs = wipe σ vs ∧ tt σ2 H2 fun b H3 =>
    if b = true then te σ2 H3 fun y H4 => ∃ acc, H4 D = some (.lst acc) ∧ acc.length < sizeLine ∧ Nx (upd H4 D (.lst (acc ++ [y]))) else Nx H3)) : tLc wi g tt te vs σ H Q := h
/-- what has come is walked -/
def ZipK (K : PySem.W.Frag) (R : It → Hp → Prop) (vs : List V) (H1 : Hp) : Prop := ∃ a b xs ys, vs = [.ref a, .ref b] ∧ ((SqL K H1 a xs ∧ SqL K H1 b ys ∧ R (Itz K a b) H1) ∨ (SqT K H1 a xs ∧ SqT K H1 b ys ∧ R (RZ.ItzT K a b) H1))
def SeqK (K : PySem.W.Frag) (R : It → Hp → Prop) (x : V) (H1 : Hp) : Prop := (∃ a xs, x = .ref a ∧ SqL K H1 a xs ∧ R (Itl K a) H1) ∨ (∃ a xs, x = .ref a ∧ SqT K H1 a xs ∧ R (Itt K a) H1) ∨ ∃ z, x = .str z ∧ R (Its z) H1
def Rng1K (R : It → Hp → Prop) (vs : List V) (H1 : Hp) : Prop := ∃ j : Int, vs = [.int j] ∧ -(2 ^ 62) ≤ j ∧ j < 2 ^ 62 ∧ R (Itr 0 j.toNat) H1
def Rng2K (R : It → Hp → Prop) (vs : List V) (H1 : Hp) : Prop := ∃ i j : Int, vs = [.int i, .int j] ∧ (-(2 ^ 62) ≤ i ∧ i < 2 ^ 62 ∧ -(2 ^ 62) ≤ j ∧ j < 2 ^ 62) ∧ R (Itr i (j - i).toNat) H1
def EnumK (K : PySem.W.Frag) (R : It → Hp → Prop) (vs : List V) (H1 : Hp) : Prop := ∃ a xs, vs = [.ref a] ∧ ((SqL K H1 a xs ∧ R (Ite K a) H1) ∨ (SqT K H1 a xs ∧ R (IteT K a) H1))
def RevK (K : PySem.W.Frag) (R : It → Hp → Prop) (v : V) (H1 : Hp) : Prop := ∃ (a : Addr) (xs : List V), v = .ref a ∧ ((SqL K H1 a xs ∧ R (Itv K a xs.length) H1) ∨ (SqT K H1 a xs ∧ R (RT.ItvT K a xs.length) H1))
theorem w_zip (h : ta σ H fun vs H1 => ZipK K R vs H1) : RZ.iZipA K ta σ H R := h
theorem w_seqv (h : te σ H fun x H1 => SeqK K R x H1) : iSeqV K te σ H R := h
theorem w_rng1 (h : ta σ H fun vs H1 => Rng1K R vs H1) : iRng1 ta σ H R := h
theorem w_rng2 (h : ta σ H fun vs H1 => Rng2K R vs H1) : iRng2 ta σ H R := h
theorem w_enum (h : ta σ H fun vs H1 => EnumK K R vs H1) : iEnumU K ta σ H R := h
theorem w_rev (h : te σ H fun v H1 => RevK K R v H1) : RT.iRevA K te σ H R := h
theorem w_itL {a : Addr} {xs : List V} (hl : SqL K H a xs) (h : R (Itl K a) H) : SeqK K R (.ref a) H := .inl ⟨a, xs, rfl, hl, h⟩
theorem w_itT {a : Addr} {xs : List V} (hl : SqT K H a xs) (h : R (Itt K a) H) : SeqK K R (.ref a) H := .inr (.inl ⟨a, xs, rfl, hl, h⟩)
theorem w_itS {z : Str} (h : R (Its z) H) : SeqK K R (.str z) H := .inr (.inr ⟨z, rfl, h⟩)
theorem w_itR {j : Int} (h1 : -(2 ^ 62) ≤ j) (h2 : j < 2 ^ 62) (h : R (Itr 0 j.toNat) H) : Rng1K R [.int j] H := ⟨j, rfl, h1, h2, h⟩
theorem w_itR2 {i j : Int} (h1 : -(2 ^ 62) ≤ i ∧ i < 2 ^ 62 ∧ -(2 ^ 62) ≤ j ∧ j < 2 ^ 62) (h : R (Itr i (j - i).toNat) H) : Rng2K R [.int i, .int j] H := ⟨i, j, rfl, h1, h⟩
theorem w_itEL {a : Addr} {xs : List V} (hl : SqL K H a xs) (h : R (Ite K a) H) : EnumK K R [.ref a] H := ⟨a, xs, rfl, .inl ⟨hl, h⟩⟩
theorem w_itET {a : Addr} {xs : List V} (hl : SqT K H a xs) (h : R (IteT K a) H) : EnumK K R [.ref a] H := ⟨a, xs, rfl, .inr ⟨hl, h⟩⟩
theorem w_itZL {a b : Addr} {xs ys : List V} (ha : SqL K H a xs) (hb : SqL K H b ys) (h : R (Itz K a b) H) : ZipK K R [.ref a, .ref b] H := ⟨a, b, xs, ys, rfl, .inl ⟨ha, hb, h⟩⟩
theorem w_itZT {a b : Addr} {xs ys : List V} (ha : SqT K H a xs) (hb : SqT K H b ys) (h : R (RZ.ItzT K a b) H) : ZipK K R [.ref a, .ref b] H := ⟨a, b, xs, ys, rfl, .inr ⟨ha, hb, h⟩⟩
theorem w_itVL {a : Addr} {xs : List V} (hl : SqL K H a xs) (h : R (Itv K a xs.length) H) : RevK K R (.ref a) H := ⟨a, xs, rfl, .inl ⟨hl, h⟩⟩
theorem w_itVT {a : Addr} {xs : List V} (hl : SqT K H a xs) (h : R (RT.ItvT K a xs.length) H) : RevK K R (.ref a) H := ⟨a, xs, rfl, .inr ⟨hl, h⟩⟩
end
theorem sz_le {n : Nat} (h : n ≤ 16777216) : n ≤ sizeLine := by rw [sizeLine_eq]; exact h
theorem sz_lt {n : Nat} (h : n < 16777216) : n < sizeLine := by rw [sizeLine_eq]; exact h

end Ps

/-! PsX: an exception that is caught and kept in a name; methods that raise; a base's __init__ called by its class's name. -/
namespace Ps
open PySem PySem.Spec PyProof.Rows L2

/-- a kept exception of the class at C, its own dict d -/
def exv (a C : Addr) (d : Option Addr) : HO := .ext fun h => ∃ vs sl, h.get? a = some ({ cls := .ref C, dict := d, data := .fields vs, slots := sl } : Obj)
theorem exv_ok {P : Program} {w : World} {H : Hp} {h : Heap} {a C : Addr} {d : Option Addr} {vs : Array Value} {sl : Array (Option Value)} (e : h.get? a = some ({ cls := .ref C, dict := d, data := .fields vs, slots := sl } : Obj)) : ObjOk P w H h a (exv a C d) := by
  refine ⟨⟨vs, sl, e⟩, ⟨_, e⟩, ?_⟩
  rintro h1 h2 ⟨vs', sl', e'⟩ k
  exact ⟨vs', sl', k _ e'⟩
section
variable {X : Cx} {pins : List (Addr × Obj)} {σ : L2.St} {H : Hp} {s : Shared}
theorem exv_at {P : Program} {w : World} {h : Heap} {a C : Addr} {d : Option Addr} (x : HOk P w H h) (e : H a = some (exv a C d)) : ∃ vs sl, h.get? a = some ({ cls := .ref C, dict := d, data := .fields vs, slots := sl } : Obj) := (x a _ e).1
/-- an object of the heap that nobody tracks is tracked from now on -/
theorem inv_track {a : Addr} {o : HO} (I : Inv X pins σ H s) (na : H a = none) (new : ObjOk X.prog X.w (upd H a o) s.heap a o) (h0 : X.s_0.heap.get? a = none) (hl : a ≠ X.env.locals)
    (hc : ∀ x c, X.env.cells.lookup x = some c → c ≠ a) (hp : ∀ p ∈ X.pn ++ pins, p.1 ≠ a) : Inv X pins σ (upd H a o) s := by
  have ne : ∀ b u, H b = some u → b ≠ a := fun b u e => ne_of_none e na
  refine ⟨I.ok, I.os, I.bare, ⟨I.base.keep, I.base.slot, fun b u e n hx => ?_, I.base.there, fun b xs e => ?_, fun b u xs e => ?_, fun b ps e => ?_⟩, I.loc, I.cell, ?_, fun x c e => ?_, fun p h => ?_, fun b u e => ?_, I.len⟩
  · have nb : b ≠ a := fun z => by rw [z, h0] at e; cases e
    rw [upd_ne nb]; exact I.base.free b u e n hx
  · have q := I.base.tups b xs e
    rw [upd_ne (ne b _ q)]; exact q
  · have q := I.base.frzs b u xs e
    rw [upd_ne (ne b _ q)]; exact q
  · obtain ⟨m, q⟩ := I.base.tbls b ps e
    exact ⟨m, by rw [upd_ne (ne b _ q)]; exact q⟩
  · rw [upd_ne (Ne.symm hl)]; exact I.free
  · rw [upd_ne (hc x c e)]; exact I.freeC x c e
  · obtain ⟨q1, q2, q3⟩ := I.pin p h
    exact ⟨q1, by rw [upd_ne (hp p h)]; exact q2, q3⟩
  · by_cases z : b = a
    · subst z; rw [upd_same] at e; cases e; exact new
    · rw [upd_ne z] at e
      exact (I.hok b u e).stay (fun _ _ _ q => q) (fun c q => by rw [upd_ne (ne c _ q)]; exact q) fun c xs q => by rw [upd_ne (ne c _ q)]; exact q
end

/-- what «except x as n: y = n» wishes of an exception of the body: it stands kept, at a, in slot j; n's slot i is empty again -/
def wKeep (K : PySem.W.Frag) (c : Value) (i j : Nat) (Wout : WX) (D : Ends) : WX := fun cls d σ H =>
  ∃ (C : Addr) (b : Bool), cls = .ref C ∧ PySem.W.exmOne K cls c = some b ∧ (b = true → ∀ a, H a = none → D.nx (((σ.set i (some (.ref a))).set j (some (.ref a))).set i none) (upd H a (exv a C d))) ∧ (b = false → Wout cls d σ H)
def tTryK (K : PySem.W.Frag) (c : Value) (i j : Nat) (tb : WX → TS) (Wout : WX) : TS := fun D σ H => tb (wKeep K c i j Wout D) D σ H
section
variable {X : Cx} {x n y : Str} {c : Value} {i j : Nat} {body : List Stmt} {np pos pos' p1 p2 p3 : Pos} {tb : WX → TS} {Wout : WX}
theorem ps_try_keep (hs : X.stack = X.env :: X.outer) (hf : X.env.frame = some X.env.locals) (hN : X.N.Nodup) (hi : X.N[i]? = some n) (hln : X.env.kindOf n = some .local) (hj : X.N[j]? = some y) (hly : X.env.kindOf y = some .local)
    (hex : X.ex = []) (hc : Names X x c) (tk : Takes X Wout)
    (hb : ∀ (W : WX) (pn : List (Addr × Obj)) (xe : Value → Shared → Prop), Takes (X.tr pn xe) W → PassesOwn (model X.prog X.w) X.A X.env xe → PSs (X.tr pn xe) body (tb W))
    (hdn : (n == ("__debug__" : Str)) = false := by decide) (hcd : (n == ("__classdict__" : Str)) = false := by decide) (hsw : swapsWith (.Name n p2) (some (.Name y p1)) p3.line X.env = pure false := by rfl) :
    PS X (.Try body [.ExceptHandler (some (.Name x np)) (some n) [.Assign [.Name y p1] (.Name n p2) p3] pos'] [] [] pos) (tTryK X.K c i j tb Wout) := by
  refine ⟨fun pins s σ H D I h => ?_⟩
  have ok := I.ok
  have hfr : X.A.frames = some (X.env :: X.outer) := by rw [ok.frames, hs]
  refine wpAny_Try_except ?_
  let hd : List ExceptHandler := [.ExceptHandler (some (.Name x np)) (some n) [.Assign [.Name y p1] (.Name n p2) p3] pos']
  let xe' : Value → Shared → Prop := fun e s₁ => wpAny (model X.prog X.w) X.A (noteFrame e X.env) (fun _ s₂ => wpAny (model X.prog X.w) X.A (setFlight e none) (fun _ s₃ => wpAny (model X.prog X.w) X.A (handleBy e X.env hd) (SP X pins D) X.xe s₃) X.xe s₂) X.xe s₁
  have catch_ : Takes (X.tr (X.pn ++ pins) xe') (wKeep X.K c i j Wout D) := by
    intro u s' xx
    obtain ⟨a, B, sI, pins', σ', H', cls, d, rfl, J', nb, up, sky, na, os, ag, C, b, rfl, hb1, hyes, hno⟩ := xx
    have J : Inv X pins σ' H' sI := J'.ofTry ok
    rw [show (X.tr (X.pn ++ pins) xe').stack = X.env :: X.outer from hs] at sky
    -- the ground does not know the exception
    have hBa : B.get? a = none := by
      rcases sky with ⟨_, q, _⟩ | ⟨_, q, _⟩ | ⟨_, q, _⟩ <;> exact q
    show wpAny (model X.prog X.w) X.A (noteFrame (.ref a) X.env) _ _ _
    refine Sky.land Zc.steady hfr hf sky fun h3 fl3 up3 => ?_
    have J3 : Inv X pins σ' H' { s' with heap := h3 } := J.landed nb fl3.1 (up.trans up3) os ag
    obtain ⟨oe3, vs3, he3, hz3, hd3⟩ := fl3.there
    have nfr : a ∉ frs (X.env :: X.outer) := fun hm => by
      obtain ⟨_, o', e', hnf⟩ := fl3.2.2.1.mem hm
      rw [he3] at e'; cases e'
      exact hnf _ hd3
    have nL : a ≠ X.env.locals := fun z => nfr (List.mem_filterMap.mpr ⟨X.env, List.mem_cons_self, by rw [hf, z]⟩)
    have nF : a ∉ X.fs := fun hm => by
      obtain ⟨e, he, q⟩ := List.mem_filterMap.mp hm
      exact nfr (List.mem_filterMap.mpr ⟨e, List.mem_cons_of_mem _ he, q⟩)
    have nI : sI.heap.get? a = none := by
      cases q : sI.heap.get? a with
      | none => rfl
      | some o =>
        have z := nb a o q (by rw [show (X.tr (X.pn ++ pins) xe').stack = X.env :: X.outer from hs]; exact nfr)
        rw [hBa] at z; cases z
    have n0 : X.s_0.heap.get? a = none := by
      cases q : X.s_0.heap.get? a with
      | none => rfl
      | some o =>
        obtain ⟨o', z⟩ := J.base.there a o q (by rw [hex]; exact List.not_mem_nil)
        rw [nI] at z; cases z
    have S3 := J3.suite he3 hd3 na nL nF
    refine wpAny_handleBy_cons (codeAny_handlers_test ?_) (by intro q; cases q)
    have LT : PySem.W.Looks (model X.prog X.w) h3 (typeOf (.ref a)) (.ref C) := fun A Q E s k q => wpAny_typeOf_ref (k _ _ he3) (by rw [hz3.1]; exact q)
    have LM := PySem.W.exm_one (M := model X.prog X.w) (J3.kIn) LT hb1
    have test : ∀ {Q : Value → Shared → Prop} {E : Value → Shared → Prop}, Q c { s' with heap := h3 } → wpAny (model X.prog X.w) (X.A.mark (some (.ref a))) (eval (.Name x np) X.env) Q E { s' with heap := h3 } := fun {Q E} q => by
      obtain ⟨hg, hdbg, hm | ⟨hm, hv, hnn⟩⟩ := hc
      · exact ld_glob (X := X.suite a ((a, oe3) :: (X.pn ++ pins))) S3 hg hm q hdbg
      · exact ld_blt (X := X.suite a ((a, oe3) :: (X.pn ++ pins))) S3 hg hm hv q hnn hdbg
    refine test (LM.here ?_)
    cases b with
    | true =>
      refine codeAny_handlers_suite_as ?_
      refine HandSPX.lands_againZ fl3 fun h4 fl4 up4 => ?_
      have J4 : Inv X pins σ' H' { s' with heap := h4 } := J.landed nb fl4.1 ((up.trans up3).trans up4) os ag
      obtain ⟨oe4, vs4, he4, hz4, hd4⟩ := fl4.there
      have S4 := J4.suite he4 hd4 na nL nF
      refine store_ok (X := X.suite a ((a, oe4) :: (X.pn ++ pins))) (v := .ref a) S4 hN hi (.inl hln) rfl (fun s5 S5 => ?_) (.inr hln)
      have hli : i < σ'.length := by rw [J4.len]; exact (List.getElem?_eq_some_iff.mp hi).1
      have P : PSs (X.suite a ((a, oe4) :: (X.pn ++ pins))) [.Assign [.Name y p1] (.Name n p2) p3] (tAsg (tVar i) (gName j)) :=
        pss_one (ps_set (X := X.suite a ((a, oe4) :: (X.pn ++ pins))) hN hj (.inl hly) (pe_var hi (.inl hln) hdn hcd) hsw (.inr hly))
      let D' : Ends := { nx := fun σ2 H2 => σ2 = (σ'.set i (some (.ref a))).set j (some (.ref a)) ∧ H2 = H', rt := fun _ _ => False, bk := fun _ _ => False, ct := fun _ _ => False }
      refine wpAny_mono (P.run [] s5 _ H' D' S5 ⟨.ref a, List.getElem?_set_self hli, rfl, rfl⟩) (fun f s6 hsp => ?_) (fun _ _ z => False.elim z)
      cases f with
      | next =>
        obtain ⟨σ6, H6, S6, q6⟩ := hsp
        obtain ⟨e6, e7⟩ := q6
        rw [e6, e7] at S6
        have U6 : Inv X ((a, oe4) :: pins) ((σ'.set i (some (.ref a))).set j (some (.ref a))) H' s6 :=
          ⟨ok, S6.os, S6.bare, S6.base, S6.loc, S6.cell, S6.free, S6.freeC, fun p hp => S6.pin p (by
            show p ∈ ((a, oe4) :: (X.pn ++ pins)) ++ []
            rw [List.append_nil]
            rcases List.mem_append.mp hp with h | h
            · exact List.mem_cons_of_mem _ (List.mem_append_left _ h)
            · rcases List.mem_cons.mp h with e | h
              · rw [e]; exact List.mem_cons_self
              · exact List.mem_cons_of_mem _ (List.mem_append_right _ h)), S6.hok, S6.len⟩
        refine gone_ok U6 hN hi hln fun s7 J7 => ?_
        have pa := J7.pin (a, oe4) (List.mem_append_right _ List.mem_cons_self)
        have J8 : Inv X pins (((σ'.set i (some (.ref a))).set j (some (.ref a))).set i none) H' s7 :=
          ⟨ok, J7.os, J7.bare, J7.base, J7.loc, J7.cell, J7.free, J7.freeC, fun p hp => J7.pin p (by
            rcases List.mem_append.mp hp with h | h
            · exact List.mem_append_left _ h
            · exact List.mem_append_right _ (List.mem_cons_of_mem _ h)), J7.hok, J7.len⟩
        have ea : s7.heap.get? a = some ({ cls := .ref C, dict := d, data := .fields vs4, slots := oe4.slots } : Obj) := by
          rw [pa.1]
          obtain ⟨hz1, hz2⟩ := hz4
          show some oe4 = _
          rw [← hz1, ← hz2, ← hd4]
        have nc : ∀ x c, X.env.cells.lookup x = some c → c ≠ a := fun x c e z => by
          obtain ⟨v, w⟩ := J7.cell x c e
          rw [z] at w
          obtain ⟨o', e1, e2⟩ := w
          rw [ea] at e1; cases e1; cases e2
        have np : ∀ p ∈ X.pn ++ pins, p.1 ≠ a := fun p hp z => by
          have q := (J.pin p hp).1
          rw [z, nI] at q; cases q
        exact ⟨_, _, inv_track J8 na (exv_ok ea) n0 nL nc np, hyes rfl a na⟩
      | brk =>
        obtain ⟨σ6, H6, S6, q6⟩ := hsp
        exact q6.elim
      | cont =>
        obtain ⟨σ6, H6, S6, q6⟩ := hsp
        exact q6.elim
      | ret u =>
        obtain ⟨v6, σ6, H6, S6, r6, q6⟩ := hsp
        exact q6.elim
    | false =>
      show wpAny _ X.A (handleBy (.ref a) X.env []) _ _ _
      refine wpAny_handleBy_nil ?_
      obtain ⟨k1, k2, k3, oe, vs, T, oT, ts', he, hz, hd, h1, hr⟩ := id fl3
      unfold PySem.passOn
      refine wpAny_bind (wpAny_field he hd h1 ?_)
      rw [if_neg (show ¬ ((Value.ref T == Value.none) = true) from by simp)]
      have fin : wpAny (model X.prog X.w) X.A (setFlight (.ref a) X.env.frame) (fun _ s4 => wpAny (model X.prog X.w) X.A (throw (.ref a) : Sem Flow) (SP X pins D) X.xe s4) X.xe { s' with heap := h3 } := by
        rw [hf]
        refine HandSPX.setFlight_upZ fl3 fun h4 hh4 up4 => wpAny_throw (tk _ _ ?_)
        exact ⟨a, B, sI, pins, σ', H', .ref C, d, rfl, J, nb, (up.trans up3).trans up4, .inr (.inr (by rw [hs]; exact hh4)), na, os, ag, hno rfl⟩
      first
        | exact wpAny_bind (wpAny_pure (wpAny_bind fin))
        | exact wpAny_bind fin
  refine wpAny_mono ((hb (wKeep X.K c i j Wout D) (X.pn ++ pins) xe' catch_ PassesOwn.looking).run [] s σ H D (I.toTry _) h) (fun f s1 hsp => ?_) (fun e s1 he => he)
  cases f with
  | next =>
    obtain ⟨σ', H', J', q⟩ := hsp
    exact wpAny_execs_nil ⟨σ', H', J'.ofTry ok, q⟩
  | brk =>
    obtain ⟨σ', H', J', q⟩ := hsp
    exact ⟨σ', H', J'.ofTry ok, q⟩
  | cont =>
    obtain ⟨σ', H', J', q⟩ := hsp
    exact ⟨σ', H', J'.ofTry ok, q⟩
  | ret u =>
    obtain ⟨v, σ', H', J', r, q⟩ := hsp
    exact ⟨v, σ', H', J'.ofTry ok, r, q⟩
end
end Ps

namespace Ps
open PySem PySem.Spec PyProof.Rows L2
/-! ### methods and makings, slot by slot -/
section
variable {X : Cx} {CX : CXT} {k : Nat} {f C : Addr} {fd : FuncData} {ps : List Str} {sp : Sp} {E : L2.St → XK} {x m : Str} {p pos apos : Pos} {e o : Expr} {es : List Expr} {ta : TE} {t : TA}
def tMethQ (C : Addr) (m : Str) (sp : Sp) (E : L2.St → XK) (ta : TE) (t : TA) : TE := fun σ H Q => ta σ H fun x H1 => ∃ a dx fs, x = .ref a ∧ H1 a = some (.ins C dx fs) ∧ fs.lookup m = none ∧ t σ H1 fun vs H2 => sp (x :: vs) H2 Q (E σ)
theorem pe_methQ {pl : Sem Bool} (he : PE X o ta) (c : Cls X.K C) (hm : Meth X.K C m f) (F : FnOk X.prog X.w X.K X.mg X.base CX k f fd ps sp) (hr : Room k X.A) (hb : Binds X.K fd ps []) (hx : ∀ σ, PassesAt CX X σ (E σ)) (ha : PA X (e :: es) t)
    (hst : starEach (e :: es) X.env = (false, eval e X.env) :: starEach es X.env := by rfl) (hpl : (backTo pos (starEach es X.env)).any (·.1) = false := by rfl)
    (ht : eval (.Call (.Attribute o m apos) (e :: es) [] pos) X.env = (do
      let ov ← eval o X.env
      standAt apos.atName
      let (f, first) ← holding [ov] (getMethod ov m pl)
      callWith pos f first (backTo pos (starEach (e :: es) X.env)) (backToKw pos (keywordEach [] X.env))) := by rfl) :
    PE X (.Call (.Attribute o m apos) (e :: es) [] pos) (tMethQ C m sp E ta t) := by
  refine ⟨fun pins s σ H Q I h => ?_⟩
  refine PySem.W.methodCall_KW (pl := pl) (thn (he.run pins s σ H _ I h) fun u s1 ⟨x, H1, I1, rx, a, dx, fs, ex, ea, l, q⟩ => ?_) ht
  subst ex
  obtain rfl : u = Value.ref a := rx
  refine getmeth_ok I1 ea c hm l ?_
  refine PySem.W.callWith_K (first := [.ref a]) (h₀ := X.base) I.ok.mod.kin hm.kp (thn (ha.run pos pins s1 σ H1 _ I1 q) fun us s2 ⟨vs, H2, I2, r, q2⟩ => ⟨I2.kIn, ?_⟩) hst hpl
  exact run_fnS (us := .ref a :: us) (vs := .ref a :: vs) F hr hb (hx σ) I2 (.cons rfl r) q2
theorem pe_methQ0 {pl : Sem Bool} (he : PE X o ta) (c : Cls X.K C) (hm : Meth X.K C m f) (F : FnOk X.prog X.w X.K X.mg X.base CX k f fd ps sp) (hr : Room k X.A) (hb : Binds X.K fd ps []) (hx : ∀ σ, PassesAt CX X σ (E σ))
    (ht : eval (.Call (.Attribute o m apos) [] [] pos) X.env = (do
      let ov ← eval o X.env
      standAt apos.atName
      let (f, first) ← holding [ov] (getMethod ov m pl)
      callWith pos f first (backTo pos (starEach [] X.env)) (backToKw pos (keywordEach [] X.env))) := by rfl) :
    PE X (.Call (.Attribute o m apos) [] [] pos) (tMethQ C m sp E ta tNil) := by
  refine ⟨fun pins s σ H Q I h => ?_⟩
  refine PySem.W.methodCall_KW (pl := pl) (thn (he.run pins s σ H _ I h) fun u s1 ⟨x, H1, I1, rx, a, dx, fs, ex, ea, l, q⟩ => ?_) ht
  subst ex
  obtain rfl : u = Value.ref a := rx
  refine getmeth_ok I1 ea c hm l ?_
  exact PySem.W.callWith_K0 (first := [.ref a]) I1.kIn hm.kp (run_fnS (us := [.ref a]) (vs := [.ref a]) F hr hb (hx σ) I1 (.cons rfl .nil) q)
/-- C(..): a new instance and its dict, then __init__, which may raise -/
def tMakeQ (C : Addr) (sp : Sp) (E : L2.St → XK) (t : TA) : TE := fun σ H Q => t σ H fun vs H1 => ∀ x dx, H1 x = none → H1 dx = none → dx ≠ x →
  sp (.ref x :: vs) (upd (upd H1 dx (.own x)) x (.ins C dx [])) (fun v H2 => v = .non ∧ Q (.ref x) H2) (E σ)
theorem run_makeQ {pins : List (Addr × Obj)} {σ : L2.St} {H : Hp} {s : Shared} {Q : VK} {us : List Value} {vs : List V} (M : Mk X.K C f) (F : FnOk X.prog X.w X.K X.mg X.base CX k f fd ps sp) (hr : Room (k + 1) X.A) (hb : Binds X.K fd ps [])
    (hx : PassesAt CX X σ (E σ)) (I : Inv X pins σ H s) (r : Vals vs us)
    (h : ∀ x dx, H x = none → H dx = none → dx ≠ x → sp (.ref x :: vs) (upd (upd H dx (.own x)) x (.ins C dx [])) (fun v H2 => v = .non ∧ Q (.ref x) H2) (E σ)) :
    wpAny (model X.prog X.w) X.A (call (.ref C) us) (EP X pins σ Q) X.xe s := by
  have hq := h (s.heap.objs.size + 1) s.heap.objs.size (I.hok.fresh (Nat.le_succ _)) (I.hok.fresh (Nat.le_refl _)) (Nat.ne_of_lt (Nat.lt_succ_self _))
  have I2 := Inv.made (C := C) I
  have r2 : Vals (V.ref (s.heap.objs.size + 1) :: vs) (Value.ref (s.heap.objs.size + 1) :: us) := .cons rfl r
  have hl : (Value.ref (s.heap.objs.size + 1) :: us).length = ps.length := by
    have e := r2.length
    rw [F.len _ _ _ _ hq] at e
    exact e.symm
  have hb2 := hb _ (Value.ref (s.heap.objs.size + 1) :: us) I2.kIn (by rw [List.append_nil]; exact hl)
  rw [List.append_nil] at hb2
  refine wpAny_call (make_map (f := f) I.kIn M.makes M.init (beq_iff_eq.mp M.fn) (codeAny_mono (F.run _ X.stack _ _ ⟨Value.ref (s.heap.objs.size + 1) :: us, []⟩ (Value.ref (s.heap.objs.size + 1) :: us) _ _ (E σ) (hr.make C us [])
    (I2.env0.make C us []) hb2 r2 hq) fun r s' hq' => ?_))
  cases r with
  | error e => exact hx pins _ _ e s' I2 hq'
  | ok fl =>
    cases fl with
    | ret u =>
      obtain ⟨v, H', I3, rv, ev, q3⟩ := I2.after hq'
      subst ev
      exact ⟨rv, ⟨V.ref (s.heap.objs.size + 1), H', I3, rfl, q3⟩⟩
    | next => exact False.elim hq'
    | brk => exact False.elim hq'
    | cont => exact False.elim hq'
theorem pe_makeQ (M : Mk X.K C f) (F : FnOk X.prog X.w X.K X.mg X.base CX k f fd ps sp) (hr : Room (k + 1) X.A) (hg : Gl X x) (hm : X.mg x = some (.ref C)) (hb : Binds X.K fd ps []) (hx : ∀ σ, PassesAt CX X σ (E σ))
    (ha : PA X (e :: es) t) (hdb : (x == ("__debug__" : Str)) = false := by decide) (he : starEach (e :: es) X.env = (false, eval e X.env) :: starEach es X.env := by rfl) (hpl : (backTo pos (starEach es X.env)).any (·.1) = false := by rfl) :
    PE X (.Call (.Name x p) (e :: es) [] pos) (tMakeQ C sp E t) := by
  refine ⟨fun pins s σ H Q I h => ?_⟩
  refine wpAny_Call_Name_kw (ld_glob I hg hm ?_ hdb)
  refine PySem.W.callWith_K (h₀ := X.base) I.ok.mod.kin M.kp (thn (ha.run pos pins s σ H _ I h) fun us s1 ⟨vs, H1, I1, r, q⟩ => ⟨I1.kIn, ?_⟩) he hpl
  exact run_makeQ M F hr hb (hx σ) I1 r q
theorem passQ0 (σ : L2.St) : PassesAt CX0 X σ E0 := fun _ _ _ _ _ _ h => h.elim
theorem passQL (σ : L2.St) : PassesAt (L2.CX X.prog X.w) X σ E0 := fun pins H s e s' I h => passL pins σ H s e s' I h
end
/-- o.m(..) of an instance of one of two classes -/
theorem pe_or {X : Cx} {e : Expr} {t1 t2 : TE} (h1 : PE X e t1) (h2 : PE X e t2) : PE X e (fun σ H Q => t1 σ H Q ∨ t2 σ H Q) :=
  ⟨fun pins s σ H Q I h => h.elim (h1.run pins s σ H Q I) (h2.run pins s σ H Q I)⟩
/-- nothing is wished of an exception: none comes -/
theorem takes_no {X : Cx} : Takes X (fun _ _ _ _ => False) := fun _ _ ⟨_, _, _, _, _, _, _, _, _, _, _, _, _, _, _, _, z⟩ => z.elim
end Ps

namespace Ps
open PySem PySem.Spec PyProof.Rows L2
section
variable {X : Cx} {pins : List (Addr × Obj)} {σ : L2.St} {H : Hp} {s : Shared}
/-- its dict stands, or there is none -/
def ExDict (H : Hp) (d : Option Addr) : Prop := d = none ∨ ∃ dd fs, d = some dd ∧ H dd = some (.xd fs)
theorem exv_inst (I : Inv X pins σ H s) {a C : Addr} {d : Option Addr} (e : H a = some (exv a C d)) (hd : ExDict H d) : ∃ ox od, PySem.W.InstAt s.heap a ox C od := by
  obtain ⟨vs, sl, h1⟩ := exv_at I.hok e
  rcases hd with rfl | ⟨dd, fs, rfl, h2⟩
  · exact ⟨_, none, h1, rfl, rfl, trivial⟩
  · have hx : ObjOk X.prog X.w H s.heap dd (.xd fs) := I.hok dd _ h2
    obtain ⟨mA, hns, hr⟩ := hx
    obtain ⟨od, ho, hl⟩ := lookIn_ns hns
    exact ⟨_, some od, h1, rfl, rfl, ho⟩
theorem exc_kit {K : PySem.W.Frag} {C : Addr} (c : ExcC K C) (x : Addr) (ox : Obj) (od : Option Obj) : PySem.W.KitX K (.ref x) (.ref C) (fun h => PySem.W.InstAt h x ox C od) :=
  PySem.W.kitx_exc (by obtain ⟨cd, hc, _⟩ := PySem.W.any_some c.hd; rw [hc]; rfl) c.hg c.hk c.hs c.ha c.hn c.ht c.hm
/-- isinstance(x, c) of a kept exception -/
def rIsiX (K : PySem.W.Frag) : List V → Hp → VK → Prop := fun xs H Q => ∃ (a C : Addr) (d : Option Addr) (c : V) (cv : Value) (b : Bool), xs = [.ref a, c] ∧ H a = some (exv a C d) ∧ ExDict H d ∧ ExcC K C ∧ ClsV c cv ∧ PySem.W.kitOne K (.ref C) cv = some b ∧ Q (.bl b) H
theorem call_isiX : CallR X (.builtin "isinstance") (rIsiX X.K) := by
  intro pins s σ H xs us Q I r h
  obtain ⟨a, C, d, c, cv, b, rfl, e, hd, k, hc, hb, q⟩ := h
  obtain ⟨u1, u2, rfl, r1, r2⟩ := vals2 r
  cases (show u1 = Value.ref a from r1)
  obtain ⟨ox, od, J⟩ := exv_inst I e hd
  have e2 := ClsV.all (Paired.cons hc .nil) (.cons r2 .nil)
  cases e2
  exact PySem.W.kia_one (exc_kit k a ox od) I.kIn J hb (fun z => nomatch z) fun tk => ⟨.bl b, H, I.tok tk, rfl, q⟩
def rIsiXT (K : PySem.W.Frag) : List V → Hp → VK → Prop := fun xs H Q => ∃ (a C : Addr) (d : Option Addr) (tp : Addr) (cs : List V) (us : List Value) (b : Bool), xs = [.ref a, .ref tp] ∧ H a = some (exv a C d) ∧ ExDict H d ∧ ExcC K C ∧ H tp = some (.tup cs) ∧ Paired ClsV cs us ∧ PySem.W.kitAny K (.ref C) us = some b ∧ Q (.bl b) H
theorem call_isiXT : CallR X (.builtin "isinstance") (rIsiXT X.K) := by
  intro pins s σ H xs us Q I r h
  obtain ⟨a, C, d, tp, cs, ws, b, rfl, e, hd, k, hT, hc, hb, q⟩ := h
  obtain ⟨u1, u2, rfl, r1, r2⟩ := vals2 r
  cases (show u1 = Value.ref a from r1)
  cases (show u2 = Value.ref tp from r2)
  obtain ⟨ox, od, J⟩ := exv_inst I e hd
  obtain ⟨_, its, rv, o, h1, h2, n, h3⟩ := (show ObjOk X.prog X.w H s.heap tp (.tup cs) from I.hok tp _ hT)
  have e3 := ClsV.all hc rv
  subst e3
  obtain ⟨oc, od', dt, sl⟩ := o
  simp only at h2 h3
  subst h2 h3
  exact PySem.W.kia_tup (exc_kit k a ox od) I.kIn J h1 hb (fun z => nomatch z) fun tk => ⟨.bl b, H, I.tok tk, rfl, q⟩
def rIsiE (K : PySem.W.Frag) : List V → Hp → VK → Prop := fun xs H Q => rIsiU K xs H Q ∨ (rIsiX K xs H Q ∨ rIsiXT K xs H Q)
theorem call_isiE : CallR X (.builtin "isinstance") (rIsiE X.K) := callr_or call_isiU (callr_or call_isiX call_isiXT)
/-- a field of a kept exception -/
def tFldX (K : PySem.W.Frag) (te : TE) (n : Str) : TE := fun σ H Q => te σ H fun x H1 => ∃ (a C dd : Addr) (fs : List (Str × V)) (v : V), x = .ref a ∧ H1 a = some (exv a C (some dd)) ∧ H1 dd = some (.xd fs) ∧ XfC K C ∧ PySem.W.findIn K (.ref C) n = some none ∧ fs.lookup n = some v ∧ Q v H1
theorem pe_fldX {e : Expr} {te : TE} {pos : Pos} {n : Str} (he : PE X e te) (hb : attributeBase e n X.env (eval e X.env) = eval e X.env := by rfl) : PE X (.Attribute e n pos) (tFldX X.K te n) := by
  refine ⟨fun pins s σ H Q I h => ?_⟩
  refine attr_of hb (thn (he.run pins s σ H _ I h) fun u s1 hh => ?_)
  obtain ⟨x, H1, I1, rx, a, C, dd, fs, v, ex, ea, ed, T, hno, l, q⟩ := hh
  subst ex
  obtain rfl : u = Value.ref a := rx
  obtain ⟨vs, sl, h1⟩ := exv_at I1.hok ea
  have hx : ObjOk X.prog X.w H1 s1.heap dd (.xd fs) := I1.hok dd _ ed
  obtain ⟨mA, hns, hr⟩ := hx
  obtain ⟨od, ho, hl⟩ := lookIn_ns hns
  obtain ⟨u, hu, ru⟩ := RelO.some_of (v := v) (o := mA n) (by rw [← l]; exact hr n)
  have J : PySem.W.InstAt s1.heap a _ C (some od) := ⟨h1, rfl, rfl, ho⟩
  exact HandSPX.exc_get I1.kIn J T.ga T.gg T.exC (PySem.W.findObj_own T.hdC hno rfl (by rw [hl, hu])) (handed_of ru) ⟨v, H1, I1.tok _, ru, q⟩
def tFldU (K : PySem.W.Frag) (te : TE) (n : Str) : TE := fun σ H Q => tFld K te n σ H Q ∨ tFldX K te n σ H Q
theorem pe_fldU {e : Expr} {te : TE} {pos : Pos} {n : Str} (he : PE X e te) (hb : attributeBase e n X.env (eval e X.env) = eval e X.env := by rfl) : PE X (.Attribute e n pos) (tFldU X.K te n) := pe_or (pe_fld he hb) (pe_fldX he hb)
/-- B.__init__(self, ..), B an own class whose __init__ is ValueError's -/
theorem pe_binit {x : Str} {C0 : Addr} {e : Expr} {es : List Expr} {ta : TA} {p1 p2 pos : Pos} {pl : Sem Bool} (hg : Gl X x) (hm : X.mg x = some (.ref C0)) (rC : ClX.CRead X.K C0 (.type "type")) (vV : PySem.W.findCls X.K (.ref C0) (.type "type") "__init__" = some (.val (.builtin "ValueError.__init__"))) (ha : PA X (e :: es) ta)
    (hdb : (x == ("__debug__" : Str)) = false := by decide)
    (hc : eval (.Call (.Attribute (.Name x p1) "__init__" p2) (e :: es) [] pos) X.env = (do
      let ov ← eval (.Name x p1) X.env
      standAt p2.atName
      let (f, first) ← holding [ov] (getMethod ov "__init__" pl)
      callWith pos f first (backTo pos (starEach (e :: es) X.env)) (backToKw pos (keywordEach [] X.env))) := by rfl)
    (he : starEach (e :: es) X.env = (false, eval e X.env) :: starEach es X.env := by rfl) (hpl : (backTo pos (starEach es X.env)).any (·.1) = false := by rfl) :
    PE X (.Call (.Attribute (.Name x p1) "__init__" p2) (e :: es) [] pos) (tVeI X.K ta) := by
  refine ⟨fun pins s σ H Q I h => ?_⟩
  refine PySem.W.methodCall_KW (ld_glob I hg hm ?_ hdb) hc
  refine PySem.W.method_cls I.kIn rC.ga (PySem.W.cls_value I.kIn rC.rd vV rfl ?_)
  show wpAny _ _ (callWith pos (Value.builtin "ValueError.__init__") [] (backTo pos (starEach (e :: es) X.env)) []) _ _ _
  refine PyProof.Rows.callWith_method1 (thn (ha.run pos pins _ σ H _ (I.tok _) h) fun us s1 ⟨vs, H1, I1, r1, a, C, ws, ev, hl, T, ea, q⟩ => ?_) he hpl
  subst ev
  cases r1 with
  | @cons _ u0 _ ur ra rw' =>
    obtain rfl : u0 = Value.ref a := ra
    have hlen : ur.length ≤ sizeLine := by
      rw [← Paired.length rw', sizeLine_eq]
      omega
    exact oinit_ok T I1 ea hlen fun s' J => ⟨.non, H1, J, rfl, q⟩
end
end Ps

namespace Ps
open PySem PySem.Spec PyProof.Rows L2
theorem bt_ValueError : bootBuiltins "ValueError" = some (.type "ValueError") := by decide +kernel
def tRz (W : WX) (cls : Value) : TS := fun _ σ H => W cls none σ H
def tRzO (W : WX) (C : Addr) (sp : Sp) (ta : TA) : TS := fun _ σ H => tMkO C sp [] ta σ H fun cls d H' => W cls d σ H'
def tOrE (t1 t2 : TE) : TE := fun σ H Q => t1 σ H Q ∨ t2 σ H Q
/-- what a class of one's own must have, its fields' names -/
def ClsK (K : PySem.W.Frag) (C : Addr) (fs : List Str) : Prop := Cls K C ∧ ∀ f ∈ fs, NoAttr K C f
section
variable {K : PySem.W.Frag} {H H1 : Hp} {σ : L2.St} {D : Ends} {ta tv : TE} {f m : Str} {Q : VK} {a C dx : Addr} {fs : List (Str × V)} {fl : List Str} {v y : V} {t : TA} {sp : Sp} {E : L2.St → XK}
def FldK (K : PySem.W.Frag) (f : Str) (x : V) (H1 : Hp) (Q : VK) : Prop := ∃ a C dx fs v, x = .ref a ∧ H1 a = some (.ins C dx fs) ∧ Cls K C ∧ NoAttr K C f ∧ fs.lookup f = some v ∧ Q v H1
theorem w_fld (h : ta σ H fun x H1 => FldK K f x H1 Q) : tFld K ta f σ H Q := h
theorem w_fldI (ha : H a = some (.ins C dx fs)) (k : ClsK K C fl) (hf : f ∈ fl) (hv : fs.lookup f = some v) (h : Q v H) : FldK K f (.ref a) H Q := ⟨a, C, dx, fs, v, rfl, ha, k.1, k.2 f hf, hv, h⟩
def SFldK (K : PySem.W.Frag) (f : Str) (D : Ends) (σ : L2.St) (y x : V) (H2 : Hp) : Prop := ∃ a C dx fs, x = .ref a ∧ H2 a = some (.ins C dx fs) ∧ Cls K C ∧ NoAttr K C f ∧ fs.length < 1000 ∧ D.nx σ (upd H2 a (.ins C dx (putF f y fs)))
theorem w_sfld (h : tv σ H fun y H1 => ta σ H1 fun x H2 => SFldK K f D σ y x H2) : sFld K ta tv f D σ H := h
theorem w_sfldI (ha : H a = some (.ins C dx fs)) (k : ClsK K C fl) (hf : f ∈ fl) (hz : fs.length < 1000) (h : D.nx σ (upd H a (.ins C dx (putF f y fs)))) : SFldK K f D σ y (.ref a) H := ⟨a, C, dx, fs, rfl, ha, k.1, k.2 f hf, hz, h⟩
def AFldK (K : PySem.W.Frag) (f : Str) (rd : V → V → Hp → VK → Prop) (tv : TE) (D : Ends) (σ : L2.St) (x : V) (H1 : Hp) : Prop := ∃ a C dx fs v, x = .ref a ∧ H1 a = some (.ins C dx fs) ∧ Cls K C ∧ NoAttr K C f ∧ fs.lookup f = some v ∧
  tv σ H1 fun y H2 => rd v y H2 fun z H3 => ∃ dx' fs', H3 a = some (.ins C dx' fs') ∧ fs'.length < 1000 ∧ D.nx σ (upd H3 a (.ins C dx' (putF f z fs')))
theorem w_afld {rd : V → V → Hp → VK → Prop} (h : ta σ H fun x H1 => AFldK K f rd tv D σ x H1) : sFldAug K ta tv rd f D σ H := h
theorem w_afldI {rd : V → V → Hp → VK → Prop} (ha : H a = some (.ins C dx fs)) (k : ClsK K C fl) (hf : f ∈ fl) (hv : fs.lookup f = some v)
    (h : tv σ H fun y H2 => rd v y H2 fun z H3 => ∃ dx' fs', H3 a = some (.ins C dx' fs') ∧ fs'.length < 1000 ∧ D.nx σ (upd H3 a (.ins C dx' (putF f z fs')))) : AFldK K f rd tv D σ (.ref a) H := ⟨a, C, dx, fs, v, rfl, ha, k.1, k.2 f hf, hv, h⟩
theorem w_rAdd {i j : Int} (h : Q (.int (i + j)) H) : rAdd (.int i) (.int j) H Q := ⟨i, j, rfl, rfl, h⟩
theorem w_rSub {i j : Int} (h : Q (.int (i - j)) H) : rSub (.int i) (.int j) H Q := ⟨i, j, rfl, rfl, h⟩
def MethK (C : Addr) (m : Str) (sp : Sp) (E : XK) (t : TA) (σ : L2.St) (x : V) (H1 : Hp) (Q : VK) : Prop := ∃ a dx fs, x = .ref a ∧ H1 a = some (.ins C dx fs) ∧ fs.lookup m = none ∧ t σ H1 fun vs H2 => sp (x :: vs) H2 Q E
theorem w_meth (h : ta σ H fun x H1 => MethK C m sp (E σ) t σ x H1 Q) : tMethQ C m sp E ta t σ H Q := h
theorem w_methI {E : XK} (ha : H a = some (.ins C dx fs)) (hv : fs.lookup m = none) (h : t σ H fun vs H2 => sp (.ref a :: vs) H2 Q E) : MethK C m sp E t σ (.ref a) H Q := ⟨a, dx, fs, rfl, ha, hv, h⟩
theorem w_make (h : t σ H fun vs H1 => ∀ x dx, H1 x = none → H1 dx = none → dx ≠ x → sp (.ref x :: vs) (upd (upd H1 dx (.own x)) x (.ins C dx [])) (fun v H2 => v = .non ∧ Q (.ref x) H2) (E σ)) : tMakeQ C sp E t σ H Q := h
theorem w_orL {t1 t2 : TE} (h : t1 σ H Q) : tOrE t1 t2 σ H Q := .inl h
theorem w_orR {t1 t2 : TE} (h : t2 σ H Q) : tOrE t1 t2 σ H Q := .inr h
theorem w_rz {W : WX} {cls : Value} (h : W cls none σ H) : tRz W cls D σ H := h
theorem w_try {c : Value} {i j : Nat} {tb : WX → TS} {Wout : WX} (h : tb (wKeep K c i j Wout D) D σ H) : tTryK K c i j tb Wout D σ H := h
theorem w_tryP {c : Value} {i j : Nat} {tb : WX → TS} {Wout : WX} (h : ∀ P : L2.St → Hp → Prop, (∀ σ H, D.nx σ H → P σ H) → tb (wKeep K c i j Wout ⟨P, D.rt, D.bk, D.ct⟩) ⟨P, D.rt, D.bk, D.ct⟩ σ H) : tTryK K c i j tb Wout D σ H := h D.nx fun _ _ q => q
theorem w_keep {c : Value} {i j : Nat} {Wout : WX} {d : Option Addr} (e : PySem.W.exmOne K (.ref C) c = some true) (h : ∀ a, H a = none → D.nx (((σ.set i (some (.ref a))).set j (some (.ref a))).set i none) (upd H a (exv a C d))) : wKeep K c i j Wout D (.ref C) d σ H :=
  ⟨C, true, rfl, e, fun _ => h, fun z => by cases z⟩
theorem w_vei {ta : TA} (h : ta σ H fun vs H1 => ∃ (a C : Addr) (ws : List V), vs = .ref a :: ws ∧ ws.length ≤ 1000 ∧ OexC K C ∧ H1 a = some (exo a C none) ∧ Q .non H1) : tVeI K ta σ H Q := h
theorem w_ost {to te : TE} (h : te σ H fun y H1 => to σ H1 fun x H2 => ∃ a C : Addr, x = .ref a ∧ OexC K C ∧ PySem.W.findIn K (.ref C) f = some none ∧
  ((H2 a = some (exo a C none) ∧ ∀ dx, H2 dx = none → dx ≠ a → D.nx σ (upd (upd H2 dx (exd dx [(f, y)])) a (exo a C (some dx)))) ∨
    ∃ (dx : Addr) (fs : List (Str × V)), H2 a = some (exo a C (some dx)) ∧ H2 dx = some (exd dx fs) ∧ fs.length ≤ 900 ∧ D.nx σ (upd H2 dx (exd dx ((f, y) :: fs))))) : tOst K f to te D σ H := h
theorem w_isX {d : Option Addr} {c : V} {cv : Value} {b : Bool} (ha : H a = some (exv a C d)) (hd : ExDict H d) (k : ExcC K C) (hc : ClsV c cv) (hb : PySem.W.kitOne K (.ref C) cv = some b) (h : Q (.bl b) H) : rIsiE K [.ref a, c] H Q :=
  .inr (.inl ⟨a, C, d, c, cv, b, rfl, ha, hd, k, hc, hb, h⟩)
theorem w_isXT {d : Option Addr} {tp : Addr} {cs : List V} {us : List Value} {b : Bool} (ha : H a = some (exv a C d)) (hd : ExDict H d) (k : ExcC K C) (hT : H tp = some (.tup cs)) (hc : Paired ClsV cs us) (hb : PySem.W.kitAny K (.ref C) us = some b) (h : Q (.bl b) H) : rIsiE K [.ref a, .ref tp] H Q :=
  .inr (.inr ⟨a, C, d, tp, cs, us, b, rfl, ha, hd, k, hT, hc, hb, h⟩)
theorem w_max2 {i j : Int} (h : Q (.int (if j > i then j else i)) H) : rMax2 [.int i, .int j] H Q := ⟨i, j, rfl, h⟩
end
end Ps

namespace Ps
open PySem PySem.Spec PyProof.Rows L2
/-- a tuple or a list is taken apart -/
def gTupU (K : PySem.W.Frag) (n : Nat) (t : TGs) : TG := fun v σ H Q => gTup K n t v σ H Q ∨ gLst K n t v σ H Q
theorem pg_or {X : Cx} {e : Expr} {t1 t2 : TG} (h1 : PG X e t1) (h2 : PG X e t2) : PG X e (fun v σ H Q => t1 v σ H Q ∨ t2 v σ H Q) :=
  ⟨fun pins s σ H v u Q I r h => h.elim (h1.run pins s σ H v u Q I r) (h2.run pins s σ H v u Q I r)⟩
theorem pg_tupU {X : Cx} {pos : Pos} {es : List Expr} {k : Nat} {t : TGs} {n : Nat} (hc : X.calm = true) (h : PGs X es t)
    (hn : (assignEach es X.env).length = n := by rfl) (hst : (assignEach es X.env).findIdx? (·.1) = none := by rfl) : PG X (.Tuple es k pos) (gTupU X.K n t) := pg_or (pg_tup hc h hn hst) (pg_lst hc h hn hst)
theorem w_gtL {K : PySem.W.Frag} {gs : TGs} {n : Nat} {a : Addr} {xs : List V} {σ : L2.St} {H : Hp} {Q : L2.St → Hp → Prop} (ht : SqL K H a xs) (hn : xs.length = n) (h : gs xs σ H Q) : gTupU K n gs (.ref a) σ H Q := .inr ⟨a, xs, rfl, ht, hn, h⟩
theorem w_gtT {K : PySem.W.Frag} {gs : TGs} {n : Nat} {a : Addr} {xs : List V} {σ : L2.St} {H : Hp} {Q : L2.St → Hp → Prop} (ht : SqT K H a xs) (hn : xs.length = n) (h : gs xs σ H Q) : gTupU K n gs (.ref a) σ H Q := .inl ⟨a, xs, rfl, ht, hn, h⟩
end Ps

/-! PsD: what every law begins with: its draws. -/
namespace Ps
open PySem PySem.Spec PyProof.Rows L2
local macro_rules | `(tactic| walk_at "s1") => `(tactic| first
  | (with_reducible refine w_seq ?_) | (with_reducible refine w_asg ?_) | (with_reducible refine w_op ?_) | (with_reducible refine w_c ?_)
  | ((with_reducible refine' w_var ?hx ?_); (case hx => exact rfl))
  | (with_reducible refine w_gname ?_) | (with_reducible refine w_cons ?_) | (with_reducible refine w_nil ?_) | (with_reducible refine w_cb ?_) | (with_reducible refine w_call ?_)
  | (with_reducible refine w_ret ?_) | (with_reducible refine w_drop ?_) | (with_reducible refine w_ifs ?_) | (with_reducible refine w_test ?_) | (with_reducible refine w_next ?_)
  | (with_reducible refine w_addI ?_) | (with_reducible refine w_subI ?_) | (with_reducible refine w_negI ?_) | (with_reducible refine w_eqI ?_) | (with_reducible refine w_neI ?_) | (with_reducible refine w_ltI ?_) | (with_reducible refine w_leI ?_)
  | (with_reducible refine w_gtI ?_) | (with_reducible refine w_geI ?_) | (with_reducible refine w_isNn ?_) | (with_reducible refine w_isNi ?_) | (with_reducible refine w_isNs ?_) | (with_reducible refine w_isNr ?_) | (with_reducible refine w_ntNn ?_) | (with_reducible refine w_ntNi ?_) | (with_reducible refine w_ntNs ?_) | (with_reducible refine w_ntNr ?_) | (with_reducible refine w_isN ?_) | (with_reducible refine w_notN ?_) | (with_reducible refine w_ipaI ?_) | (with_reducible refine w_eqS ?_) | (with_reducible refine w_neS ?_)
  | (with_reducible refine w_blE ?_) | (with_reducible refine w_truB ?_) | (with_reducible refine w_intI ?_) | (with_reducible refine w_intB ?_)
  | (with_reducible refine w_bm ?_) | (with_reducible refine w_bm0 ?_) | (with_reducible refine w_lst ?_) | (with_reducible refine w_tup ?_) | (with_reducible refine w_un ?_) | (with_reducible refine w_sl ?_) | (with_reducible refine w_nopart ?_) | (with_reducible refine w_part ?_) | (with_reducible refine w_partI ?_)
  | (with_reducible refine w_gsub ?_) | (with_reducible refine w_gcons ?_) | (with_reducible refine w_gnil ?_) | (with_reducible refine w_and ?_) | (with_reducible refine w_or ?_) | (with_reducible refine w_not ?_) | (with_reducible refine w_tru ?_) | (with_reducible refine w_yes ?_)
  | (with_reducible refine w_andV ?_) | (with_reducible refine w_orV ?_) | (with_reducible refine w_notV ?_) | (with_reducible refine w_tif ?_) | (with_reducible refine w_callS ?_) | (with_reducible refine w_for ?_)
  | (with_reducible refine w_par ?_) | (with_reducible refine w_par2 ?_) | (with_reducible refine w_retN ?_) | (with_reducible refine w_brk ?_) | (with_reducible refine w_cont ?_)
  | ((with_reducible refine' w_aug ?hx ?_); (case hx => exact rfl)) | (with_reducible refine w_ipsI ?_)
  | (with_reducible refine w_is_int_dict ?_) | (with_reducible refine w_is_int_list ?_) | (with_reducible refine w_is_int_tuple ?_) | (with_reducible refine w_is_int_str ?_) | (with_reducible refine w_is_int_int ?_) | (with_reducible refine w_is_int_bool ?_) | (with_reducible refine w_is_bool_dict ?_) | (with_reducible refine w_is_bool_list ?_) | (with_reducible refine w_is_bool_tuple ?_) | (with_reducible refine w_is_bool_str ?_) | (with_reducible refine w_is_bool_int ?_) | (with_reducible refine w_is_bool_bool ?_) | (with_reducible refine w_is_str_dict ?_) | (with_reducible refine w_is_str_list ?_) | (with_reducible refine w_is_str_tuple ?_) | (with_reducible refine w_is_str_str ?_) | (with_reducible refine w_is_str_int ?_) | (with_reducible refine w_is_str_bool ?_)
  | (with_reducible refine w_ifT ?_) | (with_reducible refine w_ifF ?_) | (with_reducible refine w_ifNF ?_) | (with_reducible refine w_ifNT ?_)
  | (with_reducible refine w_tys ?_) | (with_reducible refine w_chain ?_) | (with_reducible refine w_ost ?_) | (with_reducible refine w_vei ?_) | (with_reducible refine w_rzO ?_) | (with_reducible refine w_fld ?_) | (with_reducible refine w_sfld ?_) | (with_reducible refine w_afld ?_) | (with_reducible refine w_meth ?_) | (with_reducible refine w_make ?_) | (with_reducible refine w_rz ?_) | (with_reducible refine w_rAdd ?_) | (with_reducible refine w_rSub ?_) | (with_reducible refine w_max2 ?_) | (with_reducible refine w_lc ?_) | (with_reducible refine w_zip ?_) | (with_reducible refine w_seqv ?_) | (with_reducible refine w_rng1 ?_) | (with_reducible refine w_rng2 ?_) | (with_reducible refine w_rng3 ?_) | (with_reducible refine w_enum ?_) | (with_reducible refine w_rev ?_))
local macro_rules | `(tactic| walk_at "go") => `(tactic| repeat (walk_at "s1"))
/- _law_begin: 0 _law_script, 1 _law_cells -/
def t_begin (K : PySem.W.Frag) : TS :=
      (tSeq (tAsg (tCB (rListU K) (tCons (tSl (rSlU K) (tVar 0) tNoPart (tPart (tC (.int 63)))) tNil)) (gName 1))
      (tSeq (tIfS (tTest (tOp (rEqU K) (tVar 1) (tLst tNil)))
      (tAsg (tLst (tCons (tC (.int 7)) tNil)) (gName 1))
      tNext)
      (tRet (tDisp [((tC (.str ("cells" : Str))), (tVar 1)), ((tC (.str ("turn" : Str))), (tC (.int 0)))]))))
abbrev N_begin : List Str := [("_law_script" : Str), ("_law_cells" : Str)]

/- _law_take: 0 _law_state, 1 _law_many, 2 _law_turn, 3 _law_place, 4 _law_cell, 5 _law_digit, 6 _law_mixed -/
def t_take (K : PySem.W.Frag) : TS :=
      (tSeq (tAsg (tOp (rAddU K) (tOp (rIxU K) (tVar 0) (tC (.str ("turn" : Str)))) (tC (.int 1))) (gName 2))
      (tSeq (tAsg (tVar 2) (gSub (tVar 0) (tC (.str ("turn" : Str))) rSetU))
      (tSeq (tAsg (tOp (rModU) (tVar 2) (tCB (rLenU K) (tCons (tOp (rIxU K) (tVar 0) (tC (.str ("cells" : Str)))) tNil))) (gName 3))
      (tSeq (tAsg (tOp (rIxU K) (tOp (rIxU K) (tVar 0) (tC (.str ("cells" : Str)))) (tVar 3)) (gName 4))
      (tSeq (tIfS (tTest (tOp (rGeU) (tVar 4) (tOp (rPowU) (tC (.int 10)) (tC (.int 18)))))
      (tSeq (tAsg (tCB (rDivmod) (tCons (tVar 4) (tCons (tVar 1) tNil))) (gTup K 2 (gCons (gSub (tOp (rIxU K) (tVar 0) (tC (.str ("cells" : Str)))) (tVar 3) rSetU) (gCons (gName 5) gNil))))
      (tRet (tVar 5)))
      tNext)
      (tSeq (tAsg (tOp (rModU) (tOp (rMulU) (tOp (rAddU K) (tOp (rAddU K) (tOp (rModU) (tVar 4) (tC (.int 2147483629))) (tOp (rMulU) (tOp (rMulU) (tVar 2) (tVar 2)) (tC (.int 7919)))) (tC (.int 11))) (tC (.int 48271))) (tC (.int 2147483647))) (gName 6))
      (tSeq (tAsg (tOp (rModU) (tOp (rMulU) (tVar 6) (tVar 6)) (tC (.int 2147483587))) (gName 6))
      (tRet (tOp (rModU) (tOp (rDivU) (tOp (rModU) (tOp (rMulU) (tOp (rAddU K) (tVar 6) (tOp (rMulU) (tVar 2) (tC (.int 104729)))) (tC (.int 69621))) (tC (.int 2147483629))) (tC (.int 7))) (tVar 1))))))))))
abbrev N_take : List Str := [("_law_state" : Str), ("_law_many" : Str), ("_law_turn" : Str), ("_law_place" : Str), ("_law_cell" : Str), ("_law_digit" : Str), ("_law_mixed" : Str)]

/-- the law's state: its cells at c, its turn -/
def stD (c : Addr) (t : Int) : HO := .dK [(.inr "cells", .ref c), (.inr "turn", .int t)]
/-- the law's world: m turns may still be taken -/
def LW (m : Nat) (a : Addr) (R : List (Addr × HO)) (G H : Hp) : Prop := ∃ (c : Addr) (t : Int) (ns : List Int), Wd ((a, stD c t) :: (c, .lst (ns.map V.int)) :: R) G H ∧ 0 < ns.length ∧ 0 ≤ t ∧ t + m ≤ 2 ^ 50
section
variable {m m' : Nat} {a p l : Addr} {R : List (Addr × HO)} {G G' H H' : Hp} {o o' : HO} {x : Addr × HO}
theorem LW.le (h : LW m a R G H) (l : m' ≤ m) : LW m' a R G H := by
  obtain ⟨c, t, ns, w, h1, h2, h3⟩ := h
  exact ⟨c, t, ns, w, h1, h2, by omega⟩
theorem LW.v (h : LW m a R G H) : Same G H := by
  obtain ⟨c, t, ns, w, _⟩ := h
  exact w.v
theorem LW.same (h : LW m a R G H) (s : Same H H') : LW m a R G H' := by
  obtain ⟨c, t, ns, w, r⟩ := h
  exact ⟨c, t, ns, w.same s, r⟩
theorem LW.grow (h : LW m a R G H) (g : Grow H G H' G') : LW m a R G' H' := by
  obtain ⟨c, t, ns, w, r⟩ := h
  exact ⟨c, t, ns, w.grow g, r⟩
theorem LW.own (h : LW m a R G H) (s : Same H H') (hp : H p = none) (e : H' p = some o) : LW m a ((p, o) :: R) G H' := by
  obtain ⟨c, t, ns, w, r⟩ := h
  exact ⟨c, t, ns, w.own3 s hp e, r⟩
theorem LW.new (h : LW m a R G H) (hp : H p = none) : LW m a R (upd G p o) (upd H p o) := h.grow (Grow.new h.v hp)
theorem LW.mk (h : LW m a R G H) (hp : H p = none) : LW m a ((p, o) :: R) G (upd H p o) := h.own (same_new hp) hp upd_same
theorem LW.put (h : LW m a ((l, o) :: R) G H) : LW m a ((l, o') :: R) G (upd H l o') := by
  obtain ⟨c, t, ns, w, r⟩ := h
  exact ⟨c, t, ns, w.put3, r⟩
theorem LW.hd (h : LW m a ((l, o) :: R) G H) : H l = some o := by
  obtain ⟨c, t, ns, w, r⟩ := h
  exact w.td
theorem LW.drop (h : LW m a (x :: R) G H) : LW m a R G H := by
  obtain ⟨c, t, ns, w, r⟩ := h
  exact ⟨c, t, ns, w.rot3.drop, r⟩
theorem LW.share (h : LW m a ((l, o) :: R) G H) : LW m a R (upd G l o) H := by
  obtain ⟨c, t, ns, w, r⟩ := h
  exact ⟨c, t, ns, w.rot3.share, r⟩
theorem LW.gsame (h : LW m a ((l, o) :: R) G H) (o' : HO) : Same G (upd G l o') := by
  obtain ⟨c, t, ns, w, r⟩ := h
  exact w.rot3.gsame o'
end
theorem ne_ct : ¬ (Str.ofString "cells" = Str.ofString "turn") := by decide +kernel
theorem st_turn {c : Addr} {t : Int} : valV [((.inr "cells" : Key), V.ref c), (.inr "turn", V.int t)] (.inr "turn") = some (.int t) := by
  simp [valV, ne_ct]
theorem st_cells {c : Addr} {t : Int} : valV [((.inr "cells" : Key), V.ref c), (.inr "turn", V.int t)] (.inr "cells") = some (.ref c) := by
  simp [valV]
theorem st_len {c : Addr} {t : Int} : [((.inr "cells" : Key), V.ref c), (.inr "turn", V.int t)].length < sizeLine := by
  show 2 < sizeLine
  decide
theorem st_put {c : Addr} {t u : Int} : HO.dK (putK [((.inr "cells" : Key), V.ref c), (.inr "turn", V.int t)] (.inr "turn") (.int u)) = stD c u := by
  simp [putK, stD, ne_ct]
theorem ixN_nat {n j : Nat} (hj : j < n) : ixN n (j : Int) = some j := by
  unfold ixN
  rw [if_pos (by omega), if_pos (by omega)]
  simp
/-- _law_take -/
def spTake : Sp := fun vs H Q _ => ∃ (m : Nat) (a : Addr) (n : Int) (R : List (Addr × HO)) (G : Hp), vs = [.ref a, .int n] ∧ LW (m + 1) a R G H ∧ 0 < n ∧ n < 2 ^ 62 ∧
  ∀ (v : Int) (H' : Hp), LW m a R G H' → 0 ≤ v → v < n → Q (.int v) H'
theorem spTake_len (vs : List V) (H : Hp) (Q : VK) (E : XK) (h : spTake vs H Q E) : vs.length = 2 := by
  obtain ⟨m, a, n, R, G, rfl, _⟩ := h
  rfl
theorem pure_take {K : PySem.W.Frag} (vs : List V) (H : Hp) (Q : VK) (E : XK) (h : spTake vs H Q E) : t_take K { nx := fun _ H' => Q .non H', rt := Q } (start N_take vs) H := by
  obtain ⟨m, a, n, R, G, rfl, ⟨c, t, ns, w, hns, ht0, htm⟩, hn0, hn1, k⟩ := h
  unfold t_take
  walk_at "go"
  refine w_ixDs w.hd st_turn ?_
  walk_at "go"
  refine w_setDs w.hd st_len ?_
  rw [st_put]
  have w1 : Wd ((a, stD c (t + 1)) :: (c, .lst (ns.map V.int)) :: R) G (upd H a (stD c (t + 1))) := w.put
  revert w1
  generalize upd H a (stD c (t + 1)) = H1
  intro w1
  walk_at "go"
  refine w_ixDs w1.hd st_cells ?_
  walk_at "go"
  refine w_lenL (SqL.of w1.sd) ?_
  walk_at "go"
  refine w_modI (by rw [List.length_map]; omega) ?_
  rw [List.length_map]
  obtain ⟨j, hj, ej⟩ : ∃ j : Nat, j < ns.length ∧ (t + 1) % (ns.length : Int) = (j : Int) := ⟨((t + 1) % (ns.length : Int)).toNat, by
    have h1 := Int.emod_nonneg (t + 1) (show (ns.length : Int) ≠ 0 by omega)
    have h2 := Int.emod_lt_of_pos (t + 1) (show (0 : Int) < ns.length by omega)
    omega, by
    have h1 := Int.emod_nonneg (t + 1) (show (ns.length : Int) ≠ 0 by omega)
    omega⟩
  rw [ej]
  walk_at "go"
  refine w_ixDs w1.hd st_cells ?_
  walk_at "go"
  refine w_ixL (v := V.int ns[j]) (SqL.of w1.sd) (atI_nat (by simp [hj])) ?_
  walk_at "go"
  refine w_powI ⟨by decide, by decide, by decide⟩ ?_
  walk_at "go"
  refine w_ifd (fun hc => ?_) (fun hc => ?_)
  · walk_at "go"
    refine w_divmod (wide_div (b := 62) hn0 (by omega) (by decide) (by decide)) fun p hp => ?_
    have w2 := w1.new (o := .tup [.int (ns[j] / n), .int (ns[j] % n)]) hp
    walk_at "go"
    refine w_gtup (SqT.of upd_same) rfl ?_
    walk_at "go"
    refine w_ixDs w2.hd st_cells ?_
    walk_at "go"
    refine w_setL (k := j) w2.sd (by rw [List.length_map]; exact ixN_nat hj) ?_
    have w3 := w2.put2 (o' := .lst ((ns.map V.int).set j (.int (ns[j] / n))))
    walk_at "go"
    have el : (ns.map V.int).set j (.int (ns[j] / n)) = (ns.set j (ns[j] / n)).map V.int := by rw [List.map_set]
    rw [el] at w3 ⊢
    refine k _ _ ?_ (Int.emod_nonneg _ (by omega)) (Int.emod_lt_of_pos _ hn0)
    obtain ⟨v3, o3, n3⟩ := w3
    exact ⟨c, t + 1, ns.set j (ns[j] / n), ⟨(same_new (w1.v.free hp)).trans v3, fun y hy => ⟨(o3 y hy).1, (same_new (w1.v.free hp)).free (o3 y hy).2⟩, n3⟩, by rw [List.length_set]; exact hns, by omega, by omega⟩
  · have ht : -(2 ^ 64) < t + 1 ∧ t + 1 < 2 ^ 64 := by omega
    walk_at "go"
    refine w_modF (by decide) fun z1 h1 h2 => ?_
    walk_at "go"
    refine w_mulI (.inl ht) ?_
    walk_at "go"
    refine w_mulI (.inr ⟨by decide, by decide⟩) ?_
    walk_at "go"
    refine w_mulI (.inr ⟨by decide, by decide⟩) ?_
    walk_at "go"
    refine w_modF (by decide) fun z2 h3 h4 => ?_
    walk_at "go"
    refine w_mulI (.inl ⟨by omega, by omega⟩) ?_
    walk_at "go"
    refine w_modF (by decide) fun z3 h5 h6 => ?_
    walk_at "go"
    refine w_mulI (.inr ⟨by decide, by decide⟩) ?_
    walk_at "go"
    refine w_mulI (.inr ⟨by decide, by decide⟩) ?_
    walk_at "go"
    refine w_modF (by decide) fun z4 h7 h8 => ?_
    walk_at "go"
    refine w_divI ⟨by decide, by decide⟩ ?_
    walk_at "go"
    refine w_modF hn0 fun z5 h9 h10 => ?_
    exact k _ _ ⟨c, t + 1, ns, w1, hns, by omega, by omega⟩ h9 h10
end Ps

/-! PsE: how a law begins, how it compares. -/
namespace Ps
open PySem PySem.Spec PyProof.Rows L2
local macro_rules | `(tactic| walk_at "s1") => `(tactic| first
  | (with_reducible refine w_seq ?_) | (with_reducible refine w_asg ?_) | (with_reducible refine w_op ?_) | (with_reducible refine w_c ?_)
  | ((with_reducible refine' w_var ?hx ?_); (case hx => exact rfl))
  | (with_reducible refine w_gname ?_) | (with_reducible refine w_cons ?_) | (with_reducible refine w_nil ?_) | (with_reducible refine w_cb ?_) | (with_reducible refine w_call ?_)
  | (with_reducible refine w_ret ?_) | (with_reducible refine w_drop ?_) | (with_reducible refine w_ifs ?_) | (with_reducible refine w_test ?_) | (with_reducible refine w_next ?_)
  | (with_reducible refine w_addI ?_) | (with_reducible refine w_subI ?_) | (with_reducible refine w_negI ?_) | (with_reducible refine w_eqI ?_) | (with_reducible refine w_neI ?_) | (with_reducible refine w_ltI ?_) | (with_reducible refine w_leI ?_)
  | (with_reducible refine w_gtI ?_) | (with_reducible refine w_geI ?_) | (with_reducible refine w_isNn ?_) | (with_reducible refine w_isNi ?_) | (with_reducible refine w_isNs ?_) | (with_reducible refine w_isNr ?_) | (with_reducible refine w_ntNn ?_) | (with_reducible refine w_ntNi ?_) | (with_reducible refine w_ntNs ?_) | (with_reducible refine w_ntNr ?_) | (with_reducible refine w_isN ?_) | (with_reducible refine w_notN ?_) | (with_reducible refine w_ipaI ?_) | (with_reducible refine w_eqS ?_) | (with_reducible refine w_neS ?_)
  | (with_reducible refine w_blE ?_) | (with_reducible refine w_truB ?_) | (with_reducible refine w_intI ?_) | (with_reducible refine w_intB ?_)
  | (with_reducible refine w_bm ?_) | (with_reducible refine w_bm0 ?_) | (with_reducible refine w_lst ?_) | (with_reducible refine w_tup ?_) | (with_reducible refine w_un ?_) | (with_reducible refine w_sl ?_) | (with_reducible refine w_nopart ?_) | (with_reducible refine w_part ?_) | (with_reducible refine w_partI ?_)
  | (with_reducible refine w_gsub ?_) | (with_reducible refine w_gcons ?_) | (with_reducible refine w_gnil ?_) | (with_reducible refine w_and ?_) | (with_reducible refine w_or ?_) | (with_reducible refine w_not ?_) | (with_reducible refine w_tru ?_) | (with_reducible refine w_yes ?_)
  | (with_reducible refine w_andV ?_) | (with_reducible refine w_orV ?_) | (with_reducible refine w_notV ?_) | (with_reducible refine w_tif ?_) | (with_reducible refine w_callS ?_) | (with_reducible refine w_for ?_)
  | (with_reducible refine w_par ?_) | (with_reducible refine w_par2 ?_) | (with_reducible refine w_retN ?_) | (with_reducible refine w_brk ?_) | (with_reducible refine w_cont ?_)
  | ((with_reducible refine' w_aug ?hx ?_); (case hx => exact rfl)) | (with_reducible refine w_ipsI ?_)
  | (with_reducible refine w_is_int_dict ?_) | (with_reducible refine w_is_int_list ?_) | (with_reducible refine w_is_int_tuple ?_) | (with_reducible refine w_is_int_str ?_) | (with_reducible refine w_is_int_int ?_) | (with_reducible refine w_is_int_bool ?_) | (with_reducible refine w_is_bool_dict ?_) | (with_reducible refine w_is_bool_list ?_) | (with_reducible refine w_is_bool_tuple ?_) | (with_reducible refine w_is_bool_str ?_) | (with_reducible refine w_is_bool_int ?_) | (with_reducible refine w_is_bool_bool ?_) | (with_reducible refine w_is_str_dict ?_) | (with_reducible refine w_is_str_list ?_) | (with_reducible refine w_is_str_tuple ?_) | (with_reducible refine w_is_str_str ?_) | (with_reducible refine w_is_str_int ?_) | (with_reducible refine w_is_str_bool ?_)
  | (with_reducible refine w_ifT ?_) | (with_reducible refine w_ifF ?_) | (with_reducible refine w_ifNF ?_) | (with_reducible refine w_ifNT ?_)
  | (with_reducible refine w_tys ?_) | (with_reducible refine w_chain ?_) | (with_reducible refine w_ost ?_) | (with_reducible refine w_vei ?_) | (with_reducible refine w_rzO ?_) | (with_reducible refine w_fld ?_) | (with_reducible refine w_sfld ?_) | (with_reducible refine w_afld ?_) | (with_reducible refine w_meth ?_) | (with_reducible refine w_make ?_) | (with_reducible refine w_rz ?_) | (with_reducible refine w_rAdd ?_) | (with_reducible refine w_rSub ?_) | (with_reducible refine w_max2 ?_) | (with_reducible refine w_lc ?_) | (with_reducible refine w_zip ?_) | (with_reducible refine w_seqv ?_) | (with_reducible refine w_rng1 ?_) | (with_reducible refine w_rng2 ?_) | (with_reducible refine w_rng3 ?_) | (with_reducible refine w_enum ?_) | (with_reducible refine w_rev ?_))
local macro_rules | `(tactic| walk_at "go") => `(tactic| repeat (walk_at "s1"))
/- _law_same: 0 _law_found, 1 _law_due, 2 _law_name, 3 _law_one, 4 _law_other -/
def t_same (K : PySem.W.Frag) (s_same_ : Sp) : TS :=
      (tSeq (tIfS (tTest (tOp (rIsN) (tVar 1) (tC .non)))
      (tRet (tOp (rIsN) (tVar 0) (tC .non)))
      tNext)
      (tSeq (tIfS (tTru K (tCB (rIsiU K) (tCons (tVar 1) (tCons (tC (.ty "dict")) tNil))))
      (tSeq tNever
      tNever)
      tNext)
      (tSeq (tIfS (tOr (tTru K (tCB (rIsiU K) (tCons (tVar 1) (tCons (tC (.ty "list")) tNil)))) (tTru K (tCB (rIsiU K) (tCons (tVar 1) (tCons (tC (.ty "tuple")) tNil)))))
      (tSeq (tIfS (tTest (tOp (rNeU K) (tCB (rIsiU K) (tCons (tVar 0) (tCons (tC (.ty "list")) tNil))) (tCB (rIsiU K) (tCons (tVar 1) (tCons (tC (.ty "list")) tNil)))))
      (tRet (tC (.bl false)))
      tNext)
      (tSeq (tIfS (tOr (tTest (tOp (rNeU K) (tCB (rIsiU K) (tCons (tVar 0) (tCons (tC (.ty "tuple")) tNil))) (tCB (rIsiU K) (tCons (tVar 1) (tCons (tC (.ty "tuple")) tNil))))) (tTest (tOp (rNeU K) (tCB (rLenU K) (tCons (tVar 0) tNil)) (tCB (rLenU K) (tCons (tVar 1) tNil)))))
      (tRet (tC (.bl false)))
      tNext)
      (tRet (tCB (rAll K) (tCons (tLc (RZ.iZipA K (tCons (tVar 0) (tCons (tVar 1) tNil))) (gTup K 2 (gCons (gName 3) (gCons (gName 4) gNil))) tYes (tCall s_same_ [] E0 (tCons (tVar 3) (tCons (tVar 4) tNil))) [3, 4]) tNil)))))
      tNext)
      (tSeq (tIfS (tTru K (tCB (rIsiU K) (tCons (tVar 1) (tCons (tC (.ty "str")) tNil))))
      (tRet (tAndV (tCB (rIsiU K) (tCons (tVar 0) (tCons (tC (.ty "str")) tNil))) (tOp (rEqU K) (tVar 0) (tVar 1))))
      tNext)
      (tRet (tAndV (tCB (rIsiU K) (tCons (tVar 0) (tCons (tC (.ty "int")) tNil))) (tAndV (tNotV (tCB (rIsiU K) (tCons (tVar 0) (tCons (tC (.ty "bool")) tNil)))) (tOp (rEqU K) (tVar 0) (tVar 1)))))))))
abbrev N_same : List Str := [("_law_found" : Str), ("_law_due" : Str), ("_law_name" : Str), ("_law_one" : Str), ("_law_other" : Str)]

theorem canLayAll_ints : ∀ ns : List Int, PyData.canLayAll0 (ns.map PyData.int) = true
  | [] => rfl
  | n :: r => by
    rw [List.map_cons, PyData.canLayAll0, canLayAll_ints r]
    rfl
theorem depthAll_ints : ∀ ns : List Int, PyData.depthAll (ns.map PyData.int) = 0
  | [] => rfl
  | n :: r => by
    rw [List.map_cons, PyData.depthAll, depthAll_ints r]
    rfl
theorem shaped_dI (ns : List Int) : SeqAt.shaped (dI ns) = true := by
  unfold SeqAt.shaped dI
  rw [PyData.canLay0, PyData.depth, canLayAll_ints, depthAll_ints]
  rfl
theorem eqvAll_ints : ∀ ns ms : List Int, PyData.eqvAll (ns.map PyData.int) (ms.map PyData.int) = decide (ns = ms)
  | [], [] => by simp [PyData.eqvAll]
  | [], _ :: _ => by simp [PyData.eqvAll]
  | _ :: _, [] => by simp [PyData.eqvAll]
  | n :: r, m :: q => by
    rw [List.map_cons, List.map_cons, PyData.eqvAll, eqvAll_ints r q, PyData.eqv]
    by_cases h : n = m
    · subst h; simp
    · simp [h]
theorem eqv_dI (ns ms : List Int) : PyData.eqv (dI ns) (dI ms) = decide (ns = ms) := by
  unfold dI
  rw [PyData.eqv]
  exact eqvAll_ints ns ms
section
variable {H : Hp} {Q : VK} {K : PySem.W.Frag} {σ : L2.St} {a : Addr}
/-- two lists of ints compared -/
theorem w_eqLI {b : Addr} {ns ms : List Int} (ha : H a = some (.lst (ns.map V.int))) (hb : H b = some (.lst (ms.map V.int))) (h : Q (.bl (decide (ns = ms))) H) : rEqU K (.ref a) (.ref b) H Q :=
  w_eqD (dp_ints ha) (dp_ints hb) (shaped_dI _) (shaped_dI _) (by rw [eqv_dI]; exact h)
theorem w_neLI {b : Addr} {ns ms : List Int} (ha : H a = some (.lst (ns.map V.int))) (hb : H b = some (.lst (ms.map V.int))) (h : Q (.bl (!decide (ns = ms))) H) : rNeU K (.ref a) (.ref b) H Q :=
  w_neD (dp_ints ha) (dp_ints hb) (shaped_dI _) (shaped_dI _) (by rw [eqv_dI]; exact h)
theorem w_disp {trs : List (TE × TE)} (h : ∀ p, H p = none → tPairs trs σ (upd H p (.dK [])) fun ps H2 => H2 p = some (.dK []) ∧ ∃ kvs : List (Key × V), ps = kvs.map (fun kv => (kV kv.1, kv.2)) ∧ kvs.length ≤ 15 ∧ Q (.ref p) (upd H2 p (.dK (mergeK [] kvs)))) : tDisp trs σ H Q := h
theorem w_pcons {tk tv : TE} {r : List (TE × TE)} {P : List (V × V) → Hp → Prop} (h : tk σ H fun x H1 => tv σ H1 fun y H2 => tPairs r σ H2 fun ps H3 => P ((x, y) :: ps) H3) : tPairs ((tk, tv) :: r) σ H P := h
theorem w_pnil {P : List (V × V) → Hp → Prop} (h : P [] H) : tPairs [] σ H P := h
theorem cutV_to (xs : List V) (n : Nat) : cutV xs none (some (n : Int)) = xs.take n := by
  unfold cutV
  rw [HT.sIx_none, HT.sIx_nat, List.drop_zero, Nat.sub_zero]
  by_cases h : n ≤ xs.length
  · rw [Nat.min_eq_left h]
  · rw [Nat.min_eq_right (by omega), List.take_of_length_le (Nat.le_refl _), List.take_of_length_le (by omega)]
theorem cutV_from (xs : List V) (n : Nat) : cutV xs (some (n : Int)) none = xs.drop n := by
  unfold cutV
  rw [HT.sIx_none, HT.sIx_nat]
  by_cases h : n ≤ xs.length
  · rw [Nat.min_eq_left h, List.take_of_length_le (by rw [List.length_drop]; exact Nat.le_refl _)]
  · rw [Nat.min_eq_right (by omega), Nat.sub_self, List.take_zero, List.drop_of_length_le (by omega)]
end
/-- _law_begin -/
def spBegin (K : PySem.W.Frag) : Sp := fun vs H Q _ => ∃ (s : Addr) (ns : List Int), vs = [.ref s] ∧ SqL K H s (ns.map V.int) ∧ ns.length ≤ 63 ∧ ∀ a H', LW (2 ^ 50) a [] H H' → Q (.ref a) H'
theorem pure_begin {K : PySem.W.Frag} (vs : List V) (H : Hp) (Q : VK) (E : XK) (h : spBegin K vs H Q E) : t_begin K { nx := fun _ H' => Q .non H', rt := Q } (start N_begin vs) H := by
  obtain ⟨s, ns, rfl, hs, hl, k⟩ := h
  unfold t_begin
  walk_at "go"
  refine w_slL hs fun p hp => ?_
  have e1 : cutV (ns.map V.int) none (some 63) = ns.map V.int := by
    have q := cutV_to (ns.map V.int) 63
    rw [List.take_of_length_le (by rw [List.length_map]; exact hl)] at q
    exact q
  rw [e1]
  have s1 : Same H (upd H p (.lst (ns.map V.int))) := same_new hp
  walk_at "go"
  refine w_listL (SqL.of upd_same) fun c hc => ?_
  have s2 := s1.trans (same_new (o := .lst (ns.map V.int)) hc)
  have c2 : upd (upd H p (.lst (ns.map V.int))) c (.lst (ns.map V.int)) c = some (.lst (ns.map V.int)) := upd_same
  have hc0 : H c = none := s1.free hc
  revert c2 s2
  generalize upd (upd H p (.lst (ns.map V.int))) c (.lst (ns.map V.int)) = H2
  intro s2 c2
  walk_at "go"
  refine ⟨Nat.zero_le _, fun q hq => ?_⟩
  have s3 := s2.trans (same_new (o := .lst []) hq)
  have c3 := same_new (o := .lst []) hq _ _ c2
  refine w_eqLI (ns := ns) (ms := []) c3 upd_same ?_
  walk_at "go"
  have fin : ∀ (H3 : Hp) (c' : Addr) (ms : List Int), Same H H3 → H c' = none → H3 c' = some (.lst (ms.map V.int)) → 0 < ms.length → ∀ p, H3 p = none → Q (.ref p) (upd (upd H3 p (.dK [])) p (.dK (mergeK [] [(.inr "cells", .ref c'), (.inr "turn", .int 0)]))) := by
    intro H3 c' ms s3 h1 h2 h3 p hp
    have e : HO.dK (mergeK [] [(.inr "cells", .ref c'), (.inr "turn", .int 0)]) = stD c' 0 := by
      show HO.dK (putK (putK [] (.inr "cells") (.ref c')) (.inr "turn") (.int 0)) = stD c' 0
      simp [putK, stD, ne_ct]
    rw [e, upd_upd]
    have w := ((Wd.nil (Same.refl H)).own' s3 h1 h2).own (p := p) (o := stD c' 0) hp
    exact k p _ ⟨c', 0, ms, w, h3, by decide, by decide⟩
  refine w_ifd (fun he => ?_) (fun he => ?_)
  · walk_at "go"
    refine ⟨by decide, fun r hr => ?_⟩
    walk_at "go"
    refine w_disp fun p hp => ?_
    refine w_pcons ?_
    walk_at "go"
    refine w_pcons ?_
    walk_at "go"
    refine w_pnil ?_
    exact ⟨upd_same, [(.inr "cells", .ref r), (.inr "turn", .int 0)], rfl, by show 2 ≤ 15; decide, fin _ r [7] (s3.trans (same_new hr)) (s3.free hr) upd_same (by decide) p hp⟩
  · walk_at "go"
    refine w_disp fun p hp => ?_
    refine w_pcons ?_
    walk_at "go"
    refine w_pcons ?_
    walk_at "go"
    refine w_pnil ?_
    refine ⟨upd_same, [(.inr "cells", .ref c), (.inr "turn", .int 0)], rfl, by show 2 ≤ 15; decide, fin _ c ns s3 hc0 c3 ?_ p hp⟩
    cases ns with
    | nil => exact absurd rfl he
    | cons _ _ => exact Nat.succ_pos _
/-! ### _law_same -/
/-- data that _law_same knows, at most n deep -/
def okD : Nat → PyData → Bool
  | 0, _ => false
  | _ + 1, .none => true
  | _ + 1, .int _ => true
  | _ + 1, .str _ => true
  | n + 1, .list ds => decide (ds.length ≤ 16777216) && ds.all (okD n)
  | n + 1, .tuple ds => decide (ds.length ≤ 16777216) && ds.all (okD n)
  | _ + 1, .bool _ => false
  | _ + 1, .dict _ => false
def spSame (K : PySem.W.Frag) (n : Nat) : Sp := fun vs H Q _ => ∃ (x y : V) (d : PyData), vs = [x, y] ∧ Dp K H x d ∧ Dp K H y d ∧ okD n d = true ∧ ∀ H', Same H H' → Q (.bl true) H'
theorem all_rep (n : Nat) : (List.replicate n true).all id = true := by
  induction n with
  | zero => rfl
  | succ n ih => rw [List.replicate_succ, List.all_cons, ih]; rfl
theorem pure_same {K : PySem.W.Frag} {n : Nat} (vs : List V) (H : Hp) (Q : VK) (E : XK) (h : spSame K (n + 1) vs H Q E) : t_same K (spSame K n) { nx := fun _ H' => Q .non H', rt := Q } (start N_same vs) H := by
  obtain ⟨x, y, d, rfl, hx, hy, hd, k⟩ := h
  unfold t_same
  have zip_turn : ∀ (ds : List PyData) (xs ys : List V), DpAll K H xs ds → DpAll K H ys ds → ds.all (okD n) = true → ∀ (σ : L2.St) (i : Nat) (u : V) (D : Addr) (Hi H' : Hp), H D = none → Same H Hi → Hi D = some (.lst (List.replicate i (.bl true))) → i < ds.length → ds.length ≤ 16777216 → σ.length = 5 →
      YPair (fun i => xs[i]?) (fun i => ys[i]?) i Hi u H' → (gTup K 2 (gCons (gName 3) (gCons (gName 4) gNil))) u (wipe σ [3, 4]) H' fun σ2 H2 => wipe σ2 [3, 4] = wipe σ [3, 4] ∧ tYes σ2 H2 fun b H3 =>
        if b = true then (tCall (spSame K n) [] E0 (tCons (tVar 3) (tCons (tVar 4) tNil))) σ2 H3 fun y H4 => ∃ acc, H4 D = some (.lst acc) ∧ acc.length < sizeLine ∧ (Same H (upd H4 D (.lst (acc ++ [y]))) ∧ upd H4 D (.lst (acc ++ [y])) D = some (.lst (List.replicate (i + 1) (.bl true)))) else (Same H H3 ∧ H3 D = some (.lst (List.replicate (i + 1) (.bl true)))) := by
    intro ds xs ys ax ay ok σ i u D Hi H' hD si hi hlt hsz hσ hY
    obtain ⟨T, x1, y1, rfl, hT, rfl, ex, ey⟩ := hY
    have s2 := si.trans (same_new (o := .tup [x1, y1]) hT)
    have d2 := same_new (o := .tup [x1, y1]) hT _ _ hi
    refine w_gtup (SqT.of upd_same) rfl ?_
    obtain ⟨s0, s1, s2', s3, s4, rfl⟩ : ∃ s0 s1 s2' s3 s4, σ = [s0, s1, s2', s3, s4] := by
      match σ, hσ with
      | [s0, s1, s2', s3, s4], _ => exact ⟨s0, s1, s2', s3, s4, rfl⟩
    walk_at "go"
    refine ⟨rfl, ?_⟩
    walk_at "go"
    have hd1 : ds[i]? = some ds[i] := List.getElem?_eq_getElem hlt
    refine ⟨x1, y1, ds[i], rfl, dp_mono s2 _ _ (dpAll_get ax ex hd1), dp_mono s2 _ _ (dpAll_get ay ey hd1), List.all_eq_true.mp ok _ (List.getElem_mem hlt), fun H4 s4 => ?_⟩
    refine ⟨_, s4 _ _ d2, by rw [List.length_replicate]; exact sz_lt (by omega), same_mut (s2.trans s4) hD, ?_⟩
    rw [upd_same, List.replicate_succ']
  cases hx with
  | non =>
    cases hy
    walk_at "go"
    exact k _ (Same.refl _)
  | bl b => exact absurd hd (by simp [okD])
  | int i =>
    cases hy
    walk_at "go"
    rw [decide_eq_true rfl]
    exact k _ (Same.refl _)
  | str z =>
    cases hy
    walk_at "go"
    rw [decide_eq_true rfl]
    exact k _ (Same.refl _)
  | @lst a xs ds ha ax =>
    cases hy with
    | @lst b ys _ hb ay =>
      walk_at "go"
      refine w_is_list_dict hb ?_
      walk_at "go"
      refine w_is_list_list hb ?_
      walk_at "go"
      refine w_is_list_list ha ?_
      walk_at "go"
      refine w_is_list_list hb ?_
      walk_at "go"
      refine w_neBf rfl ?_
      walk_at "go"
      refine w_is_list_tuple ha ?_
      walk_at "go"
      refine w_is_list_tuple hb ?_
      walk_at "go"
      refine w_neBf rfl ?_
      walk_at "go"
      refine w_lenL ha ?_
      walk_at "go"
      refine w_lenL hb ?_
      walk_at "go"
      have lx := dpAll_len ax
      have ly := dpAll_len ay
      refine w_ifn (fun q => absurd (by rw [lx, ly]) q) (fun _ => ?_)
      walk_at "go"
      refine w_itZL ha hb ?_
      intro D hD
      have hz : ds.length ≤ 16777216 ∧ ds.all (okD n) = true := by simpa [okD] using hd
      refine lc_it (walk_zip (xs := xs) (ys := ys) (n := ds.length) (by omega)) (fun i H' => Same H H' ∧ H' D = some (.lst (List.replicate i (.bl true)))) ⟨same_new hD, upd_same⟩ (fun i H' _ p => ⟨same_l p.1 ha, same_l p.1 hb⟩) (fun i u Hi H' hi p y => ?_) (fun H' p => ?_)
      · exact zip_turn ds xs ys ax ay hz.2 _ i u D Hi H' hD p.1 p.2 hi hz.1 rfl y
      · walk_at "go"
        refine w_all (bs := List.replicate ds.length true) (SqL.of (by rw [p.2, List.map_replicate])) ?_
        rw [all_rep]
        exact k _ p.1
  | @tup a xs ds ha ax =>
    cases hy with
    | @tup b ys _ hb ay =>
      walk_at "go"
      refine w_is_tuple_dict hb ?_
      walk_at "go"
      refine w_is_tuple_list hb ?_
      walk_at "go"
      refine w_is_tuple_tuple hb ?_
      walk_at "go"
      refine w_is_tuple_list ha ?_
      walk_at "go"
      refine w_is_tuple_list hb ?_
      walk_at "go"
      refine w_neBf rfl ?_
      walk_at "go"
      refine w_is_tuple_tuple ha ?_
      walk_at "go"
      refine w_is_tuple_tuple hb ?_
      walk_at "go"
      refine w_neBf rfl ?_
      walk_at "go"
      refine w_lenT ha ?_
      walk_at "go"
      refine w_lenT hb ?_
      walk_at "go"
      have lx := dpAll_len ax
      have ly := dpAll_len ay
      refine w_ifn (fun q => absurd (by rw [lx, ly]) q) (fun _ => ?_)
      walk_at "go"
      refine w_itZT ha hb ?_
      intro D hD
      have hz : ds.length ≤ 16777216 ∧ ds.all (okD n) = true := by simpa [okD] using hd
      refine lc_it (walk_zipT (xs := xs) (ys := ys) (n := ds.length) (by omega)) (fun i H' => Same H H' ∧ H' D = some (.lst (List.replicate i (.bl true)))) ⟨same_new hD, upd_same⟩ (fun i H' _ p => ⟨same_t p.1 ha, same_t p.1 hb⟩) (fun i u Hi H' hi p y => ?_) (fun H' p => ?_)
      · exact zip_turn ds xs ys ax ay hz.2 _ i u D Hi H' hD p.1 p.2 hi hz.1 rfl y
      · walk_at "go"
        refine w_all (bs := List.replicate ds.length true) (SqL.of (by rw [p.2, List.map_replicate])) ?_
        rw [all_rep]
        exact k _ p.1
end Ps

/-! PsF: loops, whatever is walked. -/
namespace Ps
open PySem PySem.Spec PyProof.Rows L2
/-- a list or a tuple -/
def Sq (K : PySem.W.Frag) (H : Hp) (a : Addr) (xs : List V) : Prop := SqL K H a xs ∨ SqT K H a xs
section
variable {K : PySem.W.Frag} {H H' Hi H4 : Hp} {a b D p : Addr} {xs ys vs : List V} {R : It → Hp → Prop} {v y : V} {i n : Nat}
theorem Sq.same (s : Same H H') (h : Sq K H a xs) : Sq K H' a xs := h.elim (fun h => .inl (same_l s h)) fun h => .inr (same_t s h)
theorem Sq.l (h : H a = some (.lst xs)) : Sq K H a xs := .inl (SqL.of h)
theorem Sq.t (h : H a = some (.tup xs)) : Sq K H a xs := .inr (SqT.of h)
theorem w_it (ha : Sq K H a xs) (h : ∀ J, Walk J xs.length (Same H) (YAt xs) → R J H) : SeqK K R (.ref a) H := by
  rcases ha with ha | ha
  · exact w_itL ha (h _ (walk_list.mono (fun _ s => same_l s ha) fun _ _ _ _ _ _ y => y))
  · exact w_itT ha (h _ (walk_tup.mono (fun _ s => same_t s ha) fun _ _ _ _ _ _ y => y))
theorem w_itE (ha : Sq K H a xs) (h : ∀ J, Walk J xs.length (Same H) (YPair (fun i => some (.int (i : Nat))) fun i => xs[i]?) → R J H) : EnumK K R [.ref a] H := by
  rcases ha with ha | ha
  · exact w_itEL ha (h _ (walk_enum.mono (fun _ s => same_l s ha) fun _ _ _ _ _ _ y => y))
  · exact w_itET ha (h _ (walk_enumT.mono (fun _ s => same_t s ha) fun _ _ _ _ _ _ y => y))
theorem w_itV (ha : Sq K H a xs) (h : ∀ J, Walk J xs.length (Same H) (fun i H x H' => H' = H ∧ xs[xs.length - 1 - i]? = some x) → R J H) : RevK K R (.ref a) H := by
  rcases ha with ha | ha
  · exact w_itVL ha (h _ (walk_rev.mono (fun _ s => same_l s ha) fun _ _ _ _ _ _ y => y))
  · refine w_itVT ha (h _ ⟨fun i _ hi s => ⟨hi, xs, xs[xs.length - 1 - i]'(by omega), same_t s ha, by simp [show xs.length - 1 - i < xs.length by omega]⟩, fun _ _ => Nat.le_refl _, fun _ _ _ _ _ s y => ⟨y.1, y.2 xs (same_t s ha)⟩⟩)
theorem w_itZ (ha : SqL K H a xs ∧ SqL K H b ys ∨ SqT K H a xs ∧ SqT K H b ys) (hn : n = min xs.length ys.length) (h : ∀ J, Walk J n (Same H) (YPair (fun i => xs[i]?) fun i => ys[i]?) → R J H) : ZipK K R [.ref a, .ref b] H := by
  rcases ha with ⟨ha, hb⟩ | ⟨ha, hb⟩
  · exact w_itZL ha hb (h _ ((walk_zip hn).mono (fun _ s => ⟨same_l s ha, same_l s hb⟩) fun _ _ _ _ _ _ y => y))
  · exact w_itZT ha hb (h _ ((walk_zipT hn).mono (fun _ s => ⟨same_t s ha, same_t s hb⟩) fun _ _ _ _ _ _ y => y))
theorem w_len (ha : Sq K H a xs) {Q : VK} (h : Q (.int xs.length) H) : rLenU K [.ref a] H Q := ha.elim (fun ha => w_lenL ha h) fun ha => w_lenT ha h
theorem w_ix (ha : Sq K H a xs) {Q : VK} {j : Int} (hj : atI xs j = some v) (h : Q v H) : rIxU K (.ref a) (.int j) H Q := ha.elim (fun ha => w_ixL ha hj h) fun ha => w_ixT ha hj h
theorem w_list (ha : Sq K H a xs) {Q : VK} (h : ∀ p, H p = none → Q (.ref p) (upd H p (.lst xs))) : rListU K [.ref a] H Q := ha.elim (fun ha => w_listL ha h) fun ha => w_listT ha h
/-- a comprehension's list so far: the first i of vs -/
def LcP (H : Hp) (D : Addr) (vs : List V) (i : Nat) (H' : Hp) : Prop := Same H H' ∧ H' D = some (.lst (vs.take i))
theorem lc_go (hD : H D = none) : LcP H D vs 0 (upd H D (.lst [])) := ⟨same_new hD, by rw [upd_same, List.take_zero]⟩
theorem take_snoc {α : Type} : ∀ {l : List α} {i : Nat} {x : α}, l[i]? = some x → l.take (i + 1) = l.take i ++ [x] := fun {l i x} h => by
  rw [List.take_add_one, h]
  rfl
theorem lc_fin (hD : H D = none) (p : LcP H D vs i Hi) (s : Same Hi H4) (e : vs[i]? = some y) (hi : i < 16777216) : ∃ acc, H4 D = some (.lst acc) ∧ acc.length < sizeLine ∧ LcP H D vs (i + 1) (upd H4 D (.lst (acc ++ [y]))) :=
  ⟨_, s _ _ p.2, sz_lt (by rw [List.length_take]; omega), same_mut (p.1.trans s) hD, by rw [upd_same, take_snoc e]⟩
theorem lc_end (p : LcP H D vs n H') (hn : vs.length ≤ n) : H' D = some (.lst vs) := by rw [p.2, List.take_of_length_le hn]
theorem int_at {ns : List Int} {i : Nat} {y : V} (h : (ns.map V.int)[i]? = some y) : ∃ b, ns[i]? = some b ∧ y = .int b := by
  rw [List.getElem?_map] at h
  cases e : ns[i]? with
  | none => rw [e] at h; cases h
  | some b => rw [e] at h; exact ⟨b, rfl, (Option.some.inj h).symm⟩
theorem at_int {ns : List Int} {i : Nat} {b : Int} (h : ns[i]? = some b) : (ns.map V.int)[i]? = some (.int b) := by rw [List.getElem?_map, h]; rfl
end
/-- a range -/
theorem w_rg {H : Hp} {R : It → Hp → Prop} {n : Nat} (hn : n < 2 ^ 62) (h : ∀ J, Walk J n (fun _ => True) (YFn fun i => .int (i : Nat)) → R J H) : Rng1K R [.int (n : Int)] H := by
  refine w_itR (by omega) (by omega) (h _ ?_)
  rw [Int.toNat_natCast]
  exact walk_range.mono (fun _ s => s) fun i H x H' _ _ y => ⟨y.1, by
    rw [y.2]
    show V.int (0 + (i : Int)) = V.int i
    rw [Int.zero_add]⟩
theorem w_rg2 {H : Hp} {R : It → Hp → Prop} {lo : Int} {n : Nat} {hi : Int} (h1 : -(2 ^ 62) ≤ lo ∧ lo < 2 ^ 62 ∧ -(2 ^ 62) ≤ hi ∧ hi < 2 ^ 62) (hn : n = (hi - lo).toNat) (h : ∀ J, Walk J n (fun _ => True) (YFn fun i => .int (lo + (i : Nat))) → R J H) : Rng2K R [.int lo, .int hi] H := by
  refine w_itR2 h1 ?_
  rw [← hn]
  exact h _ walk_range
theorem fn_no {P : Program} {w : World} {K : PySem.W.Frag} {mg : Str → Option Value} {base : Heap} {CX : CXT} {k : Nat} {f : Addr} {fd : FuncData} {ps : List Str} {sp : Sp} (h : ∀ vs H Q E, ¬ sp vs H Q E) : FnOk P w K mg base CX k f fd ps sp :=
  ⟨fun vs H Q E q => (h _ _ _ _ q).elim, fun _ _ _ _ _ _ _ _ _ _ _ _ _ q => (h _ _ _ _ q).elim⟩
theorem same_no {K : PySem.W.Frag} (vs : List V) (H : Hp) (Q : VK) (E : XK) : ¬ spSame K 0 vs H Q E := by
  rintro ⟨x, y, d, _, _, _, hd, _⟩
  cases hd
/-! ### the law's world at a call -/
section
variable {m : Nat} {a l : Addr} {R : List (Addr × HO)} {G H : Hp} {o : HO} {n : Int} {Q : VK} {E : XK} {K : PySem.W.Frag}
theorem LW.at (h : LW m a R G H) (q : (l, o) ∈ R) : H l = some o := by
  obtain ⟨c, t, ns, w, r⟩ := h
  exact w.mem (List.mem_cons_of_mem _ (List.mem_cons_of_mem _ q))
theorem LW.sd {x : Addr × HO} (h : LW m a (x :: (l, o) :: R) G H) : H l = some o := h.at (List.mem_cons_of_mem _ List.mem_cons_self)
theorem LW.td {x y : Addr × HO} (h : LW m a (x :: y :: (l, o) :: R) G H) : H l = some o := h.at (List.mem_cons_of_mem _ (List.mem_cons_of_mem _ List.mem_cons_self))
theorem LW.perm {R' : List (Addr × HO)} (h : LW m a R G H) (p : R'.Perm R) : LW m a R' G H := by
  obtain ⟨c, t, ns, w, r⟩ := h
  exact ⟨c, t, ns, w.perm ((p.cons _).cons _), r⟩
theorem w_take (lw : LW (m + 1) a R G H) (h0 : 0 < n) (h1 : n < 2 ^ 62) (k : ∀ v H', LW m a R G H' → 0 ≤ v → v < n → Q (.int v) H') : spTake ([.ref a, .int n] ++ []) H Q E :=
  ⟨m, a, n, R, G, rfl, lw, h0, h1, k⟩
theorem w_same {x y : V} {d : PyData} {n : Nat} (hx : Dp K H x d) (hy : Dp K H y d) (hd : okD n d = true) (k : ∀ H', Same H H' → Q (.bl true) H') : spSame K n ([x, y] ++ []) H Q E := ⟨x, y, d, rfl, hx, hy, hd, k⟩
theorem w_begin {ns : List Int} (hs : SqL K H a (ns.map V.int)) (hn : ns.length ≤ 63) (k : ∀ a H', LW (2 ^ 50) a [] H H' → Q (.ref a) H') : spBegin K ([.ref a] ++ []) H Q E := ⟨a, ns, rfl, hs, hn, k⟩
end
/-- a written list of ints, at a place that is drawn -/
theorem at_lit (l : List Int) {v : Int} (h0 : 0 ≤ v) (h1 : v < l.length) : ∃ z, z ∈ l ∧ atI (l.map V.int) v = some (.int z) := by
  obtain ⟨j, rfl⟩ : ∃ j : Nat, v = (j : Int) := ⟨v.toNat, by omega⟩
  have hj : j < l.length := by omega
  exact ⟨l[j], List.getElem_mem hj, atI_nat (by rw [List.getElem?_map, List.getElem?_eq_getElem hj]; rfl)⟩
theorem okD_ints (n : Nat) (ns : List Int) (h : ns.length ≤ 16777216) : okD (n + 2) (dI ns) = true := by
  unfold dI
  simp only [okD, Bool.and_eq_true, decide_eq_true_eq, List.length_map]
  refine ⟨h, List.all_eq_true.mpr fun d hd => ?_⟩
  obtain ⟨z, _, rfl⟩ := List.mem_map.mp hd
  rfl
/-- what the law asks -/
def spLaw (K : PySem.W.Frag) : Sp := fun vs H Q _ => ∃ (a : Addr) (ns : List Int), vs = [.ref a] ∧ SqL K H a (ns.map V.int) ∧ ns.length ≤ 63 ∧ ∀ H', Q (.bl true) H'
end Ps

/-! PsG: while loops; walks over lists while the heap changes elsewhere; slices from the end. -/
namespace Ps
open PySem PySem.Spec PyProof.Rows L2
section
variable {K : PySem.W.Frag} {H H' H1 Hi H4 : Hp} {a b D p : Addr} {xs ys vs : List V} {R : It → Hp → Prop} {v y : V} {i n m : Nat}
theorem w_while {c : TT} {tb : TS} {D : Ends} {σ : L2.St} (W : Nat → L2.St → Hp → Prop) (m : Nat) (h0 : W m σ H)
    (hs : ∀ m σ H, W m σ H → c σ H fun b H1 => if b = true then ∃ N : L2.St → Hp → Prop, (∀ σ' H', N σ' H' → ∃ m', m' < m ∧ W m' σ' H') ∧ tb { D with nx := N, ct := N, bk := D.nx } σ H1 else D.nx σ H1) : tWhile c tb D σ H := ⟨W, ⟨m, h0⟩, hs⟩
theorem w_loop {tb : TS} {D : Ends} {σ : L2.St} {W : Nat → L2.St → Hp → Prop}
    (h : tb { D with nx := fun σ' H' => ∃ m', m' < m ∧ W m' σ' H', ct := fun σ' H' => ∃ m', m' < m ∧ W m' σ' H', bk := D.nx } σ H1) : ∃ N : L2.St → Hp → Prop, (∀ σ' H', N σ' H' → ∃ m', m' < m ∧ W m' σ' H') ∧ tb { D with nx := N, ct := N, bk := D.nx } σ H1 :=
  ⟨_, fun _ _ q => q, h⟩
theorem w_itML (ha : H a = some (.lst xs)) (h : ∀ J, Walk J xs.length (fun H' => H' a = some (.lst xs)) (YAt xs) → R J H) : SeqK K R (.ref a) H :=
  w_itL (SqL.of ha) (h _ (walk_list.mono (fun _ s => SqL.of s) fun _ _ _ _ _ _ y => y))
theorem w_itMT (ha : H a = some (.tup xs)) (h : ∀ J, Walk J xs.length (fun H' => H' a = some (.tup xs)) (YAt xs) → R J H) : SeqK K R (.ref a) H :=
  w_itT (SqT.of ha) (h _ (walk_tup.mono (fun _ s => SqT.of s) fun _ _ _ _ _ _ y => y))
theorem w_itME (ha : H a = some (.lst xs)) (h : ∀ J, Walk J xs.length (fun H' => H' a = some (.lst xs)) (YPair (fun i => some (.int (i : Nat))) fun i => xs[i]?) → R J H) : EnumK K R [.ref a] H :=
  w_itEL (SqL.of ha) (h _ (walk_enum.mono (fun _ s => SqL.of s) fun _ _ _ _ _ _ y => y))
theorem w_itMZ (ha : H a = some (.lst xs)) (hb : H b = some (.lst ys)) (hn : n = min xs.length ys.length) (h : ∀ J, Walk J n (fun H' => H' a = some (.lst xs) ∧ H' b = some (.lst ys)) (YPair (fun i => xs[i]?) fun i => ys[i]?) → R J H) : ZipK K R [.ref a, .ref b] H :=
  w_itZL (SqL.of ha) (SqL.of hb) (h _ ((walk_zip hn).mono (fun _ s => ⟨SqL.of s.1, SqL.of s.2⟩) fun _ _ _ _ _ _ y => y))
/-- a row of an earlier heap is walked while newer things change -/
theorem w_itB {H0 : Hp} (s : Same H0 H) (ha : Sq K H0 a xs) (h : ∀ J, Walk J xs.length (Same H0) (YAt xs) → R J H) : SeqK K R (.ref a) H := by
  rcases ha with ha | ha
  · exact w_itL (same_l s ha) (h _ (walk_list.mono (fun _ s => same_l s ha) fun _ _ _ _ _ _ y => y))
  · exact w_itT (same_t s ha) (h _ (walk_tup.mono (fun _ s => same_t s ha) fun _ _ _ _ _ _ y => y))
theorem w_itEB {H0 : Hp} (s : Same H0 H) (ha : Sq K H0 a xs) (h : ∀ J, Walk J xs.length (Same H0) (YPair (fun i => some (.int (i : Nat))) fun i => xs[i]?) → R J H) : EnumK K R [.ref a] H := by
  rcases ha with ha | ha
  · exact w_itEL (same_l s ha) (h _ (walk_enum.mono (fun _ s => same_l s ha) fun _ _ _ _ _ _ y => y))
  · exact w_itET (same_t s ha) (h _ (walk_enumT.mono (fun _ s => same_t s ha) fun _ _ _ _ _ _ y => y))
theorem w_itVB {H0 : Hp} (s : Same H0 H) (ha : Sq K H0 a xs) (h : ∀ J, Walk J xs.length (Same H0) (fun i H x H' => H' = H ∧ xs[xs.length - 1 - i]? = some x) → R J H) : RevK K R (.ref a) H := by
  rcases ha with ha | ha
  · exact w_itVL (same_l s ha) (h _ (walk_rev.mono (fun _ s => same_l s ha) fun _ _ _ _ _ _ y => y))
  · refine w_itVT (same_t s ha) (h _ ⟨fun i _ hi s => ⟨hi, xs, xs[xs.length - 1 - i]'(by omega), same_t s ha, by simp [show xs.length - 1 - i < xs.length by omega]⟩, fun _ _ => Nat.le_refl _, fun _ _ _ _ _ s y => ⟨y.1, y.2 xs (same_t s ha)⟩⟩)
end
/-- what comes behind an if, as a wish of its own: both ways end in it -/
theorem w_ifO {c : Prop} [Decidable c] {t u : TS} {N B C : L2.St → Hp → Prop} {r : VK} {σ : L2.St} {H : Hp} (h : ∀ P : L2.St → Hp → Prop, (∀ σ H, N σ H → P σ H) → if c then t ⟨P, r, B, C⟩ σ H else u ⟨P, r, B, C⟩ σ H) : if c then t ⟨N, r, B, C⟩ σ H else u ⟨N, r, B, C⟩ σ H := h N fun _ _ q => q
theorem w_seqO {t u : TS} {D : Ends} {σ : L2.St} {H : Hp} (h : ∀ P : L2.St → Hp → Prop, (∀ σ H, u D σ H → P σ H) → t ⟨P, D.rt, D.bk, D.ct⟩ σ H) : tSeq t u D σ H := h _ fun _ _ q => q
theorem w_ifK {c : Prop} [Decidable c] {A B : L2.VK → Prop} {Q : L2.VK} (h : ∀ P : L2.VK, (∀ v H, Q v H → P v H) → if c then A P else B P) : if c then A Q else B Q := h Q fun _ _ q => q
theorem sIx_none (n d : Nat) : HT.sIx n d none = d := rfl
theorem w_slSq {K : PySem.W.Frag} {H : Hp} {a : Addr} {xs : List V} {lo hi : Option Int} {Q : VK} (ha : Sq K H a xs) (h : ∀ b H', Same H H' → Sq K H' b (cutV xs lo hi) → Q (.ref b) H') : rSlU K (.ref a) lo hi H Q := by
  rcases ha with ha | ha
  · exact w_slL ha fun p hp => h p _ (same_new hp) (.inl (SqL.of upd_same))
  · refine .inl (.inr ⟨a, xs, rfl, ha, fun hw => h a H (Same.refl _) (.inr ?_), fun _ p hp => h p _ (same_new hp) (.inr (SqT.of upd_same))⟩)
    unfold cutV
    rw [hw.1, hw.2, List.drop_zero, Nat.sub_zero, List.take_length]
    exact ha
theorem sIx_m1 {n : Nat} (d : Nat) : HT.sIx (n + 1) d (some (-1)) = n := by
  unfold HT.sIx
  simp
  omega
theorem cutV_front {xs : List V} {x : V} : cutV (xs ++ [x]) none (some (-1)) = xs := by
  unfold cutV
  rw [List.length_append, List.length_singleton, sIx_m1]
  have e : HT.sIx (xs.length + 1) 0 none = 0 := rfl
  rw [e, List.drop_zero, Nat.sub_zero, List.take_left]
theorem cutV_last {xs : List V} {x : V} : cutV (xs ++ [x]) (some (-1)) none = [x] := by
  unfold cutV
  rw [List.length_append, List.length_singleton, sIx_m1]
  have e : HT.sIx (xs.length + 1) (xs.length + 1) none = xs.length + 1 := rfl
  rw [e, List.drop_left, Nat.add_sub_cancel_left]
  rfl
theorem sIx_nat {n d j : Nat} : HT.sIx n d (some (j : Int)) = min j n := by
  unfold HT.sIx
  simp
  intro h
  omega
theorem cutV_mid (xs : List V) (i j : Nat) : cutV xs (some (i : Int)) (some (j : Int)) = (xs.drop i).take (j - i) := by
  unfold cutV
  rw [sIx_nat, sIx_nat]
  by_cases c : i ≤ xs.length
  · rw [Nat.min_eq_left c]
    by_cases c2 : j ≤ xs.length
    · rw [Nat.min_eq_left c2]
    · rw [Nat.min_eq_right (by omega), List.take_of_length_le (by rw [List.length_drop]; omega), List.take_of_length_le (by rw [List.length_drop]; omega)]
  · rw [Nat.min_eq_right (show xs.length ≤ i by omega), List.drop_eq_nil_of_le (Nat.le_refl xs.length), List.drop_eq_nil_of_le (show xs.length ≤ i by omega)]
    simp
/-- range(0, n, c) -/
def RngCK (R : It → Hp → Prop) (vs : List V) (H1 : Hp) : Prop := ∃ (i j c : Int) (n : Nat), vs = [.int i, .int j, .int c] ∧ RgC i j c n ∧ R (Itc i c n) H1
theorem w_rng3 {ta : TA} {σ : L2.St} {H : Hp} {R : It → Hp → Prop} (h : ta σ H fun vs H1 => RngCK R vs H1) : iRng3 ta σ H R := h
theorem rgC_up {n c k : Nat} (hn : n < 2 ^ 61) (h0 : 0 < c) (h1 : c < 1073741824) (hk : k = (n + c - 1) / c) : RgC 0 n c k := by
  have hs : Builtin.Range.rangeSize 0 n c = k := by
    rw [rangeSize_pos (by omega) (by omega), hk]
    push_cast
    rw [Int.ofNat_sub (by omega)]
    push_cast
    rfl
  have hb : (k : Int) * c ≤ n + c := by
    have := Nat.div_mul_le_self (n + c - 1) c
    rw [← hk] at this
    have h2 : ((k * c : Nat) : Int) ≤ n + c := by omega
    rw [Int.natCast_mul] at h2
    exact h2
  refine ⟨by omega, by omega, ?_, hs⟩
  unfold Builtin.Range.small
  rw [hs]
  simp only [Builtin.Range.rangeFitsLong, Bool.and_eq_true, Bool.or_eq_true, decide_eq_true_eq, beq_iff_eq, show (c : Int) > 0 by omega, if_true]
  have hk2 : k ≤ n + c := by
    rw [hk]
    exact Nat.le_trans (Nat.div_le_self _ _) (by omega)
  omega
theorem w_rg3 {H : Hp} {R : It → Hp → Prop} {n c k : Nat} (hn : n < 2 ^ 61) (h0 : 0 < c) (h1 : c < 1073741824) (hk : k = (n + c - 1) / c) (h : ∀ J, Walk J k (fun _ => True) (YFn fun i => .int (((i * c : Nat)) : Int)) → R J H) : RngCK R [.int 0, .int n, .int c] H := by
  refine ⟨_, _, _, k, rfl, rgC_up hn h0 h1 hk, h _ ?_⟩
  exact walk_rangeC.mono (fun _ s => s) fun i H x H' _ _ y => ⟨y.1, by
    rw [y.2]
    show V.int (0 + (i : Int) * c) = V.int ((i * c : Nat) : Int)
    rw [Int.zero_add, Int.natCast_mul]⟩
theorem split_at {α : Type} {l : List α} {i : Nat} {x : α} (h : l[i]? = some x) : ∃ A B, l = A ++ x :: B ∧ A.length = i := by
  obtain ⟨h1, h2⟩ := List.getElem?_eq_some_iff.mp h
  refine ⟨l.take i, l.drop (i + 1), ?_, by rw [List.length_take]; omega⟩
  rw [← h2, List.getElem_cons_drop, List.take_append_drop]
theorem set_mid {α : Type} (A B : List α) (x y : α) : (A ++ x :: B).set A.length y = A ++ y :: B := by
  rw [List.set_append_right _ _ (Nat.le_refl _), Nat.sub_self, List.set_cons_zero]
section
variable {m : Nat} {a l p : Addr} {R : List (Addr × HO)} {G H : Hp} {o o' : HO} {i : Nat}
/-- an owned thing is changed, wherever it stands -/
theorem LW.set (h : LW m a R G H) (e : R[i]? = some (l, o)) : LW m a (R.set i (l, o')) G (upd H l o') := by
  obtain ⟨A, B, rfl, rfl⟩ := split_at e
  rw [set_mid]
  have h1 := h.perm (R' := (l, o) :: (A ++ B)) List.perm_middle.symm
  exact (h1.put (o' := o')).perm List.perm_middle
theorem LW.get (h : LW m a R G H) (e : R[i]? = some (l, o)) : H l = some o := h.at (List.mem_of_getElem? e)
end
end Ps

/-! PsH: walks over a row that stays where it is. -/
namespace Ps
open PySem PySem.Spec PyProof.Rows L2
section
variable {K : PySem.W.Frag} {H H' : Hp} {a : Addr} {xs : List V} {R : It → Hp → Prop}
theorem sql_at (e : H' a = H a) (h : SqL K H a xs) : SqL K H' a xs := h.imp (fun h => by unfold L2.Rd at h ⊢; rw [e]; exact h) id
theorem sqt_at (e : H' a = H a) (h : SqT K H a xs) : SqT K H' a xs := h.imp (fun h => by unfold L2.Rd at h ⊢; rw [e]; exact h) id
theorem Sq.at (h : Sq K H a xs) (e : H' a = H a) : Sq K H' a xs := h.imp (sql_at e) (sqt_at e)
theorem w_itQ (ha : Sq K H a xs) (h : ∀ J, Walk J xs.length (fun H' => H' a = H a) (YAt xs) → R J H) : SeqK K R (.ref a) H := by
  rcases ha with ha | ha
  · exact w_itL ha (h _ (walk_list.mono (fun _ s => sql_at s ha) fun _ _ _ _ _ _ y => y))
  · exact w_itT ha (h _ (walk_tup.mono (fun _ s => sqt_at s ha) fun _ _ _ _ _ _ y => y))
end
theorem w_chain {r r' : R2} {ta tb tc : TE} {σ : L2.St} {H : Hp} {Q : VK} (h : ta σ H fun x H1 => tb σ H1 fun y H2 => r x y H2 fun z H3 => ∃ k, z = .bl k ∧ (if k = true then tc σ H3 fun w' H4 => r' y w' H4 Q else Q (.bl false) H3)) : tChain r r' ta tb tc σ H Q := h
end Ps

/-! PsS: texts: many times one, joined, a sign's place. -/
namespace Ps
open PySem PySem.Spec PyProof.Rows L2
/-- a text k times -/
def repS (z : Str) (k : Nat) : Str := ⟨(List.replicate k z.cps).foldl (· ++ ·) #[]⟩
def rSMul : R2 := fun x y H Q => ∃ (z : Str) (k : Nat), x = .str z ∧ y = .int (k : Int) ∧ 2 ≤ k ∧ z.length ≠ 0 ∧ z.length * k ≤ 16777216 ∧ Q (.str (repS z k)) H
theorem op_smul {X : Cx} : OpR X (binaryOp .Mult) rSMul := by
  intro pins s σ H x y v u Q I rx ry h
  obtain ⟨z, k, rfl, rfl, hk, h0, hz, q⟩ := h
  obtain ⟨t, rfl⟩ := rx
  obtain ⟨t', rfl⟩ := ry
  have hk2 : k ≤ 16777216 := Nat.le_trans (Nat.le_mul_of_pos_left k (by omega)) hz
  have hl : Builtin.Str.tooLong (z.length * k) = false := by
    unfold Builtin.Str.tooLong
    exact decide_eq_false (by rw [sizeLine_eq]; omega)
  refine PySem.P.mul_str (by rw [decide_eq_false (by omega), decide_eq_false (by omega)]; rfl) (fun _ _ => ?_) (fun _ _ => by rw [Int.toNat_natCast]; exact hl) ?_
  · have : (z.length : Int) * k ≤ 16777216 := by
      have h2 : ((z.length * k : Nat) : Int) ≤ 16777216 := by omega
      rw [Int.natCast_mul] at h2
      exact h2
    have := Int.le_ediv_of_mul_le (c := (k : Int)) (a := (z.length : Int)) (b := 2 ^ 63 - 1) (by omega) (by omega)
    omega
  · rw [if_neg (by omega), if_neg (by
      have e1 : ((k : Int) == 1) = false := beq_false_of_ne (by omega)
      have e2 : (z.length == 0) = false := beq_false_of_ne h0
      rw [e1, e2]
      exact Bool.false_ne_true), Int.toNat_natCast]
    exact ⟨PySem.fits_reps hl, ⟨.str (repS z k), H, I.tok _, ⟨_, rfl⟩, q⟩⟩
def rMulT : R2 := fun x y H Q => rMulU x y H Q ∨ rSMul x y H Q
theorem op_mulT {X : Cx} : OpR X (binaryOp .Mult) rMulT := opr_or op_mulU op_smul
def rJoinS (K : PySem.W.Frag) : V → List V → Hp → VK → Prop := fun x xs H Q => ∃ a p, ∃ ys : List Str, x = .str a ∧ xs = [.ref p] ∧ (SqL K H p (ys.map V.str) ∨ SqT K H p (ys.map V.str)) ∧
  (ys.map (·.length)).sum + ys.length * a.length ≤ 16777216 ∧ Q (.str (Txt.join a ys)) H
theorem mt_joinS {X : Cx} : MtR X "str.join" (rJoinS X.K) := mt_join
def rSIdx : V → List V → Hp → VK → Prop := fun x xs H Q => ∃ a b i rest, x = .str a ∧ xs = [.str b] ∧ Builtin.Str.occurrences a b 0 a.length 1 = i :: rest ∧ Q (.int (i : Nat)) H
theorem mt_sidx {X : Cx} : MtR X "str.index" rSIdx := mt_sindex
theorem join_one (cs : List Nat) : Txt.join Str.empty (cs.map fun c => (⟨#[c]⟩ : Str)) = ⟨cs.toArray⟩ := by
  show Builtin.Str.glued Str.empty _ = _
  cases cs with
  | nil => rfl
  | cons c r =>
    have e := PySem.StrLaws.glued_list Str.empty ⟨#[c]⟩ (r.map fun c => (⟨#[c]⟩ : Str))
    have g : ∀ l : List Nat, PySem.StrLaws.glueL [] (l.map fun c => (⟨#[c]⟩ : Str)) = l := fun l => by
      induction l with
      | nil => rfl
      | cons x l ih =>
        show [] ++ ([x] ++ PySem.StrLaws.glueL [] (l.map fun c => (⟨#[c]⟩ : Str))) = _
        rw [ih]; rfl
    have e2 : (Builtin.Str.glued Str.empty ((c :: r).map fun c => (⟨#[c]⟩ : Str))).cps.toList = c :: r := by
      rw [List.map_cons, e]
      show [c] ++ PySem.StrLaws.glueL [] (r.map fun c => (⟨#[c]⟩ : Str)) = _
      rw [g]; rfl
    generalize Builtin.Str.glued Str.empty ((c :: r).map fun c => (⟨#[c]⟩ : Str)) = z at *
    obtain ⟨arr⟩ := z
    congr 1
    rw [← e2]
section
variable {K : PySem.W.Frag} {H : Hp} {Q : VK} {p : Addr}
theorem w_tys {z : Str} {P : Prop} (h : P) : tyV K "str" (.str z) H ∧ P := ⟨rfl, h⟩
theorem w_joinE {cs : List Nat} (ha : H p = some (.lst (cs.map fun c => V.str ⟨#[c]⟩))) (hz : cs.length ≤ 1000000) (h : Q (.str ⟨cs.toArray⟩) H) : rJoinS K (.str Str.empty) [.ref p] H Q := by
  refine ⟨Str.empty, p, cs.map fun c => (⟨#[c]⟩ : Str), rfl, rfl, .inl (SqL.of (by rw [List.map_map]; exact ha)), ?_, ?_⟩
  · have e : ((cs.map fun c => (⟨#[c]⟩ : Str)).map (·.length)).sum = cs.length := by
      have g : ∀ l : List Nat, ((l.map fun c => (⟨#[c]⟩ : Str)).map (·.length)).sum = l.length := fun l => by
        induction l with
        | nil => rfl
        | cons x l ih => rw [List.map_cons, List.map_cons, List.sum_cons, ih, List.length_cons]; show 1 + _ = _; omega
      exact g cs
    rw [e]
    show cs.length + _ * 0 ≤ _
    omega
  · rw [join_one]; exact h
theorem w_mulTI {i j : Int} (hc : CMul i j) (h : Q (.int (i * j)) H) : rMulT (.int i) (.int j) H Q := .inl (w_mulI hc h)
theorem w_smul {z : Str} {k : Nat} (hk : 2 ≤ k) (h0 : z.length ≠ 0) (hz : z.length * k ≤ 16777216) (h : Q (.str (repS z k)) H) : rMulT (.str z) (.int (k : Int)) H Q := .inr ⟨z, k, rfl, rfl, hk, h0, hz, h⟩
theorem w_sidx {a b : Str} {i : Nat} {rest : List Nat} (ho : Builtin.Str.occurrences a b 0 a.length 1 = i :: rest) (h : Q (.int (i : Nat)) H) : rSIdx (.str a) [.str b] H Q := ⟨a, b, i, rest, rfl, rfl, ho, h⟩
end
end Ps

/-! PsY: enumerate over a text, too. -/
namespace Ps
open PySem PySem.Spec PyProof.Rows L2
section
variable {prog : Program} {w : World} {A : Around} {E : Value → Shared → Prop} {s : Shared}
theorem enumS_end {e it : Addr} {z : Str} {t : Tok} {i : Nat} {old : Value} {Q : Option Value → Shared → Prop} (hh : A.handled = none)
    (he : IsEnum s.heap e it i old) (hit : s.heap.IsStrIter it (strIterType z) z t z.cps.size)
    (hQ : ∀ h', Heap.ExtBut it s.heap h' → Q none { s with heap := h' }) : wpAny (model prog w) A (pyNext (.ref e)) Q E s := by
  have hT : s.TypeIs (.ref e) "enumerate" := ⟨_, he, rfl⟩
  unfold pyNext
  refine wpAny_bind (wpAny_attempt (wpAny_callSpecial?_slot (name := Str.ofString "__next__") hT F.slot_enumerate_next
    (wpAny_call_entry F.slot_enumerate_next hT F.entry_enumerate_next ?_ (F.args_enumerate_next_1 _))))
  show wpAny _ _ (field (.ref e) 2 >>= _) _ _ _
  refine wpAny_bind (wpAny_field he rfl (x := .ref it) rfl ?_)
  refine wpAny_bind ((Draws.text (prog := prog) (w := w) (A := A.in1) hh it z t).done _ _ _ hit fun h' x he' hx' => ?_)
  obtain ⟨o, ho, hc⟩ := hx'
  refine wpAny_bind (wpAny_isInstance (T := "StopIteration") (b := true) ⟨o, ho, hc⟩ isSubtype_stop ?_)
  exact wpAny_pure (hQ _ he')
end
def IteS (z : Str) : It :=
  ⟨fun i _ => i < z.cps.size, fun i H v H' => ∃ T c, v = .ref T ∧ H T = none ∧ H' = upd H T (.tup [.int (i : Nat), .str ⟨#[c]⟩]) ∧ z.cps[i]? = some c, fun i _ => i = z.cps.size⟩
theorem turn_enumS {P : Program} {w : World} {K : PySem.W.Frag} {elts : List Expr} {kk : Nat} {tpos : Pos} (z : Str) (t : Tok) (e it : Addr) :
    Turn P w K (.Tuple elts kk tpos) (IteS z) [e, it] e (fun i h => (∃ old, IsEnum h e it ((i : Nat) : Int) old) ∧ h.IsStrIter it (strIterType z) z t i ∧ e ≠ it) where
  mem := by simp
  obj := fun i h st b hb => by
    obtain ⟨⟨old, he⟩, ⟨o, ho, hc, hd⟩, _⟩ := st
    have e' : b = e ∨ b = it := by simpa using hb
    rcases e' with z | z
    · rw [z]; exact ⟨_, he, fun v q => nomatch q⟩
    · rw [z]; exact ⟨o, ho, fun v q => by rw [hd] at q; cases q⟩
  keep := fun i h h' st k => let ⟨⟨old, he⟩, ⟨o, ho, r⟩, hne⟩ := st; ⟨⟨old, k e (by simp) _ he⟩, ⟨o, k it (by simp) o ho, r⟩, hne⟩
  item := by
    intro X hP hw hK hc i pins s σ H E I hf st hg
    subst hP hw hK
    obtain ⟨⟨old, he⟩, hit, hne⟩ := st
    have hel : e < s.heap.objs.size := Heap.lt_size he
    have hil : it < s.heap.objs.size := by obtain ⟨_, q, _⟩ := hit; exact Heap.lt_size q
    refine wpAny_pyNext_enum_itemD (Draws.text (prog := X.prog) (w := X.w) (A := X.A.in1) (I.ok.hd hc) it z t) he hit hg hne (by simp [hne]) fun x' h' tk hx' ho st' hT hsz hk => ?_
    obtain ⟨c, u, hcx, rfl⟩ := hx'
    refine ⟨_, rfl, wpAny_letOwnedTupleGo_enum (s := { s with heap := h', toks := tk + 1 }) ho fun h'' he' sb => ?_⟩
    have hT2 : h''.get? s.heap.objs.size = some { cls := .type "tuple", data := .seq #[.int i tk, .str ⟨#[c]⟩ u] } := (sb.2 _ (Nat.ne_of_gt hel)).trans hT
    have new : ObjOk X.prog X.w (upd H s.heap.objs.size (.tup [.int (i : Nat), .str ⟨#[c]⟩])) h'' s.heap.objs.size (.tup [.int (i : Nat), .str ⟨#[c]⟩]) :=
      ⟨by show 2 ≤ sizeLine; decide, [.int i tk, .str ⟨#[c]⟩ u], .cons ⟨_, rfl⟩ (.cons ⟨_, rfl⟩ .nil), ⟨_, hT2, rfl, _, rfl⟩⟩
    have I1 : Inv X pins σ (upd H s.heap.objs.size (.tup [.int (i : Nat), .str ⟨#[c]⟩])) { s with heap := h'', toks := tk + 1 } :=
      I.turnedNew (ch := [e, it]) (fun b ob hb q => (sb.2 b (fun z => hb (by simp [z]))).trans (hk b ob (fun z => hb (by simp [z])) (fun z => hb (by simp [z])) q)) hf (Nat.le_refl _) new
    refine ⟨.ref s.heap.objs.size, _, I1, rfl, ⟨_, c, rfl, I.hok.fresh (Nat.le_refl _), rfl, hcx⟩, ⟨⟨.str ⟨#[c]⟩ u, ?_⟩, ?_, hne⟩, fun b hb => ?_⟩
    · have e1 : ((i + 1 : Nat) : Int) = (i : Int) + 1 := by omega
      rw [e1]; exact he'
    · obtain ⟨o, ho', r⟩ := st'
      exact ⟨o, (sb.2 it (Ne.symm hne)).trans ho', r⟩
    · have hb' : b < s.heap.objs.size := by
        have e' : b = e ∨ b = it := by simpa using hb
        rcases e' with z | z
        · rw [z]; exact hel
        · rw [z]; exact hil
      rw [upd_ne (Nat.ne_of_lt hb')]
      exact (hf b hb).1
  done := by
    intro X hP hw hK hc i pins s σ H E I hf st hg
    subst hP hw hK
    obtain ⟨⟨old, he⟩, hit, hne⟩ := st
    obtain ⟨f0, f1, f2, f3, f4, f5⟩ := hf it (by simp)
    have hg : i = z.cps.size := hg
    subst hg
    exact enumS_end (I.ok.hd hc) he hit fun h' eb => ⟨rfl, I.turned (t' := s.toks) (fun b o hb q => eb b o hb q) f0 f1 f3 f4 f5⟩
  self := fun A i s Q E st h => let ⟨⟨_, he⟩, _⟩ := st; wpAny_pyIter_enum he h
def iEnumV (K : PySem.W.Frag) (ta : TA) : TI := fun σ H R => ta σ H fun vs H1 => (∃ a xs, vs = [.ref a] ∧ ((SqL K H1 a xs ∧ R (Ite K a) H1) ∨ (SqT K H1 a xs ∧ R (IteT K a) H1))) ∨ ∃ z, vs = [.str z] ∧ R (IteS z) H1
theorem pi_enumV {X : Cx} {e : Expr} {ta : TA} {p pos tpos : Pos} {elts : List Expr} {kk : Nat} (hg : Gl X "enumerate") (hm : X.mg "enumerate" = none) (ha : PA X [e] ta) (hs : starEach [e] X.env = [(false, eval e X.env)] := by rfl) :
    PI X (.Tuple elts kk tpos) (.Call (.Name "enumerate" p) [e] [] pos) (iEnumV X.K ta) := by
  refine ⟨fun pins s σ H R I h => ?_⟩
  refine Call_ (ld_blt I hg hm boot_enumerate (PyProof.Rows.callWith_type1 (thn (ha.run pos pins s σ H _ I h) fun us s1 ⟨vs, H1, I1, r1, q1⟩ => ?_) hs rfl))
  have fr : ∀ b, b ∈ [s1.heap.objs.size + 1, s1.heap.objs.size] → FpOk X pins H1 b := fun b hb => by
    have e' : b = s1.heap.objs.size + 1 ∨ b = s1.heap.objs.size := by simpa using hb
    have hle : s1.heap.objs.size ≤ b := by
      rcases e' with z | z
      · rw [z]; exact Nat.le_add_right _ _
      · rw [z]; exact Nat.le_refl _
    exact I1.fpOk hle (I1.hok.fresh hle)
  rcases q1 with ⟨a, xs, ex, q1⟩ | ⟨z, ex, q⟩
  · subst ex
    cases r1 with
    | cons r rr =>
      cases rr
      cases r
      rcases q1 with ⟨hq, q⟩ | ⟨hq, q⟩
      · obtain ⟨its, rv, p', hz⟩ := I1.list hq
        refine call_enumerate_list p'.isList fun h' he hit hsz hk => wpAny_pyIter_enum he ?_
        have I2 : Inv X pins σ H1 { s1 with heap := h' } := I1.kept (t' := s1.toks) hk
        exact ⟨s1.heap.objs.size + 1, [s1.heap.objs.size + 1, s1.heap.objs.size], _, _, H1, rfl, I2, turn_enum a (s1.heap.objs.size + 1) s1.heap.objs.size, ⟨⟨.none, he⟩, hit, Nat.succ_ne_self _⟩, fr, q⟩
      · obtain ⟨its, rv, p', hz⟩ := I1.tuple hq
        have la : a < s1.heap.objs.size := p'.lt
        refine call_enumB (begins_tuple a its.toArray) (show s1.heap.IsTuple a its.toArray from p') fun h' he hit hsz hk => wpAny_pyIter_enum he ?_
        have I2 : Inv X pins σ H1 { s1 with heap := h' } := I1.kept (t' := s1.toks) hk
        exact ⟨s1.heap.objs.size + 1, [s1.heap.objs.size + 1, s1.heap.objs.size], _, _, H1, rfl, I2, turn_enumT a (s1.heap.objs.size + 1) s1.heap.objs.size, ⟨⟨.none, he⟩, ⟨_, hit, rfl, rfl⟩, Nat.succ_ne_self _, Nat.ne_of_lt la, Nat.ne_of_lt (Nat.lt_succ_of_lt la)⟩, fr, q⟩
  · subst ex
    cases r1 with
    | cons r rr =>
      cases rr
      obtain ⟨t, rfl⟩ := r
      refine call_enumB (begins_text z t) trivial fun h' he hit hsz hk => wpAny_pyIter_enum he ?_
      have I2 : Inv X pins σ H1 { s1 with heap := h' } := I1.kept (t' := s1.toks) hk
      exact ⟨s1.heap.objs.size + 1, [s1.heap.objs.size + 1, s1.heap.objs.size], _, _, H1, rfl, I2, turn_enumS z t (s1.heap.objs.size + 1) s1.heap.objs.size, ⟨⟨.none, he⟩, ⟨_, hit, rfl, rfl⟩, Nat.succ_ne_self _⟩, fr, q⟩
theorem walk_enumS {z : Str} : Walk (IteS z) z.cps.size (fun _ => True) (fun i H v H' => ∃ T c, v = .ref T ∧ H T = none ∧ H' = upd H T (.tup [.int (i : Nat), .str ⟨#[c]⟩]) ∧ z.cps[i]? = some c) :=
  ⟨fun i _ hi _ => hi, fun _ _ => rfl, fun i H v H' _ _ y => y⟩
end Ps

/-! WaA: data without a heap; what a heap holds of it: shared, or owned. -/
namespace Ps
open PySem PySem.Spec PyProof.Rows L2

/-- data -/
inductive D where
  | non
  | bl (b : Bool)
  | int (i : Int)
  | str (s : Str)
  | adr (a : Addr)
  | ty (n : String)
  | scr (ns : List Int)
  | lst (ds : List D)
  | tup (ds : List D)
  | dic (kvs : List (Key × D))
  | obj (C : Addr) (fs : List (Str × D))
  | exc (C : Addr) (fs : List (Str × D))

/-- a tuple that stands: tracked, or written -/
def TupAt (K : PySem.W.Frag) (G : Hp) (a : Addr) (vs : List V) : Prop := G a = some (.tup vs) ∨
  ∃ (o : Obj) (its : Array Value) (n : Nat), K.lookup a = some o ∧ o.cls = .type "tuple" ∧ o.data = .seq its n ∧ its.size ≤ sizeLine ∧ Vals vs its.toList
theorem TupAt.sq {K : PySem.W.Frag} {G : Hp} {a : Addr} {vs : List V} (h : TupAt K G a vs) : SqT K G a vs := h.elim (fun h => SqT.of h) fun h => .inr h
theorem TupAt.mono {K : PySem.W.Frag} {G G' : Hp} {a : Addr} {vs : List V} (s : Same G G') (h : TupAt K G a vs) : TupAt K G' a vs := h.elim (fun h => .inl (s _ _ h)) fun h => .inr h
mutual
inductive Dd (K : PySem.W.Frag) (G : Hp) : V → D → Prop
  | non : Dd K G .non .non
  | bl (b : Bool) : Dd K G (.bl b) (.bl b)
  | int (i : Int) : Dd K G (.int i) (.int i)
  | str (x : Str) : Dd K G (.str x) (.str x)
  | adr (a : Addr) : Dd K G (.ref a) (.adr a)
  | ty (n : String) : Dd K G (.ty n) (.ty n)
  | scr {a : Addr} {ns : List Int} : SqL K G a (ns.map V.int) → Dd K G (.ref a) (.scr ns)
  | lst {a : Addr} {vs : List V} {ds : List D} : G a = some (.lst vs) → DdAll K G vs ds → Dd K G (.ref a) (.lst ds)
  | tup {a : Addr} {vs : List V} {ds : List D} : TupAt K G a vs → DdAll K G vs ds → Dd K G (.ref a) (.tup ds)
  | dic {a : Addr} {kvs : List (Key × V)} {kds : List (Key × D)} {ks : List Key} {vs : List V} {ds : List D} : G a = some (.dK kvs) → kvs.map Prod.fst = ks → kds.map Prod.fst = ks → kvs.map Prod.snd = vs → kds.map Prod.snd = ds → DdAll K G vs ds → Dd K G (.ref a) (.dic kds)
  | obj {a C dx : Addr} {fs : List (Str × V)} {gs : List (Str × D)} {ks : List Str} {vs : List V} {ds : List D} : G a = some (.ins C dx fs) → G dx = some (.own a) → fs.map Prod.fst = ks → gs.map Prod.fst = ks → fs.map Prod.snd = vs → gs.map Prod.snd = ds → DdAll K G vs ds → Dd K G (.ref a) (.obj C gs)
  | exc0 {a C : Addr} : G a = some (exv a C none) → Dd K G (.ref a) (.exc C [])
  | exc1 {a C b : Addr} {fs : List (Str × V)} {gs : List (Str × D)} {ks : List Str} {vs : List V} {ds : List D} : G a = some (exv a C (some b)) → G b = some (.xd fs) → fs.map Prod.fst = ks → gs.map Prod.fst = ks → fs.map Prod.snd = vs → gs.map Prod.snd = ds → DdAll K G vs ds → Dd K G (.ref a) (.exc C gs)
inductive DdAll (K : PySem.W.Frag) (G : Hp) : List V → List D → Prop
  | nil : DdAll K G [] []
  | cons {v : V} {vs : List V} {d : D} {ds : List D} : Dd K G v d → DdAll K G vs ds → DdAll K G (v :: vs) (d :: ds)
end
theorem same_rd {G H : Hp} {a : Addr} {o : HO} (s : Same G H) (h : Rd G a o) : Rd H a o := h.elim (fun h => .inl (s _ _ h)) fun ⟨u, h⟩ => .inr ⟨u, s _ _ h⟩
section
variable {K : PySem.W.Frag} {G G' H H' : Hp}
mutual
theorem Dd.mono (s : Same G G') : ∀ {v : V} {d : D}, Dd K G v d → Dd K G' v d
  | _, _, .non => .non
  | _, _, .bl b => .bl b
  | _, _, .int i => .int i
  | _, _, .str x => .str x
  | _, _, .adr a => .adr a
  | _, _, .ty n => .ty n
  | _, _, .scr h => .scr (same_l s h)
  | _, _, .lst h a => .lst (s _ _ h) (DdAll.mono s a)
  | _, _, .tup h a => .tup (h.mono s) (DdAll.mono s a)
  | _, _, .dic h e1 e2 e3 e4 a => .dic (s _ _ h) e1 e2 e3 e4 (DdAll.mono s a)
  | _, _, .obj h1 h2 e1 e2 e3 e4 a => .obj (s _ _ h1) (s _ _ h2) e1 e2 e3 e4 (DdAll.mono s a)
  | _, _, .exc0 h1 => .exc0 (s _ _ h1)
  | _, _, .exc1 h1 h2 e1 e2 e3 e4 a => .exc1 (s _ _ h1) (s _ _ h2) e1 e2 e3 e4 (DdAll.mono s a)
theorem DdAll.mono (s : Same G G') : ∀ {vs : List V} {ds : List D}, DdAll K G vs ds → DdAll K G' vs ds
  | _, _, .nil => .nil
  | _, _, .cons h t => .cons (Dd.mono s h) (DdAll.mono s t)
end
theorem DdAll.len : ∀ {vs : List V} {ds : List D}, DdAll K G vs ds → vs.length = ds.length
  | _, _, .nil => rfl
  | _, _, .cons _ t => by rw [List.length_cons, List.length_cons, DdAll.len t]
theorem DdAll.get : ∀ {vs : List V} {ds : List D} {i : Nat} {d : D}, DdAll K G vs ds → ds[i]? = some d → ∃ v, vs[i]? = some v ∧ Dd K G v d
  | _, _, _, _, .nil, h => by simp at h
  | _, _, 0, _, .cons h _, e => by simp at e; subst e; exact ⟨_, rfl, h⟩
  | _, _, i + 1, _, .cons _ t, e => by
    obtain ⟨v, h1, h2⟩ := DdAll.get (i := i) t (by simpa using e)
    exact ⟨v, by simpa using h1, h2⟩
theorem DdAll.getV : ∀ {vs : List V} {ds : List D} {i : Nat} {v : V}, DdAll K G vs ds → vs[i]? = some v → ∃ d, ds[i]? = some d ∧ Dd K G v d
  | _, _, _, _, .nil, h => by simp at h
  | _, _, 0, _, .cons h _, e => by simp at e; subst e; exact ⟨_, rfl, h⟩
  | _, _, i + 1, _, .cons _ t, e => by
    obtain ⟨v, h1, h2⟩ := DdAll.getV (i := i) t (by simpa using e)
    exact ⟨v, by simpa using h1, h2⟩
theorem DdAll.app : ∀ {vs ws : List V} {ds es : List D}, DdAll K G vs ds → DdAll K G ws es → DdAll K G (vs ++ ws) (ds ++ es)
  | _, _, _, _, .nil, s => s
  | _, _, _, _, .cons h t, s => .cons h (DdAll.app t s)
theorem DdAll.one {v : V} {d : D} (h : Dd K G v d) : DdAll K G [v] [d] := .cons h .nil
theorem DdAll.set : ∀ {vs : List V} {ds : List D} {v : V} {d : D} (i : Nat), DdAll K G vs ds → Dd K G v d → DdAll K G (vs.set i v) (ds.set i d)
  | _, _, _, _, _, .nil, _ => .nil
  | _, _, _, _, 0, .cons _ t, h => .cons h t
  | _, _, _, _, i + 1, .cons q t, h => .cons q (DdAll.set i t h)
theorem DdAll.take : ∀ {vs : List V} {ds : List D} (n : Nat), DdAll K G vs ds → DdAll K G (vs.take n) (ds.take n)
  | _, _, 0, _ => by simp; exact .nil
  | _, _, _ + 1, .nil => .nil
  | _, _, n + 1, .cons h t => .cons h (DdAll.take n t)
theorem DdAll.drop : ∀ {vs : List V} {ds : List D} (n : Nat), DdAll K G vs ds → DdAll K G (vs.drop n) (ds.drop n)
  | _, _, 0, r => r
  | _, _, _ + 1, .nil => .nil
  | _, _, n + 1, .cons _ t => DdAll.drop n t
theorem DdAll.rev : ∀ {vs : List V} {ds : List D}, DdAll K G vs ds → DdAll K G vs.reverse ds.reverse
  | _, _, .nil => .nil
  | _, _, .cons h t => by
    rw [List.reverse_cons, List.reverse_cons]
    exact (DdAll.rev t).app (.one h)
theorem DdAll.rep {v : V} {d : D} (h : Dd K G v d) : ∀ n : Nat, DdAll K G (List.replicate n v) (List.replicate n d)
  | 0 => .nil
  | n + 1 => by rw [List.replicate_succ, List.replicate_succ]; exact .cons h (DdAll.rep h n)
theorem DdAll.flat {vs : List V} {ds : List D} (h : DdAll K G vs ds) : ∀ n : Nat, DdAll K G (List.replicate n vs).flatten (List.replicate n ds).flatten
  | 0 => .nil
  | n + 1 => by rw [List.replicate_succ, List.replicate_succ, List.flatten_cons, List.flatten_cons]; exact h.app (DdAll.flat h n)

/-- how a thing is held: shared (F), or, where it is a list or a dict, by the holder alone, its items shared (O) -/
inductive OT where
  | F
  | O
  deriving DecidableEq
/-- a list or a dict that its holder alone holds -/
def OwnTop (K : PySem.W.Frag) (G : Hp) : List (Addr × HO) → V → D → Prop
  | S, v, .lst ds => ∃ a vs, v = .ref a ∧ S = [(a, .lst vs)] ∧ DdAll K G vs ds
  | S, v, .dic kds => ∃ a kvs, v = .ref a ∧ S = [(a, .dK kvs)] ∧ kvs.map Prod.fst = kds.map Prod.fst ∧ DdAll K G (kvs.map Prod.snd) (kds.map Prod.snd)
  | S, v, d => S = [] ∧ Dd K G v d
def Own (K : PySem.W.Frag) (G : Hp) : OT → List (Addr × HO) → V → D → Prop
  | .F, S, v, d => S = [] ∧ Dd K G v d
  | .O, S, v, d => OwnTop K G S v d
theorem OwnTop.mono (s : Same G G') {S : List (Addr × HO)} {v : V} {d : D} (h : OwnTop K G S v d) : OwnTop K G' S v d := by
  cases d with
  | lst ds => obtain ⟨a, vs, e1, e2, h⟩ := h; exact ⟨a, vs, e1, e2, h.mono s⟩
  | dic kds => obtain ⟨a, vs, e1, e2, e3, h⟩ := h; exact ⟨a, vs, e1, e2, e3, h.mono s⟩
  | _ => exact ⟨h.1, h.2.mono s⟩
theorem Own.mono (s : Same G G') {t : OT} {S : List (Addr × HO)} {v : V} {d : D} (h : Own K G t S v d) : Own K G' t S v d := by
  cases t with
  | F => exact ⟨h.1, h.2.mono s⟩
  | O => exact OwnTop.mono s h
/-- what is owned may be shared -/
theorem Own.freeze {t : OT} {S R : List (Addr × HO)} {v : V} {d : D} (w : Wd (S ++ R) G H) (h : Own K G t S v d) : ∃ G', Same G G' ∧ Wd R G' H ∧ Dd K G' v d := by
  cases t with
  | F =>
    obtain ⟨rfl, h⟩ := h
    exact ⟨G, Same.refl G, w, h⟩
  | O =>
    cases d with
    | lst ds =>
      obtain ⟨a, vs, rfl, rfl, h⟩ := h
      exact ⟨_, w.gsame _, w.share, .lst upd_same (h.mono (w.gsame _))⟩
    | dic kds =>
      obtain ⟨a, kvs, rfl, rfl, e, h⟩ := h
      exact ⟨_, w.gsame _, w.share, .dic upd_same e rfl rfl rfl (h.mono (w.gsame _))⟩
    | _ =>
      obtain ⟨rfl, h⟩ := h
      exact ⟨G, Same.refl G, w, h⟩
/-- borrowed: it lies among S -/
def Bo (K : PySem.W.Frag) (G : Hp) (S : List (Addr × HO)) (t : OT) (v : V) (d : D) : Prop := ∃ S', (∀ x ∈ S', x ∈ S) ∧ Own K G t S' v d
theorem Bo.mono (s : Same G G') {S S2 : List (Addr × HO)} (hs : ∀ x ∈ S, x ∈ S2) {t : OT} {v : V} {d : D} (h : Bo K G S t v d) : Bo K G' S2 t v d := by
  obtain ⟨S', h1, h2⟩ := h
  exact ⟨S', fun x hx => hs x (h1 x hx), h2.mono s⟩
/-- what may be read of it: its own object in H, its items in G -/
inductive Tp (K : PySem.W.Frag) (G H : Hp) : V → D → Prop
  | dd {v : V} {d : D} : Dd K G v d → Tp K G H v d
  | lst {a : Addr} {vs : List V} {ds : List D} : H a = some (.lst vs) → DdAll K G vs ds → Tp K G H (.ref a) (.lst ds)
  | dic {a : Addr} {kvs : List (Key × V)} {kds : List (Key × D)} : H a = some (.dK kvs) → kvs.map Prod.fst = kds.map Prod.fst → DdAll K G (kvs.map Prod.snd) (kds.map Prod.snd) → Tp K G H (.ref a) (.dic kds)
theorem Bo.tp {S R : List (Addr × HO)} {t : OT} {v : V} {d : D} (w : Wd (S ++ R) G H) (h : Bo K G S t v d) : Tp K G H v d := by
  obtain ⟨S', h1, h2⟩ := h
  have hm : ∀ x ∈ S', H x.1 = some x.2 := fun x hx => w.mem (List.mem_append_left _ (h1 x hx))
  cases t with
  | F => exact .dd h2.2
  | O =>
    cases d with
    | lst ds =>
      obtain ⟨a, vs, rfl, rfl, h⟩ := h2
      exact .lst (hm _ List.mem_cons_self) h
    | dic kds =>
      obtain ⟨a, kvs, rfl, rfl, e, h⟩ := h2
      exact .dic (hm _ List.mem_cons_self) e h
    | _ => exact .dd h2.2
/-- all of it in H -/
theorem Tp.deep {v : V} {d : D} (s : Same G H) (h : Tp K G H v d) : Dd K H v d := by
  cases h with
  | dd h => exact h.mono s
  | lst h1 h2 => exact .lst h1 (h2.mono s)
  | dic h1 h2 h3 => exact .dic h1 h2 rfl rfl rfl (h3.mono s)
theorem Tp.l {v : V} {ds : List D} (s : Same G H) (h : Tp K G H v (.lst ds)) : ∃ a vs, v = .ref a ∧ H a = some (.lst vs) ∧ DdAll K G vs ds := by
  cases h with
  | dd h => cases h with | lst h1 h2 => exact ⟨_, _, rfl, s _ _ h1, h2⟩
  | lst h1 h2 => exact ⟨_, _, rfl, h1, h2⟩
theorem Tp.t {v : V} {ds : List D} (s : Same G H) (h : Tp K G H v (.tup ds)) : ∃ a vs, v = .ref a ∧ TupAt K G a vs ∧ SqT K H a vs ∧ DdAll K G vs ds := by
  cases h with
  | dd h => cases h with | tup h1 h2 => exact ⟨_, _, rfl, h1, same_t s h1.sq, h2⟩
theorem Tp.dk {v : V} {kds : List (Key × D)} (s : Same G H) (h : Tp K G H v (.dic kds)) : ∃ a kvs, v = .ref a ∧ H a = some (.dK kvs) ∧ kvs.map Prod.fst = kds.map Prod.fst ∧ DdAll K G (kvs.map Prod.snd) (kds.map Prod.snd) := by
  cases h with
  | dd h => cases h with | dic h1 e1 e2 e3 e4 h2 => exact ⟨_, _, rfl, s _ _ h1, by rw [e1, e2], by rw [e3, e4]; exact h2⟩
  | dic h1 h2 h3 => exact ⟨_, _, rfl, h1, h2, h3⟩
/-- a scalar -/
def D.sc : D → Bool
  | .non | .bl _ | .int _ | .str _ | .ty _ | .adr _ => true
  | _ => false
theorem Tp.s {v : V} {d : D} (h : Tp K G H v d) (e : d.sc = true) : Dd K G v d := by
  cases h with
  | dd h => exact h
  | lst _ _ => cases e
  | dic _ _ _ => cases e

/-! ### slots -/
abbrev Env := List (Option D)
inductive Slots (K : PySem.W.Frag) (G : Hp) : List OT → List (Addr × HO) → Env → L2.St → Prop
  | nil : Slots K G [] [] [] []
  | no {t : OT} {Γ : List OT} {S : List (Addr × HO)} {env : Env} {o : Option V} {σ : L2.St} : Slots K G Γ S env σ → Slots K G (t :: Γ) S (none :: env) (o :: σ)
  | yes {t : OT} {Γ : List OT} {S1 S : List (Addr × HO)} {env : Env} {d : D} {v : V} {σ : L2.St} : Own K G t S1 v d → Slots K G Γ S env σ → Slots K G (t :: Γ) (S1 ++ S) (some d :: env) (some v :: σ)
variable {Γ : List OT} {S S1 S2 R : List (Addr × HO)} {env : Env} {σ : L2.St}
theorem Slots.mono (s : Same G G') (h : Slots K G Γ S env σ) : Slots K G' Γ S env σ := by
  induction h with
  | nil => exact .nil
  | no _ ih => exact .no ih
  | yes h _ ih => exact .yes (h.mono s) ih
theorem Slots.len (h : Slots K G Γ S env σ) : σ.length = env.length ∧ Γ.length = env.length := by
  induction h with
  | nil => exact ⟨rfl, rfl⟩
  | no _ ih => exact ⟨by simp [ih.1], by simp [ih.2]⟩
  | yes _ _ ih => exact ⟨by simp [ih.1], by simp [ih.2]⟩
/-- a slot by itself -/
theorem Slots.at (h : Slots K G Γ S env σ) : ∀ {i : Nat} {d : D} {t : OT}, env[i]? = some (some d) → Γ[i]? = some t → ∃ v S1 S2 S3, σ[i]? = some (some v) ∧ S = S1 ++ (S2 ++ S3) ∧ Own K G t S2 v d ∧
    ∀ (G' : Hp) (S2' : List (Addr × HO)) (t' : OT) (o' : Option D) (v' : Option V), Same G G' → ((o' = none ∧ S2' = []) ∨ ∃ d' v'', o' = some d' ∧ v' = some v'' ∧ Own K G' t' S2' v'' d') → Slots K G' (Γ.set i t') (S1 ++ (S2' ++ S3)) (env.set i o') (σ.set i v') := by
  induction h with
  | nil => intro i d t h1 h2; simp at h1
  | @no t0 Γ S env o σ h ih =>
    intro i d t h1 h2
    cases i with
    | zero => simp at h1
    | succ i =>
      obtain ⟨v, S1, S2, S3, e1, e2, e3, e4⟩ := ih (i := i) (by simpa using h1) (by simpa using h2)
      refine ⟨v, S1, S2, S3, by simpa using e1, e2, e3, fun G' S2' t' o' v' s q => ?_⟩
      rw [List.set_cons_succ, List.set_cons_succ, List.set_cons_succ]
      exact .no (e4 G' S2' t' o' v' s q)
  | @yes t0 Γ S1 S env d0 v0 σ h hs ih =>
    intro i d t h1 h2
    cases i with
    | zero =>
      simp at h1 h2
      subst h1; subst h2
      refine ⟨v0, [], S1, S, rfl, rfl, h, fun G' S2' t' o' v' s q => ?_⟩
      rw [List.set_cons_zero, List.set_cons_zero, List.set_cons_zero]
      rcases q with ⟨rfl, rfl⟩ | ⟨d', v'', rfl, rfl, q⟩
      · exact .no (hs.mono s)
      · exact (Slots.yes (S := S) q (hs.mono s))
    | succ i =>
      obtain ⟨v, T1, T2, T3, e1, e2, e3, e4⟩ := ih (i := i) (by simpa using h1) (by simpa using h2)
      refine ⟨v, S1 ++ T1, T2, T3, by simpa using e1, by rw [e2, List.append_assoc], e3, fun G' S2' t' o' v' s q => ?_⟩
      rw [List.set_cons_succ, List.set_cons_succ, List.set_cons_succ, List.append_assoc]
      exact .yes (h.mono s) (e4 G' S2' t' o' v' s q)
/-- a new thing in a slot: what lay there goes -/
theorem Slots.put (h : Slots K G Γ S env σ) : ∀ {i : Nat}, i < env.length → ∃ S1 S2 S3, S = S1 ++ (S2 ++ S3) ∧
    ∀ (G' : Hp) (S2' : List (Addr × HO)) (t' : OT) (o' : Option D) (v' : Option V), Same G G' → ((o' = none ∧ S2' = []) ∨ ∃ d' v'', o' = some d' ∧ v' = some v'' ∧ Own K G' t' S2' v'' d') → Slots K G' (Γ.set i t') (S1 ++ (S2' ++ S3)) (env.set i o') (σ.set i v') := by
  induction h with
  | nil => intro i hi; simp at hi
  | @no t0 Γ S env o σ h ih =>
    intro i hi
    cases i with
    | zero =>
      refine ⟨[], [], S, rfl, fun G' S2' t' o' v' s q => ?_⟩
      rw [List.set_cons_zero, List.set_cons_zero, List.set_cons_zero]
      rcases q with ⟨rfl, rfl⟩ | ⟨d', v'', rfl, rfl, q⟩
      · exact .no (h.mono s)
      · exact (Slots.yes (S := S) q (h.mono s))
    | succ i =>
      obtain ⟨S1, S2, S3, e2, e4⟩ := ih (i := i) (by simpa using hi)
      refine ⟨S1, S2, S3, e2, fun G' S2' t' o' v' s q => ?_⟩
      rw [List.set_cons_succ, List.set_cons_succ, List.set_cons_succ]
      exact .no (e4 G' S2' t' o' v' s q)
  | @yes t0 Γ S1 S env d0 v0 σ h hs ih =>
    intro i hi
    cases i with
    | zero =>
      refine ⟨[], S1, S, rfl, fun G' S2' t' o' v' s q => ?_⟩
      rw [List.set_cons_zero, List.set_cons_zero, List.set_cons_zero]
      rcases q with ⟨rfl, rfl⟩ | ⟨d', v'', rfl, rfl, q⟩
      · exact .no (hs.mono s)
      · exact (Slots.yes (S := S) q (hs.mono s))
    | succ i =>
      obtain ⟨T1, T2, T3, e2, e4⟩ := ih (i := i) (by simpa using hi)
      refine ⟨S1 ++ T1, T2, T3, by rw [e2, List.append_assoc], fun G' S2' t' o' v' s q => ?_⟩
      rw [List.set_cons_succ, List.set_cons_succ, List.set_cons_succ, List.append_assoc]
      exact .yes (h.mono s) (e4 G' S2' t' o' v' s q)
end

/-! ### the law's draws and the store, around all -/
/-- what the store tells of a thing: a list, a dict, an instance -/
abbrev Sto := Addr → Option D
def emp : Sto := fun _ => none
def sput (s : Sto) (a : Addr) (d : D) : Sto := fun b => if b = a then some d else s b
theorem sput_same {s : Sto} {a : Addr} {d : D} : sput s a d a = some d := if_pos rfl
theorem sput_ne {s : Sto} {a b : Addr} {d : D} (h : b ≠ a) : sput s a d b = s b := if_neg h
/-- the law's state at a, and how many draws may still be taken; the store -/
abbrev Mst := Option (Addr × Nat) × Sto
def AmbD : Option (Addr × Nat) → List (Addr × HO) → Prop
  | none, C => C = []
  | some (a, m), C => ∃ (c : Addr) (t : Int) (ns : List Int), C = [(a, stD c t), (c, .lst (ns.map V.int))] ∧ 0 < ns.length ∧ 0 ≤ t ∧ t + m ≤ 2 ^ 50
/-- the cells of a stored thing -/
def Cell (K : PySem.W.Frag) (G : Hp) (a : Addr) : D → List (Addr × HO) → Prop
  | .lst ds, C => ∃ vs, C = [(a, .lst vs)] ∧ DdAll K G vs ds
  | .dic kds, C => ∃ kvs, C = [(a, .dK kvs)] ∧ kvs.map Prod.fst = kds.map Prod.fst ∧ DdAll K G (kvs.map Prod.snd) (kds.map Prod.snd)
  | .obj Cl gs, C => ∃ dx fs, C = [(a, .ins Cl dx fs), (dx, .own a)] ∧ fs.map Prod.fst = gs.map Prod.fst ∧ DdAll K G (fs.map Prod.snd) (gs.map Prod.snd)
  | _, _ => False
inductive Cells (K : PySem.W.Frag) (G : Hp) : List (Addr × D) → List (Addr × HO) → Prop
  | nil : Cells K G [] []
  | cons {a : Addr} {d : D} {L : List (Addr × D)} {C1 C2 : List (Addr × HO)} : Cell K G a d C1 → Cells K G L C2 → Cells K G ((a, d) :: L) (C1 ++ C2)
def StoC (K : PySem.W.Frag) (G : Hp) (s : Sto) (C : List (Addr × HO)) : Prop := ∃ L : List (Addr × D), (∀ a, s a = L.lookup a) ∧ Cells K G L C
def Amb (K : PySem.W.Frag) (G : Hp) (m : Mst) (C : List (Addr × HO)) : Prop := ∃ C1 C2, C = C1 ++ C2 ∧ AmbD m.1 C1 ∧ StoC K G m.2 C2
theorem Cell.mono {K : PySem.W.Frag} {G G' : Hp} {a : Addr} {d : D} {C : List (Addr × HO)} (s : Same G G') (h : Cell K G a d C) : Cell K G' a d C := by
  cases d with
  | lst ds => obtain ⟨vs, e, q⟩ := h; exact ⟨vs, e, q.mono s⟩
  | dic ds => obtain ⟨vs, e, e2, q⟩ := h; exact ⟨vs, e, e2, q.mono s⟩
  | obj Cl ds => obtain ⟨dx, vs, e, e2, q⟩ := h; exact ⟨dx, vs, e, e2, q.mono s⟩
  | _ => exact h.elim
theorem Cells.mono {K : PySem.W.Frag} {G G' : Hp} {L : List (Addr × D)} {C : List (Addr × HO)} (s : Same G G') (h : Cells K G L C) : Cells K G' L C := by
  induction h with
  | nil => exact .nil
  | cons h _ ih => exact .cons (h.mono s) ih
theorem Amb.mono {K : PySem.W.Frag} {G G' : Hp} {m : Mst} {C : List (Addr × HO)} (s : Same G G') (h : Amb K G m C) : Amb K G' m C := by
  obtain ⟨C1, C2, e, a, L, l, c⟩ := h
  exact ⟨C1, C2, e, a, L, l, c.mono s⟩
theorem Amb.none {K : PySem.W.Frag} {G : Hp} : Amb K G (none, emp) [] := ⟨[], [], rfl, rfl, [], fun _ => rfl, .nil⟩
theorem Cells.nil_of {K : PySem.W.Frag} {G : Hp} {L : List (Addr × D)} {C : List (Addr × HO)} (h : Cells K G L C) (e : ∀ a, L.lookup a = Option.none) : L = [] ∧ C = [] := by
  cases h with
  | nil => exact ⟨rfl, rfl⟩
  | @cons a d L C1 C2 _ _ =>
    have q := e a
    rw [List.lookup_cons, beq_self_eq_true] at q
    cases q
theorem Amb.none_inv {K : PySem.W.Frag} {G : Hp} {C : List (Addr × HO)} (h : Amb K G (Option.none, emp) C) : C = [] := by
  obtain ⟨C1, C2, rfl, a, L, l, c⟩ := h
  obtain rfl : C1 = [] := a
  exact (c.nil_of fun a => (l a).symm).2
/-- where one stands: the written part, what others own, what was shared at the start -/
structure JC where
  K : PySem.W.Frag
  R : List (Addr × HO)
  G0 : Hp
/-- S1 lies apart, the slots' own things are S -/
def Stx (c : JC) (Γ : List OT) (G H : Hp) (S1 S : List (Addr × HO)) (env : Env) (σ : L2.St) (m : Mst) : Prop :=
  Same c.G0 G ∧ ∃ C, Wd (S1 ++ (S ++ (C ++ c.R))) G H ∧ Amb c.K G m C ∧ Slots c.K G Γ S env σ
abbrev Stt (c : JC) (Γ : List OT) (G H : Hp) (S : List (Addr × HO)) (env : Env) (σ : L2.St) (m : Mst) : Prop := Stx c Γ G H [] S env σ m
section
variable {c : JC} {Γ : List OT} {G G' H H' : Hp} {S S1 S2 R : List (Addr × HO)} {env : Env} {σ : L2.St} {m : Mst} {t : OT} {d : D} {p : Addr} {o : HO}
theorem Wd.dropL {A B : List (Addr × HO)} (w : Wd (A ++ B) G H) : Wd B G H := ⟨w.1, fun y hy => w.2.1 y (List.mem_append_right _ hy), by
  have h := w.2.2
  rw [List.map_append] at h
  exact (List.nodup_append.mp h).2.1⟩
theorem Wd.dropM {A B C : List (Addr × HO)} (w : Wd (A ++ (B ++ C)) G H) : Wd (A ++ C) G H :=
  (w.perm (B := B ++ (A ++ C)) (by rw [← List.append_assoc, ← List.append_assoc]; exact List.Perm.append_right _ List.perm_append_comm)).dropL
theorem Stx.drop (h : Stx c Γ G H S1 S env σ m) : Stt c Γ G H S env σ m := by
  obtain ⟨s, C, w, a, z⟩ := h
  exact ⟨s, C, w.dropL, a, z⟩
theorem Stx.v (h : Stx c Γ G H S1 S env σ m) : Same G H := by
  obtain ⟨s, C, w, a, z⟩ := h
  exact w.v
theorem Stx.len (h : Stx c Γ G H S1 S env σ m) : σ.length = env.length ∧ Γ.length = env.length := by
  obtain ⟨s, C, w, a, z⟩ := h
  exact z.len
/-- a new thing of one's own -/
theorem Stx.new (h : Stx c Γ G H S1 S env σ m) (hp : H p = none) : Stx c Γ G (upd H p o) ((p, o) :: S1) S env σ m := by
  obtain ⟨s, C, w, a, z⟩ := h
  exact ⟨s, C, w.own hp, a, z⟩
/-- a new thing that is shared -/
theorem Stx.newS (h : Stx c Γ G H S1 S env σ m) (hp : H p = none) : Stx c Γ (upd G p o) (upd H p o) S1 S env σ m ∧ Same G (upd G p o) := by
  obtain ⟨s, C, w, a, z⟩ := h
  have g := Grow.new (o := o) w.v hp
  exact ⟨⟨s.trans g.gg, C, w.grow g, a.mono g.gg, z.mono g.gg⟩, g.gg⟩
theorem Stx.freeze {v : V} (h : Stx c Γ G H (S2 ++ S1) S env σ m) (q : Own c.K G t S2 v d) : ∃ G', Same G G' ∧ Stx c Γ G' H S1 S env σ m ∧ Dd c.K G' v d := by
  obtain ⟨s, C, w, a, z⟩ := h
  rw [List.append_assoc] at w
  obtain ⟨G', s', w', q'⟩ := q.freeze w
  exact ⟨G', s', ⟨s.trans s', C, w', a.mono s', z.mono s'⟩, q'⟩
/-- how one may hold less -/
def leO : OT → OT → Bool
  | .O, _ => true
  | .F, .F => true
  | .F, .O => false
theorem Slots.weak {Ga : Hp} (h : Slots c.K Ga Γ S env σ) : ∀ {Γ' : List OT} {R : List (Addr × HO)} {G : Hp}, Same Ga G → Γ'.length = Γ.length → (Γ.zip Γ').all (fun p => leO p.1 p.2) = true → Wd (S ++ R) G H → ∃ G' S', Same G G' ∧ Wd (S' ++ R) G' H ∧ Slots c.K G' Γ' S' env σ := by
  induction h with
  | nil =>
    intro Γ' R G s hl hz w
    cases Γ' with
    | nil => exact ⟨G, [], Same.refl G, w, .nil⟩
    | cons _ _ => simp at hl
  | @no t0 Γ S env o σ h ih =>
    intro Γ' R G s hl hz w
    cases Γ' with
    | nil => simp at hl
    | cons t' Γ' =>
      rw [List.zip_cons_cons, List.all_cons, Bool.and_eq_true] at hz
      obtain ⟨G', S', s, w', q⟩ := ih s (by simpa using hl) hz.2 w
      exact ⟨G', S', s, w', .no q⟩
  | @yes t0 Γ S1 S env d0 v0 σ h hs ih =>
    intro Γ' R G s hl hz w
    cases Γ' with
    | nil => simp at hl
    | cons t' Γ' =>
      rw [List.zip_cons_cons, List.all_cons, Bool.and_eq_true] at hz
      rw [List.append_assoc] at w
      by_cases e : t0 = t'
      · subst e
        have w2 : Wd (S ++ (S1 ++ R)) G H := w.perm (by rw [← List.append_assoc, ← List.append_assoc]; exact List.Perm.append_right _ List.perm_append_comm)
        obtain ⟨G', S', s', w', q⟩ := ih s (by simpa using hl) hz.2 w2
        exact ⟨G', S1 ++ S', s', w'.perm (by rw [← List.append_assoc]; exact List.Perm.append_right _ List.perm_append_comm), .yes (h.mono (s.trans s')) q⟩
      · have et : t' = .F := by
          cases t0 <;> cases t' <;> first | rfl | exact absurd rfl e | cases hz.1
        subst et
        obtain ⟨G1, s1, w1, q1⟩ := (h.mono s).freeze w
        obtain ⟨G', S', s', w', q⟩ := ih (s.trans s1) (by simpa using hl) hz.2 w1
        exact ⟨G', S', s1.trans s', w', .yes (S1 := []) ⟨rfl, q1.mono s'⟩ q⟩
end
end Ps

/-! WaB: readings over data alone, and that a reading over a heap follows. -/
namespace Ps
open PySem PySem.Spec PyProof.Rows L2

abbrev VE := Env → Mst → (D → Mst → Prop) → Prop
abbrev VT := Env → Mst → (Bool → Mst → Prop) → Prop
abbrev VA := Env → Mst → (List D → Mst → Prop) → Prop
structure VEnds where
  nx : Env → Mst → Prop
  rt : D → Mst → Prop
  bk : Env → Mst → Prop := fun _ _ => False
  ct : Env → Mst → Prop := fun _ _ => False
abbrev VS := VEnds → Env → Mst → Prop
/-- what is wished of an exception: its class, its fields -/
abbrev XV := Addr → List (Str × D) → Mst → Prop
abbrev XW := Addr → List (Str × D) → Env → Mst → Prop
abbrev VSp := List D → Mst → (D → Mst → Prop) → XV → Prop

/-- the fields of an exception -/
def ExcAt (K : PySem.W.Frag) (G : Hp) (d : Option Addr) (fs : List (Str × D)) : Prop :=
  (d = none ∧ fs = []) ∨ ∃ b xs, d = some b ∧ G b = some (.xd xs) ∧ xs.map Prod.fst = fs.map Prod.fst ∧ DdAll K G (xs.map Prod.snd) (fs.map Prod.snd)
/-- a def's promise, by data: what it hands back is held as t -/
def spV (K : PySem.W.Frag) (t : OT) (vsp : VSp) : Sp := fun vs H Q E => ∃ (ds : List D) (G : Hp) (R C : List (Addr × HO)) (m : Mst) (P : D → Mst → Prop) (X : XV), Wd (C ++ R) G H ∧ Amb K G m C ∧ DdAll K G vs ds ∧ vsp ds m P X ∧
  (∀ d m' v H' G' S1 C', P d m' → Same G G' → Wd (S1 ++ (C' ++ R)) G' H' → Amb K G' m' C' → Own K G' t S1 v d → Q v H') ∧
  ∀ c fs m' dd H' G' C', X c fs m' → Same G G' → Wd (C' ++ R) G' H' → Amb K G' m' C' → ExcAt K G' dd fs → E (.ref c) dd H'

/-! ### judgements -/
section
variable (c : JC) (Γ : List OT)
/-- a value that is shared -/
def SF (te : TE) (ve : VE) : Prop := ∀ (T : List (Addr × HO)) (G H : Hp) (S : List (Addr × HO)) (env : Env) (σ : L2.St) (m : Mst) (P : D → Mst → Prop) (Q : VK), Stx c Γ G H T S env σ m → ve env m P →
  (∀ d m' v G' H', P d m' → Same G G' → Stx c Γ G' H' T S env σ m' → Dd c.K G' v d → Q v H') → te σ H Q
/-- a value of one's own -/
def SO (te : TE) (ve : VE) : Prop := ∀ (T : List (Addr × HO)) (G H : Hp) (S : List (Addr × HO)) (env : Env) (σ : L2.St) (m : Mst) (P : D → Mst → Prop) (Q : VK), Stx c Γ G H T S env σ m → ve env m P →
  (∀ d m' v G' H' S1, P d m' → Same G G' → Stx c Γ G' H' (S1 ++ T) S env σ m' → OwnTop c.K G' S1 v d → Q v H') → te σ H Q
/-- a value that is looked at alone -/
def SB (te : TE) (ve : VE) : Prop := ∀ (T : List (Addr × HO)) (G H : Hp) (S : List (Addr × HO)) (env : Env) (σ : L2.St) (m : Mst) (P : D → Mst → Prop) (Q : VK), Stx c Γ G H T S env σ m → ve env m P →
  (∀ d m' v G' H' S1, P d m' → Same G G' → Stx c Γ G' H' (S1 ++ T) S env σ m' → (∃ t, Bo c.K G' (S1 ++ S) t v d) → Q v H') → te σ H Q
/-- a test -/
def ST (tt : TT) (vt : VT) : Prop := ∀ (T : List (Addr × HO)) (G H : Hp) (S : List (Addr × HO)) (env : Env) (σ : L2.St) (m : Mst) (P : Bool → Mst → Prop) (Q : Bool → Hp → Prop), Stx c Γ G H T S env σ m → vt env m P →
  (∀ b m' G' H' S1, P b m' → Same G G' → Stx c Γ G' H' (S1 ++ T) S env σ m' → Q b H') → tt σ H Q
inductive BoAll (K : PySem.W.Frag) (G : Hp) (S : List (Addr × HO)) : List V → List D → Prop
  | nil : BoAll K G S [] []
  | cons {v : V} {d : D} {vs : List V} {ds : List D} : (∃ t, Bo K G S t v d) → BoAll K G S vs ds → BoAll K G S (v :: vs) (d :: ds)
/-- arguments that are looked at -/
def SA (ta : TA) (va : VA) : Prop := ∀ (T : List (Addr × HO)) (G H : Hp) (S : List (Addr × HO)) (env : Env) (σ : L2.St) (m : Mst) (P : List D → Mst → Prop) (Q : List V → Hp → Prop), Stx c Γ G H T S env σ m → va env m P →
  (∀ ds m' vs G' H' S1, P ds m' → Same G G' → Stx c Γ G' H' (S1 ++ T) S env σ m' → BoAll c.K G' (S1 ++ S) vs ds → Q vs H') → ta σ H Q
/-- arguments that are shared -/
def SG (ta : TA) (va : VA) : Prop := ∀ (T : List (Addr × HO)) (G H : Hp) (S : List (Addr × HO)) (env : Env) (σ : L2.St) (m : Mst) (P : List D → Mst → Prop) (Q : List V → Hp → Prop), Stx c Γ G H T S env σ m → va env m P →
  (∀ ds m' vs G' H', P ds m' → Same G G' → Stx c Γ G' H' T S env σ m' → DdAll c.K G' vs ds → Q vs H') → ta σ H Q
/-- what a call may let out -/
def ExOk (W : WX) (VW : XW) : Prop := ∀ (G H : Hp) (S : List (Addr × HO)) (env : Env) (σ : L2.St) (m : Mst) (C : Addr) (fs : List (Str × D)) (d : Option Addr), Stt c Γ G H S env σ m → ExcAt c.K G d fs → VW C fs env m → W (.ref C) d σ H
end

/-! ### readings over data -/
def vVar (i : Nat) : VE := fun env m P => ∃ d, env[i]? = some (some d) ∧ P d m
def vC (d : D) : VE := fun _ m P => P d m
def vNil : VA := fun _ m P => P [] m
def vCons (ve : VE) (va : VA) : VA := fun env m P => ve env m fun d m1 => va env m1 fun ds m2 => P (d :: ds) m2
def vOp (f : D → D → (D → Prop) → Prop) (va vb : VE) : VE := fun env m P => va env m fun x m1 => vb env m1 fun y m2 => f x y fun z => P z m2
def vUn (f : D → (D → Prop) → Prop) (va : VE) : VE := fun env m P => va env m fun x m1 => f x fun z => P z m1
def vCB (f : List D → (D → Prop) → Prop) (va : VA) : VE := fun env m P => va env m fun xs m1 => f xs fun z => P z m1
def vBM (f : D → List D → (D → Prop) → Prop) (ve : VE) (va : VA) : VE := fun env m P => ve env m fun x m1 => va env m1 fun xs m2 => f x xs fun z => P z m2
def vLst (va : VA) : VE := fun env m P => va env m fun xs m1 => xs.length ≤ sizeLine ∧ P (.lst xs) m1
def vTup (va : VA) : VE := fun env m P => va env m fun xs m1 => xs.length ≤ sizeLine ∧ P (.tup xs) m1
def vIfE (vt : VT) (va vb : VE) : VE := fun env m P => vt env m fun b m1 => if b = true then va env m1 P else vb env m1 P
def vAndV (va vb : VE) : VE := fun env m P => va env m fun x m1 => ∃ b, x = .bl b ∧ if b = true then vb env m1 P else P (.bl false) m1
def vOrV (va vb : VE) : VE := fun env m P => va env m fun x m1 => ∃ b, x = .bl b ∧ if b = true then P (.bl true) m1 else vb env m1 P
def vNotV (va : VE) : VE := fun env m P => va env m fun x m1 => ∃ b, x = .bl b ∧ P (.bl (!b)) m1
def vChain (f g : D → D → (D → Prop) → Prop) (va vb vc : VE) : VE := fun env m P => va env m fun x m1 => vb env m1 fun y m2 => f x y fun z => ∃ b, z = .bl b ∧ if b = true then vc env m2 fun w m3 => g y w fun u => P u m3 else P (.bl false) m2
def vTest (ve : VE) : VT := fun env m P => ve env m fun x m1 => ∃ b, x = .bl b ∧ P b m1
def truD : D → (Bool → Mst → Prop) → Mst → Prop
  | .non, P, m1 => P false m1
  | .bl b, P, m1 => P b m1
  | .int i, P, m1 => P (i != 0) m1
  | .str z, P, m1 => z.length ≤ sizeLine ∧ P ((z.length : Int) != 0) m1
  | .lst ds, P, m1 => P (!ds.isEmpty) m1
  | .tup ds, P, m1 => P (!ds.isEmpty) m1
  | .dic kds, P, m1 => P (!kds.isEmpty) m1
  | _, _, _ => False
def vTru (ve : VE) : VT := fun env m P => ve env m fun x m1 => truD x P m1
def vAnd (a b : VT) : VT := fun env m P => a env m fun x m1 => if x = true then b env m1 P else P false m1
def vOr (a b : VT) : VT := fun env m P => a env m fun x m1 => if x = true then P true m1 else b env m1 P
def vNot (a : VT) : VT := fun env m P => a env m fun x m1 => P (!x) m1
def vYes : VT := fun _ m P => P true m
def vCall (vsp : VSp) (va : VA) : VE := fun env m P => va env m fun ds m1 => vsp ds m1 P fun _ _ _ => False
def vCallS (vsp : VSp) (VW : XW) (va : VA) : VE := fun env m P => va env m fun ds m1 => vsp ds m1 P fun C fs m2 => VW C fs env m2

section
variable {c : JC} {Γ : List OT} {G G' H H' : Hp} {T S S1 S2 R : List (Addr × HO)} {env : Env} {σ : L2.St} {m : Mst} {t : OT} {v : V} {d : D} {p : Addr} {o : HO} {i : Nat}
/-- what lay apart goes -/
theorem Stx.dropT (st : Stx c Γ G H (S1 ++ T) S env σ m) : Stx c Γ G H T S env σ m := by
  obtain ⟨s, C, w, a, z⟩ := st
  exact ⟨s, C, by rw [List.append_assoc] at w; exact w.dropL, a, z⟩
theorem bo_sub {K : PySem.W.Frag} {A B : List (Addr × HO)} (s : Same G G') (hs : ∀ x ∈ A, x ∈ B) (h : ∃ t, Bo K G A t v d) : ∃ t, Bo K G' B t v d := h.elim fun t h => ⟨t, h.mono s hs⟩
theorem bo_tp (h : Stx c Γ G H T S env σ m) (b : ∃ t, Bo c.K G (T ++ S) t v d) : Tp c.K G H v d := by
  obtain ⟨s, C, w, a, z⟩ := h
  obtain ⟨t, b⟩ := b
  rw [← List.append_assoc] at w
  exact b.tp w
theorem BoAll.mono {K : PySem.W.Frag} {A B : List (Addr × HO)} (s : Same G G') (hs : ∀ x ∈ A, x ∈ B) {vs : List V} {ds : List D} (h : BoAll K G A vs ds) : BoAll K G' B vs ds := by
  induction h with
  | nil => exact .nil
  | cons h _ ih => exact .cons (bo_sub s hs h) ih
/-- what may be read of several -/
inductive TpAll (K : PySem.W.Frag) (G H : Hp) : List V → List D → Prop
  | nil : TpAll K G H [] []
  | cons {v : V} {d : D} {vs : List V} {ds : List D} : Tp K G H v d → TpAll K G H vs ds → TpAll K G H (v :: vs) (d :: ds)
theorem BoAll.tp (h : Stx c Γ G H T S env σ m) {vs : List V} {ds : List D} (b : BoAll c.K G (T ++ S) vs ds) : TpAll c.K G H vs ds := by
  induction b with
  | nil => exact .nil
  | cons b _ ih => exact .cons (bo_tp h b) ih
/-! shared, owned, looked at -/
theorem SO.f {te : TE} {ve : VE} (h : SO c Γ te ve) : SF c Γ te ve := fun T G H S env σ m P Q st hv k =>
  h T G H S env σ m P Q st hv fun d m' v G' H' S1 p s st' q => by
    obtain ⟨G2, s2, st2, q2⟩ := Stx.freeze (t := .O) st' q
    exact k d m' v G2 H' p (s.trans s2) st2 q2
theorem SF.b {te : TE} {ve : VE} (h : SF c Γ te ve) : SB c Γ te ve := fun T G H S env σ m P Q st hv k =>
  h T G H S env σ m P Q st hv fun d m' v G' H' p s st' q => k d m' v G' H' [] p s st' ⟨.F, [], fun _ h => absurd h (by simp), rfl, q⟩
theorem SO.b {te : TE} {ve : VE} (h : SO c Γ te ve) : SB c Γ te ve := fun T G H S env σ m P Q st hv k =>
  h T G H S env σ m P Q st hv fun d m' v G' H' S1 p s st' q => k d m' v G' H' S1 p s st' ⟨.O, S1, fun _ h => List.mem_append_left _ h, q⟩
/-! names -/
theorem s_varF (hi : Γ[i]? = some .F) : SF c Γ (tVar i) (vVar i) := fun T G H S env σ m P Q st hv k => by
  obtain ⟨d, e, p⟩ := hv
  obtain ⟨s, C, w, a, z⟩ := id st
  obtain ⟨v, A1, A2, A3, e1, e2, e3, e4⟩ := z.at e hi
  exact ⟨v, e1, k d m v G H p (Same.refl G) st e3.2⟩
theorem s_varB {t : OT} (hi : Γ[i]? = some t) : SB c Γ (tVar i) (vVar i) := fun T G H S env σ m P Q st hv k => by
  obtain ⟨d, e, p⟩ := hv
  obtain ⟨s, C, w, a, z⟩ := id st
  obtain ⟨v, A1, A2, A3, e1, e2, e3, e4⟩ := z.at e hi
  exact ⟨v, e1, k d m v G H [] p (Same.refl G) st ⟨t, A2, fun x hx => by
    rw [e2, List.nil_append]; exact List.mem_append_right _ (List.mem_append_left _ hx), e3⟩⟩
/-! constants -/
theorem s_c {x : V} {d : D} (h : ∀ G, Dd c.K G x d) : SF c Γ (tC x) (vC d) := fun T G H S env σ m P Q st hv k => k d m x G H hv (Same.refl G) st (h G)
theorem s_non : SO c Γ (tC .non) (vC .non) := fun T G H S env σ m P Q st hv k => k .non m .non G H [] hv (Same.refl G) st ⟨rfl, .non⟩
theorem s_bl {b : Bool} : SO c Γ (tC (.bl b)) (vC (.bl b)) := fun T G H S env σ m P Q st hv k => k _ m _ G H [] hv (Same.refl G) st ⟨rfl, .bl b⟩
theorem s_int {b : Int} : SO c Γ (tC (.int b)) (vC (.int b)) := fun T G H S env σ m P Q st hv k => k _ m _ G H [] hv (Same.refl G) st ⟨rfl, .int b⟩
theorem s_str {b : Str} : SO c Γ (tC (.str b)) (vC (.str b)) := fun T G H S env σ m P Q st hv k => k _ m _ G H [] hv (Same.refl G) st ⟨rfl, .str b⟩
theorem s_ty {b : String} : SO c Γ (tC (.ty b)) (vC (.ty b)) := fun T G H S env σ m P Q st hv k => k _ m _ G H [] hv (Same.refl G) st ⟨rfl, .ty b⟩
theorem s_adr {b : Addr} : SO c Γ (tC (.ref b)) (vC (.adr b)) := fun T G H S env σ m P Q st hv k => k _ m _ G H [] hv (Same.refl G) st ⟨rfl, .adr b⟩
/-! arguments -/
theorem a_nil : SA c Γ tNil vNil := fun T G H S env σ m P Q st hv k => k [] m [] G H [] hv (Same.refl G) st .nil
theorem a_cons {te : TE} {ve : VE} {ta : TA} {va : VA} (h : SB c Γ te ve) (t : SA c Γ ta va) : SA c Γ (tCons te ta) (vCons ve va) := fun T G H S env σ m P Q st hv k =>
  h T G H S env σ m _ _ st hv fun d m1 v G1 H1 S1 p1 s1 st1 b1 => t (S1 ++ T) G1 H1 S env σ m1 _ _ st1 p1 fun ds m2 vs G2 H2 S2 p2 s2 st2 b2 =>
    k (d :: ds) m2 (v :: vs) G2 H2 (S2 ++ S1) p2 (s1.trans s2) (by rw [List.append_assoc]; exact st2)
      (.cons (bo_sub s2 (fun x hx => by rcases List.mem_append.mp hx with q | q <;> simp [q]) b1) (b2.mono (Same.refl _) fun x hx => by rcases List.mem_append.mp hx with q | q <;> simp [q]))
theorem g_nil : SG c Γ tNil vNil := fun T G H S env σ m P Q st hv k => k [] m [] G H hv (Same.refl G) st .nil
theorem g_cons {te : TE} {ve : VE} {ta : TA} {va : VA} (h : SF c Γ te ve) (t : SG c Γ ta va) : SG c Γ (tCons te ta) (vCons ve va) := fun T G H S env σ m P Q st hv k =>
  h T G H S env σ m _ _ st hv fun d m1 v G1 H1 p1 s1 st1 b1 => t T G1 H1 S env σ m1 _ _ st1 p1 fun ds m2 vs G2 H2 p2 s2 st2 b2 =>
    k (d :: ds) m2 (v :: vs) G2 H2 p2 (s1.trans s2) st2 (.cons (b1.mono s2) b2)
/-! what an operation hands back: a thing at hand, or a new one -/
/-- no list and no dict -/
def D.im : D → Bool
  | .lst _ | .dic _ => false
  | _ => true
theorem ownTop_im {K : PySem.W.Frag} (h : Dd K G v d) (e : d.im = true) : OwnTop K G [] v d := by
  cases d <;> first | exact ⟨rfl, h⟩ | cases e
inductive Nw (K : PySem.W.Frag) (G H : Hp) : V → Hp → D → Prop
  | old {v : V} {d : D} : Dd K G v d → d.im = true → Nw K G H v H d
  | lst {p : Addr} {vs : List V} {ds : List D} : H p = none → DdAll K G vs ds → Nw K G H (.ref p) (upd H p (.lst vs)) (.lst ds)
  | tup {p : Addr} {vs : List V} {ds : List D} : H p = none → DdAll K G vs ds → Nw K G H (.ref p) (upd H p (.tup vs)) (.tup ds)
  | dic {p : Addr} {kvs : List (Key × V)} {kds : List (Key × D)} : H p = none → kvs.map Prod.fst = kds.map Prod.fst → DdAll K G (kvs.map Prod.snd) (kds.map Prod.snd) → Nw K G H (.ref p) (upd H p (.dK kvs)) (.dic kds)
theorem Nw.own (st : Stx c Γ G H T S env σ m) (n : Nw c.K G H v H' d) : ∃ G' S1, Same G G' ∧ Stx c Γ G' H' (S1 ++ T) S env σ m ∧ OwnTop c.K G' S1 v d := by
  cases n with
  | old h e => exact ⟨G, [], Same.refl G, st, ownTop_im h e⟩
  | lst hp h => exact ⟨G, [(_, _)], Same.refl G, st.new hp, _, _, rfl, rfl, h⟩
  | tup hp h =>
    obtain ⟨st', s⟩ := st.newS hp
    exact ⟨_, [], s, st', rfl, .tup (.inl upd_same) (h.mono s)⟩
  | dic hp e h => exact ⟨G, [(_, _)], Same.refl G, st.new hp, _, _, rfl, rfl, e, h⟩
theorem Stx.ext (st : Stx c Γ G H T S env σ m) {S1 : List (Addr × HO)} {G' H' : Hp} (st' : Stx c Γ G' H' (S1 ++ T) S env σ m) : Stx c Γ G' H' (S1 ++ T) S env σ m := st'
def OpV (K : PySem.W.Frag) (r : R2) (f : D → D → (D → Prop) → Prop) : Prop := ∀ (G H : Hp) (x y : V) (d e : D) (P : D → Prop) (Q : VK), Same G H → Tp K G H x d → Tp K G H y e → f d e P → (∀ z v H', P z → Nw K G H v H' z → Q v H') → r x y H Q
def OpF (K : PySem.W.Frag) (r : R2) (f : D → D → (D → Prop) → Prop) : Prop := ∀ (G H : Hp) (x y : V) (d e : D) (P : D → Prop) (Q : VK), Same G H → Tp K G H x d → Tp K G H y e → f d e P → (∀ z v, P z → Dd K G v z → Q v H) → r x y H Q
def UnV (K : PySem.W.Frag) (r : V → Hp → VK → Prop) (f : D → (D → Prop) → Prop) : Prop := ∀ (G H : Hp) (x : V) (d : D) (P : D → Prop) (Q : VK), Same G H → Tp K G H x d → f d P → (∀ z v H', P z → Nw K G H v H' z → Q v H') → r x H Q
def ClV (K : PySem.W.Frag) (r : List V → Hp → VK → Prop) (f : List D → (D → Prop) → Prop) : Prop := ∀ (G H : Hp) (xs : List V) (ds : List D) (P : D → Prop) (Q : VK), Same G H → TpAll K G H xs ds → f ds P → (∀ z v H', P z → Nw K G H v H' z → Q v H') → r xs H Q
def ClF (K : PySem.W.Frag) (r : List V → Hp → VK → Prop) (f : List D → (D → Prop) → Prop) : Prop := ∀ (G H : Hp) (xs : List V) (ds : List D) (P : D → Prop) (Q : VK), Same G H → TpAll K G H xs ds → f ds P → (∀ z v, P z → Dd K G v z → Q v H) → r xs H Q
def MtV (K : PySem.W.Frag) (T : String) (r : V → List V → Hp → VK → Prop) (f : D → List D → (D → Prop) → Prop) : Prop := ∀ (G H : Hp) (x : V) (d : D) (xs : List V) (ds : List D) (P : D → Prop) (Q : VK), Same G H → Tp K G H x d → TpAll K G H xs ds → f d ds P → (∀ z v H', P z → Nw K G H v H' z → Q v H') → r x xs H Q
theorem s_op {r : R2} {f : D → D → (D → Prop) → Prop} {ta tb : TE} {va vb : VE} (o : OpV c.K r f) (ha : SB c Γ ta va) (hb : SB c Γ tb vb) : SO c Γ (tOp r ta tb) (vOp f va vb) := fun T G H S env σ m P Q st hv k =>
  ha T G H S env σ m _ _ st hv fun x m1 v G1 H1 S1 p1 s1 st1 b1 => hb (S1 ++ T) G1 H1 S env σ m1 _ _ st1 p1 fun y m2 u G2 H2 S2 p2 s2 st2 b2 => by
    have t1 := bo_tp (T := S2 ++ (S1 ++ T)) st2 (bo_sub s2 (B := S2 ++ (S1 ++ T) ++ S) (fun x hx => by rcases List.mem_append.mp hx with q | q <;> simp [q]) b1)
    have t2 := bo_tp (T := S2 ++ (S1 ++ T)) st2 (bo_sub (Same.refl _) (B := S2 ++ (S1 ++ T) ++ S) (fun x hx => by rcases List.mem_append.mp hx with q | q <;> simp [q]) b2)
    refine o G2 H2 v u x y _ _ st2.v t1 t2 p2 fun z w H' pz n => ?_
    obtain ⟨G3, S3, s3, st3, q3⟩ := Nw.own (T := T) (by
      exact st2.dropT.dropT) n
    exact k z m2 w G3 H' S3 pz (s1.trans (s2.trans s3)) st3 q3
theorem s_opF {r : R2} {f : D → D → (D → Prop) → Prop} {ta tb : TE} {va vb : VE} (o : OpF c.K r f) (ha : SB c Γ ta va) (hb : SB c Γ tb vb) : SF c Γ (tOp r ta tb) (vOp f va vb) := fun T G H S env σ m P Q st hv k =>
  ha T G H S env σ m _ _ st hv fun x m1 v G1 H1 S1 p1 s1 st1 b1 => hb (S1 ++ T) G1 H1 S env σ m1 _ _ st1 p1 fun y m2 u G2 H2 S2 p2 s2 st2 b2 => by
    have t1 := bo_tp (T := S2 ++ (S1 ++ T)) st2 (bo_sub s2 (B := S2 ++ (S1 ++ T) ++ S) (fun x hx => by rcases List.mem_append.mp hx with q | q <;> simp [q]) b1)
    have t2 := bo_tp (T := S2 ++ (S1 ++ T)) st2 (bo_sub (Same.refl _) (B := S2 ++ (S1 ++ T) ++ S) (fun x hx => by rcases List.mem_append.mp hx with q | q <;> simp [q]) b2)
    refine o G2 H2 v u x y _ _ st2.v t1 t2 p2 fun z w pz n => ?_
    exact k z m2 w G2 H2 pz (s1.trans s2) st2.dropT.dropT n
theorem s_un {r : V → Hp → VK → Prop} {f : D → (D → Prop) → Prop} {ta : TE} {va : VE} (o : UnV c.K r f) (ha : SB c Γ ta va) : SO c Γ (tUn r ta) (vUn f va) := fun T G H S env σ m P Q st hv k =>
  ha T G H S env σ m _ _ st hv fun x m1 v G1 H1 S1 p1 s1 st1 b1 => by
    have t1 := bo_tp (T := S1 ++ T) st1 (bo_sub (Same.refl _) (B := S1 ++ T ++ S) (fun x hx => by rcases List.mem_append.mp hx with q | q <;> simp [q]) b1)
    refine o G1 H1 v x _ _ st1.v t1 p1 fun z w H' pz n => ?_
    obtain ⟨G3, S3, s3, st3, q3⟩ := Nw.own (T := T) (by
      obtain ⟨s, C, w, a, z⟩ := st1
      exact ⟨s, C, by rw [List.append_assoc] at w; exact w.dropL, a, z⟩) n
    exact k z m1 w G3 H' S3 pz (s1.trans s3) st3 q3
theorem s_cb {r : List V → Hp → VK → Prop} {f : List D → (D → Prop) → Prop} {ta : TA} {va : VA} (o : ClV c.K r f) (ha : SA c Γ ta va) : SO c Γ (tCB r ta) (vCB f va) := fun T G H S env σ m P Q st hv k =>
  ha T G H S env σ m _ _ st hv fun x m1 v G1 H1 S1 p1 s1 st1 b1 => by
    have t1 := BoAll.tp (T := S1 ++ T) st1 (b1.mono (Same.refl _) (B := S1 ++ T ++ S) (fun x hx => by rcases List.mem_append.mp hx with q | q <;> simp [q]))
    refine o G1 H1 v x _ _ st1.v t1 p1 fun z w H' pz n => ?_
    obtain ⟨G3, S3, s3, st3, q3⟩ := Nw.own (T := T) (by
      obtain ⟨s, C, w, a, z⟩ := st1
      exact ⟨s, C, by rw [List.append_assoc] at w; exact w.dropL, a, z⟩) n
    exact k z m1 w G3 H' S3 pz (s1.trans s3) st3 q3
theorem s_cbF {r : List V → Hp → VK → Prop} {f : List D → (D → Prop) → Prop} {ta : TA} {va : VA} (o : ClF c.K r f) (ha : SA c Γ ta va) : SF c Γ (tCB r ta) (vCB f va) := fun T G H S env σ m P Q st hv k =>
  ha T G H S env σ m _ _ st hv fun x m1 v G1 H1 S1 p1 s1 st1 b1 => by
    have t1 := BoAll.tp (T := S1 ++ T) st1 (b1.mono (Same.refl _) (B := S1 ++ T ++ S) (fun x hx => by rcases List.mem_append.mp hx with q | q <;> simp [q]))
    refine o G1 H1 v x _ _ st1.v t1 p1 fun z w pz n => ?_
    refine k z m1 w G1 H1 pz s1 ?_ n
    obtain ⟨s, C, w, a, z⟩ := st1
    exact ⟨s, C, by rw [List.append_assoc] at w; exact w.dropL, a, z⟩
theorem s_lst {ta : TA} {va : VA} (ha : SG c Γ ta va) : SO c Γ (tLst ta) (vLst va) := fun T G H S env σ m P Q st hv k =>
  ha T G H S env σ m _ _ st hv fun ds m1 vs G1 H1 p1 s1 st1 b1 => ⟨by rw [b1.len]; exact p1.1, fun p hp => by
    obtain ⟨G3, S3, s3, st3, q3⟩ := Nw.own st1 (.lst hp b1)
    exact k _ m1 _ G3 _ S3 p1.2 (s1.trans s3) st3 q3⟩
theorem s_tup {ta : TA} {va : VA} (ha : SG c Γ ta va) : SO c Γ (tTup ta) (vTup va) := fun T G H S env σ m P Q st hv k =>
  ha T G H S env σ m _ _ st hv fun ds m1 vs G1 H1 p1 s1 st1 b1 => ⟨by rw [b1.len]; exact p1.1, fun p hp => by
    obtain ⟨G3, S3, s3, st3, q3⟩ := Nw.own st1 (.tup hp b1)
    exact k _ m1 _ G3 _ S3 p1.2 (s1.trans s3) st3 q3⟩
/-! tests -/
theorem Dd.blInv {K : PySem.W.Frag} {b : Bool} (h : Dd K G v (.bl b)) : v = .bl b := by cases h; rfl
theorem Tp.blInv {K : PySem.W.Frag} {b : Bool} (h : Tp K G H v (.bl b)) : v = .bl b := by cases h with | dd h => exact h.blInv
theorem s_test {ta : TE} {va : VE} (ha : SB c Γ ta va) : ST c Γ (tTest ta) (vTest va) := fun T G H S env σ m P Q st hv k =>
  ha T G H S env σ m _ _ st hv fun x m1 v G1 H1 S1 p1 s1 st1 b1 => by
    obtain ⟨b, rfl, p⟩ := p1
    have t1 := bo_tp (T := S1 ++ T) st1 (bo_sub (Same.refl _) (B := S1 ++ T ++ S) (fun x hx => by rcases List.mem_append.mp hx with q | q <;> simp [q]) b1)
    exact ⟨b, t1.blInv, k b m1 G1 H1 S1 p s1 st1⟩
theorem s_and {a b : TT} {x y : VT} (ha : ST c Γ a x) (hb : ST c Γ b y) : ST c Γ (tAnd a b) (vAnd x y) := fun T G H S env σ m P Q st hv k =>
  ha T G H S env σ m _ _ st hv fun z m1 G1 H1 S1 p1 s1 st1 => by
    cases z with
    | true =>
      rw [if_pos rfl] at p1 ⊢
      exact hb (S1 ++ T) G1 H1 S env σ m1 _ _ st1 p1 fun b m2 G2 H2 S2 p2 s2 st2 => k b m2 G2 H2 (S2 ++ S1) p2 (s1.trans s2) (by rw [List.append_assoc]; exact st2)
    | false =>
      rw [if_neg Bool.false_ne_true] at p1 ⊢
      exact k _ m1 G1 H1 S1 p1 s1 st1
theorem s_or {a b : TT} {x y : VT} (ha : ST c Γ a x) (hb : ST c Γ b y) : ST c Γ (tOr a b) (vOr x y) := fun T G H S env σ m P Q st hv k =>
  ha T G H S env σ m _ _ st hv fun z m1 G1 H1 S1 p1 s1 st1 => by
    cases z with
    | true =>
      rw [if_pos rfl] at p1 ⊢
      exact k _ m1 G1 H1 S1 p1 s1 st1
    | false =>
      rw [if_neg Bool.false_ne_true] at p1 ⊢
      exact hb (S1 ++ T) G1 H1 S env σ m1 _ _ st1 p1 fun b m2 G2 H2 S2 p2 s2 st2 => k b m2 G2 H2 (S2 ++ S1) p2 (s1.trans s2) (by rw [List.append_assoc]; exact st2)
theorem s_not {a : TT} {x : VT} (ha : ST c Γ a x) : ST c Γ (tNot a) (vNot x) := fun T G H S env σ m P Q st hv k =>
  ha T G H S env σ m _ _ st hv fun z m1 G1 H1 S1 p1 s1 st1 => k (!z) m1 G1 H1 S1 p1 s1 st1
theorem s_yes : ST c Γ tYes vYes := fun T G H S env σ m P Q st hv k => k true m G H [] hv (Same.refl G) st
theorem s_tru {ta : TE} {va : VE} (ha : SB c Γ ta va) : ST c Γ (tTru c.K ta) (vTru va) := fun T G H S env σ m P Q st hv k =>
  ha T G H S env σ m _ _ st hv fun x m1 v G1 H1 S1 p1 s1 st1 b1 => by
    have t1 := bo_tp (T := S1 ++ T) st1 (bo_sub (Same.refl _) (B := S1 ++ T ++ S) (fun x hx => by rcases List.mem_append.mp hx with q | q <;> simp [q]) b1)
    have sv := st1.v
    have em : ∀ {vs : List V} {ds : List D} {G : Hp}, DdAll c.K G vs ds → vs.isEmpty = ds.isEmpty := fun h => by cases h <;> rfl
    cases x with
    | non => cases t1 with | dd h => cases h; exact ⟨false, rfl, k _ m1 G1 H1 S1 p1 s1 st1⟩
    | bl b => cases t1 with | dd h => cases h; exact ⟨b, rfl, k _ m1 G1 H1 S1 p1 s1 st1⟩
    | int b => cases t1 with | dd h => cases h; exact ⟨_, rfl, k _ m1 G1 H1 S1 p1 s1 st1⟩
    | str b => cases t1 with | dd h => cases h; exact ⟨_, ⟨p1.1, rfl⟩, k _ m1 G1 H1 S1 p1.2 s1 st1⟩
    | lst ds =>
      obtain ⟨a, vs, rfl, h1, h2⟩ := t1.l sv
      exact ⟨_, .inl ⟨vs, SqL.of h1, rfl⟩, by rw [em h2]; exact k _ m1 G1 H1 S1 p1 s1 st1⟩
    | tup ds =>
      obtain ⟨a, vs, rfl, _, h1, h2⟩ := t1.t sv
      exact ⟨_, .inr (.inl ⟨vs, h1, rfl⟩), by rw [em h2]; exact k _ m1 G1 H1 S1 p1 s1 st1⟩
    | dic kds =>
      obtain ⟨a, kvs, rfl, h1, e, h2⟩ := t1.dk sv
      have ek : kvs.isEmpty = kds.isEmpty := by
        cases kvs <;> cases kds <;> first | rfl | simp at e
      exact ⟨_, .inr (.inr ⟨kvs, h1, rfl⟩), by rw [ek]; exact k _ m1 G1 H1 S1 p1 s1 st1⟩
    | _ => exact p1.elim
end
end Ps

/-! WaC: calls, what is walked, comprehensions. -/
namespace Ps
open PySem PySem.Spec PyProof.Rows L2

abbrev VO := Env → Mst → (Option Int → Mst → Prop) → Prop
def vNoPart : VO := fun _ m P => P none m
def vPart (ve : VE) : VO := fun env m P => ve env m fun x m1 => ∃ i, x = .int i ∧ P (some i) m1
def vSl (f : D → Option Int → Option Int → (D → Prop) → Prop) (ve : VE) (vl vh : VO) : VE := fun env m P => ve env m fun x m1 => vl env m1 fun l m2 => vh env m2 fun h m3 => f x l h fun z => P z m3
def isTy : String → D → Bool
  | "str", .str _ => true
  | "list", .lst _ => true
  | "dict", .dic _ => true
  | _, _ => false
/-- a method of what is built in -/
def vBMt (T : String) (f : D → List D → (D → Prop) → Prop) (ve : VE) (va : VA) : VE := fun env m P => ve env m fun x m1 => isTy T x = true ∧ va env m1 fun xs m2 => f x xs fun z => P z m2
def vBM0 (T : String) (f : D → List D → (D → Prop) → Prop) (ve : VE) : VE := fun env m P => ve env m fun x m1 => isTy T x = true ∧ f x [] fun z => P z m1

section
variable {c : JC} {Γ : List OT} {G G' H H' : Hp} {T S S1 S2 R : List (Addr × HO)} {env : Env} {σ : L2.St} {m : Mst} {v : V} {d : D}
theorem tp_ty {K : PySem.W.Frag} {T : String} (s : Same G H) (h : Tp K G H v d) (e : isTy T d = true) : tyV K T v H := by
  unfold isTy at e
  split at e
  · cases h with | dd h => cases h; rfl
  · obtain ⟨a, vs, rfl, h1, h2⟩ := h.l s; exact .inl ⟨rfl, _, SqL.of h1⟩
  · obtain ⟨a, kvs, rfl, h1, h2⟩ := h.dk s; exact .inr (.inr (.inl ⟨rfl, .inl ⟨_, h1⟩⟩))
  · cases e
theorem s_bm {T : String} {r : V → List V → Hp → VK → Prop} {f : D → List D → (D → Prop) → Prop} {te : TE} {ve : VE} {ta : TA} {va : VA} (o : MtV c.K T r f) (he : SB c Γ te ve) (ha : SA c Γ ta va) : SO c Γ (tBM c.K T r te ta) (vBMt T f ve va) := fun T' G H S env σ m P Q st hv k =>
  he T' G H S env σ m _ _ st hv fun x m1 v G1 H1 S1 p1 s1 st1 b1 => by
    have t0 := bo_tp (T := S1 ++ T') st1 (bo_sub (Same.refl _) (B := S1 ++ T' ++ S) (fun x hx => by rcases List.mem_append.mp hx with q | q <;> simp [q]) b1)
    refine ⟨tp_ty st1.v t0 p1.1, ha (S1 ++ T') G1 H1 S env σ m1 _ _ st1 p1.2 fun xs m2 vs G2 H2 S2 p2 s2 st2 b2 => ?_⟩
    have t1 := bo_tp (T := S2 ++ (S1 ++ T')) st2 (bo_sub s2 (B := S2 ++ (S1 ++ T') ++ S) (fun x hx => by rcases List.mem_append.mp hx with q | q <;> simp [q]) b1)
    have t2 := BoAll.tp (T := S2 ++ (S1 ++ T')) st2 (b2.mono (Same.refl _) (B := S2 ++ (S1 ++ T') ++ S) (fun x hx => by rcases List.mem_append.mp hx with q | q <;> simp [q]))
    refine o G2 H2 v x vs xs _ _ st2.v t1 t2 p2 fun z w H' pz n => ?_
    obtain ⟨G3, S3, s3, st3, q3⟩ := Nw.own (T := T') st2.dropT.dropT n
    exact k z m2 w G3 H' S3 pz (s1.trans (s2.trans s3)) st3 q3
theorem s_bm0 {T : String} {r : V → List V → Hp → VK → Prop} {f : D → List D → (D → Prop) → Prop} {te : TE} {ve : VE} (o : MtV c.K T r f) (he : SB c Γ te ve) : SO c Γ (tBM0 c.K T r te) (vBM0 T f ve) := fun T' G H S env σ m P Q st hv k =>
  he T' G H S env σ m _ _ st hv fun x m1 v G1 H1 S1 p1 s1 st1 b1 => by
    have t0 := bo_tp (T := S1 ++ T') st1 (bo_sub (Same.refl _) (B := S1 ++ T' ++ S) (fun x hx => by rcases List.mem_append.mp hx with q | q <;> simp [q]) b1)
    refine ⟨tp_ty st1.v t0 p1.1, ?_⟩
    refine o G1 H1 v x [] [] _ _ st1.v t0 .nil p1.2 fun z w H' pz n => ?_
    obtain ⟨G3, S3, s3, st3, q3⟩ := Nw.own (T := T') st1.dropT n
    exact k z m1 w G3 H' S3 pz (s1.trans s3) st3 q3
/-! ifs in expressions -/
theorem s_ifO {tt : TT} {vt : VT} {ta tb : TE} {va vb : VE} (ht : ST c Γ tt vt) (ha : SO c Γ ta va) (hb : SO c Γ tb vb) : SO c Γ (tIf tt ta tb) (vIfE vt va vb) := fun T G H S env σ m P Q st hv k =>
  ht T G H S env σ m _ _ st hv fun b m1 G1 H1 S1 p1 s1 st1 => by
    cases b with
    | true =>
      rw [if_pos rfl] at p1 ⊢
      exact ha T G1 H1 S env σ m1 _ _ st1.dropT p1 fun d m' v G' H' S2 p s st' q => k d m' v G' H' S2 p (s1.trans s) st' q
    | false =>
      rw [if_neg Bool.false_ne_true] at p1 ⊢
      exact hb T G1 H1 S env σ m1 _ _ st1.dropT p1 fun d m' v G' H' S2 p s st' q => k d m' v G' H' S2 p (s1.trans s) st' q
theorem s_ifF {tt : TT} {vt : VT} {ta tb : TE} {va vb : VE} (ht : ST c Γ tt vt) (ha : SF c Γ ta va) (hb : SF c Γ tb vb) : SF c Γ (tIf tt ta tb) (vIfE vt va vb) := fun T G H S env σ m P Q st hv k =>
  ht T G H S env σ m _ _ st hv fun b m1 G1 H1 S1 p1 s1 st1 => by
    cases b with
    | true =>
      rw [if_pos rfl] at p1 ⊢
      exact ha T G1 H1 S env σ m1 _ _ st1.dropT p1 fun d m' v G' H' p s st' q => k d m' v G' H' p (s1.trans s) st' q
    | false =>
      rw [if_neg Bool.false_ne_true] at p1 ⊢
      exact hb T G1 H1 S env σ m1 _ _ st1.dropT p1 fun d m' v G' H' p s st' q => k d m' v G' H' p (s1.trans s) st' q
theorem SB.tp {te : TE} {ve : VE} (h : SB c Γ te ve) {P : D → Mst → Prop} {Q : VK} (st : Stx c Γ G H T S env σ m) (hv : ve env m P)
    (k : ∀ d m' v G' H' S1, P d m' → Same G G' → Stx c Γ G' H' (S1 ++ T) S env σ m' → Tp c.K G' H' v d → Q v H') : te σ H Q :=
  h T G H S env σ m _ _ st hv fun x m1 v G1 H1 S1 p1 s1 st1 b1 => k x m1 v G1 H1 S1 p1 s1 st1
    (bo_tp (T := S1 ++ T) st1 (bo_sub (Same.refl _) (B := S1 ++ T ++ S) (fun x hx => by rcases List.mem_append.mp hx with q | q <;> simp [q]) b1))
theorem s_andV {ta tb : TE} {va vb : VE} (ha : SB c Γ ta va) (hb : SO c Γ tb vb) : SO c Γ (tAndV ta tb) (vAndV va vb) := fun T G H S env σ m P Q st hv k =>
  ha.tp st hv fun x m1 v G1 H1 S1 p1 s1 st1 t1 => by
    obtain ⟨b, rfl, p⟩ := p1
    refine ⟨b, t1.blInv, ?_⟩
    cases b with
    | true =>
      rw [if_pos rfl] at p ⊢
      exact hb T G1 H1 S env σ m1 _ _ st1.dropT p fun d m' v G' H' S2 p s st' q => k d m' v G' H' S2 p (s1.trans s) st' q
    | false =>
      rw [if_neg Bool.false_ne_true] at p ⊢
      exact k _ m1 _ G1 H1 [] p s1 st1.dropT ⟨rfl, .bl _⟩
theorem s_orV {ta tb : TE} {va vb : VE} (ha : SB c Γ ta va) (hb : SO c Γ tb vb) : SO c Γ (tOrV ta tb) (vOrV va vb) := fun T G H S env σ m P Q st hv k =>
  ha.tp st hv fun x m1 v G1 H1 S1 p1 s1 st1 t1 => by
    obtain ⟨b, rfl, p⟩ := p1
    refine ⟨b, t1.blInv, ?_⟩
    cases b with
    | true =>
      rw [if_pos rfl] at p ⊢
      exact k _ m1 _ G1 H1 [] p s1 st1.dropT ⟨rfl, .bl _⟩
    | false =>
      rw [if_neg Bool.false_ne_true] at p ⊢
      exact hb T G1 H1 S env σ m1 _ _ st1.dropT p fun d m' v G' H' S2 p s st' q => k d m' v G' H' S2 p (s1.trans s) st' q
theorem s_notV {ta : TE} {va : VE} (ha : SB c Γ ta va) : SO c Γ (tNotV ta) (vNotV va) := fun T G H S env σ m P Q st hv k =>
  ha.tp st hv fun x m1 v G1 H1 S1 p1 s1 st1 t1 => by
    obtain ⟨b, rfl, p⟩ := p1
    exact ⟨b, t1.blInv, k _ m1 _ G1 H1 [] p s1 st1.dropT ⟨rfl, .bl _⟩⟩
theorem nw_bl {K : PySem.W.Frag} {b : Bool} (n : Nw K G H v H' (.bl b)) : v = .bl b ∧ H' = H := by
  cases n with | old h _ => exact ⟨h.blInv, rfl⟩
theorem s_chain {r r' : R2} {f g : D → D → (D → Prop) → Prop} {ta tb tc : TE} {va vb vc : VE} (o : OpV c.K r f) (o' : OpV c.K r' g) (ha : SB c Γ ta va) (hb : SB c Γ tb vb) (hc : SB c Γ tc vc) : SO c Γ (tChain r r' ta tb tc) (vChain f g va vb vc) := fun T G H S env σ m P Q st hv k =>
  ha T G H S env σ m _ _ st hv fun x m1 v G1 H1 S1 p1 s1 st1 b1 => hb (S1 ++ T) G1 H1 S env σ m1 _ _ st1 p1 fun y m2 u G2 H2 S2 p2 s2 st2 b2 => by
    have t1 := bo_tp (T := S2 ++ (S1 ++ T)) st2 (bo_sub s2 (B := S2 ++ (S1 ++ T) ++ S) (fun x hx => by rcases List.mem_append.mp hx with q | q <;> simp [q]) b1)
    have t2 := bo_tp (T := S2 ++ (S1 ++ T)) st2 (bo_sub (Same.refl _) (B := S2 ++ (S1 ++ T) ++ S) (fun x hx => by rcases List.mem_append.mp hx with q | q <;> simp [q]) b2)
    refine o G2 H2 v u x y _ _ st2.v t1 t2 p2 fun z w H' pz n => ?_
    obtain ⟨b, rfl, pz⟩ := pz
    obtain ⟨rfl, rfl⟩ := nw_bl n
    refine ⟨b, rfl, ?_⟩
    cases b with
    | true =>
      rw [if_pos rfl] at pz ⊢
      exact hc (S2 ++ (S1 ++ T)) G2 H' S env σ m2 _ _ st2 pz fun w m3 q G3 H3 S3 p3 s3 st3 b3 => by
        have t2' := bo_tp (T := S3 ++ (S2 ++ (S1 ++ T))) st3 (bo_sub s3 (B := S3 ++ (S2 ++ (S1 ++ T)) ++ S) (fun x hx => by rcases List.mem_append.mp hx with q | q <;> simp [q]) b2)
        have t3 := bo_tp (T := S3 ++ (S2 ++ (S1 ++ T))) st3 (bo_sub (Same.refl _) (B := S3 ++ (S2 ++ (S1 ++ T)) ++ S) (fun x hx => by rcases List.mem_append.mp hx with q | q <;> simp [q]) b3)
        refine o' G3 H3 u q y w _ _ st3.v t2' t3 p3 fun z w H' pz n => ?_
        obtain ⟨G4, S4, s4, st4, q4⟩ := Nw.own (T := T) st3.dropT.dropT.dropT n
        exact k z m3 _ G4 H' S4 pz (s1.trans (s2.trans (s3.trans s4))) st4 q4
    | false =>
      rw [if_neg Bool.false_ne_true] at pz ⊢
      exact k _ m2 _ G2 H' [] pz (s1.trans s2) st2.dropT.dropT ⟨rfl, .bl _⟩
/-! slices -/
def SP (c : JC) (Γ : List OT) (tl : TO) (vl : VO) : Prop := ∀ (T : List (Addr × HO)) (G H : Hp) (S : List (Addr × HO)) (env : Env) (σ : L2.St) (m : Mst) (P : Option Int → Mst → Prop) (Q : Option Int → Hp → Prop), Stx c Γ G H T S env σ m → vl env m P →
  (∀ x m' G' H' S1, P x m' → Same G G' → Stx c Γ G' H' (S1 ++ T) S env σ m' → Q x H') → tl σ H Q
theorem s_nopart : SP c Γ tNoPart vNoPart := fun T G H S env σ m P Q st hv k => k none m G H [] hv (Same.refl G) st
theorem Tp.intInv {K : PySem.W.Frag} {i : Int} (h : Tp K G H v (.int i)) : v = .int i := by cases h with | dd h => cases h; rfl
theorem Tp.strInv {K : PySem.W.Frag} {i : Str} (h : Tp K G H v (.str i)) : v = .str i := by cases h with | dd h => cases h; rfl
theorem s_part {te : TE} {ve : VE} (he : SB c Γ te ve) : SP c Γ (tPart te) (vPart ve) := fun T G H S env σ m P Q st hv k =>
  he.tp st hv fun x m1 v G1 H1 S1 p1 s1 st1 t1 => by
    obtain ⟨i, rfl, p⟩ := p1
    exact ⟨i, t1.intInv, k _ m1 G1 H1 S1 p s1 st1⟩
def SlV (K : PySem.W.Frag) (r : V → Option Int → Option Int → Hp → VK → Prop) (f : D → Option Int → Option Int → (D → Prop) → Prop) : Prop :=
  ∀ (G H : Hp) (x : V) (d : D) (lo hi : Option Int) (P : D → Prop) (Q : VK), Same G H → Tp K G H x d → f d lo hi P → (∀ z v H', P z → Nw K G H v H' z → Q v H') → r x lo hi H Q
theorem s_sl {r : V → Option Int → Option Int → Hp → VK → Prop} {f : D → Option Int → Option Int → (D → Prop) → Prop} {te : TE} {ve : VE} {tl th : TO} {vl vh : VO} (o : SlV c.K r f) (he : SB c Γ te ve) (hl : SP c Γ tl vl) (hh : SP c Γ th vh) : SO c Γ (tSl r te tl th) (vSl f ve vl vh) := fun T G H S env σ m P Q st hv k =>
  he T G H S env σ m _ _ st hv fun x m1 v G1 H1 S1 p1 s1 st1 b1 => hl (S1 ++ T) G1 H1 S env σ m1 _ _ st1 p1 fun lo m2 G2 H2 S2 p2 s2 st2 => hh (S2 ++ (S1 ++ T)) G2 H2 S env σ m2 _ _ st2 p2 fun hi m3 G3 H3 S3 p3 s3 st3 => by
    have t1 := bo_tp (T := S3 ++ (S2 ++ (S1 ++ T))) st3 (bo_sub (s2.trans s3) (B := S3 ++ (S2 ++ (S1 ++ T)) ++ S) (fun x hx => by rcases List.mem_append.mp hx with q | q <;> simp [q]) b1)
    refine o G3 H3 v x lo hi _ _ st3.v t1 p3 fun z w H' pz n => ?_
    obtain ⟨G4, S4, s4, st4, q4⟩ := Nw.own (T := T) st3.dropT.dropT.dropT n
    exact k z m3 w G4 H' S4 pz (s1.trans (s2.trans (s3.trans s4))) st4 q4
/-! calls -/
theorem Wd.toC {A B C R : List (Addr × HO)} (w : Wd (A ++ (B ++ (C ++ R))) G H) : Wd (C ++ (A ++ (B ++ R))) G H := w.perm (by
  have h1 : (C ++ (A ++ (B ++ R))).Perm (A ++ (C ++ (B ++ R))) := List.perm_append_comm_assoc C A (B ++ R)
  have h2 : (C ++ (B ++ R)).Perm (B ++ (C ++ R)) := List.perm_append_comm_assoc C B R
  exact h1.trans (h2.append_left A))
theorem Wd.ofC {A B C R : List (Addr × HO)} (w : Wd (C ++ (A ++ (B ++ R))) G H) : Wd (A ++ (B ++ (C ++ R))) G H := w.perm (by
  have h1 : (C ++ (A ++ (B ++ R))).Perm (A ++ (C ++ (B ++ R))) := List.perm_append_comm_assoc C A (B ++ R)
  have h2 : (C ++ (B ++ R)).Perm (B ++ (C ++ R)) := List.perm_append_comm_assoc C B R
  exact (h1.trans (h2.append_left A)).symm)
/-- a call keeps what its caller holds -/
theorem run_spV {t : OT} {vsp : VSp} {W : XK} {VX : XV} (st : Stx c Γ G H T S env σ m) {vs : List V} {ds : List D} (h : DdAll c.K G vs ds) {P : D → Mst → Prop} {Q : VK} (hv : vsp ds m P VX)
    (k : ∀ d m' v G' H' S1, P d m' → Same G G' → Stx c Γ G' H' (S1 ++ T) S env σ m' → Own c.K G' t S1 v d → Q v H')
    (kx : ∀ C fs m' dd G' H', VX C fs m' → Same G G' → Stx c Γ G' H' T S env σ m' → ExcAt c.K G' dd fs → W (.ref C) dd H') : spV c.K t vsp vs H Q W := by
  obtain ⟨s, C, w, a, z⟩ := st
  refine ⟨ds, G, T ++ (S ++ c.R), C, m, P, VX, w.toC, a, h, hv, fun d m' v H' G' S1 C' p s' w' a' o => ?_, fun cl fs m' dd H' G' C' p s' w' a' o => ?_⟩
  · refine k d m' v G' H' S1 p s' ⟨s.trans s', C', ?_, a', z.mono s'⟩ o
    rw [List.append_assoc]
    refine w'.perm (List.Perm.append_left S1 ?_)
    have h1 : (C' ++ (T ++ (S ++ c.R))).Perm (T ++ (C' ++ (S ++ c.R))) := List.perm_append_comm_assoc C' T (S ++ c.R)
    have h2 : (C' ++ (S ++ c.R)).Perm (S ++ (C' ++ c.R)) := List.perm_append_comm_assoc C' S c.R
    exact (h1.trans (h2.append_left T)).symm
  · exact kx cl fs m' dd G' H' p s' ⟨s.trans s', C', w'.ofC, a', z.mono s'⟩ o
theorem s_callF {vsp : VSp} {E : XK} {ta : TA} {va : VA} (ha : SG c Γ ta va) : SF c Γ (tCall (spV c.K .F vsp) [] E ta) (vCall vsp va) := fun T G H S env σ m P Q st hv k =>
  ha T G H S env σ m _ _ st hv fun ds m1 vs G1 H1 p1 s1 st1 b1 => by
    rw [List.append_nil]
    exact run_spV st1 b1 p1 (fun d m' v G' H' S1 p s st' o => by
      obtain ⟨rfl, o⟩ := o
      exact k d m' v G' H' p (s1.trans s) st' o) fun _ _ _ _ _ _ h => h.elim
theorem s_callO {vsp : VSp} {E : XK} {ta : TA} {va : VA} (ha : SG c Γ ta va) : SO c Γ (tCall (spV c.K .O vsp) [] E ta) (vCall vsp va) := fun T G H S env σ m P Q st hv k =>
  ha T G H S env σ m _ _ st hv fun ds m1 vs G1 H1 p1 s1 st1 b1 => by
    rw [List.append_nil]
    exact run_spV st1 b1 p1 (fun d m' v G' H' S1 p s st' o => k d m' v G' H' S1 p (s1.trans s) st' o) fun _ _ _ _ _ _ h => h.elim
theorem s_callSF {vsp : VSp} {W : WX} {VW : XW} {ta : TA} {va : VA} (hx : ExOk c Γ W VW) (ha : SG c Γ ta va) : SF c Γ (tCallS (spV c.K .F vsp) (WE W) ta) (vCallS vsp VW va) := fun T G H S env σ m P Q st hv k =>
  ha T G H S env σ m _ _ st hv fun ds m1 vs G1 H1 p1 s1 st1 b1 =>
    run_spV st1 b1 p1 (fun d m' v G' H' S1 p s st' o => by
      obtain ⟨rfl, o⟩ := o
      exact k d m' v G' H' p (s1.trans s) st' o) fun C fs m' dd G' H' h s st' o => hx G' H' S env σ m' C fs dd st'.drop o h
theorem s_callSO {vsp : VSp} {W : WX} {VW : XW} {ta : TA} {va : VA} (hx : ExOk c Γ W VW) (ha : SG c Γ ta va) : SO c Γ (tCallS (spV c.K .O vsp) (WE W) ta) (vCallS vsp VW va) := fun T G H S env σ m P Q st hv k =>
  ha T G H S env σ m _ _ st hv fun ds m1 vs G1 H1 p1 s1 st1 b1 =>
    run_spV st1 b1 p1 (fun d m' v G' H' S1 p s st' o => k d m' v G' H' S1 p (s1.trans s) st' o) fun C fs m' dd G' H' h s st' o => hx G' H' S env σ m' C fs dd st'.drop o h
/-! a call that hands back a scalar: its arguments are looked at alone -/
/-- all that stands but what C holds -/
noncomputable def allBut (H : Hp) (C : List (Addr × HO)) : Hp := fun a => open Classical in if a ∈ C.map Prod.fst then none else H a
theorem allBut_of {C : List (Addr × HO)} {a : Addr} (h : a ∉ C.map Prod.fst) : allBut H C a = H a := by unfold allBut; rw [if_neg h]
theorem allBut_in {C : List (Addr × HO)} {a : Addr} (h : a ∈ C.map Prod.fst) : allBut H C a = none := by unfold allBut; rw [if_pos h]
theorem allBut_le (C : List (Addr × HO)) : Same (allBut H C) H := fun a o e => by
  by_cases h : a ∈ C.map Prod.fst
  · rw [allBut_in h] at e; cases e
  · rw [allBut_of h] at e; exact e
theorem allBut_ge {C : List (Addr × HO)} (w : Wd C G H) : Same G (allBut H C) := fun a o e => by
  by_cases h : a ∈ C.map Prod.fst
  · obtain ⟨x, hx, rfl⟩ := List.mem_map.mp h
    rw [(w.2.1 x hx).2] at e; cases e
  · rw [allBut_of h]; exact w.1 _ _ e
theorem allBut_wd {C : List (Addr × HO)} (w : Wd C G H) : Wd C (allBut H C) H := ⟨allBut_le C, fun x hx => ⟨(w.2.1 x hx).1, allBut_in (List.mem_map.mpr ⟨x, hx, rfl⟩)⟩, w.2.2⟩
theorem wd_apart {A B : List (Addr × HO)} (w : Wd (A ++ B) G H) {x : Addr × HO} (hx : x ∈ A) : x.1 ∉ B.map Prod.fst := fun h => by
  have nd := w.2.2
  rw [List.map_append] at nd
  exact (List.nodup_append.mp nd).2.2 x.1 (List.mem_map.mpr ⟨x, hx, rfl⟩) x.1 h rfl
theorem Bo.all {A B : List (Addr × HO)} {t : OT} (w : Wd (A ++ B) G H) {K : PySem.W.Frag} (b : Bo K G A t v d) : Dd K (allBut H B) v d := by
  have hg : Same G (allBut H B) := allBut_ge w.dropL
  obtain ⟨S', h1, h2⟩ := b
  have hm : ∀ x ∈ S', allBut H B x.1 = some x.2 := fun x hx => by
    rw [allBut_of (wd_apart w (h1 x hx))]
    exact w.mem (List.mem_append_left _ (h1 x hx))
  cases t with
  | F => exact h2.2.mono hg
  | O =>
    cases d with
    | lst ds =>
      obtain ⟨a, vs, rfl, rfl, h⟩ := h2
      exact .lst (hm _ List.mem_cons_self) (h.mono hg)
    | dic kds =>
      obtain ⟨a, vs, rfl, rfl, e, h⟩ := h2
      exact .dic (hm _ List.mem_cons_self) e rfl rfl rfl (h.mono hg)
    | _ => exact h2.2.mono hg
theorem BoAll.all {A B : List (Addr × HO)} (w : Wd (A ++ B) G H) {K : PySem.W.Frag} {vs : List V} {ds : List D} (b : BoAll K G A vs ds) : DdAll K (allBut H B) vs ds := by
  induction b with
  | nil => exact .nil
  | cons b _ ih => exact .cons (b.elim fun t b => b.all w) ih
theorem dd_sc {K : PySem.W.Frag} (h : Dd K G v d) (e : d.sc = true) : Dd K G' v d := by
  cases h <;> first | exact absurd e Bool.false_ne_true | constructor
/-- scalars, tuples of such -/
inductive D.Im : D → Prop
  | non : D.Im .non
  | bl (b : Bool) : D.Im (.bl b)
  | int (i : Int) : D.Im (.int i)
  | str (s : Str) : D.Im (.str s)
  | ty (n : String) : D.Im (.ty n)
  | adr (a : Addr) : D.Im (.adr a)
  | tup {ds : List D} : (∀ d ∈ ds, D.Im d) → D.Im (.tup ds)
/-- what a call that looks alone may hand back: such a thing, or a list of one's own of such -/
def D.Fr (d : D) : Prop := D.Im d ∨ ∃ ds, d = .lst ds ∧ ∀ x ∈ ds, D.Im x
theorem D.Im.of_sc {d : D} (e : d.sc = true) : D.Im d := by
  cases d <;> first | exact absurd e Bool.false_ne_true | constructor
/-- what may change: lists, dicts, instances -/
inductive Chg : HO → Prop
  | lst (vs : List V) : Chg (.lst vs)
  | dK (kvs : List (Key × V)) : Chg (.dK kvs)
  | ins (C dx : Addr) (fs : List (Str × V)) : Chg (.ins C dx fs)
  | own (a : Addr) : Chg (.own a)
/-- what never changes and is in G is in G' -/
def TupS (G G' : Hp) : Prop := ∀ a o, G a = some o → ¬ Chg o → G' a = some o
theorem TupS.tup (s : TupS G G') {a : Addr} {vs : List V} (h : G a = some (.tup vs)) : G' a = some (.tup vs) := s _ _ h (fun z => by cases z)
theorem TupS.xd (s : TupS G G') {a : Addr} {vs : List (Str × V)} (h : G a = some (.xd vs)) : G' a = some (.xd vs) := s _ _ h (fun z => by cases z)
theorem TupS.exv (s : TupS G G') {a b C : Addr} {d : Option Addr} (h : G a = some (exv b C d)) : G' a = some (exv b C d) := s _ _ h (fun z => by unfold Ps.exv at z; cases z)
mutual
theorem dd_im {K : PySem.W.Frag} (s : TupS G G') : ∀ {v : V} {d : D}, Dd K G v d → D.Im d → Dd K G' v d
  | _, _, .non, _ => .non
  | _, _, .bl b, _ => .bl b
  | _, _, .int i, _ => .int i
  | _, _, .str x, _ => .str x
  | _, _, .adr a, _ => .adr a
  | _, _, .ty n, _ => .ty n
  | _, _, .tup h a, e => .tup (h.elim (fun h => .inl (s.tup h)) .inr) (dd_ims s a (by cases e with | tup e => exact e))
  | _, _, .scr h, e => by cases e
  | _, _, .lst h a, e => by cases e
  | _, _, .dic h e1 e2 e3 e4 a, e => by cases e
  | _, _, .obj h1 h2 e1 e2 e3 e4 a, e => by cases e
  | _, _, .exc0 h1, e => by cases e
  | _, _, .exc1 h1 h2 e1 e2 e3 e4 a, e => by cases e
theorem dd_ims {K : PySem.W.Frag} (s : TupS G G') : ∀ {vs : List V} {ds : List D}, DdAll K G vs ds → (∀ d ∈ ds, D.Im d) → DdAll K G' vs ds
  | _, _, .nil, _ => .nil
  | _, _, .cons h t, e => .cons (dd_im s h (e _ List.mem_cons_self)) (dd_ims s t fun d hd => e d (List.mem_cons_of_mem _ hd))
end
/-- all that is owned may change -/
def AllChg (S : List (Addr × HO)) : Prop := ∀ x ∈ S, Chg x.2
theorem Slots.chg {K : PySem.W.Frag} (h : Slots K G Γ S env σ) : AllChg S := by
  induction h with
  | nil => exact fun x hx => absurd hx (by simp)
  | no _ ih => exact ih
  | @yes t Γ S1 S env d v σ q _ ih =>
    intro x hx
    rcases List.mem_append.mp hx with h | h
    · cases t with
      | F => obtain ⟨rfl, _⟩ := q; exact absurd h (by simp)
      | O =>
        cases d with
        | lst ds => obtain ⟨a, vs, _, rfl, _⟩ := q; rw [List.mem_singleton] at h; subst h; exact .lst _
        | dic ds => obtain ⟨a, vs, _, rfl, _⟩ := q; rw [List.mem_singleton] at h; subst h; exact .dK _
        | _ => obtain ⟨rfl, _⟩ := q; exact absurd h (by simp)
    · exact ih x h
theorem Cell.chg {K : PySem.W.Frag} {a : Addr} {d : D} {C : List (Addr × HO)} (q : Cell K G a d C) : AllChg C := by
  intro x h
  cases d with
  | lst ds => obtain ⟨vs, rfl, _⟩ := q; rw [List.mem_singleton] at h; subst h; exact .lst _
  | dic ds => obtain ⟨vs, rfl, _⟩ := q; rw [List.mem_singleton] at h; subst h; exact .dK _
  | obj Cl gs =>
    obtain ⟨dx, fs, rfl, _⟩ := q
    rcases List.mem_cons.mp h with rfl | h
    · exact .ins _ _ _
    · rw [List.mem_singleton] at h; subst h; exact .own _
  | _ => exact q.elim
theorem Cells.chg {K : PySem.W.Frag} {L : List (Addr × D)} {C : List (Addr × HO)} (h : Cells K G L C) : AllChg C := by
  induction h with
  | nil => exact fun x hx => absurd hx (by simp)
  | @cons a d L C1 C2 q _ ih =>
    intro x hx
    rcases List.mem_append.mp hx with h | h
    · exact q.chg x h
    · exact ih x h
theorem Amb.chg {K : PySem.W.Frag} {C : List (Addr × HO)} (h : Amb K G m C) : AllChg C := by
  obtain ⟨C1, C2, rfl, a, L, l, c⟩ := h
  intro x hx
  rcases List.mem_append.mp hx with h | h
  · obtain ⟨md, ms⟩ := m
    cases md with
    | none => obtain rfl : C1 = [] := a; exact absurd h (by simp)
    | some p =>
      obtain ⟨c, t, ns, rfl, _⟩ := a
      rcases List.mem_cons.mp h with rfl | h
      · exact .dK _
      · rw [List.mem_singleton] at h; subst h; exact .lst _
  · exact c.chg x h
/-! what the store tells, put in -/
/-- d with what the store tells of it, as far as is asked -/
inductive Rs (s : Sto) : D → D → Prop
  | refl (d : D) : Rs s d d
  | lst {ds es : List D} : ds.length = es.length → (∀ (i : Nat) (d e : D), ds[i]? = some d → es[i]? = some e → Rs s d e) → Rs s (.lst ds) (.lst es)
  | tup {ds es : List D} : ds.length = es.length → (∀ (i : Nat) (d e : D), ds[i]? = some d → es[i]? = some e → Rs s d e) → Rs s (.tup ds) (.tup es)
  | ptr {a : Addr} {d e : D} : s a = some d → Rs s d e → Rs s (.adr a) e
  | dic {ks : List Key} {ds es : List (Key × D)} : ds.map Prod.fst = ks → es.map Prod.fst = ks → (∀ (i : Nat) (d e : Key × D), ds[i]? = some d → es[i]? = some e → Rs s d.2 e.2) → Rs s (.dic ds) (.dic es)
def RsAll (s : Sto) (ds es : List D) : Prop := ds.length = es.length ∧ ∀ (i : Nat) (d e : D), ds[i]? = some d → es[i]? = some e → Rs s d e
theorem RsAll.refl (s : Sto) (ds : List D) : RsAll s ds ds := ⟨rfl, fun i d e h1 h2 => by rw [h1] at h2; cases h2; exact .refl d⟩
theorem RsAll.nil {s : Sto} : RsAll s [] [] := .refl _ _
theorem RsAll.cons {s : Sto} {d e : D} {ds es : List D} (h : Rs s d e) (t : RsAll s ds es) : RsAll s (d :: ds) (e :: es) :=
  ⟨by rw [List.length_cons, List.length_cons, t.1], fun i x y h1 h2 => by
    cases i with
    | zero => simp at h1 h2; subst h1; subst h2; exact h
    | succ i => exact t.2 i x y (by simpa using h1) (by simpa using h2)⟩
theorem DdAll.of_get {K : PySem.W.Frag} : ∀ {vs : List V} {es : List D}, vs.length = es.length → (∀ (i : Nat) (v : V) (e : D), vs[i]? = some v → es[i]? = some e → Dd K G v e) → DdAll K G vs es
  | [], [], _, _ => .nil
  | [], _ :: _, h, _ => by simp at h
  | _ :: _, [], h, _ => by simp at h
  | v :: vs, e :: es, h, f => .cons (f 0 v e rfl rfl) (DdAll.of_get (by simpa using h) fun i v e h1 h2 => f (i + 1) v e (by simpa using h1) (by simpa using h2))
theorem rs_dd {K : PySem.W.Frag} {s : Sto} (hs : ∀ a d, s a = some d → Dd K G (.ref a) d) {d e : D} (h : Rs s d e) : ∀ {v : V}, Dd K G v d → Dd K G v e := by
  induction h with
  | refl d => exact fun q => q
  | @lst ds es hl _ ih =>
    intro v q
    cases q with
    | lst h1 h2 =>
      refine .lst h1 (DdAll.of_get (by rw [h2.len, hl]) fun i v e h3 h4 => ?_)
      obtain ⟨d, h5, h6⟩ := h2.getV h3
      exact ih i d e h5 h4 h6
  | @tup ds es hl _ ih =>
    intro v q
    cases q with
    | tup h1 h2 =>
      refine .tup h1 (DdAll.of_get (by rw [h2.len, hl]) fun i v e h3 h4 => ?_)
      obtain ⟨d, h5, h6⟩ := h2.getV h3
      exact ih i d e h5 h4 h6
  | ptr e _ ih =>
    intro v q
    cases q
    exact ih (hs _ _ e)
  | @dic ks ds es e1 e2 _ ih =>
    intro v q
    cases q with
    | dic h1 k1 k2 k3 k4 h2 =>
      subst k3; subst k4
      have hl : ds.length = es.length := by have := congrArg List.length (e1.trans e2.symm); simpa using this
      refine .dic h1 k1 (by rw [e2, ← k2, e1]) rfl rfl (DdAll.of_get (by rw [h2.len, List.length_map, List.length_map, hl]) fun i v e h3 h4 => ?_)
      obtain ⟨d, h5, h6⟩ := h2.getV h3
      rw [List.getElem?_map] at h5 h4
      obtain ⟨x, hx, rfl⟩ := Option.map_eq_some_iff.mp h5
      obtain ⟨y, hy, rfl⟩ := Option.map_eq_some_iff.mp h4
      exact ih i x y hx hy h6
/-- the cells of the store, where they are -/
theorem Cells.at {K : PySem.W.Frag} {L : List (Addr × D)} {C : List (Addr × HO)} (h : Cells K G L C) : ∀ {a : Addr} {d : D}, L.lookup a = some d → ∃ A C1 B, C = A ++ (C1 ++ B) ∧ Cell K G a d C1 ∧
    ∀ (d' : D) (C1' : List (Addr × HO)), Cell K G a d' C1' → ∃ L', (∀ b, L'.lookup b = if b = a then some d' else L.lookup b) ∧ Cells K G L' (A ++ (C1' ++ B)) := by
  induction h with
  | nil => intro a d e; cases e
  | @cons b d0 L C1 C2 q r ih =>
    intro a d e
    rw [List.lookup_cons] at e
    by_cases z : a = b
    · subst z
      rw [beq_self_eq_true] at e
      cases e
      refine ⟨[], C1, C2, rfl, q, fun d' C1' q' => ⟨(a, d') :: L, fun b => ?_, by rw [List.nil_append]; exact .cons q' r⟩⟩
      rw [List.lookup_cons, List.lookup_cons]
      by_cases z : b = a
      · subst z; rw [beq_self_eq_true, if_pos rfl]
      · rw [beq_eq_false_iff_ne.mpr z, if_neg z]
    · rw [beq_eq_false_iff_ne.mpr z] at e
      obtain ⟨A, D1, B, e1, e2, e3⟩ := ih e
      refine ⟨C1 ++ A, D1, B, by rw [e1, List.append_assoc], e2, fun d' C1' q' => ?_⟩
      obtain ⟨L', e4, e5⟩ := e3 d' C1' q'
      refine ⟨(b, d0) :: L', fun x => ?_, by rw [List.append_assoc]; exact .cons q e5⟩
      rw [List.lookup_cons, List.lookup_cons]
      by_cases y : x = b
      · subst y; rw [beq_self_eq_true, if_neg (fun w => z w.symm)]
      · rw [beq_eq_false_iff_ne.mpr y]; exact e4 x
theorem Amb.at {K : PySem.W.Frag} {C : List (Addr × HO)} (h : Amb K G m C) {a : Addr} {d : D} (e : m.2 a = some d) : ∃ A C1 B, C = A ++ (C1 ++ B) ∧ Cell K G a d C1 ∧ ∀ (d' : D) (C1' : List (Addr × HO)), Cell K G a d' C1' → Amb K G (m.1, sput m.2 a d') (A ++ (C1' ++ B)) := by
  obtain ⟨D1, D2, rfl, am, L, l, c⟩ := h
  obtain ⟨A, C1, B, rfl, q, f⟩ := c.at (by rw [← l a]; exact e)
  refine ⟨D1 ++ A, C1, B, by rw [List.append_assoc], q, fun d' C1' q' => ?_⟩
  obtain ⟨L', e4, e5⟩ := f d' C1' q'
  refine ⟨D1, A ++ (C1' ++ B), by rw [List.append_assoc], am, L', fun b => ?_, e5⟩
  show sput m.2 a d' b = _
  unfold sput
  rw [e4 b, l b]
/-- what is in a cell stands, seen with all but B -/
theorem Cell.dd {K : PySem.W.Frag} {G' : Hp} (s : Same G G') {a : Addr} {d : D} {C : List (Addr × HO)} (q : Cell K G a d C) (h : ∀ x ∈ C, G' x.1 = some x.2) : Dd K G' (.ref a) d := by
  cases d with
  | lst ds => obtain ⟨vs, rfl, e⟩ := q; exact .lst (h _ List.mem_cons_self) (e.mono s)
  | dic ds => obtain ⟨vs, rfl, e1, e⟩ := q; exact .dic (h _ List.mem_cons_self) e1 rfl rfl rfl (e.mono s)
  | obj Cl gs => obtain ⟨dx, fs, rfl, e1, e⟩ := q; exact .obj (h _ List.mem_cons_self) (h _ (List.mem_cons_of_mem _ List.mem_cons_self)) e1 rfl rfl rfl (e.mono s)
  | _ => exact q.elim
theorem wd_allBut {L : List (Addr × HO)} (h : ∀ x ∈ L, H x.1 = some x.2) (nd : (L.map Prod.fst).Nodup) : Wd L (allBut H L) H := ⟨allBut_le L, fun x hx => ⟨h x hx, allBut_in (List.mem_map.mpr ⟨x, hx, rfl⟩)⟩, nd⟩
def frOk : OT → D → Prop
  | .F, d => D.Im d
  | .O, d => D.Fr d
/-- a call whose arguments are looked at alone -/
def vCallB (t : OT) (vsp : VSp) (va : VA) : VE := fun env m P => va env m fun ds m1 => ∃ es, RsAll m1.2 ds es ∧ vsp es (none, emp) (fun d _ => frOk t d ∧ P d m1) fun _ _ _ => False
def vCallBS (t : OT) (vsp : VSp) (VW : XW) (va : VA) : VE := fun env m P => va env m fun ds m1 => ∃ es, RsAll m1.2 ds es ∧ vsp es (none, emp) (fun d _ => frOk t d ∧ P d m1) fun C fs _ => (∀ f ∈ fs, D.Im f.2) ∧ VW C fs env m1
theorem Im.im {d : D} (h : D.Im d) : d.im = true := by cases h <;> rfl
theorem run_look {vsp : VSp} {t : OT} {W : XK} {VX : XV} (st : Stx c Γ G H (S1 ++ T) S env σ m) {vs : List V} {ds es : List D} (b : BoAll c.K G (S1 ++ S) vs ds) (hr : RsAll m.2 ds es) {P : D → Prop} {Q : VK} (hv : vsp es (none, emp) (fun d _ => frOk t d ∧ P d) VX)
    (k : ∀ d v G' H' S2, P d → Same G G' → Stx c Γ G' H' (S2 ++ T) S env σ m → OwnTop c.K G' S2 v d → Q v H')
    (kx : ∀ C fs m' dd G' H', VX C fs m' → (∀ f ∈ fs, D.Im f.2) → Same G G' → Stx c Γ G' H' T S env σ m → ExcAt c.K G' dd fs → W (.ref C) dd H') (hx : ∀ C fs m', VX C fs m' → ∀ f ∈ fs, D.Im f.2) : spV c.K t vsp vs H Q W := by
  obtain ⟨s, C, w, a, z⟩ := st
  have w1 : Wd ((S1 ++ (S ++ C)) ++ (T ++ c.R)) G H := w.perm (by
    have h1 : ((S1 ++ (S ++ C)) ++ (T ++ c.R)).Perm (S1 ++ (T ++ (S ++ (C ++ c.R)))) := by
      rw [List.append_assoc]
      refine List.Perm.append_left S1 ?_
      have : ((S ++ C) ++ (T ++ c.R)).Perm (T ++ ((S ++ C) ++ c.R)) := List.perm_append_comm_assoc _ _ _
      rw [List.append_assoc (as := S) (bs := C) (cs := c.R)] at this
      exact this
    rw [List.append_assoc (as := S1) (bs := T)]
    exact h1)
  -- what the call sees
  have g0 : Same G (allBut H (T ++ c.R)) := allBut_ge w1.dropL
  have inA : ∀ x ∈ S1 ++ (S ++ C), allBut H (T ++ c.R) x.1 = some x.2 := fun x hx => by
    rw [allBut_of (wd_apart w1 hx)]
    exact w1.mem (List.mem_append_left _ hx)
  have hs : ∀ b e, m.2 b = some e → Dd c.K (allBut H (T ++ c.R)) (.ref b) e := fun b e he => by
    obtain ⟨A, C1, B, rfl, q, _⟩ := a.at he
    exact q.dd g0 fun x hx => inA x (by simp [hx])
  have w2 : Wd ((S1 ++ S) ++ (C ++ (T ++ c.R))) G H := by
    rw [← List.append_assoc, List.append_assoc S1 S C]; exact w1
  have dall : DdAll c.K (allBut H (T ++ c.R)) vs es := by
    have q := b.all w2
    have sm : Same (allBut H (C ++ (T ++ c.R))) (allBut H (T ++ c.R)) := fun x o e => by
      by_cases h : x ∈ (C ++ (T ++ c.R)).map Prod.fst
      · rw [allBut_in h] at e; cases e
      · rw [allBut_of h] at e
        rw [allBut_of fun h' => h (by rw [List.map_append]; exact List.mem_append_right _ h')]; exact e
    have q := q.mono sm
    refine DdAll.of_get (by rw [q.len, hr.1]) fun i v e h1 h2 => ?_
    obtain ⟨d, h3, h4⟩ := q.getV h1
    exact rs_dd hs (hr.2 i d e h3 h2) h4
  have nd : ((T ++ (S ++ (C ++ c.R))).map Prod.fst).Nodup := by
    rw [List.append_assoc] at w
    exact w.dropL.2.2
  have chg : AllChg (S ++ C) := fun x hx => by
    rcases List.mem_append.mp hx with h | h
    · exact z.chg x h
    · exact a.chg x h
  -- what is behind it
  have behind : ∀ {G' H' : Hp} {S2 C' : List (Addr × HO)}, Same (allBut H (T ++ c.R)) G' → Wd (S2 ++ (C' ++ (T ++ c.R))) G' H' → ∃ G2, Same G G2 ∧ Stx c Γ G2 H' (S2 ++ T) S env σ m ∧ TupS G' G2 := by
    intro G' H' S2 C' s' w'
    have w3 : Wd (S2 ++ (T ++ c.R)) G' H' := w'.dropM
    have mem : ∀ x ∈ S2 ++ (T ++ (S ++ (C ++ c.R))), H' x.1 = some x.2 := fun x hx => by
      rcases List.mem_append.mp hx with h | h
      · exact (w3.2.1 x (List.mem_append_left _ h)).1
      · rcases List.mem_append.mp h with h | h
        · exact (w3.2.1 x (by simp [h])).1
        · rw [← List.append_assoc] at h
          rcases List.mem_append.mp h with h | h
          · exact w3.1 _ _ (s' _ _ (inA x (List.mem_append_right _ h)))
          · exact (w3.2.1 x (by simp [h])).1
    have nd2 : ((S2 ++ (T ++ (S ++ (C ++ c.R)))).map Prod.fst).Nodup := by
      rw [List.map_append]
      refine List.nodup_append.mpr ⟨w3.dropR.2.2, nd, fun p hp p' hp' e => ?_⟩
      subst e
      obtain ⟨x, hx, rfl⟩ := List.mem_map.mp hp
      obtain ⟨y, hy, e⟩ := List.mem_map.mp hp'
      have q := (w3.2.1 x (List.mem_append_left _ hx)).2
      have tr : y ∈ T ++ c.R → False := fun h => by
        have nd3 := w3.2.2
        rw [List.map_append] at nd3
        exact (List.nodup_append.mp nd3).2.2 _ (List.mem_map.mpr ⟨x, hx, rfl⟩) _ (List.mem_map.mpr ⟨y, h, rfl⟩) e.symm
      rcases List.mem_append.mp hy with h | h
      · exact tr (List.mem_append_left _ h)
      · rw [← List.append_assoc] at h
        rcases List.mem_append.mp h with h | h
        · have := s' _ _ (inA y (List.mem_append_right _ h))
          rw [e, q] at this; cases this
        · exact tr (List.mem_append_right _ h)
    have notin : ∀ b o, G' b = some o → (∀ x ∈ S ++ C, x.1 ≠ b) → b ∉ (S2 ++ (T ++ (S ++ (C ++ c.R)))).map Prod.fst := fun b o e hn hb => by
      obtain ⟨x, hx, rfl⟩ := List.mem_map.mp hb
      have tr : x ∈ S2 ++ (T ++ c.R) → False := fun h => by rw [(w3.2.1 x h).2] at e; cases e
      rcases List.mem_append.mp hx with h | h
      · exact tr (List.mem_append_left _ h)
      · rcases List.mem_append.mp h with h | h
        · exact tr (by simp [h])
        · rw [← List.append_assoc] at h
          rcases List.mem_append.mp h with h | h
          · exact hn x h rfl
          · exact tr (by simp [h])
    have w4 := wd_allBut mem nd2
    have up : Same G (allBut H' (S2 ++ (T ++ (S ++ (C ++ c.R))))) := fun b o e => by
      have e1 : G' b = some o := s' _ _ (g0 _ _ e)
      rw [allBut_of (notin b o e1 fun x hx q => ?_)]
      · exact w3.1 _ _ e1
      · have := (w1.2.1 x (List.mem_append_left _ (List.mem_append_right _ hx))).2
        rw [q, e] at this; cases this
    refine ⟨_, up, ⟨s.trans up, C, by rw [List.append_assoc]; exact w4, a.mono up, z.mono up⟩, fun b o e hc => ?_⟩
    rw [allBut_of (notin b o e fun x hx q => ?_)]
    · exact w3.1 _ _ e
    · have e2 := w3.1 _ _ (s' _ _ (inA x (List.mem_append_right _ hx)))
      rw [q, w3.1 _ _ e] at e2
      cases e2
      exact hc (chg x hx)
  refine ⟨es, allBut H (T ++ c.R), T ++ c.R, [], (none, emp), _, VX, allBut_wd w1.dropL, Amb.none, dall, hv, fun d m' v H' G' S2 C' p s' w' a' o => ?_, fun cl fs m' dd H' G' C' p s' w' a' o => ?_⟩
  · obtain ⟨G2, s2, st2, tu⟩ := behind s' w'
    refine k d v G2 H' S2 p.2 s2 st2 ?_
    have im : D.Im d → S2 = [] ∧ Dd c.K G' v d → OwnTop c.K G2 S2 v d := fun hd q => by
      obtain ⟨rfl, q⟩ := q
      exact ownTop_im (dd_im tu q hd) (Im.im hd)
    cases t with
    | F => exact im p.1 o
    | O =>
      rcases p.1 with hd | ⟨xs, rfl, hd⟩
      · refine im hd ?_
        cases hd <;> exact o
      · obtain ⟨b, vs, rfl, rfl, q⟩ := o
        exact ⟨b, vs, rfl, rfl, dd_ims tu q hd⟩
  · obtain ⟨G2, s2, st2, tu⟩ := behind (S2 := []) s' w'
    refine kx cl fs m' dd G2 H' p (hx _ _ _ p) s2 st2 ?_
    rcases o with ⟨rfl, rfl⟩ | ⟨b, xs, rfl, e1, e2, q⟩
    · exact .inl ⟨rfl, rfl⟩
    · refine .inr ⟨b, xs, rfl, tu.xd e1, e2, dd_ims tu q fun d hd => ?_⟩
      obtain ⟨f, hf, rfl⟩ := List.mem_map.mp hd
      exact hx _ _ _ p f hf
theorem s_callB {vsp : VSp} {t : OT} {E : XK} {ta : TA} {va : VA} (ha : SA c Γ ta va) : SO c Γ (tCall (spV c.K t vsp) [] E ta) (vCallB t vsp va) := fun T G H S env σ m P Q st hv k =>
  ha T G H S env σ m _ _ st hv fun ds m1 vs G1 H1 S1 p1 s1 st1 b1 => by
    rw [List.append_nil]
    obtain ⟨es, hr, p1⟩ := p1
    exact run_look (P := fun d => P d m1) st1 b1 hr p1 (fun d v G' H' S2 p s st' o => k d m1 v G' H' S2 p (s1.trans s) st' o) (fun _ _ _ _ _ _ h => h.elim) fun _ _ _ h => h.elim
theorem s_callBS {vsp : VSp} {t : OT} {W : WX} {VW : XW} {ta : TA} {va : VA} (hx : ExOk c Γ W VW) (ha : SA c Γ ta va) : SO c Γ (tCallS (spV c.K t vsp) (WE W) ta) (vCallBS t vsp VW va) := fun T G H S env σ m P Q st hv k =>
  ha T G H S env σ m _ _ st hv fun ds m1 vs G1 H1 S1 p1 s1 st1 b1 => by
    obtain ⟨es, hr, p1⟩ := p1
    exact run_look (P := fun d => P d m1) st1 b1 hr p1 (fun d v G' H' S2 p s st' o => k d m1 v G' H' S2 p (s1.trans s) st' o) (fun C fs m' dd G' H' h _ s st' o => hx G' H' S env σ m1 C fs dd st'.drop o h.2) fun _ _ _ h => h.1
/-! what is walked -/
/-- the turns of a walk over the items ds -/
def YD (K : PySem.W.Frag) (G : Hp) (ds : List D) : Nat → Hp → V → Hp → Prop := fun i H x H' => ∃ d, ds[i]? = some d ∧ ((H' = H ∧ Dd K G x d) ∨ ∃ p vs es, d = .tup es ∧ x = .ref p ∧ H p = none ∧ H' = upd H p (.tup vs) ∧ DdAll K G vs es)
def SI (c : JC) (Γ : List OT) (wi : TI) (vi : VA) : Prop := ∀ (T : List (Addr × HO)) (G H : Hp) (S : List (Addr × HO)) (env : Env) (σ : L2.St) (m : Mst) (P : List D → Mst → Prop) (R : It → Hp → Prop), Stx c Γ G H T S env σ m → vi env m P →
  (∀ ds m' J G' H', P ds m' → Same G G' → Stx c Γ G' H' T S env σ m' → Walk J ds.length (Same G') (YD c.K G' ds) → R J H') → wi σ H R
def signsOf (z : Str) : List D := z.cps.toList.map fun c => .str ⟨#[c]⟩
def itSeq : D → (List D → Mst → Prop) → Mst → Prop
  | .lst ds, P, m => P ds m
  | .tup ds, P, m => P ds m
  | .str z, P, m => P (signsOf z) m
  | _, _, _ => False
def vSeq (ve : VE) : VA := fun env m P => ve env m fun x m1 => itSeq x P m1
theorem DdAll.yat {K : PySem.W.Frag} {vs : List V} {ds : List D} (h : DdAll K G vs ds) {i : Nat} {x : V} {H H' : Hp} (y : YAt vs i H x H') : YD K G ds i H x H' := by
  obtain ⟨d, e, q⟩ := h.getV y.2
  exact ⟨d, e, .inl ⟨y.1, q⟩⟩
theorem i_seq {te : TE} {ve : VE} (he : SF c Γ te ve) : SI c Γ (iSeqV c.K te) (vSeq ve) := fun T G H S env σ m P R st hv k =>
  he T G H S env σ m _ _ st hv fun x m1 v G1 H1 p1 s1 st1 q1 => by
    cases q1 with
    | lst h1 h2 =>
      refine .inl ⟨_, _, rfl, SqL.of (st1.v _ _ h1), k _ m1 _ G1 H1 p1 s1 st1 ?_⟩
      rw [← h2.len]
      exact walk_list.mono (fun _ s => SqL.of (s _ _ h1)) fun i H x H' _ _ y => h2.yat y
    | tup h1 h2 =>
      refine .inr (.inl ⟨_, _, rfl, same_t st1.v h1.sq, k _ m1 _ G1 H1 p1 s1 st1 ?_⟩)
      rw [← h2.len]
      exact walk_tup.mono (fun _ s => same_t s h1.sq) fun i H x H' _ _ y => h2.yat y
    | str z =>
      refine .inr (.inr ⟨z, rfl, k _ m1 _ G1 H1 p1 s1 st1 ?_⟩)
      rw [show (signsOf z).length = z.cps.size by unfold signsOf; simp]
      refine walk_str.mono (fun _ _ => trivial) fun i H x H' _ _ y => ?_
      obtain ⟨rfl, c', ec, rfl⟩ := y
      refine ⟨.str ⟨#[c']⟩, ?_, .inl ⟨rfl, .str _⟩⟩
      unfold signsOf
      rw [List.getElem?_map, Array.getElem?_toList, ec]
      rfl
    | _ => exact p1.elim
def rangeD (lo : Int) (n : Nat) : List D := (List.range n).map fun (k : Nat) => .int (lo + (k : Int))
theorem rangeD_get {lo : Int} {n i : Nat} (h : i < n) : (rangeD lo n)[i]? = some (.int (lo + (i : Int))) := by
  unfold rangeD
  rw [List.getElem?_map, List.getElem?_range h]
  rfl
theorem rangeD_len {lo : Int} {n : Nat} : (rangeD lo n).length = n := by unfold rangeD; simp
def itRng : List D → (List D → Mst → Prop) → Mst → Prop
  | [.int j], P, m1 => (-(2 ^ 62) ≤ j ∧ j < 2 ^ 62) ∧ P (rangeD 0 j.toNat) m1
  | [.int i, .int j], P, m1 => (-(2 ^ 62) ≤ i ∧ i < 2 ^ 62 ∧ -(2 ^ 62) ≤ j ∧ j < 2 ^ 62) ∧ P (rangeD i (j - i).toNat) m1
  | _, _, _ => False
def vRng1 (va : VA) : VA := fun env m P => va env m fun xs m1 => ∃ j, xs = [.int j] ∧ itRng xs P m1
def vRng2 (va : VA) : VA := fun env m P => va env m fun xs m1 => ∃ i j, xs = [.int i, .int j] ∧ itRng xs P m1
def stepD (lo c : Int) (n : Nat) : List D := (List.range n).map fun (k : Nat) => .int (lo + (k : Int) * c)
def itRng3 : List D → (List D → Mst → Prop) → Mst → Prop
  | [.int i, .int j, .int c], P, m1 => ∃ n, RgC i j c n ∧ P (stepD i c n) m1
  | _, _, _ => False
def vRng3 (va : VA) : VA := fun env m P => va env m fun xs m1 => itRng3 xs P m1
theorem BoAll.inv1 {K : PySem.W.Frag} {d : D} {vs : List V} (h : DdAll K G vs [d]) : ∃ v, vs = [v] ∧ Dd K G v d := by
  cases h with | cons h t => cases t; exact ⟨_, rfl, h⟩
theorem BoAll.inv2 {K : PySem.W.Frag} {d e : D} {vs : List V} (h : DdAll K G vs [d, e]) : ∃ v u, vs = [v, u] ∧ Dd K G v d ∧ Dd K G u e := by
  cases h with | cons h t => cases t with | cons h2 t => cases t; exact ⟨_, _, rfl, h, h2⟩
theorem BoAll.inv3 {K : PySem.W.Frag} {d e f : D} {vs : List V} (h : DdAll K G vs [d, e, f]) : ∃ v u w, vs = [v, u, w] ∧ Dd K G v d ∧ Dd K G u e ∧ Dd K G w f := by
  cases h with | cons h t => cases t with | cons h2 t => cases t with | cons h3 t => cases t; exact ⟨_, _, _, rfl, h, h2, h3⟩
theorem Dd.intInv {K : PySem.W.Frag} {i : Int} (h : Dd K G v (.int i)) : v = .int i := by cases h; rfl
theorem Dd.intInv' {K : PySem.W.Frag} {i : Int} (h : Dd K G v (.int i)) : v = .int i := h.intInv
theorem i_rng1 {ta : TA} {va : VA} (ha : SG c Γ ta va) : SI c Γ (iRng1 ta) (vRng1 va) := fun T G H S env σ m P R st hv k =>
  ha T G H S env σ m (fun ds m1 => ∃ j, ds = [.int j] ∧ itRng ds P m1) _ st hv fun ds m1 vs G1 H1 p1 s1 st1 q1 => by
    obtain ⟨j, rfl, p1⟩ := p1
    obtain ⟨v, rfl, h⟩ := BoAll.inv1 q1
    obtain rfl := h.intInv
    have p1 : (-(2 ^ 62) ≤ j ∧ j < 2 ^ 62) ∧ P (rangeD 0 j.toNat) m1 := p1
    refine ⟨j, rfl, p1.1.1, p1.1.2, k _ m1 _ G1 H1 p1.2 s1 st1 ?_⟩
    rw [rangeD_len]
    exact walk_range.mono (fun _ _ => trivial) fun i H x H' hi _ y => ⟨_, rangeD_get hi, .inl ⟨y.1, by rw [y.2]; exact .int _⟩⟩
theorem i_rng2 {ta : TA} {va : VA} (ha : SG c Γ ta va) : SI c Γ (iRng2 ta) (vRng2 va) := fun T G H S env σ m P R st hv k =>
  ha T G H S env σ m _ _ st hv fun ds m1 vs G1 H1 p1 s1 st1 q1 => by
    obtain ⟨i, j, rfl, p1⟩ := p1
    obtain ⟨v, u, rfl, h, h2⟩ := BoAll.inv2 q1
    obtain rfl := h.intInv
    obtain rfl := h2.intInv
    have p1 : (-(2 ^ 62) ≤ i ∧ i < 2 ^ 62 ∧ -(2 ^ 62) ≤ j ∧ j < 2 ^ 62) ∧ P (rangeD i (j - i).toNat) m1 := p1
    refine ⟨i, j, rfl, p1.1, k _ m1 _ G1 H1 p1.2 s1 st1 ?_⟩
    rw [rangeD_len]
    exact walk_range.mono (fun _ _ => trivial) fun i H x H' hi _ y => ⟨_, rangeD_get hi, .inl ⟨y.1, by rw [y.2]; exact .int _⟩⟩
theorem i_rng3 {ta : TA} {va : VA} (ha : SG c Γ ta va) : SI c Γ (iRng3 ta) (vRng3 va) := fun T G H S env σ m P R st hv k =>
  ha T G H S env σ m _ _ st hv fun ds m1 vs G1 H1 p1 s1 st1 q1 => by
    unfold itRng3 at p1
    split at p1
    · rename_i i j s
      obtain ⟨v, u, w, rfl, h, h2, h3⟩ := BoAll.inv3 q1
      obtain rfl := h.intInv
      obtain rfl := h2.intInv
      obtain rfl := h3.intInv
      obtain ⟨n, hn, p⟩ := p1
      refine ⟨i, j, s, n, rfl, hn, k _ m1 _ G1 H1 p s1 st1 ?_⟩
      rw [show (stepD i s n).length = n by unfold stepD; simp]
      refine walk_rangeC.mono (fun _ _ => trivial) fun k H x H' hi _ y => ⟨.int (i + (k : Int) * s), ?_, .inl ⟨y.1, by rw [y.2]; exact .int _⟩⟩
      unfold stepD
      rw [List.getElem?_map, List.getElem?_range hi]
      rfl
    · exact p1.elim
def zipD (a b : List D) : List D := List.zipWith (fun x y => D.tup [x, y]) a b
theorem zipD_len (a b : List D) : (zipD a b).length = min a.length b.length := by unfold zipD; simp
def itZip : List D → (List D → Mst → Prop) → Mst → Prop
  | [.lst a, .lst b], P, m1 => P (zipD a b) m1
  | [.tup a, .tup b], P, m1 => P (zipD a b) m1
  | _, _, _ => False
def vZip (va : VA) : VA := fun env m P => va env m fun xs m1 => itZip xs P m1
theorem ypair_d {K : PySem.W.Frag} {xs ys : List V} {a b : List D} (h1 : DdAll K G xs a) (h2 : DdAll K G ys b) {i : Nat} {H : Hp} {x : V} {H' : Hp} (y : YPair (fun i => xs[i]?) (fun i => ys[i]?) i H x H') : YD K G (zipD a b) i H x H' := by
  obtain ⟨T, x1, y1, rfl, hT, rfl, ex, ey⟩ := y
  obtain ⟨d, ed, hd⟩ := h1.getV ex
  obtain ⟨e, ee, he⟩ := h2.getV ey
  refine ⟨.tup [d, e], ?_, .inr ⟨T, [x1, y1], [d, e], rfl, rfl, hT, rfl, .cons hd (.one he)⟩⟩
  unfold zipD
  rw [List.getElem?_zipWith, ed, ee]
theorem i_zip {ta : TA} {va : VA} (ha : SG c Γ ta va) : SI c Γ (RZ.iZipA c.K ta) (vZip va) := fun T G H S env σ m P R st hv k =>
  ha T G H S env σ m _ _ st hv fun ds m1 vs G1 H1 p1 s1 st1 q1 => by
    unfold itZip at p1
    split at p1
    · rename_i a b
      obtain ⟨v, u, rfl, h, h2⟩ := BoAll.inv2 q1
      cases h with
      | lst e1 l1 =>
        cases h2 with
        | lst e2 l2 =>
          refine ⟨_, _, _, _, rfl, .inl ⟨SqL.of (st1.v _ _ e1), SqL.of (st1.v _ _ e2), k _ m1 _ G1 H1 p1 s1 st1 ?_⟩⟩
          exact (walk_zip (by rw [zipD_len, l1.len, l2.len])).mono (fun _ s => ⟨SqL.of (s _ _ e1), SqL.of (s _ _ e2)⟩) fun i H x H' _ _ y => ypair_d l1 l2 y
    · rename_i a b
      obtain ⟨v, u, rfl, h, h2⟩ := BoAll.inv2 q1
      cases h with
      | tup e1 l1 =>
        cases h2 with
        | tup e2 l2 =>
          refine ⟨_, _, _, _, rfl, .inr ⟨same_t st1.v e1.sq, same_t st1.v e2.sq, k _ m1 _ G1 H1 p1 s1 st1 ?_⟩⟩
          exact (walk_zipT (by rw [zipD_len, l1.len, l2.len])).mono (fun _ s => ⟨same_t s e1.sq, same_t s e2.sq⟩) fun i H x H' _ _ y => ypair_d l1 l2 y
    · exact p1.elim
def enumD (a : List D) : List D := zipD (rangeD 0 a.length) a
theorem enumD_len (a : List D) : (enumD a).length = a.length := by unfold enumD; rw [zipD_len, rangeD_len, Nat.min_self]
def itEnum : List D → (List D → Mst → Prop) → Mst → Prop
  | [.lst a], P, m1 => P (enumD a) m1
  | [.tup a], P, m1 => P (enumD a) m1
  | [.str z], P, m1 => P (enumD (signsOf z)) m1
  | _, _, _ => False
def vEnum (va : VA) : VA := fun env m P => va env m fun xs m1 => itEnum xs P m1
theorem yenum_d {K : PySem.W.Frag} {xs : List V} {a : List D} (h1 : DdAll K G xs a) {i : Nat} {H : Hp} {x : V} {H' : Hp} (y : YPair (fun i => some (.int (i : Nat))) (fun i => xs[i]?) i H x H') : YD K G (enumD a) i H x H' := by
  obtain ⟨T, x1, y1, rfl, hT, rfl, ex, ey⟩ := y
  cases ex
  obtain ⟨d, ed, hd⟩ := h1.getV ey
  refine ⟨.tup [.int (i : Nat), d], ?_, .inr ⟨T, _, [.int (i : Nat), d], rfl, rfl, hT, rfl, .cons (.int _) (.one hd)⟩⟩
  have hi : i < a.length := (List.getElem?_eq_some_iff.mp ed).1
  unfold enumD zipD
  rw [List.getElem?_zipWith, rangeD_get hi, ed, Int.zero_add]
theorem i_enum {ta : TA} {va : VA} (ha : SG c Γ ta va) : SI c Γ (iEnumV c.K ta) (vEnum va) := fun T G H S env σ m P R st hv k =>
  ha T G H S env σ m _ _ st hv fun ds m1 vs G1 H1 p1 s1 st1 q1 => by
    unfold itEnum at p1
    split at p1
    · rename_i a
      obtain ⟨v, rfl, h⟩ := BoAll.inv1 q1
      cases h with
      | lst e1 l1 =>
        refine .inl ⟨_, _, rfl, .inl ⟨SqL.of (st1.v _ _ e1), k _ m1 _ G1 H1 p1 s1 st1 ?_⟩⟩
        rw [enumD_len, ← l1.len]
        exact walk_enum.mono (fun _ s => SqL.of (s _ _ e1)) fun i H x H' _ _ y => yenum_d l1 y
    · rename_i a
      obtain ⟨v, rfl, h⟩ := BoAll.inv1 q1
      cases h with
      | tup e1 l1 =>
        refine .inl ⟨_, _, rfl, .inr ⟨same_t st1.v e1.sq, k _ m1 _ G1 H1 p1 s1 st1 ?_⟩⟩
        rw [enumD_len, ← l1.len]
        exact walk_enumT.mono (fun _ s => same_t s e1.sq) fun i H x H' _ _ y => yenum_d l1 y
    · rename_i z
      obtain ⟨v, rfl, h⟩ := BoAll.inv1 q1
      cases h
      refine .inr ⟨z, rfl, k _ m1 _ G1 H1 p1 s1 st1 ?_⟩
      rw [enumD_len, show (signsOf z).length = z.cps.size by unfold signsOf; simp]
      refine walk_enumS.mono (fun _ _ => trivial) fun i H x H' hi _ y => ?_
      obtain ⟨T, c', rfl, hT, rfl, ec⟩ := y
      have es : (signsOf z)[i]? = some (.str ⟨#[c']⟩) := by
        unfold signsOf
        rw [List.getElem?_map, Array.getElem?_toList, ec]
        rfl
      refine ⟨.tup [.int (i : Nat), .str ⟨#[c']⟩], ?_, .inr ⟨T, _, _, rfl, rfl, hT, rfl, .cons (.int _) (.one (.str _))⟩⟩
      have hi2 : i < (signsOf z).length := (List.getElem?_eq_some_iff.mp es).1
      unfold enumD zipD
      rw [List.getElem?_zipWith, rangeD_get hi2, es, Int.zero_add]
    · exact p1.elim
def itRev : D → (List D → Mst → Prop) → Mst → Prop
  | .lst a, P, m1 => P a.reverse m1
  | .tup a, P, m1 => P a.reverse m1
  | _, _, _ => False
def vRev (ve : VE) : VA := fun env m P => ve env m fun x m1 => itRev x P m1
theorem yrev_d {K : PySem.W.Frag} {xs : List V} {a : List D} (h1 : DdAll K G xs a) {i : Nat} {H : Hp} {x : V} {H' : Hp} (hi : i < xs.length) (y : H' = H ∧ xs[xs.length - 1 - i]? = some x) : YD K G a.reverse i H x H' := by
  obtain ⟨d, ed, hd⟩ := h1.getV y.2
  refine ⟨d, ?_, .inl ⟨y.1, hd⟩⟩
  rw [h1.len] at hi ed
  rw [List.getElem?_reverse hi, ← ed]
theorem i_rev {te : TE} {ve : VE} (he : SF c Γ te ve) : SI c Γ (RT.iRevA c.K te) (vRev ve) := fun T G H S env σ m P R st hv k =>
  he T G H S env σ m _ _ st hv fun x m1 v G1 H1 p1 s1 st1 q1 => by
    cases q1 with
    | lst h1 h2 =>
      refine ⟨_, _, rfl, .inl ⟨SqL.of (st1.v _ _ h1), k _ m1 _ G1 H1 p1 s1 st1 ?_⟩⟩
      rw [List.length_reverse, ← h2.len]
      exact walk_rev.mono (fun _ s => SqL.of (s _ _ h1)) fun i H x H' hi _ y => yrev_d h2 hi y
    | tup h1 h2 =>
      rename_i a vs ds
      refine ⟨a, vs, rfl, .inr ⟨same_t st1.v h1.sq, k _ m1 _ G1 H1 p1 s1 st1 ?_⟩⟩
      rw [List.length_reverse, ← h2.len]
      exact ⟨fun i _ hi s => ⟨hi, vs, vs[vs.length - 1 - i]'(by omega), same_t s h1.sq, by simp [show vs.length - 1 - i < vs.length by omega]⟩, fun _ _ => Nat.le_refl _, fun i H x H' hi s y => yrev_d h2 hi ⟨y.1, y.2 vs (same_t s h1.sq)⟩⟩
    | _ => exact p1.elim
end
end Ps

/-! WaD: targets, comprehensions, statements. -/
namespace Ps
open PySem PySem.Spec PyProof.Rows L2

abbrev VG := D → Env → (Env → Prop) → Prop
abbrev VGs := List D → Env → (Env → Prop) → Prop
def vgName (i : Nat) : VG := fun d env P => P (env.set i (some d))
def vgNil : VGs := fun ds env P => ds = [] ∧ P env
def vgCons (g : VG) (gs : VGs) : VGs := fun ds env P => match ds with
  | d :: r => g d env fun e => gs r e P
  | [] => False
def vgTup (n : Nat) (gs : VGs) : VG := fun d env P => match d with
  | .tup ds => ds.length = n ∧ gs ds env P
  | _ => False
def vgTupU (n : Nat) (gs : VGs) : VG := fun d env P => match d with
  | .tup ds => ds.length = n ∧ gs ds env P
  | .lst ds => ds.length = n ∧ gs ds env P
  | _ => False
def wipeE (env : Env) : List Nat → Env
  | [] => env
  | v :: vs => (wipeE env vs).set v none
/-- a list, item by item -/
def lcD (items : List D) (vg : VG) (vt : VT) (ve : VE) (vs : List Nat) (env : Env) (m1 : Mst) (P : D → Mst → Prop) : Prop := ∃ W : Nat → List D → Mst → Prop, W 0 [] m1 ∧
  (∀ i acc m' d, W i acc m' → items[i]? = some d → vg d (wipeE env vs) fun e1 => vt e1 m' fun b m2 => if b = true then ve e1 m2 fun y m3 => acc.length < sizeLine ∧ W (i + 1) (acc ++ [y]) m3 else W (i + 1) acc m2) ∧
  ∀ acc m', W items.length acc m' → P (.lst acc) m'
def vLc (vi : VA) (vg : VG) (vt : VT) (ve : VE) (vs : List Nat) : VE := fun env m P => vi env m fun items m1 => lcD items vg vt ve vs env m1 P
def vNext : VS := fun V env m => V.nx env m
def vBrk : VS := fun V env m => V.bk env m
def vCont : VS := fun V env m => V.ct env m
def vSeqS (a b : VS) : VS := fun V env m => a { V with nx := b V } env m
def vAsg (ve : VE) (vg : VG) : VS := fun V env m => ve env m fun d m1 => vg d env fun e1 => V.nx e1 m1
def vDrop (ve : VE) : VS := fun V env m => ve env m fun _ m1 => V.nx env m1
def vRet (ve : VE) : VS := fun V env m => ve env m V.rt
def vRetN : VS := fun V _ m => V.rt .non m
def vIf (vt : VT) (a b : VS) : VS := fun V env m => vt env m fun x m1 => if x = true then a V env m1 else b V env m1
/-- a for: the names ws are forgotten ahead of each turn and behind the last -/
def forD (ws : List Nat) (items : List D) (vg : VG) (vb : VS) (V : VEnds) (env : Env) (m1 : Mst) : Prop := ∃ W : Nat → Env → Mst → Prop, W 0 (wipeE env ws) m1 ∧
  (∀ i e m' d, W i e m' → items[i]? = some d → vg d e fun e1 => vb { V with nx := fun e2 m2 => W (i + 1) (wipeE e2 ws) m2, ct := fun e2 m2 => W (i + 1) (wipeE e2 ws) m2, bk := fun e2 m2 => V.nx (wipeE e2 ws) m2 } e1 m') ∧ ∀ e m', W items.length e m' → V.nx e m'
def vFor (ws : List Nat) (vi : VA) (vg : VG) (vb : VS) : VS := fun V env m => vi env m fun items m1 => forD ws items vg vb V env m1
def vWhile (ws : List Nat) (vt : VT) (vb : VS) : VS := fun V env m => ∃ W : Nat → Env → Mst → Prop, (∃ n, W n (wipeE env ws) m) ∧
  ∀ n e m', W n e m' → vt e m' fun b m1 => if b = true then vb { V with nx := fun e2 m2 => ∃ n', n' < n ∧ W n' (wipeE e2 ws) m2, ct := fun e2 m2 => ∃ n', n' < n ∧ W n' (wipeE e2 ws) m2, bk := fun e2 m2 => V.nx (wipeE e2 ws) m2 } e m1 else V.nx e m1
def vWipe (vs : List Nat) (a : VS) : VS := fun V env m => a V (wipeE env vs) m
def vAug (i : Nat) (f : D → D → (D → Prop) → Prop) (ve : VE) : VS := fun V env m => ∃ x, env[i]? = some (some x) ∧ ve env m fun y m1 => f x y fun z => V.nx (env.set i (some z)) m1
def vPar (i j : Nat) (va : VA) : VS := fun V env m => va env m fun ds m1 => match ds with
  | [d, e] => V.nx ((env.set i (some d)).set j (some e)) m1
  | _ => False
/-- a list's method that changes it -/
def vMut (i : Nat) (f : List D → List D → (List D → D → Prop) → Prop) (va : VA) : VS := fun V env m => ∃ ds, env[i]? = some (some (.lst ds)) ∧ va env m fun xs m1 => f ds xs fun ds' z => V.nx (env.set i (some (.lst ds'))) m1
def vPutL (i : Nat) (ve vk : VE) : VS := fun V env m => ve env m fun d m1 => vk env m1 fun x m2 => ∃ k j, x = .int k ∧ ∃ ds, env[i]? = some (some (.lst ds)) ∧ ixN ds.length k = some j ∧ V.nx (env.set i (some (.lst (ds.set j d)))) m2
def dKey : D → Option Key
  | .int i => some (.inl i)
  | .str s => some (.inr s)
  | _ => none
def dput (kvs : List (Key × D)) (k : Key) (d : D) : List (Key × D) := if (kvs.any fun kv => decide (kv.1 = k)) = true then kvs.map (fun kv => if kv.1 = k then (kv.1, d) else kv) else kvs ++ [(k, d)]
def dget (kvs : List (Key × D)) (k : Key) : Option D := (kvs.find? fun kv => decide (kv.1 = k)).map (·.2)
/-- x[k] = d of a list or a dict -/
def vPut (i : Nat) (ve vk : VE) : VS := fun V env m => ve env m fun d m1 => ∃ x, env[i]? = some (some x) ∧ vk env m1 fun y m2 => match x, y with
  | .lst ds, .int k => ∃ j, ixN ds.length k = some j ∧ V.nx (env.set i (some (.lst (ds.set j d)))) m2
  | .dic kds, y => ∃ k, dKey y = some k ∧ kds.length < sizeLine ∧ V.nx (env.set i (some (.dic (dput kds k d)))) m2
  | _, _ => False
def vRaise (VW : XW) (C : Addr) (fs : List (Str × D)) : VS := fun _ env m => VW C fs env m

section
variable {c : JC} {Γ Γ1 Γ2 Γn Γb Γc : List OT} {G G' H H' : Hp} {T S S1 S2 R : List (Addr × HO)} {env : Env} {σ : L2.St} {m : Mst} {v : V} {d : D} {t : OT} {i j : Nat} {is : List Nat}
/-! slots that are shared -/
theorem Slots.setF {K : PySem.W.Frag} (h : Slots K G Γ S env σ) : ∀ {i : Nat} {o : Option D} {o' : Option V}, Γ[i]? = some .F → (o = none ∨ ∃ d v, o = some d ∧ o' = some v ∧ Dd K G v d) → Slots K G Γ S (env.set i o) (σ.set i o') := by
  induction h with
  | nil => intro i o o' h1 h2; simp at h1
  | @no t0 Γ S env o0 σ h ih =>
    intro i o o' h1 h2
    cases i with
    | zero =>
      simp at h1
      subst h1
      rw [List.set_cons_zero, List.set_cons_zero]
      rcases h2 with rfl | ⟨d, v, rfl, rfl, q⟩
      · exact .no h
      · exact .yes (S1 := []) ⟨rfl, q⟩ h
    | succ i =>
      rw [List.set_cons_succ, List.set_cons_succ]
      exact .no (ih (by simpa using h1) h2)
  | @yes t0 Γ S1 S env d0 v0 σ h hs ih =>
    intro i o o' h1 h2
    cases i with
    | zero =>
      simp at h1
      subst h1
      obtain ⟨rfl, h⟩ := h
      rw [List.set_cons_zero, List.set_cons_zero]
      rcases h2 with rfl | ⟨d, v, rfl, rfl, q⟩
      · exact .no hs
      · exact .yes (S1 := []) ⟨rfl, q⟩ hs
    | succ i =>
      rw [List.set_cons_succ, List.set_cons_succ]
      exact .yes h (ih (by simpa using h1) h2)
theorem Slots.wipeF {K : PySem.W.Frag} (h : Slots K G Γ S env σ) : ∀ {vs : List Nat}, (vs.all fun i => decide (Γ[i]? = some .F)) = true → Slots K G Γ S (wipeE env vs) (wipe σ vs)
  | [], _ => h
  | v :: vs, e => by
    rw [List.all_cons, Bool.and_eq_true] at e
    exact (Slots.wipeF h e.2).setF (of_decide_eq_true e.1) (.inl rfl)
theorem wipe_in {σ : L2.St} {i : Nat} : ∀ {vs : List Nat}, i ∈ vs → i < σ.length → (wipe σ vs)[i]? = some none
  | [], h, _ => absurd h (by simp)
  | v :: vs, h, hl => by
    unfold wipe
    by_cases e : v = i
    · subst e
      rw [List.getElem?_set_self (by rw [wipe_length]; exact hl)]
    · rw [List.getElem?_set_ne e]
      exact wipe_in (by rcases List.mem_cons.mp h with q | q; exact absurd q.symm e; exact q) hl
theorem wipe_eq {σ σ' : L2.St} {vs : List Nat} (hl : σ'.length = σ.length) (h : ∀ j, j ∉ vs → σ'[j]? = σ[j]?) : wipe σ' vs = wipe σ vs := by
  refine List.ext_getElem? fun j => ?_
  by_cases e : j ∈ vs
  · by_cases hj : j < σ.length
    · rw [wipe_in e (by omega), wipe_in e hj]
    · rw [List.getElem?_eq_none (by rw [wipe_length]; omega), List.getElem?_eq_none (by rw [wipe_length]; omega)]
  · rw [wipe_out e, wipe_out e, h j e]
theorem wipe_wipe (σ : L2.St) (vs : List Nat) : wipe (wipe σ vs) vs = wipe σ vs := wipe_eq (wipe_length σ vs) fun j h => wipe_out h
/-! targets -/
def SGt (c : JC) (Γ : List OT) (is : List Nat) (tg : TG) (vg : VG) : Prop := ∀ (G H : Hp) (S : List (Addr × HO)) (env : Env) (σ : L2.St) (v : V) (d : D) (P : Env → Prop) (Q : L2.St → Hp → Prop), Slots c.K G Γ S env σ → Same G H → Dd c.K G v d → vg d env P →
  (∀ env' σ', P env' → Slots c.K G Γ S env' σ' → σ'.length = σ.length → (∀ j, j ∉ is → σ'[j]? = σ[j]?) → Q σ' H) → tg v σ H Q
def SGs (c : JC) (Γ : List OT) (is : List Nat) (tg : TGs) (vg : VGs) : Prop := ∀ (G H : Hp) (S : List (Addr × HO)) (env : Env) (σ : L2.St) (vs : List V) (ds : List D) (P : Env → Prop) (Q : L2.St → Hp → Prop), Slots c.K G Γ S env σ → Same G H → DdAll c.K G vs ds → vg ds env P →
  (∀ env' σ', P env' → Slots c.K G Γ S env' σ' → σ'.length = σ.length → (∀ j, j ∉ is → σ'[j]? = σ[j]?) → Q σ' H) → tg vs σ H Q
theorem tg_name (h : Γ[i]? = some .F) (hi : i ∈ is) : SGt c Γ is (gName i) (vgName i) := fun G H S env σ v d P Q sl sg hd hv k =>
  k _ _ hv (sl.setF h (.inr ⟨d, v, rfl, rfl, hd⟩)) (List.length_set ..) fun j hj => List.getElem?_set_ne (fun e => hj (by rw [← e]; exact hi))
theorem tg_nil : SGs c Γ is gNil vgNil := fun G H S env σ vs ds P Q sl sg hd hv k => by
  obtain ⟨rfl, p⟩ := hv
  cases hd
  exact ⟨rfl, k env σ p sl rfl fun _ _ => rfl⟩
theorem tg_cons {g : TG} {gs : TGs} {vg : VG} {vgs : VGs} (h : SGt c Γ is g vg) (t : SGs c Γ is gs vgs) : SGs c Γ is (gCons g gs) (vgCons vg vgs) := fun G H S env σ vs ds P Q sl sg hd hv k => by
  cases hd with
  | nil => exact hv.elim
  | cons h1 h2 =>
    exact ⟨_, _, rfl, h G H S env σ _ _ _ _ sl sg h1 hv fun e1 σ1 p1 sl1 l1 n1 => t G H S e1 σ1 _ _ _ _ sl1 sg h2 p1 fun e2 σ2 p2 sl2 l2 n2 => k e2 σ2 p2 sl2 (l2.trans l1) fun j hj => (n2 j hj).trans (n1 j hj)⟩
theorem tg_tup {gs : TGs} {vgs : VGs} {n : Nat} (t : SGs c Γ is gs vgs) : SGt c Γ is (gTup c.K n gs) (vgTup n vgs) := fun G H S env σ v d P Q sl sg hd hv k => by
  cases hd with
  | tup h1 h2 => exact ⟨_, _, rfl, same_t sg h1.sq, by rw [h2.len]; exact hv.1, t G H S env σ _ _ _ _ sl sg h2 hv.2 k⟩
  | _ => exact hv.elim
theorem tg_tupU {gs : TGs} {vgs : VGs} {n : Nat} (t : SGs c Γ is gs vgs) : SGt c Γ is (gTupU c.K n gs) (vgTupU n vgs) := fun G H S env σ v d P Q sl sg hd hv k => by
  cases hd with
  | tup h1 h2 => exact w_gtT (same_t sg h1.sq) (by rw [h2.len]; exact hv.1) (t G H S env σ _ _ _ _ sl sg h2 hv.2 k)
  | lst h1 h2 => exact w_gtL (SqL.of (sg _ _ h1)) (by rw [h2.len]; exact hv.1) (t G H S env σ _ _ _ _ sl sg h2 hv.2 k)
  | _ => exact hv.elim
/-- an item of a walk, taken -/
theorem Stx.item (st : Stx c Γ G H T S env σ m) {ds : List D} {G0 : Hp} (s0 : Same G0 G) {x : V} (y : YD c.K G0 ds i H x H') : ∃ d G', ds[i]? = some d ∧ Same G G' ∧ Stx c Γ G' H' T S env σ m ∧ Dd c.K G' x d := by
  obtain ⟨d, e, q⟩ := y
  rcases q with ⟨rfl, q⟩ | ⟨p, vs, es, rfl, rfl, hp, rfl, q⟩
  · exact ⟨d, G, e, Same.refl G, st, q.mono s0⟩
  · obtain ⟨st', s⟩ := st.newS (o := .tup vs) hp
    exact ⟨.tup es, _, e, s, st', .tup (.inl upd_same) (q.mono (s0.trans s))⟩
/-! a list, item by item -/
theorem Stx.push {acc : List V} {D : Addr} {y : V} (st : Stx c Γ G H ((D, .lst acc) :: T) S env σ m) : H D = some (.lst acc) ∧ Stx c Γ G (upd H D (.lst (acc ++ [y]))) ((D, .lst (acc ++ [y])) :: T) S env σ m := by
  obtain ⟨s, C, w, a, z⟩ := st
  exact ⟨w.hd, s, C, w.put, a, z⟩
theorem Stx.slots {env' : Env} {σ' : L2.St} (st : Stx c Γ G H T S env σ m) (z : Slots c.K G Γ S env' σ') : Stx c Γ G H T S env' σ' m := by
  obtain ⟨s, C, w, a, _⟩ := st
  exact ⟨s, C, w, a, z⟩
theorem s_lc {wi : TI} {vi : VA} {tg : TG} {vg : VG} {tt : TT} {vt : VT} {te : TE} {ve : VE} {vs : List Nat} (hi : SI c Γ wi vi) (hF : (vs.all fun i => decide (Γ[i]? = some .F)) = true) (hg : SGt c Γ vs tg vg) (ht : ST c Γ tt vt) (he : SF c Γ te ve) :
    SO c Γ (tLc wi tg tt te vs) (vLc vi vg vt ve vs) := fun T G H S env σ m P Q st hv k =>
  hi T G H S env σ m _ _ st hv fun items m1 J G1 H1 p1 s1 st1 wk => by
    obtain ⟨W, w0, wn, wd⟩ := p1
    intro D hD
    refine lc_it wk (fun i H' => ∃ G2 accV acc m', Same G1 G2 ∧ Stx c Γ G2 H' ((D, .lst accV) :: T) S env σ m' ∧ DdAll c.K G2 accV acc ∧ W i acc m') ⟨G1, [], [], m1, Same.refl _, st1.new hD, .nil, w0⟩ (fun i H' _ p => ?_) (fun i x Hi H' hi p y => ?_) (fun H' p => ?_)
    · obtain ⟨G2, accV, acc, m', s2, st2, _⟩ := p
      exact s2.trans st2.v
    · obtain ⟨G2, accV, acc, m', s2, st2, hacc, hw⟩ := p
      obtain ⟨d, G3, ed, s3, st3, hd⟩ := st2.item s2 y
      obtain ⟨q0, C0, q1, q2, z3⟩ := id st3
      refine hg G3 H' S (wipeE env vs) (wipe σ vs) x d _ _ (z3.wipeF hF) st3.v hd (wn i acc m' d hw ed) fun e1 σ1 pe sl1 l1 n1 => ⟨?_, ?_⟩
      · rw [wipe_eq l1 n1, wipe_wipe]
      · have st4 := st3.slots sl1
        refine ht _ G3 H' S e1 σ1 m' _ _ st4 pe fun b m2 G4 H4 S4 p4 s4 st5 => ?_
        cases b with
        | true =>
          rw [if_pos rfl] at p4 ⊢
          refine he _ G4 H4 S e1 σ1 m2 _ _ st5.dropT p4 fun y m3 u G5 H5 p5 s5 st6 hy => ?_
          have st7 := st6.slots (z3.mono (s4.trans s5))
          refine ⟨accV, st7.push (y := u).1, by rw [hacc.len]; exact p5.1, G5, accV ++ [u], acc ++ [y], m3, s2.trans (s3.trans (s4.trans s5)), st7.push.2, ?_, p5.2⟩
          exact (hacc.mono (s3.trans (s4.trans s5))).app (.one hy)
        | false =>
          rw [if_neg Bool.false_ne_true] at p4 ⊢
          exact ⟨G4, accV, acc, m2, s2.trans (s3.trans s4), st5.dropT.slots (z3.mono s4), hacc.mono (s3.trans s4), p4⟩
    · obtain ⟨G2, accV, acc, m', s2, st2, hacc, hw⟩ := p
      exact k (.lst acc) m' (.ref D) G2 H' [(D, .lst accV)] (wd acc m' hw) (s1.trans s2) st2 ⟨D, accV, rfl, rfl, hacc⟩

/-! ### statements -/
structure EndsOk (c : JC) (t : OT) (Γn Γb Γc : List OT) (Gs : Hp) (De : Ends) (Ve : VEnds) : Prop where
  nx : ∀ (G H : Hp) (S : List (Addr × HO)) (env : Env) (σ : L2.St) (m : Mst), Same Gs G → Stt c Γn G H S env σ m → Ve.nx env m → De.nx σ H
  rt : ∀ (G H : Hp) (S1 C : List (Addr × HO)) (m : Mst) (v : V) (d : D), Same Gs G → Same c.G0 G → Wd (S1 ++ (C ++ c.R)) G H → Amb c.K G m C → Own c.K G t S1 v d → Ve.rt d m → De.rt v H
  bk : ∀ (G H : Hp) (S : List (Addr × HO)) (env : Env) (σ : L2.St) (m : Mst), Same Gs G → Stt c Γb G H S env σ m → Ve.bk env m → De.bk σ H
  ct : ∀ (G H : Hp) (S : List (Addr × HO)) (env : Env) (σ : L2.St) (m : Mst), Same Gs G → Stt c Γc G H S env σ m → Ve.ct env m → De.ct σ H
theorem EndsOk.up {Gs G : Hp} {De : Ends} {Ve : VEnds} (s : Same Gs G) (e : EndsOk c t Γn Γb Γc Gs De Ve) : EndsOk c t Γn Γb Γc G De Ve :=
  ⟨fun G H S env σ m q => e.nx G H S env σ m (s.trans q), fun G H S1 C m v d q => e.rt G H S1 C m v d (s.trans q), fun G H S env σ m q => e.bk G H S env σ m (s.trans q), fun G H S env σ m q => e.ct G H S env σ m (s.trans q)⟩
def SS (c : JC) (t : OT) (Γ Γn Γb Γc : List OT) (ts : TS) (vs : VS) : Prop := ∀ (G H : Hp) (S : List (Addr × HO)) (env : Env) (σ : L2.St) (m : Mst) (De : Ends) (Ve : VEnds), EndsOk c t Γn Γb Γc G De Ve → Stt c Γ G H S env σ m → vs Ve env m → ts De σ H
theorem x_next : SS c t Γ Γ Γb Γc tNext vNext := fun G H S env σ m De Ve e st hv => e.nx G H S env σ m (Same.refl _) st hv
theorem x_brk : SS c t Γ Γn Γ Γc tBreak vBrk := fun G H S env σ m De Ve e st hv => e.bk G H S env σ m (Same.refl _) st hv
theorem x_cont : SS c t Γ Γn Γb Γ tCont vCont := fun G H S env σ m De Ve e st hv => e.ct G H S env σ m (Same.refl _) st hv
theorem x_seq {a b : TS} {x y : VS} (ha : SS c t Γ Γ1 Γb Γc a x) (hb : SS c t Γ1 Γn Γb Γc b y) : SS c t Γ Γn Γb Γc (tSeq a b) (vSeqS x y) := fun G H S env σ m De Ve e st hv =>
  ha G H S env σ m { De with nx := b De } { Ve with nx := y Ve } ⟨fun G H S env σ m s st hv => hb G H S env σ m De Ve (e.up s) st hv, e.rt, e.bk, e.ct⟩ st hv
theorem x_drop {te : TE} {ve : VE} (h : SB c Γ te ve) : SS c t Γ Γ Γb Γc (tDrop te) (vDrop ve) := fun G H S env σ m De Ve e st hv =>
  h [] G H S env σ m _ _ st hv fun d m' v G' H' S1 p s st' _ => e.nx G' H' S env σ m' s st'.drop p
theorem x_retF {te : TE} {ve : VE} (h : SF c Γ te ve) : SS c .F Γ Γn Γb Γc (tRet te) (vRet ve) := fun G H S env σ m De Ve e st hv =>
  h [] G H S env σ m _ _ st hv fun d m' v G' H' p s st' q => by
    obtain ⟨s', C, w, a, z⟩ := st'
    exact e.rt G' H' [] C m' v d s s' w.dropL.dropL a ⟨rfl, q⟩ p
theorem x_retO {te : TE} {ve : VE} (h : SO c Γ te ve) : SS c .O Γ Γn Γb Γc (tRet te) (vRet ve) := fun G H S env σ m De Ve e st hv =>
  h [] G H S env σ m _ _ st hv fun d m' v G' H' S1 p s st' q => by
    obtain ⟨s', C, w, a, z⟩ := st'
    rw [List.append_nil] at w
    exact e.rt G' H' S1 C m' v d s s' w.dropM a q p
/-- a name's thing goes out with all that is held of it -/
theorem x_retV (hi : Γ[i]? = some t) : SS c t Γ Γn Γb Γc (tRet (tVar i)) (vRet (vVar i)) := fun G H S env σ m De Ve e st hv => by
  obtain ⟨d, ed, p⟩ := hv
  obtain ⟨s', C, w, a, z⟩ := st
  obtain ⟨v, A1, A2, A3, e1, rfl, e3, e4⟩ := z.at ed hi
  refine ⟨v, e1, e.rt G H A2 C m v d (Same.refl _) s' ?_ a e3 p⟩
  have w1 : Wd (A1 ++ (A2 ++ (A3 ++ (C ++ c.R)))) G H := by
    rw [List.nil_append, List.append_assoc, List.append_assoc] at w
    exact w
  exact w1.dropL.dropM
theorem own_non {K : PySem.W.Frag} : Own K G t [] .non .non := by cases t <;> exact ⟨rfl, .non⟩
theorem x_retN : SS c t Γ Γn Γb Γc tRetN vRetN := fun G H S env σ m De Ve e st hv => by
  obtain ⟨s', C, w, a, z⟩ := st
  exact e.rt G H [] C m .non .non (Same.refl _) s' w.dropL.dropL a own_non hv
theorem x_if {tt : TT} {vt : VT} {a b : TS} {x y : VS} (ht : ST c Γ tt vt) (ha : SS c t Γ Γn Γb Γc a x) (hb : SS c t Γ Γn Γb Γc b y) : SS c t Γ Γn Γb Γc (tIfS tt a b) (vIf vt x y) := fun G H S env σ m De Ve e st hv =>
  ht [] G H S env σ m _ _ st hv fun q m1 G1 H1 S1 p1 s1 st1 => by
    cases q with
    | true =>
      rw [if_pos rfl] at p1 ⊢
      exact ha G1 H1 S env σ m1 De Ve (e.up s1) st1.drop p1
    | false =>
      rw [if_neg Bool.false_ne_true] at p1 ⊢
      exact hb G1 H1 S env σ m1 De Ve (e.up s1) st1.drop p1
/-- less held from here on -/
theorem Stt.weak (hl : Γ1.length = Γ.length) (hz : (Γ.zip Γ1).all (fun p => leO p.1 p.2) = true) (st : Stt c Γ G H S env σ m) : ∃ G' S', Same G G' ∧ Stt c Γ1 G' H S' env σ m := by
  obtain ⟨s, C, w, a, z⟩ := st
  obtain ⟨G', S', s', w', z'⟩ := z.weak (Same.refl G) hl hz w
  exact ⟨G', S', s', s.trans s', C, w', a.mono s', z'⟩
theorem x_pre {a : TS} {x : VS} (h : SS c t Γ1 Γn Γb Γc a x) (hl : Γ1.length = Γ.length := by rfl) (hz : (Γ.zip Γ1).all (fun p => leO p.1 p.2) = true := by rfl) : SS c t Γ Γn Γb Γc a x := fun G H S env σ m De Ve e st hv => by
  obtain ⟨G', S', s, st'⟩ := st.weak hl hz
  exact h G' H S' env σ m De Ve (e.up s) st' hv
theorem x_post {a : TS} {x : VS} (h : SS c t Γ Γ1 Γb Γc a x) (hl : Γn.length = Γ1.length := by rfl) (hz : (Γ1.zip Γn).all (fun p => leO p.1 p.2) = true := by rfl) : SS c t Γ Γn Γb Γc a x := fun G H S env σ m De Ve e st hv =>
  h G H S env σ m De Ve ⟨fun G H S env σ m s st hv => by
    obtain ⟨G', S', s', st'⟩ := st.weak hl hz
    exact e.nx G' H S' env σ m (s.trans s') st' hv, e.rt, e.bk, e.ct⟩ st hv
theorem x_postC {a : TS} {x : VS} (h : SS c t Γ Γn Γb Γ1 a x) (hl : Γc.length = Γ1.length := by rfl) (hz : (Γ1.zip Γc).all (fun p => leO p.1 p.2) = true := by rfl) : SS c t Γ Γn Γb Γc a x := fun G H S env σ m De Ve e st hv =>
  h G H S env σ m De Ve ⟨e.nx, e.rt, e.bk, fun G H S env σ m s st hv => by
    obtain ⟨G', S', s', st'⟩ := st.weak hl hz
    exact e.ct G' H S' env σ m (s.trans s') st' hv⟩ st hv
theorem x_postB {a : TS} {x : VS} (h : SS c t Γ Γn Γ1 Γc a x) (hl : Γb.length = Γ1.length := by rfl) (hz : (Γ1.zip Γb).all (fun p => leO p.1 p.2) = true := by rfl) : SS c t Γ Γn Γb Γc a x := fun G H S env σ m De Ve e st hv =>
  h G H S env σ m De Ve ⟨e.nx, e.rt, fun G H S env σ m s st hv => by
    obtain ⟨G', S', s', st'⟩ := st.weak hl hz
    exact e.bk G' H S' env σ m (s.trans s') st' hv, e.ct⟩ st hv
/-- names that are not asked any more: forgotten, whatever they hold -/
theorem Slots.wipe1 {K : PySem.W.Frag} (h : Slots K G Γ S env σ) {i : Nat} (hi : i < env.length) {t' : OT} (w : Wd (S ++ R) G H) : ∃ S', Wd (S' ++ R) G H ∧ Slots K G (Γ.set i t') S' (env.set i none) σ := by
  obtain ⟨S1, S2, S3, rfl, q⟩ := h.put hi
  refine ⟨S1 ++ ([] ++ S3), ?_, ?_⟩
  · rw [List.append_assoc, List.append_assoc] at w
    rw [List.append_assoc, List.nil_append]
    exact w.dropM
  · have q2 := q G [] t' none (σ[i]'(by rw [h.len.1]; exact hi)) (Same.refl G) (.inl ⟨rfl, rfl⟩)
    rw [List.set_getElem_self] at q2
    exact q2
def wipeΓ (Γ : List OT) : List Nat → List OT
  | [] => Γ
  | v :: vs => (wipeΓ Γ vs).set v .F
theorem wipeE_len (env : Env) : ∀ vs : List Nat, (wipeE env vs).length = env.length
  | [] => rfl
  | v :: vs => by unfold wipeE; rw [List.length_set, wipeE_len env vs]
theorem Slots.wipes {K : PySem.W.Frag} (h : Slots K G Γ S env σ) (w : Wd (S ++ R) G H) : ∀ {vs : List Nat}, (vs.all fun i => decide (i < Γ.length)) = true → ∃ S', Wd (S' ++ R) G H ∧ Slots K G (wipeΓ Γ vs) S' (wipeE env vs) σ
  | [], _ => ⟨S, w, h⟩
  | v :: vs, e => by
    rw [List.all_cons, Bool.and_eq_true] at e
    obtain ⟨S', w', h'⟩ := Slots.wipes h w e.2
    exact h'.wipe1 (by rw [wipeE_len, ← h.len.2]; exact of_decide_eq_true e.1) w'
theorem x_wipe {a : TS} {x : VS} {vs : List Nat} (h : SS c t (wipeΓ Γ vs) Γn Γb Γc a x) (hv : (vs.all fun i => decide (i < Γ.length)) = true := by rfl) : SS c t Γ Γn Γb Γc a (vWipe vs x) := fun G H S env σ m De Ve e st q => by
  obtain ⟨s, C, w, a, z⟩ := st
  obtain ⟨S', w', z'⟩ := z.wipes w hv
  exact h G H S' _ σ m De Ve e ⟨s, C, w', a, z'⟩ q
theorem Stx.wipes (st : Stt c Γ G H S env σ m) {ws : List Nat} (hv : (ws.all fun i => decide (i < Γ.length)) = true) : ∃ S', Stt c (wipeΓ Γ ws) G H S' (wipeE env ws) σ m := by
  obtain ⟨s, C, w, a, z⟩ := st
  obtain ⟨S', w', z'⟩ := z.wipes w hv
  exact ⟨S', s, C, w', a, z'⟩
theorem x_for {Γ' : List OT} {ws : List Nat} {wi : TI} {vi : VA} {tg : TG} {vg : VG} {b : TS} {y : VS} (hi : SI c Γ wi vi) (hg : SGt c Γ' is tg vg) (hb : SS c t Γ' Γ' Γ' Γ' b y) (hw : wipeΓ Γ ws = Γ' := by rfl) (hw' : wipeΓ Γ' ws = Γ' := by rfl)
    (hv : (ws.all fun i => decide (i < Γ.length)) = true := by rfl) (hv' : (ws.all fun i => decide (i < Γ'.length)) = true := by rfl) : SS c t Γ Γ' Γb Γc (tFor wi tg b) (vFor ws vi vg y) := fun G H S env σ m De Ve e st hv0 =>
  hi [] G H S env σ m _ _ st hv0 fun items m1 J G1 H1 p1 s1 st1 wk => by
    obtain ⟨W, w0, wn, wd⟩ := p1
    obtain ⟨S1, st1⟩ := Stx.wipes st1 hv
    rw [hw] at st1
    have wp : ∀ {G H : Hp} {S : List (Addr × HO)} {env : Env} {σ : L2.St} {m : Mst}, Stt c Γ' G H S env σ m → ∃ S', Stt c Γ' G H S' (wipeE env ws) σ m := fun st => by
      have q := Stx.wipes st hv'
      rw [hw'] at q
      exact q
    refine for_it wk (fun i σ H' => ∃ G2 S2 env2 m2, Same G1 G2 ∧ Stt c Γ' G2 H' S2 env2 σ m2 ∧ W i env2 m2) ⟨G1, S1, _, m1, Same.refl _, st1, w0⟩ (fun i σ H' _ p => ?_) (fun i x σ Hi H' hi p y => ?_) (fun σ H' p => ?_)
    · obtain ⟨G2, S2, env2, m2, s2, st2, _⟩ := p
      exact s2.trans st2.v
    · obtain ⟨G2, S2, env2, m2, s2, st2, hw⟩ := p
      obtain ⟨d, G3, ed, s3, st3, hd⟩ := st2.item s2 y
      obtain ⟨q0, C0, q1, q2, z3⟩ := id st3
      refine hg G3 H' S2 env2 σ x d _ _ z3 st3.v hd (wn i env2 m2 d hw ed) fun e1 σ1 pe sl1 _ _ => ?_
      have up : Same G G3 := s1.trans (s2.trans s3)
      exact hb G3 H' S2 e1 σ1 m2 _ { Ve with nx := fun e2 m2 => W (i + 1) (wipeE e2 ws) m2, ct := fun e2 m2 => W (i + 1) (wipeE e2 ws) m2, bk := fun e2 m2 => Ve.nx (wipeE e2 ws) m2 } ⟨fun G H S env σ m s st hv => by
        obtain ⟨S', st'⟩ := wp st
        exact ⟨G, S', _, m, s2.trans (s3.trans s), st', hv⟩, (e.up up).rt, fun G H S env σ m s st hv => by
        obtain ⟨S', st'⟩ := wp st
        exact (e.up up).nx G H S' _ σ m s st' hv, fun G H S env σ m s st hv => by
        obtain ⟨S', st'⟩ := wp st
        exact ⟨G, S', _, m, s2.trans (s3.trans s), st', hv⟩⟩ (st3.slots sl1) pe
    · obtain ⟨G2, S2, env2, m2, s2, st2, hw⟩ := p
      exact e.nx G2 H' S2 env2 σ m2 (s1.trans s2) st2 (wd env2 m2 hw)
theorem x_while {Γ' : List OT} {ws : List Nat} {tt : TT} {vt : VT} {b : TS} {y : VS} (ht : ST c Γ' tt vt) (hb : SS c t Γ' Γ' Γ' Γ' b y) (hw : wipeΓ Γ ws = Γ' := by rfl) (hw' : wipeΓ Γ' ws = Γ' := by rfl)
    (hv : (ws.all fun i => decide (i < Γ.length)) = true := by rfl) (hv' : (ws.all fun i => decide (i < Γ'.length)) = true := by rfl) : SS c t Γ Γ' Γb Γc (tWhile tt b) (vWhile ws vt y) := fun G H S env σ m De Ve e st hv0 => by
  obtain ⟨W, ⟨n0, w0⟩, wn⟩ := hv0
  obtain ⟨S1, st1⟩ := Stx.wipes st hv
  rw [hw] at st1
  have wp : ∀ {G H : Hp} {S : List (Addr × HO)} {env : Env} {σ : L2.St} {m : Mst}, Stt c Γ' G H S env σ m → ∃ S', Stt c Γ' G H S' (wipeE env ws) σ m := fun st => by
    have q := Stx.wipes st hv'
    rw [hw'] at q
    exact q
  refine ⟨fun n σ H' => ∃ G2 S2 env2 m2, Same G G2 ∧ Stt c Γ' G2 H' S2 env2 σ m2 ∧ W n env2 m2, ⟨n0, G, S1, _, m, Same.refl _, st1, w0⟩, ?_⟩
  rintro n σ H' ⟨G2, S2, env2, m2, s2, st2, hw⟩
  refine ht [] G2 H' S2 env2 σ m2 _ _ st2 (wn n env2 m2 hw) fun q m3 G3 H3 S3 p3 s3 st3 => ?_
  have up : Same G G3 := s2.trans s3
  cases q with
  | true =>
    rw [if_pos rfl] at p3 ⊢
    refine ⟨fun σ H' => ∃ n', n' < n ∧ ∃ G2 S2 env2 m2, Same G G2 ∧ Stt c Γ' G2 H' S2 env2 σ m2 ∧ W n' env2 m2, fun σ' H' h => h, ?_⟩
    exact hb G3 H3 S2 env2 σ m3 _ { Ve with nx := fun e2 m2 => ∃ n', n' < n ∧ W n' (wipeE e2 ws) m2, ct := fun e2 m2 => ∃ n', n' < n ∧ W n' (wipeE e2 ws) m2, bk := fun e2 m2 => Ve.nx (wipeE e2 ws) m2 } ⟨fun G H S env σ m s st ⟨n', l, hv⟩ => by
      obtain ⟨S', st'⟩ := wp st
      exact ⟨n', l, G, S', _, m, up.trans s, st', hv⟩, (e.up up).rt, fun G H S env σ m s st hv => by
      obtain ⟨S', st'⟩ := wp st
      exact (e.up up).nx G H S' _ σ m s st' hv, fun G H S env σ m s st ⟨n', l, hv⟩ => by
      obtain ⟨S', st'⟩ := wp st
      exact ⟨n', l, G, S', _, m, up.trans s, st', hv⟩⟩ st3.drop p3
  | false =>
    rw [if_neg Bool.false_ne_true] at p3 ⊢
    exact e.nx G3 H3 S2 env2 σ m3 up st3.drop p3
/-! assignments -/
theorem Stx.put (st : Stx c Γ G H S1 S env σ m) (hi : i < Γ.length) (q : Own c.K G t S1 v d) : ∃ S', Stt c (Γ.set i t) G H S' (env.set i (some d)) (σ.set i (some v)) m := by
  obtain ⟨s, C, w, a, z⟩ := st
  obtain ⟨A1, A2, A3, rfl, p⟩ := z.put (i := i) (by rw [← z.len.2]; exact hi)
  refine ⟨A1 ++ (S1 ++ A3), s, C, ?_, a, p G S1 t (some d) (some v) (Same.refl G) (.inr ⟨d, v, rfl, rfl, q⟩)⟩
  rw [List.append_assoc, List.append_assoc] at w
  have w2 : Wd (A1 ++ (S1 ++ (A2 ++ (A3 ++ (C ++ c.R))))) G H := w.perm (List.perm_append_comm_assoc A1 S1 _)
  rw [List.nil_append, List.append_assoc, List.append_assoc]
  rw [← List.append_assoc] at w2
  have w3 := w2.dropM
  rw [List.append_assoc] at w3
  exact w3
theorem x_asgF {te : TE} {ve : VE} (h : SF c Γ te ve) (hi : i < Γ.length := by decide) : SS c t Γ (Γ.set i .F) Γb Γc (tAsg te (gName i)) (vAsg ve (vgName i)) := fun G H S env σ m De Ve e st hv =>
  h [] G H S env σ m _ _ st hv fun d m' v G' H' p s st' q => by
    obtain ⟨S', st2⟩ := Stx.put (i := i) (t := .F) st' hi ⟨rfl, q⟩
    exact e.nx G' H' S' _ _ m' s st2 p
theorem x_asgO {te : TE} {ve : VE} (h : SO c Γ te ve) (hi : i < Γ.length := by decide) : SS c t Γ (Γ.set i .O) Γb Γc (tAsg te (gName i)) (vAsg ve (vgName i)) := fun G H S env σ m De Ve e st hv =>
  h [] G H S env σ m _ _ st hv fun d m' v G' H' S1 p s st' q => by
    rw [List.append_nil] at st'
    obtain ⟨S', st2⟩ := Stx.put (i := i) (t := .O) st' hi q
    exact e.nx G' H' S' _ _ m' s st2 p
theorem x_asgT {te : TE} {ve : VE} {tg : TG} {vg : VG} (h : SF c Γ te ve) (hg : SGt c Γ is tg vg) : SS c t Γ Γ Γb Γc (tAsg te tg) (vAsg ve vg) := fun G H S env σ m De Ve e st hv =>
  h [] G H S env σ m _ _ st hv fun d m' v G' H' p s st' q => by
    obtain ⟨q0, C0, q1, q2, z⟩ := id st'
    exact hg G' H' S env σ v d _ _ z st'.v q p fun env' σ' p' z' _ _ => e.nx G' H' S env' σ' m' s (st'.slots z') p'
end
end Ps

/-! WaE: statements that change a thing, exceptions, a def as a whole. -/
namespace Ps
open PySem PySem.Spec PyProof.Rows L2
section
variable {c : JC} {Γ Γ1 Γ2 Γn Γb Γc : List OT} {G G' H H' : Hp} {T S S1 S2 R : List (Addr × HO)} {env : Env} {σ : L2.St} {m : Mst} {v : V} {d : D} {t : OT} {i j : Nat} {is : List Nat}
theorem Wd.putM {A B : List (Addr × HO)} {l : Addr} {o o' : HO} (w : Wd (A ++ ((l, o) :: B)) G H) : Wd (A ++ ((l, o') :: B)) G (upd H l o') :=
  ((w.perm (List.perm_middle.symm)).put (o' := o')).perm List.perm_middle
theorem set_self {α : Type} : ∀ {l : List α} {i : Nat} {x : α}, l[i]? = some x → l.set i x = l
  | [], _, _, h => by simp at h
  | _ :: _, 0, _, h => by simp at h; subst h; rfl
  | y :: l, i + 1, x, h => by rw [List.set_cons_succ, set_self (l := l) (i := i) (by simpa using h)]
/-- one's own list in a slot, changed -/
theorem Stx.mutL {ds : List D} (st : Stx c Γ G H T S env σ m) (he : env[i]? = some (some (.lst ds))) (hi : Γ[i]? = some .O) : ∃ a vs, σ[i]? = some (some (.ref a)) ∧ H a = some (.lst vs) ∧ DdAll c.K G vs ds ∧
    ∀ vs' ds', DdAll c.K G vs' ds' → ∃ S', Stx c Γ G (upd H a (.lst vs')) T S' (env.set i (some (.lst ds'))) σ m := by
  obtain ⟨s, C, w, a, z⟩ := st
  obtain ⟨v, A1, A2, A3, e1, rfl, ⟨l, vs, rfl, rfl, q⟩, e4⟩ := z.at he hi
  have w1 : Wd (T ++ A1 ++ ((l, .lst vs) :: (A3 ++ (C ++ c.R)))) G H := by
    simpa [List.append_assoc] using w
  refine ⟨l, vs, e1, w1.mem (by simp), q, fun vs' ds' q' => ⟨A1 ++ ([(l, .lst vs')] ++ A3), s, C, ?_, a, ?_⟩⟩
  · simpa [List.append_assoc] using w1.putM (o' := .lst vs')
  · have z2 := e4 G [(l, .lst vs')] .O (some (.lst ds')) (some (.ref l)) (Same.refl G) (.inr ⟨_, _, rfl, rfl, l, vs', rfl, rfl, q'⟩)
    rw [set_self hi, set_self e1] at z2
    exact z2
theorem Stx.mutD {kds : List (Key × D)} (st : Stx c Γ G H T S env σ m) (he : env[i]? = some (some (.dic kds))) (hi : Γ[i]? = some .O) : ∃ a kvs, σ[i]? = some (some (.ref a)) ∧ H a = some (.dK kvs) ∧ kvs.map Prod.fst = kds.map Prod.fst ∧ DdAll c.K G (kvs.map Prod.snd) (kds.map Prod.snd) ∧
    ∀ kvs' kds', kvs'.map Prod.fst = kds'.map Prod.fst → DdAll c.K G (kvs'.map Prod.snd) (kds'.map Prod.snd) → ∃ S', Stx c Γ G (upd H a (.dK kvs')) T S' (env.set i (some (.dic kds'))) σ m := by
  obtain ⟨s, C, w, a, z⟩ := st
  obtain ⟨v, A1, A2, A3, e1, rfl, ⟨l, vs, rfl, rfl, q0, q⟩, e4⟩ := z.at he hi
  have w1 : Wd (T ++ A1 ++ ((l, .dK vs) :: (A3 ++ (C ++ c.R)))) G H := by
    simpa [List.append_assoc] using w
  refine ⟨l, vs, e1, w1.mem (by simp), q0, q, fun vs' ds' q0' q' => ⟨A1 ++ ([(l, .dK vs')] ++ A3), s, C, ?_, a, ?_⟩⟩
  · simpa [List.append_assoc] using w1.putM (o' := .dK vs')
  · have z2 := e4 G [(l, .dK vs')] .O (some (.dic ds')) (some (.ref l)) (Same.refl G) (.inr ⟨_, _, rfl, rfl, l, vs', rfl, rfl, q0', q'⟩)
    rw [set_self hi, set_self e1] at z2
    exact z2
/-! methods of a list that change it -/
def MuV (K : PySem.W.Frag) (r : V → List V → Hp → VK → Prop) (f : List D → List D → (List D → D → Prop) → Prop) : Prop := ∀ (G H : Hp) (a : Addr) (vs : List V) (ds : List D) (xs : List V) (es : List D) (P : List D → D → Prop) (Q : VK), Same G H → H a = some (.lst vs) → DdAll K G vs ds → TpAll K G H xs es → f ds es P →
  (∀ ds' z vs' v, P ds' z → DdAll K G vs' ds' → Q v (upd H a (.lst vs'))) → r (.ref a) xs H Q
theorem x_mut {r : V → List V → Hp → VK → Prop} {f : List D → List D → (List D → D → Prop) → Prop} {ta : TA} {va : VA} (o : MuV c.K r f) (hi : Γ[i]? = some .O) (ha : SA c Γ ta va) : SS c t Γ Γ Γb Γc (tDrop (tBM c.K "list" r (tVar i) ta)) (vMut i f va) := fun G H S env σ m De Ve e st hv => by
  obtain ⟨ds, ed, p⟩ := hv
  obtain ⟨a, vs, e1, e2, _, _⟩ := st.mutL ed hi
  refine ⟨_, e1, .inl ⟨rfl, vs, SqL.of e2⟩, ha [] G H S env σ m _ _ st p fun xs m1 us G1 H1 S1 p1 s1 st1 b1 => ?_⟩
  obtain ⟨a', vs', e1', e2', q', k'⟩ := st1.mutL ed hi
  obtain rfl : a = a' := by rw [e1] at e1'; cases e1'; rfl
  refine o G1 H1 a vs' ds us xs _ _ st1.v e2' q' (BoAll.tp (T := S1 ++ []) st1 (b1.mono (Same.refl _) (B := S1 ++ [] ++ S) (fun x hx => by rcases List.mem_append.mp hx with q | q <;> simp [q]))) p1 fun ds' z vs2 u pz q2 => ?_
  obtain ⟨S', st2⟩ := k' vs2 ds' q2
  exact e.nx G1 _ S' _ σ m1 s1 st2.drop pz
theorem x_mut0 {r : V → List V → Hp → VK → Prop} {f : List D → List D → (List D → D → Prop) → Prop} (o : MuV c.K r f) (hi : Γ[i]? = some .O) : SS c t Γ Γ Γb Γc (tDrop (tBM0 c.K "list" r (tVar i))) (vMut i f vNil) := fun G H S env σ m De Ve e st hv => by
  obtain ⟨ds, ed, p⟩ := hv
  obtain ⟨a, vs, e1, e2, q, k⟩ := st.mutL ed hi
  refine ⟨_, e1, .inl ⟨rfl, vs, SqL.of e2⟩, ?_⟩
  refine o G H a vs ds [] [] _ _ st.v e2 q .nil p fun ds' z vs2 u pz q2 => ?_
  obtain ⟨S', st2⟩ := k vs2 ds' q2
  exact e.nx G _ S' _ σ m (Same.refl _) st2 pz
/-- append: the item is shared -/
def vApp (i : Nat) (ve : VE) : VS := fun V env m => ∃ ds, env[i]? = some (some (.lst ds)) ∧ ve env m fun d m1 => ds.length < sizeLine ∧ V.nx (env.set i (some (.lst (ds ++ [d])))) m1
theorem x_app {te : TE} {ve : VE} (hi : Γ[i]? = some .O) (h : SF c Γ te ve) : SS c t Γ Γ Γb Γc (tDrop (tBM c.K "list" rAppend (tVar i) (tCons te tNil))) (vApp i ve) := fun G H S env σ m De Ve e st hv => by
  obtain ⟨ds, ed, p⟩ := hv
  obtain ⟨a, vs, e1, e2, _, _⟩ := st.mutL ed hi
  refine ⟨_, e1, .inl ⟨rfl, vs, SqL.of e2⟩, h [] G H S env σ m _ _ st p fun d m1 u G1 H1 p1 s1 st1 q1 => ?_⟩
  obtain ⟨a', vs', e1', e2', q', k'⟩ := st1.mutL ed hi
  obtain rfl : a = a' := by rw [e1] at e1'; cases e1'; rfl
  obtain ⟨S', st2⟩ := k' (vs' ++ [u]) (ds ++ [d]) (q'.app (.one q1))
  exact ⟨a, vs', u, rfl, rfl, e2', by rw [q'.len]; exact p1.1, e.nx G1 _ S' _ σ m1 s1 st2 p1.2⟩
/-! x[k] = d -/
theorem kV_of {K : PySem.W.Frag} {y : D} {u : V} {k : Key} (h : Tp K G H u y) (e : dKey y = some k) : u = kV k := by
  cases y with
  | int i => cases e; exact h.intInv
  | str z => cases e; exact h.strInv
  | _ => cases e
theorem any_fst {α β : Type} (p : Key → Bool) : ∀ {l : List (Key × α)} {r : List (Key × β)}, l.map Prod.fst = r.map Prod.fst → (l.any fun kv => p kv.1) = (r.any fun kv => p kv.1)
  | [], [], _ => rfl
  | [], _ :: _, h => by simp at h
  | _ :: _, [], h => by simp at h
  | x :: l, y :: r, h => by
    rw [List.map_cons, List.map_cons] at h
    obtain ⟨h1, h2⟩ := List.cons.inj h
    rw [List.any_cons, List.any_cons, h1, any_fst p h2]
theorem put_fst {k : Key} {v : V} {d : D} {kvs : List (Key × V)} {kds : List (Key × D)} (e : kvs.map Prod.fst = kds.map Prod.fst) : (putK kvs k v).map Prod.fst = (dput kds k d).map Prod.fst := by
  unfold putK dput
  rw [any_fst (fun x => decide (x = k)) e]
  split
  · rw [List.map_map, List.map_map]
    have h1 : (Prod.fst ∘ fun (kv : Key × V) => if kv.1 = k then (kv.1, v) else kv) = Prod.fst := by funext x; simp only [Function.comp]; split <;> rfl
    have h2 : (Prod.fst ∘ fun (kv : Key × D) => if kv.1 = k then (kv.1, d) else kv) = Prod.fst := by funext x; simp only [Function.comp]; split <;> rfl
    rw [h1, h2, e]
  · rw [List.map_append, List.map_append, e]; rfl
theorem map_put {K : PySem.W.Frag} {k : Key} {v : V} {d : D} (h : Dd K G v d) : ∀ {kvs : List (Key × V)} {kds : List (Key × D)}, kvs.map Prod.fst = kds.map Prod.fst → DdAll K G (kvs.map Prod.snd) (kds.map Prod.snd) →
    DdAll K G ((kvs.map (fun kv => if kv.1 = k then (kv.1, v) else kv)).map Prod.snd) ((kds.map (fun kv => if kv.1 = k then (kv.1, d) else kv)).map Prod.snd)
  | [], [], _, _ => .nil
  | [], _ :: _, e, _ => by simp at e
  | _ :: _, [], e, _ => by simp at e
  | x :: l, y :: r, e, q => by
    rw [List.map_cons, List.map_cons] at e
    obtain ⟨h1, h2⟩ := List.cons.inj e
    rw [List.map_cons, List.map_cons] at q
    cases q with
    | cons q1 q2 =>
      rw [List.map_cons, List.map_cons, List.map_cons, List.map_cons, h1]
      refine .cons ?_ (map_put h h2 q2)
      by_cases z : y.1 = k
      · rw [if_pos z, if_pos z]; exact h
      · rw [if_neg z, if_neg z]; exact q1
theorem put_snd {K : PySem.W.Frag} {k : Key} {v : V} {d : D} (h : Dd K G v d) {kvs : List (Key × V)} {kds : List (Key × D)} (e : kvs.map Prod.fst = kds.map Prod.fst) (q : DdAll K G (kvs.map Prod.snd) (kds.map Prod.snd)) : DdAll K G ((putK kvs k v).map Prod.snd) ((dput kds k d).map Prod.snd) := by
  unfold putK dput
  rw [any_fst (fun x => decide (x = k)) e]
  split
  · exact map_put h e q
  · rw [List.map_append, List.map_append]; exact q.app (.one h)
theorem get_snd {K : PySem.W.Frag} {k : Key} : ∀ {kvs : List (Key × V)} {kds : List (Key × D)}, kvs.map Prod.fst = kds.map Prod.fst → DdAll K G (kvs.map Prod.snd) (kds.map Prod.snd) →
    (valV kvs k = none ∧ dget kds k = none) ∨ ∃ v d, valV kvs k = some v ∧ dget kds k = some d ∧ Dd K G v d
  | [], [], _, _ => .inl ⟨rfl, rfl⟩
  | [], _ :: _, e, _ => by simp at e
  | _ :: _, [], e, _ => by simp at e
  | x :: l, y :: r, e, q => by
    rw [List.map_cons, List.map_cons] at e
    obtain ⟨h1, h2⟩ := List.cons.inj e
    rw [List.map_cons, List.map_cons] at q
    cases q with
    | cons q1 q2 =>
      by_cases z : y.1 = k
      · refine .inr ⟨x.2, y.2, ?_, ?_, q1⟩
        · rw [valV_pos (by rw [h1]; exact z)]
        · unfold dget; rw [List.find?_cons_of_pos (by simp [z])]; rfl
      · rcases get_snd (k := k) h2 q2 with ⟨h3, h4⟩ | ⟨v, d, h3, h4, h5⟩
        · refine .inl ⟨by rw [valV_neg (by rw [h1]; exact z)]; exact h3, ?_⟩
          unfold dget; rw [List.find?_cons_of_neg (by simp [z])]; exact h4
        · refine .inr ⟨v, d, by rw [valV_neg (by rw [h1]; exact z)]; exact h3, ?_, h5⟩
          unfold dget; rw [List.find?_cons_of_neg (by simp [z])]; exact h4
theorem x_put {te tk : TE} {ve vk : VE} (hi : Γ[i]? = some .O) (h : SF c Γ te ve) (hk : SF c Γ tk vk) : SS c t Γ Γ Γb Γc (tAsg te (gSub (tVar i) tk rSetU)) (vPut i ve vk) := fun G H S env σ m De Ve e st hv =>
  h [] G H S env σ m _ _ st hv fun d m1 u G1 H1 p1 s1 st1 q1 => by
    obtain ⟨x, ed, p⟩ := p1
    have e1 : ∃ v, σ[i]? = some (some v) := by
      obtain ⟨s, C, w, a, z⟩ := st1
      obtain ⟨v, A1, A2, A3, e1, _⟩ := z.at ed hi
      exact ⟨v, e1⟩
    obtain ⟨v, e1⟩ := e1
    refine ⟨v, e1, hk [] G1 H1 S env σ m1 _ _ st1 p fun y m2 w G2 H2 p2 s2 st2 q2 => ?_⟩
    have q1' := q1.mono s2
    split at p2
    · rename_i ds k
      obtain ⟨j, hj, p3⟩ := p2
      obtain ⟨a, vs, e1', e2, q, kk⟩ := st2.mutL ed hi
      obtain rfl : v = .ref a := by rw [e1] at e1'; cases e1'; rfl
      obtain rfl := q2.intInv
      obtain ⟨S', st3⟩ := kk (vs.set j u) (ds.set j d) (q.set j q1')
      exact .inl ⟨a, vs, k, j, rfl, rfl, e2, by rw [q.len]; exact hj, e.nx G2 _ S' _ σ m2 (s1.trans s2) st3 p3⟩
    · rename_i kds
      obtain ⟨k, ek, hz, p3⟩ := p2
      obtain ⟨a, kvs, e1', e2, e3, q, kk⟩ := st2.mutD ed hi
      obtain rfl : v = .ref a := by rw [e1] at e1'; cases e1'; rfl
      obtain rfl := kV_of (.dd q2 : Tp c.K G2 H2 w y) ek
      obtain ⟨S', st3⟩ := kk (putK kvs k u) (dput kds k d) (put_fst e3) (put_snd q1' e3 q)
      have el : kvs.length = kds.length := by simpa using congrArg List.length e3
      exact .inr ⟨a, _, rfl, DPut.k (k := k) e2 (by rw [el]; exact hz), e.nx G2 _ S' _ σ m2 (s1.trans s2) st3 p3⟩
    · exact p2.elim
/-! x op= e of a name that holds what is no list -/
def IpV (K : PySem.W.Frag) (r : TIp) (f : D → D → (D → Prop) → Prop) : Prop := ∀ (G H : Hp) (x y : V) (d e : D) (P : D → Prop) (Q : VK), Same G H → Tp K G H x d → Tp K G H y e → f d e P → (∀ z v H', P z → Nw K G H v H' z → Q v H') → r x y H Q
theorem Stx.var (st : Stx c Γ G H T S env σ m) (he : env[i]? = some (some d)) (hi : Γ[i]? = some t) : ∃ v, σ[i]? = some (some v) ∧ Tp c.K G H v d := by
  obtain ⟨s, C, w, a, z⟩ := id st
  obtain ⟨v, A1, A2, A3, e1, rfl, q, _⟩ := z.at he hi
  exact ⟨v, e1, bo_tp st ⟨t, A2, fun x hx => by simp [hx], q⟩⟩
theorem x_aug {r : TIp} {f : D → D → (D → Prop) → Prop} {te : TE} {ve : VE} (o : IpV c.K r f) {t0 : OT} (hi : Γ[i]? = some t0) (h : SB c Γ te ve) : SS c t Γ (Γ.set i .O) Γb Γc (tAug i te r) (vAug i f ve) := fun G H S env σ m De Ve e st hv => by
  obtain ⟨x, ex, p⟩ := hv
  obtain ⟨v, e1, _⟩ := st.var ex hi
  refine ⟨v, e1, h.tp st p fun y m1 u G1 H1 S1 p1 s1 st1 t1 => ?_⟩
  obtain ⟨v', e1', t2⟩ := st1.var ex hi
  obtain rfl : v = v' := by rw [e1] at e1'; cases e1'; rfl
  refine o G1 H1 v u x y _ _ st1.v t2 t1 p1 fun z w H' pz n => ?_
  obtain ⟨G2, S2, s2, st2, q2⟩ := Nw.own (T := []) st1.dropT n
  rw [List.append_nil] at st2
  obtain ⟨S', st3⟩ := Stx.put (i := i) (t := .O) st2 (by exact (List.getElem?_eq_some_iff.mp hi).1) q2
  exact e.nx G2 H' S' _ _ m1 (s1.trans s2) st3 pz
/-- two names at once -/
theorem Slots.put2 {u w : V} {x y : D} (st : Stt c Γ G H S env σ m) (hi : Γ[i]? = some .F) (hj : Γ[j]? = some .F) (hx : Dd c.K G u x) (hy : Dd c.K G w y) : Stt c Γ G H S ((env.set i (some x)).set j (some y)) ((σ.set i (some u)).set j (some w)) m := by
  obtain ⟨s, C, w', a, z⟩ := st
  exact ⟨s, C, w', a, (z.setF hi (.inr ⟨x, u, rfl, rfl, hx⟩)).setF hj (.inr ⟨y, w, rfl, rfl, hy⟩)⟩
theorem x_par {ta : TA} {va : VA} (h : SG c Γ ta va) (hi : Γ[i]? = some .F) (hj : Γ[j]? = some .F) : SS c t Γ Γ Γb Γc (tPar i j ta) (vPar i j va) := fun G H S env σ m De Ve e st hv =>
  h [] G H S env σ m _ _ st hv fun ds m1 vs G1 H1 p1 s1 st1 q1 => by
    split at p1
    · obtain ⟨u, w, rfl, h1, h2⟩ := BoAll.inv2 q1
      exact ⟨u, w, rfl, e.nx G1 H1 S _ _ m1 s1 (Slots.put2 st1 hi hj h1 h2) p1⟩
    · exact p1.elim
/-! exceptions -/
theorem x_raise0 {W : WX} {VW : XW} {C : Addr} (hx : ExOk c Γ W VW) : SS c t Γ Γn Γb Γc (tRz W (.ref C)) (vRaise VW C []) := fun G H S env σ m De Ve e st hv =>
  hx G H S env σ m C [] none st (.inl ⟨rfl, rfl⟩) hv
/-- BadBytes(why) -/
def vRz1 (VW : XW) (C : Addr) (f : Str) (va : VA) : VS := fun _ env m => va env m fun ds m1 => match ds with
  | [d] => VW C [(f, d)] env m1
  | _ => False
/-- __init__(self, x) that keeps x as f -/
def spIni (f : Str) (K : PySem.W.Frag) (C : Addr) : Sp := fun vs H Q _ => ∃ (a : Addr) (v : V), vs = [.ref a, v] ∧ H a = some (exo a C none) ∧
  ∀ dx, H dx = none → dx ≠ a → Q .non (upd (upd H dx (exd dx [(f, v)])) a (exo a C (some dx)))
theorem x_raise1 {W : WX} {VW : XW} {C : Addr} {f : Str} {ta : TA} {va : VA} (hx : ExOk c Γ W VW) (h : SG c Γ ta va) : SS c t Γ Γn Γb Γc (tRzO W C (spIni f c.K C) ta) (vRz1 VW C f va) := fun G H S env σ m De Ve e st hv =>
  h [] G H S env σ m _ _ st hv fun ds m1 vs G1 H1 p1 s1 st1 q1 => by
    split at p1
    · rename_i d
      obtain ⟨v, rfl, q⟩ := BoAll.inv1 q1
      refine ⟨by show 1 ≤ 1000; decide, fun a ha => ⟨a, v, rfl, upd_same, fun dx hdx ne => ⟨rfl, dx, _, upd_same, by rw [upd_ne ne]; exact upd_same, ?_, ?_⟩⟩⟩
      · rw [upd_ne ne] at hdx; exact hdx
      · rw [upd_ne ne] at hdx
        have eH : upd (del (upd (upd (upd H1 a (exo a C none)) dx (exd dx [(f, v)])) a (exo a C (some dx))) a) dx (.xd [(f, v)]) = upd H1 dx (.xd [(f, v)]) := by
          funext b
          by_cases e1 : b = dx
          · subst e1; rw [upd_same, upd_same]
          · rw [upd_ne e1, upd_ne e1]
            by_cases e2 : b = a
            · subst e2; rw [del_same, ha]
            · rw [del_ne e2, upd_ne e2, upd_ne e1, upd_ne e2]
        rw [eH]
        obtain ⟨st2, s2⟩ := st1.newS (o := .xd [(f, v)]) hdx
        exact hx _ _ S env σ m1 C [(f, d)] (some dx) st2 (.inr ⟨dx, [(f, v)], rfl, upd_same, rfl, (DdAll.one (q.mono s2) : DdAll c.K (upd G1 dx (HO.xd [(f, v)])) [v] [d])⟩) p1
    · exact p1.elim
/-! try: .. except X as n: y = n -/
def vTryK (K : PySem.W.Frag) (x : Value) (i j : Nat) (vb : XW → VS) (VWo : XW) : VS := fun V env m => vb (fun C fs e m' => ∃ b, PySem.W.exmOne K (.ref C) x = some b ∧ if b = true then V.nx (((e.set i (some (.exc C fs))).set j (some (.exc C fs))).set i none) m' else VWo C fs e m') V env m
theorem x_tryK {x : Value} {tb : WX → TS} {vb : XW → VS} {Wo : WX} {VWo : XW} {Γt : List OT} (hxo : ∀ Γ, ExOk c Γ Wo VWo) (hi : Γt[i]? = some .F) (hj : Γt[j]? = some .F)
    (hb : ∀ (G0 : Hp) (W : WX) (VW : XW), (∀ Γ', Γt.length = Γ'.length → (Γ'.zip Γt).all (fun p => leO p.1 p.2) = true → ExOk { c with G0 := G0 } Γ' W VW) → (∀ Γ, ExOk { c with G0 := G0 } Γ Wo VWo) → SS { c with G0 := G0 } t Γ Γt Γb Γc (tb W) (vb VW)) :
    SS c t Γ Γt Γb Γc (tTryK c.K x i j tb Wo) (vTryK c.K x i j vb VWo) := fun G H S env σ m De Ve e st hv => by
  obtain ⟨s0, C0, w0, a0, z0⟩ := st
  have dn : ∀ {Γ : List OT} {G' H' : Hp} {S' : List (Addr × HO)} {env' : Env} {σ' : L2.St} {m' : Mst}, Stt { c with G0 := G } Γ G' H' S' env' σ' m' → Same G G' ∧ Stt c Γ G' H' S' env' σ' m' := fun ⟨s, C, w, a, z⟩ => ⟨s, s0.trans s, C, w, a, z⟩
  refine hb G (wKeep c.K x i j Wo De) (fun C fs e m' => ∃ b, PySem.W.exmOne c.K (.ref C) x = some b ∧ if b = true then Ve.nx (((e.set i (some (.exc C fs))).set j (some (.exc C fs))).set i none) m' else VWo C fs e m') (fun Γ' hl hz G' H' S' env' σ' m' C fs d st' ex hx => ?_) (fun Γ' G' H' S' env' σ' m' C fs d st' ex hx => hxo Γ' G' H' S' env' σ' m' C fs d (dn st').2 ex hx) G H S env σ m De Ve
    ⟨fun G' H' S' env' σ' m' s st' hv => e.nx G' H' S' env' σ' m' s (dn st').2 hv, fun G' H' S1 C m v d s s' w a o => e.rt G' H' S1 C m v d s (s0.trans s') w a o, fun G' H' S' env' σ' m' s st' hv => e.bk G' H' S' env' σ' m' s (dn st').2 hv, fun G' H' S' env' σ' m' s st' hv => e.ct G' H' S' env' σ' m' s (dn st').2 hv⟩ ⟨Same.refl G, C0, w0, a0, z0⟩ hv
  obtain ⟨b, eb, hx⟩ := hx
  obtain ⟨sG, st2⟩ := dn st'
  refine ⟨C, b, rfl, eb, fun hb1 a ha => ?_, fun hb1 => ?_⟩
  · subst hb1
    rw [if_pos rfl] at hx
    obtain ⟨G2, S2, s2, st3⟩ := st2.weak hl hz
    obtain ⟨st4, s4⟩ := st3.newS (o := exv a C d) ha
    have hd : Dd c.K (upd G2 a (exv a C d)) (.ref a) (.exc C fs) := by
      rcases ex with ⟨rfl, rfl⟩ | ⟨b, xs, rfl, e1, e2, q⟩
      · exact .exc0 upd_same
      · exact .exc1 upd_same (s4 _ _ (s2 _ _ e1)) e2 rfl rfl rfl (q.mono (s2.trans s4))
    obtain ⟨t1, C1, t2, t3, z⟩ := id st4
    exact e.nx _ _ S2 _ _ m' (sG.trans (s2.trans s4)) (st4.slots (((z.setF hi (.inr ⟨_, _, rfl, rfl, hd⟩)).setF hj (.inr ⟨_, _, rfl, rfl, hd⟩)).setF hi (.inl rfl))) hx
  · subst hb1
    rw [if_neg Bool.false_ne_true] at hx
    exact hxo Γ' G' H' S' env' σ' m' C fs d st2 ex hx
/-! ### a def as a whole -/
def vstart (N : Nat) (ds : List D) : Env := ds.map some ++ List.replicate (N - ds.length) none
theorem slots_nones {K : PySem.W.Frag} : ∀ n : Nat, Slots K G (List.replicate n .F) [] (List.replicate n none) (List.replicate n (none : Option V))
  | 0 => .nil
  | n + 1 => .no (slots_nones n)
theorem slots_args {K : PySem.W.Frag} {r : Nat} : ∀ {vs : List V} {ds : List D}, DdAll K G vs ds → Slots K G (List.replicate (ds.length + r) .F) [] (ds.map some ++ List.replicate r none) (vs.map some ++ List.replicate r none)
  | _, _, .nil => by rw [List.length_nil, Nat.zero_add]; exact slots_nones r
  | _, _, .cons (ds := ds) h t => by
    rw [show (_ :: ds).length + r = (ds.length + r) + 1 by rw [List.length_cons]; omega, List.replicate_succ]
    exact .yes (S1 := []) ⟨rfl, h⟩ (slots_args t)
theorem slots_start {K : PySem.W.Frag} {N : List Str} {vs : List V} {ds : List D} (h : DdAll K G vs ds) (hl : ds.length ≤ N.length) : Slots K G (List.replicate N.length .F) [] (vstart N.length ds) (L2.start N vs) := by
  unfold vstart L2.start
  rw [h.len]
  have q := slots_args (r := N.length - ds.length) h
  rw [show ds.length + (N.length - ds.length) = N.length by omega] at q
  exact q
/-- what a def's body wishes -/
abbrev vends (P : D → Mst → Prop) : VEnds := { nx := fun _ m => P .non m, rt := P }
theorem sim_def {K : PySem.W.Frag} {t : OT} {N : List Str} {Γn Γb Γc : List OT} {ts : XK → TS} {vs : XV → VS} {n : Nat} (hn : n ≤ N.length)
    (h : ∀ (c : JC) (W : XK) (VX : XV), c.K = K → (∀ Γ, ExOk c Γ (fun cls d _ H => W cls d H) (fun C fs _ m => VX C fs m)) → SS c t (List.replicate N.length .F) Γn Γb Γc (ts W) (vs VX))
    {vsp : VSp} (hv : ∀ ds m P X, vsp ds m P X → ds.length = n ∧ vs X (vends P) (vstart N.length ds) m) :
    ∀ us H Q E, spV K t vsp us H Q E → ts E { nx := fun _ H' => Q .non H', rt := Q } (L2.start N us) H := by
  rintro us H Q E ⟨ds, G, R, C, m, P, X, w, a, q, hs, k, kx⟩
  obtain ⟨hl, hb⟩ := hv ds m P X hs
  have w0 : Wd ([] ++ ([] ++ (C ++ R))) G H := w
  refine h ⟨K, R, G⟩ E X rfl (fun Γ G' H' S env σ m' C' fs d st ex hx => ?_) G H [] (vstart N.length ds) (L2.start N us) m _ (vends P) ⟨?_, ?_, fun _ _ _ _ _ _ _ _ h => h.elim, fun _ _ _ _ _ _ _ _ h => h.elim⟩ ⟨Same.refl G, C, w0, a, slots_start q (by omega)⟩ hb
  · obtain ⟨s, C2, w2, a2, z2⟩ := st
    exact kx C' fs m' d H' G' C2 hx s w2.dropL.dropL a2 ex
  · rintro G' H' S env σ m' s ⟨_, C2, w2, a2, z2⟩ hp
    exact k .non m' .non H' G' [] C2 hp s w2.dropL.dropL a2 own_non
  · intro G' H' S1 C2 m' v d s _ w2 a2 o hp
    exact k d m' v H' G' S1 C2 hp s w2 a2 o
end
end Ps

/-! WaO: operators over data. -/
namespace Ps
open PySem PySem.Spec PyProof.Rows L2

/-! ### data as PyData -/
mutual
def D.py : D → PyData
  | .non => .none
  | .bl b => .bool b
  | .int i => .int i
  | .str s => .str s
  | .lst ds => .list (D.pys ds)
  | .tup ds => .tuple (D.pys ds)
  | _ => .dict []
def D.pys : List D → List PyData
  | [] => []
  | d :: ds => d.py :: D.pys ds
end
mutual
/-- data without dicts, instances, classes -/
def D.pl : D → Bool
  | .non | .bl _ | .int _ | .str _ => true
  | .lst ds => D.pls ds
  | .tup ds => D.pls ds
  | _ => false
def D.pls : List D → Bool
  | [] => true
  | d :: ds => d.pl && D.pls ds
end
section
variable {K : PySem.W.Frag} {G H : Hp}
mutual
theorem Dd.dp : ∀ {d : D} {v : V}, Dd K G v d → d.pl = true → Dp K G v d.py
  | .non, _, h, _ => by cases h; exact .non
  | .bl b, _, h, _ => by cases h; exact .bl b
  | .int b, _, h, _ => by cases h; exact .int b
  | .str b, _, h, _ => by cases h; exact .str b
  | .lst ds, _, h, e => by
    cases h with | lst h1 h2 => exact .lst (SqL.of h1) (DdAll.dp h2 (by simpa [D.pl] using e))
  | .tup ds, _, h, e => by
    cases h with | tup h1 h2 => exact .tup h1.sq (DdAll.dp h2 (by simpa [D.pl] using e))
  | .adr _, _, _, e => by simp [D.pl] at e
  | .ty _, _, _, e => by simp [D.pl] at e
  | .scr _, _, _, e => by simp [D.pl] at e
  | .dic _, _, _, e => by simp [D.pl] at e
  | .obj _ _, _, _, e => by simp [D.pl] at e
  | .exc _ _, _, _, e => by simp [D.pl] at e
theorem DdAll.dp : ∀ {ds : List D} {vs : List V}, DdAll K G vs ds → D.pls ds = true → DpAll K G vs (D.pys ds)
  | [], _, h, _ => by cases h; exact .nil
  | d :: ds, _, h, e => by
    rw [D.pls, Bool.and_eq_true] at e
    cases h with | cons h1 h2 => exact .cons (h1.dp e.1) (h2.dp e.2)
end
/-! ### flat things -/
def D.fl : D → Bool
  | .non | .bl _ | .int _ | .str _ => true
  | _ => false
/-- == of scalars, as the machine tells them apart -/
def scD : D → D → Bool
  | .non, .non => true | .non, .int _ => true | .int _, .non => true | .non, .bl _ => true | .bl _, .non => true | .non, .str _ => true | .str _, .non => true
  | .int _, .int _ => true | .bl _, .bl _ => true | .str _, .str _ => true
  | .int _, .str _ => true | .str _, .int _ => true | .bl _, .str _ => true | .str _, .bl _ => true
  | _, _ => false
def eqS : D → D → Bool
  | .non, .non => true
  | .bl a, .bl b => decide (a = b)
  | .int a, .int b => decide (a = b)
  | .str a, .str b => decide (a = b)
  | _, _ => false
theorem scD_v {x y : D} {u v : V} (h : Dd K G u x) (h' : Dd K G v y) (e : scD x y = true) : scal u v = true ∧ decide (u = v) = eqS x y := by
  unfold scD at e
  split at e <;> first | exact absurd e Bool.false_ne_true | (cases h; cases h'; exact ⟨rfl, by simp [eqS]⟩)
/-! ### operators -/
def vAdd : D → D → (D → Prop) → Prop
  | .int i, .int j, P => P (.int (i + j))
  | .str a, .str b, P => a.length + b.length ≤ sizeLine ∧ P (.str (a ++ b))
  | .lst a, .lst b, P => a.length + b.length ≤ sizeLine ∧ P (.lst (a ++ b))
  | .tup a, .tup b, P => a.length + b.length ≤ sizeLine ∧ P (.tup (a ++ b))
  | _, _, _ => False
def vSub : D → D → (D → Prop) → Prop
  | .int i, .int j, P => P (.int (i - j))
  | _, _, _ => False
def vMul : D → D → (D → Prop) → Prop
  | .int i, .int j, P => (CMul i j ∨ CMulW i j) ∧ P (.int (i * j))
  | .lst a, .int k, P => (-(2 ^ 63) ≤ k ∧ k < 2 ^ 63 ∧ a.length * k.toNat ≤ sizeLine) ∧ P (.lst (List.replicate k.toNat a).flatten)
  | .str z, .int k, P => (2 ≤ k ∧ z.length ≠ 0 ∧ z.length * k.toNat ≤ 16777216) ∧ P (.str (repS z k.toNat))
  | _, _, _ => False
def vDiv : D → D → (D → Prop) → Prop
  | .int i, .int j, P => (CDiv i j ∨ CDivW i j) ∧ P (.int (i / j))
  | _, _, _ => False
def vMod : D → D → (D → Prop) → Prop
  | .int i, .int j, P => 0 < j ∧ P (.int (i % j))
  | _, _, _ => False
def vPow : D → D → (D → Prop) → Prop
  | .int i, .int j, P => CPow i j ∧ P (.int (i ^ j.toNat))
  | _, _, _ => False
def vEqC : D → D → (D → Prop) → Prop := fun x y P => if scD x y = true then P (.bl (eqS x y)) else (x.pl = true ∧ y.pl = true ∧ SeqAt.shaped x.py = true ∧ SeqAt.shaped y.py = true) ∧ P (.bl (PyData.eqv x.py y.py))
def vNeC : D → D → (D → Prop) → Prop := fun x y P => if scD x y = true then P (.bl (!eqS x y)) else (x.pl = true ∧ y.pl = true ∧ SeqAt.shaped x.py = true ∧ SeqAt.shaped y.py = true) ∧ P (.bl (!PyData.eqv x.py y.py))
def vLt : D → D → (D → Prop) → Prop
  | .int i, .int j, P => P (.bl (decide (i < j)))
  | .str i, .str j, P => P (.bl (decide (i.cps.toList < j.cps.toList)))
  | _, _, _ => False
def vLe : D → D → (D → Prop) → Prop
  | .int i, .int j, P => P (.bl (decide (i ≤ j)))
  | .str i, .str j, P => P (.bl (!decide (j.cps.toList < i.cps.toList)))
  | _, _, _ => False
def vGt : D → D → (D → Prop) → Prop
  | .int i, .int j, P => P (.bl (decide (j < i)))
  | .str i, .str j, P => P (.bl (decide (j.cps.toList < i.cps.toList)))
  | _, _, _ => False
def vGe : D → D → (D → Prop) → Prop
  | .int i, .int j, P => P (.bl (decide (j ≤ i)))
  | .str i, .str j, P => P (.bl (!decide (i.cps.toList < j.cps.toList)))
  | _, _, _ => False
def D.isN : D → Bool
  | .non => true
  | _ => false
def vIsN : D → D → (D → Prop) → Prop
  | x, .non, P => P (.bl x.isN)
  | _, _, _ => False
def vNotN : D → D → (D → Prop) → Prop
  | x, .non, P => P (.bl (!x.isN))
  | _, _, _ => False
def eqF : D → D → Bool
  | .non, .non => true
  | .bl a, .bl b => a == b
  | .int a, .int b => a == b
  | .str a, .str b => a == b
  | .bl a, .int b => (if a then 1 else 0) == b
  | .int a, .bl b => a == (if b then 1 else 0)
  | _, _ => false
def vIn (neg : Bool) : D → D → (D → Prop) → Prop
  | x, .lst ds, P => (x.fl = true ∧ ds.all D.fl = true) ∧ P (.bl (if neg then !(ds.any fun y => eqF y x) else ds.any fun y => eqF y x))
  | x, .tup ds, P => (x.fl = true ∧ ds.all D.fl = true) ∧ P (.bl (if neg then !(ds.any fun y => eqF y x) else ds.any fun y => eqF y x))
  | .str i, .str j, P => P (.bl (if neg then !(!(Builtin.Str.occurrences j i 0 j.length 1).isEmpty) else !(Builtin.Str.occurrences j i 0 j.length 1).isEmpty))
  | x, .dic kds, P => ∃ k, dKey x = some k ∧ P (.bl (if neg then !(dget kds k).isSome else (dget kds k).isSome))
  | _, _, _ => False
def vIx : D → D → (D → Prop) → Prop
  | .lst ds, .int i, P => ∃ d, atI ds i = some d ∧ P d
  | .tup ds, .int i, P => ∃ d, atI ds i = some d ∧ P d
  | .str z, .int i, P => z.length ≤ sizeLine ∧ ∃ c, atI z.cps.toList i = some c ∧ P (.str ⟨#[c]⟩)
  | .dic kds, y, P => ∃ k d, dKey y = some k ∧ dget kds k = some d ∧ P d
  | _, _, _ => False
theorem o_add : OpV K (rAddU K) vAdd := fun G H x y d e P Q s h h' f k => by
  unfold vAdd at f
  split at f
  · obtain rfl := h.intInv; obtain rfl := h'.intInv
    exact w_addI (k _ _ _ f (.old (.int _) rfl))
  · obtain rfl := h.strInv; obtain rfl := h'.strInv
    exact w_addS f.1 (k _ _ _ f.2 (.old (.str _) rfl))
  · obtain ⟨a, vs, rfl, h1, q1⟩ := h.l s
    obtain ⟨b, ws, rfl, h2, q2⟩ := h'.l s
    exact w_addL h1 h2 (by rw [q1.len, q2.len]; exact f.1) fun p hp => k _ _ _ f.2 (.lst hp (q1.app q2))
  · obtain ⟨a, vs, rfl, g1, h1, q1⟩ := h.t s
    obtain ⟨b, ws, rfl, g2, h2, q2⟩ := h'.t s
    refine .inr (.inr ⟨a, b, vs, ws, rfl, rfl, h1, h2, by rw [q1.len, q2.len]; exact f.1, fun e => ?_, fun _ e => ?_, fun _ _ p hp => k _ _ _ f.2 (.tup hp (q1.app q2))⟩)
    · subst e
      cases q1
      exact k _ _ _ f.2 (.old (.tup g2 q2) rfl)
    · subst e
      cases q2
      rw [List.append_nil] at f
      exact k _ _ _ f.2 (.old (.tup g1 q1) rfl)
  · exact f.elim
theorem o_sub : OpV K rSubU vSub := fun G H x y d e P Q s h h' f k => by
  unfold vSub at f
  split at f
  · obtain rfl := h.intInv; obtain rfl := h'.intInv
    exact w_subI (k _ _ _ f (.old (.int _) rfl))
  · exact f.elim
theorem o_mul : OpV K rMulT vMul := fun G H x y d e P Q s h h' f k => by
  unfold vMul at f
  split at f
  · obtain rfl := h.intInv; obtain rfl := h'.intInv
    refine .inl ?_
    rcases f.1 with q | q
    · exact w_mulI q (k _ _ _ f.2 (.old (.int _) rfl))
    · exact w_mulW q (k _ _ _ f.2 (.old (.int _) rfl))
  · obtain ⟨a, vs, rfl, h1, q1⟩ := h.l s
    obtain rfl := h'.intInv
    exact .inl (w_rep h1 f.1.1 f.1.2.1 (by rw [q1.len]; exact f.1.2.2) fun p hp => k _ _ _ f.2 (.lst hp (q1.flat _)))
  · obtain rfl := h.strInv; obtain rfl := h'.intInv
    rename_i z j
    obtain ⟨n, rfl⟩ : ∃ n : Nat, j = (n : Int) := ⟨j.toNat, by omega⟩
    rw [Int.toNat_natCast] at f
    exact .inr ⟨_, n, rfl, rfl, by omega, f.1.2.1, f.1.2.2, k _ _ _ f.2 (.old (.str _) rfl)⟩
  · exact f.elim
theorem o_div : OpV K rDivU vDiv := fun G H x y d e P Q s h h' f k => by
  unfold vDiv at f
  split at f
  · obtain rfl := h.intInv; obtain rfl := h'.intInv
    rcases f.1 with q | q
    · exact w_divI q (k _ _ _ f.2 (.old (.int _) rfl))
    · exact w_divW q (k _ _ _ f.2 (.old (.int _) rfl))
  · exact f.elim
theorem o_mod : OpV K rModU vMod := fun G H x y d e P Q s h h' f k => by
  unfold vMod at f
  split at f
  · obtain rfl := h.intInv; obtain rfl := h'.intInv
    exact w_modI f.1 (k _ _ _ f.2 (.old (.int _) rfl))
  · exact f.elim
theorem o_pow : OpV K rPowU vPow := fun G H x y d e P Q s h h' f k => by
  unfold vPow at f
  split at f
  · obtain rfl := h.intInv; obtain rfl := h'.intInv
    exact w_powI f.1 (k _ _ _ f.2 (.old (.int _) rfl))
  · exact f.elim
theorem scD_fl {x y : D} (e : scD x y = true) : x.sc = true ∧ y.sc = true := by
  unfold scD at e
  split at e <;> first | exact absurd e Bool.false_ne_true | exact ⟨rfl, rfl⟩
theorem o_eq : OpV K (rEqU K) vEqC := fun G H x y d e P Q s h h' f k => by
  unfold vEqC at f
  split at f
  · rename_i z
    obtain ⟨z1, z2⟩ := scD_v (h.s (scD_fl z).1) (h'.s (scD_fl z).2) z
    exact .inl ⟨z1, by rw [z2]; exact k _ _ _ f (.old (.bl _) rfl)⟩
  · exact .inr ⟨_, _, (h.deep s).dp f.1.1, (h'.deep s).dp f.1.2.1, f.1.2.2.1, f.1.2.2.2, k _ _ _ f.2 (.old (.bl _) rfl)⟩
theorem o_ne : OpV K (rNeU K) vNeC := fun G H x y d e P Q s h h' f k => by
  unfold vNeC at f
  split at f
  · rename_i z
    obtain ⟨z1, z2⟩ := scD_v (h.s (scD_fl z).1) (h'.s (scD_fl z).2) z
    exact .inl ⟨z1, by rw [z2]; exact k _ _ _ f (.old (.bl _) rfl)⟩
  · exact .inr ⟨_, _, (h.deep s).dp f.1.1, (h'.deep s).dp f.1.2.1, f.1.2.2.1, f.1.2.2.2, k _ _ _ f.2 (.old (.bl _) rfl)⟩
/-! <, <=, >, >= of ints and of texts -/
def rLeV : R2 := fun x y H Q => rLeU x y H Q ∨ ∃ i j, x = .str i ∧ y = .str j ∧ Q (.bl (!decide (j.cps.toList < i.cps.toList))) H
def rGtV : R2 := fun x y H Q => rGtU x y H Q ∨ ∃ i j, x = .str i ∧ y = .str j ∧ Q (.bl (decide (j.cps.toList < i.cps.toList))) H
def rGeV : R2 := fun x y H Q => rGeU x y H Q ∨ ∃ i j, x = .str i ∧ y = .str j ∧ Q (.bl (!decide (i.cps.toList < j.cps.toList))) H
theorem op_leV {X : Cx} : OpR X (compareOp .LtE) rLeV := opr_or op_leU op_le_str
theorem op_gtV {X : Cx} : OpR X (compareOp .Gt) rGtV := opr_or op_gtU op_gt_str
theorem op_geV {X : Cx} : OpR X (compareOp .GtE) rGeV := opr_or op_geU op_ge_str
theorem o_lt : OpV K (rLtU K) vLt := fun G H x y d e P Q s h h' f k => by
  unfold vLt at f
  split at f
  · obtain rfl := h.intInv; obtain rfl := h'.intInv
    exact w_ltI (k _ _ _ f (.old (.bl _) rfl))
  · obtain rfl := h.strInv; obtain rfl := h'.strInv
    exact .inr ⟨_, _, rfl, rfl, k _ _ _ f (.old (.bl _) rfl)⟩
  · exact f.elim
theorem o_le : OpV K rLeV vLe := fun G H x y d e P Q s h h' f k => by
  unfold vLe at f
  split at f
  · obtain rfl := h.intInv; obtain rfl := h'.intInv
    exact .inl (w_leI (k _ _ _ f (.old (.bl _) rfl)))
  · obtain rfl := h.strInv; obtain rfl := h'.strInv
    exact .inr ⟨_, _, rfl, rfl, k _ _ _ f (.old (.bl _) rfl)⟩
  · exact f.elim
theorem o_gt : OpV K rGtV vGt := fun G H x y d e P Q s h h' f k => by
  unfold vGt at f
  split at f
  · obtain rfl := h.intInv; obtain rfl := h'.intInv
    exact .inl (w_gtI (k _ _ _ f (.old (.bl _) rfl)))
  · obtain rfl := h.strInv; obtain rfl := h'.strInv
    exact .inr ⟨_, _, rfl, rfl, k _ _ _ f (.old (.bl _) rfl)⟩
  · exact f.elim
theorem o_ge : OpV K rGeV vGe := fun G H x y d e P Q s h h' f k => by
  unfold vGe at f
  split at f
  · obtain rfl := h.intInv; obtain rfl := h'.intInv
    exact .inl (w_geI (k _ _ _ f (.old (.bl _) rfl)))
  · obtain rfl := h.strInv; obtain rfl := h'.strInv
    exact .inr ⟨_, _, rfl, rfl, k _ _ _ f (.old (.bl _) rfl)⟩
  · exact f.elim
theorem Dd.isN {v : V} {d : D} (h : Dd K G v d) : decide (v = V.non) = d.isN := by cases h <;> simp [D.isN]
theorem Tp.isN {v : V} {d : D} (h : Tp K G H v d) : decide (v = V.non) = d.isN := by
  cases h with
  | dd h => exact h.isN
  | lst _ _ => simp [D.isN]
  | dic _ _ _ => simp [D.isN]
theorem Tp.nonInv {v : V} (h : Tp K G H v .non) : v = .non := by cases h with | dd h => cases h; rfl
theorem o_isN : OpV K rIsN vIsN := fun G H x y d e P Q s h h' f k => by
  unfold vIsN at f
  split at f
  · obtain rfl := h'.nonInv
    exact ⟨rfl, by rw [h.isN]; exact k _ _ _ f (.old (.bl _) rfl)⟩
  · exact f.elim
theorem o_notN : OpV K rNotN vNotN := fun G H x y d e P Q s h h' f k => by
  unfold vNotN at f
  split at f
  · obtain rfl := h'.nonInv
    exact ⟨rfl, by rw [h.isN]; exact k _ _ _ f (.old (.bl _) rfl)⟩
  · exact f.elim
theorem fl_v {v : V} {d : D} (h : Dd K G v d) (e : d.fl = true) : flatV v = true := by cases h <;> first | rfl | cases e
theorem eqF_v {u v : V} {x y : D} (h : Dd K G u x) (h' : Dd K G v y) (e : x.fl = true) (e' : y.fl = true) : eqV u v = eqF x y := by
  cases h <;> cases h' <;> first | rfl | cases e | cases e'
theorem fls_v {vs : List V} : ∀ {ds : List D}, DdAll K G vs ds → ds.all D.fl = true → vs.all flatV = true := by
  induction vs with
  | nil => intro ds h e; rfl
  | cons v vs ih =>
    intro ds h e
    cases h with
    | cons h1 h2 =>
      rw [List.all_cons, Bool.and_eq_true] at e
      rw [List.all_cons, fl_v h1 e.1, ih h2 e.2]; rfl
theorem any_eqF {u : V} {x : D} (h : Dd K G u x) (e : x.fl = true) {vs : List V} : ∀ {ds : List D}, DdAll K G vs ds → ds.all D.fl = true → inV u vs = ds.any fun y => eqF y x := by
  induction vs with
  | nil => intro ds h e; cases h; rfl
  | cons v vs ih =>
    intro ds h' e'
    cases h' with
    | cons h1 h2 =>
      rw [List.all_cons, Bool.and_eq_true] at e'
      have q := ih h2 e'.2
      unfold inV at q ⊢
      rw [List.any_cons, List.any_cons, q, eqF_v h1 h e'.1 e]
theorem fl_sc {d : D} (e : d.fl = true) : d.sc = true := by cases d <;> first | rfl | cases e
theorem DGet.of {a : Addr} {kvs : List (Key × V)} {k : Key} {r : Option V} (h : H a = some (.dK kvs)) (e : valV kvs k = r) : DGet H a (kV k) r := by rw [← e]; exact DGet.k h
theorem o_in (neg : Bool) : OpV K (rInU K neg) (vIn neg) := fun G H x y d e P Q s h h' f k => by
  unfold vIn at f
  split at f
  · obtain ⟨a, vs, rfl, h1, q1⟩ := h'.l s
    have hx := h.s (fl_sc f.1.1)
    refine .inl ⟨a, vs, rfl, .inl (SqL.of h1), fl_v hx f.1.1, fls_v q1 f.1.2, ?_⟩
    rw [any_eqF hx f.1.1 q1 f.1.2]
    exact k _ _ _ f.2 (.old (.bl _) rfl)
  · obtain ⟨a, vs, rfl, g1, h1, q1⟩ := h'.t s
    have hx := h.s (fl_sc f.1.1)
    refine .inl ⟨a, vs, rfl, .inr h1, fl_v hx f.1.1, fls_v q1 f.1.2, ?_⟩
    rw [any_eqF hx f.1.1 q1 f.1.2]
    exact k _ _ _ f.2 (.old (.bl _) rfl)
  · obtain rfl := h.strInv; obtain rfl := h'.strInv
    exact .inr (.inl ⟨_, _, rfl, rfl, k _ _ _ f (.old (.bl _) rfl)⟩)
  · obtain ⟨a, kvs, rfl, h1, e1, q1⟩ := h'.dk s
    obtain ⟨kk, ek, f⟩ := f
    obtain rfl := kV_of h ek
    refine .inr (.inr ?_)
    rcases get_snd (k := kk) e1 q1 with ⟨z1, z2⟩ | ⟨v, d', z1, z2, z3⟩
    · refine ⟨a, none, rfl, DGet.of h1 z1, ?_⟩
      rw [z2] at f
      exact k _ _ _ f (.old (.bl _) rfl)
    · refine ⟨a, some v, rfl, DGet.of h1 z1, ?_⟩
      rw [z2] at f
      exact k _ _ _ f (.old (.bl _) rfl)
  · exact f.elim
theorem DdAll.atI {vs : List V} {ds : List D} (h : DdAll K G vs ds) {i : Int} {d : D} (e : L2.atI ds i = some d) : ∃ v, L2.atI vs i = some v ∧ Dd K G v d := by
  unfold L2.atI at e ⊢
  rw [h.len]
  cases q : ixN ds.length i with
  | none => rw [q] at e; cases e
  | some j =>
    rw [q] at e
    exact h.get e
theorem o_ix : OpF K (rIxU K) vIx := fun G H x y d e P Q s h h' f k => by
  unfold vIx at f
  split at f
  · obtain ⟨z, ez, f⟩ := f
    obtain ⟨a, vs, rfl, h1, q1⟩ := h.l s
    obtain rfl := h'.intInv
    obtain ⟨v, ev, hv⟩ := q1.atI ez
    exact w_ixL (SqL.of h1) ev (k _ _ f hv)
  · obtain ⟨z, ez, f⟩ := f
    obtain ⟨a, vs, rfl, _, h1, q1⟩ := h.t s
    obtain rfl := h'.intInv
    obtain ⟨v, ev, hv⟩ := q1.atI ez
    exact w_ixT h1 ev (k _ _ f hv)
  · obtain ⟨hz, c, ec, f⟩ := f
    obtain rfl := h.strInv; obtain rfl := h'.intInv
    exact w_ixS hz ec (k _ _ f (.str _))
  · obtain ⟨kk, z, ek, ez, f⟩ := f
    obtain ⟨a, kvs, rfl, h1, e1, q1⟩ := h.dk s
    obtain rfl := kV_of h' ek
    rcases get_snd (k := kk) e1 q1 with ⟨z1, z2⟩ | ⟨v, d', z1, z2, z3⟩
    · rw [z2] at ez; cases ez
    · rw [z2] at ez
      cases ez
      exact .inr (.inr ⟨a, v, rfl, DGet.of h1 z1, k _ _ f z3⟩)
  · exact f.elim
/-! ### one-place operators, op= -/
def vNeg : D → (D → Prop) → Prop
  | .int i, P => P (.int (-i))
  | _, _ => False
theorem o_neg : UnV K rNeg vNeg := fun G H x d P Q s h f k => by
  unfold vNeg at f
  split at f
  · obtain rfl := h.intInv
    exact w_negI (k _ _ _ f (.old (.int _) rfl))
  · exact f.elim
def vIpAdd : D → D → (D → Prop) → Prop
  | .int i, .int j, P => P (.int (i + j))
  | .str a, .str b, P => a.length + b.length ≤ sizeLine ∧ P (.str (a ++ b))
  | _, _, _ => False
def vIpMul : D → D → (D → Prop) → Prop
  | .int i, .int j, P => (CMul i j ∨ CMulW i j) ∧ P (.int (i * j))
  | _, _, _ => False
theorem ip_addV : IpV K (ipAddU K) vIpAdd := fun G H x y d e P Q s h h' f k => by
  unfold vIpAdd at f
  split at f
  · obtain rfl := h.intInv; obtain rfl := h'.intInv
    exact w_ipaI (k _ _ _ f (.old (.int _) rfl))
  · obtain rfl := h.strInv; obtain rfl := h'.strInv
    exact .inr ⟨_, _, rfl, rfl, f.1, k _ _ _ f.2 (.old (.str _) rfl)⟩
  · exact f.elim
theorem ip_subV : IpV K (ipI fun i j => i - j) vSub := fun G H x y d e P Q s h h' f k => by
  unfold vSub at f
  split at f
  · obtain rfl := h.intInv; obtain rfl := h'.intInv
    exact w_ipsI (k _ _ _ f (.old (.int _) rfl))
  · exact f.elim
theorem ip_mulV : IpV K ipMulU vIpMul := fun G H x y d e P Q s h h' f k => by
  unfold vIpMul at f
  split at f
  · obtain rfl := h.intInv; obtain rfl := h'.intInv
    exact w_ipm f.1 (k _ _ _ f.2 (.old (.int _) rfl))
  · exact f.elim
/-! ### slices -/
def cutD (xs : List D) (lo hi : Option Int) : List D := (xs.drop (HT.sIx xs.length 0 lo)).take (HT.sIx xs.length xs.length hi - HT.sIx xs.length 0 lo)
theorem DdAll.cut {vs : List V} {ds : List D} (h : DdAll K G vs ds) (lo hi : Option Int) : DdAll K G (cutV vs lo hi) (cutD ds lo hi) := by
  unfold cutV cutD
  rw [h.len]
  exact (h.drop _).take _
def vCut : D → Option Int → Option Int → (D → Prop) → Prop
  | .lst ds, lo, hi, P => P (.lst (cutD ds lo hi))
  | .tup ds, lo, hi, P => P (.tup (cutD ds lo hi))
  | .str z, lo, hi, P => z.length ≤ sizeLine ∧ P (.str (cutS z lo hi))
  | _, _, _, _ => False
theorem cut_whole {ds : List D} {lo hi : Option Int} (h : HT.sIx ds.length 0 lo = 0 ∧ HT.sIx ds.length ds.length hi = ds.length) : cutD ds lo hi = ds := by
  unfold cutD
  rw [h.1, h.2, List.drop_zero, Nat.sub_zero, List.take_length]
theorem o_cut : SlV K (rSlU K) vCut := fun G H x d lo hi P Q s h f k => by
  cases d with
  | lst ds =>
    obtain ⟨a, vs, rfl, h1, q1⟩ := h.l s
    exact w_slL (SqL.of h1) fun p hp => k _ _ _ f (.lst hp (q1.cut lo hi))
  | tup ds =>
    obtain ⟨a, vs, rfl, g1, h1, q1⟩ := h.t s
    refine .inl (.inr ⟨a, vs, rfl, h1, fun e => ?_, fun _ p hp => k _ _ _ f (.tup hp (q1.cut lo hi))⟩)
    rw [q1.len] at e
    have f : P (.tup (cutD ds lo hi)) := f
    rw [cut_whole e] at f
    exact k _ _ _ f (.old (.tup g1 q1) rfl)
  | str z =>
    obtain rfl := h.strInv
    exact .inr ⟨z, rfl, f.1, k _ _ _ f.2 (.old (.str _) rfl)⟩
  | _ => exact f.elim
/-! ### calls of what is built in -/
theorem TpAll.inv1 {d : D} {vs : List V} (h : TpAll K G H vs [d]) : ∃ v, vs = [v] ∧ Tp K G H v d := by
  cases h with | cons h t => cases t; exact ⟨_, rfl, h⟩
theorem TpAll.inv2 {d e : D} {vs : List V} (h : TpAll K G H vs [d, e]) : ∃ v u, vs = [v, u] ∧ Tp K G H v d ∧ Tp K G H u e := by
  cases h with | cons h t => cases t with | cons h2 t => cases t; exact ⟨_, _, rfl, h, h2⟩
def vLen : List D → (D → Prop) → Prop
  | [.lst ds], P => P (.int ds.length)
  | [.tup ds], P => P (.int ds.length)
  | [.dic ds], P => P (.int ds.length)
  | [.str z], P => z.length ≤ sizeLine ∧ P (.int z.length)
  | _, _ => False
theorem l_len : ClV K (rLenU K) vLen := fun G H xs ds P Q s h f k => by
  unfold vLen at f
  split at f
  · obtain ⟨v, rfl, hv⟩ := h.inv1
    replace h := hv
    obtain ⟨a, vs, rfl, h1, q1⟩ := h.l s
    exact w_lenL (SqL.of h1) (by rw [q1.len]; exact k _ _ _ f (.old (.int _) rfl))
  · obtain ⟨v, rfl, hv⟩ := h.inv1
    replace h := hv
    obtain ⟨a, vs, rfl, _, h1, q1⟩ := h.t s
    exact w_lenT h1 (by rw [q1.len]; exact k _ _ _ f (.old (.int _) rfl))
  · obtain ⟨v, rfl, hv⟩ := h.inv1
    replace h := hv
    obtain ⟨a, kvs, rfl, h1, e1, q1⟩ := h.dk s
    have el := congrArg List.length e1
    rw [List.length_map, List.length_map] at el
    exact w_lenD h1 (by rw [el]; exact k _ _ _ f (.old (.int _) rfl))
  · obtain ⟨v, rfl, hv⟩ := h.inv1
    replace h := hv
    obtain rfl := h.strInv
    exact w_lenS f.1 (k _ _ _ f.2 (.old (.int _) rfl))
  · exact f.elim
def kD : Key → D
  | .inl i => .int i
  | .inr s => .str s
theorem dd_kD {k : Key} : Dd K G (kV k) (kD k) := by cases k; exact .int _; exact .str _
theorem keys_d : ∀ {kvs : List (Key × V)} {kds : List (Key × D)}, kvs.map Prod.fst = kds.map Prod.fst → DdAll K G (kvs.map fun kv => kV kv.1) (kds.map fun kv => kD kv.1)
  | [], [], _ => .nil
  | [], _ :: _, e => by simp at e
  | _ :: _, [], e => by simp at e
  | x :: l, y :: r, e => by
    rw [List.map_cons, List.map_cons] at e
    obtain ⟨h1, h2⟩ := List.cons.inj e
    rw [List.map_cons, List.map_cons, h1]
    exact .cons dd_kD (keys_d h2)
def vList : List D → (D → Prop) → Prop
  | [.lst ds], P => P (.lst ds)
  | [.tup ds], P => P (.lst ds)
  | [.dic kds], P => P (.lst (kds.map fun kv => kD kv.1))
  | _, _ => False
theorem l_list : ClV K (rListU K) vList := fun G H xs ds P Q s h f k => by
  unfold vList at f
  split at f
  · obtain ⟨v, rfl, hv⟩ := h.inv1
    replace h := hv
    obtain ⟨a, vs, rfl, h1, q1⟩ := h.l s
    exact w_listL (SqL.of h1) fun p hp => k _ _ _ f (.lst hp q1)
  · obtain ⟨v, rfl, hv⟩ := h.inv1
    replace h := hv
    obtain ⟨a, vs, rfl, _, h1, q1⟩ := h.t s
    exact w_listT h1 fun p hp => k _ _ _ f (.lst hp q1)
  · obtain ⟨v, rfl, hv⟩ := h.inv1
    replace h := hv
    obtain ⟨a, kvs, rfl, h1, e1, q1⟩ := h.dk s
    exact .inr ⟨a, kvs, rfl, .inl h1, fun p hp => k _ _ _ f (.lst hp (keys_d e1))⟩
  · exact f.elim
def vTupC : List D → (D → Prop) → Prop
  | [.lst ds], P => P (.tup ds)
  | [.tup ds], P => P (.tup ds)
  | _, _ => False
theorem l_tup : ClV K (rTupU K) vTupC := fun G H xs ds P Q s h f k => by
  unfold vTupC at f
  split at f
  · obtain ⟨v, rfl, hv⟩ := h.inv1
    replace h := hv
    obtain ⟨a, vs, rfl, h1, q1⟩ := h.l s
    exact w_tupL (SqL.of h1) fun p hp => k _ _ _ f (.tup hp q1)
  · obtain ⟨v, rfl, hv⟩ := h.inv1
    replace h := hv
    obtain ⟨a, vs, rfl, g1, h1, q1⟩ := h.t s
    exact w_tupT h1 (k _ _ _ f (.old (.tup g1 q1) rfl))
  · exact f.elim
def vInt : List D → (D → Prop) → Prop
  | [.int i], P => P (.int i)
  | [.bl b], P => P (.int (if b then 1 else 0))
  | _, _ => False
theorem l_int : ClV K rIntU vInt := fun G H xs ds P Q s h f k => by
  unfold vInt at f
  split at f
  · obtain ⟨v, rfl, hv⟩ := h.inv1
    replace h := hv
    obtain rfl := h.intInv
    exact w_intI (k _ _ _ f (.old (.int _) rfl))
  · obtain ⟨v, rfl, hv⟩ := h.inv1
    replace h := hv
    obtain rfl := h.blInv
    exact w_intB (k _ _ _ f (.old (.int _) rfl))
  · exact f.elim
def vAbs : List D → (D → Prop) → Prop
  | [.int i], P => P (.int (if i < 0 then -i else i))
  | _, _ => False
theorem l_abs : ClV K rAbs vAbs := fun G H xs ds P Q s h f k => by
  unfold vAbs at f
  split at f
  · obtain ⟨v, rfl, hv⟩ := h.inv1
    replace h := hv
    obtain rfl := h.intInv
    exact ⟨_, rfl, k _ _ _ f (.old (.int _) rfl)⟩
  · exact f.elim
def vDivmod : List D → (D → Prop) → Prop
  | [.int i, .int j], P => CDivW i j ∧ P (.tup [.int (i / j), .int (i % j)])
  | _, _ => False
theorem l_divmod : ClV K rDivmod vDivmod := fun G H xs ds P Q s h f k => by
  unfold vDivmod at f
  split at f
  · obtain ⟨v, u, rfl, hv, h'⟩ := h.inv2
    replace h := hv
    obtain rfl := h.intInv; obtain rfl := h'.intInv
    exact w_divmod f.1 fun p hp => k _ _ _ f.2 (.tup hp (.cons (.int _) (.one (.int _))))
  · exact f.elim
def vMax2 : List D → (D → Prop) → Prop
  | [.int i, .int j], P => P (.int (if j > i then j else i))
  | _, _ => False
theorem l_max2 : ClV K rMax2 vMax2 := fun G H xs ds P Q s h f k => by
  unfold vMax2 at f
  split at f
  · obtain ⟨v, u, rfl, hv, h'⟩ := h.inv2
    replace h := hv
    obtain rfl := h.intInv; obtain rfl := h'.intInv
    exact ⟨_, _, rfl, k _ _ _ f (.old (.int _) rfl)⟩
  · exact f.elim
def vMin2 : List D → (D → Prop) → Prop
  | [.int i, .int j], P => P (.int (if j < i then j else i))
  | _, _ => False
theorem l_min2 : ClV K rMin2 vMin2 := fun G H xs ds P Q s h f k => by
  unfold vMin2 at f
  split at f
  · obtain ⟨v, u, rfl, hv, h'⟩ := h.inv2
    replace h := hv
    obtain rfl := h.intInv; obtain rfl := h'.intInv
    exact ⟨_, _, rfl, k _ _ _ f (.old (.int _) rfl)⟩
  · exact f.elim
theorem ints_v {ns : List Int} : ∀ {vs : List V}, DdAll K G vs (ns.map D.int) → vs = ns.map V.int := by
  induction ns with
  | nil => intro vs h; cases h; rfl
  | cons n ns ih =>
    intro vs h
    cases h with | cons h1 h2 => rw [List.map_cons, h1.intInv, ih h2]
theorem bls_v {ns : List Bool} : ∀ {vs : List V}, DdAll K G vs (ns.map D.bl) → vs = ns.map V.bl := by
  induction ns with
  | nil => intro vs h; cases h; rfl
  | cons n ns ih =>
    intro vs h
    cases h with | cons h1 h2 => rw [List.map_cons, h1.blInv, ih h2]
def vSum : List D → (D → Prop) → Prop
  | [.lst ds], P => ∃ ns : List Int, ds = ns.map D.int ∧ P (.int ns.sum)
  | _, _ => False
theorem l_sum : ClV K (rSum K) vSum := fun G H xs ds P Q s h f k => by
  unfold vSum at f
  split at f
  · obtain ⟨v, rfl, hv⟩ := h.inv1
    replace h := hv
    obtain ⟨ns, rfl, f⟩ := f
    obtain ⟨a, vs, rfl, h1, q1⟩ := h.l s
    rw [ints_v q1] at h1
    exact w_sum (SqL.of h1) (k _ _ _ f (.old (.int _) rfl))
  · exact f.elim
def vAll : List D → (D → Prop) → Prop
  | [.lst ds], P => ∃ ns : List Bool, ds = ns.map D.bl ∧ P (.bl (ns.all id))
  | _, _ => False
theorem l_all : ClV K (rAll K) vAll := fun G H xs ds P Q s h f k => by
  unfold vAll at f
  split at f
  · obtain ⟨v, rfl, hv⟩ := h.inv1
    replace h := hv
    obtain ⟨ns, rfl, f⟩ := f
    obtain ⟨a, vs, rfl, h1, q1⟩ := h.l s
    rw [bls_v q1] at h1
    exact w_all (SqL.of h1) (k _ _ _ f (.old (.bl _) rfl))
  · exact f.elim
def vAny : List D → (D → Prop) → Prop
  | [.lst ds], P => ∃ ns : List Bool, ds = ns.map D.bl ∧ P (.bl (ns.any id))
  | _, _ => False
theorem l_any : ClV K (rAny K) vAny := fun G H xs ds P Q s h f k => by
  unfold vAny at f
  split at f
  · obtain ⟨v, rfl, hv⟩ := h.inv1
    replace h := hv
    obtain ⟨ns, rfl, f⟩ := f
    obtain ⟨a, vs, rfl, h1, q1⟩ := h.l s
    rw [bls_v q1] at h1
    exact w_any (SqL.of h1) (k _ _ _ f (.old (.bl _) rfl))
  · exact f.elim
/-- max, min of a list of ints -/
def vMax1 : List D → (D → Prop) → Prop
  | [.lst ds], P => ∃ ns : List Int, ds = ns.map D.int ∧ 0 < ns.length ∧ ∀ m, m ∈ ns → (∀ y, y ∈ ns → y ≤ m) → P (.int m)
  | _, _ => False
theorem l_max1 : ClV K (rMax K) vMax1 := fun G H xs ds P Q s h f k => by
  unfold vMax1 at f
  split at f
  · obtain ⟨v, rfl, hv⟩ := h.inv1
    replace h := hv
    obtain ⟨ns, rfl, h0, f⟩ := f
    obtain ⟨a, vs, rfl, h1, q1⟩ := h.l s
    rw [ints_v q1] at h1
    exact ⟨a, ns, rfl, SqL.of h1, h0, fun m hm hy => k _ _ _ (f m hm hy) (.old (.int _) rfl)⟩
  · exact f.elim
def vMin1 : List D → (D → Prop) → Prop
  | [.lst ds], P => ∃ ns : List Int, ds = ns.map D.int ∧ 0 < ns.length ∧ ∀ m, m ∈ ns → (∀ y, y ∈ ns → m ≤ y) → P (.int m)
  | _, _ => False
theorem l_min1 : ClV K (rMin K) vMin1 := fun G H xs ds P Q s h f k => by
  unfold vMin1 at f
  split at f
  · obtain ⟨v, rfl, hv⟩ := h.inv1
    replace h := hv
    obtain ⟨ns, rfl, h0, f⟩ := f
    obtain ⟨a, vs, rfl, h1, q1⟩ := h.l s
    rw [ints_v q1] at h1
    exact ⟨a, ns, rfl, SqL.of h1, h0, fun m hm hy => k _ _ _ (f m hm hy) (.old (.int _) rfl)⟩
  · exact f.elim
/-! isinstance -/
def D.tyN : D → Option String
  | .non => some "NoneType"
  | .bl _ => some "bool"
  | .int _ => some "int"
  | .str _ => some "str"
  | .lst _ => some "list"
  | .tup _ => some "tuple"
  | .dic _ => some "dict"
  | _ => none
/-- is a thing of the type a also of the type b -/
def subT : String → String → Option Bool
  | "bool", "int" => some true
  | a, b => if ["int", "bool", "str", "list", "tuple", "dict"].contains b = true then some (a == b) else none
def vIsi : List D → (D → Prop) → Prop
  | [x, .ty n], P => ∃ a b, x.tyN = some a ∧ subT a n = some b ∧ P (.bl b)
  | _, _ => False
theorem tp_tyX {v : V} {d : D} {a : String} (s : Same G H) (h : Tp K G H v d) (e : d.tyN = some a) : TyX K H v (.type a) := by
  cases d with
  | non => cases e; obtain rfl := h.nonInv; exact .base .non
  | bl b => cases e; obtain rfl := h.blInv; exact .base (.bl b)
  | int b => cases e; obtain rfl := h.intInv; exact .base (.int b)
  | str b => cases e; obtain rfl := h.strInv; exact .base (.str b)
  | lst ds => cases e; obtain ⟨p, vs, rfl, h1, _⟩ := h.l s; exact .base (.lst h1)
  | tup ds => cases e; obtain ⟨p, vs, rfl, _, h1, _⟩ := h.t s; exact ty_t h1
  | dic kds => cases e; obtain ⟨p, kvs, rfl, h1, _⟩ := h.dk s; exact .base (.dK h1)
  | _ => cases e
theorem kit_sub {K : PySem.W.Frag} {d : D} {a n : String} {b : Bool} (ha : d.tyN = some a) (h : subT a n = some b) : PySem.W.kitOne K (.type a) (.type n) = some b := by
  have hn : n = "int" ∨ n = "bool" ∨ n = "str" ∨ n = "list" ∨ n = "tuple" ∨ n = "dict" := by
    unfold subT at h
    split at h
    · exact .inl rfl
    · split at h
      · rename_i q
        simpa using q
      · cases h
  have hT : a = "NoneType" ∨ a = "bool" ∨ a = "int" ∨ a = "str" ∨ a = "list" ∨ a = "tuple" ∨ a = "dict" := by
    cases d <;> simp [D.tyN] at ha <;> simp [← ha]
  rcases hT with rfl | rfl | rfl | rfl | rfl | rfl | rfl <;> rcases hn with rfl | rfl | rfl | rfl | rfl | rfl
  · obtain rfl : b = false := by simpa [subT] using h.symm
    exact kit_ty (by decide +kernel)
  · obtain rfl : b = false := by simpa [subT] using h.symm
    exact kit_ty (by decide +kernel)
  · obtain rfl : b = false := by simpa [subT] using h.symm
    exact kit_ty (by decide +kernel)
  · obtain rfl : b = false := by simpa [subT] using h.symm
    exact kit_ty (by decide +kernel)
  · obtain rfl : b = false := by simpa [subT] using h.symm
    exact kit_ty (by decide +kernel)
  · obtain rfl : b = false := by simpa [subT] using h.symm
    exact kit_ty (by decide +kernel)
  · obtain rfl : b = true := by simpa [subT] using h.symm
    exact kit_ty (by decide +kernel)
  · obtain rfl : b = true := by simpa [subT] using h.symm
    exact kit_ty (by decide +kernel)
  · obtain rfl : b = false := by simpa [subT] using h.symm
    exact kit_ty (by decide +kernel)
  · obtain rfl : b = false := by simpa [subT] using h.symm
    exact kit_ty (by decide +kernel)
  · obtain rfl : b = false := by simpa [subT] using h.symm
    exact kit_ty (by decide +kernel)
  · obtain rfl : b = false := by simpa [subT] using h.symm
    exact kit_ty (by decide +kernel)
  · obtain rfl : b = true := by simpa [subT] using h.symm
    exact kit_ty (by decide +kernel)
  · obtain rfl : b = false := by simpa [subT] using h.symm
    exact kit_ty (by decide +kernel)
  · obtain rfl : b = false := by simpa [subT] using h.symm
    exact kit_ty (by decide +kernel)
  · obtain rfl : b = false := by simpa [subT] using h.symm
    exact kit_ty (by decide +kernel)
  · obtain rfl : b = false := by simpa [subT] using h.symm
    exact kit_ty (by decide +kernel)
  · obtain rfl : b = false := by simpa [subT] using h.symm
    exact kit_ty (by decide +kernel)
  · obtain rfl : b = false := by simpa [subT] using h.symm
    exact kit_ty (by decide +kernel)
  · obtain rfl : b = false := by simpa [subT] using h.symm
    exact kit_ty (by decide +kernel)
  · obtain rfl : b = true := by simpa [subT] using h.symm
    exact kit_ty (by decide +kernel)
  · obtain rfl : b = false := by simpa [subT] using h.symm
    exact kit_ty (by decide +kernel)
  · obtain rfl : b = false := by simpa [subT] using h.symm
    exact kit_ty (by decide +kernel)
  · obtain rfl : b = false := by simpa [subT] using h.symm
    exact kit_ty (by decide +kernel)
  · obtain rfl : b = false := by simpa [subT] using h.symm
    exact kit_ty (by decide +kernel)
  · obtain rfl : b = false := by simpa [subT] using h.symm
    exact kit_ty (by decide +kernel)
  · obtain rfl : b = false := by simpa [subT] using h.symm
    exact kit_ty (by decide +kernel)
  · obtain rfl : b = true := by simpa [subT] using h.symm
    exact kit_ty (by decide +kernel)
  · obtain rfl : b = false := by simpa [subT] using h.symm
    exact kit_ty (by decide +kernel)
  · obtain rfl : b = false := by simpa [subT] using h.symm
    exact kit_ty (by decide +kernel)
  · obtain rfl : b = false := by simpa [subT] using h.symm
    exact kit_ty (by decide +kernel)
  · obtain rfl : b = false := by simpa [subT] using h.symm
    exact kit_ty (by decide +kernel)
  · obtain rfl : b = false := by simpa [subT] using h.symm
    exact kit_ty (by decide +kernel)
  · obtain rfl : b = false := by simpa [subT] using h.symm
    exact kit_ty (by decide +kernel)
  · obtain rfl : b = true := by simpa [subT] using h.symm
    exact kit_ty (by decide +kernel)
  · obtain rfl : b = false := by simpa [subT] using h.symm
    exact kit_ty (by decide +kernel)
  · obtain rfl : b = false := by simpa [subT] using h.symm
    exact kit_ty (by decide +kernel)
  · obtain rfl : b = false := by simpa [subT] using h.symm
    exact kit_ty (by decide +kernel)
  · obtain rfl : b = false := by simpa [subT] using h.symm
    exact kit_ty (by decide +kernel)
  · obtain rfl : b = false := by simpa [subT] using h.symm
    exact kit_ty (by decide +kernel)
  · obtain rfl : b = false := by simpa [subT] using h.symm
    exact kit_ty (by decide +kernel)
  · obtain rfl : b = true := by simpa [subT] using h.symm
    exact kit_ty (by decide +kernel)
theorem l_isi : ClV K (rIsiU K) vIsi := fun G H xs ds P Q s h f k => by
  unfold vIsi at f
  split at f
  · obtain ⟨v, u, rfl, hv, h'⟩ := h.inv2
    replace h := hv
    obtain ⟨a, b, ea, eb, f⟩ := f
    cases h' with
    | dd h' =>
    cases h'
    exact w_isi (tp_tyX s h ea) (kit_sub ea eb) (k _ _ _ f (.old (.bl _) rfl))
  · exact f.elim
/-! ### methods of texts and of lists -/
def vJoin : D → List D → (D → Prop) → Prop
  | .str a, [.lst ds], P => ∃ ys : List Str, ds = ys.map D.str ∧ (ys.map (·.length)).sum + ys.length * a.length ≤ 16777216 ∧ P (.str (Txt.join a ys))
  | _, _, _ => False
theorem strs_v {ns : List Str} : ∀ {vs : List V}, DdAll K G vs (ns.map D.str) → vs = ns.map V.str := by
  induction ns with
  | nil => intro vs h; cases h; rfl
  | cons n ns ih =>
    intro vs h
    cases h with
    | cons h1 h2 =>
      cases h1
      rw [List.map_cons, ih h2]
theorem m_join : MtV K "str" (rJoinS K) vJoin := fun G H x d xs ds P Q s h hs f k => by
  unfold vJoin at f
  split at f
  · obtain rfl := h.strInv
    obtain ⟨v, rfl, h'⟩ := hs.inv1
    obtain ⟨ys, rfl, hz, f⟩ := f
    obtain ⟨a, vs, rfl, h1, q1⟩ := h'.l s
    rw [strs_v q1] at h1
    exact ⟨_, a, ys, rfl, rfl, .inl (SqL.of h1), hz, k _ _ _ f (.old (.str _) rfl)⟩
  · exact f.elim
def vSIdx : D → List D → (D → Prop) → Prop
  | .str a, [.str b], P => ∃ i rest, Builtin.Str.occurrences a b 0 a.length 1 = i :: rest ∧ P (.int (i : Nat))
  | _, _, _ => False
theorem m_sidx : MtV K "str" rSIdx vSIdx := fun G H x d xs ds P Q s h hs f k => by
  unfold vSIdx at f
  split at f
  · obtain rfl := h.strInv
    obtain ⟨v, rfl, h'⟩ := hs.inv1
    obtain rfl := h'.strInv
    obtain ⟨i, rest, e, f⟩ := f
    exact ⟨_, _, i, rest, rfl, rfl, e, k _ _ _ f (.old (.int _) rfl)⟩
  · exact f.elim
def vIdx : D → List D → (D → Prop) → Prop
  | .lst ds, [y], P => y.fl = true ∧ ds.all D.fl = true ∧ ∃ j z, ds[j]? = some z ∧ eqF z y = true ∧ (∀ (m : Nat) (z' : D), m < j → ds[m]? = some z' → eqF z' y = false) ∧ P (.int (j : Nat))
  | _, _, _ => False
theorem m_idx : MtV K "list" (rIndex K) vIdx := fun G H x d xs ds P Q s h hs f k => by
  unfold vIdx at f
  split at f
  · obtain ⟨v, rfl, h'⟩ := hs.inv1
    obtain ⟨fy, fs, j, z, ez, e1, e2, f⟩ := f
    obtain ⟨a, vs, rfl, h1, q1⟩ := h.l s
    have hv := h'.s (fl_sc fy)
    obtain ⟨u, eu, hu⟩ := q1.get ez
    have fz : z.fl = true := List.all_eq_true.mp fs z (List.mem_of_getElem? ez)
    refine ⟨a, vs, v, j, u, rfl, rfl, SqL.of h1, fl_v hv fy, fls_v q1 fs, eu, ?_, fun m z' hm hz' => ?_, k _ _ _ f (.old (.int _) rfl)⟩
    · rw [eqF_v hu hv fz fy]; exact e1
    · obtain ⟨d', ed, hd⟩ := q1.getV hz'
      rw [eqF_v hd hv (List.all_eq_true.mp fs d' (List.mem_of_getElem? ed)) fy]
      exact e2 m d' hm ed
  · exact f.elim
/-! ### methods that change a list -/
def vExtend : List D → List D → (List D → D → Prop) → Prop
  | ds, [.lst es], P => ds.length + es.length ≤ sizeLine ∧ P (ds ++ es) .non
  | _, _, _ => False
theorem u_extend : MuV K rExtend vExtend := fun G H a vs ds xs es P Q s e q h f k => by
  unfold vExtend at f
  split at f
  · obtain ⟨v, rfl, hv⟩ := h.inv1
    replace h := hv
    obtain ⟨b, ws, rfl, h1, q1⟩ := h.l s
    exact ⟨a, b, vs, ws, rfl, rfl, e, h1, by rw [q.len, q1.len]; exact f.1, k _ _ _ _ f.2 (q.app q1)⟩
  · exact f.elim
def vReverse : List D → List D → (List D → D → Prop) → Prop
  | ds, [], P => P ds.reverse .non
  | _, _, _ => False
theorem u_reverse : MuV K rReverse vReverse := fun G H a vs ds xs es P Q s e q h f k => by
  cases h with
  | nil => exact ⟨a, vs, rfl, rfl, e, k _ _ _ _ f q.rev⟩
  | cons _ _ => exact f.elim
def vClear : List D → List D → (List D → D → Prop) → Prop
  | _, [], P => P [] .non
  | _, _, _ => False
theorem u_clear : MuV K rClear vClear := fun G H a vs ds xs es P Q s e q h f k => by
  cases h with
  | nil => exact ⟨a, vs, rfl, rfl, e, k _ _ _ _ f .nil⟩
  | cons _ _ => exact f.elim
end
end Ps

/-! WaP: the law's draws and comparisons over data. -/
namespace Ps
open PySem PySem.Spec PyProof.Rows L2
section
variable {K : PySem.W.Frag} {G G' H H' : Hp} {R S X C : List (Addr × HO)} {m : Nat} {a : Addr}
def vTake : VSp := fun ds m P _ => ∃ (a : Addr) (n : Int) (k : Nat) (s : Sto), ds = [.adr a, .int n] ∧ m = (some (a, k + 1), s) ∧ 0 < n ∧ n < 2 ^ 62 ∧ ∀ v : Int, 0 ≤ v → v < n → P (.int v) (some (a, k), s)
theorem amb_lw {a : Addr} {k : Nat} {s : Sto} (w : Wd (C ++ R) G H) (h : Amb K G (some (a, k), s) C) : ∃ C2, StoC K G s C2 ∧ LW k a (C2 ++ R) G H := by
  obtain ⟨C1, C2, rfl, ⟨c, t, ns, rfl, h1, h2, h3⟩, st⟩ := h
  exact ⟨C2, st, c, t, ns, by rw [List.append_assoc] at w; exact w, h1, h2, h3⟩
theorem lw_amb {a : Addr} {k : Nat} (h : LW k a R G H) : ∃ C, Wd (C ++ R) G H ∧ AmbD (some (a, k)) C := by
  obtain ⟨c, t, ns, w, h1, h2, h3⟩ := h
  exact ⟨[(a, stD c t), (c, .lst (ns.map V.int))], w, c, t, ns, rfl, h1, h2, h3⟩
theorem dd_adr {v : V} {a : Addr} (h : Dd K G v (.adr a)) : v = .ref a := by cases h; rfl
theorem cv_take {vs : List V} {Q : VK} {E : XK} (h : spV K .O vTake vs H Q E) : spTake vs H Q E := by
  obtain ⟨ds, G, R, C, m, P, X, w, am, q, ⟨a, n, k, s, rfl, rfl, h1, h2, h3⟩, hk, _⟩ := h
  obtain ⟨u, v, rfl, q1, q2⟩ := BoAll.inv2 q
  obtain rfl := dd_adr q1
  obtain rfl := q2.intInv
  obtain ⟨C2, st, lw0⟩ := amb_lw w am
  refine ⟨k, a, n, C2 ++ R, G, rfl, lw0, h1, h2, fun v H' lw h4 h5 => ?_⟩
  obtain ⟨C', w', am'⟩ := lw_amb lw
  exact hk _ _ _ _ G [] (C' ++ C2) (h3 v h4 h5) (Same.refl _) (by rw [List.nil_append, List.append_assoc]; exact w') ⟨C', C2, rfl, am', st⟩ ⟨rfl, .int v⟩
/-- new things beside what is owned -/
theorem Wd.join (w : Wd R G H) (x : Wd X H H') : Wd (X ++ R) G H' := by
  refine ⟨w.1.trans x.1, fun y hy => ?_, ?_⟩
  · rcases List.mem_append.mp hy with h | h
    · exact ⟨(x.2.1 y h).1, w.1.free (x.2.1 y h).2⟩
    · exact ⟨x.1 _ _ (w.2.1 y h).1, (w.2.1 y h).2⟩
  · rw [List.map_append]
    refine List.nodup_append.mpr ⟨x.2.2, w.2.2, fun b hb b' hb' e => ?_⟩
    subst e
    obtain ⟨y, hy, rfl⟩ := List.mem_map.mp hb
    obtain ⟨z, hz, e⟩ := List.mem_map.mp hb'
    have := (w.2.1 z hz).1
    rw [e, (x.2.1 y hy).2] at this
    cases this
def vBegin : VSp := fun ds m P _ => ∃ ns : List Int, ds = [.scr ns] ∧ ns.length ≤ 63 ∧ m = (none, emp) ∧ ∀ a, P (.adr a) (some (a, 2 ^ 50), emp)
theorem cv_begin {vs : List V} {Q : VK} {E : XK} (h : spV K .O vBegin vs H Q E) : spBegin K vs H Q E := by
  obtain ⟨ds, G, R, C, m, P, X, w, am, q, ⟨ns, rfl, hl, rfl, h3⟩, hk, _⟩ := h
  obtain ⟨u, rfl, q1⟩ := BoAll.inv1 q
  obtain rfl := am.none_inv
  cases q1 with
  | scr q1 =>
    refine ⟨_, ns, rfl, same_l w.1 q1, hl, fun a H' lw => ?_⟩
    obtain ⟨C', w', am'⟩ := lw_amb lw
    rw [List.append_nil] at w'
    exact hk _ _ _ _ G [] C' (h3 a) (Same.refl _) (w.join w') ⟨C', [], (List.append_nil _).symm, am', [], fun _ => rfl, .nil⟩ ⟨rfl, .adr a⟩
def vSame (n : Nat) : VSp := fun ds m P _ => ∃ x y : D, ds = [x, y] ∧ x.pl = true ∧ y.pl = true ∧ x.py = y.py ∧ okD n y.py = true ∧ P (.bl true) m
theorem cv_same {n : Nat} {vs : List V} {Q : VK} {E : XK} (h : spV K .O (vSame n) vs H Q E) : spSame K n vs H Q E := by
  obtain ⟨ds, G, R, C, m, P, X, w, am, q, ⟨x, y, rfl, px, py, e, hn, h3⟩, hk, _⟩ := h
  obtain ⟨u, v, rfl, q1, q2⟩ := BoAll.inv2 q
  refine ⟨u, v, y.py, rfl, e ▸ dp_mono w.1 _ _ (q1.dp px), dp_mono w.1 _ _ (q2.dp py), hn, fun H' s => ?_⟩
  exact hk _ _ _ _ G [] C h3 (Same.refl _) (w.same s) am ⟨rfl, .bl true⟩
def vLaw : VSp := fun ds m P _ => ∃ ns : List Int, ds = [.scr ns] ∧ ns.length ≤ 63 ∧ m = (none, emp) ∧ ∀ m', P (.bl true) m'
theorem cv_law {t : OT} {vs : List V} {Q : VK} {E : XK} (h : spLaw K vs H Q E) : spV K t vLaw vs H Q E := by
  obtain ⟨a, ns, rfl, hs, hl, k⟩ := h
  refine ⟨[.scr ns], H, [], [], (none, emp), fun d _ => d = .bl true, fun _ _ _ => False, Wd.nil (Same.refl _), Amb.none, .one (.scr hs), ⟨ns, rfl, hl, rfl, fun _ => rfl⟩, ?_, fun _ _ _ _ _ _ _ h => h.elim⟩
  rintro d m' v H' G' S1 C' rfl s w am o
  have : v = .bl true := by
    cases t with
    | F => exact o.2.blInv
    | O => exact Dd.blInv o.2
  subst this
  exact k H'
/-- a promise by data for another -/
theorem spV.imp {t : OT} {a b : VSp} (h : ∀ ds m P X, a ds m P X → b ds m P X) {vs : List V} {Q : VK} {E : XK} (q : spV K t a vs H Q E) : spV K t b vs H Q E := by
  obtain ⟨ds, G, R, C, m, P, X, w, am, q, hs, k⟩ := q
  exact ⟨ds, G, R, C, m, P, X, w, am, q, h _ _ _ _ hs, k⟩
theorem spV.len {t : OT} {a : VSp} {n : Nat} (h : ∀ ds m P X, a ds m P X → ds.length = n) {vs : List V} {Q : VK} {E : XK} (q : spV K t a vs H Q E) : vs.length = n := by
  obtain ⟨ds, G, R, C, m, P, X, w, am, q, hs, k⟩ := q
  rw [q.len]; exact h _ _ _ _ hs
/-! ### how a thing is read, step by step -/
end
end Ps

/-! WaQ: dicts, kept exceptions. -/
namespace Ps
open PySem PySem.Spec PyProof.Rows L2
section
variable {c : JC} {K : PySem.W.Frag} {Γ : List OT} {G G' H H' : Hp} {T S S1 S2 R : List (Addr × HO)} {env : Env} {σ : L2.St} {m : Mst} {v : V} {d : D}
theorem exOk_no : ExOk c Γ (fun _ _ _ _ => False) (fun _ _ _ _ => False) := fun _ _ _ _ _ _ _ _ _ _ _ h => h.elim
def vDNew : VE := fun _ m P => P (.dic []) m
theorem s_dnew : SO c Γ tDNewK vDNew := fun T G H S env σ m P Q st hv k p hp => by
  obtain ⟨G3, S3, s3, st3, q3⟩ := Nw.own st (.dic (kvs := []) (kds := []) hp rfl .nil)
  exact k _ m _ G3 _ S3 hv s3 st3 q3
/-! a display of a dict -/
abbrev VP := Env → Mst → (List (D × D) → Mst → Prop) → Prop
def vpNil : VP := fun _ m P => P [] m
def vpCons (a b : VE) (r : VP) : VP := fun env m P => a env m fun x m1 => b env m1 fun y m2 => r env m2 fun ps m3 => P ((x, y) :: ps) m3
inductive DdPairs (K : PySem.W.Frag) (G : Hp) : List (V × V) → List (D × D) → Prop
  | nil : DdPairs K G [] []
  | cons {u v : V} {d e : D} {us : List (V × V)} {ds : List (D × D)} : Dd K G u d → Dd K G v e → DdPairs K G us ds → DdPairs K G ((u, v) :: us) ((d, e) :: ds)
theorem DdPairs.mono (s : Same G G') {us : List (V × V)} {ds : List (D × D)} (h : DdPairs K G us ds) : DdPairs K G' us ds := by
  induction h with
  | nil => exact .nil
  | cons h1 h2 _ ih => exact .cons (h1.mono s) (h2.mono s) ih
def SPr (c : JC) (Γ : List OT) (trs : List (TE × TE)) (vp : VP) : Prop := ∀ (T : List (Addr × HO)) (G H : Hp) (S : List (Addr × HO)) (env : Env) (σ : L2.St) (m : Mst) (P : List (D × D) → Mst → Prop) (Q : List (V × V) → Hp → Prop), Stx c Γ G H T S env σ m → vp env m P →
  (∀ ds m' us G' H', P ds m' → Same G G' → Stx c Γ G' H' T S env σ m' → DdPairs c.K G' us ds → Q us H') → tPairs trs σ H Q
theorem p_nil : SPr c Γ [] vpNil := fun T G H S env σ m P Q st hv k => k [] m [] G H hv (Same.refl G) st .nil
theorem p_cons {ta tb : TE} {va vb : VE} {trs : List (TE × TE)} {vp : VP} (ha : SF c Γ ta va) (hb : SF c Γ tb vb) (hr : SPr c Γ trs vp) : SPr c Γ ((ta, tb) :: trs) (vpCons va vb vp) := fun T G H S env σ m P Q st hv k =>
  ha T G H S env σ m _ _ st hv fun x m1 u G1 H1 p1 s1 st1 q1 => hb T G1 H1 S env σ m1 _ _ st1 p1 fun y m2 w G2 H2 p2 s2 st2 q2 => hr T G2 H2 S env σ m2 _ _ st2 p2 fun ds m3 us G3 H3 p3 s3 st3 q3 =>
    k _ m3 _ G3 H3 p3 (s1.trans (s2.trans s3)) st3 (.cons (q1.mono (s2.trans s3)) (q2.mono s3) q3)
/-- pairs whose firsts are keys -/
def pairsK : List (D × D) → Option (List (Key × D))
  | [] => some []
  | (x, y) :: r => match dKey x, pairsK r with
    | some k, some ks => some ((k, y) :: ks)
    | _, _ => none
theorem pairsK_v : ∀ {us : List (V × V)} {ds : List (D × D)} {ks : List (Key × D)}, DdPairs K G us ds → pairsK ds = some ks → ∃ kvs : List (Key × V), us = kvs.map (fun kv => (kV kv.1, kv.2)) ∧ kvs.map Prod.fst = ks.map Prod.fst ∧ DdAll K G (kvs.map Prod.snd) (ks.map Prod.snd)
  | _, _, ks, .nil, e => by cases e; exact ⟨[], rfl, rfl, .nil⟩
  | _, _, ks, .cons (d := d) (ds := ds) h1 h2 t, e => by
    unfold pairsK at e
    split at e
    · rename_i k ks' e1 e2
      cases e
      obtain ⟨kvs, rfl, e3, e4⟩ := pairsK_v t e2
      exact ⟨(k, _) :: kvs, by rw [List.map_cons, kV_of (.dd h1 : Tp K G G _ d) e1], by rw [List.map_cons, List.map_cons, e3], .cons h2 e4⟩
    · cases e
def mergeD (kds more : List (Key × D)) : List (Key × D) := more.foldl (fun acc kv => dput acc kv.1 kv.2) kds
theorem merge_d : ∀ {more : List (Key × V)} {ds : List (Key × D)} {kvs : List (Key × V)} {kds : List (Key × D)}, more.map Prod.fst = ds.map Prod.fst → DdAll K G (more.map Prod.snd) (ds.map Prod.snd) → kvs.map Prod.fst = kds.map Prod.fst → DdAll K G (kvs.map Prod.snd) (kds.map Prod.snd) →
    (mergeK kvs more).map Prod.fst = (mergeD kds ds).map Prod.fst ∧ DdAll K G ((mergeK kvs more).map Prod.snd) ((mergeD kds ds).map Prod.snd)
  | [], [], _, _, _, _, e, q => ⟨e, q⟩
  | [], _ :: _, _, _, e, _, _, _ => by simp at e
  | _ :: _, [], _, _, e, _, _, _ => by simp at e
  | x :: more, y :: ds, kvs, kds, e, q, e', q' => by
    rw [List.map_cons, List.map_cons] at e
    obtain ⟨h1, h2⟩ := List.cons.inj e
    rw [List.map_cons, List.map_cons] at q
    cases q with
    | cons q1 q2 =>
      have z := merge_d (kvs := putK kvs x.1 x.2) (kds := dput kds y.1 y.2) h2 q2 (by rw [h1]; exact put_fst e') (by rw [h1]; exact put_snd q1 e' q')
      exact z
def vDisp (vp : VP) : VE := fun env m P => vp env m fun ps m1 => ∃ ks, pairsK ps = some ks ∧ ks.length ≤ 15 ∧ P (.dic (mergeD [] ks)) m1
theorem s_disp {trs : List (TE × TE)} {vp : VP} (h : SPr c Γ trs vp) : SO c Γ (tDisp trs) (vDisp vp) := fun T G H S env σ m P Q st hv k p hp => by
  refine h ((p, .dK []) :: T) G _ S env σ m _ _ (st.new hp) hv fun ds m1 us G1 H1 p1 s1 st1 q1 => ?_
  obtain ⟨ks, e1, e2, p1⟩ := p1
  obtain ⟨kvs, rfl, e3, e4⟩ := pairsK_v q1 e1
  obtain ⟨s, C, w, a, z⟩ := id st1
  have el : kvs.length = ks.length := by simpa using congrArg List.length e3
  obtain ⟨m1', m2'⟩ := merge_d (kvs := []) (kds := []) e3 e4 rfl .nil
  refine ⟨w.hd, kvs, rfl, by rw [el]; exact e2, ?_⟩
  exact k _ m1 _ G1 _ [(p, .dK (mergeK [] kvs))] p1 s1 ⟨s, C, w.put, a, z⟩ ⟨p, _, rfl, rfl, m1', m2'⟩
/-! kept exceptions -/
theorem dd_exc {v : V} {C : Addr} {fs : List (Str × D)} (h : Dd K G v (.exc C fs)) : ∃ a, v = .ref a ∧ ((G a = some (exv a C none) ∧ fs = []) ∨ ∃ b xs, G a = some (exv a C (some b)) ∧ G b = some (.xd xs) ∧ xs.map Prod.fst = fs.map Prod.fst ∧ DdAll K G (xs.map Prod.snd) (fs.map Prod.snd)) := by
  cases h with
  | exc0 h => exact ⟨_, rfl, .inl ⟨h, rfl⟩⟩
  | exc1 h1 h2 e1 e2 e3 e4 q => exact ⟨_, rfl, .inr ⟨_, _, h1, h2, by rw [e1, e2], by rw [e3, e4]; exact q⟩⟩
theorem lookup_d {f : Str} : ∀ {xs : List (Str × V)} {fs : List (Str × D)} {d : D}, xs.map Prod.fst = fs.map Prod.fst → DdAll K G (xs.map Prod.snd) (fs.map Prod.snd) → fs.lookup f = some d → ∃ v, xs.lookup f = some v ∧ Dd K G v d
  | [], [], _, _, _, h => by cases h
  | [], _ :: _, _, e, _, _ => by simp at e
  | _ :: _, [], _, e, _, _ => by simp at e
  | x :: xs, y :: fs, d, e, q, h => by
    rw [List.map_cons, List.map_cons] at e
    obtain ⟨h1, h2⟩ := List.cons.inj e
    rw [List.map_cons, List.map_cons] at q
    obtain ⟨x1, x2⟩ := x
    obtain ⟨y1, y2⟩ := y
    cases q with
    | cons q1 q2 =>
      obtain rfl : x1 = y1 := h1
      rw [List.lookup_cons] at h ⊢
      by_cases z : (f == x1) = true
      · rw [z] at h ⊢
        cases h
        exact ⟨_, rfl, q1⟩
      · rw [Bool.not_eq_true] at z
        rw [z] at h ⊢
        exact lookup_d h2 q2 h
/-- a field of a kept exception -/
def vFldX (K : PySem.W.Frag) (ve : VE) (f : Str) : VE := fun env m P => ve env m fun x m1 => match x with
  | .exc C fs => ∃ d, XfC K C ∧ PySem.W.findIn K (.ref C) f = some none ∧ fs.lookup f = some d ∧ P d m1
  | _ => False
theorem s_fldX {te : TE} {ve : VE} {f : Str} (h : SF c Γ te ve) : SF c Γ (tFldU c.K te f) (vFldX c.K ve f) := fun T G H S env σ m P Q st hv k => by
  refine .inr (h T G H S env σ m _ _ st hv fun x m1 u G1 H1 p1 s1 st1 q1 => ?_)
  split at p1
  · rename_i C fs
    obtain ⟨d, hx, hf, hl, p1⟩ := p1
    obtain ⟨a, rfl, ⟨h1, rfl⟩ | ⟨b, xs, h1, h2, e3, e4⟩⟩ := dd_exc q1
    · cases hl
    · obtain ⟨v, hv, hd⟩ := lookup_d e3 e4 hl
      exact ⟨a, C, b, xs, v, rfl, st1.v _ _ h1, st1.v _ _ h2, hx, hf, hv, k d m1 v G1 H1 p1 s1 st1 hd⟩
  · exact p1.elim
/-- isinstance of kept exceptions, too -/
def vIsiE (K : PySem.W.Frag) : List D → (D → Prop) → Prop
  | [.exc C fs, .adr B], P => ExcC K C ∧ ∃ b, PySem.W.kitOne K (.ref C) (.ref B) = some b ∧ P (.bl b)
  | [.exc C fs, .ty n], P => ExcC K C ∧ ∃ b, PySem.W.kitOne K (.ref C) (.type n) = some b ∧ P (.bl b)
  | [x, .ty n], P => ∃ a b, x.tyN = some a ∧ subT a n = some b ∧ P (.bl b)
  | [x, .tup cs], P => ∃ ns : List String, cs = ns.map D.ty ∧ ∃ a, x.tyN = some a ∧ ∃ b, PySem.W.kitAny K (.type a) (ns.map Value.type) = some b ∧ P (.bl b)
  | _, _ => False
theorem adrs_v {ds : List Addr} : ∀ {vs : List V}, DdAll K G vs (ds.map D.adr) → vs = ds.map V.ref := by
  induction ds with
  | nil => intro vs h; cases h; rfl
  | cons n ns ih => intro vs h; cases h with | cons h1 h2 => rw [List.map_cons, dd_adr h1, ih h2]
theorem tys_v {ds : List String} : ∀ {vs : List V}, DdAll K G vs (ds.map D.ty) → vs = ds.map V.ty := by
  induction ds with
  | nil => intro vs h; cases h; rfl
  | cons n ns ih =>
    intro vs h
    cases h with
    | cons h1 h2 =>
      cases h1
      rw [List.map_cons, ih h2]
theorem clsv_adr (ds : List Addr) : Paired ClsV (ds.map V.ref) (ds.map Value.ref) := by
  induction ds with
  | nil => exact .nil
  | cons a ds ih => exact .cons (.own a) ih
theorem clsv_ty (ds : List String) : Paired ClsV (ds.map V.ty) (ds.map Value.type) := by
  induction ds with
  | nil => exact .nil
  | cons a ds ih => exact .cons (.ty a) ih
theorem tp_exc {v : V} {C : Addr} {fs : List (Str × D)} (s : Same G H) (h : Tp K G H v (.exc C fs)) : ∃ a d, v = .ref a ∧ H a = some (exv a C d) ∧ ExDict H d := by
  obtain ⟨a, rfl, ⟨h1, rfl⟩ | ⟨b, xs, h1, h2, _⟩⟩ := dd_exc (show Dd K G v (.exc C fs) from by cases h with | dd h => exact h)
  · exact ⟨a, none, rfl, s _ _ h1, .inl rfl⟩
  · exact ⟨a, some b, rfl, s _ _ h1, .inr ⟨b, xs, rfl, s _ _ h2⟩⟩
theorem tp_tup {v : V} {ds : List D} (s : Same G H) (h : Tp K G H v (.tup ds)) : ∃ a vs, v = .ref a ∧ SqT K H a vs ∧ DdAll K G vs ds := by
  obtain ⟨a, vs, rfl, _, h1, h2⟩ := h.t s
  exact ⟨a, vs, rfl, h1, h2⟩
theorem refs_vals {ds : List Addr} : ∀ {us : List Value}, Vals (ds.map V.ref) us → us = ds.map Value.ref := by
  induction ds with
  | nil => intro us h; cases h; rfl
  | cons n ds ih => intro us h; cases h with | cons h1 h2 => rw [List.map_cons, ih h2, show _ = Value.ref n from h1]
theorem tys_vals {ds : List String} : ∀ {us : List Value}, Vals (ds.map V.ty) us → us = ds.map Value.type := by
  induction ds with
  | nil => intro us h; cases h; rfl
  | cons n ds ih => intro us h; cases h with | cons h1 h2 => rw [List.map_cons, ih h2, show _ = Value.type n from h1]
/-! isinstance of any of several, written or laid -/
def rIsiV (K : PySem.W.Frag) : List V → Hp → VK → Prop := fun xs H Q => rIsiE K xs H Q ∨ rIsiK K xs H Q
theorem call_isiV {X : Cx} : CallR X (.builtin "isinstance") (rIsiV X.K) := callr_or call_isiE call_isiK
theorem l_isiE : ClV K (rIsiV K) (vIsiE K) := fun G H xs ds P Q s h f k => by
  unfold vIsiE at f
  split at f
  · obtain ⟨v, u, rfl, hv, h'⟩ := h.inv2
    obtain ⟨ec, b, eb, f⟩ := f
    obtain ⟨a, d, rfl, h1, h2⟩ := tp_exc s hv
    obtain rfl : u = _ := by cases h' with | dd h' => exact dd_adr h'
    exact .inl (.inr (.inl ⟨a, _, d, _, _, b, rfl, h1, h2, ec, .own _, eb, k _ _ _ f (.old (.bl _) rfl)⟩))
  · obtain ⟨v, u, rfl, hv, h'⟩ := h.inv2
    obtain ⟨ec, b, eb, f⟩ := f
    obtain ⟨a, d, rfl, h1, h2⟩ := tp_exc s hv
    cases h' with
    | dd h' =>
    cases h'
    exact .inl (.inr (.inl ⟨a, _, d, _, _, b, rfl, h1, h2, ec, .ty _, eb, k _ _ _ f (.old (.bl _) rfl)⟩))
  · obtain ⟨v, u, rfl, hv, h'⟩ := h.inv2
    obtain ⟨a, b, ea, eb, f⟩ := f
    cases h' with
    | dd h' =>
    cases h'
    exact .inl (.inl (w_isi (tp_tyX s hv ea) (kit_sub ea eb) (k _ _ _ f (.old (.bl _) rfl))))
  · obtain ⟨v, u, rfl, hv, h'⟩ := h.inv2
    obtain ⟨ns, rfl, a, ea, b, eb, f⟩ := f
    cases h' with
    | dd h' =>
    cases h' with
    | tup g q =>
    rw [tys_v q] at g
    rcases g with g | ⟨⟨oc, od, dt, sl⟩, its, n, g1, g2, g3, g4, g5⟩
    · exact .inl (.inl (.inr ⟨v, _, _, _, _, b, rfl, s _ _ g, clsv_ty ns, tp_tyX s hv ea, eb, k _ _ _ f (.old (.bl _) rfl)⟩))
    · simp only at g2 g3
      subst g2 g3
      have e := tys_vals g5
      refine .inr ⟨v, _, od, ns.map Value.type, n, sl, _, b, rfl, ?_, tp_tyX s hv ea, eb, k _ _ _ f (.old (.bl _) rfl)⟩
      rw [g1, ← e]
  · exact f.elim
/-! dict(..) of a list of pairs -/
def pairsT : List D → Option (List (Key × D))
  | [] => some []
  | .tup [x, y] :: r => match dKey x, pairsT r with
    | some k, some ks => some ((k, y) :: ks)
    | _, _ => none
  | _ => none
theorem pairsT_v : ∀ {ds : List D} {vs : List V} {ks : List (Key × D)}, DdAll K G vs ds → pairsT ds = some ks → ∃ (ps : List Addr) (kvs : List (Key × V)), vs = ps.map V.ref ∧ Paired (fun p kv => SqT K G p [kV kv.1, kv.2]) ps kvs ∧ kvs.map Prod.fst = ks.map Prod.fst ∧ DdAll K G (kvs.map Prod.snd) (ks.map Prod.snd)
  | [], _, ks, h, e => by cases h; cases e; exact ⟨[], [], rfl, .nil, rfl, .nil⟩
  | d :: r, _, ks, h, e => by
    unfold pairsT at e
    split at e
    · rename_i q
      cases q
    · rename_i x y r' q
      cases q
      split at e
      · rename_i k ks' e1 e2
        cases e
        cases h with
        | cons h1 h2 =>
        obtain ⟨ps, kvs, rfl, e3, e4, e5⟩ := pairsT_v h2 e2
        cases h1 with
        | tup g q =>
        obtain ⟨u, w, rfl, q1, q2⟩ := BoAll.inv2 q
        rename_i a
        exact ⟨a :: ps, (k, w) :: kvs, rfl, .cons (by rw [← kV_of (.dd q1 : Tp K G G _ x) e1]; exact g.sq) e3, by rw [List.map_cons, List.map_cons, e4], .cons q2 e5⟩
      · cases e
    · cases e
def rDictP (K : PySem.W.Frag) : List V → Hp → VK → Prop := fun xs H Q => ∃ (a : Addr) (ps : List Addr) (kvs : List (Key × V)), xs = [.ref a] ∧ SqL K H a (ps.map V.ref) ∧ Paired (fun p kv => SqT K H p [kV kv.1, kv.2]) ps kvs ∧
    ∀ p, H p = none → Q (.ref p) (upd H p (.dK (mergeK [] kvs)))
theorem call_dictPV {X : Cx} (hc : X.calm = true) : CallR X (.type "dict") (rDictP X.K) := call_dictP hc
def vDict : List D → (D → Prop) → Prop
  | [.lst ds], P => ∃ ks, pairsT ds = some ks ∧ P (.dic (mergeD [] ks))
  | _, _ => False
theorem paired_mono {α β : Type} {R R' : α → β → Prop} (h : ∀ a b, R a b → R' a b) {l : List α} {r : List β} (p : Paired R l r) : Paired R' l r := by
  induction p with
  | nil => exact .nil
  | cons q _ ih => exact .cons (h _ _ q) ih
theorem l_dict : ClV K (rDictP K) vDict := fun G H xs ds P Q s h f k => by
  unfold vDict at f
  split at f
  · obtain ⟨v, rfl, hv⟩ := h.inv1
    replace h := hv
    obtain ⟨ks, ek, f⟩ := f
    obtain ⟨a, vs, rfl, h1, q1⟩ := h.l s
    obtain ⟨ps, kvs, rfl, e1, e2, e3⟩ := pairsT_v q1 ek
    obtain ⟨m1, m2⟩ := merge_d (kvs := []) (kds := []) e2 e3 rfl .nil
    exact ⟨a, ps, kvs, rfl, SqL.of h1, paired_mono (fun _ _ q => same_t s q) e1, fun p hp => k _ _ _ f (.dic hp m1 m2)⟩
  · exact f.elim
end
end Ps

/-! WaS: the steps of a reading over data. -/
namespace Ps
open PySem PySem.Spec PyProof.Rows L2
section
variable {V : VEnds} {env : Env} {m : Mst} {a b : VS} {ve va vb vc : VE} {vl : VA} {vt vu : VT} {vg : VG} {vgs : VGs} {i j : Nat} {d e : D} {ds : List D} {P : D → Mst → Prop} {B : Bool → Mst → Prop} {A : List D → Mst → Prop} {E : Env → Prop} {Z : D → Prop} {n k : Int} {s t : Str}
theorem e_seq (h : a { V with nx := b V } env m) : vSeqS a b V env m := h
/-- what comes behind, by a name -/
theorem e_seqO (h : ∀ N : Env → Mst → Prop, (∀ e m, b V e m → N e m) → a { V with nx := N } env m) : vSeqS a b V env m := h (b V) fun _ _ h => h
/-- a value's use, by a name -/
theorem e_valO (h : ∀ N : D → Mst → Prop, (∀ d m, P d m → N d m) → ve env m N) : ve env m P := h P fun _ _ h => h
theorem e_seqAsg {vi : VE} {g : VG} (h : (vAsg vi g) { V with nx := b V } env m) : vSeqS (vAsg vi g) b V env m := h
theorem e_seqDrop {vi : VE} (h : (vDrop vi) { V with nx := b V } env m) : vSeqS (vDrop vi) b V env m := h
theorem e_seqAug {f : D → D → (D → Prop) → Prop} {vi : VE} (h : (vAug i f vi) { V with nx := b V } env m) : vSeqS (vAug i f vi) b V env m := h
theorem e_seqApp {vi : VE} (h : (vApp i vi) { V with nx := b V } env m) : vSeqS (vApp i vi) b V env m := h
theorem e_seqMut {f : List D → List D → (List D → D → Prop) → Prop} (h : (vMut i f vl) { V with nx := b V } env m) : vSeqS (vMut i f vl) b V env m := h
theorem e_seqPut {vi vk : VE} (h : (vPut i vi vk) { V with nx := b V } env m) : vSeqS (vPut i vi vk) b V env m := h
theorem e_seqPar  (h : (vPar i j vl) { V with nx := b V } env m) : vSeqS (vPar i j vl) b V env m := h
theorem e_seqFor {ws : List Nat} {vi : VA} (h : (vFor ws vi vg a) { V with nx := b V } env m) : vSeqS (vFor ws vi vg a) b V env m := h
theorem e_seqWhile {ws : List Nat} (h : (vWhile ws vt a) { V with nx := b V } env m) : vSeqS (vWhile ws vt a) b V env m := h
theorem e_seqNext  (h : (vNext) { V with nx := b V } env m) : vSeqS (vNext) b V env m := h
theorem e_seqSeq {x y : VS} (h : (vSeqS x y) { V with nx := b V } env m) : vSeqS (vSeqS x y) b V env m := h
theorem e_asg (h : ve env m fun d m1 => vg d env fun e1 => V.nx e1 m1) : vAsg ve vg V env m := h
theorem e_drop (h : ve env m fun _ m1 => V.nx env m1) : vDrop ve V env m := h
theorem e_ret (h : ve env m V.rt) : vRet ve V env m := h
theorem e_retN (h : V.rt .non m) : vRetN V env m := h
theorem e_if (h : vt env m fun x m1 => if x = true then a V env m1 else b V env m1) : vIf vt a b V env m := h
theorem e_next (h : V.nx env m) : vNext V env m := h
theorem e_brk (h : V.bk env m) : vBrk V env m := h
theorem e_cont (h : V.ct env m) : vCont V env m := h
theorem e_aug {f : D → D → (D → Prop) → Prop} (hx : env[i]? = some (some d)) (h : ve env m fun y m1 => f d y fun z => V.nx (env.set i (some z)) m1) : vAug i f ve V env m := ⟨d, hx, h⟩
theorem e_par (h : vl env m fun ds m1 => match ds with | [d, e] => V.nx ((env.set i (some d)).set j (some e)) m1 | _ => False) : vPar i j vl V env m := h
theorem e_app (hx : env[i]? = some (some (.lst ds))) (h : ve env m fun d m1 => ds.length < sizeLine ∧ V.nx (env.set i (some (.lst (ds ++ [d])))) m1) : vApp i ve V env m := ⟨ds, hx, h⟩
theorem e_mut {f : List D → List D → (List D → D → Prop) → Prop} (hx : env[i]? = some (some (.lst ds))) (h : vl env m fun xs m1 => f ds xs fun ds' z => V.nx (env.set i (some (.lst ds'))) m1) : vMut i f vl V env m := ⟨ds, hx, h⟩
theorem e_putL0 {vk : VE} (hx : env[i]? = some (some (.lst ds))) (h : ve env m fun d m1 => vk env m1 fun y m2 => ∃ k j, y = .int k ∧ ixN ds.length k = some j ∧ V.nx (env.set i (some (.lst (ds.set j d)))) m2) (mono : ∀ (P Q : D → Mst → Prop) m, (∀ d m, P d m → Q d m) → vk env m P → vk env m Q) (mono2 : ∀ (P Q : D → Mst → Prop) m, (∀ d m, P d m → Q d m) → ve env m P → ve env m Q) : vPut i ve vk V env m :=
  mono2 _ _ _ (fun d m1 h => ⟨_, hx, mono _ _ _ (fun y m2 ⟨k, j, e, q, r⟩ => by subst e; exact ⟨j, q, r⟩) h⟩) h
theorem e_put {vk : VE} (h : ve env m fun d m1 => ∃ x, env[i]? = some (some x) ∧ vk env m1 fun y m2 => match x, y with
  | .lst ds, .int k => ∃ j, ixN ds.length k = some j ∧ V.nx (env.set i (some (.lst (ds.set j d)))) m2
  | .dic kds, y => ∃ k, dKey y = some k ∧ kds.length < sizeLine ∧ V.nx (env.set i (some (.dic (dput kds k d)))) m2
  | _, _ => False) : vPut i ve vk V env m := h
theorem e_gname (h : E (env.set i (some d))) : vgName i d env E := h
theorem e_gtup {n : Nat} (hl : ds.length = n) (h : vgs ds env E) : vgTup n vgs (.tup ds) env E := ⟨hl, h⟩
theorem e_gtupU {n : Nat} (hl : ds.length = n) (h : vgs ds env E) : vgTupU n vgs (.tup ds) env E := ⟨hl, h⟩
theorem e_gtupL {n : Nat} (hl : ds.length = n) (h : vgs ds env E) : vgTupU n vgs (.lst ds) env E := ⟨hl, h⟩
theorem e_gcons (h : vg d env fun e => vgs ds e E) : vgCons vg vgs (d :: ds) env E := h
theorem e_gnil (h : E env) : vgNil [] env E := ⟨rfl, h⟩
theorem e_var (hx : env[i]? = some (some d)) (h : P d m) : vVar i env m P := ⟨d, hx, h⟩
theorem e_c (h : P d m) : vC d env m P := h
theorem e_nil (h : A [] m) : vNil env m A := h
theorem e_cons (h : ve env m fun d m1 => vl env m1 fun ds m2 => A (d :: ds) m2) : vCons ve vl env m A := h
theorem e_op {f : D → D → (D → Prop) → Prop} (h : va env m fun x m1 => vb env m1 fun y m2 => f x y fun z => P z m2) : vOp f va vb env m P := h
theorem e_un {f : D → (D → Prop) → Prop} (h : va env m fun x m1 => f x fun z => P z m1) : vUn f va env m P := h
theorem e_cb {f : List D → (D → Prop) → Prop} (h : vl env m fun xs m1 => f xs fun z => P z m1) : vCB f vl env m P := h
theorem e_bm {T : String} {f : D → List D → (D → Prop) → Prop} (h : ve env m fun x m1 => isTy T x = true ∧ vl env m1 fun xs m2 => f x xs fun z => P z m2) : vBMt T f ve vl env m P := h
theorem e_bm0 {T : String} {f : D → List D → (D → Prop) → Prop} (h : ve env m fun x m1 => isTy T x = true ∧ f x [] fun z => P z m1) : vBM0 T f ve env m P := h
theorem e_tyS {Q : Prop} (h : Q) : isTy "str" (.str s) = true ∧ Q := ⟨rfl, h⟩
theorem e_tyL {Q : Prop} (h : Q) : isTy "list" (.lst ds) = true ∧ Q := ⟨rfl, h⟩
theorem e_tyD {Q : Prop} {kds : List (Key × D)} (h : Q) : isTy "dict" (.dic kds) = true ∧ Q := ⟨rfl, h⟩
theorem e_lst (h : vl env m fun xs m1 => xs.length ≤ sizeLine ∧ P (.lst xs) m1) : vLst vl env m P := h
theorem e_tup (h : vl env m fun xs m1 => xs.length ≤ sizeLine ∧ P (.tup xs) m1) : vTup vl env m P := h
theorem e_len (hz : Nat.ble ds.length 16777216 = true) {Q : Prop} (h : Q) : ds.length ≤ sizeLine ∧ Q := ⟨sz_le (Nat.le_of_ble_eq_true hz), h⟩
theorem e_ifE (h : vt env m fun b m1 => if b = true then va env m1 P else vb env m1 P) : vIfE vt va vb env m P := h
theorem e_andV (h : va env m fun x m1 => ∃ b, x = .bl b ∧ if b = true then vb env m1 P else P (.bl false) m1) : vAndV va vb env m P := h
theorem e_orV (h : va env m fun x m1 => ∃ b, x = .bl b ∧ if b = true then P (.bl true) m1 else vb env m1 P) : vOrV va vb env m P := h
theorem e_notV (h : va env m fun x m1 => ∃ b, x = .bl b ∧ P (.bl (!b)) m1) : vNotV va env m P := h
theorem e_blE {b : Bool} {Q : Bool → Prop} (h : Q b) : ∃ c, D.bl b = .bl c ∧ Q c := ⟨b, rfl, h⟩
theorem e_chain {f g : D → D → (D → Prop) → Prop} (h : va env m fun x m1 => vb env m1 fun y m2 => f x y fun z => ∃ b, z = .bl b ∧ if b = true then vc env m2 fun w m3 => g y w fun u => P u m3 else P (.bl false) m2) : vChain f g va vb vc env m P := h
theorem e_test (h : ve env m fun x m1 => ∃ b, x = .bl b ∧ B b m1) : vTest ve env m B := h
theorem e_tru (h : ve env m fun x m1 => truD x B m1) : vTru ve env m B := h
theorem e_truB {b : Bool} (h : B b m) : truD (.bl b) B m := h
theorem e_truN (h : B false m) : truD .non B m := h
theorem e_truI (h : B (n != 0) m) : truD (.int n) B m := h
theorem e_truL (h : B (!ds.isEmpty) m) : truD (.lst ds) B m := h
theorem e_truT (h : B (!ds.isEmpty) m) : truD (.tup ds) B m := h
theorem e_truS (hz : s.length ≤ 16777216) (h : B ((s.length : Int) != 0) m) : truD (.str s) B m := ⟨sz_le hz, h⟩
theorem e_and (h : vt env m fun x m1 => if x = true then vu env m1 B else B false m1) : vAnd vt vu env m B := h
theorem e_or (h : vt env m fun x m1 => if x = true then B true m1 else vu env m1 B) : vOr vt vu env m B := h
theorem e_not (h : vt env m fun x m1 => B (!x) m1) : vNot vt env m B := h
theorem e_yes (h : B true m) : vYes env m B := h
theorem e_call {vsp : VSp} (h : vl env m fun ds m1 => vsp ds m1 P fun _ _ _ => False) : vCall vsp vl env m P := h
theorem e_callB {vsp : VSp} {t : OT} (h : vl env m fun ds m1 => ∃ es, RsAll m1.2 ds es ∧ vsp es (none, emp) (fun d _ => frOk t d ∧ P d m1) fun _ _ _ => False) : vCallB t vsp vl env m P := h
theorem e_callBS {vsp : VSp} {t : OT} {VW : XW} (h : vl env m fun ds m1 => ∃ es, RsAll m1.2 ds es ∧ vsp es (none, emp) (fun d _ => frOk t d ∧ P d m1) fun C fs _ => (∀ f ∈ fs, D.Im f.2) ∧ VW C fs env m1) : vCallBS t vsp VW vl env m P := h
/-- no argument is in the store -/
theorem e_look {s : Sto} {vsp : VSp} {Y : D → Mst → Prop} {X : XV} (h : vsp ds (none, emp) Y X) : ∃ es, RsAll s ds es ∧ vsp es (none, emp) Y X := ⟨ds, .refl _ _, h⟩
theorem frOk_bl {t : OT} {b : Bool} : frOk t (.bl b) := by cases t; exact .bl b; exact .inl (.bl b)
theorem frOk_int {t : OT} {b : Int} : frOk t (.int b) := by cases t; exact .int b; exact .inl (.int b)
theorem frOk_non {t : OT} : frOk t .non := by cases t; exact .non; exact .inl .non
theorem frOk_im {t : OT} (h : D.Im d) : frOk t d := by cases t; exact h; exact .inl h
theorem e_frB {t : OT} {b : Bool} {Q : Prop} (h : Q) : frOk t (.bl b) ∧ Q := ⟨frOk_bl, h⟩
theorem e_frI {t : OT} {b : Int} {Q : Prop} (h : Q) : frOk t (.int b) ∧ Q := ⟨frOk_int, h⟩
theorem e_callS {vsp : VSp} {VW : XW} (h : vl env m fun ds m1 => vsp ds m1 P fun C fs m2 => VW C fs env m2) : vCallS vsp VW vl env m P := h
theorem e_sl {f : D → Option Int → Option Int → (D → Prop) → Prop} {vlo vhi : VO} (h : ve env m fun x m1 => vlo env m1 fun l m2 => vhi env m2 fun h m3 => f x l h fun z => P z m3) : vSl f ve vlo vhi env m P := h
theorem e_nopart {Q : Option Int → Mst → Prop} (h : Q none m) : vNoPart env m Q := h
theorem e_part {Q : Option Int → Mst → Prop} (h : ve env m fun x m1 => ∃ i, x = .int i ∧ Q (some i) m1) : vPart ve env m Q := h
theorem e_intE {Q : Int → Prop} (h : Q n) : ∃ i, D.int n = .int i ∧ Q i := ⟨n, rfl, h⟩
theorem e_dnew (h : P (.dic []) m) : vDNew env m P := h
theorem e_rz1 {VW : XW} {C : Addr} {f : Str} (h : vl env m fun ds m1 => match ds with | [d] => VW C [(f, d)] env m1 | _ => False) : vRz1 VW C f vl V env m := h
theorem e_rz0 {VW : XW} {C : Addr} (h : VW C [] env m) : vRaise VW C [] V env m := h
/-! operators by values -/
theorem e_addI (h : Z (.int (n + k))) : vAdd (.int n) (.int k) Z := h
theorem e_addS (hz : s.length + t.length ≤ sizeLine) (h : Z (.str (s ++ t))) : vAdd (.str s) (.str t) Z := ⟨hz, h⟩
theorem e_addL {x y : List D} (hz : x.length + y.length ≤ 16777216) (h : Z (.lst (x ++ y))) : vAdd (.lst x) (.lst y) Z := ⟨sz_le hz, h⟩
theorem e_addT {x y : List D} (hz : x.length + y.length ≤ 16777216) (h : Z (.tup (x ++ y))) : vAdd (.tup x) (.tup y) Z := ⟨sz_le hz, h⟩
theorem e_subI (h : Z (.int (n - k))) : vSub (.int n) (.int k) Z := h
theorem e_mulI (hc : CMul n k ∨ CMulW n k) (h : Z (.int (n * k))) : vMul (.int n) (.int k) Z := ⟨hc, h⟩
theorem e_divI (hc : CDiv n k ∨ CDivW n k) (h : Z (.int (n / k))) : vDiv (.int n) (.int k) Z := ⟨hc, h⟩
theorem e_modI (hc : 0 < k) (h : Z (.int (n % k))) : vMod (.int n) (.int k) Z := ⟨hc, h⟩
theorem e_powI (hc : CPow n k) (h : Z (.int (n ^ k.toNat))) : vPow (.int n) (.int k) Z := ⟨hc, h⟩
theorem e_negI (h : Z (.int (-n))) : vNeg (.int n) Z := h
theorem e_eqI (h : Z (.bl (decide (n = k)))) : vEqC (.int n) (.int k) Z := h
theorem e_eqS (h : Z (.bl (decide (s = t)))) : vEqC (.str s) (.str t) Z := h
theorem e_eqB {x y : Bool} (h : Z (.bl (decide (x = y)))) : vEqC (.bl x) (.bl y) Z := h
theorem e_neI (h : Z (.bl (!decide (n = k)))) : vNeC (.int n) (.int k) Z := h
theorem e_neS (h : Z (.bl (!decide (s = t)))) : vNeC (.str s) (.str t) Z := h
theorem e_neB {x y : Bool} (h : Z (.bl (!decide (x = y)))) : vNeC (.bl x) (.bl y) Z := h
theorem e_eqX (hs : scD d e = true) (h : Z (.bl (eqS d e))) : vEqC d e Z := by unfold vEqC; rw [if_pos hs]; exact h
theorem e_neX (hs : scD d e = true) (h : Z (.bl (!eqS d e))) : vNeC d e Z := by unfold vNeC; rw [if_pos hs]; exact h
theorem e_eqD (hs : scD d e = false) (hd : d.pl = true ∧ e.pl = true ∧ SeqAt.shaped d.py = true ∧ SeqAt.shaped e.py = true) (h : Z (.bl (PyData.eqv d.py e.py))) : vEqC d e Z := by unfold vEqC; rw [if_neg (by rw [hs]; exact Bool.false_ne_true)]; exact ⟨hd, h⟩
theorem e_neD (hs : scD d e = false) (hd : d.pl = true ∧ e.pl = true ∧ SeqAt.shaped d.py = true ∧ SeqAt.shaped e.py = true) (h : Z (.bl (!PyData.eqv d.py e.py))) : vNeC d e Z := by unfold vNeC; rw [if_neg (by rw [hs]; exact Bool.false_ne_true)]; exact ⟨hd, h⟩
theorem e_ltI (h : Z (.bl (decide (n < k)))) : vLt (.int n) (.int k) Z := h
theorem e_leI (h : Z (.bl (decide (n ≤ k)))) : vLe (.int n) (.int k) Z := h
theorem e_gtI (h : Z (.bl (decide (k < n)))) : vGt (.int n) (.int k) Z := h
theorem e_geI (h : Z (.bl (decide (k ≤ n)))) : vGe (.int n) (.int k) Z := h
theorem e_isNn (h : Z (.bl true)) : vIsN .non .non Z := h
theorem e_isNi (h : Z (.bl false)) : vIsN (.int n) .non Z := h
theorem e_isNs (h : Z (.bl false)) : vIsN (.str s) .non Z := h
theorem e_isNl (h : Z (.bl false)) : vIsN (.lst ds) .non Z := h
theorem e_isNt (h : Z (.bl false)) : vIsN (.tup ds) .non Z := h
theorem e_isNb {b : Bool} (h : Z (.bl false)) : vIsN (.bl b) .non Z := h
theorem e_ntNn (h : Z (.bl false)) : vNotN .non .non Z := h
theorem e_ntNi (h : Z (.bl true)) : vNotN (.int n) .non Z := h
theorem e_ntNs (h : Z (.bl true)) : vNotN (.str s) .non Z := h
theorem e_ntNl (h : Z (.bl true)) : vNotN (.lst ds) .non Z := h
theorem e_ntNt (h : Z (.bl true)) : vNotN (.tup ds) .non Z := h
theorem e_isN (h : Z (.bl d.isN)) : vIsN d .non Z := by cases d <;> exact h
theorem e_notN (h : Z (.bl (!d.isN))) : vNotN d .non Z := by cases d <;> exact h
theorem e_ixL {x : D} (he : atI ds n = some x) (h : Z x) : vIx (.lst ds) (.int n) Z := ⟨x, he, h⟩
theorem e_ixT {x : D} (he : atI ds n = some x) (h : Z x) : vIx (.tup ds) (.int n) Z := ⟨x, he, h⟩
theorem e_ixS {c : Nat} (hz : s.length ≤ 16777216) (he : atI s.cps.toList n = some c) (h : Z (.str ⟨#[c]⟩)) : vIx (.str s) (.int n) Z := ⟨sz_le hz, c, he, h⟩
theorem e_ixD {kds : List (Key × D)} {y x : D} {kk : Key} (hk : dKey y = some kk) (he : dget kds kk = some x) (h : Z x) : vIx (.dic kds) y Z := by cases y <;> first | exact ⟨kk, x, hk, he, h⟩ | cases hk
theorem e_ipaI (h : Z (.int (n + k))) : vIpAdd (.int n) (.int k) Z := h
theorem e_ipaS (hz : s.length + t.length ≤ 16777216) (h : Z (.str (s ++ t))) : vIpAdd (.str s) (.str t) Z := ⟨sz_le hz, h⟩
theorem e_ipmI (hc : CMul n k ∨ CMulW n k) (h : Z (.int (n * k))) : vIpMul (.int n) (.int k) Z := ⟨hc, h⟩
theorem e_lenL (h : Z (.int ds.length)) : vLen [.lst ds] Z := h
theorem e_lenT (h : Z (.int ds.length)) : vLen [.tup ds] Z := h
theorem e_lenD {kds : List (Key × D)} (h : Z (.int kds.length)) : vLen [.dic kds] Z := h
theorem e_lenS (hz : s.length ≤ 16777216) (h : Z (.int s.length)) : vLen [.str s] Z := ⟨sz_le hz, h⟩
theorem e_listL (h : Z (.lst ds)) : vList [.lst ds] Z := h
theorem e_listT (h : Z (.lst ds)) : vList [.tup ds] Z := h
theorem e_tupL (h : Z (.tup ds)) : vTupC [.lst ds] Z := h
theorem e_tupT (h : Z (.tup ds)) : vTupC [.tup ds] Z := h
theorem e_intI (h : Z (.int n)) : vInt [.int n] Z := h
theorem e_intB {b : Bool} (h : Z (.int (if b then 1 else 0))) : vInt [.bl b] Z := h
theorem e_abs (h : Z (.int (if n < 0 then -n else n))) : vAbs [.int n] Z := h
theorem e_max2 (h : Z (.int (if k > n then k else n))) : vMax2 [.int n, .int k] Z := h
theorem e_min2 (h : Z (.int (if k < n then k else n))) : vMin2 [.int n, .int k] Z := h
theorem e_isi {x : D} {ty a : String} {b : Bool} (ha : x.tyN = some a) (hb : subT a ty = some b) (h : Z (.bl b)) : vIsi [x, .ty ty] Z := ⟨a, b, ha, hb, h⟩
theorem e_cutL {lo hi : Option Int} (h : Z (.lst (cutD ds lo hi))) : vCut (.lst ds) lo hi Z := h
theorem e_cutT {lo hi : Option Int} (h : Z (.tup (cutD ds lo hi))) : vCut (.tup ds) lo hi Z := h
theorem e_cutS {lo hi : Option Int} (hz : s.length ≤ 16777216) (h : Z (.str (cutS s lo hi))) : vCut (.str s) lo hi Z := ⟨sz_le hz, h⟩
theorem e_ext {es : List D} {Y : List D → D → Prop} (hz : ds.length + es.length ≤ 16777216) (h : Y (ds ++ es) .non) : vExtend ds [.lst es] Y := ⟨sz_le hz, h⟩
theorem e_revm {Y : List D → D → Prop} (h : Y ds.reverse .non) : vReverse ds [] Y := h
theorem e_clrm {Y : List D → D → Prop} (h : Y [] .non) : vClear ds [] Y := h
theorem e_sum {ns : List Int} (h : Z (.int ns.sum)) : vSum [.lst (ns.map D.int)] Z := ⟨ns, rfl, h⟩
theorem e_all {ns : List Bool} (h : Z (.bl (ns.all id))) : vAll [.lst (ns.map D.bl)] Z := ⟨ns, rfl, h⟩
theorem e_any {ns : List Bool} (h : Z (.bl (ns.any id))) : vAny [.lst (ns.map D.bl)] Z := ⟨ns, rfl, h⟩
/-! draws, comparisons -/
theorem e_take {x : Addr} {r : Nat} {s0 : Sto} {VX : XV} (hl : 1 ≤ r) (h0 : 0 < n) (h1 : n < 2 ^ 62) (h : ∀ (v : Int) (r' : Nat), 0 ≤ v → v < n → r ≤ r' + 1 → P (.int v) (some (x, r'), s0)) : vTake [.adr x, .int n] (some (x, r), s0) P VX := ⟨x, n, r - 1, s0, rfl, by rw [Nat.sub_add_cancel (by omega)], h0, h1, fun v q1 q2 => h v _ q1 q2 (by omega)⟩
theorem e_sc {b : Bool} {Q : Prop} (h : Q) : (D.bl b).sc = true ∧ Q := ⟨rfl, h⟩
theorem e_scI {Q : Prop} (h : Q) : (D.int n).sc = true ∧ Q := ⟨rfl, h⟩
theorem e_same {k : Nat} {VX : XV} (hd : d.pl = true) (he : e.pl = true) (hq : d.py = e.py) (hk : okD k e.py = true) (h : P (.bl true) m) : vSame k [d, e] m P VX := ⟨d, e, rfl, hd, he, hq, hk, h⟩
end
/-! ### what is walked -/
section
variable {va : VA} {ve : VE} {env : Env} {m : Mst} {A : List D → Mst → Prop} {ds es : List D} {n k : Int}
theorem e_seqv (h : ve env m fun x m1 => itSeq x A m1) : vSeq ve env m A := h
theorem e_itL (h : A ds m) : itSeq (.lst ds) A m := h
theorem e_itT (h : A ds m) : itSeq (.tup ds) A m := h
theorem e_itS {z : Str} (h : A (signsOf z) m) : itSeq (.str z) A m := h
theorem e_rng1 (h : va env m fun xs m1 => ∃ j, xs = [.int j] ∧ itRng xs A m1) : vRng1 va env m A := h
theorem e_rng2 (h : va env m fun xs m1 => ∃ i j, xs = [.int i, .int j] ∧ itRng xs A m1) : vRng2 va env m A := h
theorem e_rg1 (h : itRng [.int n] A m) : ∃ j, [D.int n] = [.int j] ∧ itRng [.int n] A m := ⟨n, rfl, h⟩
theorem e_rg2 (h : itRng [.int n, .int k] A m) : ∃ i j, [D.int n, D.int k] = [.int i, .int j] ∧ itRng [.int n, .int k] A m := ⟨n, k, rfl, h⟩
theorem e_itR {j : Nat} (hj : j < 2 ^ 62) (h : A (rangeD 0 j) m) : itRng [.int (j : Int)] A m := ⟨⟨by omega, by omega⟩, by rw [Int.toNat_natCast]; exact h⟩
theorem e_itR2 {lo hi : Int} {j : Nat} (h1 : -(2 ^ 62) ≤ lo ∧ lo < 2 ^ 62 ∧ -(2 ^ 62) ≤ hi ∧ hi < 2 ^ 62) (hj : (hi - lo).toNat = j) (h : A (rangeD lo j) m) : itRng [.int lo, .int hi] A m := ⟨h1, by rw [hj]; exact h⟩
theorem e_zip (h : va env m fun xs m1 => itZip xs A m1) : vZip va env m A := h
theorem e_itZL (h : A (zipD ds es) m) : itZip [.lst ds, .lst es] A m := h
theorem e_itZT (h : A (zipD ds es) m) : itZip [.tup ds, .tup es] A m := h
theorem e_enum (h : va env m fun xs m1 => itEnum xs A m1) : vEnum va env m A := h
theorem e_itEL (h : A (enumD ds) m) : itEnum [.lst ds] A m := h
theorem e_itES {z : Str} (h : A (enumD (signsOf z)) m) : itEnum [.str z] A m := h
theorem e_itET (h : A (enumD ds) m) : itEnum [.tup ds] A m := h
theorem e_rev (h : ve env m fun x m1 => itRev x A m1) : vRev ve env m A := h
theorem e_itVL (h : A ds.reverse m) : itRev (.lst ds) A m := h
theorem e_itVT (h : A ds.reverse m) : itRev (.tup ds) A m := h
theorem rangeD_at {lo : Int} {n i : Nat} {d : D} (h : (rangeD lo n)[i]? = some d) : i < n ∧ d = .int (lo + (i : Int)) := by
  have hi : i < n := by
    have := (List.getElem?_eq_some_iff.mp h).1
    rw [rangeD_len] at this
    exact this
  rw [rangeD_get hi] at h
  exact ⟨hi, (Option.some.inj h).symm⟩
theorem map_at {α : Type} {f : α → D} {xs : List α} {i : Nat} {d : D} (h : (xs.map f)[i]? = some d) : ∃ x, xs[i]? = some x ∧ d = f x := by
  rw [List.getElem?_map] at h
  cases e : xs[i]? with
  | none => rw [e] at h; cases h
  | some c => rw [e] at h; exact ⟨c, rfl, (Option.some.inj h).symm⟩
theorem zipD_at {a b : List D} {i : Nat} {d : D} (h : (zipD a b)[i]? = some d) : ∃ x y, a[i]? = some x ∧ b[i]? = some y ∧ d = .tup [x, y] := by
  unfold zipD at h
  rw [List.getElem?_zipWith] at h
  split at h
  · rename_i x y e1 e2
    exact ⟨x, y, e1, e2, (Option.some.inj h).symm⟩
  · cases h
theorem enumD_at {a : List D} {i : Nat} {d : D} (h : (enumD a)[i]? = some d) : ∃ y, a[i]? = some y ∧ d = .tup [.int (i : Nat), y] := by
  obtain ⟨x, y, e1, e2, rfl⟩ := zipD_at h
  obtain ⟨_, rfl⟩ := rangeD_at e1
  exact ⟨y, e2, by rw [Int.zero_add]⟩
end
/-! ### loops, lists item by item -/
section
variable {ve : VE} {vt : VT} {vg : VG} {vb : VS} {env : Env} {m : Mst} {V : VEnds} {ws vs : List Nat} {items : List D} {P : D → Mst → Prop}
theorem e_for {vi : VA} (h : vi env m fun items m1 => forD ws items vg vb V env m1) : vFor ws vi vg vb V env m := h
theorem e_lc {vi : VA} (h : vi env m fun items m1 => lcD items vg vt ve vs env m1 P) : vLc vi vg vt ve vs env m P := h
/-- a loop by what holds between its turns -/
theorem for_inv (W : Nat → Env → Mst → Prop) (h0 : W 0 (wipeE env ws) m) (hs : ∀ i e m' d, i < items.length → W i e m' → items[i]? = some d → vg d e fun e1 => vb { V with nx := fun e2 m2 => W (i + 1) (wipeE e2 ws) m2, ct := fun e2 m2 => W (i + 1) (wipeE e2 ws) m2, bk := fun e2 m2 => V.nx (wipeE e2 ws) m2 } e1 m')
  (hd : ∀ e m', W items.length e m' → V.nx e m') : forD ws items vg vb V env m := ⟨W, h0, fun i e m' d hw ed => hs i e m' d (List.getElem?_eq_some_iff.mp ed).1 hw ed, hd⟩
/-- each item by itself, nothing drawn -/
theorem lc_map {f : Nat → D} (hz : items.length ≤ 16777216) (hs : ∀ i d (Q : D → Mst → Prop), items[i]? = some d → Q (f i) m → vg d (wipeE env vs) fun e1 => ve e1 m Q)
  (k : P (.lst ((List.range items.length).map f)) m) : lcD items vg vYes ve vs env m P := by
  refine ⟨fun i acc m' => acc = (List.range i).map f ∧ m' = m, ⟨rfl, rfl⟩, ?_, ?_⟩
  · rintro i acc m' d ⟨rfl, rfl⟩ e
    have hi := (List.getElem?_eq_some_iff.mp e).1
    refine hs i d _ e ⟨by rw [List.length_map, List.length_range]; exact sz_lt (by omega), ?_, rfl⟩
    rw [List.range_succ, List.map_append]
    rfl
  · rintro acc m' ⟨rfl, rfl⟩
    exact k
/-- each item of a list of something by itself -/
theorem lc_mapL {α : Type} {xs : List α} {g h : α → D} (hz : xs.length ≤ 16777216) (hs : ∀ (i : Nat) (x : α) (Q : D → Mst → Prop), xs[i]? = some x → Q (h x) m → vg (g x) (wipeE env vs) fun e1 => ve e1 m Q)
  (k : P (.lst (xs.map h)) m) : lcD (xs.map g) vg vYes ve vs env m P := by
  refine ⟨fun i acc m' => acc = (xs.take i).map h ∧ m' = m, ⟨by rw [List.take_zero]; rfl, rfl⟩, ?_, ?_⟩
  · rintro i acc m' d ⟨rfl, rfl⟩ e
    obtain ⟨x, ex, rfl⟩ := map_at e
    have hi := (List.getElem?_eq_some_iff.mp ex).1
    refine hs i x _ ex ⟨by rw [List.length_map, List.length_take]; exact sz_lt (by omega), ?_, rfl⟩
    rw [take_snoc ex, List.map_append]
    rfl
  · rintro acc m' ⟨rfl, rfl⟩
    rw [List.length_map, List.take_length]
    exact k
/-- those items of a list that a test lets through -/
theorem lc_fltL {α : Type} {xs : List α} {g h : α → D} {p : α → Bool} (hz : xs.length ≤ 16777216) (hs : ∀ (i : Nat) (x : α) (Q : D → Mst → Prop) (R : Mst → Prop), xs[i]? = some x → (p x = true → Q (h x) m) → (p x = false → R m) → vg (g x) (wipeE env vs) fun e1 => vt e1 m fun b m2 => if b = true then ve e1 m2 Q else R m2)
  (k : P (.lst ((xs.filter p).map h)) m) : lcD (xs.map g) vg vt ve vs env m P := by
  refine ⟨fun i acc m' => acc = ((xs.take i).filter p).map h ∧ m' = m, ⟨by rw [List.take_zero]; rfl, rfl⟩, ?_, ?_⟩
  · rintro i acc m' d ⟨rfl, rfl⟩ e
    obtain ⟨x, ex, rfl⟩ := map_at e
    have hi := (List.getElem?_eq_some_iff.mp ex).1
    have hl : (((xs.take i).filter p).map h).length ≤ i := by
      rw [List.length_map]
      exact Nat.le_trans (List.length_filter_le _ _) (by rw [List.length_take]; omega)
    refine hs i x _ _ ex (fun e => ⟨sz_lt (by omega), ?_, rfl⟩) (fun e => ⟨?_, rfl⟩)
    · rw [take_snoc ex, List.filter_append, List.map_append, List.filter_cons_of_pos e]
      rfl
    · rw [take_snoc ex, List.filter_append, List.filter_cons_of_neg (by rw [e]; exact Bool.false_ne_true), List.filter_nil, List.append_nil]
  · rintro acc m' ⟨rfl, rfl⟩
    rw [List.length_map, List.take_length]
    exact k
/-- item by item, by what holds of the list so far -/
theorem lc_inv (W : Nat → List D → Mst → Prop) (hz : items.length ≤ 16777216) (h0 : W 0 [] m) (hs : ∀ i acc m' d, i < items.length → acc.length = i → W i acc m' → items[i]? = some d → vg d (wipeE env vs) fun e1 => ve e1 m' fun y m3 => W (i + 1) (acc ++ [y]) m3)
  (mono : ∀ e1 m' (Q R : D → Mst → Prop), (∀ d m, Q d m → R d m) → ve e1 m' Q → ve e1 m' R) (monog : ∀ d (Q R : Env → Prop), (∀ e, Q e → R e) → vg d (wipeE env vs) Q → vg d (wipeE env vs) R)
  (k : ∀ acc m', acc.length = items.length → W items.length acc m' → P (.lst acc) m') : lcD items vg vYes ve vs env m P := by
  refine ⟨fun i acc m' => acc.length = i ∧ W i acc m', ⟨rfl, h0⟩, ?_, fun acc m' h => k acc m' h.1 h.2⟩
  rintro i acc m' d ⟨hl, hw⟩ e
  have hi := (List.getElem?_eq_some_iff.mp e).1
  refine monog d _ _ (fun e1 h => ?_) (hs i acc m' d hi hl hw e)
  exact mono _ _ _ _ (fun y m3 h => ⟨sz_lt (by omega), by rw [List.length_append, hl]; rfl, h⟩) h
end
end Ps

/-! WaT: the store: lists and dicts in it, instances. -/
namespace Ps
open PySem PySem.Spec PyProof.Rows L2
/-- what the store tells of a list or a dict -/
def lookS (s : Sto) (a : Addr) : D := match s a with
  | some (.lst ds) => .lst ds
  | some (.dic kds) => .dic kds
  | _ => .adr a
@[reducible] def look (s : Sto) : D → D
  | .adr a => lookS s a
  | d => d
theorem lookS_lst {s : Sto} {a : Addr} {ds : List D} (h : s a = some (.lst ds)) : lookS s a = .lst ds := by unfold lookS; rw [h]
theorem lookS_dic {s : Sto} {a : Addr} {ds : List (Key × D)} (h : s a = some (.dic ds)) : lookS s a = .dic ds := by unfold lookS; rw [h]
theorem lookS_obj {s : Sto} {a C : Addr} {fs : List (Str × D)} (h : s a = some (.obj C fs)) : lookS s a = .adr a := by unfold lookS; rw [h]
theorem look_non {s : Sto} {d : D} (h : ∀ a, d ≠ .adr a) : look s d = d := by cases d <;> first | rfl | exact absurd rfl (h _)
section
variable {c : JC} {K : PySem.W.Frag} {Γ Γ1 Γn Γb Γc : List OT} {G G' H H' : Hp} {T S S1 S2 R C : List (Addr × HO)} {env : Env} {σ : L2.St} {m : Mst} {v : V} {d : D} {t : OT} {i j : Nat} {a : Addr} {is : List Nat}
theorem Cell.hd (h : Cell K G a d C) : ∃ x ∈ C, x.1 = a := by
  cases d with
  | lst ds => obtain ⟨vs, rfl, _⟩ := h; exact ⟨_, List.mem_cons_self, rfl⟩
  | dic ds => obtain ⟨vs, rfl, _⟩ := h; exact ⟨_, List.mem_cons_self, rfl⟩
  | obj Cl ds => obtain ⟨dx, vs, rfl, _⟩ := h; exact ⟨_, List.mem_cons_self, rfl⟩
  | _ => exact h.elim
theorem Stx.stored (st : Stx c Γ G H T S env σ m) (e : m.2 a = some d) : ∃ C1, Cell c.K G a d C1 ∧ ∀ x ∈ C1, H x.1 = some x.2 := by
  obtain ⟨s, C, w, am, z⟩ := st
  obtain ⟨A, C1, B, rfl, q, _⟩ := am.at e
  exact ⟨C1, q, fun x hx => w.mem (o := x.2) (by simp [hx])⟩
theorem Stx.storedL {ds : List D} (st : Stx c Γ G H T S env σ m) (e : m.2 a = some (.lst ds)) : ∃ vs, H a = some (.lst vs) ∧ DdAll c.K G vs ds := by
  obtain ⟨C1, ⟨vs, rfl, q⟩, h⟩ := st.stored e
  exact ⟨vs, h _ List.mem_cons_self, q⟩
theorem Stx.storedD {ds : List (Key × D)} (st : Stx c Γ G H T S env σ m) (e : m.2 a = some (.dic ds)) : ∃ kvs, H a = some (.dK kvs) ∧ kvs.map Prod.fst = ds.map Prod.fst ∧ DdAll c.K G (kvs.map Prod.snd) (ds.map Prod.snd) := by
  obtain ⟨C1, ⟨vs, rfl, e1, q⟩, h⟩ := st.stored e
  exact ⟨vs, h _ List.mem_cons_self, e1, q⟩
theorem Stx.storedO {Cl : Addr} {gs : List (Str × D)} (st : Stx c Γ G H T S env σ m) (e : m.2 a = some (.obj Cl gs)) : ∃ dx fs, H a = some (.ins Cl dx fs) ∧ H dx = some (.own a) ∧ fs.map Prod.fst = gs.map Prod.fst ∧ DdAll c.K G (fs.map Prod.snd) (gs.map Prod.snd) := by
  obtain ⟨C1, ⟨dx, vs, rfl, e1, q⟩, h⟩ := st.stored e
  exact ⟨dx, vs, h _ List.mem_cons_self, h _ (List.mem_cons_of_mem _ List.mem_cons_self), e1, q⟩
theorem Stx.setL {ds ds' : List D} {vs' : List V} (st : Stx c Γ G H T S env σ m) (e : m.2 a = some (.lst ds)) (q : DdAll c.K G vs' ds') : Stx c Γ G (upd H a (.lst vs')) T S env σ (m.1, sput m.2 a (.lst ds')) := by
  obtain ⟨s, C, w, am, z⟩ := st
  obtain ⟨A, C1, B, rfl, ⟨vs, rfl, _⟩, f⟩ := am.at e
  have w2 : Wd ((T ++ (S ++ A)) ++ ((a, .lst vs) :: (B ++ c.R))) G H := by simpa [List.append_assoc] using w
  exact ⟨s, A ++ ([(a, .lst vs')] ++ B), by simpa [List.append_assoc] using w2.putM (o' := .lst vs'), f _ _ ⟨vs', rfl, q⟩, z⟩
theorem Stx.setD {ds ds' : List (Key × D)} {vs' : List (Key × V)} (st : Stx c Γ G H T S env σ m) (e : m.2 a = some (.dic ds)) (q0 : vs'.map Prod.fst = ds'.map Prod.fst) (q : DdAll c.K G (vs'.map Prod.snd) (ds'.map Prod.snd)) : Stx c Γ G (upd H a (.dK vs')) T S env σ (m.1, sput m.2 a (.dic ds')) := by
  obtain ⟨s, C, w, am, z⟩ := st
  obtain ⟨A, C1, B, rfl, ⟨vs, rfl, _⟩, f⟩ := am.at e
  have w2 : Wd ((T ++ (S ++ A)) ++ ((a, .dK vs) :: (B ++ c.R))) G H := by simpa [List.append_assoc] using w
  exact ⟨s, A ++ ([(a, .dK vs')] ++ B), by simpa [List.append_assoc] using w2.putM (o' := .dK vs'), f _ _ ⟨vs', rfl, q0, q⟩, z⟩
theorem Stx.setO {Cl dx : Addr} {gs gs' : List (Str × D)} {fs fs' : List (Str × V)} (st : Stx c Γ G H T S env σ m) (e : m.2 a = some (.obj Cl gs)) (hi : H a = some (.ins Cl dx fs)) (q0 : fs'.map Prod.fst = gs'.map Prod.fst) (q : DdAll c.K G (fs'.map Prod.snd) (gs'.map Prod.snd)) : Stx c Γ G (upd H a (.ins Cl dx fs')) T S env σ (m.1, sput m.2 a (.obj Cl gs')) := by
  obtain ⟨s, C, w, am, z⟩ := st
  obtain ⟨A, C1, B, rfl, ⟨dx', vs, rfl, _⟩, f⟩ := am.at e
  have w2 : Wd ((T ++ (S ++ A)) ++ ((a, .ins Cl dx' vs) :: ((dx', .own a) :: (B ++ c.R)))) G H := by simpa [List.append_assoc] using w
  have e3 := w2.mem (a := a) (o := .ins Cl dx' vs) (by simp)
  rw [hi] at e3
  cases e3
  exact ⟨s, A ++ ([(a, .ins Cl dx fs'), (dx, .own a)] ++ B), by simpa [List.append_assoc] using w2.putM (o' := .ins Cl dx fs'), f _ _ ⟨dx, fs', rfl, q0, q⟩, z⟩
/-- a thing more in the store -/
theorem Stx.storeN {C1 : List (Addr × HO)} (st : Stx c Γ G H (C1 ++ T) S env σ m) (q : Cell c.K G a d C1) : m.2 a = none ∧ Stx c Γ G H T S env σ (m.1, sput m.2 a d) := by
  obtain ⟨s, C, w, am, z⟩ := st
  have hn : m.2 a = none := by
    cases e : m.2 a with
    | none => rfl
    | some d' =>
      obtain ⟨A, C2, B, rfl, q2, _⟩ := am.at e
      obtain ⟨x, hx, e1⟩ := q.hd
      obtain ⟨y, hy, e2⟩ := q2.hd
      have w2 : Wd (C1 ++ (T ++ (S ++ (A ++ (C2 ++ B) ++ c.R)))) G H := by rw [List.append_assoc] at w; exact w
      exact absurd (List.mem_map.mpr ⟨y, by simp [hy], e2.trans e1.symm⟩) (wd_apart w2 hx)
  refine ⟨hn, ?_⟩
  obtain ⟨D1, D2, rfl, am, L, l, cs⟩ := am
  refine ⟨s, D1 ++ (C1 ++ D2), w.perm ?_, ⟨D1, C1 ++ D2, rfl, am, (a, d) :: L, fun b => ?_, .cons q cs⟩, z⟩
  · have h1 : (C1 ++ (T ++ (S ++ D1 ++ (D2 ++ c.R)))).Perm (T ++ (S ++ D1 ++ (C1 ++ (D2 ++ c.R)))) := by
      refine (List.perm_append_comm_assoc C1 T _).trans (List.Perm.append_left T ?_)
      exact List.perm_append_comm_assoc C1 (S ++ D1) _
    have := h1.symm
    simpa [List.append_assoc] using this
  · show sput m.2 a d b = _
    unfold sput
    rw [List.lookup_cons]
    by_cases z : b = a
    · subst z; rw [if_pos rfl, beq_self_eq_true]
    · rw [if_neg z, beq_eq_false_iff_ne.mpr z]; exact l b
/-- of one's own: into the store -/
def boxD : D → Mst → (D → Mst → Prop) → Prop
  | .lst ds, m, P => ∀ y, m.2 y = none → P (.adr y) (m.1, sput m.2 y (.lst ds))
  | .dic kds, m, P => ∀ y, m.2 y = none → P (.adr y) (m.1, sput m.2 y (.dic kds))
  | d, m, P => P d m
def vBox (ve : VE) : VE := fun env m P => ve env m fun d m1 => boxD d m1 P
theorem s_box {te : TE} {ve : VE} (h : SO c Γ te ve) : SF c Γ te (vBox ve) := fun T G H S env σ m P Q st hv k =>
  h T G H S env σ m _ _ st hv fun d m' v G' H' S1 p s st' q => by
    cases d with
    | lst ds =>
      obtain ⟨a, vs, rfl, rfl, q⟩ := q
      obtain ⟨hn, st2⟩ := Stx.storeN (d := .lst ds) st' ⟨vs, rfl, q⟩
      exact k _ _ _ G' H' (p a hn) s st2 (.adr a)
    | dic ds =>
      obtain ⟨a, vs, rfl, rfl, e, q⟩ := q
      obtain ⟨hn, st2⟩ := Stx.storeN (d := .dic ds) st' ⟨vs, rfl, e, q⟩
      exact k _ _ _ G' H' (p a hn) s st2 (.adr a)
    | _ => obtain ⟨rfl, q⟩ := q; exact k _ _ _ G' H' p s st' q
/-! what is looked at -/
theorem tp_look (st : Stx c Γ G H T S env σ m) (h : Tp c.K G H v d) : Tp c.K G H v (look m.2 d) := by
  cases d with
  | adr a =>
    obtain rfl : v = .ref a := by cases h with | dd h => exact dd_adr h
    show Tp c.K G H (.ref a) (lookS m.2 a)
    unfold lookS
    split
    · rename_i ds e; obtain ⟨vs, h1, h2⟩ := st.storedL e; exact .lst h1 h2
    · rename_i ds e; obtain ⟨vs, h1, h2, h3⟩ := st.storedD e; exact .dic h1 h2 h3
    · exact h
  | _ => exact h
theorem tps_look (st : Stx c Γ G H T S env σ m) {vs : List V} {ds : List D} (h : TpAll c.K G H vs ds) : TpAll c.K G H vs (ds.map (look m.2)) := by
  induction h with
  | nil => exact .nil
  | cons h _ ih => exact .cons (tp_look st h) ih
def vOpL (f : D → D → (D → Prop) → Prop) (va vb : VE) : VE := fun env m P => va env m fun x m1 => vb env m1 fun y m2 => f (look m2.2 x) (look m2.2 y) fun z => P z m2
def vUnL (f : D → (D → Prop) → Prop) (va : VE) : VE := fun env m P => va env m fun x m1 => f (look m1.2 x) fun z => P z m1
def vCBL (f : List D → (D → Prop) → Prop) (va : VA) : VE := fun env m P => va env m fun xs m1 => f (xs.map (look m1.2)) fun z => P z m1
def vBMtL (T : String) (f : D → List D → (D → Prop) → Prop) (ve : VE) (va : VA) : VE := fun env m P => ve env m fun x m1 => isTy T (look m1.2 x) = true ∧ va env m1 fun xs m2 => f (look m2.2 x) (xs.map (look m2.2)) fun z => P z m2
def vBM0L (T : String) (f : D → List D → (D → Prop) → Prop) (ve : VE) : VE := fun env m P => ve env m fun x m1 => isTy T (look m1.2 x) = true ∧ f (look m1.2 x) [] fun z => P z m1
def vTruL (ve : VE) : VT := fun env m P => ve env m fun x m1 => truD (look m1.2 x) P m1
def vSlL (f : D → Option Int → Option Int → (D → Prop) → Prop) (ve : VE) (vl vh : VO) : VE := fun env m P => ve env m fun x m1 => vl env m1 fun l m2 => vh env m2 fun h m3 => f (look m3.2 x) l h fun z => P z m3
theorem s_opL {r : R2} {f : D → D → (D → Prop) → Prop} {ta tb : TE} {va vb : VE} (o : OpV c.K r f) (ha : SB c Γ ta va) (hb : SB c Γ tb vb) : SO c Γ (tOp r ta tb) (vOpL f va vb) := fun T G H S env σ m P Q st hv k =>
  ha T G H S env σ m _ _ st hv fun x m1 v G1 H1 S1 p1 s1 st1 b1 => hb (S1 ++ T) G1 H1 S env σ m1 _ _ st1 p1 fun y m2 u G2 H2 S2 p2 s2 st2 b2 => by
    have t1 := tp_look st2 (bo_tp (T := S2 ++ (S1 ++ T)) st2 (bo_sub s2 (B := S2 ++ (S1 ++ T) ++ S) (fun x hx => by rcases List.mem_append.mp hx with q | q <;> simp [q]) b1))
    have t2 := tp_look st2 (bo_tp (T := S2 ++ (S1 ++ T)) st2 (bo_sub (Same.refl _) (B := S2 ++ (S1 ++ T) ++ S) (fun x hx => by rcases List.mem_append.mp hx with q | q <;> simp [q]) b2))
    refine o G2 H2 v u _ _ _ _ st2.v t1 t2 p2 fun z w H' pz n => ?_
    obtain ⟨G3, S3, s3, st3, q3⟩ := Nw.own (T := T) (by exact st2.dropT.dropT) n
    exact k z m2 w G3 H' S3 pz (s1.trans (s2.trans s3)) st3 q3
theorem s_opFL {r : R2} {f : D → D → (D → Prop) → Prop} {ta tb : TE} {va vb : VE} (o : OpF c.K r f) (ha : SB c Γ ta va) (hb : SB c Γ tb vb) : SF c Γ (tOp r ta tb) (vOpL f va vb) := fun T G H S env σ m P Q st hv k =>
  ha T G H S env σ m _ _ st hv fun x m1 v G1 H1 S1 p1 s1 st1 b1 => hb (S1 ++ T) G1 H1 S env σ m1 _ _ st1 p1 fun y m2 u G2 H2 S2 p2 s2 st2 b2 => by
    have t1 := tp_look st2 (bo_tp (T := S2 ++ (S1 ++ T)) st2 (bo_sub s2 (B := S2 ++ (S1 ++ T) ++ S) (fun x hx => by rcases List.mem_append.mp hx with q | q <;> simp [q]) b1))
    have t2 := tp_look st2 (bo_tp (T := S2 ++ (S1 ++ T)) st2 (bo_sub (Same.refl _) (B := S2 ++ (S1 ++ T) ++ S) (fun x hx => by rcases List.mem_append.mp hx with q | q <;> simp [q]) b2))
    refine o G2 H2 v u _ _ _ _ st2.v t1 t2 p2 fun z w pz n => ?_
    exact k z m2 w G2 H2 pz (s1.trans s2) st2.dropT.dropT n
theorem s_unL {r : V → Hp → VK → Prop} {f : D → (D → Prop) → Prop} {ta : TE} {va : VE} (o : UnV c.K r f) (ha : SB c Γ ta va) : SO c Γ (tUn r ta) (vUnL f va) := fun T G H S env σ m P Q st hv k =>
  ha.tp st hv fun x m1 v G1 H1 S1 p1 s1 st1 t1 => by
    refine o G1 H1 v _ _ _ st1.v (tp_look st1 t1) p1 fun z w H' pz n => ?_
    obtain ⟨G3, S3, s3, st3, q3⟩ := Nw.own (T := T) st1.dropT n
    exact k z m1 w G3 H' S3 pz (s1.trans s3) st3 q3
theorem s_cbL {r : List V → Hp → VK → Prop} {f : List D → (D → Prop) → Prop} {ta : TA} {va : VA} (o : ClV c.K r f) (ha : SA c Γ ta va) : SO c Γ (tCB r ta) (vCBL f va) := fun T G H S env σ m P Q st hv k =>
  ha T G H S env σ m _ _ st hv fun x m1 v G1 H1 S1 p1 s1 st1 b1 => by
    have t1 := tps_look st1 (BoAll.tp (T := S1 ++ T) st1 (b1.mono (Same.refl _) (B := S1 ++ T ++ S) (fun x hx => by rcases List.mem_append.mp hx with q | q <;> simp [q])))
    refine o G1 H1 v _ _ _ st1.v t1 p1 fun z w H' pz n => ?_
    obtain ⟨G3, S3, s3, st3, q3⟩ := Nw.own (T := T) st1.dropT n
    exact k z m1 w G3 H' S3 pz (s1.trans s3) st3 q3
theorem s_bmL {T : String} {r : V → List V → Hp → VK → Prop} {f : D → List D → (D → Prop) → Prop} {te : TE} {ve : VE} {ta : TA} {va : VA} (o : MtV c.K T r f) (he : SB c Γ te ve) (ha : SA c Γ ta va) : SO c Γ (tBM c.K T r te ta) (vBMtL T f ve va) := fun T' G H S env σ m P Q st hv k =>
  he T' G H S env σ m _ _ st hv fun x m1 v G1 H1 S1 p1 s1 st1 b1 => by
    have t0 := tp_look st1 (bo_tp (T := S1 ++ T') st1 (bo_sub (Same.refl _) (B := S1 ++ T' ++ S) (fun x hx => by rcases List.mem_append.mp hx with q | q <;> simp [q]) b1))
    refine ⟨tp_ty st1.v t0 p1.1, ha (S1 ++ T') G1 H1 S env σ m1 _ _ st1 p1.2 fun xs m2 vs G2 H2 S2 p2 s2 st2 b2 => ?_⟩
    have t1 := tp_look st2 (bo_tp (T := S2 ++ (S1 ++ T')) st2 (bo_sub s2 (B := S2 ++ (S1 ++ T') ++ S) (fun x hx => by rcases List.mem_append.mp hx with q | q <;> simp [q]) b1))
    have t2 := tps_look st2 (BoAll.tp (T := S2 ++ (S1 ++ T')) st2 (b2.mono (Same.refl _) (B := S2 ++ (S1 ++ T') ++ S) (fun x hx => by rcases List.mem_append.mp hx with q | q <;> simp [q])))
    refine o G2 H2 v _ vs _ _ _ st2.v t1 t2 p2 fun z w H' pz n => ?_
    obtain ⟨G3, S3, s3, st3, q3⟩ := Nw.own (T := T') st2.dropT.dropT n
    exact k z m2 w G3 H' S3 pz (s1.trans (s2.trans s3)) st3 q3
theorem s_bm0L {T : String} {r : V → List V → Hp → VK → Prop} {f : D → List D → (D → Prop) → Prop} {te : TE} {ve : VE} (o : MtV c.K T r f) (he : SB c Γ te ve) : SO c Γ (tBM0 c.K T r te) (vBM0L T f ve) := fun T' G H S env σ m P Q st hv k =>
  he.tp st hv fun x m1 v G1 H1 S1 p1 s1 st1 t1 => by
    have t0 := tp_look st1 t1
    refine ⟨tp_ty st1.v t0 p1.1, ?_⟩
    refine o G1 H1 v _ [] [] _ _ st1.v t0 .nil p1.2 fun z w H' pz n => ?_
    obtain ⟨G3, S3, s3, st3, q3⟩ := Nw.own (T := T') st1.dropT n
    exact k z m1 w G3 H' S3 pz (s1.trans s3) st3 q3
theorem tru_tp (st : Stx c Γ G H T S env σ m) (t1 : Tp c.K G H v d) {P : Bool → Mst → Prop} {Q : Bool → Prop} (p1 : truD d P m) (k : ∀ b, P b m → Q b) : ∃ b, TruV c.K v H b ∧ Q b := by
  have sv := st.v
  have em : ∀ {vs : List V} {ds : List D} {G : Hp}, DdAll c.K G vs ds → vs.isEmpty = ds.isEmpty := fun h => by cases h <;> rfl
  cases d with
  | non => cases t1 with | dd h => cases h; exact ⟨false, rfl, k _ p1⟩
  | bl b => cases t1 with | dd h => cases h; exact ⟨b, rfl, k _ p1⟩
  | int b => cases t1 with | dd h => cases h; exact ⟨_, rfl, k _ p1⟩
  | str b => cases t1 with | dd h => cases h; exact ⟨_, ⟨p1.1, rfl⟩, k _ p1.2⟩
  | lst ds =>
    obtain ⟨a, vs, rfl, h1, h2⟩ := t1.l sv
    exact ⟨_, .inl ⟨vs, SqL.of h1, rfl⟩, by rw [em h2]; exact k _ p1⟩
  | tup ds =>
    obtain ⟨a, vs, rfl, _, h1, h2⟩ := t1.t sv
    exact ⟨_, .inr (.inl ⟨vs, h1, rfl⟩), by rw [em h2]; exact k _ p1⟩
  | dic kds =>
    obtain ⟨a, kvs, rfl, h1, e, h2⟩ := t1.dk sv
    have ek : kvs.isEmpty = kds.isEmpty := by
      cases kvs <;> cases kds <;> first | rfl | simp at e
    exact ⟨_, .inr (.inr ⟨kvs, h1, rfl⟩), by rw [ek]; exact k _ p1⟩
  | _ => exact p1.elim
theorem s_truL {ta : TE} {va : VE} (ha : SB c Γ ta va) : ST c Γ (tTru c.K ta) (vTruL va) := fun T G H S env σ m P Q st hv k =>
  ha.tp st hv fun x m1 v G1 H1 S1 p1 s1 st1 t1 => tru_tp st1 (tp_look st1 t1) p1 fun b pb => k b m1 G1 H1 S1 pb s1 st1
theorem s_slL {r : V → Option Int → Option Int → Hp → VK → Prop} {f : D → Option Int → Option Int → (D → Prop) → Prop} {te : TE} {ve : VE} {tl th : TO} {vl vh : VO} (o : SlV c.K r f) (he : SB c Γ te ve) (hl : SP c Γ tl vl) (hh : SP c Γ th vh) : SO c Γ (tSl r te tl th) (vSlL f ve vl vh) := fun T G H S env σ m P Q st hv k =>
  he T G H S env σ m _ _ st hv fun x m1 v G1 H1 S1 p1 s1 st1 b1 => hl (S1 ++ T) G1 H1 S env σ m1 _ _ st1 p1 fun lo m2 G2 H2 S2 p2 s2 st2 => hh (S2 ++ (S1 ++ T)) G2 H2 S env σ m2 _ _ st2 p2 fun hi m3 G3 H3 S3 p3 s3 st3 => by
    have t1 := tp_look st3 (bo_tp (T := S3 ++ (S2 ++ (S1 ++ T))) st3 (bo_sub (s2.trans s3) (B := S3 ++ (S2 ++ (S1 ++ T)) ++ S) (fun x hx => by rcases List.mem_append.mp hx with q | q <;> simp [q]) b1))
    refine o G3 H3 v _ lo hi _ _ st3.v t1 p3 fun z w H' pz n => ?_
    obtain ⟨G4, S4, s4, st4, q4⟩ := Nw.own (T := T) st3.dropT.dropT.dropT n
    exact k z m3 w G4 H' S4 pz (s1.trans (s2.trans (s3.trans s4))) st4 q4
/-! fields -/
def vFld (C : Addr) (f : Str) (ve : VE) : VE := fun env m P => ve env m fun x m1 => ∃ a fs d, x = .adr a ∧ m1.2 a = some (.obj C fs) ∧ fs.lookup f = some d ∧ P d m1
theorem s_fld {C : Addr} {f : Str} {fl : List Str} {te : TE} {ve : VE} (k : ClsK c.K C fl) (hf : f ∈ fl) (he : SF c Γ te ve) : SF c Γ (tFld c.K te f) (vFld C f ve) := fun T G H S env σ m P Q st hv kk =>
  he T G H S env σ m _ _ st hv fun x m1 v G1 H1 p1 s1 st1 q1 => by
    obtain ⟨a, gs, d, rfl, e, hl, p⟩ := p1
    obtain rfl := dd_adr q1
    obtain ⟨dx, fs, h1, h2, e1, q⟩ := st1.storedO e
    obtain ⟨u, hu, hd⟩ := lookup_d e1 q hl
    exact ⟨a, C, dx, fs, u, rfl, h1, k.1, k.2 f hf, hu, kk d m1 u G1 H1 p s1 st1 hd⟩
def dputF (f : Str) (d : D) : List (Str × D) → List (Str × D)
  | [] => [(f, d)]
  | (g, e) :: r => if g = f then (g, d) :: r else (g, e) :: dputF f d r
theorem putF_fst {f : Str} {v : V} {d : D} : ∀ {fs : List (Str × V)} {gs : List (Str × D)}, fs.map Prod.fst = gs.map Prod.fst → (putF f v fs).map Prod.fst = (dputF f d gs).map Prod.fst
  | [], [], _ => rfl
  | [], _ :: _, h => by simp at h
  | _ :: _, [], h => by simp at h
  | (x, y) :: fs, (x', y') :: gs, h => by
    rw [List.map_cons, List.map_cons] at h
    obtain ⟨h1, h2⟩ := List.cons.inj h
    have h1 : x = x' := h1
    subst h1
    unfold putF dputF
    by_cases z : x = f
    · rw [if_pos z, if_pos z, List.map_cons, List.map_cons, h2]
    · rw [if_neg z, if_neg z, List.map_cons, List.map_cons, putF_fst h2]
theorem putF_snd {f : Str} {v : V} {d : D} (hd : Dd K G v d) : ∀ {fs : List (Str × V)} {gs : List (Str × D)}, fs.map Prod.fst = gs.map Prod.fst → DdAll K G (fs.map Prod.snd) (gs.map Prod.snd) → DdAll K G ((putF f v fs).map Prod.snd) ((dputF f d gs).map Prod.snd)
  | [], [], _, _ => .one hd
  | [], _ :: _, h, _ => by simp at h
  | _ :: _, [], h, _ => by simp at h
  | (x, y) :: fs, (x', y') :: gs, h, q => by
    rw [List.map_cons, List.map_cons] at h q
    obtain ⟨h1, h2⟩ := List.cons.inj h
    have h1 : x = x' := h1
    subst h1
    cases q with
    | cons q1 q2 =>
      unfold putF dputF
      by_cases z : x = f
      · rw [if_pos z, if_pos z, List.map_cons, List.map_cons]; exact .cons hd q2
      · rw [if_neg z, if_neg z, List.map_cons, List.map_cons]; exact .cons q1 (putF_snd hd h2 q2)
/-- o.f = e -/
def vSetF (C : Addr) (f : Str) (vo ve : VE) : VS := fun V env m => ve env m fun d m1 => vo env m1 fun x m2 => ∃ a fs, x = .adr a ∧ m2.2 a = some (.obj C fs) ∧ fs.length < 1000 ∧ V.nx env (m2.1, sput m2.2 a (.obj C (dputF f d fs)))
theorem x_setF {C : Addr} {f : Str} {fl : List Str} {to te : TE} {vo ve : VE} (k : ClsK c.K C fl) (hf : f ∈ fl) (ho : SF c Γ to vo) (he : SF c Γ te ve) : SS c t Γ Γ Γb Γc (sFld c.K to te f) (vSetF C f vo ve) := fun G H S env σ m De Ve e st hv =>
  he [] G H S env σ m _ _ st hv fun d m1 u G1 H1 p1 s1 st1 q1 => ho [] G1 H1 S env σ m1 _ _ st1 p1 fun x m2 v G2 H2 p2 s2 st2 q2 => by
    obtain ⟨a, gs, rfl, ea, hz, p⟩ := p2
    obtain rfl := dd_adr q2
    obtain ⟨dx, fs, h1, h2, e1, q⟩ := st2.storedO ea
    have el : fs.length = gs.length := by simpa using congrArg List.length e1
    exact ⟨a, C, dx, fs, rfl, h1, k.1, k.2 f hf, by rw [el]; exact hz, e.nx G2 _ S env σ _ (s1.trans s2) (st2.setO ea h1 (putF_fst e1) (putF_snd (q1.mono s2) e1 q)) p⟩
/-- o.f op= e of numbers and the like -/
def vAugF (C : Addr) (f : Str) (g : D → D → (D → Prop) → Prop) (vo ve : VE) : VS := fun V env m => vo env m fun x m1 => ∃ a fs x0, x = .adr a ∧ m1.2 a = some (.obj C fs) ∧ fs.lookup f = some x0 ∧ ve env m1 fun y m2 => g x0 y fun z => ∃ fs', m2.2 a = some (.obj C fs') ∧ fs'.length < 1000 ∧ V.nx env (m2.1, sput m2.2 a (.obj C (dputF f z fs')))
theorem x_augF {C : Addr} {f : Str} {fl : List Str} {r : R2} {g : D → D → (D → Prop) → Prop} {to te : TE} {vo ve : VE} (k : ClsK c.K C fl) (hf : f ∈ fl) (o : OpV c.K r g) (ho : SF c Γ to vo) (he : SF c Γ te ve) : SS c t Γ Γ Γb Γc (sFldAug c.K to te r f) (vAugF C f g vo ve) := fun G H S env σ m De Ve e st hv =>
  ho [] G H S env σ m _ _ st hv fun x m1 v G1 H1 p1 s1 st1 q1 => by
    obtain ⟨a, gs, x0, rfl, ea, hl, p⟩ := p1
    obtain rfl := dd_adr q1
    obtain ⟨dx, fs, h1, h2, e1, q⟩ := st1.storedO ea
    obtain ⟨u, hu, hd⟩ := lookup_d e1 q hl
    refine ⟨a, C, dx, fs, u, rfl, h1, k.1, k.2 f hf, hu, he [] G1 H1 S env σ m1 _ _ st1 p fun y m2 w G2 H2 p2 s2 st2 q2 => ?_⟩
    refine o G2 H2 u w x0 y _ _ st2.v (.dd (hd.mono s2)) (.dd q2) p2 fun z w H' pz n => ?_
    obtain ⟨G3, S3, s3, st3, q3⟩ := Nw.own (T := []) st2 n
    obtain ⟨G4, s4, st4, q4⟩ := Stx.freeze (t := .O) st3 q3
    obtain ⟨gs', ea', hz, p⟩ := pz
    obtain ⟨dx', fs', h1', h2', e1', q'⟩ := st4.storedO ea'
    have el : fs'.length = gs'.length := by simpa using congrArg List.length e1'
    exact ⟨dx', fs', h1', by rw [el]; exact hz, e.nx G4 _ S env σ _ (s1.trans (s2.trans (s3.trans s4))) (st4.setO ea' h1' (putF_fst e1') (putF_snd q4 e1' q')) p⟩
/-! methods and makings -/
def vMeth (C : Addr) (mn : Str) (vsp : VSp) (VW : XW) (ve : VE) (va : VA) : VE := fun env m P => ve env m fun x m1 => ∃ a fs, x = .adr a ∧ m1.2 a = some (.obj C fs) ∧ fs.lookup mn = none ∧ va env m1 fun ds m2 => vsp (.adr a :: ds) m2 P fun Cx fx m3 => VW Cx fx env m3
theorem lookup_no {f : Str} : ∀ {xs : List (Str × V)} {fs : List (Str × D)}, xs.map Prod.fst = fs.map Prod.fst → fs.lookup f = none → xs.lookup f = none
  | [], [], _, _ => rfl
  | [], _ :: _, e, _ => by simp at e
  | _ :: _, [], e, _ => by simp at e
  | (x1, x2) :: xs, (y1, y2) :: fs, e, h => by
    rw [List.map_cons, List.map_cons] at e
    obtain ⟨h1, h2⟩ := List.cons.inj e
    obtain rfl : x1 = y1 := h1
    rw [List.lookup_cons] at h ⊢
    by_cases z : (f == x1) = true
    · rw [z] at h; cases h
    · rw [Bool.not_eq_true] at z
      rw [z] at h ⊢
      exact lookup_no h2 h
theorem s_methF {C : Addr} {mn : Str} {vsp : VSp} {W : WX} {VW : XW} {te : TE} {ve : VE} {ta : TA} {va : VA} (hx : ExOk c Γ W VW) (he : SF c Γ te ve) (ha : SG c Γ ta va) : SF c Γ (tMethQ C mn (spV c.K .F vsp) (WE W) te ta) (vMeth C mn vsp VW ve va) := fun T G H S env σ m P Q st hv k =>
  he T G H S env σ m _ _ st hv fun x m1 v G1 H1 p1 s1 st1 q1 => by
    obtain ⟨a, gs, rfl, ea, hl, p⟩ := p1
    obtain rfl := dd_adr q1
    obtain ⟨dx, fs, h1, h2, e1, q⟩ := st1.storedO ea
    refine ⟨a, dx, fs, rfl, h1, lookup_no e1 hl, ha T G1 H1 S env σ m1 _ _ st1 p fun ds m2 vs G2 H2 p2 s2 st2 b2 => ?_⟩
    exact run_spV st2 (.cons (.adr a) b2) p2 (fun d m' v G' H' S1 p s st' o => by
      obtain ⟨rfl, o⟩ := o
      exact k d m' v G' H' p (s1.trans (s2.trans s)) st' o) fun C fs m' dd G' H' h s st' o => hx G' H' S env σ m' C fs dd st'.drop o h
theorem s_methO {C : Addr} {mn : Str} {vsp : VSp} {W : WX} {VW : XW} {te : TE} {ve : VE} {ta : TA} {va : VA} (hx : ExOk c Γ W VW) (he : SF c Γ te ve) (ha : SG c Γ ta va) : SO c Γ (tMethQ C mn (spV c.K .O vsp) (WE W) te ta) (vMeth C mn vsp VW ve va) := fun T G H S env σ m P Q st hv k =>
  he T G H S env σ m _ _ st hv fun x m1 v G1 H1 p1 s1 st1 q1 => by
    obtain ⟨a, gs, rfl, ea, hl, p⟩ := p1
    obtain rfl := dd_adr q1
    obtain ⟨dx, fs, h1, h2, e1, q⟩ := st1.storedO ea
    refine ⟨a, dx, fs, rfl, h1, lookup_no e1 hl, ha T G1 H1 S env σ m1 _ _ st1 p fun ds m2 vs G2 H2 p2 s2 st2 b2 => ?_⟩
    exact run_spV st2 (.cons (.adr a) b2) p2 (fun d m' v G' H' S1 p s st' o => k d m' v G' H' S1 p (s1.trans (s2.trans s)) st' o) fun C fs m' dd G' H' h s st' o => hx G' H' S env σ m' C fs dd st'.drop o h
def vMake (C : Addr) (vsp : VSp) (VW : XW) (va : VA) : VE := fun env m P => va env m fun ds m1 => ∀ y, m1.2 y = none → vsp (.adr y :: ds) (m1.1, sput m1.2 y (.obj C [])) (fun d m2 => d = .non ∧ P (.adr y) m2) fun Cx fx m3 => VW Cx fx env m3
theorem s_make {C : Addr} {vsp : VSp} {t : OT} {W : WX} {VW : XW} {ta : TA} {va : VA} (hx : ExOk c Γ W VW) (ha : SG c Γ ta va) : SF c Γ (tMakeQ C (spV c.K t vsp) (WE W) ta) (vMake C vsp VW va) := fun T G H S env σ m P Q st hv k =>
  ha T G H S env σ m _ _ st hv fun ds m1 vs G1 H1 p1 s1 st1 b1 => fun x dx hx0 hd0 ne => by
    have st2 : Stx c Γ G1 (upd H1 dx (.own x)) ((dx, .own x) :: T) S env σ m1 := st1.new hd0
    have st3 : Stx c Γ G1 (upd (upd H1 dx (.own x)) x (.ins C dx [])) ((x, .ins C dx []) :: (dx, .own x) :: T) S env σ m1 := st2.new (by rw [upd_ne (Ne.symm ne)]; exact hx0)
    obtain ⟨hn, st4⟩ := Stx.storeN (C1 := [(x, .ins C dx []), (dx, .own x)]) (d := .obj C []) (T := T) st3 ⟨dx, [], rfl, rfl, .nil⟩
    refine run_spV st4 (.cons (.adr x) b1) (p1 x hn) (fun d m' v G' H' S1 p s st' o => ?_) fun C fs m' dd G' H' h s st' o => hx G' H' S env σ m' C fs dd st'.drop o h
    obtain ⟨rfl, p⟩ := p
    have hv : v = .non := by
      cases t with
      | F => obtain ⟨_, o⟩ := o; cases o; rfl
      | O => obtain ⟨_, o⟩ := o; cases o; rfl
    exact ⟨hv, k _ m' _ G' H' p (s1.trans s) st'.dropT (.adr x)⟩
/-! methods of a stored list or dict that change it -/
def vMutS (f : List D → List D → (List D → D → Prop) → Prop) (ve : VE) (va : VA) : VS := fun V env m => ve env m fun x m1 => ∃ a ds0, x = .adr a ∧ m1.2 a = some (.lst ds0) ∧ va env m1 fun xs m2 => ∃ ds, m2.2 a = some (.lst ds) ∧ f ds (xs.map (look m2.2)) fun ds' z => V.nx env (m2.1, sput m2.2 a (.lst ds'))
theorem x_mutS {r : V → List V → Hp → VK → Prop} {f : List D → List D → (List D → D → Prop) → Prop} {te : TE} {ve : VE} {ta : TA} {va : VA} (o : MuV c.K r f) (he : SF c Γ te ve) (ha : SA c Γ ta va) : SS c t Γ Γ Γb Γc (tDrop (tBM c.K "list" r te ta)) (vMutS f ve va) := fun G H S env σ m De Ve e st hv =>
  he [] G H S env σ m _ _ st hv fun x m1 v G1 H1 p1 s1 st1 q1 => by
    obtain ⟨a, ds0, rfl, ea, p⟩ := p1
    obtain rfl := dd_adr q1
    obtain ⟨vs0, h0, _⟩ := st1.storedL ea
    refine ⟨.inl ⟨rfl, vs0, SqL.of h0⟩, ha [] G1 H1 S env σ m1 _ _ st1 p fun xs m2 us G2 H2 S2 p2 s2 st2 b2 => ?_⟩
    obtain ⟨ds, ea2, p2⟩ := p2
    obtain ⟨vs, h1, q⟩ := st2.storedL ea2
    have t2 := tps_look st2 (BoAll.tp (T := S2 ++ []) st2 (b2.mono (Same.refl _) (B := S2 ++ [] ++ S) (fun x hx => by rcases List.mem_append.mp hx with q | q <;> simp [q])))
    refine o G2 H2 a vs ds us _ _ _ st2.v h1 q t2 p2 fun ds' z vs2 u pz q2 => ?_
    exact e.nx G2 _ S env σ _ (s1.trans s2) (st2.drop.setL ea2 q2) pz
theorem x_mutS0 {r : V → List V → Hp → VK → Prop} {f : List D → List D → (List D → D → Prop) → Prop} {te : TE} {ve : VE} (o : MuV c.K r f) (he : SF c Γ te ve) : SS c t Γ Γ Γb Γc (tDrop (tBM0 c.K "list" r te)) (vMutS f ve vNil) := fun G H S env σ m De Ve e st hv =>
  he [] G H S env σ m _ _ st hv fun x m1 v G1 H1 p1 s1 st1 q1 => by
    obtain ⟨a, ds0, rfl, ea, ds, ea2, p2⟩ := p1
    obtain rfl := dd_adr q1
    obtain ⟨vs, h1, q⟩ := st1.storedL ea2
    refine ⟨.inl ⟨rfl, vs, SqL.of h1⟩, ?_⟩
    refine o G1 H1 a vs ds [] [] _ _ st1.v h1 q .nil p2 fun ds' z vs2 u pz q2 => ?_
    exact e.nx G1 _ S env σ _ s1 (st1.setL ea2 q2) pz
def vAppS (ve vx : VE) : VS := fun V env m => ve env m fun x m1 => ∃ a ds0, x = .adr a ∧ m1.2 a = some (.lst ds0) ∧ vx env m1 fun d m2 => ∃ ds, m2.2 a = some (.lst ds) ∧ ds.length < sizeLine ∧ V.nx env (m2.1, sput m2.2 a (.lst (ds ++ [d])))
theorem x_appS {te tx : TE} {ve vx : VE} (he : SF c Γ te ve) (hx : SF c Γ tx vx) : SS c t Γ Γ Γb Γc (tDrop (tBM c.K "list" rAppend te (tCons tx tNil))) (vAppS ve vx) := fun G H S env σ m De Ve e st hv =>
  he [] G H S env σ m _ _ st hv fun x m1 v G1 H1 p1 s1 st1 q1 => by
    obtain ⟨a, ds0, rfl, ea, p⟩ := p1
    obtain rfl := dd_adr q1
    obtain ⟨vs0, h0, _⟩ := st1.storedL ea
    refine ⟨.inl ⟨rfl, vs0, SqL.of h0⟩, hx [] G1 H1 S env σ m1 _ _ st1 p fun d m2 u G2 H2 p2 s2 st2 q2 => ?_⟩
    obtain ⟨ds, ea2, hz, p2⟩ := p2
    obtain ⟨vs, h1, q⟩ := st2.storedL ea2
    exact ⟨a, vs, u, rfl, rfl, h1, by rw [q.len]; exact hz, e.nx G2 _ S env σ _ (s1.trans s2) (st2.setL ea2 (q.app (.one q2))) p2⟩
/-- e[k] = d of a stored list or dict -/
def vPutS (vo ve vk : VE) : VS := fun V env m => ve env m fun d m1 => vo env m1 fun x m2 => ∃ a, x = .adr a ∧ vk env m2 fun y m3 => (∃ ds k j, m3.2 a = some (.lst ds) ∧ y = .int k ∧ ixN ds.length k = some j ∧ V.nx env (m3.1, sput m3.2 a (.lst (ds.set j d)))) ∨
  ∃ kds k, m3.2 a = some (.dic kds) ∧ dKey y = some k ∧ kds.length < sizeLine ∧ V.nx env (m3.1, sput m3.2 a (.dic (dput kds k d)))
theorem x_putS {to te tk : TE} {vo ve vk : VE} (ho : SF c Γ to vo) (h : SF c Γ te ve) (hk : SF c Γ tk vk) : SS c t Γ Γ Γb Γc (tAsg te (gSub to tk rSetU)) (vPutS vo ve vk) := fun G H S env σ m De Ve e st hv =>
  h [] G H S env σ m _ _ st hv fun d m1 u G1 H1 p1 s1 st1 q1 => ho [] G1 H1 S env σ m1 _ _ st1 p1 fun x m2 v G2 H2 p2 s2 st2 q2 => by
    obtain ⟨a, rfl, p⟩ := p2
    obtain rfl := dd_adr q2
    refine hk [] G2 H2 S env σ m2 _ _ st2 p fun y m3 w G3 H3 p3 s3 st3 q3 => ?_
    have q1' := q1.mono (s2.trans s3)
    rcases p3 with ⟨ds, k, j, ea, rfl, hj, p3⟩ | ⟨kds, k, ea, ek, hz, p3⟩
    · obtain ⟨vs, h1, q⟩ := st3.storedL ea
      obtain rfl := q3.intInv
      exact .inl ⟨a, vs, k, j, rfl, rfl, h1, by rw [q.len]; exact hj, e.nx G3 _ S env σ _ (s1.trans (s2.trans s3)) (st3.setL ea (q.set j q1')) p3⟩
    · obtain ⟨kvs, h1, e1, q⟩ := st3.storedD ea
      obtain rfl := kV_of (.dd q3 : Tp c.K G3 H3 w y) ek
      have el : kvs.length = kds.length := by simpa using congrArg List.length e1
      exact .inr ⟨a, _, rfl, DPut.k (k := k) h1 (by rw [el]; exact hz), e.nx G3 _ S env σ _ (s1.trans (s2.trans s3)) (st3.setD ea (put_fst e1) (put_snd q1' e1 q)) p3⟩
end
end Ps

/-! WaU: walks over what is in the store; what is taken out of it. -/
namespace Ps
open PySem PySem.Spec PyProof.Rows L2
abbrev VAB := Env → Mst → (List D → List (Addr × D) → Mst → Prop) → Prop
def LiveI (K : PySem.W.Frag) (G0 : Hp) (bs : List (Addr × D)) (H : Hp) : Prop := ∃ G, Same G0 G ∧ Same G H ∧ ∀ p ∈ bs, Tp K G H (.ref p.1) p.2
def LiveY (K : PySem.W.Frag) (G0 : Hp) (bs : List (Addr × D)) (ds : List D) : Nat → Hp → V → Hp → Prop := fun i H x H' => ∀ G, Same G0 G → Same G H → (∀ p ∈ bs, Tp K G H (.ref p.1) p.2) → YD K G ds i H x H'
def SIB (c : JC) (Γ : List OT) (wi : TI) (vi : VAB) : Prop := ∀ (T : List (Addr × HO)) (G H : Hp) (S : List (Addr × HO)) (env : Env) (σ : L2.St) (m : Mst) (P : List D → List (Addr × D) → Mst → Prop) (R : It → Hp → Prop), Stx c Γ G H T S env σ m → vi env m P →
  (∀ ds bs m' J G' H', P ds bs m' → Same G G' → Stx c Γ G' H' T S env σ m' → Walk J ds.length (LiveI c.K G' bs) (LiveY c.K G' bs ds) → R J H') → wi σ H R
section
variable {c : JC} {K : PySem.W.Frag} {Γ Γ1 Γn Γb Γc : List OT} {G G0 G' H H' : Hp} {T S S1 S2 R C : List (Addr × HO)} {env : Env} {σ : L2.St} {m : Mst} {v : V} {d : D} {t : OT} {i j : Nat} {a b : Addr} {is : List Nat} {bs cs : List (Addr × D)} {ds es : List D}
def HasL (K : PySem.W.Frag) (G0 : Hp) (bs : List (Addr × D)) (a : Addr) (ds : List D) : Prop := ∀ G H, Same G0 G → Same G H → (∀ p ∈ bs, Tp K G H (.ref p.1) p.2) → Tp K G H (.ref a) (.lst ds)
theorem HasL.live (h : HasL K G0 bs a ds) (l : LiveI K G0 bs H) : ∃ vs G, H a = some (.lst vs) ∧ DdAll K G vs ds := by
  obtain ⟨G, s1, s2, q⟩ := l
  obtain ⟨a', vs, e, h1, h2⟩ := (h G H s1 s2 q).l s2
  cases e
  exact ⟨vs, G, h1, h2⟩
theorem HasL.at {vs : List V} (h : HasL K G0 bs a ds) (s1 : Same G0 G) (s2 : Same G H) (q : ∀ p ∈ bs, Tp K G H (.ref p.1) p.2) (e : H a = some (.lst vs)) : DdAll K G vs ds := by
  obtain ⟨a', vs', e', h1, h2⟩ := (h G H s1 s2 q).l s2
  cases e'
  rw [e] at h1; cases h1
  exact h2
theorem HasL.frz (h : G0 a = some (.lst vs)) (q : DdAll K G0 vs ds) : HasL K G0 [] a ds := fun G H s1 s2 _ => .dd (.lst (s1 _ _ h) (q.mono s1))
theorem HasL.box : HasL K G0 [(a, .lst ds)] a ds := fun G H s1 s2 q => q _ List.mem_cons_self
theorem HasL.l (h : HasL K G0 bs a ds) : HasL K G0 (bs ++ cs) a ds := fun G H s1 s2 q => h G H s1 s2 fun p hp => q p (List.mem_append_left _ hp)
theorem HasL.r (h : HasL K G0 cs a ds) : HasL K G0 (bs ++ cs) a ds := fun G H s1 s2 q => h G H s1 s2 fun p hp => q p (List.mem_append_right _ hp)
theorem walk_l (h : HasL K G0 bs a ds) : Walk (Itl K a) ds.length (LiveI K G0 bs) (LiveY K G0 bs ds) := by
  refine ⟨fun i H hi l => ?_, fun H l => ?_, fun i H x H' hi l y G s1 s2 q => ?_⟩
  · obtain ⟨vs, G, e, q⟩ := h.live l
    exact ⟨vs, vs[i]'(by rw [q.len]; exact hi), SqL.of e, by simp [q.len, hi]⟩
  · obtain ⟨vs, G, e, q⟩ := h.live l
    exact ⟨vs, SqL.of e, by rw [q.len]; exact Nat.le_refl _⟩
  · obtain ⟨vs, G1, e, _⟩ := h.live l
    have q1 := h.at s1 s2 q e
    obtain ⟨d, e1, e2⟩ := q1.getV (y.2 vs (SqL.of e))
    exact ⟨d, e1, .inl ⟨y.1, e2⟩⟩
theorem walk_e (h : HasL K G0 bs a ds) : Walk (Ite K a) (enumD ds).length (LiveI K G0 bs) (LiveY K G0 bs (enumD ds)) := by
  rw [enumD_len]
  refine ⟨fun i H hi l => ?_, fun H l => ?_, fun i H x H' hi l y G s1 s2 q => ?_⟩
  · obtain ⟨vs, G, e, q⟩ := h.live l
    exact ⟨vs, vs[i]'(by rw [q.len]; exact hi), SqL.of e, by simp [q.len, hi]⟩
  · obtain ⟨vs, G, e, q⟩ := h.live l
    exact ⟨vs, SqL.of e, by rw [q.len]; exact Nat.le_refl _⟩
  · obtain ⟨vs, G1, e, _⟩ := h.live l
    have q1 := h.at s1 s2 q e
    obtain ⟨T, x1, e1, e2, e3, e4⟩ := y
    exact yenum_d q1 ⟨T, _, x1, e1, e2, e3, rfl, e4 vs (SqL.of e)⟩
theorem walk_z (h1 : HasL K G0 bs a ds) (h2 : HasL K G0 bs b es) : Walk (Itz K a b) (zipD ds es).length (LiveI K G0 bs) (LiveY K G0 bs (zipD ds es)) := by
  rw [zipD_len]
  refine ⟨fun i H hi l => ?_, fun H l => ?_, fun i H x H' hi l y G s1 s2 q => ?_⟩
  · obtain ⟨vs, G, e, q⟩ := h1.live l
    obtain ⟨us, G', e', q'⟩ := h2.live l
    exact ⟨vs, us, vs[i]'(by rw [q.len]; omega), us[i]'(by rw [q'.len]; omega), SqL.of e, SqL.of e', by simp [q.len, show i < ds.length by omega], by simp [q'.len, show i < es.length by omega]⟩
  · obtain ⟨vs, G, e, q⟩ := h1.live l
    obtain ⟨us, G', e', q'⟩ := h2.live l
    exact ⟨vs, us, SqL.of e, SqL.of e', by rw [q.len, q'.len]; omega⟩
  · obtain ⟨vs, G1, e, _⟩ := h1.live l
    obtain ⟨us, G2, e', _⟩ := h2.live l
    have q1 := h1.at s1 s2 q e
    have q2 := h2.at s1 s2 q e'
    obtain ⟨T, x1, y1, e1, e2, e3, e4, e5⟩ := y
    exact ypair_d q1 q2 ⟨T, x1, y1, e1, e2, e3, e4 vs (SqL.of e), e5 us (SqL.of e')⟩
theorem walk_r (h : HasL K G0 bs a ds) : Walk (Itv K a ds.length) ds.reverse.length (LiveI K G0 bs) (LiveY K G0 bs ds.reverse) := by
  rw [List.length_reverse]
  refine ⟨fun i H hi l => ?_, fun H l => Nat.le_refl _, fun i H x H' hi l y G s1 s2 q => ?_⟩
  · obtain ⟨vs, G, e, q⟩ := h.live l
    exact ⟨hi, vs, vs[ds.length - 1 - i]'(by rw [q.len]; omega), SqL.of e, by simp [q.len, show ds.length - 1 - i < ds.length by omega]⟩
  · obtain ⟨vs, G1, e, _⟩ := h.live l
    have q1 := h.at s1 s2 q e
    refine yrev_d q1 (by rw [q1.len]; exact hi) ⟨y.1, ?_⟩
    rw [q1.len]
    exact y.2 vs (SqL.of e)
def itSeqB : D → (List D → List (Addr × D) → Mst → Prop) → Mst → Prop
  | .adr a, P, m => ∃ ds, m.2 a = some (.lst ds) ∧ P ds [(a, .lst ds)] m
  | .lst ds, P, m => P ds [] m
  | .tup ds, P, m => P ds [] m
  | _, _, _ => False
def itLstB : D → (List D → List (Addr × D) → Mst → Prop) → Mst → Prop
  | .adr a, P, m => ∃ ds, m.2 a = some (.lst ds) ∧ P ds [(a, .lst ds)] m
  | .lst ds, P, m => P ds [] m
  | _, _, _ => False
def vSeqB (ve : VE) : VAB := fun env m P => ve env m fun x m1 => itSeqB x P m1
def vEnumB (va : VA) : VAB := fun env m P => va env m fun xs m1 => match xs with
  | [x] => itLstB x (fun ds bs m2 => P (enumD ds) bs m2) m1
  | _ => False
def vRevB (ve : VE) : VAB := fun env m P => ve env m fun x m1 => itLstB x (fun ds bs m2 => P ds.reverse bs m2) m1
def vZipB (va : VA) : VAB := fun env m P => va env m fun xs m1 => match xs with
  | [x, y] => itLstB x (fun ds bs m2 => itLstB y (fun es cs m3 => P (zipD ds es) (bs ++ cs) m3) m2) m1
  | _ => False
theorem hasL_of {x : D} {P : List D → List (Addr × D) → Mst → Prop} (st : Stx c Γ G H T S env σ m) (q : Dd c.K G v x) (p : itLstB x P m) : ∃ a ds bs vs, v = .ref a ∧ HasL c.K G bs a ds ∧ H a = some (.lst vs) ∧ vs.length = ds.length ∧ P ds bs m := by
  cases x with
  | adr a =>
    obtain ⟨ds, e, p⟩ := p
    obtain rfl := dd_adr q
    obtain ⟨vs, h1, h2⟩ := st.storedL e
    exact ⟨a, ds, _, vs, rfl, HasL.box, h1, h2.len, p⟩
  | lst ds =>
    cases q with
    | lst h1 h2 => exact ⟨_, ds, _, _, rfl, HasL.frz h1 h2, st.v _ _ h1, h2.len, p⟩
  | _ => exact p.elim
theorem ib_seq {te : TE} {ve : VE} (he : SF c Γ te ve) : SIB c Γ (iSeqV c.K te) (vSeqB ve) := fun T G H S env σ m P R st hv k =>
  he T G H S env σ m _ _ st hv fun x m1 v G1 H1 p1 s1 st1 q1 => by
    have go : itLstB x P m1 → _ := fun p => hasL_of st1 q1 p
    cases x with
    | adr a =>
      obtain ⟨a, ds, bs, vs, rfl, h1, h2, h3, p⟩ := go p1
      exact .inl ⟨_, vs, rfl, SqL.of h2, k _ _ m1 _ G1 H1 p s1 st1 (walk_l h1)⟩
    | lst ds =>
      obtain ⟨a, ds, bs, vs, rfl, h1, h2, h3, p⟩ := go p1
      exact .inl ⟨_, vs, rfl, SqL.of h2, k _ _ m1 _ G1 H1 p s1 st1 (walk_l h1)⟩
    | tup ds =>
      cases q1 with
      | tup h1 h2 =>
        refine .inr (.inl ⟨_, _, rfl, same_t st1.v h1.sq, k _ _ m1 _ G1 H1 p1 s1 st1 ?_⟩)
        rw [← h2.len]
        exact walk_tup.mono (fun H l => by obtain ⟨G, s1, s2, _⟩ := l; exact same_t (s1.trans s2) h1.sq) fun i H x H' _ _ y G s1 s2 _ => (h2.mono s1).yat y
    | _ => exact p1.elim
theorem ib_enum {ta : TA} {va : VA} (ha : SG c Γ ta va) : SIB c Γ (iEnumV c.K ta) (vEnumB va) := fun T G H S env σ m P R st hv k =>
  ha T G H S env σ m _ _ st hv fun xs m1 vs G1 H1 p1 s1 st1 q1 => by
    split at p1
    · obtain ⟨v, rfl, h⟩ := BoAll.inv1 q1
      obtain ⟨a, ds, bs, vs, rfl, h1, h2, h3, p⟩ := hasL_of st1 h p1
      exact .inl ⟨_, _, rfl, .inl ⟨SqL.of h2, k _ _ m1 _ G1 H1 p s1 st1 (walk_e h1)⟩⟩
    · exact p1.elim
theorem ib_rev {te : TE} {ve : VE} (he : SF c Γ te ve) : SIB c Γ (RT.iRevA c.K te) (vRevB ve) := fun T G H S env σ m P R st hv k =>
  he T G H S env σ m _ _ st hv fun x m1 v G1 H1 p1 s1 st1 q1 => by
    obtain ⟨a, ds, bs, vs, rfl, h1, h2, h3, p⟩ := hasL_of st1 q1 p1
    refine ⟨_, _, rfl, .inl ⟨SqL.of h2, ?_⟩⟩
    rw [h3]
    exact k _ _ m1 _ G1 H1 p s1 st1 (walk_r h1)
theorem ib_zip {ta : TA} {va : VA} (ha : SG c Γ ta va) : SIB c Γ (RZ.iZipA c.K ta) (vZipB va) := fun T G H S env σ m P R st hv k =>
  ha T G H S env σ m _ _ st hv fun xs m1 vs G1 H1 p1 s1 st1 q1 => by
    split at p1
    · obtain ⟨v, u, rfl, h, h'⟩ := BoAll.inv2 q1
      obtain ⟨a, ds, bs, vs, rfl, h1, h2, h3, p⟩ := hasL_of st1 h p1
      obtain ⟨b, es, cs, us, rfl, k1, k2, k3, p⟩ := hasL_of st1 h' p
      exact ⟨_, _, _, _, rfl, .inl ⟨SqL.of h2, SqL.of k2, k _ _ m1 _ G1 H1 p s1 st1 (walk_z h1.l k1.r)⟩⟩
    · exact p1.elim
theorem boxes_live (st : Stx c Γ G H T S env σ m) (s : Same G0 G) (hb : ∀ p ∈ bs, m.2 p.1 = some p.2 ∧ ∃ ds, p.2 = .lst ds) : (∀ p ∈ bs, Tp c.K G H (.ref p.1) p.2) ∧ LiveI c.K G0 bs H := by
  have q : ∀ p ∈ bs, Tp c.K G H (.ref p.1) p.2 := fun p hp => by
    obtain ⟨e, ds, e2⟩ := hb p hp
    rw [e2] at e ⊢
    obtain ⟨vs, h1, h2⟩ := st.storedL e
    exact .lst h1 h2
  exact ⟨q, G, s, st.v, q⟩
/-- the boxes stand as they were -/
def Stand (bs : List (Addr × D)) (s : Sto) : Prop := ∀ p ∈ bs, s p.1 = some p.2 ∧ ∃ ds, p.2 = .lst ds
def lcDB (items : List D) (bs : List (Addr × D)) (vg : VG) (vt : VT) (ve : VE) (vs : List Nat) (env : Env) (m1 : Mst) (P : D → Mst → Prop) : Prop := ∃ W : Nat → List D → Mst → Prop, W 0 [] m1 ∧ (∀ i acc m', W i acc m' → Stand bs m'.2) ∧
  (∀ i acc m' d, W i acc m' → items[i]? = some d → vg d (wipeE env vs) fun e1 => vt e1 m' fun b m2 => if b = true then ve e1 m2 fun y m3 => acc.length < sizeLine ∧ W (i + 1) (acc ++ [y]) m3 else W (i + 1) acc m2) ∧
  ∀ acc m', W items.length acc m' → P (.lst acc) m'
def vLcB (vi : VAB) (vg : VG) (vt : VT) (ve : VE) (vs : List Nat) : VE := fun env m P => vi env m fun items bs m1 => lcDB items bs vg vt ve vs env m1 P
theorem s_lcB {wi : TI} {vi : VAB} {tg : TG} {vg : VG} {tt : TT} {vt : VT} {te : TE} {ve : VE} {vs : List Nat} (hi : SIB c Γ wi vi) (hF : (vs.all fun i => decide (Γ[i]? = some .F)) = true) (hg : SGt c Γ vs tg vg) (ht : ST c Γ tt vt) (he : SF c Γ te ve) :
    SO c Γ (tLc wi tg tt te vs) (vLcB vi vg vt ve vs) := fun T G H S env σ m P Q st hv k =>
  hi T G H S env σ m _ _ st hv fun items bs m1 J G1 H1 p1 s1 st1 wk => by
    obtain ⟨W, w0, wb, wn, wd⟩ := p1
    intro D hD
    refine lc_it wk (fun i H' => ∃ G2 accV acc m', Same G1 G2 ∧ Stx c Γ G2 H' ((D, .lst accV) :: T) S env σ m' ∧ DdAll c.K G2 accV acc ∧ W i acc m') ⟨G1, [], [], m1, Same.refl _, st1.new hD, .nil, w0⟩ (fun i H' _ p => ?_) (fun i x Hi H' hi p y => ?_) (fun H' p => ?_)
    · obtain ⟨G2, accV, acc, m', s2, st2, _, hw⟩ := p
      exact (boxes_live st2 s2 (wb _ _ _ hw)).2
    · obtain ⟨G2, accV, acc, m', s2, st2, hacc, hw⟩ := p
      obtain ⟨d, G3, ed, s3, st3, hd⟩ := st2.item (Same.refl _) (y G2 s2 st2.v (boxes_live st2 s2 (wb _ _ _ hw)).1)
      obtain ⟨q0, C0, q1, q2, z3⟩ := id st3
      refine hg G3 H' S (wipeE env vs) (wipe σ vs) x d _ _ (z3.wipeF hF) st3.v hd (wn i acc m' d hw ed) fun e1 σ1 pe sl1 l1 n1 => ⟨?_, ?_⟩
      · rw [wipe_eq l1 n1, wipe_wipe]
      · have st4 := st3.slots sl1
        refine ht _ G3 H' S e1 σ1 m' _ _ st4 pe fun b m2 G4 H4 S4 p4 s4 st5 => ?_
        cases b with
        | true =>
          rw [if_pos rfl] at p4 ⊢
          refine he _ G4 H4 S e1 σ1 m2 _ _ st5.dropT p4 fun y m3 u G5 H5 p5 s5 st6 hy => ?_
          have st7 := st6.slots (z3.mono (s4.trans s5))
          refine ⟨accV, st7.push (y := u).1, by rw [hacc.len]; exact p5.1, G5, accV ++ [u], acc ++ [y], m3, s2.trans (s3.trans (s4.trans s5)), st7.push.2, ?_, p5.2⟩
          exact (hacc.mono (s3.trans (s4.trans s5))).app (.one hy)
        | false =>
          rw [if_neg Bool.false_ne_true] at p4 ⊢
          exact ⟨G4, accV, acc, m2, s2.trans (s3.trans s4), st5.dropT.slots (z3.mono s4), hacc.mono (s3.trans s4), p4⟩
    · obtain ⟨G2, accV, acc, m', s2, st2, hacc, hw⟩ := p
      exact k (.lst acc) m' (.ref D) G2 H' [(D, .lst accV)] (wd acc m' hw) (s1.trans s2) st2 ⟨D, accV, rfl, rfl, hacc⟩
def forDB (ws : List Nat) (items : List D) (bs : List (Addr × D)) (vg : VG) (vb : VS) (V : VEnds) (env : Env) (m1 : Mst) : Prop := ∃ W : Nat → Env → Mst → Prop, W 0 (wipeE env ws) m1 ∧ (∀ i e m', W i e m' → Stand bs m'.2) ∧
  (∀ i e m' d, W i e m' → items[i]? = some d → vg d e fun e1 => vb { V with nx := fun e2 m2 => W (i + 1) (wipeE e2 ws) m2, ct := fun e2 m2 => W (i + 1) (wipeE e2 ws) m2, bk := fun e2 m2 => V.nx (wipeE e2 ws) m2 } e1 m') ∧ ∀ e m', W items.length e m' → V.nx e m'
def vForB (ws : List Nat) (vi : VAB) (vg : VG) (vb : VS) : VS := fun V env m => vi env m fun items bs m1 => forDB ws items bs vg vb V env m1
theorem x_forB {Γ' : List OT} {ws : List Nat} {wi : TI} {vi : VAB} {tg : TG} {vg : VG} {b : TS} {y : VS} (hi : SIB c Γ wi vi) (hg : SGt c Γ' is tg vg) (hb : SS c t Γ' Γ' Γ' Γ' b y) (hw : wipeΓ Γ ws = Γ' := by rfl) (hw' : wipeΓ Γ' ws = Γ' := by rfl)
    (hv : (ws.all fun i => decide (i < Γ.length)) = true := by rfl) (hv' : (ws.all fun i => decide (i < Γ'.length)) = true := by rfl) : SS c t Γ Γ' Γb Γc (tFor wi tg b) (vForB ws vi vg y) := fun G H S env σ m De Ve e st hv0 =>
  hi [] G H S env σ m _ _ st hv0 fun items bs m1 J G1 H1 p1 s1 st1 wk => by
    obtain ⟨W, w0, wb, wn, wd⟩ := p1
    obtain ⟨S1, st1⟩ := Stx.wipes st1 hv
    rw [hw] at st1
    have wp : ∀ {G H : Hp} {S : List (Addr × HO)} {env : Env} {σ : L2.St} {m : Mst}, Stt c Γ' G H S env σ m → ∃ S', Stt c Γ' G H S' (wipeE env ws) σ m := fun st => by
      have q := Stx.wipes st hv'
      rw [hw'] at q
      exact q
    refine for_it wk (fun i σ H' => ∃ G2 S2 env2 m2, Same G1 G2 ∧ Stt c Γ' G2 H' S2 env2 σ m2 ∧ W i env2 m2) ⟨G1, S1, _, m1, Same.refl _, st1, w0⟩ (fun i σ H' _ p => ?_) (fun i x σ Hi H' hi p y => ?_) (fun σ H' p => ?_)
    · obtain ⟨G2, S2, env2, m2, s2, st2, hw⟩ := p
      exact (boxes_live st2 s2 (wb _ _ _ hw)).2
    · obtain ⟨G2, S2, env2, m2, s2, st2, hw⟩ := p
      obtain ⟨d, G3, ed, s3, st3, hd⟩ := st2.item (Same.refl _) (y G2 s2 st2.v (boxes_live st2 s2 (wb _ _ _ hw)).1)
      obtain ⟨q0, C0, q1, q2, z3⟩ := id st3
      refine hg G3 H' S2 env2 σ x d _ _ z3 st3.v hd (wn i env2 m2 d hw ed) fun e1 σ1 pe sl1 _ _ => ?_
      have up : Same G G3 := s1.trans (s2.trans s3)
      exact hb G3 H' S2 e1 σ1 m2 _ { Ve with nx := fun e2 m2 => W (i + 1) (wipeE e2 ws) m2, ct := fun e2 m2 => W (i + 1) (wipeE e2 ws) m2, bk := fun e2 m2 => Ve.nx (wipeE e2 ws) m2 } ⟨fun G H S env σ m s st hv => by
        obtain ⟨S', st'⟩ := wp st
        exact ⟨G, S', _, m, s2.trans (s3.trans s), st', hv⟩, (e.up up).rt, fun G H S env σ m s st hv => by
        obtain ⟨S', st'⟩ := wp st
        exact (e.up up).nx G H S' _ σ m s st' hv, fun G H S env σ m s st hv => by
        obtain ⟨S', st'⟩ := wp st
        exact ⟨G, S', _, m, s2.trans (s3.trans s), st', hv⟩⟩ (st3.slots sl1) pe
    · obtain ⟨G2, S2, env2, m2, s2, st2, hw⟩ := p
      exact e.nx G2 H' S2 env2 σ m2 (s1.trans s2) st2 (wd env2 m2 hw)
/-! taken out of a stored list or dict -/
def vPopS (ve : VE) : VE := fun env m P => ve env m fun x m1 => ∃ a ds d, x = .adr a ∧ m1.2 a = some (.lst ds) ∧ ds[ds.length - 1]? = some d ∧ P d (m1.1, sput m1.2 a (.lst ds.dropLast))
theorem DdAll.dropLast : ∀ {vs : List V} {ds : List D}, DdAll K G vs ds → DdAll K G vs.dropLast ds.dropLast
  | _, _, .nil => .nil
  | _, _, .cons _ .nil => .nil
  | _, _, .cons h (.cons h2 t) => .cons h (DdAll.dropLast (.cons h2 t))
theorem DdAll.erase : ∀ {vs : List V} {ds : List D} (k : Nat), DdAll K G vs ds → DdAll K G (vs.eraseIdx k) (ds.eraseIdx k)
  | _, _, _, .nil => .nil
  | _, _, 0, .cons _ t => t
  | _, _, k + 1, .cons h t => .cons h (DdAll.erase k t)
theorem DdAll.ins {v : V} {d : D} (h : Dd K G v d) : ∀ {vs : List V} {ds : List D} (k : Nat), DdAll K G vs ds → DdAll K G (vs.take k ++ v :: vs.drop k) (ds.take k ++ d :: ds.drop k) := fun k q => (q.take k).app (.cons h (q.drop k))
theorem s_popS {te : TE} {ve : VE} (he : SF c Γ te ve) : SF c Γ (tBM0 c.K "list" rPop te) (vPopS ve) := fun T G H S env σ m P Q st hv k =>
  he T G H S env σ m _ _ st hv fun x m1 v G1 H1 p1 s1 st1 q1 => by
    obtain ⟨a, ds, d, rfl, e, hd, p⟩ := p1
    obtain rfl := dd_adr q1
    obtain ⟨vs, h1, q⟩ := st1.storedL e
    obtain ⟨u, hu, hq⟩ := q.get hd
    exact ⟨.inl ⟨rfl, vs, SqL.of h1⟩, a, vs, u, rfl, rfl, h1, by rw [q.len]; exact hu, k d _ u G1 _ p s1 (st1.setL e q.dropLast) hq⟩
def vPopAtS (ve vk : VE) : VE := fun env m P => ve env m fun x m1 => ∃ a ds0, x = .adr a ∧ m1.2 a = some (.lst ds0) ∧ vk env m1 fun y m2 => ∃ ds i j d, m2.2 a = some (.lst ds) ∧ y = .int i ∧ -(2 ^ 63) ≤ i ∧ i < 2 ^ 63 ∧ seqIndex? i ds.length = some j ∧ ds[j]? = some d ∧ P d (m2.1, sput m2.2 a (.lst (ds.eraseIdx j)))
theorem s_popAtS {te tk : TE} {ve vk : VE} (he : SF c Γ te ve) (hk : SF c Γ tk vk) : SF c Γ (tBM c.K "list" rPopAt te (tCons tk tNil)) (vPopAtS ve vk) := fun T G H S env σ m P Q st hv k =>
  he T G H S env σ m _ _ st hv fun x m1 v G1 H1 p1 s1 st1 q1 => by
    obtain ⟨a, ds0, rfl, e, p⟩ := p1
    obtain rfl := dd_adr q1
    obtain ⟨vs0, h0, _⟩ := st1.storedL e
    refine ⟨.inl ⟨rfl, vs0, SqL.of h0⟩, hk T G1 H1 S env σ m1 _ _ st1 p fun y m2 w G2 H2 p2 s2 st2 q2 => ?_⟩
    obtain ⟨ds, i, j, d, e2, rfl, l1, l2, hj, hd, p⟩ := p2
    obtain rfl := q2.intInv
    obtain ⟨vs, h1, q⟩ := st2.storedL e2
    obtain ⟨u, hu, hq⟩ := q.get hd
    exact ⟨a, vs, i, j, u, rfl, rfl, h1, l1, l2, by rw [q.len]; exact hj, hu, k d _ u G2 _ p (s1.trans s2) (st2.setL e2 (q.erase j)) hq⟩
def ddrop (kds : List (Key × D)) (k : Key) : List (Key × D) := kds.filter fun kv => !decide (kv.1 = k)
theorem drop_fst {k : Key} : ∀ {kvs : List (Key × V)} {kds : List (Key × D)}, kvs.map Prod.fst = kds.map Prod.fst → DdAll K G (kvs.map Prod.snd) (kds.map Prod.snd) → ((kvs.filter fun kv => !decide (kv.1 = k)).map Prod.fst = (ddrop kds k).map Prod.fst ∧ DdAll K G ((kvs.filter fun kv => !decide (kv.1 = k)).map Prod.snd) ((ddrop kds k).map Prod.snd))
  | [], [], _, _ => ⟨rfl, .nil⟩
  | [], _ :: _, e, _ => by simp at e
  | _ :: _, [], e, _ => by simp at e
  | x :: l, y :: r, e, q => by
    rw [List.map_cons, List.map_cons] at e
    obtain ⟨h1, h2⟩ := List.cons.inj e
    rw [List.map_cons, List.map_cons] at q
    cases q with
    | cons q1 q2 =>
      obtain ⟨i1, i2⟩ := drop_fst (k := k) h2 q2
      unfold ddrop
      rw [List.filter_cons, List.filter_cons, h1]
      by_cases z : y.1 = k
      · simp only [z, decide_true, Bool.not_true, Bool.false_eq_true, if_false]; exact ⟨i1, i2⟩
      · simp only [z, decide_false, Bool.not_false, if_true]
        exact ⟨by rw [List.map_cons, List.map_cons, h1, i1]; rfl, by rw [List.map_cons, List.map_cons]; exact .cons q1 i2⟩
end
end Ps

/-! WaV: steps of readings over the store; dicts asked and taken from; a making without arguments. -/
namespace Ps
open PySem PySem.Spec PyProof.Rows L2
section
variable {X : Cx} {CX : CXT} {k : Nat} {f C : Addr} {fd : FuncData} {ps : List Str} {sp : Sp} {E : L2.St → XK} {x m : Str} {p pos apos : Pos}
theorem pe_makeQ0 (M : Mk X.K C f) (F : FnOk X.prog X.w X.K X.mg X.base CX k f fd ps sp) (hr : Room (k + 1) X.A) (hg : Gl X x) (hm : X.mg x = some (.ref C)) (hb : Binds X.K fd ps []) (hx : ∀ σ, PassesAt CX X σ (E σ))
    (hdb : (x == ("__debug__" : Str)) = false := by decide) : PE X (.Call (.Name x p) [] [] pos) (tMakeQ C sp E tNil) := by
  refine ⟨fun pins s σ H Q I h => ?_⟩
  refine wpAny_Call_Name_kw (ld_glob I hg hm ?_ hdb)
  exact PySem.W.callWith_K0 I.kIn M.kp (run_makeQ (us := []) M F hr hb (hx σ) I .nil h)
end
section
variable {c : JC} {K : PySem.W.Frag} {Γ Γ1 Γn Γb Γc : List OT} {G G0 G' H H' : Hp} {T S S1 S2 R C : List (Addr × HO)} {env : Env} {σ : L2.St} {m : Mst} {v : V} {d : D} {t : OT} {i j : Nat} {a b : Addr}
/-! o.f op= e -/
def vAddI : D → D → (D → Prop) → Prop
  | .int i, .int j, P => P (.int (i + j))
  | _, _, _ => False
def vSubI : D → D → (D → Prop) → Prop
  | .int i, .int j, P => P (.int (i - j))
  | _, _, _ => False
theorem o_rAdd : OpV K rAdd vAddI := fun G H x y d e P Q s h1 h2 f k => by
  unfold vAddI at f
  split at f
  · obtain rfl := h1.intInv
    obtain rfl := h2.intInv
    exact ⟨_, _, rfl, rfl, k _ _ _ f (.old (.int _) rfl)⟩
  · exact f.elim
theorem o_rSub : OpV K rSub vSubI := fun G H x y d e P Q s h1 h2 f k => by
  unfold vSubI at f
  split at f
  · obtain rfl := h1.intInv
    obtain rfl := h2.intInv
    exact ⟨_, _, rfl, rfl, k _ _ _ f (.old (.int _) rfl)⟩
  · exact f.elim
/-! d.get(k, x), d.pop(k) -/
theorem dget_of {kvs : List (Key × V)} {kds : List (Key × D)} {k : Key} (h1 : kvs.map Prod.fst = kds.map Prod.fst) (h2 : DdAll K G (kvs.map Prod.snd) (kds.map Prod.snd)) (e : H a = some (.dK kvs)) : (dget kds k = none ∧ DGet H a (kV k) none) ∨ ∃ v d, dget kds k = some d ∧ DGet H a (kV k) (some v) ∧ Dd K G v d := by
  rcases get_snd (k := k) h1 h2 with ⟨q1, q2⟩ | ⟨v, d, q1, q2, q3⟩
  · have := DGet.k (k := k) e
    rw [q1] at this
    exact .inl ⟨q2, this⟩
  · have := DGet.k (k := k) e
    rw [q1] at this
    exact .inr ⟨v, d, q2, this, q3⟩
/-- d.get(k, x): d a dict of one's own, shared or in the store; its items are shared -/
def vGet2 (ve vk vx : VE) : VE := fun env m P => ve env m fun x m1 => (∃ kds, look m1.2 x = .dic kds) ∧ vk env m1 fun y m2 => vx env m2 fun z m3 => ∃ kds k, look m3.2 x = .dic kds ∧ dKey y = some k ∧ P ((dget kds k).getD z) m3
theorem s_get2 {te tk tx : TE} {ve vk vx : VE} (he : SB c Γ te ve) (hk : SF c Γ tk vk) (hx : SF c Γ tx vx) : SF c Γ (tDGet2 te tk tx) (vGet2 ve vk vx) := fun T G H S env σ m P Q st hv kk =>
  he T G H S env σ m _ _ st hv fun x m1 v G1 H1 S1 p1 s1 st1 b1 => by
    obtain ⟨⟨kds0, e0⟩, p1⟩ := p1
    have t0 := tp_look st1 (bo_tp (T := S1 ++ T) st1 (bo_sub (Same.refl _) (B := S1 ++ T ++ S) (fun x hx => by rcases List.mem_append.mp hx with q | q <;> simp [q]) b1))
    rw [e0] at t0
    obtain ⟨a, kvs0, rfl, h0, _, _⟩ := t0.dk st1.v
    refine ⟨a, rfl, .inl ⟨kvs0, .inl h0⟩, hk (S1 ++ T) G1 H1 S env σ m1 _ _ st1 p1 fun y m2 w G2 H2 p2 s2 st2 q2 => hx (S1 ++ T) G2 H2 S env σ m2 _ _ st2 p2 fun z m3 u G3 H3 p3 s3 st3 q3 => ?_⟩
    obtain ⟨kds, k, e3, ek, p3⟩ := p3
    have t3 := tp_look st3 (bo_tp (T := S1 ++ T) st3 (bo_sub (s2.trans s3) (B := S1 ++ T ++ S) (fun x hx => by rcases List.mem_append.mp hx with q | q <;> simp [q]) b1))
    rw [e3] at t3
    obtain ⟨a', kvs, e4, h1, h2, h4⟩ := t3.dk st3.v
    cases e4
    obtain rfl := kV_of (.dd q2 : Tp c.K G2 H2 w y) ek
    rcases dget_of (k := k) h2 h4 h1 with ⟨g1, g2⟩ | ⟨v, d, g1, g2, g3⟩
    · rw [g1] at p3
      exact ⟨_, g2, kk z m3 u G3 H3 p3 (s1.trans (s2.trans s3)) st3.dropT q3⟩
    · rw [g1] at p3
      exact ⟨_, g2, kk d m3 v G3 H3 p3 (s1.trans (s2.trans s3)) st3.dropT g3⟩
theorem dropK_eq (kvs : List (Key × V)) (k : Key) : dropK kvs k = kvs.filter fun kv => !decide (kv.1 = k) := by
  unfold dropK
  refine List.filter_congr fun x _ => ?_
  by_cases h : x.1 = k <;> simp [h]
/-- d.pop(k) of a stored dict -/
def vDPopS (ve vk : VE) : VE := fun env m P => ve env m fun x m1 => ∃ a kds0, x = .adr a ∧ m1.2 a = some (.dic kds0) ∧ vk env m1 fun y m2 => ∃ kds k d, m2.2 a = some (.dic kds) ∧ dKey y = some k ∧ dget kds k = some d ∧ P d (m2.1, sput m2.2 a (.dic (ddrop kds k)))
theorem s_dpopS {te tk : TE} {ve vk : VE} (he : SF c Γ te ve) (hk : SF c Γ tk vk) : SF c Γ (tDPop1 te tk) (vDPopS ve vk) := fun T G H S env σ m P Q st hv kk =>
  he T G H S env σ m _ _ st hv fun x m1 v G1 H1 p1 s1 st1 q1 => by
    obtain ⟨a, kds0, rfl, e, p⟩ := p1
    obtain rfl := dd_adr q1
    obtain ⟨vs0, h0, _, _⟩ := st1.storedD e
    refine ⟨a, rfl, .inl ⟨vs0, .inl h0⟩, hk T G1 H1 S env σ m1 _ _ st1 p fun y m2 w G2 H2 p2 s2 st2 q2 => ?_⟩
    obtain ⟨kds, k, d, e2, ek, eg, p⟩ := p2
    obtain ⟨kvs, h1, e3, q⟩ := st2.storedD e2
    obtain rfl := kV_of (.dd q2 : Tp c.K G2 H2 w y) ek
    rcases get_snd (k := k) e3 q with ⟨_, g2⟩ | ⟨v, d', g1, g2, g3⟩
    · rw [g2] at eg; cases eg
    · rw [g2] at eg; cases eg
      obtain ⟨i1, i2⟩ := drop_fst (k := k) e3 q
      exact ⟨kvs, k, v, h1, rfl, g1, by rw [dropK_eq]; exact kk d _ v G2 _ p (s1.trans s2) (st2.setD e2 i1 i2) g3⟩
/-! e[k] op= x of a stored list -/
def vAugS (f : D → D → (D → Prop) → Prop) (vo vk ve : VE) : VS := fun V env m => vo env m fun x m1 => ∃ a, x = .adr a ∧ vk env m1 fun y m2 => ∃ ds k d, m2.2 a = some (.lst ds) ∧ y = .int k ∧ atI ds k = some d ∧ ve env m2 fun z m3 => f d z fun w => ∃ ds' j, m3.2 a = some (.lst ds') ∧ ixN ds'.length k = some j ∧ V.nx env (m3.1, sput m3.2 a (.lst (ds'.set j w)))
theorem x_augS {r : TIp} {f : D → D → (D → Prop) → Prop} {to tk te : TE} {vo vk ve : VE} (o : IpV c.K r f) (ho : SF c Γ to vo) (hk : SF c Γ tk vk) (he : SF c Γ te ve) : SS c t Γ Γ Γb Γc (tAugS to tk te (rIxU c.K) r rSetU) (vAugS f vo vk ve) := fun G H S env σ m De Ve e st hv =>
  ho [] G H S env σ m _ _ st hv fun x m1 v G1 H1 p1 s1 st1 q1 => by
    obtain ⟨a, rfl, p⟩ := p1
    obtain rfl := dd_adr q1
    refine hk [] G1 H1 S env σ m1 _ _ st1 p fun y m2 w G2 H2 p2 s2 st2 q2 => ?_
    obtain ⟨ds, k, d, ea, rfl, hj, p⟩ := p2
    obtain rfl := q2.intInv
    obtain ⟨vs, h1, q⟩ := st2.storedL ea
    have hg : ∃ u, atI vs k = some u ∧ Dd c.K G2 u d := by
      unfold atI at hj ⊢
      rw [q.len]
      cases e : ixN ds.length k with
      | none => rw [e] at hj; cases hj
      | some i => rw [e] at hj; exact q.get hj
    obtain ⟨u, hu, hd⟩ := hg
    refine w_ix (.inl (SqL.of h1)) hu (he [] G2 H2 S env σ m2 _ _ st2 p fun z m3 w G3 H3 p3 s3 st3 q3 => ?_)
    refine o G3 H3 u w d z _ _ st3.v (.dd (hd.mono s3)) (.dd q3) p3 fun z' w' H' pz n => ?_
    obtain ⟨G4, S4, s4, st4, q4⟩ := Nw.own (T := []) st3 n
    obtain ⟨G5, s5, st5, q5⟩ := Stx.freeze (t := .O) st4 q4
    obtain ⟨ds', i, ea', hi, pz⟩ := pz
    obtain ⟨vs', h1', q'⟩ := st5.storedL ea'
    exact .inl ⟨a, vs', k, i, rfl, rfl, h1', by rw [q'.len]; exact hi, e.nx G5 _ S env σ _ (s1.trans (s2.trans (s3.trans (s4.trans s5)))) (st5.setL ea' (q'.set i q5)) pz⟩
end
/-! ### steps -/
section
variable {V : VEnds} {env : Env} {m : Mst} {ve va vb vo vk vx : VE} {vl : VA} {P : D → Mst → Prop} {B : Bool → Mst → Prop} {Z : D → Prop} {ds es : List D} {a C : Addr} {fs : List (Str × D)} {f : Str} {d : D} {s : Sto} {A : List D → List (Addr × D) → Mst → Prop}
theorem e_opL {f : D → D → (D → Prop) → Prop} (h : va env m fun x m1 => vb env m1 fun y m2 => f (look m2.2 x) (look m2.2 y) fun z => P z m2) : vOpL f va vb env m P := h
theorem e_unL {f : D → (D → Prop) → Prop} (h : va env m fun x m1 => f (look m1.2 x) fun z => P z m1) : vUnL f va env m P := h
theorem e_cbL {f : List D → (D → Prop) → Prop} (h : vl env m fun xs m1 => f (xs.map (look m1.2)) fun z => P z m1) : vCBL f vl env m P := h
theorem e_bmL {T : String} {f : D → List D → (D → Prop) → Prop} (h : ve env m fun x m1 => isTy T (look m1.2 x) = true ∧ vl env m1 fun xs m2 => f (look m2.2 x) (xs.map (look m2.2)) fun z => P z m2) : vBMtL T f ve vl env m P := h
theorem e_bm0L {T : String} {f : D → List D → (D → Prop) → Prop} (h : ve env m fun x m1 => isTy T (look m1.2 x) = true ∧ f (look m1.2 x) [] fun z => P z m1) : vBM0L T f ve env m P := h
theorem e_truLk (h : ve env m fun x m1 => truD (look m1.2 x) B m1) : vTruL ve env m B := h
theorem e_slL {f : D → Option Int → Option Int → (D → Prop) → Prop} {vlo vhi : VO} (h : ve env m fun x m1 => vlo env m1 fun l m2 => vhi env m2 fun h m3 => f (look m3.2 x) l h fun z => P z m3) : vSlL f ve vlo vhi env m P := h
theorem e_fld (h : ve env m fun x m1 => ∃ a fs d, x = .adr a ∧ m1.2 a = some (.obj C fs) ∧ fs.lookup f = some d ∧ P d m1) : vFld C f ve env m P := h
theorem e_fldA (e : m.2 a = some (.obj C fs)) (hl : fs.lookup f = some d) (h : P d m) : ∃ a' fs d, D.adr a = .adr a' ∧ m.2 a' = some (.obj C fs) ∧ fs.lookup f = some d ∧ P d m := ⟨a, fs, d, rfl, e, hl, h⟩
theorem e_setF (h : ve env m fun d m1 => vo env m1 fun x m2 => ∃ a fs, x = .adr a ∧ m2.2 a = some (.obj C fs) ∧ fs.length < 1000 ∧ V.nx env (m2.1, sput m2.2 a (.obj C (dputF f d fs)))) : vSetF C f vo ve V env m := h
theorem e_setFA (e : m.2 a = some (.obj C fs)) (hl : Nat.blt fs.length 1000 = true) (h : V.nx env (m.1, sput m.2 a (.obj C (dputF f d fs)))) : ∃ a' fs, D.adr a = .adr a' ∧ m.2 a' = some (.obj C fs) ∧ fs.length < 1000 ∧ V.nx env (m.1, sput m.2 a' (.obj C (dputF f d fs))) := ⟨a, fs, rfl, e, Nat.le_of_ble_eq_true hl, h⟩
theorem e_augF {g : D → D → (D → Prop) → Prop} (h : vo env m fun x m1 => ∃ a fs x0, x = .adr a ∧ m1.2 a = some (.obj C fs) ∧ fs.lookup f = some x0 ∧ ve env m1 fun y m2 => g x0 y fun z => ∃ fs', m2.2 a = some (.obj C fs') ∧ fs'.length < 1000 ∧ V.nx env (m2.1, sput m2.2 a (.obj C (dputF f z fs')))) : vAugF C f g vo ve V env m := h
theorem e_augFA {g : D → D → (D → Prop) → Prop} (e : m.2 a = some (.obj C fs)) (hl : fs.lookup f = some d) (h : ve env m fun y m2 => g d y fun z => ∃ fs', m2.2 a = some (.obj C fs') ∧ fs'.length < 1000 ∧ V.nx env (m2.1, sput m2.2 a (.obj C (dputF f z fs')))) : ∃ a' fs x0, D.adr a = .adr a' ∧ m.2 a' = some (.obj C fs) ∧ fs.lookup f = some x0 ∧ ve env m fun y m2 => g x0 y fun z => ∃ fs', m2.2 a' = some (.obj C fs') ∧ fs'.length < 1000 ∧ V.nx env (m2.1, sput m2.2 a' (.obj C (dputF f z fs'))) := ⟨a, fs, d, rfl, e, hl, h⟩
theorem e_augFE (e : m.2 a = some (.obj C fs)) (hl : Nat.blt fs.length 1000 = true) (h : V.nx env (m.1, sput m.2 a (.obj C (dputF f d fs)))) : ∃ fs, m.2 a = some (.obj C fs) ∧ fs.length < 1000 ∧ V.nx env (m.1, sput m.2 a (.obj C (dputF f d fs))) := ⟨fs, e, Nat.le_of_ble_eq_true hl, h⟩
theorem e_addII {n k : Int} (h : Z (.int (n + k))) : vAddI (.int n) (.int k) Z := h
theorem e_subII {n k : Int} (h : Z (.int (n - k))) : vSubI (.int n) (.int k) Z := h
theorem e_meth {mn : Str} {vsp : VSp} {VW : XW} (h : ve env m fun x m1 => ∃ a fs, x = .adr a ∧ m1.2 a = some (.obj C fs) ∧ fs.lookup mn = none ∧ vl env m1 fun ds m2 => vsp (.adr a :: ds) m2 P fun Cx fx m3 => VW Cx fx env m3) : vMeth C mn vsp VW ve vl env m P := h
theorem e_methA {mn : Str} {Q : Addr → Prop} (e : m.2 a = some (.obj C fs)) (hl : fs.lookup mn = none) (h : Q a) : ∃ a' fs, D.adr a = .adr a' ∧ m.2 a' = some (.obj C fs) ∧ fs.lookup mn = none ∧ Q a' := ⟨a, fs, rfl, e, hl, h⟩
theorem e_make {vsp : VSp} {VW : XW} (h : vl env m fun ds m1 => ∀ y, m1.2 y = none → vsp (.adr y :: ds) (m1.1, sput m1.2 y (.obj C [])) (fun d m2 => d = .non ∧ P (.adr y) m2) fun Cx fx m3 => VW Cx fx env m3) : vMake C vsp VW vl env m P := h
theorem e_appS (h : ve env m fun x m1 => ∃ a ds0, x = .adr a ∧ m1.2 a = some (.lst ds0) ∧ vx env m1 fun d m2 => ∃ ds, m2.2 a = some (.lst ds) ∧ ds.length < sizeLine ∧ V.nx env (m2.1, sput m2.2 a (.lst (ds ++ [d])))) : vAppS ve vx V env m := h
theorem e_appA {Q : Prop} (e : m.2 a = some (.lst ds)) (h : Q) : ∃ a' ds0, D.adr a = .adr a' ∧ m.2 a' = some (.lst ds0) ∧ Q := ⟨a, ds, rfl, e, h⟩
theorem e_appE {Q : List D → Prop} (e : m.2 a = some (.lst ds)) (hl : ds.length < 16777216) (h : Q ds) : ∃ ds, m.2 a = some (.lst ds) ∧ ds.length < sizeLine ∧ Q ds := ⟨ds, e, sz_lt hl, h⟩
theorem e_mutS {f : List D → List D → (List D → D → Prop) → Prop} (h : ve env m fun x m1 => ∃ a ds0, x = .adr a ∧ m1.2 a = some (.lst ds0) ∧ vl env m1 fun xs m2 => ∃ ds, m2.2 a = some (.lst ds) ∧ f ds (xs.map (look m2.2)) fun ds' z => V.nx env (m2.1, sput m2.2 a (.lst ds'))) : vMutS f ve vl V env m := h
theorem e_putS (h : ve env m fun d m1 => vo env m1 fun x m2 => ∃ a, x = .adr a ∧ vk env m2 fun y m3 => (∃ ds k j, m3.2 a = some (.lst ds) ∧ y = .int k ∧ ixN ds.length k = some j ∧ V.nx env (m3.1, sput m3.2 a (.lst (ds.set j d)))) ∨
  ∃ kds k, m3.2 a = some (.dic kds) ∧ dKey y = some k ∧ kds.length < sizeLine ∧ V.nx env (m3.1, sput m3.2 a (.dic (dput kds k d)))) : vPutS vo ve vk V env m := h
theorem e_putSL {k : Int} {j : Nat} {Q : Prop} {dd : D} (e : m.2 a = some (.lst ds)) (hj : ixN ds.length k = some j) (h : V.nx env (m.1, sput m.2 a (.lst (ds.set j d)))) : (∃ ds k' j, m.2 a = some (.lst ds) ∧ D.int k = .int k' ∧ ixN ds.length k' = some j ∧ V.nx env (m.1, sput m.2 a (.lst (ds.set j d)))) ∨ Q := .inl ⟨ds, k, j, e, rfl, hj, h⟩
theorem e_putSD {kds : List (Key × D)} {y : D} {k : Key} {Q : Prop} (e : m.2 a = some (.dic kds)) (hk : dKey y = some k) (hl : kds.length < 16777216) (h : V.nx env (m.1, sput m.2 a (.dic (dput kds k d)))) : Q ∨ ∃ kds k, m.2 a = some (.dic kds) ∧ dKey y = some k ∧ kds.length < sizeLine ∧ V.nx env (m.1, sput m.2 a (.dic (dput kds k d))) := .inr ⟨kds, k, e, hk, sz_lt hl, h⟩
theorem e_box (h : ve env m fun d m1 => boxD d m1 P) : vBox ve env m P := h
theorem e_boxL (h : ∀ y, m.2 y = none → P (.adr y) (m.1, sput m.2 y (.lst ds))) : boxD (.lst ds) m P := h
theorem e_boxDi {kds : List (Key × D)} (h : ∀ y, m.2 y = none → P (.adr y) (m.1, sput m.2 y (.dic kds))) : boxD (.dic kds) m P := h
theorem e_seqB (h : ve env m fun x m1 => itSeqB x A m1) : vSeqB ve env m A := h
theorem e_itSB (e : m.2 a = some (.lst ds)) (h : A ds [(a, .lst ds)] m) : itSeqB (.adr a) A m := ⟨ds, e, h⟩
theorem e_itLB (e : m.2 a = some (.lst ds)) (h : A ds [(a, .lst ds)] m) : itLstB (.adr a) A m := ⟨ds, e, h⟩
theorem e_enumB (h : vl env m fun xs m1 => match xs with
  | [x] => itLstB x (fun ds bs m2 => A (enumD ds) bs m2) m1
  | _ => False) : vEnumB vl env m A := h
theorem e_revB (h : ve env m fun x m1 => itLstB x (fun ds bs m2 => A ds.reverse bs m2) m1) : vRevB ve env m A := h
theorem e_zipB (h : vl env m fun xs m1 => match xs with
  | [x, y] => itLstB x (fun ds bs m2 => itLstB y (fun es cs m3 => A (zipD ds es) (bs ++ cs) m3) m2) m1
  | _ => False) : vZipB vl env m A := h
theorem e_lcB {vi : VAB} {vg : VG} {vt : VT} {vs : List Nat} (h : vi env m fun items bs m1 => lcDB items bs vg vt ve vs env m1 P) : vLcB vi vg vt ve vs env m P := h
theorem e_forB {vi : VAB} {vg : VG} {vb : VS} {ws : List Nat} (h : vi env m fun items bs m1 => forDB ws items bs vg vb V env m1) : vForB ws vi vg vb V env m := h
theorem e_popS (h : ve env m fun x m1 => ∃ a ds d, x = .adr a ∧ m1.2 a = some (.lst ds) ∧ ds[ds.length - 1]? = some d ∧ P d (m1.1, sput m1.2 a (.lst ds.dropLast))) : vPopS ve env m P := h
theorem e_dpopS (h : ve env m fun x m1 => ∃ a kds0, x = .adr a ∧ m1.2 a = some (.dic kds0) ∧ vk env m1 fun y m2 => ∃ kds k d, m2.2 a = some (.dic kds) ∧ dKey y = some k ∧ dget kds k = some d ∧ P d (m2.1, sput m2.2 a (.dic (ddrop kds k)))) : vDPopS ve vk env m P := h
theorem e_get2 (h : ve env m fun x m1 => (∃ kds, look m1.2 x = .dic kds) ∧ vk env m1 fun y m2 => vx env m2 fun z m3 => ∃ kds k, look m3.2 x = .dic kds ∧ dKey y = some k ∧ P ((dget kds k).getD z) m3) : vGet2 ve vk vx env m P := h
theorem e_seqSetF {b : VS} (h : (vSetF C f vo ve) { V with nx := b V } env m) : vSeqS (vSetF C f vo ve) b V env m := h
theorem e_seqAugF {b : VS} {g : D → D → (D → Prop) → Prop} (h : (vAugF C f g vo ve) { V with nx := b V } env m) : vSeqS (vAugF C f g vo ve) b V env m := h
theorem e_seqAppS {b : VS} (h : (vAppS ve vx) { V with nx := b V } env m) : vSeqS (vAppS ve vx) b V env m := h
theorem e_seqMutS {b : VS} {f : List D → List D → (List D → D → Prop) → Prop} (h : (vMutS f ve vl) { V with nx := b V } env m) : vSeqS (vMutS f ve vl) b V env m := h
theorem e_seqPutS {b : VS} (h : (vPutS vo ve vk) { V with nx := b V } env m) : vSeqS (vPutS vo ve vk) b V env m := h
theorem e_seqAugS {b : VS} {f : D → D → (D → Prop) → Prop} (h : (vAugS f vo vk ve) { V with nx := b V } env m) : vSeqS (vAugS f vo vk ve) b V env m := h
theorem e_seqForB {b a : VS} {vg : VG} {ws : List Nat} {vi : VAB} (h : (vForB ws vi vg a) { V with nx := b V } env m) : vSeqS (vForB ws vi vg a) b V env m := h
/-- a for over what is in the store -/
theorem forB_inv {vg : VG} {vb : VS} {ws : List Nat} {items : List D} {bs : List (Addr × D)} (W : Nat → Env → Mst → Prop) (h0 : W 0 (wipeE env ws) m) (hb : ∀ i e m', W i e m' → Stand bs m'.2)
    (hs : ∀ i e m' d, i < items.length → W i e m' → items[i]? = some d → vg d e fun e1 => vb { V with nx := fun e2 m2 => W (i + 1) (wipeE e2 ws) m2, ct := fun e2 m2 => W (i + 1) (wipeE e2 ws) m2, bk := fun e2 m2 => V.nx (wipeE e2 ws) m2 } e1 m')
    (hd : ∀ e m', W items.length e m' → V.nx e m') : forDB ws items bs vg vb V env m :=
  ⟨W, h0, hb, fun i e m' d w ed => hs i e m' d (List.getElem?_eq_some_iff.mp ed).1 w ed, hd⟩
theorem lcB_inv {vg : VG} {vt : VT} {vs : List Nat} {items : List D} {bs : List (Addr × D)} (W : Nat → List D → Mst → Prop) (hz : items.length ≤ 16777216) (h0 : W 0 [] m) (hb : ∀ i acc m', W i acc m' → Stand bs m'.2)
    (hs : ∀ i acc m' d, i < items.length → acc.length ≤ i → W i acc m' → items[i]? = some d → vg d (wipeE env vs) fun e1 => vt e1 m' fun b m2 => if b = true then ve e1 m2 fun y m3 => W (i + 1) (acc ++ [y]) m3 else W (i + 1) acc m2)
    (mono : ∀ (e : Env) (m : Mst) (P Q : D → Mst → Prop), (∀ d m, P d m → Q d m) → ve e m P → ve e m Q) (mono2 : ∀ (e : Env) (m : Mst) (P Q : Bool → Mst → Prop), (∀ d m, P d m → Q d m) → vt e m P → vt e m Q) (mono3 : ∀ (d : D) (e : Env) (P Q : Env → Prop), (∀ e, P e → Q e) → vg d e P → vg d e Q)
    (hd : ∀ acc m', W items.length acc m' → P (.lst acc) m') : lcDB items bs vg vt ve vs env m P := by
  refine ⟨fun i acc m' => acc.length ≤ i ∧ W i acc m', ⟨Nat.le_refl _, h0⟩, fun i acc m' w => hb i acc m' w.2, fun i acc m' d w ed => ?_, fun acc m' w => hd acc m' w.2⟩
  have hi := (List.getElem?_eq_some_iff.mp ed).1
  refine mono3 _ _ _ _ (fun e1 h => mono2 _ _ _ _ (fun b m2 h => ?_) h) (hs i acc m' d hi w.1 w.2 ed)
  cases b with
  | true =>
    rw [if_pos rfl] at h ⊢
    refine mono _ _ _ _ (fun y m3 h => ⟨sz_lt (by have := w.1; omega), by rw [List.length_append, List.length_singleton]; have := w.1; omega, h⟩) h
  | false => rw [if_neg Bool.false_ne_true] at h ⊢; exact ⟨by have := w.1; omega, h⟩
end
end Ps

/-! WaX: dict.update, sorted(set(..)), str.find. -/
namespace Ps
open PySem PySem.Spec PyProof.Rows L2
/-! ### d.update(e) -/
def rDUpdate : V → List V → Hp → VK → Prop := fun x vs H Q => ∃ a b kvs more, x = .ref a ∧ vs = [.ref b] ∧ a ≠ b ∧ H a = some (.dK kvs) ∧ H b = some (.dK more) ∧ kvs.length + more.length ≤ sizeLine ∧ Q .non (upd H a (.dK (mergeK kvs more)))
theorem mt_dupdate {X : Cx} : MtM X "dict.update" rDUpdate := by
  intro pins s σ H x vs v us Q I rx rv h
  obtain ⟨a, b, kvs, more, rfl, rfl, ne, e1, e2, hz, q⟩ := h
  cases rx
  obtain ⟨u, rfl, ru⟩ := rv.one
  cases ru
  obtain ⟨z, hd, xs, rel, dd⟩ := dk_of I.hok e1
  obtain ⟨z2, hd2, ys, rel2, dd2⟩ := dk_of I.hok e2
  refine call_meetsIn F.slot_dict_update dd.typeIs F.entry_dict_update (F.args_dict_update_2 _ _) (meets_dict_update (mixKind X.prog X.w) a b ne hd2)
    ⟨xs, ys, dd, dd2, by rw [← rel.length, ← rel2.length]; exact hz, fun h' dd' _ hs => ?_⟩
  have he : ∃ q, h'.get? a = some q := let ⟨q, _, _, hq, _⟩ := dd'; ⟨q, hq⟩
  exact ⟨.non, _, d_write (t' := s.toks) I (by rw [e1]; exact True.intro) hs he (dk_new (Nat.le_trans (length_mergeK more kvs) hz) hd (KV.merge rel2 rel) dd'), rfl, q⟩
section
variable {c : JC} {Γ Γ1 Γ2 Γn Γb Γc : List OT} {G G' H H' : Hp} {T S S1 S2 R : List (Addr × HO)} {env : Env} {σ : L2.St} {m : Mst} {v : V} {d : D} {t : OT} {i j : Nat} {is : List Nat}
theorem Stx.mutD2 {kds : List (Key × D)} {b : Addr} {o : HO} (st : Stx c Γ G H ((b, o) :: T) S env σ m) (he : env[i]? = some (some (.dic kds))) (hi : Γ[i]? = some .O) : ∃ a kvs, σ[i]? = some (some (.ref a)) ∧ a ≠ b ∧ H b = some o ∧ H a = some (.dK kvs) ∧ kvs.map Prod.fst = kds.map Prod.fst ∧ DdAll c.K G (kvs.map Prod.snd) (kds.map Prod.snd) ∧
    ∀ kvs' kds', kvs'.map Prod.fst = kds'.map Prod.fst → DdAll c.K G (kvs'.map Prod.snd) (kds'.map Prod.snd) → ∃ S', Stx c Γ G (upd H a (.dK kvs')) T S' (env.set i (some (.dic kds'))) σ m := by
  obtain ⟨s, C, w, a, z⟩ := st
  obtain ⟨v, A1, A2, A3, e1, rfl, ⟨l, vs, rfl, rfl, q0, q⟩, e4⟩ := z.at he hi
  have w1 : Wd ((b, o) :: (T ++ A1 ++ ((l, .dK vs) :: (A3 ++ (C ++ c.R))))) G H := by
    simpa [List.append_assoc] using w
  have ne : l ≠ b := fun e => by
    have nd := (List.nodup_cons.mp w1.2.2).1
    exact nd (by rw [← e]; simp)
  refine ⟨l, vs, e1, ne, w1.mem (by simp), w1.mem (by simp), q0, q, fun vs' ds' q0' q' => ⟨A1 ++ ([(l, .dK vs')] ++ A3), s, C, ?_, a, ?_⟩⟩
  · simpa [List.append_assoc] using w1.drop.putM (o' := .dK vs')
  · have z2 := e4 G [(l, .dK vs')] .O (some (.dic ds')) (some (.ref l)) (Same.refl G) (.inr ⟨_, _, rfl, rfl, l, vs', rfl, rfl, q0', q'⟩)
    rw [set_self hi, set_self e1] at z2
    exact z2
def vUpd (i : Nat) (ve : VE) : VS := fun V env m => ∃ kds, env[i]? = some (some (.dic kds)) ∧ ve env m fun x m1 => ∃ more, x = .dic more ∧ kds.length + more.length ≤ 16777216 ∧ V.nx (env.set i (some (.dic (mergeD kds more)))) m1
theorem x_upd {te : TE} {ve : VE} (hi : Γ[i]? = some .O) (h : SO c Γ te ve) : SS c t Γ Γ Γb Γc (tDrop (tBM c.K "dict" rDUpdate (tVar i) (tCons te tNil))) (vUpd i ve) := fun G H S env σ m De Ve e st hv => by
  obtain ⟨kds, ed, p⟩ := hv
  obtain ⟨a, kvs, e1, e2, _, _, _⟩ := st.mutD ed hi
  refine ⟨_, e1, .inr (.inr (.inl ⟨rfl, .inl ⟨kvs, e2⟩⟩)), h [] G H S env σ m _ _ st p fun d m1 u G1 H1 S1 p1 s1 st1 q1 => ?_⟩
  obtain ⟨more, rfl, hz, p1⟩ := p1
  obtain ⟨b, mvs, rfl, rfl, e3, q3⟩ := q1
  obtain ⟨a', kvs', e1', ne, eb, ea, e4, q4, k'⟩ := Stx.mutD2 (by simpa using st1) ed hi
  obtain rfl : a = a' := by rw [e1] at e1'; cases e1'; rfl
  have l1 : kvs'.length = kds.length := by simpa using congrArg List.length e4
  have l2 : mvs.length = more.length := by simpa using congrArg List.length e3
  obtain ⟨f1, f2⟩ := merge_d e3 q3 e4 q4
  obtain ⟨S', st2⟩ := k' _ _ f1 f2
  exact ⟨a, b, kvs', mvs, rfl, rfl, ne, ea, eb, by rw [l1, l2, sizeLine_eq]; exact hz, e.nx G1 _ S' _ σ m1 s1 st2 p1⟩
/-! and, or whose last part is shared -/
theorem s_andVF {ta tb : TE} {va vb : VE} (ha : SB c Γ ta va) (hb : SF c Γ tb vb) : SF c Γ (tAndV ta tb) (vAndV va vb) := fun T G H S env σ m P Q st hv k =>
  ha.tp st hv fun x m1 v G1 H1 S1 p1 s1 st1 t1 => by
    obtain ⟨b, rfl, p⟩ := p1
    refine ⟨b, t1.blInv, ?_⟩
    cases b with
    | true =>
      rw [if_pos rfl] at p ⊢
      exact hb T G1 H1 S env σ m1 _ _ st1.dropT p fun d m' v G' H' p s st' q => k d m' v G' H' p (s1.trans s) st' q
    | false =>
      rw [if_neg Bool.false_ne_true] at p ⊢
      exact k _ m1 _ G1 H1 p s1 st1.dropT (.bl _)
theorem s_orVF {ta tb : TE} {va vb : VE} (ha : SB c Γ ta va) (hb : SF c Γ tb vb) : SF c Γ (tOrV ta tb) (vOrV va vb) := fun T G H S env σ m P Q st hv k =>
  ha.tp st hv fun x m1 v G1 H1 S1 p1 s1 st1 t1 => by
    obtain ⟨b, rfl, p⟩ := p1
    refine ⟨b, t1.blInv, ?_⟩
    cases b with
    | true =>
      rw [if_pos rfl] at p ⊢
      exact k _ m1 _ G1 H1 p s1 st1.dropT (.bl _)
    | false =>
      rw [if_neg Bool.false_ne_true] at p ⊢
      exact hb T G1 H1 S env σ m1 _ _ st1.dropT p fun d m' v G' H' p s st' q => k d m' v G' H' p (s1.trans s) st' q
theorem e_upd {ve : VE} {V : VEnds} {kds : List (Key × D)} (hx : env[i]? = some (some (.dic kds))) (h : ve env m fun x m1 => ∃ more, x = .dic more ∧ kds.length + more.length ≤ 16777216 ∧ V.nx (env.set i (some (.dic (mergeD kds more)))) m1) : vUpd i ve V env m := ⟨kds, hx, h⟩
end
end Ps

/-! Vex: BadBytes' own __init__. -/
namespace Ps
open PySem PySem.Spec PyProof.Rows L2
local macro_rules | `(tactic| walk_at "s1") => `(tactic| first
  | (with_reducible refine w_seq ?_) | (with_reducible refine w_asg ?_) | (with_reducible refine w_op ?_) | (with_reducible refine w_c ?_)
  | ((with_reducible refine' w_var ?hx ?_); (case hx => exact rfl))
  | (with_reducible refine w_gname ?_) | (with_reducible refine w_cons ?_) | (with_reducible refine w_nil ?_) | (with_reducible refine w_cb ?_) | (with_reducible refine w_call ?_)
  | (with_reducible refine w_ret ?_) | (with_reducible refine w_drop ?_) | (with_reducible refine w_ifs ?_) | (with_reducible refine w_test ?_) | (with_reducible refine w_next ?_)
  | (with_reducible refine w_addI ?_) | (with_reducible refine w_subI ?_) | (with_reducible refine w_negI ?_) | (with_reducible refine w_eqI ?_) | (with_reducible refine w_neI ?_) | (with_reducible refine w_ltI ?_) | (with_reducible refine w_leI ?_)
  | (with_reducible refine w_gtI ?_) | (with_reducible refine w_geI ?_) | (with_reducible refine w_isNn ?_) | (with_reducible refine w_isNi ?_) | (with_reducible refine w_isNs ?_) | (with_reducible refine w_isNr ?_) | (with_reducible refine w_ntNn ?_) | (with_reducible refine w_ntNi ?_) | (with_reducible refine w_ntNs ?_) | (with_reducible refine w_ntNr ?_) | (with_reducible refine w_isN ?_) | (with_reducible refine w_notN ?_) | (with_reducible refine w_ipaI ?_) | (with_reducible refine w_eqS ?_) | (with_reducible refine w_neS ?_)
  | (with_reducible refine w_blE ?_) | (with_reducible refine w_truB ?_) | (with_reducible refine w_intI ?_) | (with_reducible refine w_intB ?_)
  | (with_reducible refine w_bm ?_) | (with_reducible refine w_bm0 ?_) | (with_reducible refine w_lst ?_) | (with_reducible refine w_tup ?_) | (with_reducible refine w_un ?_) | (with_reducible refine w_sl ?_) | (with_reducible refine w_nopart ?_) | (with_reducible refine w_part ?_) | (with_reducible refine w_partI ?_)
  | (with_reducible refine w_gsub ?_) | (with_reducible refine w_gcons ?_) | (with_reducible refine w_gnil ?_) | (with_reducible refine w_and ?_) | (with_reducible refine w_or ?_) | (with_reducible refine w_not ?_) | (with_reducible refine w_tru ?_) | (with_reducible refine w_yes ?_)
  | (with_reducible refine w_andV ?_) | (with_reducible refine w_orV ?_) | (with_reducible refine w_notV ?_) | (with_reducible refine w_tif ?_) | (with_reducible refine w_callS ?_) | (with_reducible refine w_for ?_)
  | (with_reducible refine w_par ?_) | (with_reducible refine w_par2 ?_) | (with_reducible refine w_retN ?_) | (with_reducible refine w_brk ?_) | (with_reducible refine w_cont ?_)
  | ((with_reducible refine' w_aug ?hx ?_); (case hx => exact rfl)) | (with_reducible refine w_ipsI ?_)
  | (with_reducible refine w_is_int_dict ?_) | (with_reducible refine w_is_int_list ?_) | (with_reducible refine w_is_int_tuple ?_) | (with_reducible refine w_is_int_str ?_) | (with_reducible refine w_is_int_int ?_) | (with_reducible refine w_is_int_bool ?_) | (with_reducible refine w_is_bool_dict ?_) | (with_reducible refine w_is_bool_list ?_) | (with_reducible refine w_is_bool_tuple ?_) | (with_reducible refine w_is_bool_str ?_) | (with_reducible refine w_is_bool_int ?_) | (with_reducible refine w_is_bool_bool ?_) | (with_reducible refine w_is_str_dict ?_) | (with_reducible refine w_is_str_list ?_) | (with_reducible refine w_is_str_tuple ?_) | (with_reducible refine w_is_str_str ?_) | (with_reducible refine w_is_str_int ?_) | (with_reducible refine w_is_str_bool ?_)
  | (with_reducible refine w_ifT ?_) | (with_reducible refine w_ifF ?_) | (with_reducible refine w_ifNF ?_) | (with_reducible refine w_ifNT ?_)
  | (with_reducible refine w_tys ?_) | (with_reducible refine w_chain ?_) | (with_reducible refine w_ost ?_) | (with_reducible refine w_vei ?_) | (with_reducible refine w_rzO ?_) | (with_reducible refine w_fld ?_) | (with_reducible refine w_sfld ?_) | (with_reducible refine w_afld ?_) | (with_reducible refine w_meth ?_) | (with_reducible refine w_make ?_) | (with_reducible refine w_rz ?_) | (with_reducible refine w_rAdd ?_) | (with_reducible refine w_rSub ?_) | (with_reducible refine w_max2 ?_) | (with_reducible refine w_lc ?_) | (with_reducible refine w_zip ?_) | (with_reducible refine w_seqv ?_) | (with_reducible refine w_rng1 ?_) | (with_reducible refine w_rng2 ?_) | (with_reducible refine w_rng3 ?_) | (with_reducible refine w_enum ?_) | (with_reducible refine w_rev ?_))
local macro_rules | `(tactic| walk_at "go") => `(tactic| repeat (walk_at "s1"))
/- BadBytes.__init__: 0 self, 1 why -/
def t_BadBytes_init (K : PySem.W.Frag) : TS :=
      (tSeq (tDrop (tVeI K (tCons (tVar 0) (tCons (tC (.str ("bytes that are none" : Str))) tNil))))
      (tOst K ("why" : Str) (tVar 0) (tVar 1)))
abbrev N_BadBytes_init : List Str := [("self" : Str), ("why" : Str)]

theorem pure_BadBytes_init {K : PySem.W.Frag} {C : Addr} (T : OexC K C) (hw : PySem.W.findIn K (.ref C) "why" = some none) (vs : List V) (H : Hp) (Q : VK) (E : XK) (h : spIni "why" K C vs H Q E) : t_BadBytes_init K { nx := fun _ H' => Q .non H', rt := Q } (L2.start N_BadBytes_init vs) H := by
  obtain ⟨a, v, rfl, ha, q⟩ := h
  unfold t_BadBytes_init
  walk_at "go"
  refine ⟨a, C, _, rfl, by show 1 ≤ 1000; decide, T, ha, ?_⟩
  walk_at "go"
  exact ⟨a, C, rfl, T, hw, .inl ⟨ha, q⟩⟩
end Ps

/-! Vca: a call of one of several defs, told by an expression. -/
namespace Ps
open PySem PySem.Spec PyProof.Rows L2
/-- the def at f, called with the written arguments -/
def PCl (X : Cx) (f : Addr) (es : List Expr) (pos : Pos) (tc : TE) : Prop := ∀ (pins : List (Addr × Obj)) (s : Shared) (σ : L2.St) (H : Hp) (Q : VK), Inv X pins σ H s → tc σ H Q →
  wpAny (model X.prog X.w) X.A (callWith pos (.ref f) [] (backTo pos (starEach es X.env)) (backToKw pos (keywordEach [] X.env))) (EP X pins σ Q) X.xe s
def tCallE (te : TE) (L : List (Addr × TE)) : TE := fun σ H Q => te σ H fun x H1 => ∃ p ∈ L, x = .ref p.1 ∧ p.2 σ H1 Q
section
variable {X : Cx} {CX : CXT} {k : Nat} {f : Addr} {fd : FuncData} {ps : List Str} {sp : Sp} {dvs : List V} {ds : List Value} {E : XK} {fe : Expr} {p pos : Pos} {e : Expr} {es : List Expr} {t : TA} {te : TE} {L : List (Addr × TE)}
theorem pcl_call (F : FnOk X.prog X.w X.K X.mg X.base CX k f fd ps sp) (hr : Room k X.A) (hk : PySem.W.keepIn X.K (.ref f) = true) (hb : Binds X.K fd ps ds) (hd : Vals dvs ds) (hx : Passes CX X E)
    (ha : PA X (e :: es) t) (he : starEach (e :: es) X.env = (false, eval e X.env) :: starEach es X.env := by rfl) (hpl : (backTo pos (starEach es X.env)).any (·.1) = false := by rfl) :
    PCl X f (e :: es) pos (tCall sp dvs E t) := by
  intro pins s σ H Q I h
  refine PySem.W.callWith_K (h₀ := X.base) I.ok.mod.kin hk (thn (ha.run pos pins s σ H _ I h) fun us s1 ⟨vs, H1, I1, r, q⟩ => ⟨I1.kIn, ?_⟩) he hpl
  exact run_fn F hr hb hd hx I1 r q
theorem pcl_callS {E : L2.St → XK} (F : FnOk X.prog X.w X.K X.mg X.base CX k f fd ps sp) (hr : Room k X.A) (hk : PySem.W.keepIn X.K (.ref f) = true) (hb : Binds X.K fd ps []) (hx : ∀ σ, PassesAt CX X σ (E σ))
    (ha : PA X (e :: es) t) (he : starEach (e :: es) X.env = (false, eval e X.env) :: starEach es X.env := by rfl) (hpl : (backTo pos (starEach es X.env)).any (·.1) = false := by rfl) :
    PCl X f (e :: es) pos (tCallS sp E t) := by
  intro pins s σ H Q I h
  refine PySem.W.callWith_K (h₀ := X.base) I.ok.mod.kin hk (thn (ha.run pos pins s σ H _ I h) fun us s1 ⟨vs, H1, I1, r, q⟩ => ⟨I1.kIn, ?_⟩) he hpl
  exact run_fnS F hr hb (hx σ) I1 r q
theorem pcls_nil : ∀ p ∈ ([] : List (Addr × TE)), PCl X p.1 es pos p.2 := fun _ h => absurd h (by simp)
theorem pcls_cons {tc : TE} (h : PCl X f es pos tc) (r : ∀ p ∈ L, PCl X p.1 es pos p.2) : ∀ p ∈ (f, tc) :: L, PCl X p.1 es pos p.2 := fun p hp => by
  rcases List.mem_cons.mp hp with rfl | hp
  · exact h
  · exact r p hp
theorem pe_callE (he : PE X fe te) (hL : ∀ p ∈ L, PCl X p.1 es pos p.2)
    (ht : eval (.Call fe es [] pos) X.env = (do callWith pos (← eval fe X.env) [] (backTo pos (starEach es X.env)) (backToKw pos (keywordEach [] X.env))) := by rfl) :
    PE X (.Call fe es [] pos) (tCallE te L) := by
  refine ⟨fun pins s σ H Q I h => ?_⟩
  rw [ht]
  refine wpAny_bind (thn (he.run pins s σ H _ I h) fun u s1 ⟨v, H1, I1, r1, p, hp, ev, q⟩ => ?_)
  subst ev
  obtain rfl : u = Value.ref p.1 := r1
  exact hL p hp pins s1 σ H1 Q I1 q
end
/-! over data -/
def vCallE (ve : VE) (L : List (Addr × VE)) : VE := fun env m P => ve env m fun x m1 => ∃ p ∈ L, x = .adr p.1 ∧ p.2 env m1 P
section
variable {c : JC} {Γ : List OT} {G G' H H' : Hp} {T S : List (Addr × HO)} {env : Env} {σ : L2.St} {m : Mst} {v : V} {d : D}
theorem Tp.adrInv {K : PySem.W.Frag} {i : Addr} (h : Tp K G H v (.adr i)) : v = .ref i := by cases h with | dd h => cases h; rfl
/-- the same defs in both -/
inductive Cls2 (c : JC) (Γ : List OT) : List (Addr × TE) → List (Addr × VE) → Prop where
  | nil : Cls2 c Γ [] []
  | cons {f : Addr} {tc : TE} {vc : VE} {L : List (Addr × TE)} {M : List (Addr × VE)} (h : SF c Γ tc vc) (r : Cls2 c Γ L M) : Cls2 c Γ ((f, tc) :: L) ((f, vc) :: M)
theorem Cls2.at {L : List (Addr × TE)} {M : List (Addr × VE)} (h : Cls2 c Γ L M) : ∀ q ∈ M, ∃ p ∈ L, p.1 = q.1 ∧ SF c Γ p.2 q.2 := by
  induction h with
  | nil => exact fun q hq => absurd hq (by simp)
  | cons h r ih =>
    intro q hq
    rcases List.mem_cons.mp hq with rfl | hq
    · exact ⟨_, List.mem_cons_self, rfl, h⟩
    · obtain ⟨p, hp, z⟩ := ih q hq
      exact ⟨p, List.mem_cons_of_mem _ hp, z⟩
theorem s_callE {te : TE} {ve : VE} {L : List (Addr × TE)} {M : List (Addr × VE)} (he : SB c Γ te ve) (h : Cls2 c Γ L M) : SF c Γ (tCallE te L) (vCallE ve M) := fun T G H S env σ m P Q st hv k =>
  he.tp st hv fun x m1 v G1 H1 S1 p1 s1 st1 t1 => by
    obtain ⟨q, hq, rfl, z⟩ := p1
    obtain ⟨p, hp, e, sf⟩ := h.at q hq
    refine ⟨p, hp, by rw [e]; exact t1.adrInv, ?_⟩
    exact sf T G1 H1 S env σ m1 _ _ st1.dropT z fun d m' v G' H' p s st' q => k d m' v G' H' p (s1.trans s) st' q
end
/-! isinstance(x, (A, B, ..)) of an exception -/
def tRefs : List Addr → TA
  | [] => tNil
  | a :: r => tCons (tC (.ref a)) (tRefs r)
theorem tRefs_at : ∀ (cs : List Addr) {σ : L2.St} {H : Hp} {Q : List V → Hp → Prop}, Q (cs.map V.ref) H → tRefs cs σ H Q
  | [], _, _, _, h => h
  | a :: r, σ, H, Q, h => tRefs_at r (σ := σ) (H := H) (Q := fun vs H1 => Q (.ref a :: vs) H1) h
def vIsiT (K : PySem.W.Frag) (ve : VE) (cs : List Addr) : VE := fun env m P => ve env m fun x m1 => ∃ C fs b, x = .exc C fs ∧ ExcC K C ∧ PySem.W.kitAny K (.ref C) (cs.map Value.ref) = some b ∧ P (.bl b) m1
section
variable {c : JC} {Γ : List OT}
theorem s_isiT {te : TE} {ve : VE} (cs : List Addr) (hl : cs.length ≤ 100) (he : SB c Γ te ve) : SO c Γ (tCB (rIsiV c.K) (tCons te (tCons (tTup (tRefs cs)) tNil))) (vIsiT c.K ve cs) := fun T G H S env σ m P Q st hv k =>
  he.tp st hv fun x m1 v G1 H1 S1 p1 s1 st1 t1 => by
    obtain ⟨C, fs, b, rfl, ec, eb, p1⟩ := p1
    obtain ⟨a, d, rfl, h1, h2⟩ := tp_exc st1.v t1
    refine tRefs_at cs ⟨by rw [List.length_map]; exact sz_le (by omega), fun p hp => ?_⟩
    have sm : Same H1 (upd H1 p (.tup (cs.map V.ref))) := same_new hp
    have h2' : ExDict (upd H1 p (.tup (cs.map V.ref))) d := by
      rcases h2 with rfl | ⟨b', xs, rfl, e⟩
      · exact .inl rfl
      · exact .inr ⟨b', xs, rfl, sm _ _ e⟩
    refine .inl (w_isXT (sm _ _ h1) h2' ec upd_same (clsv_adr cs) eb ?_)
    obtain ⟨s, C0, w, a0, z⟩ := st1.dropT
    exact k _ m1 _ G1 _ [] p1 s1 ⟨s, C0, w.same sm, a0, z⟩ ⟨rfl, .bl _⟩
end
section
variable {ve : VE} {env : Env} {m : Mst} {P : D → Mst → Prop} {K : PySem.W.Frag}
theorem e_isiT {cs : List Addr} (h : ve env m fun x m1 => ∃ C fs b, x = .exc C fs ∧ ExcC K C ∧ PySem.W.kitAny K (.ref C) (cs.map Value.ref) = some b ∧ P (.bl b) m1) : vIsiT K ve cs env m P := h
theorem e_isiX {C B : Addr} {fs : List (Str × D)} {b : Bool} {Z : D → Prop} (ec : ExcC K C) (h : PySem.W.kitOne K (.ref C) (.ref B) = some b) (k : Z (.bl b)) : vIsiE K [.exc C fs, .adr B] Z := ⟨ec, b, h, k⟩
theorem e_isiXB {C : Addr} {n : String} {fs : List (Str × D)} {b : Bool} {Z : D → Prop} (ec : ExcC K C) (h : PySem.W.kitOne K (.ref C) (.type n) = some b) (k : Z (.bl b)) : vIsiE K [.exc C fs, .ty n] Z := ⟨ec, b, h, k⟩
theorem e_fldX {f : Str} (h : ve env m fun x m1 => match x with
  | .exc C fs => ∃ d, XfC K C ∧ PySem.W.findIn K (.ref C) f = some none ∧ fs.lookup f = some d ∧ P d m1
  | _ => False) : vFldX K ve f env m P := h
theorem e_tryK {x : Value} {i j : Nat} {vb : XW → VS} {VWo : XW} {V : VEnds} (h : vb (fun C fs e m' => ∃ b, PySem.W.exmOne K (.ref C) x = some b ∧ if b = true then V.nx (((e.set i (some (.exc C fs))).set j (some (.exc C fs))).set i none) m' else VWo C fs e m') V env m) : vTryK K x i j vb VWo V env m := h
end
section
variable {ve : VE} {env : Env} {m : Mst} {P : D → Mst → Prop} {M : List (Addr × VE)}
theorem e_callE (h : ve env m fun x m1 => ∃ p ∈ M, x = .adr p.1 ∧ p.2 env m1 P) : vCallE ve M env m P := h
theorem e_of0 {f : Addr} {vc : VE} (h : vc env m P) : ∃ p ∈ ((f, vc) :: M), D.adr f = .adr p.1 ∧ p.2 env m P := ⟨(f, vc), List.mem_cons_self, rfl, h⟩
theorem e_of1 {f g : Addr} {vc wc : VE} (h : wc env m P) : ∃ p ∈ ((f, vc) :: (g, wc) :: M), D.adr g = .adr p.1 ∧ p.2 env m P := ⟨(g, wc), List.mem_cons_of_mem _ List.mem_cons_self, rfl, h⟩
end
end Ps

/-! PsM: min(xs, default=d), max(xs, default=d) of a list of ints, or of texts. -/
namespace Ps
open PySem PySem.Spec PyProof.Rows L2
open PySem
section
variable {prog : Program} {w : World} {A : Around} {s : Shared} {I S l : Addr} {vs : List Value} {kw : List (Str × Value)} {R : Result → Shared → Prop}
/-- how the items of a list stand to one another, told by bt -/
structure Mm (prog : Program) (w : World) (A : Around) (op : CmpOp) (vs : List Value) (bt : Value → Value → Bool) : Prop where
  cmp : ∀ (u v : Value) (s : Shared) (Q E : Value → Shared → Prop), u ∈ vs → v ∈ vs → Q (.bool (bt u v)) s → wpAny (model prog w) A (richCompare op u v) Q E s
  tr : ∀ x y z, bt x y = true → bt y z = true → bt x z = true
  ir : ∀ x, x ∈ vs → bt x x = false
theorem min_loop {bt : Value → Value → Bool} (hh : A.handled = none) (M : Mm prog w A.in1 .Lt vs bt) (hlI : l ≠ I) (hSI : S ≠ I) (hlS : l ≠ S) :
    ∀ (r j : Nat) (s : Shared) (vb : Value) (c : Nat), vs.length - (j + 1) = r → j + 1 ≤ vs.length → s.heap.IsListIter I l (j + 1) → s.heap.IsList l vs.toArray → vb ∈ vs → (∀ u ∈ vs.take (j + 1), bt u vb = false) →
    s.heap.get? S = some { cls := .type "list", dict := none, data := .seq #[vb, vb] c, slots := #[] } →
    (∀ v h' tk, v ∈ vs → (∀ u ∈ vs, bt u v = false) → (∀ b o, b ≠ I → b ≠ S → s.heap.get? b = some o → h'.get? b = some o) → R (.ok (.ret v)) { s with heap := h', toks := tk }) →
    codeAny (model prog w) A (.builtin "min.loop" ⟨[.ref I, .none, .ref S], kw⟩) R s := by
  have hname : (toString "min" ++ toString ".loop" : String) = "min.loop" := by decide
  have W := Walks.list (prog := prog) (w := w) (A := A.in1) hh I l hlI vs.toArray
  have hsz : vs.toArray.size = vs.length := List.size_toArray ..
  have nw : ∀ b, b ≠ I → b ∉ [I] := fun b h q => h (List.mem_singleton.mp q)
  intro r
  induction r with
  | zero =>
    intro j s vb c hr hj hit hl hm hb hS hR
    have hin : j + 1 = vs.length := by omega
    refine codeAny_builtin F.entry_min_loop ?_
    rw [Around.under_plainId F.plain_min_loop _]
    show wpAny _ A.in1 (seqItems? (.ref S) >>= _) _ _ s
    refine wpAny_bind (wpAny_seqItems hS rfl ?_)
    show wpAny _ A.in1 (tryCatch (pyNext (.ref I)) _ >>= _) _ _ s
    refine wpAny_bind (wpAny_tryCatch (W.done s _ _ ⟨by rw [hsz, ← hin]; exact hit, hl⟩ fun h' tk hk' => ?_))
    have hS' := hk' S _ (nw S hSI) hS
    show wpAny _ A.in1 (updateSeq S (fun _ => #[]) >>= _) _ _ _
    refine wpAny_bind ?_
    refine wpAny_updateSeq hS' rfl (wpAny_bind (wpAny_letGo (wpAny_pure ?_)))
    refine hR vb _ tk hm (by rw [hin, List.take_length] at hb; exact hb) fun b o hbI hbS e => (Heap.get?_update_other _ _ (Ne.symm hbS)).trans (hk' b o (nw b hbI) e)
  | succ r ih =>
    intro j s vb c hr hj hit hl hm hb hS hR
    have hlt : j + 1 < vs.length := by omega
    refine codeAny_builtin F.entry_min_loop ?_
    rw [Around.under_plainId F.plain_min_loop _]
    show wpAny _ A.in1 (seqItems? (.ref S) >>= _) _ _ s
    refine wpAny_bind (wpAny_seqItems hS rfl ?_)
    show wpAny _ A.in1 (tryCatch (pyNext (.ref I)) _ >>= _) _ _ s
    refine wpAny_bind (wpAny_tryCatch (W.item (j + 1) s _ _ (by rw [hsz]; exact hlt) ⟨hit, hl⟩ fun v h' tk hP hst' hk' => ?_))
    have hP : vs[j + 1]? = some v := by simpa using hP
    have hv : v ∈ vs := List.mem_of_getElem? hP
    obtain ⟨hit', hl'⟩ := hst'
    have hS' := hk' S _ (nw S hSI) hS
    have ht : vs.take (j + 1 + 1) = vs.take (j + 1) ++ [v] := by rw [List.take_add_one, hP]; rfl
    show wpAny _ A.in1 (tryCatch (holding [v, v] (richCompare .Lt v vb >>= _)) _ >>= _) _ _ _
    refine wpAny_bind (wpAny_tryCatch (wpAny_holding (wpAny_bind (M.cmp v vb _ _ _ hv hm ?_))))
    refine wpAny_bind (wpAny_holding (wpAny_truthy_bool ?_))
    refine wpAny_bind (wpAny_letGo (wpAny_pure ?_))
    cases hbt : bt v vb with
    | true =>
      simp only [if_true]
      refine wpAny_bind ?_
      refine wpAny_updateSeq hS' rfl (wpAny_bind (wpAny_letGo ?_))
      rw [hname]
      refine wpAny_pure ⟨plainId_quiet F.plain_min_loop _, ih (j + 1) _ v _ (by omega) (by omega) (hit'.at fun o e => (Heap.get?_update_other _ _ hSI).trans e) (hl'.at fun o e => (Heap.get?_update_other _ _ (Ne.symm hlS)).trans e) hv (fun u hu => ?_) (Heap.get?_update_self _ hS' rfl)
        fun v' h'' tk'' p1 p2 hk'' => ?_⟩
      · rw [ht] at hu
        rcases List.mem_append.mp hu with hu | hu
        · cases q : bt u v with
          | false => rfl
          | true => exact absurd (hb u hu) (by rw [M.tr _ _ _ q hbt]; decide)
        · rw [List.mem_singleton.mp hu]; exact M.ir v hv
      · exact hR v' h'' tk'' p1 p2 fun b o hbI hbS e => hk'' b o hbI hbS ((Heap.get?_update_other _ _ (Ne.symm hbS)).trans (hk' b o (nw b hbI) e))
    | false =>
      simp only [Bool.false_eq_true, if_false]
      refine wpAny_bind (wpAny_letGo ?_)
      rw [hname]
      refine wpAny_pure ⟨plainId_quiet F.plain_min_loop _, ih (j + 1) _ vb c (by omega) (by omega) hit' hl' hm (fun u hu => ?_) hS' fun v' h'' tk'' p1 p2 hk'' => ?_⟩
      · rw [ht] at hu
        rcases List.mem_append.mp hu with hu | hu
        · exact hb u hu
        · rw [List.mem_singleton.mp hu]; exact hbt
      · exact hR v' h'' tk'' p1 p2 fun b o hbI hbS e => hk'' b o hbI hbS (hk' b o (nw b hbI) e)
theorem min_args (a v : Value) : argsOk "min" ⟨[a], [(Str.ofString "default", v)]⟩ := by unfold argsOk; kernel_rfl
theorem min_dflt {bt : Value → Value → Bool} {d : Value} {Q E : Value → Shared → Prop} (hh : A.handled = none) (hl : s.heap.IsList l vs.toArray) (M : Mm prog w A.in1 .Lt vs bt)
    (h0 : vs = [] → ∀ h' tk, (∀ b o, s.heap.get? b = some o → h'.get? b = some o) → Q d { s with heap := h', toks := tk })
    (hQ : ∀ v h' tk, v ∈ vs → (∀ u ∈ vs, bt u v = false) → (∀ b o, s.heap.get? b = some o → h'.get? b = some o) → Q v { s with heap := h', toks := tk }) :
    wpAny (model prog w) A (call (.builtin "min") [.ref l] [(Str.ofString "default", d)]) Q E s := by
  have hname : (toString "min" ++ toString ".loop" : String) = "min.loop" := by decide
  obtain ⟨ol, hol, _⟩ := id hl
  have hll : l < s.heap.objs.size := Heap.lt_size hol
  refine kmk_tree F.kind_min F.plain_min F.entry_min (min_args _ _) ?_
  show wpAny _ A.in1 (Builtin.Builtins.bindParams "min" ["key", "default"] 0 ⟨[], [(Str.ofString "default", d)]⟩ >>= _) _ _ s
  refine wpAny_bind (wpAny_of_eq (show Builtin.Builtins.bindParams "min" ["key", "default"] 0 ⟨[], [(Str.ofString "default", d)]⟩ = pure [none, some d] from rfl) ?_)
  refine wpAny_bind (wpAny_pure ?_)
  refine wpAny_bind (wpAny_pyIter_list hl ?_)
  refine wpAny_bind (wpAny_newList ?_ (Nat.zero_le _))
  rw [hname]
  have hS : (s.heap.push { cls := .type "list_iterator", data := .fields #[.ref l, .int 0 0] }).objs.size = s.heap.objs.size + 1 := Heap.size_push ..
  have hlI : l ≠ s.heap.objs.size := Nat.ne_of_lt hll
  have hSI : (s.heap.push { cls := .type "list_iterator", data := .fields #[.ref l, .int 0 0] }).objs.size ≠ s.heap.objs.size := by rw [hS]; exact Nat.ne_of_gt (Nat.lt_succ_self _)
  have hlS : l ≠ (s.heap.push { cls := .type "list_iterator", data := .fields #[.ref l, .int 0 0] }).objs.size := by rw [hS]; exact Nat.ne_of_lt (Nat.lt_succ_of_lt hll)
  refine wpAny_pure ⟨plainId_quiet F.plain_min_loop _, ?_⟩
  have gI : ((s.heap.push { cls := .type "list_iterator", data := .fields #[.ref l, .int 0 0] }).push (seqObj "list" #[] 0)).get? s.heap.objs.size = some { cls := .type "list_iterator", data := .fields #[.ref l, .int 0 0] } :=
    Heap.get?_push_of_some _ (Heap.get?_push_size _ rfl)
  have gS : ((s.heap.push { cls := .type "list_iterator", data := .fields #[.ref l, .int 0 0] }).push (seqObj "list" #[] 0)).get? (s.heap.push { cls := .type "list_iterator", data := .fields #[.ref l, .int 0 0] }).objs.size = some (seqObj "list" #[] 0) := Heap.get?_push_size _ rfl
  have old : ∀ b o, s.heap.get? b = some o → ((s.heap.push { cls := .type "list_iterator", data := .fields #[.ref l, .int 0 0] }).push (seqObj "list" #[] 0)).get? b = some o := fun b o e => Heap.get?_push_of_some _ (Heap.get?_push_of_some _ e)
  have oldI : ∀ b o, s.heap.get? b = some o → b ≠ s.heap.objs.size := fun b o e => Nat.ne_of_lt (Heap.lt_size e)
  have oldS : ∀ b o, s.heap.get? b = some o → b ≠ (s.heap.push { cls := .type "list_iterator", data := .fields #[.ref l, .int 0 0] }).objs.size := fun b o e => by rw [hS]; exact Nat.ne_of_lt (Nat.lt_succ_of_lt (Heap.lt_size e))
  have hit0 : ((s.heap.push { cls := .type "list_iterator", data := .fields #[.ref l, .int 0 0] }).push (seqObj "list" #[] 0)).IsListIter s.heap.objs.size l 0 := ⟨_, gI, rfl, rfl⟩
  have hl0 : ((s.heap.push { cls := .type "list_iterator", data := .fields #[.ref l, .int 0 0] }).push (seqObj "list" #[] 0)).IsList l vs.toArray := hl.at fun o e => old _ _ e
  have nw : ∀ b, b ≠ s.heap.objs.size → b ∉ [s.heap.objs.size] := fun b h q => h (List.mem_singleton.mp q)
  generalize (s.heap.push { cls := .type "list_iterator", data := .fields #[.ref l, .int 0 0] }).objs.size = S at *
  generalize ((s.heap.push { cls := .type "list_iterator", data := .fields #[.ref l, .int 0 0] }).push (seqObj "list" #[] 0)) = h1 at *
  generalize s.heap.objs.size = I at *
  have W := Walks.list (prog := prog) (w := w) (A := A.in1) hh I l hlI vs.toArray
  refine codeAny_builtin F.entry_min_loop ?_
  rw [Around.under_plainId F.plain_min_loop _]
  show wpAny _ A.in1 (seqItems? (.ref S) >>= _) _ _ _
  refine wpAny_bind (wpAny_seqItems gS rfl ?_)
  show wpAny _ A.in1 (tryCatch (pyNext (.ref I)) _ >>= _) _ _ _
  cases hvs : vs with
  | nil =>
    subst hvs
    refine wpAny_bind (wpAny_tryCatch (W.done _ _ _ ⟨hit0, hl0⟩ fun h' tk hk' => ?_))
    refine wpAny_bind (wpAny_rule ?_)
    refine wpAny_pure ?_
    exact h0 rfl _ tk fun b o e => hk' b o (nw b (oldI b o e)) (old b o e)
  | cons v0 vr =>
    have hpos : 0 < vs.toArray.size := by rw [hvs]; simp
    refine wpAny_bind (wpAny_tryCatch (W.item 0 _ _ _ hpos ⟨hit0, hl0⟩ fun v h' tk hP hst' hk' => ?_))
    have hP : vs[0]? = some v := by simpa using hP
    have hv : v ∈ vs := List.mem_of_getElem? hP
    obtain ⟨hit', hl'⟩ := hst'
    have hS' := hk' S _ (nw S hSI) gS
    show wpAny _ A.in1 (updateSeq S (fun _ => #[v, v]) >>= _) _ _ _
    refine wpAny_bind ?_
    refine wpAny_updateSeq hS' rfl ?_
    rw [hname]
    refine wpAny_pure ⟨plainId_quiet F.plain_min_loop _, min_loop hh M hlI hSI hlS _ 0 _ v _ rfl (by rw [hvs]; simp) (hit'.at fun o e => (Heap.get?_update_other _ _ hSI).trans e) (hl'.at fun o e => (Heap.get?_update_other _ _ (Ne.symm hlS)).trans e) hv (fun u hu => ?_) (Heap.get?_update_self _ hS' rfl) fun v' h'' tk'' p1 p2 hk'' => ?_⟩
    · rw [List.take_add_one, List.take_zero, hP] at hu
      rw [List.mem_singleton.mp hu]; exact M.ir v hv
    · exact hQ v' h'' tk'' p1 p2 fun b o e => hk'' b o (oldI b o e) (oldS b o e) ((Heap.get?_update_other _ _ (Ne.symm (oldS b o e))).trans (hk' b o (nw b (oldI b o e)) (old b o e)))
theorem max_loop {bt : Value → Value → Bool} (hh : A.handled = none) (M : Mm prog w A.in1 .Gt vs bt) (hlI : l ≠ I) (hSI : S ≠ I) (hlS : l ≠ S) :
    ∀ (r j : Nat) (s : Shared) (vb : Value) (c : Nat), vs.length - (j + 1) = r → j + 1 ≤ vs.length → s.heap.IsListIter I l (j + 1) → s.heap.IsList l vs.toArray → vb ∈ vs → (∀ u ∈ vs.take (j + 1), bt u vb = false) →
    s.heap.get? S = some { cls := .type "list", dict := none, data := .seq #[vb, vb] c, slots := #[] } →
    (∀ v h' tk, v ∈ vs → (∀ u ∈ vs, bt u v = false) → (∀ b o, b ≠ I → b ≠ S → s.heap.get? b = some o → h'.get? b = some o) → R (.ok (.ret v)) { s with heap := h', toks := tk }) →
    codeAny (model prog w) A (.builtin "max.loop" ⟨[.ref I, .none, .ref S], kw⟩) R s := by
  have hname : (toString "max" ++ toString ".loop" : String) = "max.loop" := by decide
  have W := Walks.list (prog := prog) (w := w) (A := A.in1) hh I l hlI vs.toArray
  have hsz : vs.toArray.size = vs.length := List.size_toArray ..
  have nw : ∀ b, b ≠ I → b ∉ [I] := fun b h q => h (List.mem_singleton.mp q)
  intro r
  induction r with
  | zero =>
    intro j s vb c hr hj hit hl hm hb hS hR
    have hin : j + 1 = vs.length := by omega
    refine codeAny_builtin F.entry_max_loop ?_
    rw [Around.under_plainId F.plain_max_loop _]
    show wpAny _ A.in1 (seqItems? (.ref S) >>= _) _ _ s
    refine wpAny_bind (wpAny_seqItems hS rfl ?_)
    show wpAny _ A.in1 (tryCatch (pyNext (.ref I)) _ >>= _) _ _ s
    refine wpAny_bind (wpAny_tryCatch (W.done s _ _ ⟨by rw [hsz, ← hin]; exact hit, hl⟩ fun h' tk hk' => ?_))
    have hS' := hk' S _ (nw S hSI) hS
    show wpAny _ A.in1 (updateSeq S (fun _ => #[]) >>= _) _ _ _
    refine wpAny_bind ?_
    refine wpAny_updateSeq hS' rfl (wpAny_bind (wpAny_letGo (wpAny_pure ?_)))
    refine hR vb _ tk hm (by rw [hin, List.take_length] at hb; exact hb) fun b o hbI hbS e => (Heap.get?_update_other _ _ (Ne.symm hbS)).trans (hk' b o (nw b hbI) e)
  | succ r ih =>
    intro j s vb c hr hj hit hl hm hb hS hR
    have hlt : j + 1 < vs.length := by omega
    refine codeAny_builtin F.entry_max_loop ?_
    rw [Around.under_plainId F.plain_max_loop _]
    show wpAny _ A.in1 (seqItems? (.ref S) >>= _) _ _ s
    refine wpAny_bind (wpAny_seqItems hS rfl ?_)
    show wpAny _ A.in1 (tryCatch (pyNext (.ref I)) _ >>= _) _ _ s
    refine wpAny_bind (wpAny_tryCatch (W.item (j + 1) s _ _ (by rw [hsz]; exact hlt) ⟨hit, hl⟩ fun v h' tk hP hst' hk' => ?_))
    have hP : vs[j + 1]? = some v := by simpa using hP
    have hv : v ∈ vs := List.mem_of_getElem? hP
    obtain ⟨hit', hl'⟩ := hst'
    have hS' := hk' S _ (nw S hSI) hS
    have ht : vs.take (j + 1 + 1) = vs.take (j + 1) ++ [v] := by rw [List.take_add_one, hP]; rfl
    show wpAny _ A.in1 (tryCatch (holding [v, v] (richCompare .Gt v vb >>= _)) _ >>= _) _ _ _
    refine wpAny_bind (wpAny_tryCatch (wpAny_holding (wpAny_bind (M.cmp v vb _ _ _ hv hm ?_))))
    refine wpAny_bind (wpAny_holding (wpAny_truthy_bool ?_))
    refine wpAny_bind (wpAny_letGo (wpAny_pure ?_))
    cases hbt : bt v vb with
    | true =>
      simp only [if_true]
      refine wpAny_bind ?_
      refine wpAny_updateSeq hS' rfl (wpAny_bind (wpAny_letGo ?_))
      rw [hname]
      refine wpAny_pure ⟨plainId_quiet F.plain_max_loop _, ih (j + 1) _ v _ (by omega) (by omega) (hit'.at fun o e => (Heap.get?_update_other _ _ hSI).trans e) (hl'.at fun o e => (Heap.get?_update_other _ _ (Ne.symm hlS)).trans e) hv (fun u hu => ?_) (Heap.get?_update_self _ hS' rfl)
        fun v' h'' tk'' p1 p2 hk'' => ?_⟩
      · rw [ht] at hu
        rcases List.mem_append.mp hu with hu | hu
        · cases q : bt u v with
          | false => rfl
          | true => exact absurd (hb u hu) (by rw [M.tr _ _ _ q hbt]; decide)
        · rw [List.mem_singleton.mp hu]; exact M.ir v hv
      · exact hR v' h'' tk'' p1 p2 fun b o hbI hbS e => hk'' b o hbI hbS ((Heap.get?_update_other _ _ (Ne.symm hbS)).trans (hk' b o (nw b hbI) e))
    | false =>
      simp only [Bool.false_eq_true, if_false]
      refine wpAny_bind (wpAny_letGo ?_)
      rw [hname]
      refine wpAny_pure ⟨plainId_quiet F.plain_max_loop _, ih (j + 1) _ vb c (by omega) (by omega) hit' hl' hm (fun u hu => ?_) hS' fun v' h'' tk'' p1 p2 hk'' => ?_⟩
      · rw [ht] at hu
        rcases List.mem_append.mp hu with hu | hu
        · exact hb u hu
        · rw [List.mem_singleton.mp hu]; exact hbt
      · exact hR v' h'' tk'' p1 p2 fun b o hbI hbS e => hk'' b o hbI hbS (hk' b o (nw b hbI) e)
theorem max_args (a v : Value) : argsOk "max" ⟨[a], [(Str.ofString "default", v)]⟩ := by unfold argsOk; kernel_rfl
theorem max_dflt {bt : Value → Value → Bool} {d : Value} {Q E : Value → Shared → Prop} (hh : A.handled = none) (hl : s.heap.IsList l vs.toArray) (M : Mm prog w A.in1 .Gt vs bt)
    (h0 : vs = [] → ∀ h' tk, (∀ b o, s.heap.get? b = some o → h'.get? b = some o) → Q d { s with heap := h', toks := tk })
    (hQ : ∀ v h' tk, v ∈ vs → (∀ u ∈ vs, bt u v = false) → (∀ b o, s.heap.get? b = some o → h'.get? b = some o) → Q v { s with heap := h', toks := tk }) :
    wpAny (model prog w) A (call (.builtin "max") [.ref l] [(Str.ofString "default", d)]) Q E s := by
  have hname : (toString "max" ++ toString ".loop" : String) = "max.loop" := by decide
  obtain ⟨ol, hol, _⟩ := id hl
  have hll : l < s.heap.objs.size := Heap.lt_size hol
  refine kmk_tree F.kind_max F.plain_max F.entry_max (max_args _ _) ?_
  show wpAny _ A.in1 (Builtin.Builtins.bindParams "max" ["key", "default"] 0 ⟨[], [(Str.ofString "default", d)]⟩ >>= _) _ _ s
  refine wpAny_bind (wpAny_of_eq (show Builtin.Builtins.bindParams "max" ["key", "default"] 0 ⟨[], [(Str.ofString "default", d)]⟩ = pure [none, some d] from rfl) ?_)
  refine wpAny_bind (wpAny_pure ?_)
  refine wpAny_bind (wpAny_pyIter_list hl ?_)
  refine wpAny_bind (wpAny_newList ?_ (Nat.zero_le _))
  rw [hname]
  have hS : (s.heap.push { cls := .type "list_iterator", data := .fields #[.ref l, .int 0 0] }).objs.size = s.heap.objs.size + 1 := Heap.size_push ..
  have hlI : l ≠ s.heap.objs.size := Nat.ne_of_lt hll
  have hSI : (s.heap.push { cls := .type "list_iterator", data := .fields #[.ref l, .int 0 0] }).objs.size ≠ s.heap.objs.size := by rw [hS]; exact Nat.ne_of_gt (Nat.lt_succ_self _)
  have hlS : l ≠ (s.heap.push { cls := .type "list_iterator", data := .fields #[.ref l, .int 0 0] }).objs.size := by rw [hS]; exact Nat.ne_of_lt (Nat.lt_succ_of_lt hll)
  refine wpAny_pure ⟨plainId_quiet F.plain_max_loop _, ?_⟩
  have gI : ((s.heap.push { cls := .type "list_iterator", data := .fields #[.ref l, .int 0 0] }).push (seqObj "list" #[] 0)).get? s.heap.objs.size = some { cls := .type "list_iterator", data := .fields #[.ref l, .int 0 0] } :=
    Heap.get?_push_of_some _ (Heap.get?_push_size _ rfl)
  have gS : ((s.heap.push { cls := .type "list_iterator", data := .fields #[.ref l, .int 0 0] }).push (seqObj "list" #[] 0)).get? (s.heap.push { cls := .type "list_iterator", data := .fields #[.ref l, .int 0 0] }).objs.size = some (seqObj "list" #[] 0) := Heap.get?_push_size _ rfl
  have old : ∀ b o, s.heap.get? b = some o → ((s.heap.push { cls := .type "list_iterator", data := .fields #[.ref l, .int 0 0] }).push (seqObj "list" #[] 0)).get? b = some o := fun b o e => Heap.get?_push_of_some _ (Heap.get?_push_of_some _ e)
  have oldI : ∀ b o, s.heap.get? b = some o → b ≠ s.heap.objs.size := fun b o e => Nat.ne_of_lt (Heap.lt_size e)
  have oldS : ∀ b o, s.heap.get? b = some o → b ≠ (s.heap.push { cls := .type "list_iterator", data := .fields #[.ref l, .int 0 0] }).objs.size := fun b o e => by rw [hS]; exact Nat.ne_of_lt (Nat.lt_succ_of_lt (Heap.lt_size e))
  have hit0 : ((s.heap.push { cls := .type "list_iterator", data := .fields #[.ref l, .int 0 0] }).push (seqObj "list" #[] 0)).IsListIter s.heap.objs.size l 0 := ⟨_, gI, rfl, rfl⟩
  have hl0 : ((s.heap.push { cls := .type "list_iterator", data := .fields #[.ref l, .int 0 0] }).push (seqObj "list" #[] 0)).IsList l vs.toArray := hl.at fun o e => old _ _ e
  have nw : ∀ b, b ≠ s.heap.objs.size → b ∉ [s.heap.objs.size] := fun b h q => h (List.mem_singleton.mp q)
  generalize (s.heap.push { cls := .type "list_iterator", data := .fields #[.ref l, .int 0 0] }).objs.size = S at *
  generalize ((s.heap.push { cls := .type "list_iterator", data := .fields #[.ref l, .int 0 0] }).push (seqObj "list" #[] 0)) = h1 at *
  generalize s.heap.objs.size = I at *
  have W := Walks.list (prog := prog) (w := w) (A := A.in1) hh I l hlI vs.toArray
  refine codeAny_builtin F.entry_max_loop ?_
  rw [Around.under_plainId F.plain_max_loop _]
  show wpAny _ A.in1 (seqItems? (.ref S) >>= _) _ _ _
  refine wpAny_bind (wpAny_seqItems gS rfl ?_)
  show wpAny _ A.in1 (tryCatch (pyNext (.ref I)) _ >>= _) _ _ _
  cases hvs : vs with
  | nil =>
    subst hvs
    refine wpAny_bind (wpAny_tryCatch (W.done _ _ _ ⟨hit0, hl0⟩ fun h' tk hk' => ?_))
    refine wpAny_bind (wpAny_rule ?_)
    refine wpAny_pure ?_
    exact h0 rfl _ tk fun b o e => hk' b o (nw b (oldI b o e)) (old b o e)
  | cons v0 vr =>
    have hpos : 0 < vs.toArray.size := by rw [hvs]; simp
    refine wpAny_bind (wpAny_tryCatch (W.item 0 _ _ _ hpos ⟨hit0, hl0⟩ fun v h' tk hP hst' hk' => ?_))
    have hP : vs[0]? = some v := by simpa using hP
    have hv : v ∈ vs := List.mem_of_getElem? hP
    obtain ⟨hit', hl'⟩ := hst'
    have hS' := hk' S _ (nw S hSI) gS
    show wpAny _ A.in1 (updateSeq S (fun _ => #[v, v]) >>= _) _ _ _
    refine wpAny_bind ?_
    refine wpAny_updateSeq hS' rfl ?_
    rw [hname]
    refine wpAny_pure ⟨plainId_quiet F.plain_max_loop _, max_loop hh M hlI hSI hlS _ 0 _ v _ rfl (by rw [hvs]; simp) (hit'.at fun o e => (Heap.get?_update_other _ _ hSI).trans e) (hl'.at fun o e => (Heap.get?_update_other _ _ (Ne.symm hlS)).trans e) hv (fun u hu => ?_) (Heap.get?_update_self _ hS' rfl) fun v' h'' tk'' p1 p2 hk'' => ?_⟩
    · rw [List.take_add_one, List.take_zero, hP] at hu
      rw [List.mem_singleton.mp hu]; exact M.ir v hv
    · exact hQ v' h'' tk'' p1 p2 fun b o e => hk'' b o (oldI b o e) (oldS b o e) ((Heap.get?_update_other _ _ (Ne.symm (oldS b o e))).trans (hk' b o (nw b (oldI b o e)) (old b o e)))
end
end Ps

/-! Vkw: calls with keywords; min, max with default=; sorted of ints, of texts. -/
namespace Ps
open PySem PySem.Spec PyProof.Rows L2
theorem lexT (x y z : List Nat) (h1 : x < y) (h2 : y < z) : x < z := List.lt_trans h1 h2
/-! ### texts sorted, any number of them -/
def svS : Value → Str
  | .str z _ => z
  | _ => Str.empty
def ltSv (v u : Value) : Bool := decide ((svS v).cps.toList < (svS u).cps.toList)
theorem swo_str : SrtO.Swo ltSv := by
  refine ⟨fun x y h => ?_, fun x y z h1 h2 => ?_⟩
  · have a := of_decide_eq_true (p := (svS x).cps.toList < (svS y).cps.toList) h
    exact decide_eq_false (p := (svS y).cps.toList < (svS x).cps.toList) fun b => List.lt_irrefl _ (List.lt_trans a b)
  · have a := of_decide_eq_false (p := (svS y).cps.toList < (svS x).cps.toList) h1
    have b := of_decide_eq_false (p := (svS z).cps.toList < (svS y).cps.toList) h2
    exact decide_eq_false (p := (svS z).cps.toList < (svS x).cps.toList) fun c => by
      have a' := List.not_lt.mp a
      have b' := List.not_lt.mp b
      exact List.not_lt.mpr (List.le_trans a' b') c
theorem strs_mem : ∀ {vs : List Value} {ns : List Str}, StrsAre vs ns → ∀ v ∈ vs, ∃ i t, v = Value.str i t
  | _, _, .nil, v, h => absurd h (by simp)
  | _, _, .cons n t r, v, h => by
    rcases List.mem_cons.mp h with e | h
    · exact ⟨n, t, e⟩
    · exact strs_mem r v h
theorem strs_sv : ∀ {vs : List Value} {ns : List Str}, StrsAre vs ns → vs.map svS = ns
  | _, _, .nil => rfl
  | _, _, .cons n t r => congrArg (n :: ·) (strs_sv r)
theorem vals_svS : ∀ {vs : List Value}, (∀ v ∈ vs, ∃ i t, v = Value.str i t) → Vals ((vs.map svS).map V.str) vs
  | [], _ => .nil
  | v :: vs, h => by
    obtain ⟨i, t, e⟩ := h v List.mem_cons_self
    subst e
    exact .cons ⟨t, rfl⟩ (vals_svS fun u hu => h u (List.mem_cons_of_mem _ hu))
section
variable {prog : Program} {w : World} {A : Around} {E : Value → Shared → Prop} {s : Shared}
theorem str_cmp {vs : List Value} {ns : List Str} (hI : StrsAre vs ns) : SrtO.Cmp prog w A s oneType' (fun p => p.1 ∈ vs) (SrtO.lt2 ltSv) := by
  intro p q hm hm'
  obtain ⟨a, t, e⟩ := strs_mem hI _ hm
  obtain ⟨b, u, e'⟩ := strs_mem hI _ hm'
  show wpAny (model prog w) A (keyLt' oneType' p.1 q.1) (fun r s' => s' = s ∧ r = ltSv p.1 q.1) (fun _ _ => False) s
  rw [e, e', keyLt'_oneType]
  exact oneLt_str ⟨rfl, rfl⟩
theorem strs_sortable {a : Addr} {vs : List Value} {ns : List Str} (hI : StrsAre vs ns) (h2 : 2 ≤ vs.length) : SrtO.SortableO prog w A s a vs ltSv := by
  intro h' _
  refine ⟨oneType', fun Q E hq => ?_, str_cmp hI⟩
  match vs, hI, h2 with
  | v1 :: v2 :: rest, hI, _ =>
    rw [keyKind_strs hI]
    exact wpAny_pure hq
  | [], _, h => exact absurd h (by decide)
  | [v], _, h => exact absurd h (by simp)
end
def rSortedT (K : PySem.W.Frag) : List V → Hp → VK → Prop := fun vs H Q => ∃ (a : Addr) (ns : List Str), vs = [V.ref a] ∧ SqL K H a (ns.map V.str) ∧
  ∀ (ns' : List Str) (p : Addr), ns'.Perm ns → ns'.Pairwise (fun x y => ¬ y.cps.toList < x.cps.toList) → H p = none → Q (.ref p) (upd H p (.lst (ns'.map V.str)))
theorem cr_sortedT2 {X : Cx} : CallR X (.builtin "sorted") (rSortedT X.K) := by
  intro pins s σ H vs us Q I r h
  obtain ⟨a, ns, rfl, hs, q⟩ := h
  obtain ⟨its, rv, hl, hz⟩ := I.list hs
  rw [Vals.ref1 r]
  have hi := rv.strs
  refine SrtO.sorted_ord swo_str hl.isList (by rw [← rv.length]; exact hz) (fun h2 h₁ a' _ _ => strs_sortable hi h2) fun out h1 h2 => ?_
  have hall : ∀ v ∈ out, ∃ i t, v = Value.str i t := fun v hv => strs_mem hi v (h2.perm.mem_iff.mp hv)
  have k2 : (out.map svS).Perm ns := by
    have q := h2.perm.map svS
    rw [strs_sv hi] at q
    exact q
  have k3 : (out.map svS).Pairwise (fun x y => ¬ y.cps.toList < x.cps.toList) := List.pairwise_map.mpr (h1.imp fun {x y} h => of_decide_eq_false (p := (svS y).cps.toList < (svS x).cps.toList) h)
  obtain ⟨ep, he'⟩ := PyProof.Rows.sortedAll_at s.heap its out.toArray
  have hlen : ((out.map svS).map V.str).length ≤ sizeLine := by
    rw [List.length_map, k2.length_eq]
    rw [List.length_map] at hz
    exact hz
  exact ⟨.ref _, upd H (s.heap.objs.size + 1) (.lst ((out.map svS).map V.str)), I.laid (t' := s.toks) (fun _ _ => PyProof.Rows.sortedAll_old) (Nat.le_succ _) ⟨hlen, out, ep, vals_svS hall, he'⟩, rfl, q _ _ k2 k3 (I.hok.fresh (Nat.le_succ _))⟩
def rSortIT (K : PySem.W.Frag) : List V → Hp → VK → Prop := fun vs H Q => rSortedI K vs H Q ∨ rSortedT K vs H Q
theorem cr_sortIT {X : Cx} : CallR X (.builtin "sorted") (rSortIT X.K) := callr_or cr_sortedI cr_sortedT2
/-! ### min, max with a default -/
def ltIB (u v : Value) : Bool := match u, v with
  | .int i _, .int j _ => decide (i < j)
  | _, _ => false
def gtIB (u v : Value) : Bool := ltIB v u
def ltSB (u v : Value) : Bool := match u, v with
  | .str i _, .str j _ => decide (i.cps.toList < j.cps.toList)
  | _, _ => false
def gtSB (u v : Value) : Bool := ltSB v u
theorem ltIB_tr (x y z : Value) (h1 : ltIB x y = true) (h2 : ltIB y z = true) : ltIB x z = true := by
  cases x <;> try (exact absurd h1 Bool.false_ne_true)
  cases y <;> try (exact absurd h1 Bool.false_ne_true)
  cases z <;> try (exact absurd h2 Bool.false_ne_true)
  simp only [ltIB, decide_eq_true_eq] at *
  omega
theorem ltSB_tr (x y z : Value) (h1 : ltSB x y = true) (h2 : ltSB y z = true) : ltSB x z = true := by
  cases x <;> try (exact absurd h1 Bool.false_ne_true)
  cases y <;> try (exact absurd h1 Bool.false_ne_true)
  cases z <;> try (exact absurd h2 Bool.false_ne_true)
  simp only [ltSB, decide_eq_true_eq] at *
  exact List.lt_trans h1 h2
theorem ltIB_ir (x : Value) : ltIB x x = false := by
  cases x <;> try rfl
  exact decide_eq_false (Int.lt_irrefl _)
theorem ltSB_ir (x : Value) : ltSB x x = false := by
  cases x <;> try rfl
  exact decide_eq_false (List.lt_irrefl _)
section
variable {prog : Program} {w : World} {A : Around} {vs : List Value}
theorem mm_ints_lt (h : ∀ u ∈ vs, ∃ i t, u = Value.int i t) : Mm prog w A .Lt vs ltIB := ⟨fun u v s Q E hu hv q => by
  obtain ⟨i, t, rfl⟩ := h u hu
  obtain ⟨j, r, rfl⟩ := h v hv
  exact richCompare_gives (op := .Lt) (typeIs_int s _ t) (typeIs_int s _ r) F.slot_int_lt F.entry_int_lt (F.args_int_lt_2 _ _) (gives_int_lt _ _ t r) (fun x => nomatch x) q, ltIB_tr, fun x _ => ltIB_ir x⟩
theorem mm_ints_gt (h : ∀ u ∈ vs, ∃ i t, u = Value.int i t) : Mm prog w A .Gt vs gtIB := ⟨fun u v s Q E hu hv q => by
  obtain ⟨i, t, rfl⟩ := h u hu
  obtain ⟨j, r, rfl⟩ := h v hv
  exact richCompare_gives (op := .Gt) (typeIs_int s _ t) (typeIs_int s _ r) F.slot_int_gt F.entry_int_gt (F.args_int_gt_2 _ _) (gives_int_gt _ _ t r) (fun x => nomatch x) q, fun x y z a b => ltIB_tr z y x b a, fun x _ => ltIB_ir x⟩
theorem mm_strs_lt (h : ∀ u ∈ vs, ∃ i t, u = Value.str i t) : Mm prog w A .Lt vs ltSB := ⟨fun u v s Q E hu hv q => by
  obtain ⟨i, t, rfl⟩ := h u hu
  obtain ⟨j, r, rfl⟩ := h v hv
  exact richCompare_gives (op := .Lt) (typeIs_str s _ t) (typeIs_str s _ r) F.slot_str_lt F.entry_str_lt (F.args_str_lt_2 _ _) (gives_str_lt _ _ t r) (fun x => nomatch x) q, ltSB_tr, fun x _ => ltSB_ir x⟩
theorem mm_strs_gt (h : ∀ u ∈ vs, ∃ i t, u = Value.str i t) : Mm prog w A .Gt vs gtSB := ⟨fun u v s Q E hu hv q => by
  obtain ⟨i, t, rfl⟩ := h u hu
  obtain ⟨j, r, rfl⟩ := h v hv
  exact richCompare_gives (op := .Gt) (typeIs_str s _ t) (typeIs_str s _ r) F.slot_str_gt F.entry_str_gt (F.args_str_gt_2 _ _) (gives_str_gt _ _ t r) (fun x => nomatch x) q, fun x y z a b => ltSB_tr z y x b a, fun x _ => ltSB_ir x⟩
end
theorem vals_int : ∀ {ns : List Int} {us : List Value}, Vals (ns.map V.int) us → (∀ u ∈ us, ∃ i t, u = Value.int i t ∧ i ∈ ns) ∧ ∀ i ∈ ns, ∃ t, Value.int i t ∈ us
  | [], _, .nil => ⟨fun u h => absurd h (by simp), fun i h => absurd h (by simp)⟩
  | n :: ns, _, .cons ⟨t, e⟩ r => by
    subst e
    obtain ⟨h1, h2⟩ := vals_int r
    refine ⟨fun u h => ?_, fun i h => ?_⟩
    · rcases List.mem_cons.mp h with rfl | h
      · exact ⟨n, t, rfl, List.mem_cons_self⟩
      · obtain ⟨i, t, e, h⟩ := h1 u h
        exact ⟨i, t, e, List.mem_cons_of_mem _ h⟩
    · rcases List.mem_cons.mp h with rfl | h
      · exact ⟨t, List.mem_cons_self⟩
      · obtain ⟨t, h⟩ := h2 i h
        exact ⟨t, List.mem_cons_of_mem _ h⟩
theorem vals_str : ∀ {ns : List Str} {us : List Value}, Vals (ns.map V.str) us → (∀ u ∈ us, ∃ i t, u = Value.str i t ∧ i ∈ ns) ∧ ∀ i ∈ ns, ∃ t, Value.str i t ∈ us
  | [], _, .nil => ⟨fun u h => absurd h (by simp), fun i h => absurd h (by simp)⟩
  | n :: ns, _, .cons ⟨t, e⟩ r => by
    subst e
    obtain ⟨h1, h2⟩ := vals_str r
    refine ⟨fun u h => ?_, fun i h => ?_⟩
    · rcases List.mem_cons.mp h with rfl | h
      · exact ⟨n, t, rfl, List.mem_cons_self⟩
      · obtain ⟨i, t, e, h⟩ := h1 u h
        exact ⟨i, t, e, List.mem_cons_of_mem _ h⟩
    · rcases List.mem_cons.mp h with rfl | h
      · exact ⟨t, List.mem_cons_self⟩
      · obtain ⟨t, h⟩ := h2 i h
        exact ⟨t, List.mem_cons_of_mem _ h⟩
def rMinD (K : PySem.W.Frag) : List V → List V → Hp → VK → Prop := fun xs zs H Q => ∃ (a : Addr) (d : V) (ys : List V), xs = [.ref a] ∧ zs = [d] ∧ SqL K H a ys ∧ ((ys = [] ∧ Q d H) ∨
  (∃ ns : List Int, ys = ns.map V.int ∧ ns ≠ [] ∧ ∀ m ∈ ns, (∀ y ∈ ns, m ≤ y) → Q (.int m) H) ∨ ∃ ns : List Str, ys = ns.map V.str ∧ ns ≠ [] ∧ ∀ m ∈ ns, (∀ y ∈ ns, ¬ y.cps.toList < m.cps.toList) → Q (.str m) H)
def rMaxD (K : PySem.W.Frag) : List V → List V → Hp → VK → Prop := fun xs zs H Q => ∃ (a : Addr) (d : V) (ys : List V), xs = [.ref a] ∧ zs = [d] ∧ SqL K H a ys ∧ ((ys = [] ∧ Q d H) ∨
  (∃ ns : List Int, ys = ns.map V.int ∧ ns ≠ [] ∧ ∀ m ∈ ns, (∀ y ∈ ns, y ≤ m) → Q (.int m) H) ∨ ∃ ns : List Str, ys = ns.map V.str ∧ ns ≠ [] ∧ ∀ m ∈ ns, (∀ y ∈ ns, ¬ m.cps.toList < y.cps.toList) → Q (.str m) H)
theorem ck_min {X : Cx} (hc : X.calm = true) : CallRK X (.builtin "min") [Str.ofString "default"] (rMinD X.K) := by
  intro pins s σ H vs zs us ws Q I r rz h
  obtain ⟨a, d, ys, rfl, rfl, hs, q⟩ := h
  obtain rfl := Vals.ref1 r
  obtain ⟨w1, rfl, e1⟩ := vals1 rz
  obtain ⟨its, rv, hl, hz⟩ := I.list hs
  rcases q with ⟨rfl, q⟩ | ⟨ns, rfl, hne, q⟩ | ⟨ns, rfl, hne, q⟩
  · cases rv
    exact min_dflt (vs := []) (I.ok.hd hc) hl.isList (mm_ints_lt fun u h => absurd h (by simp)) (fun _ h' tk hk => ⟨d, H, I.kept hk, e1, q⟩) fun v h' tk h => absurd h (by simp)
  · obtain ⟨h1, h2⟩ := vals_int rv
    refine min_dflt (I.ok.hd hc) hl.isList (mm_ints_lt fun u h => let ⟨i, t, e, _⟩ := h1 u h; ⟨i, t, e⟩) (fun e => ?_) fun v h' tk hv hb hk => ?_
    · subst e
      cases ns with
      | nil => exact absurd rfl hne
      | cons n ns => cases rv
    · obtain ⟨i, t, rfl, hi⟩ := h1 v hv
      refine ⟨.int i, H, I.kept hk, ⟨t, rfl⟩, q i hi fun y hy => ?_⟩
      obtain ⟨t', hy⟩ := h2 y hy
      have := hb _ hy
      exact Int.not_lt.mp (of_decide_eq_false (p := y < i) this)
  · obtain ⟨h1, h2⟩ := vals_str rv
    refine min_dflt (I.ok.hd hc) hl.isList (mm_strs_lt fun u h => let ⟨i, t, e, _⟩ := h1 u h; ⟨i, t, e⟩) (fun e => ?_) fun v h' tk hv hb hk => ?_
    · subst e
      cases ns with
      | nil => exact absurd rfl hne
      | cons n ns => cases rv
    · obtain ⟨i, t, rfl, hi⟩ := h1 v hv
      refine ⟨.str i, H, I.kept hk, ⟨t, rfl⟩, q i hi fun y hy => ?_⟩
      obtain ⟨t', hy⟩ := h2 y hy
      have := hb _ hy
      exact of_decide_eq_false (p := y.cps.toList < i.cps.toList) this
theorem ck_max {X : Cx} (hc : X.calm = true) : CallRK X (.builtin "max") [Str.ofString "default"] (rMaxD X.K) := by
  intro pins s σ H vs zs us ws Q I r rz h
  obtain ⟨a, d, ys, rfl, rfl, hs, q⟩ := h
  obtain rfl := Vals.ref1 r
  obtain ⟨w1, rfl, e1⟩ := vals1 rz
  obtain ⟨its, rv, hl, hz⟩ := I.list hs
  rcases q with ⟨rfl, q⟩ | ⟨ns, rfl, hne, q⟩ | ⟨ns, rfl, hne, q⟩
  · cases rv
    exact max_dflt (vs := []) (I.ok.hd hc) hl.isList (mm_ints_gt fun u h => absurd h (by simp)) (fun _ h' tk hk => ⟨d, H, I.kept hk, e1, q⟩) fun v h' tk h => absurd h (by simp)
  · obtain ⟨h1, h2⟩ := vals_int rv
    refine max_dflt (I.ok.hd hc) hl.isList (mm_ints_gt fun u h => let ⟨i, t, e, _⟩ := h1 u h; ⟨i, t, e⟩) (fun e => ?_) fun v h' tk hv hb hk => ?_
    · subst e
      cases ns with
      | nil => exact absurd rfl hne
      | cons n ns => cases rv
    · obtain ⟨i, t, rfl, hi⟩ := h1 v hv
      refine ⟨.int i, H, I.kept hk, ⟨t, rfl⟩, q i hi fun y hy => ?_⟩
      obtain ⟨t', hy⟩ := h2 y hy
      have := hb _ hy
      exact Int.not_lt.mp (of_decide_eq_false (p := i < y) this)
  · obtain ⟨h1, h2⟩ := vals_str rv
    refine max_dflt (I.ok.hd hc) hl.isList (mm_strs_gt fun u h => let ⟨i, t, e, _⟩ := h1 u h; ⟨i, t, e⟩) (fun e => ?_) fun v h' tk hv hb hk => ?_
    · subst e
      cases ns with
      | nil => exact absurd rfl hne
      | cons n ns => cases rv
    · obtain ⟨i, t, rfl, hi⟩ := h1 v hv
      refine ⟨.str i, H, I.kept hk, ⟨t, rfl⟩, q i hi fun y hy => ?_⟩
      obtain ⟨t', hy⟩ := h2 y hy
      have := hb _ hy
      exact of_decide_eq_false (p := i.cps.toList < y.cps.toList) this
/-! ### over data -/
def ClK (K : PySem.W.Frag) (r : List V → List V → Hp → VK → Prop) (f : List D → List D → (D → Prop) → Prop) : Prop :=
  ∀ (G H : Hp) (xs zs : List V) (ds es : List D) (P : D → Prop) (Q : VK), Same G H → TpAll K G H xs ds → TpAll K G H zs es → f ds es P → (∀ z v H', P z → Nw K G H v H' z → Q v H') → r xs zs H Q
def vCKw (f : List D → List D → (D → Prop) → Prop) (va vk : VA) : VE := fun env m P => va env m fun xs m1 => vk env m1 fun zs m2 => f xs zs fun z => P z m2
section
variable {c : JC} {Γ : List OT}
theorem s_ckw {r : List V → List V → Hp → VK → Prop} {f : List D → List D → (D → Prop) → Prop} {ta tk : TA} {va vk : VA} (o : ClK c.K r f) (ha : SA c Γ ta va) (hk : SA c Γ tk vk) : SO c Γ (tCKw r ta tk) (vCKw f va vk) := fun T G H S env σ m P Q st hv k =>
  ha T G H S env σ m _ _ st hv fun xs m1 vs G1 H1 S1 p1 s1 st1 b1 => hk (S1 ++ T) G1 H1 S env σ m1 _ _ st1 p1 fun zs m2 us G2 H2 S2 p2 s2 st2 b2 => by
    have t1 := BoAll.tp (T := S2 ++ (S1 ++ T)) st2 (b1.mono s2 (B := S2 ++ (S1 ++ T) ++ S) (fun x hx => by rcases List.mem_append.mp hx with q | q <;> simp [q]))
    have t2 := BoAll.tp (T := S2 ++ (S1 ++ T)) st2 (b2.mono (Same.refl _) (B := S2 ++ (S1 ++ T) ++ S) (fun x hx => by rcases List.mem_append.mp hx with q | q <;> simp [q]))
    refine o G2 H2 vs us xs zs _ _ st2.v t1 t2 p2 fun z w H' pz n => ?_
    obtain ⟨G3, S3, s3, st3, q3⟩ := Nw.own (T := T) st2.dropT.dropT n
    exact k z m2 w G3 H' S3 pz (s1.trans (s2.trans s3)) st3 q3
end
section
variable {K : PySem.W.Frag} {G H H' : Hp}
/-- a default: None or an int -/
def D.df : D → Bool
  | .non => true
  | .int _ => true
  | _ => false
def vMinD : List D → List D → (D → Prop) → Prop
  | [.lst ds], [d], P => (ds = [] ∧ d.df = true ∧ P d) ∨ (∃ ns : List Int, ds = ns.map D.int ∧ ns ≠ [] ∧ ∀ m ∈ ns, (∀ y ∈ ns, m ≤ y) → P (.int m)) ∨ ∃ ns : List Str, ds = ns.map D.str ∧ ns ≠ [] ∧ ∀ m ∈ ns, (∀ y ∈ ns, ¬ y.cps.toList < m.cps.toList) → P (.str m)
  | _, _, _ => False
def vMaxD : List D → List D → (D → Prop) → Prop
  | [.lst ds], [d], P => (ds = [] ∧ d.df = true ∧ P d) ∨ (∃ ns : List Int, ds = ns.map D.int ∧ ns ≠ [] ∧ ∀ m ∈ ns, (∀ y ∈ ns, y ≤ m) → P (.int m)) ∨ ∃ ns : List Str, ds = ns.map D.str ∧ ns ≠ [] ∧ ∀ m ∈ ns, (∀ y ∈ ns, ¬ m.cps.toList < y.cps.toList) → P (.str m)
  | _, _, _ => False
theorem nw_df {v : V} {d : D} (h : Tp K G H v d) (e : d.df = true) : Nw K G H v H d := by
  cases d <;> first | exact absurd e Bool.false_ne_true | skip
  · cases h with | dd h => cases h; exact .old .non rfl
  · cases h with | dd h => cases h; exact .old (.int _) rfl
theorem k_minD : ClK K (rMinD K) vMinD := fun G H xs zs ds es P Q s h hz f k => by
  unfold vMinD at f
  split at f
  · obtain ⟨v, rfl, hv⟩ := h.inv1
    obtain ⟨u, rfl, hu⟩ := hz.inv1
    obtain ⟨a, vs, rfl, h1, q1⟩ := hv.l s
    rcases f with ⟨rfl, e, f⟩ | ⟨ns, rfl, hne, f⟩ | ⟨ns, rfl, hne, f⟩
    · cases q1
      exact ⟨a, u, [], rfl, rfl, SqL.of h1, .inl ⟨rfl, k _ _ _ f (nw_df hu e)⟩⟩
    · rw [ints_v q1] at h1
      exact ⟨a, u, _, rfl, rfl, SqL.of h1, .inr (.inl ⟨ns, rfl, hne, fun m hm hy => k _ _ _ (f m hm hy) (.old (.int _) rfl)⟩)⟩
    · rw [strs_v q1] at h1
      exact ⟨a, u, _, rfl, rfl, SqL.of h1, .inr (.inr ⟨ns, rfl, hne, fun m hm hy => k _ _ _ (f m hm hy) (.old (.str _) rfl)⟩)⟩
  · exact f.elim
theorem k_maxD : ClK K (rMaxD K) vMaxD := fun G H xs zs ds es P Q s h hz f k => by
  unfold vMaxD at f
  split at f
  · obtain ⟨v, rfl, hv⟩ := h.inv1
    obtain ⟨u, rfl, hu⟩ := hz.inv1
    obtain ⟨a, vs, rfl, h1, q1⟩ := hv.l s
    rcases f with ⟨rfl, e, f⟩ | ⟨ns, rfl, hne, f⟩ | ⟨ns, rfl, hne, f⟩
    · cases q1
      exact ⟨a, u, [], rfl, rfl, SqL.of h1, .inl ⟨rfl, k _ _ _ f (nw_df hu e)⟩⟩
    · rw [ints_v q1] at h1
      exact ⟨a, u, _, rfl, rfl, SqL.of h1, .inr (.inl ⟨ns, rfl, hne, fun m hm hy => k _ _ _ (f m hm hy) (.old (.int _) rfl)⟩)⟩
    · rw [strs_v q1] at h1
      exact ⟨a, u, _, rfl, rfl, SqL.of h1, .inr (.inr ⟨ns, rfl, hne, fun m hm hy => k _ _ _ (f m hm hy) (.old (.str _) rfl)⟩)⟩
  · exact f.elim
def vSorted : List D → (D → Prop) → Prop
  | [.lst ds], P => (∃ ns : List Int, ds = ns.map D.int ∧ ∀ ns' : List Int, ns'.Perm ns → ns'.Pairwise (· ≤ ·) → P (.lst (ns'.map D.int))) ∨
      ∃ ns : List Str, ds = ns.map D.str ∧ ∀ ns' : List Str, ns'.Perm ns → ns'.Pairwise (fun x y => ¬ y.cps.toList < x.cps.toList) → P (.lst (ns'.map D.str))
  | _, _ => False
theorem ints_dd : ∀ {ns : List Int}, DdAll K G (ns.map V.int) (ns.map D.int)
  | [] => .nil
  | n :: ns => .cons (.int n) ints_dd
theorem strs_dd : ∀ {ns : List Str}, DdAll K G (ns.map V.str) (ns.map D.str)
  | [] => .nil
  | n :: ns => .cons (.str n) strs_dd
theorem l_sorted : ClV K (rSortIT K) vSorted := fun G H xs ds P Q s h f k => by
  unfold vSorted at f
  split at f
  · obtain ⟨v, rfl, hv⟩ := h.inv1
    obtain ⟨a, vs, rfl, h1, q1⟩ := hv.l s
    rcases f with ⟨ns, rfl, f⟩ | ⟨ns, rfl, f⟩
    · rw [ints_v q1] at h1
      refine .inl ⟨a, ns, rfl, SqL.of h1, fun ns' p hp h3 h4 => k _ _ _ (f ns' hp h3) (.lst h4 ?_)⟩
      exact ints_dd
    · rw [strs_v q1] at h1
      refine .inr ⟨a, ns, rfl, SqL.of h1, fun ns' p hp h3 h4 => k _ _ _ (f ns' hp h3) (.lst h4 ?_)⟩
      exact strs_dd
  · exact f.elim
end
end Ps

/-! Pba: numbers as rows of bytes, plain. -/
namespace Ps
open PySem PySem.Spec PyProof.Rows L2
/-- a number's sevens, the lowest ones first -/
def sev (r : Nat) : List Int := if r < 128 then [(r : Int)] else ((r % 128 + 128 : Nat) : Int) :: sev (r / 128)
termination_by r
decreasing_by omega
theorem sev_lt {r : Nat} (h : r < 128) : sev r = [(r : Int)] := by rw [sev, if_pos h]
theorem sev_ge {r : Nat} (h : ¬ r < 128) : sev r = ((r % 128 + 128 : Nat) : Int) :: sev (r / 128) := by rw [sev, if_neg h]
def zz (n : Int) : Nat := if n < 0 then (-2 * n - 1).toNat else (2 * n).toNat
def uz (r : Nat) : Int := if r % 2 = 0 then ((r / 2 : Nat) : Int) else -((r / 2 : Nat) : Int) - 1
theorem uz_zz (n : Int) : uz (zz n) = n := by
  unfold uz zz
  by_cases h : n < 0
  · rw [if_pos h, if_neg (by omega)]; omega
  · rw [if_neg h, if_pos (by omega)]; omega
def nb (n : Int) : List Int := sev (zz n)
theorem sev_len : ∀ (k r : Nat), r < 128 ^ (k + 1) → (sev r).length ≤ k + 1
  | k, r, h => by
    by_cases c : r < 128
    · rw [sev_lt c]; simp
    · cases k with
      | zero => omega
      | succ k =>
        rw [sev_ge c, List.length_cons]
        have q := sev_len k (r / 128) (by rw [Nat.pow_succ] at h; exact Nat.div_lt_of_lt_mul (by rw [Nat.mul_comm]; exact h))
        omega
theorem sev_pos (r : Nat) : 0 < (sev r).length := by
  by_cases c : r < 128
  · rw [sev_lt c]; simp
  · rw [sev_ge c]; simp
theorem nb_len {n : Int} (h : n.natAbs < 2 ^ 200) : (nb n).length ≤ 30 := by
  refine sev_len 29 _ ?_
  have : (2 : Nat) * 2 ^ 200 ≤ 128 ^ 30 := by decide
  unfold zz
  split <;> omega
theorem sev_byte : ∀ (r : Nat) (b : Int), b ∈ sev r → 0 ≤ b ∧ b < 256
  | r, b, h => by
    by_cases c : r < 128
    · rw [sev_lt c] at h
      simp at h; omega
    · rw [sev_ge c] at h
      rcases List.mem_cons.mp h with e | e
      · omega
      · exact sev_byte (r / 128) b e
termination_by r => r
decreasing_by omega
/-- what a reader tells: a thing and the place behind it, or why there is none -/
inductive Rd (α : Type) where
  | got (x : α) (j : Nat)
  | bad (w : Str)
/-- a number's reader: f bytes at most are left, w the weight, r what is read, j the place -/
def tnG (xs : List Int) : Nat → Bool → Nat → Nat → Nat → Rd Int
  | 0, _, _, _, _ => .bad "long"
  | f + 1, first, w, r, j => match xs[j]? with
    | none => .bad "short"
    | some b => if b < 128 then (if b = 0 ∧ first = false then .bad "long" else .got (uz (r + (b % 128).toNat * w)) (j + 1)) else tnG xs f false (w * 128) (r + (b % 128).toNat * w) (j + 1)
def takeN (xs : List Int) (at_ : Nat) : Rd Int := tnG xs 9 true 1 0 at_
theorem tnG_sev : ∀ (f : Nat) (xs A B : List Int) (s : Nat) (first : Bool) (w r j : Nat), xs = A ++ sev s ++ B → j = A.length → (sev s).length ≤ f → (first = true ∨ s ≠ 0) → tnG xs f first w r j = .got (uz (r + s * w)) (j + (sev s).length)
  | 0, xs, A, B, s, first, w, r, j, _, _, hl, _ => absurd (sev_pos s) (by omega)
  | f + 1, xs, A, B, s, first, w, r, j, e, ej, hl, hf => by
    by_cases c : s < 128
    · rw [sev_lt c] at e ⊢
      have q : xs[j]? = some (s : Int) := by subst e ej; simp
      unfold tnG
      rw [q]
      show (if (s : Int) < 128 then _ else _) = _
      rw [if_pos (by omega), if_neg (by rintro ⟨q1, q2⟩; exact hf.elim (fun h => by rw [h] at q2; cases q2) (fun h => by omega))]
      have e1 : ((s : Int) % 128).toNat = s := by omega
      rw [e1]
      rfl
    · rw [sev_ge c] at e hl ⊢
      have q : xs[j]? = some ((s % 128 + 128 : Nat) : Int) := by subst e ej; simp
      unfold tnG
      rw [q]
      show (if (((s % 128 + 128 : Nat) : Int)) < 128 then _ else _) = _
      rw [if_neg (by omega)]
      have e1 : (((s % 128 + 128 : Nat) : Int) % 128).toNat = s % 128 := by omega
      rw [e1, tnG_sev f xs (A ++ [((s % 128 + 128 : Nat) : Int)]) B (s / 128) false (w * 128) (r + s % 128 * w) (j + 1) (by rw [e]; simp) (by rw [ej]; simp) (by rw [List.length_cons] at hl; omega) (.inr (by omega))]
      have e2 : r + s % 128 * w + s / 128 * (w * 128) = r + s * w := by
        have := Nat.div_add_mod s 128
        calc r + s % 128 * w + s / 128 * (w * 128) = r + (128 * (s / 128) + s % 128) * w := by
              rw [Nat.add_mul, Nat.mul_comm 128, Nat.mul_assoc, Nat.mul_comm 128 w]; omega
          _ = r + s * w := by rw [this]
      rw [e2, List.length_cons, Nat.add_assoc, Nat.add_comm 1]
theorem takeN_nb {A B : List Int} {n : Int} (h : (nb n).length ≤ 9) : takeN (A ++ nb n ++ B) A.length = .got n (A.length + (nb n).length) := by
  unfold takeN nb at *
  rw [tnG_sev 9 _ A B (zz n) true 1 0 _ rfl rfl h (.inl rfl), Nat.mul_one, Nat.zero_add, uz_zz]
end Ps

/-! Pta: texts of the ninety-four signs, plain. -/
namespace Ps
open PySem PySem.Spec PyProof.Rows L2
def signs : Str := (" !\"#$&'()*+,-./0123456789:;<=>?@ABCDEFGHIJKLMNOPQRSTUVWXYZ[\\]^_`abcdefghijklmnopqrstuvwxyz{|}~" : Str)
def sgA : Array Nat := signs.cps
/-- the k-th sign -/
def sg (k : Nat) : Nat := signs.cps.toList.getD k 0
/-- the text of these signs -/
def txt (ks : List Nat) : Str := ⟨(ks.map sg).toArray⟩
theorem signs_len : signs.length = 94 := by decide +kernel
theorem signs_list : signs.cps.toList.length = 94 := by decide +kernel
theorem sg_at {k : Nat} (h : k < 94) : signs.cps.toList[k]? = some (sg k) := by
  have h2 : k < signs.cps.toList.length := by rw [signs_list]; exact h
  unfold sg
  rw [List.getD_eq_getElem?_getD, List.getElem?_eq_getElem h2]
  rfl
theorem sg_occ : ∀ k : Fin 94, Builtin.Str.occurrences signs ⟨#[sg k.val]⟩ 0 signs.length 1 = [k.val] := by decide +kernel
theorem txt_len (ks : List Nat) : (txt ks).length = ks.length := by
  show (ks.map sg).toArray.size = _
  rw [List.size_toArray, List.length_map]
theorem txt_cps (ks : List Nat) : (txt ks).cps.toList = ks.map sg := by simp [txt]
theorem sg_inj : ∀ k l : Fin 94, sg k.val = sg l.val → k = l := by decide +kernel
theorem sg_lt : ∀ k l : Fin 94, k.val < l.val → sg k.val < sg l.val := by decide +kernel
/-- a text of at most n signs -/
def IsT (n : Nat) (z : Str) : Prop := ∃ ks : List Nat, z = txt ks ∧ ks.length ≤ n ∧ ∀ k ∈ ks, k < 94
def okT (n : Nat) (z : Str) : Bool := z.cps.toList.all (fun c => signs.cps.toList.contains c) && decide (z.length ≤ n)
theorem sg_of {c : Nat} (h : signs.cps.toList.contains c = true) : ∃ k, k < 94 ∧ sg k = c := by
  have hm : c ∈ signs.cps.toList := by simpa using h
  obtain ⟨k, hk, e⟩ := List.getElem_of_mem hm
  refine ⟨k, by rw [signs_list] at hk; exact hk, ?_⟩
  unfold sg
  rw [List.getD_eq_getElem?_getD, List.getElem?_eq_getElem hk, e]
  rfl
theorem isT_list : ∀ cs : List Nat, (∀ c ∈ cs, signs.cps.toList.contains c = true) → ∃ ks : List Nat, cs = ks.map sg ∧ ∀ k ∈ ks, k < 94
  | [], _ => ⟨[], rfl, by simp⟩
  | c :: r, h => by
    obtain ⟨k, hk, e⟩ := sg_of (h c List.mem_cons_self)
    obtain ⟨ks, e2, h2⟩ := isT_list r fun x hx => h x (List.mem_cons_of_mem _ hx)
    exact ⟨k :: ks, by rw [List.map_cons, e, ← e2], fun x hx => (List.mem_cons.mp hx).elim (fun z => z ▸ hk) (h2 x)⟩
theorem okT_is {n : Nat} {z : Str} (h : okT n z = true) : IsT n z := by
  unfold okT at h
  obtain ⟨h1, h2⟩ := Bool.and_eq_true_iff.mp h
  obtain ⟨ks, e, hk⟩ := isT_list z.cps.toList (List.all_eq_true.mp h1)
  have hz : z = txt ks := by
    obtain ⟨arr⟩ := z
    unfold txt
    rw [← e]
  refine ⟨ks, hz, ?_, hk⟩
  have := of_decide_eq_true h2
  rw [hz, txt_len] at this
  exact this
end Ps

/-! Pbc: packed numbers, plain. -/
namespace Ps
open PySem PySem.Spec PyProof.Rows L2
/-- digits to a number, the lowest ones first -/
def num (b : Nat) : List Nat → Nat
  | [] => 0
  | x :: r => x + b * num b r
/-- the k lowest digits of a number -/
def dig (b : Nat) : Nat → Nat → List Nat
  | 0, _ => []
  | k + 1, r => r % b :: dig b k (r / b)
theorem dig_len (b : Nat) : ∀ k r, (dig b k r).length = k
  | 0, _ => rfl
  | k + 1, r => by rw [dig, List.length_cons, dig_len b k]
theorem dig_lt {b : Nat} (hb : 0 < b) : ∀ k r, ∀ x ∈ dig b k r, x < b
  | 0, _, x, h => by cases h
  | k + 1, r, x, h => by
    rcases List.mem_cons.mp h with e | h
    · rw [e]; exact Nat.mod_lt _ hb
    · exact dig_lt hb k _ x h
theorem num_lt {b : Nat} (hb : 0 < b) : ∀ xs : List Nat, (∀ x ∈ xs, x < b) → num b xs < b ^ xs.length
  | [], _ => by simp [num]
  | x :: r, h => by
    have q := num_lt hb r fun y hy => h y (List.mem_cons_of_mem _ hy)
    have q2 := h x List.mem_cons_self
    rw [num, List.length_cons, Nat.pow_succ, Nat.mul_comm _ b]
    calc x + b * num b r < b + b * num b r := by omega
      _ = b * (num b r + 1) := by rw [Nat.mul_add, Nat.mul_one, Nat.add_comm]
      _ ≤ b * b ^ r.length := Nat.mul_le_mul_left _ q
theorem dig_num {b : Nat} (hb : 0 < b) : ∀ xs : List Nat, (∀ x ∈ xs, x < b) → dig b xs.length (num b xs) = xs
  | [], _ => rfl
  | x :: r, h => by
    have q2 := h x List.mem_cons_self
    rw [num, List.length_cons, dig, Nat.add_mul_mod_self_left, Nat.mod_eq_of_lt q2, Nat.add_mul_div_left _ _ hb, Nat.div_eq_of_lt q2, Nat.zero_add, dig_num hb r fun y hy => h y (List.mem_cons_of_mem _ hy)]
theorem num_dig {b : Nat} (hb : 0 < b) : ∀ k r, num b (dig b k r) = r % b ^ k
  | 0, r => by rw [dig, num, Nat.pow_zero, Nat.mod_one]
  | k + 1, r => by rw [dig, num, num_dig hb k, Nat.pow_succ, Nat.mul_comm _ b, Nat.mod_mul]
theorem num_append (b : Nat) : ∀ xs ys : List Nat, num b (xs ++ ys) = num b xs + b ^ xs.length * num b ys
  | [], ys => by simp [num]
  | x :: r, ys => by
    rw [List.cons_append, num, num, num_append b r ys, List.length_cons, Nat.pow_succ, Nat.mul_add, Nat.mul_comm _ b, Nat.mul_assoc]
    omega
theorem dig_snoc (b : Nat) : ∀ k r, dig b (k + 1) r = dig b k r ++ [r / b ^ k % b]
  | 0, r => by simp [dig]
  | k + 1, r => by
    show r % b :: dig b (k + 1) (r / b) = (r % b :: dig b k (r / b)) ++ _
    rw [dig_snoc b k, List.cons_append, Nat.div_div_eq_div_mul, ← Nat.pow_succ']
theorem dig_take (b : Nat) : ∀ {k n r : Nat}, k ≤ n → (dig b n r).take k = dig b k r
  | 0, n, r, _ => by rw [List.take_zero]; rfl
  | k + 1, 0, r, h => by omega
  | k + 1, n + 1, r, h => by rw [dig, dig, List.take_succ_cons, dig_take b (by omega)]
theorem num_two (w : Nat) : ∀ xs : List Nat, (∀ x ∈ xs, x < 2 ^ w) → num 2 (xs.flatMap (dig 2 w)) = num (2 ^ w) xs
  | [], _ => rfl
  | x :: r, h => by
    rw [List.flatMap_cons, num_append, num_dig (by decide), dig_len, Nat.mod_eq_of_lt (h x List.mem_cons_self), num_two w r fun y hy => h y (List.mem_cons_of_mem _ hy), num]
/-- how many bytes -/
def bcn (n w : Nat) : Nat := (n * w + 7) / 8
def pk (xs : List Nat) (w : Nat) : List Nat := dig 256 (bcn xs.length w) (num (2 ^ w) xs)
theorem pk_len (xs : List Nat) (w : Nat) : (pk xs w).length = bcn xs.length w := dig_len _ _ _
theorem pk_lt (xs : List Nat) (w : Nat) : ∀ x ∈ pk xs w, x < 256 := dig_lt (by decide) _ _
theorem bcn_pow (n w : Nat) : (2 ^ w) ^ n ≤ 256 ^ bcn n w := by
  rw [← Nat.pow_mul, show (256 : Nat) = 2 ^ 8 from rfl, ← Nat.pow_mul]
  refine Nat.pow_le_pow_right (by decide) ?_
  have : w * n = n * w := Nat.mul_comm _ _
  unfold bcn
  omega
theorem pk_num {xs : List Nat} {w : Nat} (h : ∀ x ∈ xs, x < 2 ^ w) : num 256 (pk xs w) = num (2 ^ w) xs := by
  unfold pk
  rw [num_dig (by decide)]
  exact Nat.mod_eq_of_lt (Nat.lt_of_lt_of_le (num_lt (Nat.two_pow_pos w) xs h) (bcn_pow _ _))
/-- bits, eight a byte -/
theorem num_split (b : Nat) (xs : List Nat) (k : Nat) : num b xs = num b (xs.take k) + b ^ (xs.take k).length * num b (xs.drop k) := by
  conv => lhs; rw [← List.take_append_drop k xs]
  exact num_append b _ _
def bytesOf (bits : List Nat) (n : Nat) : List Nat := (List.range n).map fun i => num 2 ((bits.drop (8 * i)).take 8)
theorem bytes_dig : ∀ (n : Nat) (bits : List Nat), (∀ x ∈ bits, x < 2) → bytesOf bits n = dig 256 n (num 2 bits)
  | 0, _, _ => rfl
  | n + 1, bits, h => by
    unfold bytesOf
    rw [List.range_succ_eq_map, List.map_cons, List.map_map, dig]
    have h1 : num 2 (bits.take 8) < 256 := by
      have := num_lt (by decide : 0 < 2) (bits.take 8) fun x hx => h x (List.mem_of_mem_take hx)
      have h2 : 2 ^ (bits.take 8).length ≤ 2 ^ 8 := Nat.pow_le_pow_right (by decide) (by rw [List.length_take]; omega)
      omega
    have e : num 2 bits = num 2 (bits.take 8) + 256 * num 2 (bits.drop 8) := by
      by_cases c : bits.length ≤ 8
      · rw [List.drop_eq_nil_of_le c, List.take_of_length_le c, num, Nat.mul_zero, Nat.add_zero]
      · have q := num_split 2 bits 8
        rw [show (bits.take 8).length = 8 by rw [List.length_take]; omega] at q
        exact q
    congr 1
    · rw [Nat.mul_zero, List.drop_zero, e]; omega
    · have e2 : num 2 bits / 256 = num 2 (bits.drop 8) := by rw [e]; omega
      rw [e2, ← bytes_dig n (bits.drop 8) fun x hx => h x (List.mem_of_mem_drop hx)]
      unfold bytesOf
      refine List.map_congr_left fun i _ => ?_
      show num 2 ((bits.drop (8 * (i + 1))).take 8) = _
      rw [List.drop_drop, show 8 * (i + 1) = 8 + 8 * i by omega]
theorem bits_len (w : Nat) : ∀ xs : List Nat, (xs.flatMap (dig 2 w)).length = xs.length * w
  | [] => by simp
  | x :: r => by rw [List.flatMap_cons, List.length_append, dig_len, bits_len w r, List.length_cons, Nat.add_mul, Nat.one_mul, Nat.add_comm]
theorem bits_two (w : Nat) (xs : List Nat) : ∀ x ∈ xs.flatMap (dig 2 w), x < 2 := fun x hx => by
  obtain ⟨y, _, h⟩ := List.mem_flatMap.mp hx
  exact dig_lt (by decide) _ _ x h
theorem pk_bits {xs : List Nat} {w : Nat} (h : ∀ x ∈ xs, x < 2 ^ w) : bytesOf (xs.flatMap (dig 2 w)) (bcn xs.length w) = pk xs w := by
  rw [bytes_dig _ _ (bits_two w xs), num_two w xs h]
  rfl
/-- how many bits a number has -/
def bl (n : Nat) : Nat := if n = 0 then 0 else bl (n / 2) + 1
termination_by n
decreasing_by omega
theorem bl_zero : bl 0 = 0 := by rw [bl, if_pos rfl]
theorem bl_pos {n : Nat} (h : 0 < n) : bl n = bl (n / 2) + 1 := by rw [bl, if_neg (by omega)]
theorem bl_le : ∀ (w n : Nat), n < 2 ^ w → bl n ≤ w
  | w, n, h => by
    by_cases c : n = 0
    · rw [c, bl_zero]; omega
    · cases w with
      | zero => simp at h; omega
      | succ w =>
        rw [bl_pos (by omega)]
        have := bl_le w (n / 2) (by rw [Nat.pow_succ] at h; omega)
        omega
theorem bl_lt (n : Nat) : n < 2 ^ bl n := by
  by_cases c : n = 0
  · rw [c, bl_zero]; decide
  · rw [bl_pos (by omega), Nat.pow_succ]
    have := bl_lt (n / 2)
    omega
termination_by n
decreasing_by omega
theorem bl_ge {n : Nat} (h : 0 < n) : 2 ^ (bl n - 1) ≤ n := by
  rw [bl_pos h, Nat.add_sub_cancel]
  by_cases c : n / 2 = 0
  · rw [c, bl_zero]; simp; omega
  · have q := bl_ge (n := n / 2) (by omega)
    have e : bl (n / 2) = bl (n / 2) - 1 + 1 := by
      have := bl_pos (n := n / 2) (by omega)
      omega
    rw [e, Nat.pow_succ]
    omega
termination_by n
decreasing_by omega
theorem bl_pow : ∀ w : Nat, bl (2 ^ w) = w + 1
  | 0 => by rw [Nat.pow_zero, bl_pos (by decide), bl_zero]
  | w + 1 => by rw [bl_pos (Nat.two_pow_pos _), Nat.pow_succ, Nat.mul_div_cancel _ (by decide), bl_pow w]
theorem bl_pred : ∀ w : Nat, bl (2 ^ w - 1) = w
  | 0 => bl_zero
  | w + 1 => by
    have h := Nat.two_pow_pos w
    rw [bl_pos (by rw [Nat.pow_succ]; omega), show (2 ^ (w + 1) - 1) / 2 = 2 ^ w - 1 by rw [Nat.pow_succ]; omega, bl_pred w]
def ins (xs : List Nat) : List Int := xs.map fun x : Nat => (x : Int)
theorem ins_len (xs : List Nat) : (ins xs).length = xs.length := List.length_map _
theorem ins_get {xs : List Nat} {i : Nat} {b : Int} (h : (ins xs)[i]? = some b) : ∃ x : Nat, xs[i]? = some x ∧ b = x := by
  unfold ins at h
  rw [List.getElem?_map] at h
  cases e : xs[i]? with
  | none => rw [e] at h; cases h
  | some x => rw [e] at h; exact ⟨x, rfl, (Option.some.inj h).symm⟩
theorem ins_append (xs ys : List Nat) : ins (xs ++ ys) = ins xs ++ ins ys := List.map_append
theorem ins_at {xs : List Nat} {i : Nat} {y : V} (h : ((ins xs).map V.int)[i]? = some y) : ∃ x : Nat, xs[i]? = some x ∧ y = .int x := by
  obtain ⟨b, h1, rfl⟩ := int_at h
  obtain ⟨x, h2, rfl⟩ := ins_get h1
  exact ⟨x, h2, rfl⟩
theorem ins_snoc (xs : List Nat) (x : Nat) : (ins xs).map V.int ++ [V.int (x : Int)] = (ins (xs ++ [x])).map V.int := by rw [ins_append, List.map_append]; rfl
theorem nat_list {A : List Int} (h : ∀ b ∈ A, 0 ≤ b ∧ b < 256) : ∃ B : List Nat, A = ins B ∧ ∀ b ∈ B, b < 256 := by
  refine ⟨A.map Int.toNat, ?_, fun b hb => ?_⟩
  · unfold ins
    rw [List.map_map]
    conv => lhs; rw [← List.map_id A]
    refine List.map_congr_left fun x hx => ?_
    have := h x hx
    show x = ((x.toNat : Nat) : Int)
    omega
  · obtain ⟨x, hx, rfl⟩ := List.mem_map.mp hb
    have := h x hx
    omega
theorem num_cut {b : Nat} {xs : List Nat} {i x : Nat} (h : xs[xs.length - 1 - i]? = some x) (hi : i < xs.length) : num b (xs.drop (xs.length - (i + 1))) = num b (xs.drop (xs.length - i)) * b + x := by
  have e : xs.length - 1 - i = xs.length - (i + 1) := by omega
  rw [e] at h
  obtain ⟨h1, h2⟩ := List.getElem?_eq_some_iff.mp h
  rw [List.drop_eq_getElem_cons h1, num, h2, show xs.length - (i + 1) + 1 = xs.length - i by omega, Nat.mul_comm b]
  omega
theorem num_snoc (b : Nat) (xs : List Nat) (x : Nat) : num b (xs ++ [x]) = num b xs + b ^ xs.length * x := by rw [num_append, num, num, Nat.mul_zero, Nat.add_zero]
end Ps

/-! Vpb: texts and cells as bytes, plain. -/
namespace Ps
open PySem PySem.Spec PyProof.Rows L2
/-- a cell -/
inductive Cel where
  | non
  | num (z : Int)
  | txt (ks : List Nat)
  deriving DecidableEq
def tb (ks : List Nat) : List Int := nb ks.length ++ ins ks
def cb : Cel → List Int
  | .non => [0]
  | .num z => 1 :: nb z
  | .txt ks => 2 :: tb ks
def okC : Cel → Prop
  | .non => True
  | .num z => z.natAbs < 2 ^ 200
  | .txt ks => ks.length ≤ 1000 ∧ ∀ k ∈ ks, k < 94
theorem tb_len {ks : List Nat} (h : ks.length ≤ 1000) : (tb ks).length ≤ 1030 := by
  unfold tb
  rw [List.length_append, ins_len]
  have := nb_len (n := (ks.length : Int)) (by rw [Int.natAbs_natCast]; exact Nat.lt_of_le_of_lt h (by decide))
  omega
/-- n signs are read from place j on -/
def tkS (xs : List Int) : Nat → Nat → List Nat → Rd (List Nat)
  | 0, j, acc => .got acc j
  | n + 1, j, acc => match xs[j]? with
    | none => .bad "short"
    | some b => if 0 ≤ b ∧ b < 94 then tkS xs n (j + 1) (acc ++ [b.toNat]) else .bad "sign"
theorem tkS_succ (xs : List Int) (n j : Nat) (acc : List Nat) : tkS xs (n + 1) j acc = match xs[j]? with
    | none => .bad "short"
    | some b => if 0 ≤ b ∧ b < 94 then tkS xs n (j + 1) (acc ++ [b.toNat]) else .bad "sign" := rfl
def takeT (xs : List Int) (j : Nat) : Rd (List Nat) := match takeN xs j with
  | .bad w => .bad w
  | .got n e => if 0 ≤ n ∧ n ≤ 20 then tkS xs n.toNat e [] else .bad "count"
def takeC (xs : List Int) (j : Nat) : Rd Cel := match xs[j]? with
  | none => .bad "short"
  | some b => if b = 0 then .got .non (j + 1) else
    if b = 1 then (match takeN xs (j + 1) with | .got n e => .got (.num n) e | .bad w => .bad w) else
    if b = 2 then (match takeT xs (j + 1) with | .got ks e => .got (.txt ks) e | .bad w => .bad w) else .bad "kind"
theorem txt_snoc (ks : List Nat) (k : Nat) : txt ks ++ (⟨#[sg k]⟩ : Str) = txt (ks ++ [k]) := by
  show (⟨(ks.map sg).toArray ++ #[sg k]⟩ : Str) = ⟨((ks ++ [k]).map sg).toArray⟩
  rw [List.map_append]
  simp
/-! read back -/
theorem tkS_ins : ∀ (ks : List Nat) (xs A B : List Int) (j : Nat) (acc : List Nat), xs = A ++ ins ks ++ B → j = A.length → (∀ k ∈ ks, k < 94) → tkS xs ks.length j acc = .got (acc ++ ks) (j + ks.length)
  | [], xs, A, B, j, acc, _, _, _ => by rw [List.append_nil]; rfl
  | c :: r, xs, A, B, j, acc, e, ej, h => by
    have hc := h c List.mem_cons_self
    have q : xs[j]? = some (c : Int) := by subst e ej; simp [ins]
    rw [List.length_cons, tkS_succ, q]
    show (if 0 ≤ (c : Int) ∧ (c : Int) < 94 then _ else _) = _
    rw [if_pos ⟨by omega, by omega⟩, tkS_ins r xs (A ++ [(c : Int)]) B (j + 1) _ (by rw [e]; simp [ins]) (by rw [ej]; simp) fun k hk => h k (List.mem_cons_of_mem _ hk)]
    rw [Int.toNat_natCast, List.append_assoc]
    simp
    omega
theorem nb_small {n : Nat} (h : n < 64) : nb (n : Int) = [((2 * n : Nat) : Int)] := by
  unfold nb zz
  rw [if_neg (by omega)]
  have e : (2 * (n : Int)).toNat = 2 * n := by omega
  rw [e, sev_lt (by omega)]
theorem takeT_tb {A B : List Int} {ks : List Nat} (hl : ks.length ≤ 20) (hk : ∀ k ∈ ks, k < 94) : takeT (A ++ tb ks ++ B) A.length = .got ks (A.length + (tb ks).length) := by
  unfold takeT tb
  have e1 : A ++ (nb (ks.length : Int) ++ ins ks) ++ B = A ++ nb (ks.length : Int) ++ (ins ks ++ B) := by simp
  have h1 : (nb (ks.length : Int)).length = 1 := by rw [nb_small (by omega)]; rfl
  rw [e1, takeN_nb (by omega)]
  show (if 0 ≤ (ks.length : Int) ∧ (ks.length : Int) ≤ 20 then _ else _) = _
  rw [if_pos ⟨by omega, by omega⟩, Int.toNat_natCast, tkS_ins ks _ (A ++ nb (ks.length : Int)) B _ [] (by simp) (by rw [List.length_append]) hk, List.length_append, ins_len, List.nil_append, Nat.add_assoc]
theorem nb_nine {n : Int} (h : n.natAbs < 2 ^ 62) : (nb n).length ≤ 9 := by
  refine sev_len 8 _ ?_
  have : (2 : Nat) * 2 ^ 62 ≤ 128 ^ 9 := by decide
  unfold zz
  split <;> omega
/-- a cell that may be read back -/
def okR : Cel → Prop
  | .non => True
  | .num z => z.natAbs < 2 ^ 62
  | .txt ks => ks.length ≤ 20 ∧ ∀ k ∈ ks, k < 94
theorem takeC_cb {A B : List Int} {c : Cel} (h : okR c) : takeC (A ++ cb c ++ B) A.length = .got c (A.length + (cb c).length) := by
  have q : ∀ (b : Int) (r : List Int), (A ++ b :: r ++ B)[A.length]? = some b := fun b r => by simp
  unfold takeC
  cases c with
  | non =>
    show (match (A ++ [0] ++ B)[A.length]? with | none => _ | some b => _) = _
    rw [q]
    rfl
  | num z =>
    show (match (A ++ 1 :: nb z ++ B)[A.length]? with | none => _ | some b => _) = _
    rw [q]
    show (match takeN (A ++ 1 :: nb z ++ B) (A.length + 1) with | .got n e => (.got (.num n) e : Rd Cel) | .bad w => .bad w) = _
    rw [show A ++ 1 :: nb z ++ B = (A ++ [1]) ++ nb z ++ B by simp, show A.length + 1 = (A ++ [(1 : Int)]).length by simp, takeN_nb (nb_nine h)]
    show Rd.got (Cel.num z) _ = Rd.got (Cel.num z) (A.length + ((nb z).length + 1))
    rw [List.length_append, List.length_singleton]
    congr 1
    omega
  | txt ks =>
    show (match (A ++ 2 :: tb ks ++ B)[A.length]? with | none => _ | some b => _) = _
    rw [q]
    show (match takeT (A ++ 2 :: tb ks ++ B) (A.length + 1) with | .got n e => (.got (.txt n) e : Rd Cel) | .bad w => .bad w) = _
    rw [show A ++ 2 :: tb ks ++ B = (A ++ [2]) ++ tb ks ++ B by simp, show A.length + 1 = (A ++ [(2 : Int)]).length by simp, takeT_tb h.1 h.2]
    show Rd.got (Cel.txt ks) _ = Rd.got (Cel.txt ks) (A.length + ((tb ks).length + 1))
    rw [List.length_append, List.length_singleton]
    congr 1
    omega
end Ps

/-! Vb1: numbers, texts, cells as bytes: the program's defs. -/
namespace Ps
open PySem PySem.Spec PyProof.Rows L2
local macro_rules | `(tactic| walk_at "v1") => `(tactic| first
  | ((with_reducible refine' e_var ?hx ?_); (case hx => exact rfl))
  | (with_reducible refine e_seqAsg ?_)
  | (with_reducible refine e_seqDrop ?_)
  | (with_reducible refine e_seqAug ?_)
  | (with_reducible refine e_seqApp ?_)
  | (with_reducible refine e_seqMut ?_)
  | (with_reducible refine e_seqPut ?_)
  | (with_reducible refine e_seqPar ?_)
  | (with_reducible refine e_seqFor ?_)
  | (with_reducible refine e_seqWhile ?_)
  | (with_reducible refine e_seqNext ?_)
  | (with_reducible refine e_seqSetF ?_)
  | (with_reducible refine e_seqAugF ?_)
  | (with_reducible refine e_seqAppS ?_)
  | (with_reducible refine e_seqMutS ?_)
  | (with_reducible refine e_seqPutS ?_)
  | (with_reducible refine e_seqForB ?_)
  | (with_reducible refine e_seqAugS ?_)
  | (with_reducible refine e_seqSeq ?_)
  | (with_reducible refine e_asg ?_)
  | (with_reducible refine e_drop ?_)
  | (with_reducible refine e_ret ?_)
  | (with_reducible refine e_retN ?_)
  | (with_reducible refine e_if ?_)
  | (with_reducible refine e_next ?_)
  | (with_reducible refine e_brk ?_)
  | (with_reducible refine e_cont ?_)
  | (with_reducible refine e_gname ?_)
  | (with_reducible refine e_c ?_)
  | (with_reducible refine e_nil ?_)
  | (with_reducible refine e_cons ?_)
  | (with_reducible refine e_op ?_)
  | (with_reducible refine e_un ?_)
  | (with_reducible refine e_cb ?_)
  | (with_reducible refine e_bm ?_)
  | (with_reducible refine e_bm0 ?_)
  | (with_reducible refine e_tyS ?_)
  | (with_reducible refine e_tyL ?_)
  | (with_reducible refine e_tyD ?_)
  | (with_reducible refine e_lst ?_)
  | (with_reducible refine e_tup ?_)
  | (with_reducible refine e_andV ?_)
  | (with_reducible refine e_orV ?_)
  | (with_reducible refine e_notV ?_)
  | (with_reducible refine e_blE ?_)
  | (with_reducible refine e_chain ?_)
  | (with_reducible refine e_test ?_)
  | (with_reducible refine e_and ?_)
  | (with_reducible refine e_or ?_)
  | (with_reducible refine e_not ?_)
  | (with_reducible refine e_yes ?_)
  | (with_reducible refine e_call ?_)
  | (with_reducible refine e_callS ?_)
  | (with_reducible refine e_callB ?_)
  | (with_reducible refine e_callBS ?_)
  | (with_reducible refine e_frB ?_)
  | (with_reducible refine e_frI ?_)
  | (with_reducible refine e_opL ?_)
  | (with_reducible refine e_unL ?_)
  | (with_reducible refine e_cbL ?_)
  | (with_reducible refine e_bmL ?_)
  | (with_reducible refine e_bm0L ?_)
  | (with_reducible refine e_truLk ?_)
  | (with_reducible refine e_slL ?_)
  | (with_reducible refine e_fld ?_)
  | (with_reducible refine e_setF ?_)
  | (with_reducible refine e_augF ?_)
  | (with_reducible refine e_meth ?_)
  | (with_reducible refine e_make ?_)
  | (with_reducible refine e_appS ?_)
  | (with_reducible refine e_mutS ?_)
  | (with_reducible refine e_putS ?_)
  | (with_reducible refine e_box ?_)
  | (with_reducible refine e_boxL ?_)
  | (with_reducible refine e_boxDi ?_)
  | (with_reducible refine e_seqB ?_)
  | (with_reducible refine e_enumB ?_)
  | (with_reducible refine e_revB ?_)
  | (with_reducible refine e_zipB ?_)
  | (with_reducible refine e_lcB ?_)
  | (with_reducible refine e_forB ?_)
  | (with_reducible refine e_popS ?_)
  | (with_reducible refine e_dpopS ?_)
  | (with_reducible refine e_get2 ?_)
  | (with_reducible refine e_addII ?_)
  | (with_reducible refine e_subII ?_)
  | (with_reducible refine e_sc ?_)
  | (with_reducible refine e_scI ?_)
  | (with_reducible refine e_sl ?_)
  | (with_reducible refine e_nopart ?_)
  | (with_reducible refine e_part ?_)
  | (with_reducible refine e_intE ?_)
  | (with_reducible refine e_dnew ?_)
  | (with_reducible refine e_rz1 ?_)
  | (with_reducible refine e_rz0 ?_)
  | (with_reducible refine e_par ?_)
  | (with_reducible refine e_put ?_)
  | (with_reducible refine e_addI ?_)
  | (with_reducible refine e_subI ?_)
  | (with_reducible refine e_negI ?_)
  | (with_reducible refine e_eqI ?_)
  | (with_reducible refine e_eqS ?_)
  | (with_reducible refine e_eqB ?_)
  | (with_reducible refine e_neI ?_)
  | (with_reducible refine e_neS ?_)
  | (with_reducible refine e_neB ?_)
  | (with_reducible refine e_ltI ?_)
  | (with_reducible refine e_leI ?_)
  | (with_reducible refine e_gtI ?_)
  | (with_reducible refine e_geI ?_)
  | (with_reducible refine e_ipaI ?_)
  | (with_reducible refine e_lenL ?_)
  | (with_reducible refine e_lenT ?_)
  | (with_reducible refine e_lenD ?_)
  | (with_reducible refine e_listL ?_)
  | (with_reducible refine e_listT ?_)
  | (with_reducible refine e_tupL ?_)
  | (with_reducible refine e_tupT ?_)
  | (with_reducible refine e_intI ?_)
  | (with_reducible refine e_intB ?_)
  | (with_reducible refine e_abs ?_)
  | (with_reducible refine e_cutL ?_)
  | (with_reducible refine e_cutT ?_)
  | (with_reducible refine e_revm ?_)
  | (with_reducible refine e_clrm ?_)
  | (with_reducible refine e_gcons ?_)
  | (with_reducible refine e_gnil ?_)
  | (with_reducible refine e_seqv ?_)
  | (with_reducible refine e_itL ?_)
  | (with_reducible refine e_itT ?_)
  | (with_reducible refine e_itS ?_)
  | (with_reducible refine e_rg1 ?_)
  | (with_reducible refine e_rg2 ?_)
  | (with_reducible refine e_itZL ?_)
  | (with_reducible refine e_itZT ?_)
  | (with_reducible refine e_itEL ?_)
  | (with_reducible refine e_itET ?_)
  | (with_reducible refine e_itES ?_)
  | (with_reducible refine e_itVL ?_)
  | (with_reducible refine e_itVT ?_)
  | (with_reducible refine e_tru ?_)
  | (with_reducible refine e_truB ?_)
  | (with_reducible refine e_truN ?_)
  | (with_reducible refine e_truI ?_)
  | (with_reducible refine e_truL ?_)
  | (with_reducible refine e_truT ?_)
  | (with_reducible refine e_isNn ?_)
  | (with_reducible refine e_isNi ?_)
  | (with_reducible refine e_isNs ?_)
  | (with_reducible refine e_isNl ?_)
  | (with_reducible refine e_isNt ?_)
  | (with_reducible refine e_isNb ?_)
  | (with_reducible refine e_ntNn ?_)
  | (with_reducible refine e_ntNi ?_)
  | (with_reducible refine e_ntNs ?_)
  | (with_reducible refine e_ntNl ?_)
  | (with_reducible refine e_ntNt ?_)
  | (with_reducible refine e_rng1 ?_)
  | (with_reducible refine e_rng2 ?_)
  | (with_reducible refine e_zip ?_)
  | (with_reducible refine e_enum ?_)
  | (with_reducible refine e_rev ?_)
  | (with_reducible refine e_for ?_)
  | (with_reducible refine e_lc ?_)
  | (with_reducible refine w_ifT ?_)
  | (with_reducible refine w_ifF ?_)
  | (with_reducible refine w_ifNF ?_)
  | (with_reducible refine w_ifNT ?_)
  | ((with_reducible refine' e_aug ?hx ?_); (case hx => exact rfl))
  | ((with_reducible refine' e_app ?hx ?_); (case hx => exact rfl))
  | ((with_reducible refine' e_mut ?hx ?_); (case hx => exact rfl))
  | ((with_reducible refine' e_len ?hx ?_); (case hx => exact rfl))
  | ((with_reducible refine' e_gtup ?hx ?_); (case hx => exact rfl))
  | ((with_reducible refine' e_gtupU ?hx ?_); (case hx => exact rfl))
  | ((with_reducible refine' e_gtupL ?hx ?_); (case hx => exact rfl))
  | ((with_reducible refine' e_isi (b := true) ?hx ?hy ?_); (case hx => exact rfl); (case hy => first | exact rfl | decide))
  | ((with_reducible refine' e_isi (b := false) ?hx ?hy ?_); (case hx => exact rfl); (case hy => first | exact rfl | decide))
  | ((with_reducible refine' e_modI ?hx ?_); (case hx => decide))
  | ((with_reducible refine' e_divI ?hx ?_); (case hx => exact .inl ⟨by decide, by decide⟩))
  | ((with_reducible refine' e_mulI ?hx ?_); (case hx => first | exact .inl (.inr ⟨by decide, by decide⟩) | exact .inl (.inl ⟨by decide, by decide⟩)))
  | ((with_reducible refine' e_ipmI ?hx ?_); (case hx => first | exact .inl (.inr ⟨by decide, by decide⟩) | exact .inl (.inl ⟨by decide, by decide⟩)))
  | (with_reducible refine e_isN ?_) | (with_reducible refine e_notN ?_))
local macro_rules | `(tactic| walk_at "vv") => `(tactic| repeat (walk_at "v1"))
local macro_rules | `(tactic| walk_at "vi") => `(tactic| ((with_reducible refine e_seq ?_); repeat (walk_at "v1")))
local macro_rules | `(tactic| walk_at "ve") => `(tactic| ((with_reducible refine e_ifE ?_); repeat (walk_at "v1")))
/- number_bytes: 0 number, 1 rest, 2 made -/
def t_number_bytes (K : PySem.W.Frag) : TS :=
      (tSeq (tAsg (tOp (rMulT) (tC (.int 2)) (tVar 0)) (gName 1))
      (tSeq (tIfS (tTest (tOp (rLtU K) (tVar 0) (tC (.int 0))))
      (tAsg (tOp (rSubU) (tOp (rMulT) (tUn rNeg (tC (.int 2))) (tVar 0)) (tC (.int 1))) (gName 1))
      tNext)
      (tSeq (tAsg (tLst tNil) (gName 2))
      (tSeq (tWhile (tTest (tOp (rGeV) (tVar 1) (tC (.int 128))))
      (tSeq (tDrop (tBM K "list" (rAppend) (tVar 2) (tCons (tOp (rAddU K) (tOp (rModU) (tVar 1) (tC (.int 128))) (tC (.int 128))) tNil)))
      (tAsg (tOp (rDivU) (tVar 1) (tC (.int 128))) (gName 1))))
      (tRet (tOp (rAddU K) (tVar 2) (tLst (tCons (tVar 1) tNil))))))))
abbrev N_number_bytes : List Str := [("number" : Str), ("rest" : Str), ("made" : Str)]
def v_number_bytes (K : PySem.W.Frag) : VS :=
      (vSeqS (vAsg (vOp vMul (vC (.int 2)) (vVar 0)) (vgName 1))
      (vSeqS (vIf (vTest (vOp vLt (vVar 0) (vC (.int 0))))
      (vAsg (vOp vSub (vOp vMul (vUn vNeg (vC (.int 2))) (vVar 0)) (vC (.int 1))) (vgName 1))
      vNext)
      (vSeqS (vAsg (vLst vNil) (vgName 2))
      (vSeqS (vWhile [0] (vTest (vOp vGe (vVar 1) (vC (.int 128))))
      (vSeqS (vApp 2 (vOp vAdd (vOp vMod (vVar 1) (vC (.int 128))) (vC (.int 128))))
      (vAsg (vOp vDiv (vVar 1) (vC (.int 128))) (vgName 1))))
      (vRet (vOp vAdd (vVar 2) (vLst (vCons (vVar 1) vNil))))))))
theorem sim_number_bytes {K : PySem.W.Frag} {vsp : VSp} (hv : ∀ ds m P VX, vsp ds m P VX → ds.length = 1 ∧ v_number_bytes K (vends P) (vstart N_number_bytes.length ds) m) :
    ∀ us H Q E, spV K .O vsp us H Q E → t_number_bytes K { nx := fun _ H' => Q .non H', rt := Q } (L2.start N_number_bytes us) H :=
  sim_def (n := 1) (t := .O) (N := N_number_bytes) (Γn := [.F, .F, .F]) (Γb := []) (Γc := []) (ts := fun E => t_number_bytes K) (vs := fun VX => v_number_bytes K) (by decide) (fun c W VX hK hx => by
    subst hK
    exact (x_seq (x_asgO (i := 1) (s_op o_mul (SO.b s_int) (SF.b (s_varF (by rfl)))))
      (x_seq (x_if (Γn := [.F, .O, .F]) (s_test (SO.b (s_op o_lt (SF.b (s_varF (by rfl))) (SO.b s_int))))
      (x_asgO (i := 1) (s_op o_sub (SO.b (s_op o_mul (SO.b (s_un o_neg (SO.b s_int))) (SF.b (s_varF (by rfl))))) (SO.b s_int)))
      x_next)
      (x_seq (x_asgO (i := 2) (s_lst g_nil))
      (x_seq (x_while (Γ' := [.F, .O, .O]) (ws := [0]) (s_test (SO.b (s_op o_ge (s_varB (t := .O) (by rfl)) (SO.b s_int))))
      (x_seq (x_app (by rfl) (SO.f (s_op o_add (SO.b (s_op o_mod (s_varB (t := .O) (by rfl)) (SO.b s_int))) (SO.b s_int))))
      (x_asgO (i := 1) (s_op o_div (s_varB (t := .O) (by rfl)) (SO.b s_int)))))
      (x_pre (Γ1 := [.F, .F, .O]) (x_retO (s_op o_add (s_varB (t := .O) (by rfl)) (SO.b (s_lst (g_cons (s_varF (by rfl)) g_nil))))))))))) hv

/- text_bytes: 0 text, 1 sign -/
def t_text_bytes (K : PySem.W.Frag) (s_number_bytes_ : Sp) : TS :=
      (tRet (tOp (rAddU K) (tCall s_number_bytes_ [] E0 (tCons (tCB (rLenU K) (tCons (tVar 0) tNil)) tNil)) (tLc (iSeqV K (tVar 0)) (gName 1) tYes (tBM K "str" (rSIdx) (tC (.str (" !\"#$&'()*+,-./0123456789:;<=>?@ABCDEFGHIJKLMNOPQRSTUVWXYZ[\\]^_`abcdefghijklmnopqrstuvwxyz{|}~" : Str))) (tCons (tVar 1) tNil)) [1])))
abbrev N_text_bytes : List Str := [("text" : Str), ("sign" : Str)]
def v_text_bytes (K : PySem.W.Frag) (vs_number_bytes : VSp) : VS :=
      (vRet (vOp vAdd (vCall vs_number_bytes (vCons (vCB vLen (vCons (vVar 0) vNil)) vNil)) (vLc (vSeq (vVar 0)) (vgName 1) vYes (vBMt "str" vSIdx (vC (.str (" !\"#$&'()*+,-./0123456789:;<=>?@ABCDEFGHIJKLMNOPQRSTUVWXYZ[\\]^_`abcdefghijklmnopqrstuvwxyz{|}~" : Str))) (vCons (vVar 1) vNil)) [1])))
theorem sim_text_bytes {K : PySem.W.Frag} {vs_number_bytes : VSp} {vsp : VSp} (hv : ∀ ds m P VX, vsp ds m P VX → ds.length = 1 ∧ v_text_bytes K vs_number_bytes (vends P) (vstart N_text_bytes.length ds) m) :
    ∀ us H Q E, spV K .O vsp us H Q E → t_text_bytes K (spV K .O vs_number_bytes) { nx := fun _ H' => Q .non H', rt := Q } (L2.start N_text_bytes us) H :=
  sim_def (n := 1) (t := .O) (N := N_text_bytes) (Γn := [.F, .F]) (Γb := []) (Γc := []) (ts := fun E => t_text_bytes K (spV K .O vs_number_bytes)) (vs := fun VX => v_text_bytes K vs_number_bytes) (by decide) (fun c W VX hK hx => by
    subst hK
    exact (x_retO (s_op o_add (SO.b (s_callO (g_cons (SO.f (s_cb l_len (a_cons (SF.b (s_varF (by rfl))) a_nil))) g_nil))) (SO.b (s_lc (vs := [1]) (i_seq (s_varF (by rfl))) (by rfl) (tg_name (is := [1]) (by rfl) (by decide)) s_yes (SO.f (s_bm m_sidx (SO.b s_str) (a_cons (SF.b (s_varF (by rfl))) a_nil)))))))) hv

/- cell_bytes: 0 cell -/
def t_cell_bytes (K : PySem.W.Frag) (s_text_bytes_ : Sp) (s_number_bytes_ : Sp) : TS :=
      (tSeq (tIfS (tTest (tOp (rIsN) (tVar 0) (tC .non)))
      (tRet (tLst (tCons (tC (.int 0)) tNil)))
      tNext)
      (tSeq (tIfS (tTru K (tCB (rIsiU K) (tCons (tVar 0) (tCons (tC (.ty "str")) tNil))))
      (tRet (tOp (rAddU K) (tLst (tCons (tC (.int 2)) tNil)) (tCall s_text_bytes_ [] E0 (tCons (tVar 0) tNil))))
      tNext)
      (tRet (tOp (rAddU K) (tLst (tCons (tC (.int 1)) tNil)) (tCall s_number_bytes_ [] E0 (tCons (tVar 0) tNil))))))
abbrev N_cell_bytes : List Str := [("cell" : Str)]
def v_cell_bytes (K : PySem.W.Frag) (vs_text_bytes : VSp) (vs_number_bytes : VSp) : VS :=
      (vSeqS (vIf (vTest (vOp vIsN (vVar 0) (vC .non)))
      (vRet (vLst (vCons (vC (.int 0)) vNil)))
      vNext)
      (vSeqS (vIf (vTru (vCB vIsi (vCons (vVar 0) (vCons (vC (.ty "str")) vNil))))
      (vRet (vOp vAdd (vLst (vCons (vC (.int 2)) vNil)) (vCall vs_text_bytes (vCons (vVar 0) vNil))))
      vNext)
      (vRet (vOp vAdd (vLst (vCons (vC (.int 1)) vNil)) (vCall vs_number_bytes (vCons (vVar 0) vNil))))))
theorem sim_cell_bytes {K : PySem.W.Frag} {vs_text_bytes : VSp} {vs_number_bytes : VSp} {vsp : VSp} (hv : ∀ ds m P VX, vsp ds m P VX → ds.length = 1 ∧ v_cell_bytes K vs_text_bytes vs_number_bytes (vends P) (vstart N_cell_bytes.length ds) m) :
    ∀ us H Q E, spV K .O vsp us H Q E → t_cell_bytes K (spV K .O vs_text_bytes) (spV K .O vs_number_bytes) { nx := fun _ H' => Q .non H', rt := Q } (L2.start N_cell_bytes us) H :=
  sim_def (n := 1) (t := .O) (N := N_cell_bytes) (Γn := [.F]) (Γb := []) (Γc := []) (ts := fun E => t_cell_bytes K (spV K .O vs_text_bytes) (spV K .O vs_number_bytes)) (vs := fun VX => v_cell_bytes K vs_text_bytes vs_number_bytes) (by decide) (fun c W VX hK hx => by
    subst hK
    exact (x_seq (x_if (Γn := [.F]) (s_test (SO.b (s_op o_isN (SF.b (s_varF (by rfl))) (SO.b s_non))))
      (x_retO (s_lst (g_cons (SO.f s_int) g_nil)))
      x_next)
      (x_seq (x_if (Γn := [.F]) (s_tru (SO.b (s_cb l_isi (a_cons (SF.b (s_varF (by rfl))) (a_cons (SO.b s_ty) a_nil)))))
      (x_retO (s_op o_add (SO.b (s_lst (g_cons (SO.f s_int) g_nil))) (SO.b (s_callO (g_cons (s_varF (by rfl)) g_nil)))))
      x_next)
      (x_retO (s_op o_add (SO.b (s_lst (g_cons (SO.f s_int) g_nil))) (SO.b (s_callO (g_cons (s_varF (by rfl)) g_nil)))))))) hv

/- byte_at: 0 row, 1 at -/
def t_byte_at (K : PySem.W.Frag) (s_BadBytes_init_ : Sp) (c_BadBytes : Addr) (E : XK) : TS :=
      (tSeq (tIfS (tTest (tOp (rGeV) (tVar 1) (tCB (rLenU K) (tCons (tVar 0) tNil))))
      (tRzO (fun c d _ H => E c d H) c_BadBytes s_BadBytes_init_ (tCons (tC (.str ("short" : Str))) tNil))
      tNext)
      (tRet (tOp (rIxU K) (tVar 0) (tVar 1))))
abbrev N_byte_at : List Str := [("row" : Str), ("at" : Str)]
def v_byte_at (K : PySem.W.Frag) (c_BadBytes : Addr) (VX : XV) : VS :=
      (vSeqS (vIf (vTest (vOp vGe (vVar 1) (vCB vLen (vCons (vVar 0) vNil))))
      (vRz1 (fun C fs _ m => VX C fs m) c_BadBytes ("why" : Str) (vCons (vC (.str ("short" : Str))) vNil))
      vNext)
      (vRet (vOp vIx (vVar 0) (vVar 1))))
theorem sim_byte_at {K : PySem.W.Frag} {c_BadBytes : Addr} {vsp : VSp} (hv : ∀ ds m P VX, vsp ds m P VX → ds.length = 2 ∧ v_byte_at K c_BadBytes VX (vends P) (vstart N_byte_at.length ds) m) :
    ∀ us H Q E, spV K .F vsp us H Q E → t_byte_at K (spIni ("why" : Str) K c_BadBytes) c_BadBytes E { nx := fun _ H' => Q .non H', rt := Q } (L2.start N_byte_at us) H :=
  sim_def (n := 2) (t := .F) (N := N_byte_at) (Γn := [.F, .F]) (Γb := []) (Γc := []) (ts := fun E => t_byte_at K (spIni ("why" : Str) K c_BadBytes) c_BadBytes E) (vs := fun VX => v_byte_at K c_BadBytes VX) (by decide) (fun c W VX hK hx => by
    subst hK
    exact (x_seq (x_if (Γn := [.F, .F]) (s_test (SO.b (s_op o_ge (SF.b (s_varF (by rfl))) (SO.b (s_cb l_len (a_cons (SF.b (s_varF (by rfl))) a_nil))))))
      (x_raise1 (hx _) (g_cons (SO.f s_str) g_nil))
      x_next)
      (x_retF (s_opF o_ix (SF.b (s_varF (by rfl))) (SF.b (s_varF (by rfl))))))) hv

/- number_of: 0 rest -/
def t_number_of (K : PySem.W.Frag) : TS :=
      (tSeq (tIfS (tTest (tOp (rEqU K) (tOp (rModU) (tVar 0) (tC (.int 2))) (tC (.int 0))))
      (tRet (tOp (rDivU) (tVar 0) (tC (.int 2))))
      tNext)
      (tRet (tOp (rSubU) (tUn rNeg (tOp (rDivU) (tVar 0) (tC (.int 2)))) (tC (.int 1)))))
abbrev N_number_of : List Str := [("rest" : Str)]
def v_number_of (K : PySem.W.Frag) : VS :=
      (vSeqS (vIf (vTest (vOp vEqC (vOp vMod (vVar 0) (vC (.int 2))) (vC (.int 0))))
      (vRet (vOp vDiv (vVar 0) (vC (.int 2))))
      vNext)
      (vRet (vOp vSub (vUn vNeg (vOp vDiv (vVar 0) (vC (.int 2)))) (vC (.int 1)))))
theorem sim_number_of {K : PySem.W.Frag} {vsp : VSp} (hv : ∀ ds m P VX, vsp ds m P VX → ds.length = 1 ∧ v_number_of K (vends P) (vstart N_number_of.length ds) m) :
    ∀ us H Q E, spV K .O vsp us H Q E → t_number_of K { nx := fun _ H' => Q .non H', rt := Q } (L2.start N_number_of us) H :=
  sim_def (n := 1) (t := .O) (N := N_number_of) (Γn := [.F]) (Γb := []) (Γc := []) (ts := fun E => t_number_of K) (vs := fun VX => v_number_of K) (by decide) (fun c W VX hK hx => by
    subst hK
    exact (x_seq (x_if (Γn := [.F]) (s_test (SO.b (s_op o_eq (SO.b (s_op o_mod (SF.b (s_varF (by rfl))) (SO.b s_int))) (SO.b s_int))))
      (x_retO (s_op o_div (SF.b (s_varF (by rfl))) (SO.b s_int)))
      x_next)
      (x_retO (s_op o_sub (SO.b (s_un o_neg (SO.b (s_op o_div (SF.b (s_varF (by rfl))) (SO.b s_int))))) (SO.b s_int))))) hv

/- take_number: 0 row, 1 at, 2 rest, 3 weight, 4 turn, 5 byte -/
def t_take_number (K : PySem.W.Frag) (s_byte_at_ : Sp) (s_number_of_ : Sp) (s_BadBytes_init_ : Sp) (c_BadBytes : Addr) (E : XK) : TS :=
      (tSeq (tAsg (tC (.int 0)) (gName 2))
      (tSeq (tAsg (tC (.int 1)) (gName 3))
      (tSeq (tFor (iRng1 (tCons (tC (.int 9)) tNil)) (gName 4)
      (tSeq (tAsg (tCallS s_byte_at_ (WE (fun c d _ H => E c d H)) (tCons (tVar 0) (tCons (tOp (rAddU K) (tVar 1) (tVar 4)) tNil))) (gName 5))
      (tSeq (tAug 2 (tOp (rMulT) (tOp (rModU) (tVar 5) (tC (.int 128))) (tVar 3)) (ipAddU K))
      (tSeq (tAug 3 (tC (.int 128)) (ipMulU))
      (tIfS (tTest (tOp (rLtU K) (tVar 5) (tC (.int 128))))
      (tSeq (tIfS (tAnd (tTest (tOp (rEqU K) (tVar 5) (tC (.int 0)))) (tTest (tOp (rGtV) (tVar 4) (tC (.int 0)))))
      (tRzO (fun c d _ H => E c d H) c_BadBytes s_BadBytes_init_ (tCons (tC (.str ("long" : Str))) tNil))
      tNext)
      (tRet (tTup (tCons (tCall s_number_of_ [] E0 (tCons (tVar 2) tNil)) (tCons (tOp (rAddU K) (tOp (rAddU K) (tVar 1) (tVar 4)) (tC (.int 1))) tNil)))))
      tNext)))))
      (tRzO (fun c d _ H => E c d H) c_BadBytes s_BadBytes_init_ (tCons (tC (.str ("long" : Str))) tNil)))))
abbrev N_take_number : List Str := [("row" : Str), ("at" : Str), ("rest" : Str), ("weight" : Str), ("turn" : Str), ("byte" : Str)]
def v_take_number (K : PySem.W.Frag) (vs_byte_at : VSp) (vs_number_of : VSp) (c_BadBytes : Addr) (VX : XV) : VS :=
      (vSeqS (vAsg (vC (.int 0)) (vgName 2))
      (vSeqS (vAsg (vC (.int 1)) (vgName 3))
      (vSeqS (vFor [4, 5] (vRng1 (vCons (vC (.int 9)) vNil)) (vgName 4)
      (vSeqS (vAsg (vCallS vs_byte_at (fun C fs _ m => VX C fs m) (vCons (vVar 0) (vCons (vOp vAdd (vVar 1) (vVar 4)) vNil))) (vgName 5))
      (vSeqS (vAug 2 vIpAdd (vOp vMul (vOp vMod (vVar 5) (vC (.int 128))) (vVar 3)))
      (vSeqS (vAug 3 vIpMul (vC (.int 128)))
      (vIf (vTest (vOp vLt (vVar 5) (vC (.int 128))))
      (vSeqS (vIf (vAnd (vTest (vOp vEqC (vVar 5) (vC (.int 0)))) (vTest (vOp vGt (vVar 4) (vC (.int 0)))))
      (vRz1 (fun C fs _ m => VX C fs m) c_BadBytes ("why" : Str) (vCons (vC (.str ("long" : Str))) vNil))
      vNext)
      (vRet (vTup (vCons (vCall vs_number_of (vCons (vVar 2) vNil)) (vCons (vOp vAdd (vOp vAdd (vVar 1) (vVar 4)) (vC (.int 1))) vNil)))))
      vNext)))))
      (vRz1 (fun C fs _ m => VX C fs m) c_BadBytes ("why" : Str) (vCons (vC (.str ("long" : Str))) vNil)))))
theorem sim_take_number {K : PySem.W.Frag} {vs_byte_at : VSp} {vs_number_of : VSp} {c_BadBytes : Addr} {vsp : VSp} (hv : ∀ ds m P VX, vsp ds m P VX → ds.length = 2 ∧ v_take_number K vs_byte_at vs_number_of c_BadBytes VX (vends P) (vstart N_take_number.length ds) m) :
    ∀ us H Q E, spV K .O vsp us H Q E → t_take_number K (spV K .F vs_byte_at) (spV K .O vs_number_of) (spIni ("why" : Str) K c_BadBytes) c_BadBytes E { nx := fun _ H' => Q .non H', rt := Q } (L2.start N_take_number us) H :=
  sim_def (n := 2) (t := .O) (N := N_take_number) (Γn := [.F, .F, .F, .F, .F, .F]) (Γb := []) (Γc := []) (ts := fun E => t_take_number K (spV K .F vs_byte_at) (spV K .O vs_number_of) (spIni ("why" : Str) K c_BadBytes) c_BadBytes E) (vs := fun VX => v_take_number K vs_byte_at vs_number_of c_BadBytes VX) (by decide) (fun c W VX hK hx => by
    subst hK
    exact (x_seq (x_asgO (i := 2) s_int)
      (x_seq (x_asgO (i := 3) s_int)
      (x_seq (x_for (Γ' := [.F, .F, .O, .O, .F, .F]) (ws := [4, 5]) (i_rng1 (g_cons (SO.f s_int) g_nil)) (tg_name (is := [4]) (by rfl) (by decide))
      (x_seq (x_asgF (i := 5) (s_callSF (hx _) (g_cons (s_varF (by rfl)) (g_cons (SO.f (s_op o_add (SF.b (s_varF (by rfl))) (SF.b (s_varF (by rfl))))) g_nil))))
      (x_seq (x_aug (i := 2) ip_addV (by rfl) (SO.b (s_op o_mul (SO.b (s_op o_mod (SF.b (s_varF (by rfl))) (SO.b s_int))) (s_varB (t := .O) (by rfl)))))
      (x_seq (x_aug (i := 3) ip_mulV (by rfl) (SO.b s_int))
      (x_if (Γn := [.F, .F, .O, .O, .F, .F]) (s_test (SO.b (s_op o_lt (SF.b (s_varF (by rfl))) (SO.b s_int))))
      (x_seq (x_if (Γn := [.F, .F, .O, .O, .F, .F]) (s_and (s_test (SO.b (s_op o_eq (SF.b (s_varF (by rfl))) (SO.b s_int)))) (s_test (SO.b (s_op o_gt (SF.b (s_varF (by rfl))) (SO.b s_int)))))
      (x_raise1 (hx _) (g_cons (SO.f s_str) g_nil))
      x_next)
      (x_pre (Γ1 := [.F, .F, .F, .O, .F, .F]) (x_retO (s_tup (g_cons (SO.f (s_callO (g_cons (s_varF (by rfl)) g_nil))) (g_cons (SO.f (s_op o_add (SO.b (s_op o_add (SF.b (s_varF (by rfl))) (SF.b (s_varF (by rfl))))) (SO.b s_int))) g_nil))))))
      x_next)))))
      (x_raise1 (hx _) (g_cons (SO.f s_str) g_nil)))))) hv

/- take_text: 0 row, 1 at, 2 many, 3 text, 4 turn, 5 byte -/
def t_take_text (K : PySem.W.Frag) (s_take_number_ : Sp) (s_byte_at_ : Sp) (s_BadBytes_init_ : Sp) (c_BadBytes : Addr) (E : XK) : TS :=
      (tSeq (tAsg (tCallS s_take_number_ (WE (fun c d _ H => E c d H)) (tCons (tVar 0) (tCons (tVar 1) tNil))) (gTup K 2 (gCons (gName 2) (gCons (gName 1) gNil))))
      (tSeq (tIfS (tNot (tTest (tChain (rLeV) (rLeV) (tC (.int 0)) (tVar 2) (tC (.int 20)))))
      (tRzO (fun c d _ H => E c d H) c_BadBytes s_BadBytes_init_ (tCons (tC (.str ("count" : Str))) tNil))
      tNext)
      (tSeq (tAsg (tC (.str ("" : Str))) (gName 3))
      (tSeq (tFor (iRng1 (tCons (tVar 2) tNil)) (gName 4)
      (tSeq (tAsg (tCallS s_byte_at_ (WE (fun c d _ H => E c d H)) (tCons (tVar 0) (tCons (tOp (rAddU K) (tVar 1) (tVar 4)) tNil))) (gName 5))
      (tSeq (tIfS (tNot (tTest (tChain (rLeV) (rLtU K) (tC (.int 0)) (tVar 5) (tCB (rLenU K) (tCons (tC (.str (" !\"#$&'()*+,-./0123456789:;<=>?@ABCDEFGHIJKLMNOPQRSTUVWXYZ[\\]^_`abcdefghijklmnopqrstuvwxyz{|}~" : Str))) tNil)))))
      (tRzO (fun c d _ H => E c d H) c_BadBytes s_BadBytes_init_ (tCons (tC (.str ("sign" : Str))) tNil))
      tNext)
      (tAug 3 (tOp (rIxU K) (tC (.str (" !\"#$&'()*+,-./0123456789:;<=>?@ABCDEFGHIJKLMNOPQRSTUVWXYZ[\\]^_`abcdefghijklmnopqrstuvwxyz{|}~" : Str))) (tVar 5)) (ipAddU K)))))
      (tRet (tTup (tCons (tVar 3) (tCons (tOp (rAddU K) (tVar 1) (tVar 2)) tNil))))))))
abbrev N_take_text : List Str := [("row" : Str), ("at" : Str), ("many" : Str), ("text" : Str), ("turn" : Str), ("byte" : Str)]
def v_take_text (K : PySem.W.Frag) (vs_take_number : VSp) (vs_byte_at : VSp) (c_BadBytes : Addr) (VX : XV) : VS :=
      (vSeqS (vAsg (vCallS vs_take_number (fun C fs _ m => VX C fs m) (vCons (vVar 0) (vCons (vVar 1) vNil))) (vgTup 2 (vgCons (vgName 2) (vgCons (vgName 1) vgNil))))
      (vSeqS (vIf (vNot (vTest (vChain vLe vLe (vC (.int 0)) (vVar 2) (vC (.int 20)))))
      (vRz1 (fun C fs _ m => VX C fs m) c_BadBytes ("why" : Str) (vCons (vC (.str ("count" : Str))) vNil))
      vNext)
      (vSeqS (vAsg (vC (.str ("" : Str))) (vgName 3))
      (vSeqS (vFor [4, 5] (vRng1 (vCons (vVar 2) vNil)) (vgName 4)
      (vSeqS (vAsg (vCallS vs_byte_at (fun C fs _ m => VX C fs m) (vCons (vVar 0) (vCons (vOp vAdd (vVar 1) (vVar 4)) vNil))) (vgName 5))
      (vSeqS (vIf (vNot (vTest (vChain vLe vLt (vC (.int 0)) (vVar 5) (vCB vLen (vCons (vC (.str (" !\"#$&'()*+,-./0123456789:;<=>?@ABCDEFGHIJKLMNOPQRSTUVWXYZ[\\]^_`abcdefghijklmnopqrstuvwxyz{|}~" : Str))) vNil)))))
      (vRz1 (fun C fs _ m => VX C fs m) c_BadBytes ("why" : Str) (vCons (vC (.str ("sign" : Str))) vNil))
      vNext)
      (vAug 3 vIpAdd (vOp vIx (vC (.str (" !\"#$&'()*+,-./0123456789:;<=>?@ABCDEFGHIJKLMNOPQRSTUVWXYZ[\\]^_`abcdefghijklmnopqrstuvwxyz{|}~" : Str))) (vVar 5))))))
      (vRet (vTup (vCons (vVar 3) (vCons (vOp vAdd (vVar 1) (vVar 2)) vNil))))))))
theorem sim_take_text {K : PySem.W.Frag} {vs_take_number : VSp} {vs_byte_at : VSp} {c_BadBytes : Addr} {vsp : VSp} (hv : ∀ ds m P VX, vsp ds m P VX → ds.length = 2 ∧ v_take_text K vs_take_number vs_byte_at c_BadBytes VX (vends P) (vstart N_take_text.length ds) m) :
    ∀ us H Q E, spV K .O vsp us H Q E → t_take_text K (spV K .O vs_take_number) (spV K .F vs_byte_at) (spIni ("why" : Str) K c_BadBytes) c_BadBytes E { nx := fun _ H' => Q .non H', rt := Q } (L2.start N_take_text us) H :=
  sim_def (n := 2) (t := .O) (N := N_take_text) (Γn := [.F, .F, .F, .F, .F, .F]) (Γb := []) (Γc := []) (ts := fun E => t_take_text K (spV K .O vs_take_number) (spV K .F vs_byte_at) (spIni ("why" : Str) K c_BadBytes) c_BadBytes E) (vs := fun VX => v_take_text K vs_take_number vs_byte_at c_BadBytes VX) (by decide) (fun c W VX hK hx => by
    subst hK
    exact (x_seq (x_asgT (SO.f (s_callSO (hx _) (g_cons (s_varF (by rfl)) (g_cons (s_varF (by rfl)) g_nil)))) (tg_tup (tg_cons (tg_name (is := [1, 2]) (by rfl) (by decide)) (tg_cons (tg_name (is := [1, 2]) (by rfl) (by decide)) tg_nil))))
      (x_seq (x_if (Γn := [.F, .F, .F, .F, .F, .F]) (s_not (s_test (SO.b (s_chain o_le o_le (SO.b s_int) (SF.b (s_varF (by rfl))) (SO.b s_int)))))
      (x_raise1 (hx _) (g_cons (SO.f s_str) g_nil))
      x_next)
      (x_seq (x_asgO (i := 3) s_str)
      (x_seq (x_for (Γ' := [.F, .F, .F, .O, .F, .F]) (ws := [4, 5]) (i_rng1 (g_cons (s_varF (by rfl)) g_nil)) (tg_name (is := [4]) (by rfl) (by decide))
      (x_seq (x_asgF (i := 5) (s_callSF (hx _) (g_cons (s_varF (by rfl)) (g_cons (SO.f (s_op o_add (SF.b (s_varF (by rfl))) (SF.b (s_varF (by rfl))))) g_nil))))
      (x_seq (x_if (Γn := [.F, .F, .F, .O, .F, .F]) (s_not (s_test (SO.b (s_chain o_le o_lt (SO.b s_int) (SF.b (s_varF (by rfl))) (SO.b (s_cb l_len (a_cons (SO.b s_str) a_nil)))))))
      (x_raise1 (hx _) (g_cons (SO.f s_str) g_nil))
      x_next)
      (x_aug (i := 3) ip_addV (by rfl) (SF.b (s_opF o_ix (SO.b s_str) (SF.b (s_varF (by rfl)))))))))
      (x_pre (Γ1 := [.F, .F, .F, .F, .F, .F]) (x_retO (s_tup (g_cons (s_varF (by rfl)) (g_cons (SO.f (s_op o_add (SF.b (s_varF (by rfl))) (SF.b (s_varF (by rfl))))) g_nil)))))))))) hv

/- take_cell: 0 row, 1 at, 2 kind -/
def t_take_cell (K : PySem.W.Frag) (s_byte_at_ : Sp) (s_take_number_ : Sp) (s_take_text_ : Sp) (s_BadBytes_init_ : Sp) (c_BadBytes : Addr) (E : XK) : TS :=
      (tSeq (tAsg (tCallS s_byte_at_ (WE (fun c d _ H => E c d H)) (tCons (tVar 0) (tCons (tVar 1) tNil))) (gName 2))
      (tSeq (tIfS (tTest (tOp (rEqU K) (tVar 2) (tC (.int 0))))
      (tRet (tTup (tCons (tC .non) (tCons (tOp (rAddU K) (tVar 1) (tC (.int 1))) tNil))))
      tNext)
      (tSeq (tIfS (tTest (tOp (rEqU K) (tVar 2) (tC (.int 1))))
      (tRet (tCallS s_take_number_ (WE (fun c d _ H => E c d H)) (tCons (tVar 0) (tCons (tOp (rAddU K) (tVar 1) (tC (.int 1))) tNil))))
      tNext)
      (tSeq (tIfS (tTest (tOp (rEqU K) (tVar 2) (tC (.int 2))))
      (tRet (tCallS s_take_text_ (WE (fun c d _ H => E c d H)) (tCons (tVar 0) (tCons (tOp (rAddU K) (tVar 1) (tC (.int 1))) tNil))))
      tNext)
      (tRzO (fun c d _ H => E c d H) c_BadBytes s_BadBytes_init_ (tCons (tC (.str ("kind" : Str))) tNil))))))
abbrev N_take_cell : List Str := [("row" : Str), ("at" : Str), ("kind" : Str)]
def v_take_cell (K : PySem.W.Frag) (vs_byte_at : VSp) (vs_take_number : VSp) (vs_take_text : VSp) (c_BadBytes : Addr) (VX : XV) : VS :=
      (vSeqS (vAsg (vCallS vs_byte_at (fun C fs _ m => VX C fs m) (vCons (vVar 0) (vCons (vVar 1) vNil))) (vgName 2))
      (vSeqS (vIf (vTest (vOp vEqC (vVar 2) (vC (.int 0))))
      (vRet (vTup (vCons (vC .non) (vCons (vOp vAdd (vVar 1) (vC (.int 1))) vNil))))
      vNext)
      (vSeqS (vIf (vTest (vOp vEqC (vVar 2) (vC (.int 1))))
      (vRet (vCallS vs_take_number (fun C fs _ m => VX C fs m) (vCons (vVar 0) (vCons (vOp vAdd (vVar 1) (vC (.int 1))) vNil))))
      vNext)
      (vSeqS (vIf (vTest (vOp vEqC (vVar 2) (vC (.int 2))))
      (vRet (vCallS vs_take_text (fun C fs _ m => VX C fs m) (vCons (vVar 0) (vCons (vOp vAdd (vVar 1) (vC (.int 1))) vNil))))
      vNext)
      (vRz1 (fun C fs _ m => VX C fs m) c_BadBytes ("why" : Str) (vCons (vC (.str ("kind" : Str))) vNil))))))
theorem sim_take_cell {K : PySem.W.Frag} {vs_byte_at : VSp} {vs_take_number : VSp} {vs_take_text : VSp} {c_BadBytes : Addr} {vsp : VSp} (hv : ∀ ds m P VX, vsp ds m P VX → ds.length = 2 ∧ v_take_cell K vs_byte_at vs_take_number vs_take_text c_BadBytes VX (vends P) (vstart N_take_cell.length ds) m) :
    ∀ us H Q E, spV K .O vsp us H Q E → t_take_cell K (spV K .F vs_byte_at) (spV K .O vs_take_number) (spV K .O vs_take_text) (spIni ("why" : Str) K c_BadBytes) c_BadBytes E { nx := fun _ H' => Q .non H', rt := Q } (L2.start N_take_cell us) H :=
  sim_def (n := 2) (t := .O) (N := N_take_cell) (Γn := [.F, .F, .F]) (Γb := []) (Γc := []) (ts := fun E => t_take_cell K (spV K .F vs_byte_at) (spV K .O vs_take_number) (spV K .O vs_take_text) (spIni ("why" : Str) K c_BadBytes) c_BadBytes E) (vs := fun VX => v_take_cell K vs_byte_at vs_take_number vs_take_text c_BadBytes VX) (by decide) (fun c W VX hK hx => by
    subst hK
    exact (x_seq (x_asgF (i := 2) (s_callSF (hx _) (g_cons (s_varF (by rfl)) (g_cons (s_varF (by rfl)) g_nil))))
      (x_seq (x_if (Γn := [.F, .F, .F]) (s_test (SO.b (s_op o_eq (SF.b (s_varF (by rfl))) (SO.b s_int))))
      (x_retO (s_tup (g_cons (SO.f s_non) (g_cons (SO.f (s_op o_add (SF.b (s_varF (by rfl))) (SO.b s_int))) g_nil))))
      x_next)
      (x_seq (x_if (Γn := [.F, .F, .F]) (s_test (SO.b (s_op o_eq (SF.b (s_varF (by rfl))) (SO.b s_int))))
      (x_retO (s_callSO (hx _) (g_cons (s_varF (by rfl)) (g_cons (SO.f (s_op o_add (SF.b (s_varF (by rfl))) (SO.b s_int))) g_nil))))
      x_next)
      (x_seq (x_if (Γn := [.F, .F, .F]) (s_test (SO.b (s_op o_eq (SF.b (s_varF (by rfl))) (SO.b s_int))))
      (x_retO (s_callSO (hx _) (g_cons (s_varF (by rfl)) (g_cons (SO.f (s_op o_add (SF.b (s_varF (by rfl))) (SO.b s_int))) g_nil))))
      x_next)
      (x_raise1 (hx _) (g_cons (SO.f s_str) g_nil))))))) hv

/-- a list of ints -/
abbrev dL (ns : List Int) : D := .lst (ns.map D.int)
def wNb : VSp := fun ds m P _ => ∃ n : Int, ds = [.int n] ∧ n.natAbs < 2 ^ 200 ∧ P (dL (nb n)) m
theorem dl_snoc (a : List Int) (b : Int) : D.lst (a.map D.int ++ [D.int b]) = dL (a ++ [b]) := by rw [dL, List.map_append]; rfl
theorem dl_app (a b : List Int) : D.lst (a.map D.int ++ b.map D.int) = dL (a ++ b) := by rw [dL, List.map_append]
theorem dl_cons (a : Int) (b : List Int) : D.lst ([D.int a] ++ b.map D.int) = dL (a :: b) := rfl
theorem p_number_bytes {K : PySem.W.Frag} (ds : List D) (m : Mst) (P : D → Mst → Prop) (VX : XV) (h : wNb ds m P VX) : ds.length = 1 ∧ v_number_bytes K (vends P) (vstart N_number_bytes.length ds) m := by
  obtain ⟨n, rfl, hb, k⟩ := h
  have hlen := nb_len hb
  refine ⟨rfl, ?_⟩
  unfold v_number_bytes
  walk_at "vv"
  with_reducible refine e_seqO fun N hN => ?_
  have main : ∀ r : Int, r = (zz n : Nat) → N [some (.int n), some (.int r), none] m := by
    rintro r rfl
    refine hN _ _ ?_
    walk_at "vv"
    refine ⟨fun (s : Nat) e m' => ∃ pre : List Int, e = [none, some (.int (s : Int)), some (dL pre)] ∧ m' = m ∧ nb n = pre ++ sev s, ⟨zz n, [], rfl, rfl, rfl⟩, ?_⟩
    rintro s e m' ⟨pre, rfl, rfl, e2⟩
    have hpl : pre.length ≤ 30 := by
      have := congrArg List.length e2
      rw [List.length_append] at this
      omega
    walk_at "vv"
    refine w_ifd (fun c => ?_) (fun c => ?_)
    · walk_at "vv"
      refine ⟨by rw [List.length_map]; exact sz_lt (by omega), ?_⟩
      rw [dl_snoc]
      walk_at "vv"
      refine ⟨s / 128, by omega, pre ++ [((s % 128 + 128 : Nat) : Int)], rfl, rfl, ?_⟩
      · rw [e2, sev_ge (by omega), List.append_assoc]; rfl
    · walk_at "vv"
      refine e_addL (by rw [List.length_map]; show pre.length + 1 ≤ _; omega) ?_
      rw [e2, sev_lt (by omega)] at k
      rw [dl_snoc]
      exact k
  walk_at "vv"
  refine w_ifd (fun c => ?_) (fun c => ?_)
  · walk_at "vv"
    refine main _ ?_
    unfold zz
    rw [if_pos c]; omega
  · walk_at "vv"
    refine main _ ?_
    unfold zz
    rw [if_neg c]; omega
/-! texts, cells -/
def cvD : Cel → D
  | .non => .non
  | .num z => .int z
  | .txt ks => .str (txt ks)
def wTb : VSp := fun ds m P _ => ∃ ks : List Nat, ds = [.str (txt ks)] ∧ ks.length ≤ 1000 ∧ (∀ k ∈ ks, k < 94) ∧ P (dL (tb ks)) m
/-- a text's signs, one by one -/
theorem signs_txt (ks : List Nat) : signsOf (txt ks) = ks.map fun k => D.str ⟨#[sg k]⟩ := by
  unfold signsOf
  rw [txt_cps, List.map_map]
  rfl
theorem ins_d (ks : List Nat) : (ks.map fun k : Nat => D.int k) = (ins ks).map D.int := by
  unfold ins
  rw [List.map_map]
  rfl
theorem p_text_bytes {K : PySem.W.Frag} (ds : List D) (m : Mst) (P : D → Mst → Prop) (VX : XV) (h : wTb ds m P VX) : ds.length = 1 ∧ v_text_bytes K wNb (vends P) (vstart N_text_bytes.length ds) m := by
  obtain ⟨ks, rfl, hl, hk, k⟩ := h
  refine ⟨rfl, ?_⟩
  have hn : ((ks.length : Nat) : Int).natAbs < 2 ^ 200 := by
    rw [Int.natAbs_natCast]
    exact Nat.lt_of_le_of_lt hl (by decide)
  have hlen := nb_len hn
  unfold v_text_bytes
  walk_at "vv"
  refine e_lenS (by rw [txt_len]; omega) ?_
  rw [txt_len]
  walk_at "vv"
  refine ⟨ks.length, rfl, hn, ?_⟩
  walk_at "vv"
  rw [signs_txt]
  refine lc_mapL (h := fun k : Nat => .int k) (by omega) (fun i x Q ex hQ => ?_) ?_
  · walk_at "vv"
    have hx := hk x (List.mem_of_getElem? ex)
    exact ⟨x, [], sg_occ ⟨x, hx⟩, hQ⟩
  · rw [ins_d]
    refine e_addL (by rw [List.length_map, List.length_map, ins_len]; omega) ?_
    rw [dl_app]
    exact k
def wCb : VSp := fun ds m P _ => ∃ c : Cel, ds = [cvD c] ∧ okC c ∧ P (dL (cb c)) m
theorem p_cell_bytes {K : PySem.W.Frag} (ds : List D) (m : Mst) (P : D → Mst → Prop) (VX : XV) (h : wCb ds m P VX) : ds.length = 1 ∧ v_cell_bytes K wTb wNb (vends P) (vstart N_cell_bytes.length ds) m := by
  obtain ⟨c, rfl, hc, k⟩ := h
  refine ⟨rfl, ?_⟩
  unfold v_cell_bytes
  cases c with
  | non =>
    show (vSeqS _ _ : VS) _ [some D.non] _
    walk_at "vi"
    exact k
  | num z =>
    have hl := nb_len hc
    show (vSeqS _ _ : VS) _ [some (D.int z)] _
    walk_at "vi"
    walk_at "vi"
    refine ⟨z, rfl, hc, ?_⟩
    refine e_addL (by rw [List.length_map]; show 1 + _ ≤ _; omega) ?_
    rw [dl_cons]
    exact k
  | txt ks =>
    have hl := tb_len hc.1
    show (vSeqS _ _ : VS) _ [some (D.str (txt ks))] _
    walk_at "vi"
    walk_at "vi"
    refine ⟨ks, rfl, hc.1, hc.2, ?_⟩
    refine e_addL (by rw [List.length_map]; show 1 + _ ≤ _; omega) ?_
    rw [dl_cons]
    exact k
/-! reading -/
/-- a row of ints, a list or a tuple -/
def IsRow (q : D) (xs : List Int) : Prop := q = dL xs ∨ q = .tup (xs.map D.int)
theorem e_lenR {q : D} {xs : List Int} {Z : D → Prop} (hq : IsRow q xs) (h : Z (.int xs.length)) : vLen [q] Z := by
  rcases hq with rfl | rfl
  · exact e_lenL (by rw [List.length_map]; exact h)
  · exact e_lenT (by rw [List.length_map]; exact h)
theorem atI_map {α β : Type} {f : α → β} {xs : List α} {i : Int} {x : α} (h : L2.atI xs i = some x) : L2.atI (xs.map f) i = some (f x) := by
  unfold L2.atI at h ⊢
  rw [List.length_map]
  cases q : ixN xs.length i with
  | none => rw [q] at h; cases h
  | some j =>
    rw [q] at h
    have h : xs[j]? = some x := h
    show (xs.map f)[j]? = _
    rw [List.getElem?_map, h]; rfl
theorem e_ixR {q : D} {xs : List Int} {Z : D → Prop} {i b : Int} (hq : IsRow q xs) (he : L2.atI xs i = some b) (h : Z (.int b)) : vIx q (.int i) Z := by
  rcases hq with rfl | rfl
  · exact e_ixL (atI_map he) h
  · exact e_ixT (atI_map he) h
abbrev bad (X : XV) (C : Addr) (w : Str) (m : Mst) : Prop := X C [("why", .str w)] m
def wByte (C : Addr) : VSp := fun ds m P X => ∃ (q : D) (xs : List Int) (j : Nat), ds = [q, .int j] ∧ IsRow q xs ∧ match xs[j]? with
  | some b => P (.int b) m
  | none => bad X C "short" m
theorem p_byte_at {K : PySem.W.Frag} {C : Addr} (ds : List D) (m : Mst) (P : D → Mst → Prop) (VX : XV) (h : wByte C ds m P VX) : ds.length = 2 ∧ v_byte_at K C VX (vends P) (vstart N_byte_at.length ds) m := by
  obtain ⟨q, xs, j, rfl, hq, k⟩ := h
  refine ⟨rfl, ?_⟩
  unfold v_byte_at
  walk_at "vi"
  refine e_lenR hq ?_
  walk_at "vv"
  cases hb : xs[j]? with
  | none =>
    rw [hb] at k
    have hj := List.getElem?_eq_none_iff.mp hb
    refine w_ifd (fun _ => ?_) (fun c => absurd (by omega) c)
    walk_at "vv"
    exact k
  | some b =>
    rw [hb] at k
    have hj : j < xs.length := (List.getElem?_eq_some_iff.mp hb).1
    refine w_ifd (fun c => absurd c (by omega)) (fun _ => ?_)
    walk_at "vv"
    exact e_ixR hq (atI_nat hb) k
def wNumOf : VSp := fun ds m P _ => ∃ r : Nat, ds = [.int r] ∧ P (.int (uz r)) m
theorem p_number_of {K : PySem.W.Frag} (ds : List D) (m : Mst) (P : D → Mst → Prop) (VX : XV) (h : wNumOf ds m P VX) : ds.length = 1 ∧ v_number_of K (vends P) (vstart N_number_of.length ds) m := by
  obtain ⟨r, rfl, k⟩ := h
  refine ⟨rfl, ?_⟩
  unfold v_number_of
  walk_at "vi"
  unfold uz at k
  refine w_ifd (fun c => ?_) (fun c => ?_)
  · walk_at "vv"
    rw [if_pos (by omega)] at k
    exact k
  · walk_at "vv"
    rw [if_neg (by omega)] at k
    exact k
def wTakeN (C : Addr) : VSp := fun ds m P X => ∃ (q : D) (xs : List Int) (j : Nat), ds = [q, .int j] ∧ IsRow q xs ∧ match takeN xs j with
  | .got n e => P (.tup [.int n, .int e]) m
  | .bad w => bad X C w m
theorem p_take_number {K : PySem.W.Frag} {C : Addr} (ds : List D) (m : Mst) (P : D → Mst → Prop) (VX : XV) (h : wTakeN C ds m P VX) : ds.length = 2 ∧ v_take_number K (wByte C) wNumOf C VX (vends P) (vstart N_take_number.length ds) m := by
  obtain ⟨q, xs, j, rfl, hq, k⟩ := h
  refine ⟨rfl, ?_⟩
  unfold v_take_number
  walk_at "vv"
  refine e_itR (j := 9) (by decide) ?_
  refine for_inv (fun i e m' => ∃ r : Nat, e = [some q, some (.int j), some (.int r), some (.int ((128 ^ i : Nat) : Int)), none, none] ∧ m' = m ∧ takeN xs j = tnG xs (9 - i) (decide (i = 0)) (128 ^ i) r (j + i)) ⟨0, rfl, rfl, rfl⟩ ?_ ?_
  · rintro i e m' d _ ⟨r, rfl, rfl, hg⟩ ed
    obtain ⟨hi, rfl⟩ := rangeD_at ed
    rw [Int.zero_add]
    obtain ⟨f, hf⟩ : ∃ f, 9 - i = f + 1 := ⟨8 - i, by omega⟩
    rw [hf] at hg
    unfold tnG at hg
    walk_at "vv"
    refine ⟨q, xs, j + i, rfl, hq, ?_⟩
    cases hb : xs[j + i]? with
    | none =>
      rw [hb] at hg
      rw [show takeN xs j = .bad "short" from hg] at k
      exact k
    | some b =>
      rw [hb] at hg
      have hg : takeN xs j = (if b < 128 then (if b = 0 ∧ decide (i = 0) = false then Rd.bad "long" else .got (uz (r + (b % 128).toNat * 128 ^ i)) (j + i + 1)) else tnG xs f false (128 ^ i * 128) (r + (b % 128).toNat * 128 ^ i) (j + i + 1)) := hg
      have hw : (128 ^ i : Nat) < 2 ^ 64 := Nat.lt_of_le_of_lt (Nat.pow_le_pow_right (by decide) (show i ≤ 8 by omega)) (by decide)
      show vgName _ _ _ _
      walk_at "vv"
      generalize hW : 128 ^ i = W at *
      refine e_mulI (.inl (.inr ⟨by omega, by omega⟩)) ?_
      walk_at "vv"
      have eb : b % 128 = ((b % 128).toNat : Int) := by omega
      generalize hc : (b % 128).toNat = c at *
      rw [eb, show (r : Int) + (c : Int) * (W : Int) = ((r + c * W : Nat) : Int) by push_cast; rfl]
      refine w_ifd (fun z1 => ?_) (fun z1 => ?_)
      · rw [if_pos z1] at hg
        walk_at "vi"
        by_cases z : b = 0 ∧ decide (i = 0) = false
        · rw [if_pos z] at hg
          rw [hg] at k
          have z2 : 0 < i := by have := z.2; simp at this; omega
          rw [show decide (b = 0) = true from decide_eq_true z.1]
          walk_at "vv"
          rw [show decide ((0 : Int) < (i : Int)) = true from decide_eq_true (by omega)]
          walk_at "vv"
          exact k
        · rw [if_neg z] at hg
          rw [hg] at k
          refine w_ifd (fun b0 => ?g1) (fun b0 => ?g2)
          case' g1 =>
            walk_at "vv"
            refine w_ifd (fun c => absurd ⟨b0, decide_eq_false (by omega)⟩ z) (fun _ => ?_)
          all_goals
            walk_at "vv"
            refine ⟨r + c * W, rfl, ?_⟩
            walk_at "vv"
            exact k
      · rw [if_neg z1] at hg
        walk_at "vv"
        refine ⟨r + c * W, ?_, rfl, ?_⟩
        · rw [Nat.pow_succ, hW]; rfl
        · rw [show 9 - (i + 1) = f by omega, show decide (i + 1 = 0) = false from decide_eq_false (by omega), Nat.pow_succ, hW]; exact hg
  · rintro e m' ⟨r, rfl, rfl, hg⟩
    rw [show takeN xs j = .bad "long" from hg] at k
    walk_at "vv"
    exact k
def wTakeT (C : Addr) : VSp := fun ds m P X => ∃ (q : D) (xs : List Int) (j : Nat), ds = [q, .int j] ∧ IsRow q xs ∧ match takeT xs j with
  | .got ks e => P (.tup [.str (txt ks), .int e]) m
  | .bad w => bad X C w m
theorem p_take_text {K : PySem.W.Frag} {C : Addr} (ds : List D) (m : Mst) (P : D → Mst → Prop) (VX : XV) (h : wTakeT C ds m P VX) : ds.length = 2 ∧ v_take_text K (wTakeN C) (wByte C) C VX (vends P) (vstart N_take_text.length ds) m := by
  obtain ⟨q, xs, j, rfl, hq, k⟩ := h
  refine ⟨rfl, ?_⟩
  unfold v_take_text
  walk_at "vv"
  refine ⟨q, xs, j, rfl, hq, ?_⟩
  unfold takeT at k
  cases ht : takeN xs j with
  | bad w =>
    rw [ht] at k
    exact k
  | got n e =>
    rw [ht] at k
    have k : (match (if 0 ≤ n ∧ n ≤ 20 then tkS xs n.toNat e [] else .bad "count") with
      | .got ks e => P (.tup [.str (txt ks), .int e]) m
      | .bad w => bad VX C w m) := k
    show vgTup 2 _ _ _ _
    walk_at "vv"
    walk_at "vi"
    by_cases c1 : 0 ≤ n ∧ n ≤ 20
    · rw [if_pos c1] at k
      obtain ⟨l, rfl⟩ : ∃ l : Nat, n = (l : Int) := ⟨n.toNat, by omega⟩
      rw [Int.toNat_natCast] at k
      rw [show decide ((0 : Int) ≤ (l : Int)) = true from decide_eq_true c1.1]
      walk_at "vv"
      rw [show decide ((l : Int) ≤ 20) = true from decide_eq_true c1.2]
      walk_at "vv"
      refine e_itR (by omega) ?_
      refine for_inv (fun i e' m' => ∃ ks : List Nat, e' = [some q, some (.int e), some (.int l), some (.str (txt ks)), none, none] ∧ m' = m ∧ ks.length = i ∧ tkS xs l e [] = tkS xs (l - i) (e + i) ks) ⟨[], rfl, rfl, rfl, rfl⟩ ?_ ?_
      · rintro i e' m' d _ ⟨ks, rfl, rfl, hks, hg⟩ ed
        obtain ⟨hi, rfl⟩ := rangeD_at ed
        rw [Int.zero_add]
        obtain ⟨f, hf⟩ : ∃ f, l - i = f + 1 := ⟨l - i - 1, by omega⟩
        rw [hf, tkS_succ] at hg
        walk_at "vv"
        refine ⟨q, xs, e + i, rfl, hq, ?_⟩
        cases hb : xs[e + i]? with
        | none =>
          rw [hb] at hg
          rw [show tkS xs l e [] = .bad "short" from hg] at k
          exact k
        | some b =>
          rw [hb] at hg
          have hg : tkS xs l e [] = (if 0 ≤ b ∧ b < 94 then tkS xs f (e + i + 1) (ks ++ [b.toNat]) else .bad "sign") := hg
          show vgName _ _ _ _
          walk_at "vv"
          walk_at "vi"
          by_cases c2 : 0 ≤ b ∧ b < 94
          · rw [if_pos c2] at hg
            obtain ⟨c, rfl⟩ : ∃ c : Nat, b = (c : Int) := ⟨b.toNat, by omega⟩
            rw [show decide ((0 : Int) ≤ (c : Int)) = true from decide_eq_true c2.1]
            walk_at "vv"
            refine e_lenS (s := signs) (by rw [signs_len]; decide) ?_
            rw [signs_len]
            walk_at "vv"
            rw [show decide ((c : Int) < ((94 : Nat) : Int)) = true from decide_eq_true (by omega)]
            walk_at "vv"
            refine e_ixS (s := signs) (by rw [signs_len]; decide) (atI_nat (sg_at (by omega))) ?_
            refine e_ipaS (by rw [txt_len]; show _ + 1 ≤ _; omega) ?_
            rw [txt_snoc]
            refine ⟨ks ++ [c], rfl, rfl, by rw [List.length_append, hks]; rfl, ?_⟩
            rw [show l - (i + 1) = f by omega]
            exact hg
          · rw [if_neg c2] at hg
            rw [hg] at k
            refine w_ifd (fun c3 => ?_) (fun c3 => ?_)
            · walk_at "vv"
              refine e_lenS (s := signs) (by rw [signs_len]; decide) ?_
              rw [signs_len]
              walk_at "vv"
              rw [show decide (b < ((94 : Nat) : Int)) = false from decide_eq_false (fun z => c2 ⟨c3, by omega⟩)]
              walk_at "vv"
              exact k
            · walk_at "vv"
              exact k
      · rintro e' m' ⟨ks, rfl, rfl, hks, hg⟩
        rw [rangeD_len, Nat.sub_self] at hg
        rw [show tkS xs l e [] = .got ks (e + l) from hg] at k
        walk_at "vv"
        exact k
    · rw [if_neg c1] at k
      refine w_ifd (fun c3 => ?_) (fun c3 => ?_)
      · walk_at "vv"
        rw [show decide (n ≤ 20) = false from decide_eq_false (fun z => c1 ⟨c3, z⟩)]
        walk_at "vv"
        exact k
      · walk_at "vv"
        exact k
def wTakeC (C : Addr) : VSp := fun ds m P X => ∃ (q : D) (xs : List Int) (j : Nat), ds = [q, .int j] ∧ IsRow q xs ∧ match takeC xs j with
  | .got c e => P (.tup [cvD c, .int e]) m
  | .bad w => bad X C w m
theorem p_take_cell {K : PySem.W.Frag} {C : Addr} (ds : List D) (m : Mst) (P : D → Mst → Prop) (VX : XV) (h : wTakeC C ds m P VX) : ds.length = 2 ∧ v_take_cell K (wByte C) (wTakeN C) (wTakeT C) C VX (vends P) (vstart N_take_cell.length ds) m := by
  obtain ⟨q, xs, j, rfl, hq, k⟩ := h
  refine ⟨rfl, ?_⟩
  unfold v_take_cell
  walk_at "vv"
  refine ⟨q, xs, j, rfl, hq, ?_⟩
  unfold takeC at k
  cases hb : xs[j]? with
  | none =>
    rw [hb] at k
    exact k
  | some b =>
    rw [hb] at k
    show vgName _ _ _ _
    walk_at "vv"
    walk_at "vi"
    refine w_ifd (fun c => ?_) (fun c0 => ?_)
    · have k : (match (if b = 0 then (.got .non (j + 1) : Rd Cel) else _) with | .got c e => _ | .bad w => _) := k
      rw [if_pos c] at k
      walk_at "vv"
      exact k
    walk_at "vv"
    walk_at "vi"
    refine w_ifd (fun c => ?_) (fun c1 => ?_)
    · walk_at "vv"
      refine ⟨q, xs, j + 1, rfl, hq, ?_⟩
      simp only [c0, c, if_false, if_true] at k
      cases ht : takeN xs (j + 1) with
      | got n e => rw [ht] at k; exact k
      | bad w => rw [ht] at k; exact k
    walk_at "vv"
    walk_at "vi"
    refine w_ifd (fun c => ?_) (fun c2 => ?_)
    · walk_at "vv"
      refine ⟨q, xs, j + 1, rfl, hq, ?_⟩
      simp only [c0, c1, c, if_false, if_true] at k
      cases ht : takeT xs (j + 1) with
      | got n e => rw [ht] at k; exact k
      | bad w => rw [ht] at k; exact k
    · simp only [c0, c1, c2, if_false] at k
      walk_at "vv"
      exact k
end Ps

/-! Vd1: what several laws draw. -/
namespace Ps
open PySem PySem.Spec PyProof.Rows L2
local macro_rules | `(tactic| walk_at "v1") => `(tactic| first
  | ((with_reducible refine' e_var ?hx ?_); (case hx => exact rfl))
  | (with_reducible refine e_seqAsg ?_)
  | (with_reducible refine e_seqDrop ?_)
  | (with_reducible refine e_seqAug ?_)
  | (with_reducible refine e_seqApp ?_)
  | (with_reducible refine e_seqMut ?_)
  | (with_reducible refine e_seqPut ?_)
  | (with_reducible refine e_seqPar ?_)
  | (with_reducible refine e_seqFor ?_)
  | (with_reducible refine e_seqWhile ?_)
  | (with_reducible refine e_seqNext ?_)
  | (with_reducible refine e_seqSetF ?_)
  | (with_reducible refine e_seqAugF ?_)
  | (with_reducible refine e_seqAppS ?_)
  | (with_reducible refine e_seqMutS ?_)
  | (with_reducible refine e_seqPutS ?_)
  | (with_reducible refine e_seqForB ?_)
  | (with_reducible refine e_seqAugS ?_)
  | (with_reducible refine e_seqSeq ?_)
  | (with_reducible refine e_asg ?_)
  | (with_reducible refine e_drop ?_)
  | (with_reducible refine e_ret ?_)
  | (with_reducible refine e_retN ?_)
  | (with_reducible refine e_if ?_)
  | (with_reducible refine e_next ?_)
  | (with_reducible refine e_brk ?_)
  | (with_reducible refine e_cont ?_)
  | (with_reducible refine e_gname ?_)
  | (with_reducible refine e_c ?_)
  | (with_reducible refine e_nil ?_)
  | (with_reducible refine e_cons ?_)
  | (with_reducible refine e_op ?_)
  | (with_reducible refine e_un ?_)
  | (with_reducible refine e_cb ?_)
  | (with_reducible refine e_bm ?_)
  | (with_reducible refine e_bm0 ?_)
  | (with_reducible refine e_tyS ?_)
  | (with_reducible refine e_tyL ?_)
  | (with_reducible refine e_tyD ?_)
  | (with_reducible refine e_lst ?_)
  | (with_reducible refine e_tup ?_)
  | (with_reducible refine e_andV ?_)
  | (with_reducible refine e_orV ?_)
  | (with_reducible refine e_notV ?_)
  | (with_reducible refine e_blE ?_)
  | (with_reducible refine e_chain ?_)
  | (with_reducible refine e_test ?_)
  | (with_reducible refine e_and ?_)
  | (with_reducible refine e_or ?_)
  | (with_reducible refine e_not ?_)
  | (with_reducible refine e_yes ?_)
  | (with_reducible refine e_call ?_)
  | (with_reducible refine e_callS ?_)
  | (with_reducible refine e_callB ?_)
  | (with_reducible refine e_callBS ?_)
  | (with_reducible refine e_frB ?_)
  | (with_reducible refine e_frI ?_)
  | (with_reducible refine e_opL ?_)
  | (with_reducible refine e_unL ?_)
  | (with_reducible refine e_cbL ?_)
  | (with_reducible refine e_bmL ?_)
  | (with_reducible refine e_bm0L ?_)
  | (with_reducible refine e_truLk ?_)
  | (with_reducible refine e_slL ?_)
  | (with_reducible refine e_fld ?_)
  | (with_reducible refine e_setF ?_)
  | (with_reducible refine e_augF ?_)
  | (with_reducible refine e_meth ?_)
  | (with_reducible refine e_make ?_)
  | (with_reducible refine e_appS ?_)
  | (with_reducible refine e_mutS ?_)
  | (with_reducible refine e_putS ?_)
  | (with_reducible refine e_box ?_)
  | (with_reducible refine e_boxL ?_)
  | (with_reducible refine e_boxDi ?_)
  | (with_reducible refine e_seqB ?_)
  | (with_reducible refine e_enumB ?_)
  | (with_reducible refine e_revB ?_)
  | (with_reducible refine e_zipB ?_)
  | (with_reducible refine e_lcB ?_)
  | (with_reducible refine e_forB ?_)
  | (with_reducible refine e_popS ?_)
  | (with_reducible refine e_dpopS ?_)
  | (with_reducible refine e_get2 ?_)
  | (with_reducible refine e_addII ?_)
  | (with_reducible refine e_subII ?_)
  | (with_reducible refine e_sc ?_)
  | (with_reducible refine e_scI ?_)
  | (with_reducible refine e_sl ?_)
  | (with_reducible refine e_nopart ?_)
  | (with_reducible refine e_part ?_)
  | (with_reducible refine e_intE ?_)
  | (with_reducible refine e_dnew ?_)
  | (with_reducible refine e_rz1 ?_)
  | (with_reducible refine e_rz0 ?_)
  | (with_reducible refine e_par ?_)
  | (with_reducible refine e_put ?_)
  | (with_reducible refine e_addI ?_)
  | (with_reducible refine e_subI ?_)
  | (with_reducible refine e_negI ?_)
  | (with_reducible refine e_eqI ?_)
  | (with_reducible refine e_eqS ?_)
  | (with_reducible refine e_eqB ?_)
  | (with_reducible refine e_neI ?_)
  | (with_reducible refine e_neS ?_)
  | (with_reducible refine e_neB ?_)
  | (with_reducible refine e_ltI ?_)
  | (with_reducible refine e_leI ?_)
  | (with_reducible refine e_gtI ?_)
  | (with_reducible refine e_geI ?_)
  | (with_reducible refine e_ipaI ?_)
  | (with_reducible refine e_lenL ?_)
  | (with_reducible refine e_lenT ?_)
  | (with_reducible refine e_lenD ?_)
  | (with_reducible refine e_listL ?_)
  | (with_reducible refine e_listT ?_)
  | (with_reducible refine e_tupL ?_)
  | (with_reducible refine e_tupT ?_)
  | (with_reducible refine e_intI ?_)
  | (with_reducible refine e_intB ?_)
  | (with_reducible refine e_abs ?_)
  | (with_reducible refine e_cutL ?_)
  | (with_reducible refine e_cutT ?_)
  | (with_reducible refine e_revm ?_)
  | (with_reducible refine e_clrm ?_)
  | (with_reducible refine e_gcons ?_)
  | (with_reducible refine e_gnil ?_)
  | (with_reducible refine e_seqv ?_)
  | (with_reducible refine e_itL ?_)
  | (with_reducible refine e_itT ?_)
  | (with_reducible refine e_itS ?_)
  | (with_reducible refine e_rg1 ?_)
  | (with_reducible refine e_rg2 ?_)
  | (with_reducible refine e_itZL ?_)
  | (with_reducible refine e_itZT ?_)
  | (with_reducible refine e_itEL ?_)
  | (with_reducible refine e_itET ?_)
  | (with_reducible refine e_itES ?_)
  | (with_reducible refine e_itVL ?_)
  | (with_reducible refine e_itVT ?_)
  | (with_reducible refine e_tru ?_)
  | (with_reducible refine e_truB ?_)
  | (with_reducible refine e_truN ?_)
  | (with_reducible refine e_truI ?_)
  | (with_reducible refine e_truL ?_)
  | (with_reducible refine e_truT ?_)
  | (with_reducible refine e_isNn ?_)
  | (with_reducible refine e_isNi ?_)
  | (with_reducible refine e_isNs ?_)
  | (with_reducible refine e_isNl ?_)
  | (with_reducible refine e_isNt ?_)
  | (with_reducible refine e_isNb ?_)
  | (with_reducible refine e_ntNn ?_)
  | (with_reducible refine e_ntNi ?_)
  | (with_reducible refine e_ntNs ?_)
  | (with_reducible refine e_ntNl ?_)
  | (with_reducible refine e_ntNt ?_)
  | (with_reducible refine e_rng1 ?_)
  | (with_reducible refine e_rng2 ?_)
  | (with_reducible refine e_zip ?_)
  | (with_reducible refine e_enum ?_)
  | (with_reducible refine e_rev ?_)
  | (with_reducible refine e_for ?_)
  | (with_reducible refine e_lc ?_)
  | (with_reducible refine w_ifT ?_)
  | (with_reducible refine w_ifF ?_)
  | (with_reducible refine w_ifNF ?_)
  | (with_reducible refine w_ifNT ?_)
  | ((with_reducible refine' e_aug ?hx ?_); (case hx => exact rfl))
  | ((with_reducible refine' e_app ?hx ?_); (case hx => exact rfl))
  | ((with_reducible refine' e_mut ?hx ?_); (case hx => exact rfl))
  | ((with_reducible refine' e_len ?hx ?_); (case hx => exact rfl))
  | ((with_reducible refine' e_gtup ?hx ?_); (case hx => exact rfl))
  | ((with_reducible refine' e_gtupU ?hx ?_); (case hx => exact rfl))
  | ((with_reducible refine' e_gtupL ?hx ?_); (case hx => exact rfl))
  | ((with_reducible refine' e_isi (b := true) ?hx ?hy ?_); (case hx => exact rfl); (case hy => first | exact rfl | decide))
  | ((with_reducible refine' e_isi (b := false) ?hx ?hy ?_); (case hx => exact rfl); (case hy => first | exact rfl | decide))
  | ((with_reducible refine' e_modI ?hx ?_); (case hx => decide))
  | ((with_reducible refine' e_divI ?hx ?_); (case hx => exact .inl ⟨by decide, by decide⟩))
  | ((with_reducible refine' e_mulI ?hx ?_); (case hx => first | exact .inl (.inr ⟨by decide, by decide⟩) | exact .inl (.inl ⟨by decide, by decide⟩)))
  | ((with_reducible refine' e_ipmI ?hx ?_); (case hx => first | exact .inl (.inr ⟨by decide, by decide⟩) | exact .inl (.inl ⟨by decide, by decide⟩)))
  | (with_reducible refine e_isN ?_) | (with_reducible refine e_notN ?_))
local macro_rules | `(tactic| walk_at "vv") => `(tactic| repeat (walk_at "v1"))
local macro_rules | `(tactic| walk_at "vi") => `(tactic| ((with_reducible refine e_seq ?_); repeat (walk_at "v1")))
local macro_rules | `(tactic| walk_at "ve") => `(tactic| ((with_reducible refine e_ifE ?_); repeat (walk_at "v1")))
/- _law_number: 0 _law_state, 1 _law_way, 2 _law_number_here -/
def t_number (K : PySem.W.Frag) (s_take_ : Sp) : TS :=
      (tSeq (tAsg (tCall s_take_ [] E0 (tCons (tVar 0) (tCons (tC (.int 6)) tNil))) (gName 1))
      (tSeq (tAsg (tCall s_take_ [] E0 (tCons (tVar 0) (tCons (tC (.int 12)) tNil))) (gName 2))
      (tSeq (tIfS (tTest (tOp (rEqU K) (tVar 1) (tC (.int 1))))
      (tAsg (tOp (rIxU K) (tLst (tCons (tC (.int 0)) (tCons (tC (.int 1)) (tCons (tC (.int 63)) (tCons (tC (.int 64)) (tCons (tC (.int 127)) (tCons (tC (.int 128)) (tCons (tC (.int 8191)) (tCons (tC (.int 8192)) (tCons (tOp (rSubU) (tOp (rPowU) (tC (.int 10)) (tC (.int 18))) (tC (.int 1))) (tCons (tOp (rPowU) (tC (.int 10)) (tC (.int 17))) (tCons (tC (.int 255)) (tCons (tC (.int 256)) tNil))))))))))))) (tVar 2)) (gName 2))
      tNext)
      (tSeq (tIfS (tTest (tOp (rEqU K) (tVar 1) (tC (.int 2))))
      (tAsg (tOp (rAddU K) (tOp (rMulT) (tCall s_take_ [] E0 (tCons (tVar 0) (tCons (tOp (rPowU) (tC (.int 10)) (tC (.int 9))) tNil))) (tOp (rPowU) (tC (.int 10)) (tC (.int 9)))) (tCall s_take_ [] E0 (tCons (tVar 0) (tCons (tOp (rPowU) (tC (.int 10)) (tC (.int 9))) tNil)))) (gName 2))
      tNext)
      (tSeq (tIfS (tTest (tOp (rEqU K) (tVar 1) (tC (.int 3))))
      (tAsg (tCall s_take_ [] E0 (tCons (tVar 0) (tCons (tC (.int 2000)) tNil))) (gName 2))
      tNext)
      (tRet (tOp (rMulT) (tVar 2) (tOp (rIxU K) (tLst (tCons (tC (.int 1)) (tCons (tUn rNeg (tC (.int 1))) tNil))) (tCall s_take_ [] E0 (tCons (tVar 0) (tCons (tC (.int 2)) tNil)))))))))))
abbrev N_number : List Str := [("_law_state" : Str), ("_law_way" : Str), ("_law_number_here" : Str)]
def v_number (K : PySem.W.Frag) (vs_take : VSp) : VS :=
      (vSeqS (vAsg (vCall vs_take (vCons (vVar 0) (vCons (vC (.int 6)) vNil))) (vgName 1))
      (vSeqS (vAsg (vCall vs_take (vCons (vVar 0) (vCons (vC (.int 12)) vNil))) (vgName 2))
      (vSeqS (vIf (vTest (vOp vEqC (vVar 1) (vC (.int 1))))
      (vAsg (vOp vIx (vLst (vCons (vC (.int 0)) (vCons (vC (.int 1)) (vCons (vC (.int 63)) (vCons (vC (.int 64)) (vCons (vC (.int 127)) (vCons (vC (.int 128)) (vCons (vC (.int 8191)) (vCons (vC (.int 8192)) (vCons (vOp vSub (vOp vPow (vC (.int 10)) (vC (.int 18))) (vC (.int 1))) (vCons (vOp vPow (vC (.int 10)) (vC (.int 17))) (vCons (vC (.int 255)) (vCons (vC (.int 256)) vNil))))))))))))) (vVar 2)) (vgName 2))
      vNext)
      (vSeqS (vIf (vTest (vOp vEqC (vVar 1) (vC (.int 2))))
      (vAsg (vOp vAdd (vOp vMul (vCall vs_take (vCons (vVar 0) (vCons (vOp vPow (vC (.int 10)) (vC (.int 9))) vNil))) (vOp vPow (vC (.int 10)) (vC (.int 9)))) (vCall vs_take (vCons (vVar 0) (vCons (vOp vPow (vC (.int 10)) (vC (.int 9))) vNil)))) (vgName 2))
      vNext)
      (vSeqS (vIf (vTest (vOp vEqC (vVar 1) (vC (.int 3))))
      (vAsg (vCall vs_take (vCons (vVar 0) (vCons (vC (.int 2000)) vNil))) (vgName 2))
      vNext)
      (vRet (vOp vMul (vVar 2) (vOp vIx (vLst (vCons (vC (.int 1)) (vCons (vUn vNeg (vC (.int 1))) vNil))) (vCall vs_take (vCons (vVar 0) (vCons (vC (.int 2)) vNil)))))))))))
theorem sim_number {K : PySem.W.Frag} {vs_take : VSp} {vsp : VSp} (hv : ∀ ds m P VX, vsp ds m P VX → ds.length = 1 ∧ v_number K vs_take (vends P) (vstart N_number.length ds) m) :
    ∀ us H Q E, spV K .O vsp us H Q E → t_number K (spV K .O vs_take) { nx := fun _ H' => Q .non H', rt := Q } (L2.start N_number us) H :=
  sim_def (n := 1) (t := .O) (N := N_number) (Γn := [.F, .F, .F]) (Γb := []) (Γc := []) (ts := fun E => t_number K (spV K .O vs_take)) (vs := fun VX => v_number K vs_take) (by decide) (fun c W VX hK hx => by
    subst hK
    exact (x_seq (x_asgO (i := 1) (s_callO (g_cons (s_varF (by rfl)) (g_cons (SO.f s_int) g_nil))))
      (x_seq (x_asgO (i := 2) (s_callO (g_cons (s_varF (by rfl)) (g_cons (SO.f s_int) g_nil))))
      (x_seq (x_if (Γn := [.F, .O, .F]) (s_test (SO.b (s_op o_eq (s_varB (t := .O) (by rfl)) (SO.b s_int))))
      (x_asgF (i := 2) (s_opF o_ix (SO.b (s_lst (g_cons (SO.f s_int) (g_cons (SO.f s_int) (g_cons (SO.f s_int) (g_cons (SO.f s_int) (g_cons (SO.f s_int) (g_cons (SO.f s_int) (g_cons (SO.f s_int) (g_cons (SO.f s_int) (g_cons (SO.f (s_op o_sub (SO.b (s_op o_pow (SO.b s_int) (SO.b s_int))) (SO.b s_int))) (g_cons (SO.f (s_op o_pow (SO.b s_int) (SO.b s_int))) (g_cons (SO.f s_int) (g_cons (SO.f s_int) g_nil)))))))))))))) (s_varB (t := .O) (by rfl))))
      (x_post (Γ1 := [.F, .O, .O]) (Γn := [.F, .O, .F]) x_next))
      (x_seq (x_if (Γn := [.F, .O, .F]) (s_test (SO.b (s_op o_eq (s_varB (t := .O) (by rfl)) (SO.b s_int))))
      (x_post (Γ1 := [.F, .O, .O]) (Γn := [.F, .O, .F]) (x_asgO (i := 2) (s_op o_add (SO.b (s_op o_mul (SO.b (s_callO (g_cons (s_varF (by rfl)) (g_cons (SO.f (s_op o_pow (SO.b s_int) (SO.b s_int))) g_nil)))) (SO.b (s_op o_pow (SO.b s_int) (SO.b s_int))))) (SO.b (s_callO (g_cons (s_varF (by rfl)) (g_cons (SO.f (s_op o_pow (SO.b s_int) (SO.b s_int))) g_nil)))))))
      x_next)
      (x_seq (x_if (Γn := [.F, .O, .F]) (s_test (SO.b (s_op o_eq (s_varB (t := .O) (by rfl)) (SO.b s_int))))
      (x_post (Γ1 := [.F, .O, .O]) (Γn := [.F, .O, .F]) (x_asgO (i := 2) (s_callO (g_cons (s_varF (by rfl)) (g_cons (SO.f s_int) g_nil)))))
      x_next)
      (x_retO (s_op o_mul (SF.b (s_varF (by rfl))) (SF.b (s_opF o_ix (SO.b (s_lst (g_cons (SO.f s_int) (g_cons (SO.f (s_un o_neg (SO.b s_int))) g_nil)))) (SO.b (s_callO (g_cons (s_varF (by rfl)) (g_cons (SO.f s_int) g_nil)))))))))))))) hv

/- _law_text: 0 _law_state, 1 _law_words, 2 _law_signs_here, 3 _law_turn -/
def t_text (K : PySem.W.Frag) (s_take_ : Sp) : TS :=
      (tSeq (tAsg (tLst (tCons (tC (.str ("a" : Str))) (tCons (tC (.str ("" : Str))) (tCons (tC (.str ("aa" : Str))) (tCons (tC (.str ("b" : Str))) (tCons (tC (.str ("ab" : Str))) (tCons (tC (.str ("~" : Str))) (tCons (tC (.str (" " : Str))) (tCons (tC (.str ("zz top" : Str))) (tCons (tC (.str ("Aa" : Str))) (tCons (tC (.str ("0" : Str))) (tCons (tOp (rMulT) (tC (.str ("a" : Str))) (tC (.int 20))) (tCons (tSl (rSlU K) (tC (.str ("the twenty signs of it" : Str))) tNoPart (tPart (tC (.int 20)))) tNil))))))))))))) (gName 1))
      (tSeq (tIfS (tTest (tOp (rGtV) (tCall s_take_ [] E0 (tCons (tVar 0) (tCons (tC (.int 4)) tNil))) (tC (.int 0))))
      (tRet (tOp (rIxU K) (tVar 1) (tCall s_take_ [] E0 (tCons (tVar 0) (tCons (tC (.int 12)) tNil)))))
      tNext)
      (tSeq (tAsg (tC (.str (" !\"#$&'()*+,-./0123456789:;<=>?@ABCXYZ[]^_`abcxyz{|}~" : Str))) (gName 2))
      (tRet (tBM K "str" (rJoinS K) (tC (.str ("" : Str))) (tCons (tLc (iRng1 (tCons (tCall s_take_ [] E0 (tCons (tVar 0) (tCons (tC (.int 21)) tNil))) tNil)) (gName 3) tYes (tOp (rIxU K) (tVar 2) (tCall s_take_ [] E0 (tCons (tVar 0) (tCons (tCB (rLenU K) (tCons (tVar 2) tNil)) tNil)))) [3]) tNil))))))
abbrev N_text : List Str := [("_law_state" : Str), ("_law_words" : Str), ("_law_signs_here" : Str), ("_law_turn" : Str)]
def v_text (K : PySem.W.Frag) (vs_take : VSp) : VS :=
      (vSeqS (vAsg (vLst (vCons (vC (.str ("a" : Str))) (vCons (vC (.str ("" : Str))) (vCons (vC (.str ("aa" : Str))) (vCons (vC (.str ("b" : Str))) (vCons (vC (.str ("ab" : Str))) (vCons (vC (.str ("~" : Str))) (vCons (vC (.str (" " : Str))) (vCons (vC (.str ("zz top" : Str))) (vCons (vC (.str ("Aa" : Str))) (vCons (vC (.str ("0" : Str))) (vCons (vOp vMul (vC (.str ("a" : Str))) (vC (.int 20))) (vCons (vSl vCut (vC (.str ("the twenty signs of it" : Str))) vNoPart (vPart (vC (.int 20)))) vNil))))))))))))) (vgName 1))
      (vSeqS (vIf (vTest (vOp vGt (vCall vs_take (vCons (vVar 0) (vCons (vC (.int 4)) vNil))) (vC (.int 0))))
      (vRet (vOp vIx (vVar 1) (vCall vs_take (vCons (vVar 0) (vCons (vC (.int 12)) vNil)))))
      vNext)
      (vSeqS (vAsg (vC (.str (" !\"#$&'()*+,-./0123456789:;<=>?@ABCXYZ[]^_`abcxyz{|}~" : Str))) (vgName 2))
      (vRet (vBMt "str" vJoin (vC (.str ("" : Str))) (vCons (vLc (vRng1 (vCons (vCall vs_take (vCons (vVar 0) (vCons (vC (.int 21)) vNil))) vNil)) (vgName 3) vYes (vOp vIx (vVar 2) (vCall vs_take (vCons (vVar 0) (vCons (vCB vLen (vCons (vVar 2) vNil)) vNil)))) [3]) vNil))))))
theorem sim_text {K : PySem.W.Frag} {vs_take : VSp} {vsp : VSp} (hv : ∀ ds m P VX, vsp ds m P VX → ds.length = 1 ∧ v_text K vs_take (vends P) (vstart N_text.length ds) m) :
    ∀ us H Q E, spV K .F vsp us H Q E → t_text K (spV K .O vs_take) { nx := fun _ H' => Q .non H', rt := Q } (L2.start N_text us) H :=
  sim_def (n := 1) (t := .F) (N := N_text) (Γn := [.F, .F, .F, .F]) (Γb := []) (Γc := []) (ts := fun E => t_text K (spV K .O vs_take)) (vs := fun VX => v_text K vs_take) (by decide) (fun c W VX hK hx => by
    subst hK
    exact (x_seq (x_asgO (i := 1) (s_lst (g_cons (SO.f s_str) (g_cons (SO.f s_str) (g_cons (SO.f s_str) (g_cons (SO.f s_str) (g_cons (SO.f s_str) (g_cons (SO.f s_str) (g_cons (SO.f s_str) (g_cons (SO.f s_str) (g_cons (SO.f s_str) (g_cons (SO.f s_str) (g_cons (SO.f (s_op o_mul (SO.b s_str) (SO.b s_int))) (g_cons (SO.f (s_sl o_cut (SO.b s_str) s_nopart (s_part (SO.b s_int)))) g_nil))))))))))))))
      (x_seq (x_if (Γn := [.F, .O, .F, .F]) (s_test (SO.b (s_op o_gt (SO.b (s_callO (g_cons (s_varF (by rfl)) (g_cons (SO.f s_int) g_nil)))) (SO.b s_int))))
      (x_retF (s_opF o_ix (s_varB (t := .O) (by rfl)) (SO.b (s_callO (g_cons (s_varF (by rfl)) (g_cons (SO.f s_int) g_nil))))))
      x_next)
      (x_seq (x_asgO (i := 2) s_str)
      (x_retF (SO.f (s_bm m_join (SO.b s_str) (a_cons (SO.b (s_lc (vs := [3]) (i_rng1 (g_cons (SO.f (s_callO (g_cons (s_varF (by rfl)) (g_cons (SO.f s_int) g_nil)))) g_nil)) (by rfl) (tg_name (is := [3]) (by rfl) (by decide)) s_yes (s_opF o_ix (s_varB (t := .O) (by rfl)) (SO.b (s_callO (g_cons (s_varF (by rfl)) (g_cons (SO.f (s_cb l_len (a_cons (s_varB (t := .O) (by rfl)) a_nil))) g_nil))))))) a_nil)))))))) hv

/- _law_noise: 0 _law_state, 1 _law_many, 2 _law_made, 3 _law_k, 4 _law_some -/
def t_noise (K : PySem.W.Frag) (s_take_ : Sp) : TS :=
      (tSeq (tAsg (tLst tNil) (gName 2))
      (tSeq (tFor (iRng1 (tCons (tVar 1) tNil)) (gName 3)
      (tSeq (tAsg (tLst (tCons (tCall s_take_ [] E0 (tCons (tVar 0) (tCons (tC (.int 256)) tNil))) (tCons (tCall s_take_ [] E0 (tCons (tVar 0) (tCons (tC (.int 3)) tNil))) (tCons (tOp (rAddU K) (tC (.int 127)) (tCall s_take_ [] E0 (tCons (tVar 0) (tCons (tC (.int 2)) tNil)))) tNil)))) (gName 4))
      (tDrop (tBM K "list" (rAppend) (tVar 2) (tCons (tOp (rIxU K) (tVar 4) (tCall s_take_ [] E0 (tCons (tVar 0) (tCons (tC (.int 3)) tNil)))) tNil)))))
      (tRet (tVar 2))))
abbrev N_noise : List Str := [("_law_state" : Str), ("_law_many" : Str), ("_law_made" : Str), ("_law_k" : Str), ("_law_some" : Str)]
def v_noise (K : PySem.W.Frag) (vs_take : VSp) : VS :=
      (vSeqS (vAsg (vLst vNil) (vgName 2))
      (vSeqS (vFor [1, 3, 4] (vRng1 (vCons (vVar 1) vNil)) (vgName 3)
      (vSeqS (vAsg (vLst (vCons (vCall vs_take (vCons (vVar 0) (vCons (vC (.int 256)) vNil))) (vCons (vCall vs_take (vCons (vVar 0) (vCons (vC (.int 3)) vNil))) (vCons (vOp vAdd (vC (.int 127)) (vCall vs_take (vCons (vVar 0) (vCons (vC (.int 2)) vNil)))) vNil)))) (vgName 4))
      (vApp 2 (vOp vIx (vVar 4) (vCall vs_take (vCons (vVar 0) (vCons (vC (.int 3)) vNil)))))))
      (vRet (vVar 2))))
theorem sim_noise {K : PySem.W.Frag} {vs_take : VSp} {vsp : VSp} (hv : ∀ ds m P VX, vsp ds m P VX → ds.length = 2 ∧ v_noise K vs_take (vends P) (vstart N_noise.length ds) m) :
    ∀ us H Q E, spV K .O vsp us H Q E → t_noise K (spV K .O vs_take) { nx := fun _ H' => Q .non H', rt := Q } (L2.start N_noise us) H :=
  sim_def (n := 2) (t := .O) (N := N_noise) (Γn := [.F, .F, .F, .F, .F]) (Γb := []) (Γc := []) (ts := fun E => t_noise K (spV K .O vs_take)) (vs := fun VX => v_noise K vs_take) (by decide) (fun c W VX hK hx => by
    subst hK
    exact (x_seq (x_asgO (i := 2) (s_lst g_nil))
      (x_seq (x_for (Γ' := [.F, .F, .O, .F, .F]) (ws := [1, 3, 4]) (i_rng1 (g_cons (s_varF (by rfl)) g_nil)) (tg_name (is := [3]) (by rfl) (by decide))
      (x_post (Γ1 := [.F, .F, .O, .F, .O]) (Γn := [.F, .F, .O, .F, .F]) (x_seq (x_asgO (i := 4) (s_lst (g_cons (SO.f (s_callO (g_cons (s_varF (by rfl)) (g_cons (SO.f s_int) g_nil)))) (g_cons (SO.f (s_callO (g_cons (s_varF (by rfl)) (g_cons (SO.f s_int) g_nil)))) (g_cons (SO.f (s_op o_add (SO.b s_int) (SO.b (s_callO (g_cons (s_varF (by rfl)) (g_cons (SO.f s_int) g_nil)))))) g_nil)))))
      (x_app (by rfl) (s_opF o_ix (s_varB (t := .O) (by rfl)) (SO.b (s_callO (g_cons (s_varF (by rfl)) (g_cons (SO.f s_int) g_nil)))))))))
      (x_retV (by rfl))))) hv

/- _law_signs: 0 _law_some -/
def t_signs (K : PySem.W.Frag) : TS :=
      (tSeq (tAsg (tC (.str (" !\"#$&'()*+,-./0123456789:;<=>?@ABCDEFGHIJKLMNOPQRSTUVWXYZ[\\]^_`" : Str))) (gName 0))
      (tRet (tOp (rAddU K) (tVar 0) (tC (.str ("abcdefghijklmnopqrstuvwxyz{|}~" : Str))))))
abbrev N_signs : List Str := [("_law_some" : Str)]
def v_signs (K : PySem.W.Frag) : VS :=
      (vSeqS (vAsg (vC (.str (" !\"#$&'()*+,-./0123456789:;<=>?@ABCDEFGHIJKLMNOPQRSTUVWXYZ[\\]^_`" : Str))) (vgName 0))
      (vRet (vOp vAdd (vVar 0) (vC (.str ("abcdefghijklmnopqrstuvwxyz{|}~" : Str))))))
theorem sim_signs {K : PySem.W.Frag} {vsp : VSp} (hv : ∀ ds m P VX, vsp ds m P VX → ds.length = 0 ∧ v_signs K (vends P) (vstart N_signs.length ds) m) :
    ∀ us H Q E, spV K .O vsp us H Q E → t_signs K { nx := fun _ H' => Q .non H', rt := Q } (L2.start N_signs us) H :=
  sim_def (n := 0) (t := .O) (N := N_signs) (Γn := [.F]) (Γb := []) (Γc := []) (ts := fun E => t_signs K) (vs := fun VX => v_signs K) (by decide) (fun c W VX hK hx => by
    subst hK
    exact (x_seq (x_asgO (i := 0) s_str)
      (x_retO (s_op o_add (s_varB (t := .O) (by rfl)) (SO.b s_str))))) hv

/- _law_any_text: 0 _law_state, 1 _law_signs_here, 2 _law_k -/
def t_any_text (K : PySem.W.Frag) (s_take_ : Sp) (s_text_ : Sp) (s_signs_ : Sp) : TS :=
      (tSeq (tIfS (tTest (tOp (rEqU K) (tCall s_take_ [] E0 (tCons (tVar 0) (tCons (tC (.int 2)) tNil))) (tC (.int 0))))
      (tRet (tCall s_text_ [] E0 (tCons (tVar 0) tNil)))
      tNext)
      (tSeq (tAsg (tCall s_signs_ [] E0 tNil) (gName 1))
      (tRet (tBM K "str" (rJoinS K) (tC (.str ("" : Str))) (tCons (tLc (iRng1 (tCons (tCall s_take_ [] E0 (tCons (tVar 0) (tCons (tC (.int 21)) tNil))) tNil)) (gName 2) tYes (tOp (rIxU K) (tVar 1) (tCall s_take_ [] E0 (tCons (tVar 0) (tCons (tC (.int 94)) tNil)))) [2]) tNil)))))
abbrev N_any_text : List Str := [("_law_state" : Str), ("_law_signs_here" : Str), ("_law_k" : Str)]
def v_any_text (K : PySem.W.Frag) (vs_take : VSp) (vs_text : VSp) (vs_signs : VSp) : VS :=
      (vSeqS (vIf (vTest (vOp vEqC (vCall vs_take (vCons (vVar 0) (vCons (vC (.int 2)) vNil))) (vC (.int 0))))
      (vRet (vCall vs_text (vCons (vVar 0) vNil)))
      vNext)
      (vSeqS (vAsg (vCall vs_signs vNil) (vgName 1))
      (vRet (vBMt "str" vJoin (vC (.str ("" : Str))) (vCons (vLc (vRng1 (vCons (vCall vs_take (vCons (vVar 0) (vCons (vC (.int 21)) vNil))) vNil)) (vgName 2) vYes (vOp vIx (vVar 1) (vCall vs_take (vCons (vVar 0) (vCons (vC (.int 94)) vNil)))) [2]) vNil)))))
theorem sim_any_text {K : PySem.W.Frag} {vs_take : VSp} {vs_text : VSp} {vs_signs : VSp} {vsp : VSp} (hv : ∀ ds m P VX, vsp ds m P VX → ds.length = 1 ∧ v_any_text K vs_take vs_text vs_signs (vends P) (vstart N_any_text.length ds) m) :
    ∀ us H Q E, spV K .F vsp us H Q E → t_any_text K (spV K .O vs_take) (spV K .F vs_text) (spV K .O vs_signs) { nx := fun _ H' => Q .non H', rt := Q } (L2.start N_any_text us) H :=
  sim_def (n := 1) (t := .F) (N := N_any_text) (Γn := [.F, .F, .F]) (Γb := []) (Γc := []) (ts := fun E => t_any_text K (spV K .O vs_take) (spV K .F vs_text) (spV K .O vs_signs)) (vs := fun VX => v_any_text K vs_take vs_text vs_signs) (by decide) (fun c W VX hK hx => by
    subst hK
    exact (x_seq (x_if (Γn := [.F, .F, .F]) (s_test (SO.b (s_op o_eq (SO.b (s_callO (g_cons (s_varF (by rfl)) (g_cons (SO.f s_int) g_nil)))) (SO.b s_int))))
      (x_retF (s_callF (g_cons (s_varF (by rfl)) g_nil)))
      x_next)
      (x_seq (x_asgO (i := 1) (s_callO g_nil))
      (x_retF (SO.f (s_bm m_join (SO.b s_str) (a_cons (SO.b (s_lc (vs := [2]) (i_rng1 (g_cons (SO.f (s_callO (g_cons (s_varF (by rfl)) (g_cons (SO.f s_int) g_nil)))) g_nil)) (by rfl) (tg_name (is := [2]) (by rfl) (by decide)) s_yes (s_opF o_ix (s_varB (t := .O) (by rfl)) (SO.b (s_callO (g_cons (s_varF (by rfl)) (g_cons (SO.f s_int) g_nil))))))) a_nil))))))) hv

/-- a written list of ints, at a place that is drawn -/
theorem at_litD (l : List Int) {v : Int} (h0 : 0 ≤ v) (h1 : v < l.length) : ∃ z, z ∈ l ∧ L2.atI (l.map D.int) v = some (.int z) := by
  obtain ⟨j, rfl⟩ : ∃ j : Nat, v = (j : Int) := ⟨v.toNat, by omega⟩
  have hj : j < l.length := by omega
  exact ⟨l[j], List.getElem_mem hj, atI_nat (by rw [List.getElem?_map, List.getElem?_eq_getElem hj]; rfl)⟩
theorem at_litS (l : List Str) {v : Int} (h0 : 0 ≤ v) (h1 : v < l.length) : ∃ z, z ∈ l ∧ L2.atI (l.map D.str) v = some (.str z) := by
  obtain ⟨j, rfl⟩ : ∃ j : Nat, v = (j : Int) := ⟨v.toNat, by omega⟩
  have hj : j < l.length := by omega
  exact ⟨l[j], List.getElem_mem hj, atI_nat (by rw [List.getElem?_map, List.getElem?_eq_getElem hj]; rfl)⟩
def wNumber : VSp := fun ds m P _ => ∃ (x : Addr) (r : Nat) (s0 : Sto), ds = [.adr x] ∧ m = (some (x, r), s0) ∧ 8 ≤ r ∧ ∀ (n : Int) (r' : Nat), n.natAbs < 10 ^ 18 → r ≤ r' + 8 → P (.int n) ((some (x, r'), s0))
theorem p_number {K : PySem.W.Frag} (ds : List D) (m : Mst) (P : D → Mst → Prop) (VX : XV) (h : wNumber ds m P VX) : ds.length = 1 ∧ v_number K vTake (vends P) (vstart N_number.length ds) m := by
  obtain ⟨x, r, s0, rfl, rfl, hr, k⟩ := h
  refine ⟨rfl, ?_⟩
  unfold v_number
  walk_at "vv"
  refine e_take (by omega) (by decide) (by decide) fun way r1 h1 h2 hr1 => ?_
  walk_at "vv"
  refine e_take (by omega) (by decide) (by decide) fun z1 r2 h3 h4 hr2 => ?_
  walk_at "vv"
  with_reducible refine e_seqO fun N1 hN1 => ?_
  have f1 : ∀ (n : Int) (r' : Nat), n.natAbs < 10 ^ 18 → r ≤ r' + 2 → N1 [some (.adr x), some (.int way), some (.int n)] ((some (x, r'), s0)) := by
    intro n r3 hn hr3
    refine hN1 _ _ ?_
    with_reducible refine e_seqO fun N2 hN2 => ?_
    have f2 : ∀ (n : Int) (r' : Nat), n.natAbs < 10 ^ 18 → r ≤ r' + 4 → N2 [some (.adr x), some (.int way), some (.int n)] ((some (x, r'), s0)) := by
      intro n r4 hn hr4
      refine hN2 _ _ ?_
      with_reducible refine e_seqO fun N3 hN3 => ?_
      have f3 : ∀ (n : Int) (r' : Nat), n.natAbs < 10 ^ 18 → r ≤ r' + 5 → N3 [some (.adr x), some (.int way), some (.int n)] ((some (x, r'), s0)) := by
        intro n r5 hn hr5
        refine hN3 _ _ ?_
        walk_at "vv"
        refine e_take (by omega) (by decide) (by decide) fun z r6 h5 h6 hr6 => ?_
        obtain ⟨s, hm, em⟩ := at_litD [1, -1] h5 h6
        refine e_ixL em ?_
        simp at hm
        refine e_mulI (.inl (.inr ⟨by omega, by omega⟩)) ?_
        refine k _ _ ?_ (by omega)
        rcases hm with rfl | rfl <;> omega
      walk_at "vv"
      refine w_ifd (fun c => ?_) (fun c => ?_)
      · walk_at "vv"
        refine e_take (by omega) (by decide) (by decide) fun z3 r5 h5 h6 hr5 => ?_
        walk_at "vv"
        exact f3 _ _ (by omega) (by omega)
      · exact f3 _ _ hn (by omega)
    walk_at "vv"
    refine w_ifd (fun c => ?_) (fun c => ?_)
    · walk_at "vv"
      refine e_powI ⟨by decide, by decide, by decide⟩ ?_
      rw [show (10 : Int) ^ (9 : Int).toNat = 1000000000 from rfl]
      walk_at "vv"
      refine e_take (by omega) (by decide) (by decide) fun z3 r5 h5 h6 hr5 => ?_
      walk_at "vv"
      refine e_powI ⟨by decide, by decide, by decide⟩ ?_
      rw [show (10 : Int) ^ (9 : Int).toNat = 1000000000 from rfl]
      walk_at "vv"
      refine e_powI ⟨by decide, by decide, by decide⟩ ?_
      rw [show (10 : Int) ^ (9 : Int).toNat = 1000000000 from rfl]
      walk_at "vv"
      refine e_take (by omega) (by decide) (by decide) fun z4 r6 h7 h8 hr6 => ?_
      walk_at "vv"
      exact f2 _ _ (by omega) (by omega)
    · exact f2 _ _ hn (by omega)
  walk_at "vv"
  refine w_ifd (fun c => ?_) (fun c => ?_)
  · walk_at "vv"
    refine e_powI ⟨by decide, by decide, by decide⟩ ?_
    walk_at "vv"
    refine e_powI ⟨by decide, by decide, by decide⟩ ?_
    rw [show (10 : Int) ^ (17 : Int).toNat = 100000000000000000 from rfl, show (10 : Int) ^ (18 : Int).toNat = 1000000000000000000 from rfl]
    walk_at "vv"
    obtain ⟨s, hm, em⟩ := at_litD [0, 1, 63, 64, 127, 128, 8191, 8192, 1000000000000000000 - 1, 100000000000000000, 255, 256] h3 h4
    refine e_ixL em ?_
    have hs : s.natAbs < 10 ^ 18 := by
      simp at hm
      omega
    walk_at "vv"
    exact f1 _ _ hs (by omega)
  · exact f1 _ _ (by omega) (by omega)
theorem isT_all {l : List Str} {n : Nat} (h : l.all (okT n) = true) {z : Str} (hz : z ∈ l) : IsT n z := okT_is (List.all_eq_true.mp h z hz)
/-- a drawn text: of the ninety-four signs, twenty at most -/
def wText : VSp := fun ds m P _ => ∃ (x : Addr) (r : Nat) (s0 : Sto), ds = [.adr x] ∧ m = (some (x, r), s0) ∧ 30 ≤ r ∧ ∀ (z : Str) (r' : Nat), IsT 20 z → r ≤ r' + 30 → P (.str z) ((some (x, r'), s0))
theorem signs_take {z : Str} {l : Nat} (hz : okT l z = true) {n : Int} {c : Nat} (he : L2.atI z.cps.toList n = some c) : okT 1 ⟨#[c]⟩ = true := by
  have hm : c ∈ z.cps.toList := by
    unfold L2.atI at he
    cases q : ixN z.cps.toList.length n with
    | none => rw [q] at he; cases he
    | some j => rw [q] at he; exact List.mem_of_getElem? he
  unfold okT at hz ⊢
  rw [Bool.and_eq_true] at hz ⊢
  refine ⟨?_, rfl⟩
  have q := List.all_eq_true.mp hz.1 c hm
  simp [List.all_cons] at q ⊢
  exact q
theorem atI_lt {α : Type} {l : List α} {v : Int} (h0 : 0 ≤ v) (h1 : v < l.length) : ∃ x, x ∈ l ∧ L2.atI l v = some x := by
  obtain ⟨j, rfl⟩ : ∃ j : Nat, v = (j : Int) := ⟨v.toNat, by omega⟩
  have hj : j < l.length := by omega
  exact ⟨l[j], List.getElem_mem hj, atI_nat (List.getElem?_eq_getElem hj)⟩
theorem join_signs {cs : List Nat} (n : Nat) (h : ∀ c ∈ cs, signs.cps.toList.contains c = true) (hl : cs.length ≤ n) : IsT n (Txt.join Str.empty (cs.map fun c => (⟨#[c]⟩ : Str))) := by
  rw [join_one]
  refine okT_is ?_
  unfold okT
  rw [Bool.and_eq_true]
  refine ⟨List.all_eq_true.mpr (by simpa using h), decide_eq_true ?_⟩
  show cs.toArray.size ≤ n
  simpa using hl
theorem sg_in {z : Str} {l : Nat} (hz : okT l z = true) {c : Nat} (hc : c ∈ z.cps.toList) : signs.cps.toList.contains c = true := by
  unfold okT at hz
  rw [Bool.and_eq_true] at hz
  exact List.all_eq_true.mp hz.1 c hc
theorem sum_ones (cs : List Nat) : ((cs.map fun c => (⟨#[c]⟩ : Str)).map (·.length)).sum = cs.length := by
  induction cs with
  | nil => rfl
  | cons c r ih => rw [List.map_cons, List.map_cons, List.sum_cons, ih, List.length_cons]; show 1 + _ = _; omega
/-- signs that were drawn, joined -/
theorem e_joinC {cs : List Nat} {Z : D → Prop} (hl : cs.length ≤ 1000) (h : Z (.str (Txt.join Str.empty (cs.map fun c => (⟨#[c]⟩ : Str))))) : vJoin (.str (Str.ofString "")) [.lst (cs.map fun c => D.str ⟨#[c]⟩)] Z := by
  refine ⟨cs.map fun c => (⟨#[c]⟩ : Str), ?_, ?_, h⟩
  · rw [List.map_map]; rfl
  · rw [sum_ones, List.length_map]
    show cs.length + cs.length * 0 ≤ _
    omega
theorem p_text {K : PySem.W.Frag} (ds : List D) (m : Mst) (P : D → Mst → Prop) (VX : XV) (h : wText ds m P VX) : ds.length = 1 ∧ v_text K vTake (vends P) (vstart N_text.length ds) m := by
  obtain ⟨x, r, s0, rfl, rfl, hr, k⟩ := h
  refine ⟨rfl, ?_⟩
  unfold v_text
  walk_at "vv"
  refine ⟨⟨by decide, by decide +kernel, by decide +kernel⟩, ?_⟩
  walk_at "vv"
  refine e_cutS (by decide) ?_
  walk_at "vv"
  walk_at "vi"
  refine e_take (by omega) (by decide) (by decide) fun z1 r1 h1 h2 hr1 => ?_
  walk_at "vv"
  refine w_ifd (fun c => ?_) (fun c => ?_)
  · walk_at "vv"
    refine e_take (by omega) (by decide) (by decide) fun z2 r2 h3 h4 hr2 => ?_
    obtain ⟨s, hm, em⟩ := at_litS [("a" : Str), ("" : Str), ("aa" : Str), ("b" : Str), ("ab" : Str), ("~" : Str), (" " : Str), ("zz top" : Str), ("Aa" : Str), ("0" : Str), repS ("a" : Str) 20, cutS ("the twenty signs of it" : Str) none (some 20)] h3 h4
    refine e_ixL em ?_
    exact k s _ (isT_all (by decide +kernel) hm) (by omega)
  · walk_at "vv"
    refine e_take (by omega) (by decide) (by decide) fun z2 r2 h3 h4 hr2 => ?_
    obtain ⟨j, rfl⟩ : ∃ j : Nat, z2 = (j : Int) := ⟨z2.toNat, by omega⟩
    walk_at "vv"
    refine e_itR (by omega) ?_
    have hz : okT 53 (" !\"#$&'()*+,-./0123456789:;<=>?@ABCXYZ[]^_`abcxyz{|}~" : Str) = true := by decide +kernel
    refine ⟨fun i acc m' => i ≤ j ∧ ∃ cs : List Nat, acc = cs.map (fun c => D.str ⟨#[c]⟩) ∧ cs.length = i ∧ (∀ c ∈ cs, signs.cps.toList.contains c = true) ∧ ∃ r' : Nat, m' = (some (x, r'), s0) ∧ r2 ≤ r' + i, ⟨Nat.zero_le _, [], rfl, rfl, by simp, r2, rfl, by omega⟩, ?_, ?_⟩
    · rintro i acc m' d ⟨hi0, cs, rfl, hcs, hc, r3, rfl, hr3⟩ ed
      obtain ⟨hi, rfl⟩ := rangeD_at ed
      walk_at "vv"
      refine e_lenS (by decide) ?_
      walk_at "vv"
      refine e_take (by omega) (by decide) (by decide) fun z3 r4 h5 h6 hr4 => ?_
      obtain ⟨c', hm, em⟩ := atI_lt (l := (" !\"#$&'()*+,-./0123456789:;<=>?@ABCXYZ[]^_`abcxyz{|}~" : Str).cps.toList) h5 (by rw [Array.length_toList]; exact h6)
      refine e_ixS (by decide) em ⟨by rw [List.length_map]; exact sz_lt (by omega), by omega, cs ++ [c'], by rw [List.map_append]; rfl, by simp [hcs], fun c h => ?_, r4, rfl, by omega⟩
      rcases List.mem_append.mp h with h | h
      · exact hc c h
      · rw [List.mem_singleton.mp h]; exact sg_in hz hm
    · rintro acc m' ⟨hi0, cs, rfl, hcs, hc, r3, rfl, hr3⟩
      rw [rangeD_len] at hcs hr3
      walk_at "vv"
      refine e_joinC (by omega) ?_
      exact k _ _ (join_signs 20 hc (by omega)) (by omega)
theorem p_signs {K : PySem.W.Frag} (ds : List D) (m : Mst) (P : D → Mst → Prop) (VX : XV) (h : ds = [] ∧ P (.str signs) m) : ds.length = 0 ∧ v_signs K (vends P) (vstart N_signs.length ds) m := by
  obtain ⟨rfl, k⟩ := h
  refine ⟨rfl, ?_⟩
  unfold v_signs
  walk_at "vv"
  refine e_addS (by decide +kernel) ?_
  have e : ((" !\"#$&'()*+,-./0123456789:;<=>?@ABCDEFGHIJKLMNOPQRSTUVWXYZ[\\]^_`" : Str) ++ ("abcdefghijklmnopqrstuvwxyz{|}~" : Str)) = signs := by decide +kernel
  rw [e]
  exact k
abbrev wSigns : VSp := fun ds m P _ => ds = [] ∧ P (.str signs) m
theorem p_any_text {K : PySem.W.Frag} (ds : List D) (m : Mst) (P : D → Mst → Prop) (VX : XV) (h : (∃ (x : Addr) (r : Nat) (s0 : Sto), ds = [.adr x] ∧ m = (some (x, r), s0) ∧ 31 ≤ r ∧ ∀ (z : Str) (r' : Nat), IsT 20 z → r ≤ r' + 31 → P (.str z) ((some (x, r'), s0)))) : ds.length = 1 ∧ v_any_text K vTake wText wSigns (vends P) (vstart N_any_text.length ds) m := by
  obtain ⟨x, r, s0, rfl, rfl, hr, k⟩ := h
  refine ⟨rfl, ?_⟩
  unfold v_any_text
  walk_at "vi"
  refine e_take (by omega) (by decide) (by decide) fun z1 r1 h1 h2 hr1 => ?_
  walk_at "vv"
  refine w_ifd (fun c => ?_) (fun c => ?_)
  · walk_at "vv"
    exact ⟨x, r1, s0, rfl, rfl, by omega, fun z r' hz hr' => k z r' hz (by omega)⟩
  · walk_at "vv"
    refine ⟨rfl, ?_⟩
    walk_at "vv"
    refine e_take (by omega) (by decide) (by decide) fun z2 r2 h3 h4 hr2 => ?_
    obtain ⟨j, rfl⟩ : ∃ j : Nat, z2 = (j : Int) := ⟨z2.toNat, by omega⟩
    walk_at "vv"
    refine e_itR (by omega) ?_
    have hz : okT 94 signs = true := by decide +kernel
    refine ⟨fun i acc m' => i ≤ j ∧ ∃ cs : List Nat, acc = cs.map (fun c => D.str ⟨#[c]⟩) ∧ cs.length = i ∧ (∀ c ∈ cs, signs.cps.toList.contains c = true) ∧ ∃ r' : Nat, m' = (some (x, r'), s0) ∧ r2 ≤ r' + i, ⟨Nat.zero_le _, [], rfl, rfl, by simp, r2, rfl, by omega⟩, ?_, ?_⟩
    · rintro i acc m' d ⟨hi0, cs, rfl, hcs, hc, r3, rfl, hr3⟩ ed
      obtain ⟨hi, rfl⟩ := rangeD_at ed
      walk_at "vv"
      refine e_take (by omega) (by decide) (by decide) fun z3 r4 h5 h6 hr4 => ?_
      obtain ⟨c', hm, em⟩ := atI_lt (l := signs.cps.toList) h5 (by rw [signs_list]; exact h6)
      refine e_ixS (by rw [signs_len]; decide) em ⟨by rw [List.length_map]; exact sz_lt (by omega), by omega, cs ++ [c'], by rw [List.map_append]; rfl, by simp [hcs], fun c h => ?_, r4, rfl, by omega⟩
      rcases List.mem_append.mp h with h | h
      · exact hc c h
      · rw [List.mem_singleton.mp h]; exact sg_in hz hm
    · rintro acc m' ⟨hi0, cs, rfl, hcs, hc, r3, rfl, hr3⟩
      rw [rangeD_len] at hcs hr3
      walk_at "vv"
      refine e_joinC (by omega) ?_
      exact k _ _ (join_signs 20 hc (by omega)) (by omega)
/-- drawn bytes -/
def wNoise : VSp := fun ds m P _ => ∃ (x : Addr) (r : Nat) (s0 : Sto) (n : Nat), ds = [.adr x, .int n] ∧ n ≤ 10000 ∧ m = (some (x, r), s0) ∧ 4 * n ≤ r ∧ ∀ (ns : List Int) (r' : Nat), ns.length = n → (∀ b ∈ ns, 0 ≤ b ∧ b < 256) → r ≤ r' + 4 * n → P (dL ns) ((some (x, r'), s0))
theorem p_noise {K : PySem.W.Frag} (ds : List D) (m : Mst) (P : D → Mst → Prop) (VX : XV) (h : wNoise ds m P VX) : ds.length = 2 ∧ v_noise K vTake (vends P) (vstart N_noise.length ds) m := by
  obtain ⟨x, r, s0, n, rfl, hn, rfl, hr, k⟩ := h
  refine ⟨rfl, ?_⟩
  unfold v_noise
  walk_at "vv"
  refine e_itR (by omega) ?_
  refine for_inv (fun i e m' => ∃ (ns : List Int) (r' : Nat), e = [some (.adr x), none, some (dL ns), none, none] ∧ m' = (some (x, r'), s0) ∧ r ≤ r' + 4 * i ∧ ns.length = i ∧ ∀ b ∈ ns, 0 ≤ b ∧ b < 256) ⟨[], r, rfl, rfl, by omega, rfl, by simp⟩ ?_ ?_
  · rintro i e m' d _ ⟨ns, r1, rfl, rfl, hr1, hl, hb⟩ ed
    obtain ⟨hi, rfl⟩ := rangeD_at ed
    walk_at "vv"
    refine e_take (by omega) (by decide) (by decide) fun z1 r2 h1 h2 hr2 => ?_
    walk_at "vv"
    refine e_take (by omega) (by decide) (by decide) fun z2 r3 h3 h4 hr3 => ?_
    walk_at "vv"
    refine e_take (by omega) (by decide) (by decide) fun z3 r4 h5 h6 hr4 => ?_
    walk_at "vv"
    refine e_take (by omega) (by decide) (by decide) fun z4 r5 h7 h8 hr5 => ?_
    obtain ⟨s, hm, em⟩ := at_litD [z1, z2, 127 + z3] h7 h8
    refine e_ixL em ⟨by rw [List.length_map]; exact sz_lt (by omega), ?_⟩
    rw [dl_snoc]
    simp at hm
    refine ⟨ns ++ [s], r5, rfl, rfl, by omega, by simp [hl], fun b h => ?_⟩
    rcases List.mem_append.mp h with h | h
    · exact hb b h
    · simp at h; omega
  · rintro e m' ⟨ns, r1, rfl, rfl, hr1, hl, hb⟩
    rw [rangeD_len] at hr1 hl
    walk_at "vv"
    exact k _ _ hl hb hr1
end Ps

/-! Vf1: slices, rows and cells compared, over data. -/
namespace Ps
open PySem PySem.Spec PyProof.Rows L2
theorem sIx_mm (n d : Nat) : HT.sIx n d (some (-1)) = n - 1 := by
  show (if (-1 : Int) < 0 then ((-1 : Int) + (n : Int)).toNat else min (-1 : Int).toNat n) = n - 1
  rw [if_pos (by decide)]
  omega
theorem cutD_to (xs : List D) (n : Nat) : cutD xs none (some (n : Int)) = xs.take n := by
  unfold cutD
  rw [HT.sIx_none, HT.sIx_nat, List.drop_zero, Nat.sub_zero]
  by_cases h : n ≤ xs.length
  · rw [Nat.min_eq_left h]
  · rw [Nat.min_eq_right (by omega), List.take_of_length_le (Nat.le_refl _), List.take_of_length_le (by omega)]
theorem cutD_from (xs : List D) (n : Nat) : cutD xs (some (n : Int)) none = xs.drop n := by
  unfold cutD
  rw [HT.sIx_none, HT.sIx_nat]
  by_cases h : n ≤ xs.length
  · rw [Nat.min_eq_left h, List.take_of_length_le (by rw [List.length_drop]; exact Nat.le_refl _)]
  · rw [Nat.min_eq_right (by omega), Nat.sub_self, List.take_zero, List.drop_of_length_le (by omega)]
theorem cutD_mid (xs : List D) (n k : Nat) : cutD xs (some (n : Int)) (some (k : Int)) = (xs.drop n).take (k - n) := by
  unfold cutD
  rw [HT.sIx_nat, HT.sIx_nat]
  have hl : (xs.drop n).length = xs.length - n := List.length_drop
  by_cases h : n ≤ xs.length
  · rw [Nat.min_eq_left h]
    by_cases h2 : k ≤ xs.length
    · rw [Nat.min_eq_left h2]
    · rw [Nat.min_eq_right (by omega : xs.length ≤ k), List.take_of_length_le (by omega), List.take_of_length_le (by omega)]
  · rw [Nat.min_eq_right (by omega : xs.length ≤ n), List.drop_of_length_le (Nat.le_refl _), List.drop_of_length_le (by omega : xs.length ≤ n), List.take_nil, List.take_nil]
theorem cutD_init (xs : List D) : cutD xs none (some (-1)) = xs.dropLast := by
  unfold cutD
  rw [HT.sIx_none, sIx_mm, List.drop_zero, Nat.sub_zero, List.dropLast_eq_take]
theorem cutD_last (xs : List D) : cutD xs (some (-1)) none = xs.drop (xs.length - 1) := by
  unfold cutD
  rw [HT.sIx_none, sIx_mm, List.take_of_length_le (by rw [List.length_drop]; omega)]
theorem dropLast_snoc {α : Type} (l : List α) (x : α) : (l ++ [x]).dropLast = l := by simp
theorem drop_snoc {α : Type} (l : List α) (x : α) : (l ++ [x]).drop ((l ++ [x]).length - 1) = [x] := by
  rw [List.length_append, List.length_singleton, Nat.add_sub_cancel, List.drop_append_of_le_length (Nat.le_refl _), List.drop_of_length_le (Nat.le_refl _), List.nil_append]
/-! rows of ints as PyData -/
theorem pls_ints : ∀ ns : List Int, D.pls (ns.map D.int) = true
  | [] => rfl
  | n :: r => by rw [List.map_cons, D.pls, pls_ints r]; rfl
theorem pys_ints : ∀ ns : List Int, D.pys (ns.map D.int) = ns.map PyData.int
  | [] => rfl
  | n :: r => by rw [List.map_cons, D.pys, pys_ints r]; rfl
theorem pl_dL (ns : List Int) : (dL ns).pl = true := by rw [dL, D.pl]; exact pls_ints ns
theorem py_dL (ns : List Int) : (dL ns).py = dI ns := by rw [dL, D.py, pys_ints]; rfl
theorem pl_tL (ns : List Int) : (D.tup (ns.map D.int)).pl = true := by rw [D.pl]; exact pls_ints ns
theorem py_tL (ns : List Int) : (D.tup (ns.map D.int)).py = .tuple (ns.map PyData.int) := by rw [D.py, pys_ints]
theorem okD_intsT2 (n : Nat) (ns : List Int) (h : ns.length ≤ 16777216) : okD (n + 2) (.tuple (ns.map PyData.int)) = true := by
  simp only [okD, Bool.and_eq_true, decide_eq_true_eq, List.length_map]
  refine ⟨h, List.all_eq_true.mpr fun d hd => ?_⟩
  obtain ⟨z, _, rfl⟩ := List.mem_map.mp hd
  rfl
section
variable {P : D → Mst → Prop} {m : Mst} {VX : XV} {k : Nat} {Z : D → Prop}
theorem e_sameL {ns : List Int} (hk : 2 ≤ k) (hz : ns.length ≤ 16777216) (h : P (.bl true) m) : vSame k [dL ns, dL ns] m P VX := by
  obtain ⟨k, rfl⟩ : ∃ k', k = k' + 2 := ⟨k - 2, by omega⟩
  exact e_same (pl_dL ns) (pl_dL ns) rfl (by rw [py_dL]; exact okD_ints _ _ hz) h
theorem e_sameI {n : Int} (hk : 1 ≤ k) (h : P (.bl true) m) : vSame k [.int n, .int n] m P VX := by
  obtain ⟨k, rfl⟩ : ∃ k', k = k' + 1 := ⟨k - 1, by omega⟩
  exact e_same rfl rfl rfl rfl h
theorem e_sameNon (hk : 1 ≤ k) (h : P (.bl true) m) : vSame k [.non, .non] m P VX := by
  obtain ⟨k, rfl⟩ : ∃ k', k = k' + 1 := ⟨k - 1, by omega⟩
  exact e_same rfl rfl rfl rfl h
theorem e_sameS {s : Str} (hk : 1 ≤ k) (h : P (.bl true) m) : vSame k [.str s, .str s] m P VX := by
  obtain ⟨k, rfl⟩ : ∃ k', k = k' + 1 := ⟨k - 1, by omega⟩
  exact e_same rfl rfl rfl rfl h
theorem pl_cvD (c : Cel) : (cvD c).pl = true := by cases c <;> rfl
theorem okD_cvD (n : Nat) (c : Cel) : okD (n + 1) (cvD c).py = true := by cases c <;> rfl
/-- a pair of a cell and a place -/
theorem e_sameCP {c : Cel} {n : Int} (hk : 2 ≤ k) (h : P (.bl true) m) : vSame k [.tup [cvD c, .int n], .tup [cvD c, .int n]] m P VX := by
  obtain ⟨k, rfl⟩ : ∃ k', k = k' + 2 := ⟨k - 2, by omega⟩
  have hp : (D.tup [cvD c, .int n]).pl = true := by rw [D.pl, D.pls, D.pls, pl_cvD]; rfl
  refine e_same hp hp rfl ?_ h
  rw [D.py, D.pys, D.pys]
  simp only [okD, List.all_cons, okD_cvD]
  rfl
theorem e_eqL {ns ms : List Int} (h : Z (.bl (decide (ns = ms)))) : vEqC (dL ns) (dL ms) Z := by
  refine e_eqD rfl ⟨pl_dL _, pl_dL _, ?_, ?_⟩ ?_
  · rw [py_dL]; exact shaped_dI _
  · rw [py_dL]; exact shaped_dI _
  · rw [py_dL, py_dL, eqv_dI]; exact h
theorem e_neL {ns ms : List Int} (h : Z (.bl (!decide (ns = ms)))) : vNeC (dL ns) (dL ms) Z := by
  refine e_neD rfl ⟨pl_dL _, pl_dL _, ?_, ?_⟩ ?_
  · rw [py_dL]; exact shaped_dI _
  · rw [py_dL]; exact shaped_dI _
  · rw [py_dL, py_dL, eqv_dI]; exact h
end
/-! lists of pairs as dicts -/
theorem pairsT_map {α : Type} (l : List α) (g : α → Str) (h : α → D) : pairsT (l.map fun k => .tup [.str (g k), h k]) = some (l.map fun k => (.inr (g k), h k)) := by
  induction l with
  | nil => rfl
  | cons x l ih =>
    rw [List.map_cons, List.map_cons, pairsT, ih]
    rfl
def asInt : Option D → Option Int
  | some (.int i) => some i
  | _ => none
theorem asInt_of {o : Option D} {i : Int} (h : asInt o = some i) : o = some (.int i) := by
  unfold asInt at h
  split at h
  · cases h; rfl
  · cases h
def signsK : List (Key × D) := mergeD [] ((List.range 94).map fun k => ((.inr (⟨#[sg k]⟩ : Str) : Key), D.int k))
theorem signsK_get : ∀ k : Fin 94, asInt (dget signsK (.inr (⟨#[sg k.val]⟩ : Str))) = some (k.val : Int) := by decide +kernel
theorem signsOf_signs : signsOf signs = (List.range 94).map fun k => D.str ⟨#[sg k]⟩ := by
  have e : signs.cps.toList = (List.range 94).map sg := by decide +kernel
  unfold signsOf
  rw [e, List.map_map]
  rfl
end Ps

/-! Vg: plain data compared, whatever its shape. -/
namespace Ps
open PySem PySem.Spec PyProof.Rows L2
/-- plain data of at most n storeys -/
def Gd : Nat → D → Prop
  | 0, _ => False
  | _ + 1, .non => True
  | _ + 1, .int _ => True
  | _ + 1, .str s => PyData.strOk s = true
  | n + 1, .lst ds => ds.length ≤ 16777216 ∧ ∀ d ∈ ds, Gd n d
  | n + 1, .tup ds => ds.length ≤ 16777216 ∧ ∀ d ∈ ds, Gd n d
  | _ + 1, _ => False
theorem Gd.up : ∀ {n : Nat} {d : D}, Gd n d → Gd (n + 1) d
  | 0, _, h => h.elim
  | n + 1, d, h => by
    cases d with
    | lst ds => exact ⟨h.1, fun x hx => Gd.up (h.2 x hx)⟩
    | tup ds => exact ⟨h.1, fun x hx => Gd.up (h.2 x hx)⟩
    | non => exact h
    | int i => exact h
    | str s => exact h
    | _ => exact h.elim
theorem Gd.le {n k : Nat} {d : D} (hk : n ≤ k) (h : Gd n d) : Gd k d := by
  induction hk with
  | refl => exact h
  | step _ ih => exact ih.up
theorem pls_of : ∀ {ds : List D}, (∀ d ∈ ds, d.pl = true) → D.pls ds = true
  | [], _ => rfl
  | d :: ds, h => by rw [D.pls, h d List.mem_cons_self, pls_of fun x hx => h x (List.mem_cons_of_mem _ hx)]; rfl
theorem lays_of : ∀ {ds : List D}, (∀ d ∈ ds, PyData.canLay0 d.py = true) → PyData.canLayAll0 (D.pys ds) = true
  | [], _ => rfl
  | d :: ds, h => by rw [D.pys, PyData.canLayAll0, h d List.mem_cons_self, lays_of fun x hx => h x (List.mem_cons_of_mem _ hx)]; rfl
theorem depths_of {n : Nat} : ∀ {ds : List D}, (∀ d ∈ ds, PyData.depth d.py ≤ n) → PyData.depthAll (D.pys ds) ≤ n
  | [], _ => by rw [D.pys, PyData.depthAll]; exact Nat.zero_le _
  | d :: ds, h => by
    rw [D.pys, PyData.depthAll]
    exact Nat.max_le.mpr ⟨h d List.mem_cons_self, depths_of fun x hx => h x (List.mem_cons_of_mem _ hx)⟩
theorem pys_len : ∀ ds : List D, (D.pys ds).length = ds.length
  | [] => rfl
  | d :: ds => by rw [D.pys, List.length_cons, List.length_cons, pys_len ds]
theorem okDs_of {n : Nat} : ∀ {ds : List D}, (∀ d ∈ ds, okD n d.py = true) → (D.pys ds).all (okD n) = true
  | [], _ => rfl
  | d :: ds, h => by rw [D.pys, List.all_cons, h d List.mem_cons_self, okDs_of fun x hx => h x (List.mem_cons_of_mem _ hx)]; rfl
theorem Gd.pl : ∀ {n : Nat} {d : D}, Gd n d → d.pl = true
  | 0, _, h => h.elim
  | n + 1, d, h => by
    cases d with
    | lst ds => rw [D.pl]; exact pls_of fun x hx => Gd.pl (h.2 x hx)
    | tup ds => rw [D.pl]; exact pls_of fun x hx => Gd.pl (h.2 x hx)
    | non => rfl
    | int i => rfl
    | str s => rfl
    | _ => exact h.elim
theorem Gd.lay : ∀ {n : Nat} {d : D}, Gd n d → PyData.canLay0 d.py = true ∧ PyData.depth d.py ≤ n
  | 0, _, h => h.elim
  | n + 1, d, h => by
    cases d with
    | lst ds =>
      rw [D.py, PyData.canLay0, PyData.depth]
      exact ⟨lays_of fun x hx => (Gd.lay (h.2 x hx)).1, Nat.succ_le_succ (depths_of fun x hx => (Gd.lay (h.2 x hx)).2)⟩
    | tup ds =>
      rw [D.py, PyData.canLay0, PyData.depth]
      exact ⟨lays_of fun x hx => (Gd.lay (h.2 x hx)).1, Nat.succ_le_succ (depths_of fun x hx => (Gd.lay (h.2 x hx)).2)⟩
    | non => exact ⟨rfl, by rw [D.py, PyData.depth]; omega⟩
    | int i => exact ⟨rfl, by rw [D.py, PyData.depth]; omega⟩
    | str s => exact ⟨by rw [D.py, PyData.canLay0]; exact h, by rw [D.py, PyData.depth]; omega⟩
    | _ => exact h.elim
theorem Gd.okD : ∀ {n : Nat} {d : D}, Gd n d → Ps.okD n d.py = true
  | 0, _, h => h.elim
  | n + 1, d, h => by
    cases d with
    | lst ds => rw [D.py, Ps.okD, pys_len, decide_eq_true h.1, okDs_of fun x hx => Gd.okD (h.2 x hx)]; rfl
    | tup ds => rw [D.py, Ps.okD, pys_len, decide_eq_true h.1, okDs_of fun x hx => Gd.okD (h.2 x hx)]; rfl
    | non => rfl
    | int i => rfl
    | str s => rfl
    | _ => exact h.elim
theorem Gd.shaped {n : Nat} {d : D} (hn : n ≤ 64) (h : Gd n d) : SeqAt.shaped d.py = true := by
  unfold SeqAt.shaped
  rw [h.lay.1, decide_eq_true (Nat.le_trans h.lay.2 hn)]; rfl
section
variable {d e : D} {n k : Nat} {P : D → Mst → Prop} {m : Mst} {VX : XV} {Z : D → Prop}
theorem e_sameG (h : Gd k d) (q : P (.bl true) m) : vSame k [d, d] m P VX := e_same h.pl h.pl rfl h.okD q
/-- == of plain things, one of them no scalar -/
theorem e_eqG (hs : scD d e = false) (hn : n ≤ 64) (hd : Gd n d) (he : Gd n e) (h : Z (.bl (PyData.eqv d.py e.py))) : vEqC d e Z := e_eqD hs ⟨hd.pl, he.pl, hd.shaped hn, he.shaped hn⟩ h
theorem e_neG (hs : scD d e = false) (hn : n ≤ 64) (hd : Gd n d) (he : Gd n e) (h : Z (.bl (!PyData.eqv d.py e.py))) : vNeC d e Z := e_neD hs ⟨hd.pl, he.pl, hd.shaped hn, he.shaped hn⟩ h
theorem e_eqR (hs : scD d d = false) (hn : n ≤ 64) (hd : Gd n d) (h : Z (.bl true)) : vEqC d d Z := e_eqG hs hn hd hd (by rw [SeqAt.eqv_refl _ hd.lay.1]; exact h)
theorem e_neR (hs : scD d d = false) (hn : n ≤ 64) (hd : Gd n d) (h : Z (.bl false)) : vNeC d d Z := e_neG hs hn hd hd (by rw [SeqAt.eqv_refl _ hd.lay.1]; exact h)
end
theorem sg_small : ∀ k : Fin 94, sg k.val < 1114112 := by decide +kernel
theorem strOk_is {z : Str} {n : Nat} (h : IsT n z) : PyData.strOk z = true := by
  obtain ⟨ks, rfl, _, hk⟩ := h
  unfold PyData.strOk
  rw [← Array.all_toList, txt_cps]
  refine List.all_eq_true.mpr fun c hc => ?_
  obtain ⟨k, hm, rfl⟩ := List.mem_map.mp hc
  exact decide_eq_true (sg_small ⟨k, hk k hm⟩)
theorem gd_isT {z : Str} {n k : Nat} (h : IsT n z) (hk : 1 ≤ k) : Gd k (.str z) := by
  obtain ⟨k, rfl⟩ : ∃ j, k = j + 1 := ⟨k - 1, by omega⟩
  exact strOk_is h
theorem gd_int {i : Int} {k : Nat} (hk : 1 ≤ k) : Gd k (.int i) := by
  obtain ⟨k, rfl⟩ : ∃ j, k = j + 1 := ⟨k - 1, by omega⟩
  trivial
theorem gd_non {k : Nat} (hk : 1 ≤ k) : Gd k .non := by
  obtain ⟨k, rfl⟩ : ∃ j, k = j + 1 := ⟨k - 1, by omega⟩
  trivial
theorem gd_lst {ds : List D} {k : Nat} (hl : ds.length ≤ 16777216) (h : ∀ d ∈ ds, Gd k d) : Gd (k + 1) (.lst ds) := ⟨hl, h⟩
theorem gd_tup {ds : List D} {k : Nat} (hl : ds.length ≤ 16777216) (h : ∀ d ∈ ds, Gd k d) : Gd (k + 1) (.tup ds) := ⟨hl, h⟩
end Ps

/-! Vor: values of a kind, their order. -/
namespace Ps
open PySem PySem.Spec PyProof.Rows L2
inductive Kd where
  | num
  | txt
def Kd.isT : Kd → Bool
  | .num => false
  | .txt => true
def kdD : Kd → D
  | .num => .str "number"
  | .txt => .str "text"
/-- a value of a kind -/
def Val : Kd → D → Prop
  | .num, d => ∃ z : Int, d = .int z ∧ z.natAbs < 2 ^ 100
  | .txt, d => ∃ s : Str, d = .str s ∧ IsT 40 s
def CellK (k : Kd) (d : D) : Prop := d = .non ∨ Val k d
def ltD : D → D → Bool
  | .int i, .int j => decide (i < j)
  | .str s, .str t => decide (s.cps.toList < t.cps.toList)
  | _, _ => false
def eqDD : D → D → Bool
  | .int i, .int j => decide (i = j)
  | .str s, .str t => decide (s = t)
  | _, _ => false
theorem str_eq {s t : Str} (h : s.cps.toList = t.cps.toList) : s = t := by
  obtain ⟨⟨a⟩⟩ := s
  obtain ⟨⟨b⟩⟩ := t
  have h : a = b := h
  rw [h]
section
variable {k : Kd} {x y z : D}
theorem eqDD_iff (hx : Val k x) (hy : Val k y) : eqDD x y = true ↔ x = y := by
  cases k with
  | num =>
    obtain ⟨i, rfl, _⟩ := hx; obtain ⟨j, rfl, _⟩ := hy
    exact ⟨fun h => by rw [of_decide_eq_true h], fun h => by cases h; exact decide_eq_true rfl⟩
  | txt =>
    obtain ⟨i, rfl, _⟩ := hx; obtain ⟨j, rfl, _⟩ := hy
    exact ⟨fun h => by rw [of_decide_eq_true h], fun h => by cases h; exact decide_eq_true rfl⟩
theorem ltD_ir (x : D) : ltD x x = false := by
  cases x <;> try rfl
  · exact decide_eq_false (Int.lt_irrefl _)
  · exact decide_eq_false (List.lt_irrefl _)
theorem ltD_tr (h1 : ltD x y = true) (h2 : ltD y z = true) : ltD x z = true := by
  cases x <;> try (exact absurd h1 Bool.false_ne_true)
  · cases y <;> try (exact absurd h1 Bool.false_ne_true)
    cases z <;> try (exact absurd h2 Bool.false_ne_true)
    simp only [ltD, decide_eq_true_eq] at *
    omega
  · cases y <;> try (exact absurd h1 Bool.false_ne_true)
    cases z <;> try (exact absurd h2 Bool.false_ne_true)
    simp only [ltD, decide_eq_true_eq] at *
    exact List.lt_trans h1 h2
theorem ltD_as (h1 : ltD x y = true) : ltD y x = false := by
  cases h : ltD y x with
  | false => rfl
  | true => exact absurd (ltD_tr h1 h) (by rw [ltD_ir]; exact Bool.false_ne_true)
theorem ltD_tot (hx : Val k x) (hy : Val k y) (h1 : ltD x y = false) (h2 : ltD y x = false) : x = y := by
  cases k with
  | num =>
    obtain ⟨i, rfl, _⟩ := hx; obtain ⟨j, rfl, _⟩ := hy
    have a := of_decide_eq_false (p := i < j) h1
    have b := of_decide_eq_false (p := j < i) h2
    rw [show i = j by omega]
  | txt =>
    obtain ⟨i, rfl, _⟩ := hx; obtain ⟨j, rfl, _⟩ := hy
    have a := List.not_lt.mp (of_decide_eq_false (p := i.cps.toList < j.cps.toList) h1)
    have b := List.not_lt.mp (of_decide_eq_false (p := j.cps.toList < i.cps.toList) h2)
    rw [str_eq (List.le_antisymm b a)]
/-- not less, from the left -/
theorem ltD_le (hx : Val k x) (hy : Val k y) (hz : Val k z) (h1 : ltD y x = false) (h2 : ltD z y = false) : ltD z x = false := by
  cases h : ltD z x with
  | false => rfl
  | true =>
    cases q : ltD x y with
    | true => exact absurd (ltD_tr h q) (by rw [h2]; exact Bool.false_ne_true)
    | false => rw [ltD_tot hx hy q h1] at h; exact absurd h (by rw [h2]; exact Bool.false_ne_true)
variable {Z : D → Prop}
theorem e_ltV (hx : Val k x) (hy : Val k y) (h : Z (.bl (ltD x y))) : vLt x y Z := by
  cases k with
  | num => obtain ⟨i, rfl, _⟩ := hx; obtain ⟨j, rfl, _⟩ := hy; exact h
  | txt => obtain ⟨i, rfl, _⟩ := hx; obtain ⟨j, rfl, _⟩ := hy; exact h
theorem e_gtV (hx : Val k x) (hy : Val k y) (h : Z (.bl (ltD y x))) : vGt x y Z := by
  cases k with
  | num => obtain ⟨i, rfl, _⟩ := hx; obtain ⟨j, rfl, _⟩ := hy; exact h
  | txt => obtain ⟨i, rfl, _⟩ := hx; obtain ⟨j, rfl, _⟩ := hy; exact h
theorem dec_not {p q : Prop} [Decidable p] [Decidable q] (h : p ↔ ¬ q) : decide p = !decide q := by
  by_cases c : q
  · rw [decide_eq_true c, decide_eq_false (fun z => (h.mp z) c)]; rfl
  · rw [decide_eq_false c, decide_eq_true (h.mpr c)]; rfl
theorem e_leV (hx : Val k x) (hy : Val k y) (h : Z (.bl (!ltD y x))) : vLe x y Z := by
  cases k with
  | num =>
    obtain ⟨i, rfl, _⟩ := hx; obtain ⟨j, rfl, _⟩ := hy
    have e : decide (i ≤ j) = !decide (j < i) := dec_not (by omega)
    show Z (.bl (decide (i ≤ j)))
    rw [e]; exact h
  | txt => obtain ⟨i, rfl, _⟩ := hx; obtain ⟨j, rfl, _⟩ := hy; exact h
theorem e_geV (hx : Val k x) (hy : Val k y) (h : Z (.bl (!ltD x y))) : vGe x y Z := by
  cases k with
  | num =>
    obtain ⟨i, rfl, _⟩ := hx; obtain ⟨j, rfl, _⟩ := hy
    have e : decide (j ≤ i) = !decide (i < j) := dec_not (by omega)
    show Z (.bl (decide (j ≤ i)))
    rw [e]; exact h
  | txt => obtain ⟨i, rfl, _⟩ := hx; obtain ⟨j, rfl, _⟩ := hy; exact h
theorem e_eqV (hx : Val k x) (hy : Val k y) (h : Z (.bl (eqDD x y))) : vEqC x y Z := by
  cases k with
  | num => obtain ⟨i, rfl, _⟩ := hx; obtain ⟨j, rfl, _⟩ := hy; exact e_eqI h
  | txt => obtain ⟨i, rfl, _⟩ := hx; obtain ⟨j, rfl, _⟩ := hy; exact e_eqS h
theorem e_neV (hx : Val k x) (hy : Val k y) (h : Z (.bl (!eqDD x y))) : vNeC x y Z := by
  cases k with
  | num => obtain ⟨i, rfl, _⟩ := hx; obtain ⟨j, rfl, _⟩ := hy; exact e_neI h
  | txt => obtain ⟨i, rfl, _⟩ := hx; obtain ⟨j, rfl, _⟩ := hy; exact e_neS h
theorem val_nn (h : Val k x) : x.isN = false := by
  cases k with
  | num => obtain ⟨i, rfl, _⟩ := h; rfl
  | txt => obtain ⟨i, rfl, _⟩ := h; rfl
theorem e_kT (h : Z (.bl k.isT)) : vEqC (kdD k) (.str "text") Z := by
  cases k with
  | num => exact e_eqS (by rw [decide_eq_false (by decide +kernel)]; exact h)
  | txt => exact e_eqS (by rw [decide_eq_true rfl]; exact h)
theorem e_kN (h : Z (.bl (!k.isT))) : vEqC (kdD k) (.str "number") Z := by
  cases k with
  | num => exact e_eqS (by rw [decide_eq_true rfl]; exact h)
  | txt => exact e_eqS (by rw [decide_eq_false (by decide +kernel)]; exact h)
end
/-! the least and the greatest -/
def lessD (a b : D) : D := if ltD b a = true then b else a
def moreD (a b : D) : D := if ltD a b = true then b else a
def minC : List D → D
  | [] => .non
  | x :: r => r.foldl lessD x
def maxC : List D → D
  | [] => .non
  | x :: r => r.foldl moreD x
def IsMin (l : List D) (m : D) : Prop := m ∈ l ∧ ∀ y ∈ l, ltD y m = false
def IsMax (l : List D) (m : D) : Prop := m ∈ l ∧ ∀ y ∈ l, ltD m y = false
theorem isMin_eq {k : Kd} {l : List D} {m n : D} (hv : ∀ x ∈ l, Val k x) (a : IsMin l m) (b : IsMin l n) : m = n := ltD_tot (hv _ a.1) (hv _ b.1) (b.2 _ a.1) (a.2 _ b.1)
theorem isMax_eq {k : Kd} {l : List D} {m n : D} (hv : ∀ x ∈ l, Val k x) (a : IsMax l m) (b : IsMax l n) : m = n := ltD_tot (hv _ a.1) (hv _ b.1) (a.2 _ b.1) (b.2 _ a.1)
theorem min_is {k : Kd} : ∀ (r : List D) (x : D), (∀ y ∈ x :: r, Val k y) → IsMin (x :: r) (r.foldl lessD x)
  | [], x, hv => ⟨List.mem_cons_self, fun y hy => by rw [List.mem_singleton.mp hy]; exact ltD_ir x⟩
  | z :: r, x, hv => by
    have hx := hv x List.mem_cons_self
    have hz := hv z (List.mem_cons_of_mem _ List.mem_cons_self)
    show IsMin (x :: z :: r) (r.foldl lessD (lessD x z))
    have key : ∀ u : D, Val k u → u ∈ [x, z] → ltD x u = false → ltD z u = false → IsMin (x :: z :: r) (r.foldl lessD u) := fun u hu hm h1 h2 => by
      have ih := min_is r u (fun y hy => by
        rcases List.mem_cons.mp hy with rfl | hy
        · exact hu
        · exact hv y (List.mem_cons_of_mem _ (List.mem_cons_of_mem _ hy)))
      have hvm : Val k (r.foldl lessD u) := by
        rcases List.mem_cons.mp ih.1 with e | e
        · rw [e]; exact hu
        · exact hv _ (List.mem_cons_of_mem _ (List.mem_cons_of_mem _ e))
      refine ⟨?_, fun y hy => ?_⟩
      · rcases List.mem_cons.mp ih.1 with e | e
        · rw [e]
          rcases List.mem_cons.mp hm with rfl | hm
          · exact List.mem_cons_self
          · rw [List.mem_singleton.mp hm]; exact List.mem_cons_of_mem _ List.mem_cons_self
        · exact List.mem_cons_of_mem _ (List.mem_cons_of_mem _ e)
      · have hu' := ih.2 u List.mem_cons_self
        rcases List.mem_cons.mp hy with rfl | hy
        · exact ltD_le hvm hu hx hu' h1
        · rcases List.mem_cons.mp hy with rfl | hy
          · exact ltD_le hvm hu hz hu' h2
          · exact ih.2 y (List.mem_cons_of_mem _ hy)
    unfold lessD
    split
    · rename_i h
      exact key z hz (by simp) (ltD_as h) (ltD_ir z)
    · rename_i h
      exact key x hx (by simp) (ltD_ir x) (by simpa using h)
theorem max_is {k : Kd} : ∀ (r : List D) (x : D), (∀ y ∈ x :: r, Val k y) → IsMax (x :: r) (r.foldl moreD x)
  | [], x, hv => ⟨List.mem_cons_self, fun y hy => by rw [List.mem_singleton.mp hy]; exact ltD_ir x⟩
  | z :: r, x, hv => by
    have hx := hv x List.mem_cons_self
    have hz := hv z (List.mem_cons_of_mem _ List.mem_cons_self)
    show IsMax (x :: z :: r) (r.foldl moreD (moreD x z))
    have key : ∀ u : D, Val k u → u ∈ [x, z] → ltD u x = false → ltD u z = false → IsMax (x :: z :: r) (r.foldl moreD u) := fun u hu hm h1 h2 => by
      have ih := max_is r u (fun y hy => by
        rcases List.mem_cons.mp hy with rfl | hy
        · exact hu
        · exact hv y (List.mem_cons_of_mem _ (List.mem_cons_of_mem _ hy)))
      have hvm : Val k (r.foldl moreD u) := by
        rcases List.mem_cons.mp ih.1 with e | e
        · rw [e]; exact hu
        · exact hv _ (List.mem_cons_of_mem _ (List.mem_cons_of_mem _ e))
      refine ⟨?_, fun y hy => ?_⟩
      · rcases List.mem_cons.mp ih.1 with e | e
        · rw [e]
          rcases List.mem_cons.mp hm with rfl | hm
          · exact List.mem_cons_self
          · rw [List.mem_singleton.mp hm]; exact List.mem_cons_of_mem _ List.mem_cons_self
        · exact List.mem_cons_of_mem _ (List.mem_cons_of_mem _ e)
      · have hu' := ih.2 u List.mem_cons_self
        rcases List.mem_cons.mp hy with rfl | hy
        · exact ltD_le hx hu hvm h1 hu'
        · rcases List.mem_cons.mp hy with rfl | hy
          · exact ltD_le hz hu hvm h2 hu'
          · exact ih.2 y (List.mem_cons_of_mem _ hy)
    unfold moreD
    split
    · rename_i h
      exact key z hz (by simp) (ltD_as h) (ltD_ir z)
    · rename_i h
      exact key x hx (by simp) (ltD_ir x) (by simpa using h)
theorem minC_is {k : Kd} {l : List D} (hv : ∀ x ∈ l, Val k x) (hn : l ≠ []) : IsMin l (minC l) := by
  cases l with
  | nil => exact absurd rfl hn
  | cons x r => exact min_is r x hv
theorem maxC_is {k : Kd} {l : List D} (hv : ∀ x ∈ l, Val k x) (hn : l ≠ []) : IsMax l (maxC l) := by
  cases l with
  | nil => exact absurd rfl hn
  | cons x r => exact max_is r x hv
/-! the values of one kind, as ints or texts -/
theorem vals_num : ∀ {l : List D}, (∀ x ∈ l, Val .num x) → ∃ ns : List Int, l = ns.map D.int
  | [], _ => ⟨[], rfl⟩
  | x :: r, h => by
    obtain ⟨z, rfl, _⟩ := h x List.mem_cons_self
    obtain ⟨ns, e⟩ := vals_num fun y hy => h y (List.mem_cons_of_mem _ hy)
    exact ⟨z :: ns, by rw [e]; rfl⟩
theorem vals_txt : ∀ {l : List D}, (∀ x ∈ l, Val .txt x) → ∃ ns : List Str, l = ns.map D.str
  | [], _ => ⟨[], rfl⟩
  | x :: r, h => by
    obtain ⟨z, rfl, _⟩ := h x List.mem_cons_self
    obtain ⟨ns, e⟩ := vals_txt fun y hy => h y (List.mem_cons_of_mem _ hy)
    exact ⟨z :: ns, by rw [e]; rfl⟩
section
variable {k : Kd} {l : List D} {Z : D → Prop}
theorem e_minD (hv : ∀ x ∈ l, Val k x) (h : Z (minC l)) : vMinD [.lst l] [.non] Z := by
  by_cases hn : l = []
  · subst hn; exact .inl ⟨rfl, rfl, h⟩
  · have hm := minC_is hv hn
    cases k with
    | num =>
      obtain ⟨ns, rfl⟩ := vals_num hv
      refine .inr (.inl ⟨ns, rfl, fun e => hn (by rw [e]; rfl), fun m hm' hy => ?_⟩)
      have : IsMin (ns.map D.int) (.int m) := ⟨List.mem_map_of_mem hm', fun y hy' => by
        obtain ⟨z, hz, rfl⟩ := List.mem_map.mp hy'
        exact decide_eq_false (Int.not_lt.mpr (hy z hz))⟩
      rw [isMin_eq hv this hm]; exact h
    | txt =>
      obtain ⟨ns, rfl⟩ := vals_txt hv
      refine .inr (.inr ⟨ns, rfl, fun e => hn (by rw [e]; rfl), fun m hm' hy => ?_⟩)
      have : IsMin (ns.map D.str) (.str m) := ⟨List.mem_map_of_mem hm', fun y hy' => by
        obtain ⟨z, hz, rfl⟩ := List.mem_map.mp hy'
        exact decide_eq_false (hy z hz)⟩
      rw [isMin_eq hv this hm]; exact h
theorem e_maxD (hv : ∀ x ∈ l, Val k x) (h : Z (maxC l)) : vMaxD [.lst l] [.non] Z := by
  by_cases hn : l = []
  · subst hn; exact .inl ⟨rfl, rfl, h⟩
  · have hm := maxC_is hv hn
    cases k with
    | num =>
      obtain ⟨ns, rfl⟩ := vals_num hv
      refine .inr (.inl ⟨ns, rfl, fun e => hn (by rw [e]; rfl), fun m hm' hy => ?_⟩)
      have : IsMax (ns.map D.int) (.int m) := ⟨List.mem_map_of_mem hm', fun y hy' => by
        obtain ⟨z, hz, rfl⟩ := List.mem_map.mp hy'
        exact decide_eq_false (Int.not_lt.mpr (hy z hz))⟩
      rw [isMax_eq hv this hm]; exact h
    | txt =>
      obtain ⟨ns, rfl⟩ := vals_txt hv
      refine .inr (.inr ⟨ns, rfl, fun e => hn (by rw [e]; rfl), fun m hm' hy => ?_⟩)
      have : IsMax (ns.map D.str) (.str m) := ⟨List.mem_map_of_mem hm', fun y hy' => by
        obtain ⟨z, hz, rfl⟩ := List.mem_map.mp hy'
        exact decide_eq_false (hy z hz)⟩
      rw [isMax_eq hv this hm]; exact h
/-- sorted: the least ahead, the greatest behind -/
theorem e_sortedV (hv : ∀ x ∈ l, Val k x) (h : ∀ l' : List D, l'.Perm l → l'.Pairwise (fun x y => ltD y x = false) → Z (.lst l')) : vSorted [.lst l] Z := by
  cases k with
  | num =>
    obtain ⟨ns, rfl⟩ := vals_num hv
    exact .inl ⟨ns, rfl, fun ns' p s => h _ (p.map _) (List.pairwise_map.mpr (s.imp fun {a b} q => decide_eq_false (Int.not_lt.mpr q)))⟩
  | txt =>
    obtain ⟨ns, rfl⟩ := vals_txt hv
    exact .inr ⟨ns, rfl, fun ns' p s => h _ (p.map _) (List.pairwise_map.mpr (s.imp fun {a b} q => decide_eq_false q))⟩
theorem sorted_ends {l' : List D} (hv : ∀ x ∈ l, Val k x) (p : l'.Perm l) (s : l'.Pairwise (fun x y => ltD y x = false)) (hn : l ≠ []) : L2.atI l' 0 = some (minC l) ∧ L2.atI l' (-1) = some (maxC l) := by
  have hn' : l' ≠ [] := fun e => hn (by rw [e] at p; exact List.eq_nil_of_length_eq_zero (by rw [← p.length_eq]; rfl))
  have hv' : ∀ x ∈ l', Val k x := fun x hx => hv x (p.mem_iff.mp hx)
  constructor
  · cases l' with
    | nil => exact absurd rfl hn'
    | cons x r =>
      have : IsMin l x := ⟨p.mem_iff.mp List.mem_cons_self, fun y hy => by
        rcases List.mem_cons.mp (p.mem_iff.mpr hy) with rfl | hy
        · exact ltD_ir y
        · exact (List.pairwise_cons.mp s).1 y hy⟩
      rw [isMin_eq hv (minC_is hv hn) this]
      exact atI_nat (j := 0) rfl
  · obtain ⟨r, x, rfl⟩ : ∃ r x, l' = r ++ [x] := ⟨l'.dropLast, l'.getLast hn', (List.dropLast_concat_getLast hn').symm⟩
    have : IsMax l x := ⟨p.mem_iff.mp (by simp), fun y hy => by
      rcases List.mem_append.mp (p.mem_iff.mpr hy) with hy | hy
      · exact (List.pairwise_append.mp s).2.2 y hy x List.mem_cons_self
      · rw [List.mem_singleton.mp hy]; exact ltD_ir x⟩
    rw [isMax_eq hv (maxC_is hv hn) this]
    unfold L2.atI ixN
    rw [if_neg (by decide), List.length_append, List.length_singleton, if_pos (by omega)]
    show (r ++ [x])[(-1 + ((r.length + 1 : Nat) : Int)).toNat]? = _
    rw [show (-1 + ((r.length + 1 : Nat) : Int)).toNat = r.length by omega, List.getElem?_append_right (Nat.le_refl _), Nat.sub_self]
    rfl
end
theorem e_ckw {f : List D → List D → (D → Prop) → Prop} {va vk : VA} {env : Env} {m : Mst} {P : D → Mst → Prop} (h : va env m fun xs m1 => vk env m1 fun zs m2 => f xs zs fun z => P z m2) : vCKw f va vk env m P := h
theorem gd_val {k : Kd} {c : D} {n : Nat} (hn : 1 ≤ n) (h : Val k c) : Gd n c := by
  cases k with
  | num => obtain ⟨i, rfl, _⟩ := h; exact gd_int hn
  | txt => obtain ⟨s, rfl, hs⟩ := h; exact gd_isT hs hn
theorem gd_cell {k : Kd} {c : D} {n : Nat} (hn : 1 ≤ n) (h : CellK k c) : Gd n c := by
  rcases h with rfl | h
  · exact gd_non hn
  · exact gd_val hn h
theorem gd_cells {k : Kd} {cs : List D} {n : Nat} (hn : 2 ≤ n) (hl : cs.length ≤ 16777216) (h : ∀ c ∈ cs, CellK k c) : Gd n (.lst cs) := by
  obtain ⟨n, rfl⟩ : ∃ j, n = j + 1 := ⟨n - 1, by omega⟩
  exact gd_lst hl fun c hc => gd_cell (by omega) (h c hc)
theorem val_im {k : Kd} {c : D} (h : Val k c) : D.Im c := by
  cases k with
  | num => obtain ⟨i, rfl, _⟩ := h; exact .int i
  | txt => obtain ⟨i, rfl, _⟩ := h; exact .str i
theorem cell_im {k : Kd} {c : D} (h : CellK k c) : D.Im c := by
  rcases h with rfl | h
  · exact .non
  · exact val_im h
end Ps

/-! Vd2: cells, tests drawn. -/
namespace Ps
open PySem PySem.Spec PyProof.Rows L2
local macro_rules | `(tactic| walk_at "v1") => `(tactic| first
  | ((with_reducible refine' e_var ?hx ?_); (case hx => exact rfl))
  | (with_reducible refine e_seqAsg ?_)
  | (with_reducible refine e_seqDrop ?_)
  | (with_reducible refine e_seqAug ?_)
  | (with_reducible refine e_seqApp ?_)
  | (with_reducible refine e_seqMut ?_)
  | (with_reducible refine e_seqPut ?_)
  | (with_reducible refine e_seqPar ?_)
  | (with_reducible refine e_seqFor ?_)
  | (with_reducible refine e_seqWhile ?_)
  | (with_reducible refine e_seqNext ?_)
  | (with_reducible refine e_seqSetF ?_)
  | (with_reducible refine e_seqAugF ?_)
  | (with_reducible refine e_seqAppS ?_)
  | (with_reducible refine e_seqMutS ?_)
  | (with_reducible refine e_seqPutS ?_)
  | (with_reducible refine e_seqForB ?_)
  | (with_reducible refine e_seqAugS ?_)
  | (with_reducible refine e_seqSeq ?_)
  | (with_reducible refine e_asg ?_)
  | (with_reducible refine e_drop ?_)
  | (with_reducible refine e_ret ?_)
  | (with_reducible refine e_retN ?_)
  | (with_reducible refine e_if ?_)
  | (with_reducible refine e_next ?_)
  | (with_reducible refine e_brk ?_)
  | (with_reducible refine e_cont ?_)
  | (with_reducible refine e_gname ?_)
  | (with_reducible refine e_c ?_)
  | (with_reducible refine e_nil ?_)
  | (with_reducible refine e_cons ?_)
  | (with_reducible refine e_op ?_)
  | (with_reducible refine e_un ?_)
  | (with_reducible refine e_cb ?_)
  | (with_reducible refine e_bm ?_)
  | (with_reducible refine e_bm0 ?_)
  | (with_reducible refine e_tyS ?_)
  | (with_reducible refine e_tyL ?_)
  | (with_reducible refine e_tyD ?_)
  | (with_reducible refine e_lst ?_)
  | (with_reducible refine e_tup ?_)
  | (with_reducible refine e_andV ?_)
  | (with_reducible refine e_orV ?_)
  | (with_reducible refine e_notV ?_)
  | (with_reducible refine e_blE ?_)
  | (with_reducible refine e_chain ?_)
  | (with_reducible refine e_test ?_)
  | (with_reducible refine e_and ?_)
  | (with_reducible refine e_or ?_)
  | (with_reducible refine e_not ?_)
  | (with_reducible refine e_yes ?_)
  | (with_reducible refine e_call ?_)
  | (with_reducible refine e_callS ?_)
  | (with_reducible refine e_callB ?_)
  | (with_reducible refine e_callBS ?_)
  | (with_reducible refine e_frB ?_)
  | (with_reducible refine e_frI ?_)
  | (with_reducible refine e_opL ?_)
  | (with_reducible refine e_unL ?_)
  | (with_reducible refine e_cbL ?_)
  | (with_reducible refine e_bmL ?_)
  | (with_reducible refine e_bm0L ?_)
  | (with_reducible refine e_truLk ?_)
  | (with_reducible refine e_slL ?_)
  | (with_reducible refine e_fld ?_)
  | (with_reducible refine e_setF ?_)
  | (with_reducible refine e_augF ?_)
  | (with_reducible refine e_meth ?_)
  | (with_reducible refine e_make ?_)
  | (with_reducible refine e_appS ?_)
  | (with_reducible refine e_mutS ?_)
  | (with_reducible refine e_putS ?_)
  | (with_reducible refine e_box ?_)
  | (with_reducible refine e_boxL ?_)
  | (with_reducible refine e_boxDi ?_)
  | (with_reducible refine e_seqB ?_)
  | (with_reducible refine e_enumB ?_)
  | (with_reducible refine e_revB ?_)
  | (with_reducible refine e_zipB ?_)
  | (with_reducible refine e_lcB ?_)
  | (with_reducible refine e_forB ?_)
  | (with_reducible refine e_popS ?_)
  | (with_reducible refine e_dpopS ?_)
  | (with_reducible refine e_get2 ?_)
  | (with_reducible refine e_addII ?_)
  | (with_reducible refine e_subII ?_)
  | (with_reducible refine e_sc ?_)
  | (with_reducible refine e_scI ?_)
  | (with_reducible refine e_sl ?_)
  | (with_reducible refine e_nopart ?_)
  | (with_reducible refine e_callE ?_)
  | (with_reducible refine e_isiT ?_)
  | (with_reducible refine e_fldX ?_)
  | (with_reducible refine e_tryK ?_)
  | (with_reducible refine e_kT ?_)
  | (with_reducible refine e_kN ?_)
  | (with_reducible refine e_ckw ?_)
  | (with_reducible refine e_max2 ?_)
  | (with_reducible refine e_min2 ?_)
  | (with_reducible refine e_part ?_)
  | (with_reducible refine e_intE ?_)
  | (with_reducible refine e_dnew ?_)
  | (with_reducible refine e_rz1 ?_)
  | (with_reducible refine e_rz0 ?_)
  | (with_reducible refine e_par ?_)
  | (with_reducible refine e_put ?_)
  | (with_reducible refine e_addI ?_)
  | (with_reducible refine e_subI ?_)
  | (with_reducible refine e_negI ?_)
  | (with_reducible refine e_eqI ?_)
  | (with_reducible refine e_eqS ?_)
  | (with_reducible refine e_eqB ?_)
  | (with_reducible refine e_neI ?_)
  | (with_reducible refine e_neS ?_)
  | (with_reducible refine e_neB ?_)
  | (with_reducible refine e_ltI ?_)
  | (with_reducible refine e_leI ?_)
  | (with_reducible refine e_gtI ?_)
  | (with_reducible refine e_geI ?_)
  | (with_reducible refine e_ipaI ?_)
  | (with_reducible refine e_lenL ?_)
  | (with_reducible refine e_lenT ?_)
  | (with_reducible refine e_lenD ?_)
  | (with_reducible refine e_listL ?_)
  | (with_reducible refine e_listT ?_)
  | (with_reducible refine e_tupL ?_)
  | (with_reducible refine e_tupT ?_)
  | (with_reducible refine e_intI ?_)
  | (with_reducible refine e_intB ?_)
  | (with_reducible refine e_abs ?_)
  | (with_reducible refine e_cutL ?_)
  | (with_reducible refine e_cutT ?_)
  | (with_reducible refine e_revm ?_)
  | (with_reducible refine e_clrm ?_)
  | (with_reducible refine e_gcons ?_)
  | (with_reducible refine e_gnil ?_)
  | (with_reducible refine e_seqv ?_)
  | (with_reducible refine e_itL ?_)
  | (with_reducible refine e_itT ?_)
  | (with_reducible refine e_itS ?_)
  | (with_reducible refine e_rg1 ?_)
  | (with_reducible refine e_rg2 ?_)
  | (with_reducible refine e_itZL ?_)
  | (with_reducible refine e_itZT ?_)
  | (with_reducible refine e_itEL ?_)
  | (with_reducible refine e_itET ?_)
  | (with_reducible refine e_itES ?_)
  | (with_reducible refine e_itVL ?_)
  | (with_reducible refine e_itVT ?_)
  | (with_reducible refine e_tru ?_)
  | (with_reducible refine e_truB ?_)
  | (with_reducible refine e_truN ?_)
  | (with_reducible refine e_truI ?_)
  | (with_reducible refine e_truL ?_)
  | (with_reducible refine e_truT ?_)
  | (with_reducible refine e_isNn ?_)
  | (with_reducible refine e_isNi ?_)
  | (with_reducible refine e_isNs ?_)
  | (with_reducible refine e_isNl ?_)
  | (with_reducible refine e_isNt ?_)
  | (with_reducible refine e_isNb ?_)
  | (with_reducible refine e_ntNn ?_)
  | (with_reducible refine e_ntNi ?_)
  | (with_reducible refine e_ntNs ?_)
  | (with_reducible refine e_ntNl ?_)
  | (with_reducible refine e_ntNt ?_)
  | (with_reducible refine e_rng1 ?_)
  | (with_reducible refine e_rng2 ?_)
  | (with_reducible refine e_zip ?_)
  | (with_reducible refine e_enum ?_)
  | (with_reducible refine e_rev ?_)
  | (with_reducible refine e_for ?_)
  | (with_reducible refine e_lc ?_)
  | (with_reducible refine w_ifT ?_)
  | (with_reducible refine w_ifF ?_)
  | (with_reducible refine w_ifNF ?_)
  | (with_reducible refine w_ifNT ?_)
  | ((with_reducible refine' e_aug ?hx ?_); (case hx => exact rfl))
  | ((with_reducible refine' e_app ?hx ?_); (case hx => exact rfl))
  | ((with_reducible refine' e_mut ?hx ?_); (case hx => exact rfl))
  | ((with_reducible refine' e_len ?hx ?_); (case hx => exact rfl))
  | ((with_reducible refine' e_gtup ?hx ?_); (case hx => exact rfl))
  | ((with_reducible refine' e_gtupU ?hx ?_); (case hx => exact rfl))
  | ((with_reducible refine' e_gtupL ?hx ?_); (case hx => exact rfl))
  | ((with_reducible refine' e_isi (b := true) ?hx ?hy ?_); (case hx => exact rfl); (case hy => first | exact rfl | decide))
  | ((with_reducible refine' e_isi (b := false) ?hx ?hy ?_); (case hx => exact rfl); (case hy => first | exact rfl | decide))
  | ((with_reducible refine' e_modI ?hx ?_); (case hx => decide))
  | ((with_reducible refine' e_divI ?hx ?_); (case hx => exact .inl ⟨by decide, by decide⟩))
  | ((with_reducible refine' e_mulI ?hx ?_); (case hx => first | exact .inl (.inr ⟨by decide, by decide⟩) | exact .inl (.inl ⟨by decide, by decide⟩)))
  | ((with_reducible refine' e_ipmI ?hx ?_); (case hx => first | exact .inl (.inr ⟨by decide, by decide⟩) | exact .inl (.inl ⟨by decide, by decide⟩)))
  | (with_reducible refine e_isN ?_) | (with_reducible refine e_notN ?_))
local macro_rules | `(tactic| walk_at "vv") => `(tactic| repeat (walk_at "v1"))
local macro_rules | `(tactic| walk_at "vi") => `(tactic| ((with_reducible refine e_seq ?_); repeat (walk_at "v1")))
local macro_rules | `(tactic| walk_at "ve") => `(tactic| ((with_reducible refine e_ifE ?_); repeat (walk_at "v1")))
/- _law_cells: 0 _law_state, 1 _law_kind_here, 2 _law_many, 3 _law_way, 4 _law_open_in, 5 _law_turn, 6 _law_some, 7 _law_step, 8 _law_cells_here, 9 _law_place, 10 _law_cell -/
def t_cells (K : PySem.W.Frag) (s_take_ : Sp) (s_text_ : Sp) (s_number_ : Sp) : TS :=
      (tSeq (tAsg (tCall s_take_ [] E0 (tCons (tVar 0) (tCons (tC (.int 5)) tNil))) (gName 3))
      (tSeq (tAsg (tOp (rIxU K) (tLst (tCons (tC (.int 0)) (tCons (tC (.int 4)) (tCons (tC (.int 9)) tNil)))) (tCall s_take_ [] E0 (tCons (tVar 0) (tCons (tC (.int 3)) tNil)))) (gName 4))
      (tSeq (tAsg (tLc (iRng1 (tCons (tOp (rAddU K) (tC (.int 1)) (tCall s_take_ [] E0 (tCons (tVar 0) (tCons (tC (.int 8)) tNil)))) tNil)) (gName 5) tYes (tIf (tTest (tOp (rEqU K) (tVar 1) (tC (.str ("text" : Str))))) (tCall s_text_ [] E0 (tCons (tVar 0) tNil)) (tCall s_number_ [] E0 (tCons (tVar 0) tNil))) [5]) (gName 6))
      (tSeq (tAsg (tOp (rIxU K) (tLst (tCons (tOp (rSubU) (tCall s_take_ [] E0 (tCons (tVar 0) (tCons (tC (.int 9)) tNil))) (tC (.int 4))) (tCons (tCall s_take_ [] E0 (tCons (tVar 0) (tCons (tOp (rPowU) (tC (.int 10)) (tC (.int 6))) tNil))) tNil))) (tCall s_take_ [] E0 (tCons (tVar 0) (tCons (tC (.int 2)) tNil)))) (gName 7))
      (tSeq (tAsg (tLst tNil) (gName 8))
      (tSeq (tFor (iRng1 (tCons (tVar 2) tNil)) (gName 9)
      (tSeq (tAsg (tOp (rIxU K) (tVar 6) (tCall s_take_ [] E0 (tCons (tVar 0) (tCons (tCB (rLenU K) (tCons (tVar 6) tNil)) tNil)))) (gName 10))
      (tSeq (tIfS (tAnd (tTest (tOp (rEqU K) (tVar 3) (tC (.int 1)))) (tAnd (tTest (tOp (rGtV) (tVar 9) (tC (.int 0)))) (tTest (tOp (rGtV) (tCall s_take_ [] E0 (tCons (tVar 0) (tCons (tC (.int 5)) tNil))) (tC (.int 0))))))
      (tAsg (tOp (rIxU K) (tVar 8) (tUn rNeg (tC (.int 1)))) (gName 10))
      (tIfS (tAnd (tTest (tOp (rEqU K) (tVar 3) (tC (.int 2)))) (tTest (tOp (rEqU K) (tVar 1) (tC (.str ("number" : Str))))))
      (tAsg (tOp (rAddU K) (tOp (rModU) (tOp (rIxU K) (tVar 6) (tC (.int 0))) (tOp (rPowU) (tC (.int 10)) (tC (.int 12)))) (tOp (rMulT) (tVar 9) (tVar 7))) (gName 10))
      (tIfS (tAnd (tTest (tOp (rEqU K) (tVar 3) (tC (.int 3)))) (tTest (tOp (rEqU K) (tVar 1) (tC (.str ("number" : Str))))))
      (tAsg (tCall s_number_ [] E0 (tCons (tVar 0) tNil)) (gName 10))
      tNext)))
      (tSeq (tIfS (tAnd (tTest (tOp (rGtV) (tVar 4) (tC (.int 0)))) (tAnd (tTest (tOp (rNeU K) (tVar 3) (tC (.int 2)))) (tTest (tOp (rEqU K) (tCall s_take_ [] E0 (tCons (tVar 0) (tCons (tVar 4) tNil))) (tC (.int 0))))))
      (tAsg (tC .non) (gName 10))
      tNext)
      (tDrop (tBM K "list" (rAppend) (tVar 8) (tCons (tVar 10) tNil)))))))
      (tRet (tVar 8))))))))
abbrev N_cells : List Str := [("_law_state" : Str), ("_law_kind_here" : Str), ("_law_many" : Str), ("_law_way" : Str), ("_law_open_in" : Str), ("_law_turn" : Str), ("_law_some" : Str), ("_law_step" : Str), ("_law_cells_here" : Str), ("_law_place" : Str), ("_law_cell" : Str)]
def v_cells (K : PySem.W.Frag) (vs_take : VSp) (vs_text : VSp) (vs_number : VSp) : VS :=
      (vSeqS (vAsg (vCall vs_take (vCons (vVar 0) (vCons (vC (.int 5)) vNil))) (vgName 3))
      (vSeqS (vAsg (vOp vIx (vLst (vCons (vC (.int 0)) (vCons (vC (.int 4)) (vCons (vC (.int 9)) vNil)))) (vCall vs_take (vCons (vVar 0) (vCons (vC (.int 3)) vNil)))) (vgName 4))
      (vSeqS (vAsg (vLc (vRng1 (vCons (vOp vAdd (vC (.int 1)) (vCall vs_take (vCons (vVar 0) (vCons (vC (.int 8)) vNil)))) vNil)) (vgName 5) vYes (vIfE (vTest (vOp vEqC (vVar 1) (vC (.str ("text" : Str))))) (vCall vs_text (vCons (vVar 0) vNil)) (vCall vs_number (vCons (vVar 0) vNil))) [5]) (vgName 6))
      (vSeqS (vAsg (vOp vIx (vLst (vCons (vOp vSub (vCall vs_take (vCons (vVar 0) (vCons (vC (.int 9)) vNil))) (vC (.int 4))) (vCons (vCall vs_take (vCons (vVar 0) (vCons (vOp vPow (vC (.int 10)) (vC (.int 6))) vNil))) vNil))) (vCall vs_take (vCons (vVar 0) (vCons (vC (.int 2)) vNil)))) (vgName 7))
      (vSeqS (vAsg (vLst vNil) (vgName 8))
      (vSeqS (vFor [2, 5, 9, 10] (vRng1 (vCons (vVar 2) vNil)) (vgName 9)
      (vSeqS (vAsg (vOp vIx (vVar 6) (vCall vs_take (vCons (vVar 0) (vCons (vCB vLen (vCons (vVar 6) vNil)) vNil)))) (vgName 10))
      (vSeqS (vIf (vAnd (vTest (vOp vEqC (vVar 3) (vC (.int 1)))) (vAnd (vTest (vOp vGt (vVar 9) (vC (.int 0)))) (vTest (vOp vGt (vCall vs_take (vCons (vVar 0) (vCons (vC (.int 5)) vNil))) (vC (.int 0))))))
      (vAsg (vOp vIx (vVar 8) (vUn vNeg (vC (.int 1)))) (vgName 10))
      (vIf (vAnd (vTest (vOp vEqC (vVar 3) (vC (.int 2)))) (vTest (vOp vEqC (vVar 1) (vC (.str ("number" : Str))))))
      (vAsg (vOp vAdd (vOp vMod (vOp vIx (vVar 6) (vC (.int 0))) (vOp vPow (vC (.int 10)) (vC (.int 12)))) (vOp vMul (vVar 9) (vVar 7))) (vgName 10))
      (vIf (vAnd (vTest (vOp vEqC (vVar 3) (vC (.int 3)))) (vTest (vOp vEqC (vVar 1) (vC (.str ("number" : Str))))))
      (vAsg (vCall vs_number (vCons (vVar 0) vNil)) (vgName 10))
      vNext)))
      (vSeqS (vIf (vAnd (vTest (vOp vGt (vVar 4) (vC (.int 0)))) (vAnd (vTest (vOp vNeC (vVar 3) (vC (.int 2)))) (vTest (vOp vEqC (vCall vs_take (vCons (vVar 0) (vCons (vVar 4) vNil))) (vC (.int 0))))))
      (vAsg (vC .non) (vgName 10))
      vNext)
      (vApp 8 (vVar 10))))))
      (vRet (vVar 8))))))))
theorem sim_cells {K : PySem.W.Frag} {vs_take : VSp} {vs_text : VSp} {vs_number : VSp} {vsp : VSp} (hv : ∀ ds m P VX, vsp ds m P VX → ds.length = 3 ∧ v_cells K vs_take vs_text vs_number (vends P) (vstart N_cells.length ds) m) :
    ∀ us H Q E, spV K .O vsp us H Q E → t_cells K (spV K .O vs_take) (spV K .F vs_text) (spV K .O vs_number) { nx := fun _ H' => Q .non H', rt := Q } (L2.start N_cells us) H :=
  sim_def (n := 3) (t := .O) (N := N_cells) (Γn := [.F, .F, .F, .F, .F, .F, .F, .F, .F, .F, .F]) (Γb := []) (Γc := []) (ts := fun E => t_cells K (spV K .O vs_take) (spV K .F vs_text) (spV K .O vs_number)) (vs := fun VX => v_cells K vs_take vs_text vs_number) (by decide) (fun c W VX hK hx => by
    subst hK
    exact (x_seq (x_asgO (i := 3) (s_callO (g_cons (s_varF (by rfl)) (g_cons (SO.f s_int) g_nil))))
      (x_seq (x_asgF (i := 4) (s_opF o_ix (SO.b (s_lst (g_cons (SO.f s_int) (g_cons (SO.f s_int) (g_cons (SO.f s_int) g_nil))))) (SO.b (s_callO (g_cons (s_varF (by rfl)) (g_cons (SO.f s_int) g_nil))))))
      (x_seq (x_asgO (i := 6) (s_lc (vs := [5]) (i_rng1 (g_cons (SO.f (s_op o_add (SO.b s_int) (SO.b (s_callO (g_cons (s_varF (by rfl)) (g_cons (SO.f s_int) g_nil)))))) g_nil)) (by rfl) (tg_name (is := [5]) (by rfl) (by decide)) s_yes (s_ifF (s_test (SO.b (s_op o_eq (SF.b (s_varF (by rfl))) (SO.b s_str)))) (s_callF (g_cons (s_varF (by rfl)) g_nil)) (SO.f (s_callO (g_cons (s_varF (by rfl)) g_nil))))))
      (x_seq (x_asgF (i := 7) (s_opF o_ix (SO.b (s_lst (g_cons (SO.f (s_op o_sub (SO.b (s_callO (g_cons (s_varF (by rfl)) (g_cons (SO.f s_int) g_nil)))) (SO.b s_int))) (g_cons (SO.f (s_callO (g_cons (s_varF (by rfl)) (g_cons (SO.f (s_op o_pow (SO.b s_int) (SO.b s_int))) g_nil)))) g_nil)))) (SO.b (s_callO (g_cons (s_varF (by rfl)) (g_cons (SO.f s_int) g_nil))))))
      (x_seq (x_asgO (i := 8) (s_lst g_nil))
      (x_seq (x_for (Γ' := [.F, .F, .F, .O, .F, .F, .O, .F, .O, .F, .F]) (ws := [2, 5, 9, 10]) (i_rng1 (g_cons (s_varF (by rfl)) g_nil)) (tg_name (is := [9]) (by rfl) (by decide))
      (x_seq (x_asgF (i := 10) (s_opF o_ix (s_varB (t := .O) (by rfl)) (SO.b (s_callO (g_cons (s_varF (by rfl)) (g_cons (SO.f (s_cb l_len (a_cons (s_varB (t := .O) (by rfl)) a_nil))) g_nil))))))
      (x_seq (x_if (Γn := [.F, .F, .F, .O, .F, .F, .O, .F, .O, .F, .F]) (s_and (s_test (SO.b (s_op o_eq (s_varB (t := .O) (by rfl)) (SO.b s_int)))) (s_and (s_test (SO.b (s_op o_gt (SF.b (s_varF (by rfl))) (SO.b s_int)))) (s_test (SO.b (s_op o_gt (SO.b (s_callO (g_cons (s_varF (by rfl)) (g_cons (SO.f s_int) g_nil)))) (SO.b s_int))))))
      (x_asgF (i := 10) (s_opF o_ix (s_varB (t := .O) (by rfl)) (SO.b (s_un o_neg (SO.b s_int)))))
      (x_if (Γn := [.F, .F, .F, .O, .F, .F, .O, .F, .O, .F, .F]) (s_and (s_test (SO.b (s_op o_eq (s_varB (t := .O) (by rfl)) (SO.b s_int)))) (s_test (SO.b (s_op o_eq (SF.b (s_varF (by rfl))) (SO.b s_str)))))
      (x_post (Γ1 := [.F, .F, .F, .O, .F, .F, .O, .F, .O, .F, .O]) (Γn := [.F, .F, .F, .O, .F, .F, .O, .F, .O, .F, .F]) (x_asgO (i := 10) (s_op o_add (SO.b (s_op o_mod (SF.b (s_opF o_ix (s_varB (t := .O) (by rfl)) (SO.b s_int))) (SO.b (s_op o_pow (SO.b s_int) (SO.b s_int))))) (SO.b (s_op o_mul (SF.b (s_varF (by rfl))) (SF.b (s_varF (by rfl))))))))
      (x_if (Γn := [.F, .F, .F, .O, .F, .F, .O, .F, .O, .F, .F]) (s_and (s_test (SO.b (s_op o_eq (s_varB (t := .O) (by rfl)) (SO.b s_int)))) (s_test (SO.b (s_op o_eq (SF.b (s_varF (by rfl))) (SO.b s_str)))))
      (x_post (Γ1 := [.F, .F, .F, .O, .F, .F, .O, .F, .O, .F, .O]) (Γn := [.F, .F, .F, .O, .F, .F, .O, .F, .O, .F, .F]) (x_asgO (i := 10) (s_callO (g_cons (s_varF (by rfl)) g_nil))))
      x_next)))
      (x_seq (x_if (Γn := [.F, .F, .F, .O, .F, .F, .O, .F, .O, .F, .F]) (s_and (s_test (SO.b (s_op o_gt (SF.b (s_varF (by rfl))) (SO.b s_int)))) (s_and (s_test (SO.b (s_op o_ne (s_varB (t := .O) (by rfl)) (SO.b s_int)))) (s_test (SO.b (s_op o_eq (SO.b (s_callO (g_cons (s_varF (by rfl)) (g_cons (s_varF (by rfl)) g_nil)))) (SO.b s_int))))))
      (x_post (Γ1 := [.F, .F, .F, .O, .F, .F, .O, .F, .O, .F, .O]) (Γn := [.F, .F, .F, .O, .F, .F, .O, .F, .O, .F, .F]) (x_asgO (i := 10) s_non))
      x_next)
      (x_app (by rfl) (s_varF (by rfl)))))))
      (x_retV (by rfl))))))))) hv

/- _law_kind: 0 _law_state -/
def t_kind (K : PySem.W.Frag) (s_take_ : Sp) : TS :=
      (tRet (tOp (rIxU K) (tLst (tCons (tC (.str ("number" : Str))) (tCons (tC (.str ("text" : Str))) tNil))) (tOp (rDivU) (tCall s_take_ [] E0 (tCons (tVar 0) (tCons (tC (.int 3)) tNil))) (tC (.int 2)))))
abbrev N_kind : List Str := [("_law_state" : Str)]
def v_kind (K : PySem.W.Frag) (vs_take : VSp) : VS :=
      (vRet (vOp vIx (vLst (vCons (vC (.str ("number" : Str))) (vCons (vC (.str ("text" : Str))) vNil))) (vOp vDiv (vCall vs_take (vCons (vVar 0) (vCons (vC (.int 3)) vNil))) (vC (.int 2)))))
theorem sim_kind {K : PySem.W.Frag} {vs_take : VSp} {vsp : VSp} (hv : ∀ ds m P VX, vsp ds m P VX → ds.length = 1 ∧ v_kind K vs_take (vends P) (vstart N_kind.length ds) m) :
    ∀ us H Q E, spV K .F vsp us H Q E → t_kind K (spV K .O vs_take) { nx := fun _ H' => Q .non H', rt := Q } (L2.start N_kind us) H :=
  sim_def (n := 1) (t := .F) (N := N_kind) (Γn := [.F]) (Γb := []) (Γc := []) (ts := fun E => t_kind K (spV K .O vs_take)) (vs := fun VX => v_kind K vs_take) (by decide) (fun c W VX hK hx => by
    subst hK
    exact (x_retF (s_opF o_ix (SO.b (s_lst (g_cons (SO.f s_str) (g_cons (SO.f s_str) g_nil)))) (SO.b (s_op o_div (SO.b (s_callO (g_cons (s_varF (by rfl)) (g_cons (SO.f s_int) g_nil)))) (SO.b s_int)))))) hv

/- _law_near_cells: 0 _law_state, 1 _law_kind_here, 2 _law_many, 3 _law_first, 4 _law_texts, 5 _law_wide, 6 _law_begin_here, 7 _law_open_in, 8 _law_cells_here, 9 _law_k, 10 _law_turn, 11 _law_cell -/
def t_near_cells (K : PySem.W.Frag) (s_take_ : Sp) : TS :=
      (tSeq (tAsg (tOp (rIxU K) (tLst (tCons (tOp (rSubU) (tCall s_take_ [] E0 (tCons (tVar 0) (tCons (tC (.int 40)) tNil))) (tC (.int 20))) (tCons (tOp (rSubU) (tOp (rPowU) (tC (.int 10)) (tC (.int 18))) (tC (.int 4))) (tCons (tOp (rSubU) (tC (.int 4)) (tOp (rPowU) (tC (.int 10)) (tC (.int 18)))) (tCons (tC (.int 63)) tNil))))) (tCall s_take_ [] E0 (tCons (tVar 0) (tCons (tC (.int 4)) tNil)))) (gName 3))
      (tSeq (tAsg (tLst (tCons (tC (.str ("" : Str))) (tCons (tC (.str ("a" : Str))) (tCons (tC (.str ("aa" : Str))) (tCons (tC (.str ("ab" : Str))) (tCons (tC (.str ("b" : Str))) (tCons (tC (.str ("~" : Str))) (tCons (tC (.str (" " : Str))) (tCons (tC (.str ("Z" : Str))) tNil))))))))) (gName 4))
      (tSeq (tAsg (tOp (rIxU K) (tLst (tCons (tC (.int 1)) (tCons (tC (.int 1)) (tCons (tC (.int 2)) (tCons (tC (.int 3)) (tCons (tC (.int 8)) tNil)))))) (tCall s_take_ [] E0 (tCons (tVar 0) (tCons (tC (.int 5)) tNil)))) (gName 5))
      (tSeq (tAsg (tCall s_take_ [] E0 (tCons (tVar 0) (tCons (tC (.int 8)) tNil))) (gName 6))
      (tSeq (tAsg (tOp (rIxU K) (tLst (tCons (tC (.int 0)) (tCons (tC (.int 0)) (tCons (tC (.int 2)) (tCons (tC (.int 5)) (tCons (tC (.int 1)) tNil)))))) (tCall s_take_ [] E0 (tCons (tVar 0) (tCons (tC (.int 5)) tNil)))) (gName 7))
      (tSeq (tAsg (tLst tNil) (gName 8))
      (tSeq (tFor (iRng1 (tCons (tVar 2) tNil)) (gName 9)
      (tSeq (tAsg (tCall s_take_ [] E0 (tCons (tVar 0) (tCons (tVar 5) tNil))) (gName 10))
      (tSeq (tAsg (tOp (rIxU K) (tLst (tCons (tOp (rAddU K) (tVar 3) (tOp (rModU) (tVar 10) (tC (.int 4)))) (tCons (tOp (rIxU K) (tVar 4) (tOp (rModU) (tOp (rAddU K) (tVar 6) (tVar 10)) (tC (.int 8)))) tNil))) (tCB (rIntU) (tCons (tOp (rEqU K) (tVar 1) (tC (.str ("text" : Str)))) tNil))) (gName 11))
      (tSeq (tIfS (tAnd (tTest (tOp (rGtV) (tVar 7) (tC (.int 0)))) (tTest (tOp (rEqU K) (tCall s_take_ [] E0 (tCons (tVar 0) (tCons (tVar 7) tNil))) (tC (.int 0)))))
      (tAsg (tC .non) (gName 11))
      tNext)
      (tDrop (tBM K "list" (rAppend) (tVar 8) (tCons (tVar 11) tNil)))))))
      (tRet (tVar 8)))))))))
abbrev N_near_cells : List Str := [("_law_state" : Str), ("_law_kind_here" : Str), ("_law_many" : Str), ("_law_first" : Str), ("_law_texts" : Str), ("_law_wide" : Str), ("_law_begin_here" : Str), ("_law_open_in" : Str), ("_law_cells_here" : Str), ("_law_k" : Str), ("_law_turn" : Str), ("_law_cell" : Str)]
def v_near_cells (K : PySem.W.Frag) (vs_take : VSp) : VS :=
      (vSeqS (vAsg (vOp vIx (vLst (vCons (vOp vSub (vCall vs_take (vCons (vVar 0) (vCons (vC (.int 40)) vNil))) (vC (.int 20))) (vCons (vOp vSub (vOp vPow (vC (.int 10)) (vC (.int 18))) (vC (.int 4))) (vCons (vOp vSub (vC (.int 4)) (vOp vPow (vC (.int 10)) (vC (.int 18)))) (vCons (vC (.int 63)) vNil))))) (vCall vs_take (vCons (vVar 0) (vCons (vC (.int 4)) vNil)))) (vgName 3))
      (vSeqS (vAsg (vLst (vCons (vC (.str ("" : Str))) (vCons (vC (.str ("a" : Str))) (vCons (vC (.str ("aa" : Str))) (vCons (vC (.str ("ab" : Str))) (vCons (vC (.str ("b" : Str))) (vCons (vC (.str ("~" : Str))) (vCons (vC (.str (" " : Str))) (vCons (vC (.str ("Z" : Str))) vNil))))))))) (vgName 4))
      (vSeqS (vAsg (vOp vIx (vLst (vCons (vC (.int 1)) (vCons (vC (.int 1)) (vCons (vC (.int 2)) (vCons (vC (.int 3)) (vCons (vC (.int 8)) vNil)))))) (vCall vs_take (vCons (vVar 0) (vCons (vC (.int 5)) vNil)))) (vgName 5))
      (vSeqS (vAsg (vCall vs_take (vCons (vVar 0) (vCons (vC (.int 8)) vNil))) (vgName 6))
      (vSeqS (vAsg (vOp vIx (vLst (vCons (vC (.int 0)) (vCons (vC (.int 0)) (vCons (vC (.int 2)) (vCons (vC (.int 5)) (vCons (vC (.int 1)) vNil)))))) (vCall vs_take (vCons (vVar 0) (vCons (vC (.int 5)) vNil)))) (vgName 7))
      (vSeqS (vAsg (vLst vNil) (vgName 8))
      (vSeqS (vFor [2, 9, 10, 11] (vRng1 (vCons (vVar 2) vNil)) (vgName 9)
      (vSeqS (vAsg (vCall vs_take (vCons (vVar 0) (vCons (vVar 5) vNil))) (vgName 10))
      (vSeqS (vAsg (vOp vIx (vLst (vCons (vOp vAdd (vVar 3) (vOp vMod (vVar 10) (vC (.int 4)))) (vCons (vOp vIx (vVar 4) (vOp vMod (vOp vAdd (vVar 6) (vVar 10)) (vC (.int 8)))) vNil))) (vCB vInt (vCons (vOp vEqC (vVar 1) (vC (.str ("text" : Str)))) vNil))) (vgName 11))
      (vSeqS (vIf (vAnd (vTest (vOp vGt (vVar 7) (vC (.int 0)))) (vTest (vOp vEqC (vCall vs_take (vCons (vVar 0) (vCons (vVar 7) vNil))) (vC (.int 0)))))
      (vAsg (vC .non) (vgName 11))
      vNext)
      (vApp 8 (vVar 11))))))
      (vRet (vVar 8)))))))))
theorem sim_near_cells {K : PySem.W.Frag} {vs_take : VSp} {vsp : VSp} (hv : ∀ ds m P VX, vsp ds m P VX → ds.length = 3 ∧ v_near_cells K vs_take (vends P) (vstart N_near_cells.length ds) m) :
    ∀ us H Q E, spV K .O vsp us H Q E → t_near_cells K (spV K .O vs_take) { nx := fun _ H' => Q .non H', rt := Q } (L2.start N_near_cells us) H :=
  sim_def (n := 3) (t := .O) (N := N_near_cells) (Γn := [.F, .F, .F, .F, .F, .F, .F, .F, .F, .F, .F, .F]) (Γb := []) (Γc := []) (ts := fun E => t_near_cells K (spV K .O vs_take)) (vs := fun VX => v_near_cells K vs_take) (by decide) (fun c W VX hK hx => by
    subst hK
    exact (x_seq (x_asgF (i := 3) (s_opF o_ix (SO.b (s_lst (g_cons (SO.f (s_op o_sub (SO.b (s_callO (g_cons (s_varF (by rfl)) (g_cons (SO.f s_int) g_nil)))) (SO.b s_int))) (g_cons (SO.f (s_op o_sub (SO.b (s_op o_pow (SO.b s_int) (SO.b s_int))) (SO.b s_int))) (g_cons (SO.f (s_op o_sub (SO.b s_int) (SO.b (s_op o_pow (SO.b s_int) (SO.b s_int))))) (g_cons (SO.f s_int) g_nil)))))) (SO.b (s_callO (g_cons (s_varF (by rfl)) (g_cons (SO.f s_int) g_nil))))))
      (x_seq (x_asgO (i := 4) (s_lst (g_cons (SO.f s_str) (g_cons (SO.f s_str) (g_cons (SO.f s_str) (g_cons (SO.f s_str) (g_cons (SO.f s_str) (g_cons (SO.f s_str) (g_cons (SO.f s_str) (g_cons (SO.f s_str) g_nil))))))))))
      (x_seq (x_asgF (i := 5) (s_opF o_ix (SO.b (s_lst (g_cons (SO.f s_int) (g_cons (SO.f s_int) (g_cons (SO.f s_int) (g_cons (SO.f s_int) (g_cons (SO.f s_int) g_nil))))))) (SO.b (s_callO (g_cons (s_varF (by rfl)) (g_cons (SO.f s_int) g_nil))))))
      (x_seq (x_asgO (i := 6) (s_callO (g_cons (s_varF (by rfl)) (g_cons (SO.f s_int) g_nil))))
      (x_seq (x_asgF (i := 7) (s_opF o_ix (SO.b (s_lst (g_cons (SO.f s_int) (g_cons (SO.f s_int) (g_cons (SO.f s_int) (g_cons (SO.f s_int) (g_cons (SO.f s_int) g_nil))))))) (SO.b (s_callO (g_cons (s_varF (by rfl)) (g_cons (SO.f s_int) g_nil))))))
      (x_seq (x_asgO (i := 8) (s_lst g_nil))
      (x_seq (x_for (Γ' := [.F, .F, .F, .F, .O, .F, .O, .F, .O, .F, .F, .F]) (ws := [2, 9, 10, 11]) (i_rng1 (g_cons (s_varF (by rfl)) g_nil)) (tg_name (is := [9]) (by rfl) (by decide))
      (x_post (Γ1 := [.F, .F, .F, .F, .O, .F, .O, .F, .O, .F, .O, .F]) (Γn := [.F, .F, .F, .F, .O, .F, .O, .F, .O, .F, .F, .F]) (x_seq (x_asgO (i := 10) (s_callO (g_cons (s_varF (by rfl)) (g_cons (s_varF (by rfl)) g_nil))))
      (x_seq (x_asgF (i := 11) (s_opF o_ix (SO.b (s_lst (g_cons (SO.f (s_op o_add (SF.b (s_varF (by rfl))) (SO.b (s_op o_mod (s_varB (t := .O) (by rfl)) (SO.b s_int))))) (g_cons (s_opF o_ix (s_varB (t := .O) (by rfl)) (SO.b (s_op o_mod (SO.b (s_op o_add (s_varB (t := .O) (by rfl)) (s_varB (t := .O) (by rfl)))) (SO.b s_int)))) g_nil)))) (SO.b (s_cb l_int (a_cons (SO.b (s_op o_eq (SF.b (s_varF (by rfl))) (SO.b s_str))) a_nil)))))
      (x_seq (x_if (Γn := [.F, .F, .F, .F, .O, .F, .O, .F, .O, .F, .O, .F]) (s_and (s_test (SO.b (s_op o_gt (SF.b (s_varF (by rfl))) (SO.b s_int)))) (s_test (SO.b (s_op o_eq (SO.b (s_callO (g_cons (s_varF (by rfl)) (g_cons (s_varF (by rfl)) g_nil)))) (SO.b s_int)))))
      (x_post (Γ1 := [.F, .F, .F, .F, .O, .F, .O, .F, .O, .F, .O, .O]) (Γn := [.F, .F, .F, .F, .O, .F, .O, .F, .O, .F, .O, .F]) (x_asgO (i := 11) s_non))
      x_next)
      (x_app (by rfl) (s_varF (by rfl))))))))
      (x_retV (by rfl)))))))))) hv

/- _law_some_cells: 0 _law_state, 1 _law_kind_here, 2 _law_many -/
def t_some_cells (K : PySem.W.Frag) (s_take_ : Sp) (s_cells_ : Sp) (s_near_cells_ : Sp) : TS :=
      (tSeq (tIfS (tTest (tOp (rEqU K) (tCall s_take_ [] E0 (tCons (tVar 0) (tCons (tC (.int 2)) tNil))) (tC (.int 0))))
      (tRet (tCall s_cells_ [] E0 (tCons (tVar 0) (tCons (tVar 1) (tCons (tVar 2) tNil)))))
      tNext)
      (tRet (tCall s_near_cells_ [] E0 (tCons (tVar 0) (tCons (tVar 1) (tCons (tVar 2) tNil))))))
abbrev N_some_cells : List Str := [("_law_state" : Str), ("_law_kind_here" : Str), ("_law_many" : Str)]
def v_some_cells (K : PySem.W.Frag) (vs_take : VSp) (vs_cells : VSp) (vs_near_cells : VSp) : VS :=
      (vSeqS (vIf (vTest (vOp vEqC (vCall vs_take (vCons (vVar 0) (vCons (vC (.int 2)) vNil))) (vC (.int 0))))
      (vRet (vCall vs_cells (vCons (vVar 0) (vCons (vVar 1) (vCons (vVar 2) vNil)))))
      vNext)
      (vRet (vCall vs_near_cells (vCons (vVar 0) (vCons (vVar 1) (vCons (vVar 2) vNil))))))
theorem sim_some_cells {K : PySem.W.Frag} {vs_take : VSp} {vs_cells : VSp} {vs_near_cells : VSp} {vsp : VSp} (hv : ∀ ds m P VX, vsp ds m P VX → ds.length = 3 ∧ v_some_cells K vs_take vs_cells vs_near_cells (vends P) (vstart N_some_cells.length ds) m) :
    ∀ us H Q E, spV K .O vsp us H Q E → t_some_cells K (spV K .O vs_take) (spV K .O vs_cells) (spV K .O vs_near_cells) { nx := fun _ H' => Q .non H', rt := Q } (L2.start N_some_cells us) H :=
  sim_def (n := 3) (t := .O) (N := N_some_cells) (Γn := [.F, .F, .F]) (Γb := []) (Γc := []) (ts := fun E => t_some_cells K (spV K .O vs_take) (spV K .O vs_cells) (spV K .O vs_near_cells)) (vs := fun VX => v_some_cells K vs_take vs_cells vs_near_cells) (by decide) (fun c W VX hK hx => by
    subst hK
    exact (x_seq (x_if (Γn := [.F, .F, .F]) (s_test (SO.b (s_op o_eq (SO.b (s_callO (g_cons (s_varF (by rfl)) (g_cons (SO.f s_int) g_nil)))) (SO.b s_int))))
      (x_retO (s_callO (g_cons (s_varF (by rfl)) (g_cons (s_varF (by rfl)) (g_cons (s_varF (by rfl)) g_nil)))))
      x_next)
      (x_retO (s_callO (g_cons (s_varF (by rfl)) (g_cons (s_varF (by rfl)) (g_cons (s_varF (by rfl)) g_nil))))))) hv

/- _law_value: 0 _law_state, 1 _law_kind_here, 2 _law_cells_here, 3 _law_cell, 4 _law_known, 5 _law_way, 6 _law_number_here -/
def t_value (K : PySem.W.Frag) (s_take_ : Sp) (s_text_ : Sp) (s_number_ : Sp) : TS :=
      (tSeq (tAsg (tLc (iSeqV K (tVar 2)) (gName 3) (tTest (tOp (rNotN) (tVar 3) (tC .non))) (tVar 3) [3]) (gName 4))
      (tSeq (tAsg (tCall s_take_ [] E0 (tCons (tVar 0) (tCons (tC (.int 6)) tNil))) (gName 5))
      (tSeq (tIfS (tTest (tOp (rEqU K) (tVar 1) (tC (.str ("text" : Str)))))
      (tSeq (tIfS (tAnd (tTest (tOp (rLtU K) (tVar 5) (tC (.int 4)))) (tTest (tOp (rGtV) (tCB (rLenU K) (tCons (tVar 4) tNil)) (tC (.int 0)))))
      (tRet (tSl (rSlU K) (tOp (rAddU K) (tOp (rIxU K) (tVar 4) (tCall s_take_ [] E0 (tCons (tVar 0) (tCons (tCB (rLenU K) (tCons (tVar 4) tNil)) tNil)))) (tOp (rIxU K) (tLst (tCons (tC (.str ("" : Str))) (tCons (tC (.str ("" : Str))) (tCons (tC (.str (" " : Str))) (tCons (tC (.str ("a" : Str))) tNil))))) (tVar 5))) tNoPart (tPart (tC (.int 20)))))
      tNext)
      (tRet (tCall s_text_ [] E0 (tCons (tVar 0) tNil))))
      tNext)
      (tSeq (tIfS (tAnd (tTest (tOp (rLtU K) (tVar 5) (tC (.int 4)))) (tTest (tOp (rGtV) (tCB (rLenU K) (tCons (tVar 4) tNil)) (tC (.int 0)))))
      (tSeq (tAsg (tOp (rAddU K) (tOp (rIxU K) (tVar 4) (tCall s_take_ [] E0 (tCons (tVar 0) (tCons (tCB (rLenU K) (tCons (tVar 4) tNil)) tNil)))) (tOp (rIxU K) (tLst (tCons (tC (.int 0)) (tCons (tC (.int 0)) (tCons (tC (.int 1)) (tCons (tUn rNeg (tC (.int 1))) tNil))))) (tVar 5))) (gName 6))
      (tRet (tCB (rMin2) (tCons (tOp (rSubU) (tOp (rPowU) (tC (.int 10)) (tC (.int 18))) (tC (.int 1))) (tCons (tCB (rMax2) (tCons (tOp (rSubU) (tC (.int 1)) (tOp (rPowU) (tC (.int 10)) (tC (.int 18)))) (tCons (tVar 6) tNil))) tNil)))))
      tNext)
      (tRet (tCall s_number_ [] E0 (tCons (tVar 0) tNil)))))))
abbrev N_value : List Str := [("_law_state" : Str), ("_law_kind_here" : Str), ("_law_cells_here" : Str), ("_law_cell" : Str), ("_law_known" : Str), ("_law_way" : Str), ("_law_number_here" : Str)]
def v_value (K : PySem.W.Frag) (vs_take : VSp) (vs_text : VSp) (vs_number : VSp) : VS :=
      (vSeqS (vAsg (vLc (vSeq (vVar 2)) (vgName 3) (vTest (vOp vNotN (vVar 3) (vC .non))) (vVar 3) [3]) (vgName 4))
      (vSeqS (vAsg (vCall vs_take (vCons (vVar 0) (vCons (vC (.int 6)) vNil))) (vgName 5))
      (vSeqS (vIf (vTest (vOp vEqC (vVar 1) (vC (.str ("text" : Str)))))
      (vSeqS (vIf (vAnd (vTest (vOp vLt (vVar 5) (vC (.int 4)))) (vTest (vOp vGt (vCB vLen (vCons (vVar 4) vNil)) (vC (.int 0)))))
      (vRet (vSl vCut (vOp vAdd (vOp vIx (vVar 4) (vCall vs_take (vCons (vVar 0) (vCons (vCB vLen (vCons (vVar 4) vNil)) vNil)))) (vOp vIx (vLst (vCons (vC (.str ("" : Str))) (vCons (vC (.str ("" : Str))) (vCons (vC (.str (" " : Str))) (vCons (vC (.str ("a" : Str))) vNil))))) (vVar 5))) vNoPart (vPart (vC (.int 20)))))
      vNext)
      (vRet (vCall vs_text (vCons (vVar 0) vNil))))
      vNext)
      (vSeqS (vIf (vAnd (vTest (vOp vLt (vVar 5) (vC (.int 4)))) (vTest (vOp vGt (vCB vLen (vCons (vVar 4) vNil)) (vC (.int 0)))))
      (vSeqS (vAsg (vOp vAdd (vOp vIx (vVar 4) (vCall vs_take (vCons (vVar 0) (vCons (vCB vLen (vCons (vVar 4) vNil)) vNil)))) (vOp vIx (vLst (vCons (vC (.int 0)) (vCons (vC (.int 0)) (vCons (vC (.int 1)) (vCons (vUn vNeg (vC (.int 1))) vNil))))) (vVar 5))) (vgName 6))
      (vRet (vCB vMin2 (vCons (vOp vSub (vOp vPow (vC (.int 10)) (vC (.int 18))) (vC (.int 1))) (vCons (vCB vMax2 (vCons (vOp vSub (vC (.int 1)) (vOp vPow (vC (.int 10)) (vC (.int 18)))) (vCons (vVar 6) vNil))) vNil)))))
      vNext)
      (vRet (vCall vs_number (vCons (vVar 0) vNil)))))))
theorem sim_value {K : PySem.W.Frag} {vs_take : VSp} {vs_text : VSp} {vs_number : VSp} {vsp : VSp} (hv : ∀ ds m P VX, vsp ds m P VX → ds.length = 3 ∧ v_value K vs_take vs_text vs_number (vends P) (vstart N_value.length ds) m) :
    ∀ us H Q E, spV K .F vsp us H Q E → t_value K (spV K .O vs_take) (spV K .F vs_text) (spV K .O vs_number) { nx := fun _ H' => Q .non H', rt := Q } (L2.start N_value us) H :=
  sim_def (n := 3) (t := .F) (N := N_value) (Γn := [.F, .F, .F, .F, .F, .F, .F]) (Γb := []) (Γc := []) (ts := fun E => t_value K (spV K .O vs_take) (spV K .F vs_text) (spV K .O vs_number)) (vs := fun VX => v_value K vs_take vs_text vs_number) (by decide) (fun c W VX hK hx => by
    subst hK
    exact (x_seq (x_asgO (i := 4) (s_lc (vs := [3]) (i_seq (s_varF (by rfl))) (by rfl) (tg_name (is := [3]) (by rfl) (by decide)) (s_test (SO.b (s_op o_notN (SF.b (s_varF (by rfl))) (SO.b s_non)))) (s_varF (by rfl))))
      (x_seq (x_asgO (i := 5) (s_callO (g_cons (s_varF (by rfl)) (g_cons (SO.f s_int) g_nil))))
      (x_seq (x_if (Γn := [.F, .F, .F, .F, .O, .O, .F]) (s_test (SO.b (s_op o_eq (SF.b (s_varF (by rfl))) (SO.b s_str))))
      (x_seq (x_if (Γn := [.F, .F, .F, .F, .O, .O, .F]) (s_and (s_test (SO.b (s_op o_lt (s_varB (t := .O) (by rfl)) (SO.b s_int)))) (s_test (SO.b (s_op o_gt (SO.b (s_cb l_len (a_cons (s_varB (t := .O) (by rfl)) a_nil))) (SO.b s_int)))))
      (x_retF (SO.f (s_sl o_cut (SO.b (s_op o_add (SF.b (s_opF o_ix (s_varB (t := .O) (by rfl)) (SO.b (s_callO (g_cons (s_varF (by rfl)) (g_cons (SO.f (s_cb l_len (a_cons (s_varB (t := .O) (by rfl)) a_nil))) g_nil)))))) (SF.b (s_opF o_ix (SO.b (s_lst (g_cons (SO.f s_str) (g_cons (SO.f s_str) (g_cons (SO.f s_str) (g_cons (SO.f s_str) g_nil)))))) (s_varB (t := .O) (by rfl)))))) s_nopart (s_part (SO.b s_int)))))
      x_next)
      (x_retF (s_callF (g_cons (s_varF (by rfl)) g_nil))))
      x_next)
      (x_seq (x_if (Γn := [.F, .F, .F, .F, .O, .O, .F]) (s_and (s_test (SO.b (s_op o_lt (s_varB (t := .O) (by rfl)) (SO.b s_int)))) (s_test (SO.b (s_op o_gt (SO.b (s_cb l_len (a_cons (s_varB (t := .O) (by rfl)) a_nil))) (SO.b s_int)))))
      (x_seq (x_asgO (i := 6) (s_op o_add (SF.b (s_opF o_ix (s_varB (t := .O) (by rfl)) (SO.b (s_callO (g_cons (s_varF (by rfl)) (g_cons (SO.f (s_cb l_len (a_cons (s_varB (t := .O) (by rfl)) a_nil))) g_nil)))))) (SF.b (s_opF o_ix (SO.b (s_lst (g_cons (SO.f s_int) (g_cons (SO.f s_int) (g_cons (SO.f s_int) (g_cons (SO.f (s_un o_neg (SO.b s_int))) g_nil)))))) (s_varB (t := .O) (by rfl))))))
      (x_retF (SO.f (s_cb l_min2 (a_cons (SO.b (s_op o_sub (SO.b (s_op o_pow (SO.b s_int) (SO.b s_int))) (SO.b s_int))) (a_cons (SO.b (s_cb l_max2 (a_cons (SO.b (s_op o_sub (SO.b s_int) (SO.b (s_op o_pow (SO.b s_int) (SO.b s_int))))) (a_cons (s_varB (t := .O) (by rfl)) a_nil)))) a_nil))))))
      x_next)
      (x_retF (SO.f (s_callO (g_cons (s_varF (by rfl)) g_nil))))))))) hv

/- _law_test: 0 _law_state, 1 _law_kind_here, 2 _law_cells_here, 3 _law_word, 4 _law_many, 5 _law_k -/
def t_test (K : PySem.W.Frag) (s_take_ : Sp) (s_value_ : Sp) : TS :=
      (tSeq (tAsg (tOp (rIxU K) (tLst (tCons (tC (.str ("=" : Str))) (tCons (tC (.str ("<>" : Str))) (tCons (tC (.str ("<" : Str))) (tCons (tC (.str ("<=" : Str))) (tCons (tC (.str (">" : Str))) (tCons (tC (.str (">=" : Str))) (tCons (tC (.str ("open" : Str))) (tCons (tC (.str ("among" : Str))) tNil))))))))) (tCall s_take_ [] E0 (tCons (tVar 0) (tCons (tC (.int 8)) tNil)))) (gName 3))
      (tSeq (tIfS (tTest (tOp (rEqU K) (tVar 3) (tC (.str ("open" : Str)))))
      (tRet (tTup (tCons (tC (.str ("open" : Str))) tNil)))
      tNext)
      (tSeq (tIfS (tTest (tOp (rEqU K) (tVar 3) (tC (.str ("among" : Str)))))
      (tSeq (tAsg (tOp (rIxU K) (tLst (tCons (tC (.int 0)) (tCons (tC (.int 1)) (tCons (tC (.int 2)) (tCons (tC (.int 4)) (tCons (tC (.int 9)) tNil)))))) (tCall s_take_ [] E0 (tCons (tVar 0) (tCons (tC (.int 5)) tNil)))) (gName 4))
      (tRet (tTup (tCons (tC (.str ("among" : Str))) (tCons (tLc (iRng1 (tCons (tVar 4) tNil)) (gName 5) tYes (tCall s_value_ [] E0 (tCons (tVar 0) (tCons (tVar 1) (tCons (tVar 2) tNil)))) [5]) tNil)))))
      tNext)
      (tRet (tTup (tCons (tVar 3) (tCons (tCall s_value_ [] E0 (tCons (tVar 0) (tCons (tVar 1) (tCons (tVar 2) tNil)))) tNil)))))))
abbrev N_test : List Str := [("_law_state" : Str), ("_law_kind_here" : Str), ("_law_cells_here" : Str), ("_law_word" : Str), ("_law_many" : Str), ("_law_k" : Str)]
def v_test (K : PySem.W.Frag) (vs_take : VSp) (vs_value : VSp) : VS :=
      (vSeqS (vAsg (vOp vIx (vLst (vCons (vC (.str ("=" : Str))) (vCons (vC (.str ("<>" : Str))) (vCons (vC (.str ("<" : Str))) (vCons (vC (.str ("<=" : Str))) (vCons (vC (.str (">" : Str))) (vCons (vC (.str (">=" : Str))) (vCons (vC (.str ("open" : Str))) (vCons (vC (.str ("among" : Str))) vNil))))))))) (vCall vs_take (vCons (vVar 0) (vCons (vC (.int 8)) vNil)))) (vgName 3))
      (vSeqS (vIf (vTest (vOp vEqC (vVar 3) (vC (.str ("open" : Str)))))
      (vRet (vTup (vCons (vC (.str ("open" : Str))) vNil)))
      vNext)
      (vSeqS (vIf (vTest (vOp vEqC (vVar 3) (vC (.str ("among" : Str)))))
      (vSeqS (vAsg (vOp vIx (vLst (vCons (vC (.int 0)) (vCons (vC (.int 1)) (vCons (vC (.int 2)) (vCons (vC (.int 4)) (vCons (vC (.int 9)) vNil)))))) (vCall vs_take (vCons (vVar 0) (vCons (vC (.int 5)) vNil)))) (vgName 4))
      (vRet (vTup (vCons (vC (.str ("among" : Str))) (vCons (vLc (vRng1 (vCons (vVar 4) vNil)) (vgName 5) vYes (vCall vs_value (vCons (vVar 0) (vCons (vVar 1) (vCons (vVar 2) vNil)))) [5]) vNil)))))
      vNext)
      (vRet (vTup (vCons (vVar 3) (vCons (vCall vs_value (vCons (vVar 0) (vCons (vVar 1) (vCons (vVar 2) vNil)))) vNil)))))))
theorem sim_test {K : PySem.W.Frag} {vs_take : VSp} {vs_value : VSp} {vsp : VSp} (hv : ∀ ds m P VX, vsp ds m P VX → ds.length = 3 ∧ v_test K vs_take vs_value (vends P) (vstart N_test.length ds) m) :
    ∀ us H Q E, spV K .O vsp us H Q E → t_test K (spV K .O vs_take) (spV K .F vs_value) { nx := fun _ H' => Q .non H', rt := Q } (L2.start N_test us) H :=
  sim_def (n := 3) (t := .O) (N := N_test) (Γn := [.F, .F, .F, .F, .F, .F]) (Γb := []) (Γc := []) (ts := fun E => t_test K (spV K .O vs_take) (spV K .F vs_value)) (vs := fun VX => v_test K vs_take vs_value) (by decide) (fun c W VX hK hx => by
    subst hK
    exact (x_seq (x_asgF (i := 3) (s_opF o_ix (SO.b (s_lst (g_cons (SO.f s_str) (g_cons (SO.f s_str) (g_cons (SO.f s_str) (g_cons (SO.f s_str) (g_cons (SO.f s_str) (g_cons (SO.f s_str) (g_cons (SO.f s_str) (g_cons (SO.f s_str) g_nil)))))))))) (SO.b (s_callO (g_cons (s_varF (by rfl)) (g_cons (SO.f s_int) g_nil))))))
      (x_seq (x_if (Γn := [.F, .F, .F, .F, .F, .F]) (s_test (SO.b (s_op o_eq (SF.b (s_varF (by rfl))) (SO.b s_str))))
      (x_retO (s_tup (g_cons (SO.f s_str) g_nil)))
      x_next)
      (x_seq (x_if (Γn := [.F, .F, .F, .F, .F, .F]) (s_test (SO.b (s_op o_eq (SF.b (s_varF (by rfl))) (SO.b s_str))))
      (x_seq (x_asgF (i := 4) (s_opF o_ix (SO.b (s_lst (g_cons (SO.f s_int) (g_cons (SO.f s_int) (g_cons (SO.f s_int) (g_cons (SO.f s_int) (g_cons (SO.f s_int) g_nil))))))) (SO.b (s_callO (g_cons (s_varF (by rfl)) (g_cons (SO.f s_int) g_nil))))))
      (x_retO (s_tup (g_cons (SO.f s_str) (g_cons (SO.f (s_lc (vs := [5]) (i_rng1 (g_cons (s_varF (by rfl)) g_nil)) (by rfl) (tg_name (is := [5]) (by rfl) (by decide)) s_yes (s_callF (g_cons (s_varF (by rfl)) (g_cons (s_varF (by rfl)) (g_cons (s_varF (by rfl)) g_nil)))))) g_nil)))))
      x_next)
      (x_retO (s_tup (g_cons (s_varF (by rfl)) (g_cons (s_callF (g_cons (s_varF (by rfl)) (g_cons (s_varF (by rfl)) (g_cons (s_varF (by rfl)) g_nil)))) g_nil)))))))) hv

def wKind : VSp := fun ds m P _ => ∃ (x : Addr) (r : Nat) (s0 : Sto), ds = [.adr x] ∧ m = (some (x, r), s0) ∧ 1 ≤ r ∧ ∀ (k : Kd) (r' : Nat), r ≤ r' + 1 → P (kdD k) ((some (x, r'), s0))
theorem p_kind {K : PySem.W.Frag} (ds : List D) (m : Mst) (P : D → Mst → Prop) (VX : XV) (h : wKind ds m P VX) : ds.length = 1 ∧ v_kind K vTake (vends P) (vstart N_kind.length ds) m := by
  obtain ⟨x, r, s0, rfl, rfl, hr, k⟩ := h
  refine ⟨rfl, ?_⟩
  unfold v_kind
  walk_at "vv"
  refine e_take (by omega) (by decide) (by decide) fun z1 r1 h1 h2 hr1 => ?_
  walk_at "vv"
  rcases (show z1 / 2 = 0 ∨ z1 / 2 = 1 by omega) with e | e
  · rw [e]
    exact e_ixL (x := kdD .num) rfl (k .num r1 (by omega))
  · rw [e]
    exact e_ixL (x := kdD .txt) rfl (k .txt r1 (by omega))
def wCells : VSp := fun ds m P _ => ∃ (x : Addr) (r : Nat) (s0 : Sto) (n : Nat) (k : Kd), ds = [.adr x, kdD k, .int n] ∧ n ≤ 10000 ∧ m = (some (x, r), s0) ∧ 300 + 12 * n ≤ r ∧ ∀ (cs : List D) (r' : Nat), cs.length = n → (∀ c ∈ cs, CellK k c) → r ≤ r' + (300 + 12 * n) → P (.lst cs) ((some (x, r'), s0))
theorem atI_last {α : Type} (l : List α) (x : α) : L2.atI (l ++ [x]) (-1) = some x := by
  unfold L2.atI ixN
  rw [if_neg (by decide), List.length_append, List.length_singleton, if_pos (by omega)]
  show (l ++ [x])[(-1 + ((l.length + 1 : Nat) : Int)).toNat]? = _
  rw [show (-1 + ((l.length + 1 : Nat) : Int)).toNat = l.length by omega, List.getElem?_append_right (Nat.le_refl _), Nat.sub_self]
  rfl
theorem val_num {z : Int} (h : z.natAbs < 2 ^ 100) : Val .num (.int z) := ⟨z, rfl, h⟩
theorem val_txt {z : Str} (h : IsT 20 z) : Val .txt (.str z) := by
  obtain ⟨ks, rfl, hl, hk⟩ := h
  exact ⟨_, rfl, ks, rfl, by omega, hk⟩
theorem val_any {K : PySem.W.Frag} {x : Addr} {r : Nat} {k : Kd} {env : Env} {P : D → Mst → Prop} (hr : 30 ≤ r) (he : env[0]? = some (some (.adr x))) (h : ∀ (d : D) (r' : Nat), Val k d → r ≤ r' + 30 → P d ((some (x, r'), s0))) :
    if k.isT = true then vCall wText (vCons (vVar 0) vNil) env ((some (x, r), s0)) P else vCall wNumber (vCons (vVar 0) vNil) env ((some (x, r), s0)) P := by
  cases k with
  | num => exact e_call (e_cons (e_var he (e_nil ⟨x, r, s0, rfl, rfl, by omega, fun n r' hn hr' => h _ r' (val_num (Nat.lt_trans hn (by decide))) (by omega)⟩)))
  | txt => exact e_call (e_cons (e_var he (e_nil ⟨x, r, s0, rfl, rfl, by omega, fun z r' hz hr' => h _ r' (val_txt hz) (by omega)⟩)))
theorem p_cells {K : PySem.W.Frag} (ds : List D) (m : Mst) (P : D → Mst → Prop) (VX : XV) (h : wCells ds m P VX) : ds.length = 3 ∧ v_cells K vTake wText wNumber (vends P) (vstart N_cells.length ds) m := by
  obtain ⟨x, r, s0, n, k, rfl, hn, rfl, hr, hP⟩ := h
  refine ⟨rfl, ?_⟩
  unfold v_cells
  walk_at "vv"
  refine e_take (by omega) (by decide) (by decide) fun way r1 h1 h2 hr1 => ?_
  walk_at "vv"
  refine e_take (by omega) (by decide) (by decide) fun z2 r2 h3 h4 hr2 => ?_
  obtain ⟨open_, hm, em⟩ := at_litD [(0 : Int), 4, 9] h3 h4
  refine e_ixL em ?_
  walk_at "vv"
  refine e_take (by omega) (by decide) (by decide) fun z3 r3 h5 h6 hr3 => ?_
  obtain ⟨l, rfl⟩ : ∃ l : Nat, z3 = (l : Int) := ⟨z3.toNat, by omega⟩
  walk_at "vv"
  rw [show (1 : Int) + (l : Int) = ((1 + l : Nat) : Int) by push_cast; rfl]
  refine e_itR (by omega) ?_
  refine ⟨fun i acc m' => i ≤ 1 + l ∧ acc.length = i ∧ (∀ c ∈ acc, Val k c) ∧ ∃ r', m' = (some (x, r'), s0) ∧ r3 ≤ r' + 30 * i, ⟨by omega, rfl, by simp, r3, rfl, by omega⟩, ?_, ?_⟩
  · rintro i acc m' d ⟨hi0, hl, hv, r4, rfl, hr4⟩ ed
    obtain ⟨hi, rfl⟩ := rangeD_at ed
    walk_at "vv"
    walk_at "ve"
    refine val_any (K := K) (by omega) rfl fun d r5 hd hr5 => ⟨sz_lt (by omega), by omega, by simp [hl], fun c hc => ?_, r5, rfl, by omega⟩
    rcases List.mem_append.mp hc with hc | hc
    · exact hv c hc
    · rw [List.mem_singleton.mp hc]; exact hd
  · rintro ss m' ⟨hi0, hsl, hv, r4, rfl, hr4⟩
    rw [rangeD_len] at hsl hr4
    walk_at "vv"
    refine e_take (by omega) (by decide) (by decide) fun z4 r5 h7 h8 hr5 => ?_
    walk_at "vv"
    refine e_powI ⟨by decide, by decide, by decide⟩ ?_
    rw [show (10 : Int) ^ (6 : Int).toNat = 1000000 from rfl]
    walk_at "vv"
    refine e_take (by omega) (by decide) (by decide) fun z5 r6 h9 h10 hr6 => ?_
    walk_at "vv"
    refine e_take (by omega) (by decide) (by decide) fun z6 r7 h11 h12 hr7 => ?_
    obtain ⟨step, hstep, estep⟩ := at_litD [z4 - 4, z5] h11 h12
    refine e_ixL estep ?_
    have hst : step.natAbs ≤ 1000000 := by simp at hstep; omega
    walk_at "vv"
    refine e_itR (by omega) ?_
    refine for_inv (fun i e m' => i ≤ n ∧ ∃ (acc : List D) (r' : Nat), e = [some (.adr x), some (kdD k), none, some (.int way), some (.int open_), none, some (.lst ss), some (.int step), some (.lst acc), none, none] ∧ acc.length = i ∧ (∀ c ∈ acc, CellK k c) ∧ m' = (some (x, r'), s0) ∧ r7 ≤ r' + 12 * i) ⟨by omega, [], r7, rfl, rfl, by simp, rfl, by omega⟩ ?_ ?_
    · rintro i e m' d hi ⟨_, acc, r8, rfl, hal, hac, rfl, hr8⟩ ed
      obtain ⟨hi, rfl⟩ := rangeD_at ed
      rw [Int.zero_add]
      walk_at "vv"
      refine e_take (by omega) (by omega) (by omega) fun z7 r9 h13 h14 hr9 => ?_
      obtain ⟨c0, hc0, ec0⟩ := atI_lt (l := ss) h13 h14
      refine e_ixL ec0 ?_
      have hv0 := hv c0 hc0
      walk_at "vv"
      with_reducible refine e_seqO fun N hN => ?_
      have fin : ∀ (c : D) (r' : Nat), CellK k c → r9 ≤ r' + 9 → N [some (.adr x), some (kdD k), none, some (.int way), some (.int open_), none, some (.lst ss), some (.int step), some (.lst acc), some (.int (i : Int)), some c] ((some (x, r'), s0)) := by
        intro c r10 hc hr10
        refine hN _ _ ?_
        have app : ∀ (c : D) (r' : Nat), CellK k c → r9 ≤ r' + 10 → i + 1 ≤ n ∧ ∃ (acc' : List D) (r'' : Nat), [some (D.adr x), some (kdD k), none, some (.int way), some (.int open_), none, some (.lst ss), some (.int step), some (.lst (acc ++ [c])), none, none] = [some (.adr x), some (kdD k), none, some (.int way), some (.int open_), none, some (.lst ss), some (.int step), some (.lst acc'), none, none] ∧ acc'.length = i + 1 ∧ (∀ c ∈ acc', CellK k c) ∧ ((some (x, r'), s0) : Mst) = (some (x, r''), s0) ∧ r7 ≤ r'' + 12 * (i + 1) := fun c r' hc hr' => by
          refine ⟨by omega, acc ++ [c], r', rfl, by simp [hal], fun u hu => ?_, rfl, by omega⟩
          rcases List.mem_append.mp hu with hu | hu
          · exact hac u hu
          · rw [List.mem_singleton.mp hu]; exact hc
        walk_at "vi"
        refine w_ifd (fun q1 => ?_) (fun q1 => ?_)
        · walk_at "vv"
          refine w_ifn (fun q2 => ?_) (fun q2 => ?_)
          · walk_at "vv"
            have ho : open_ = 4 ∨ open_ = 9 := by simp at hm; omega
            refine e_take (by omega) (by omega) (by omega) fun z8 r11 h15 h16 hr11 => ?_
            walk_at "vv"
            refine w_ifd (fun q3 => ?_) (fun q3 => ?_)
            · walk_at "vv"
              exact ⟨sz_lt (by omega), app .non r11 (.inl rfl) (by omega)⟩
            · walk_at "vv"
              exact ⟨sz_lt (by omega), app c r11 hc (by omega)⟩
          · walk_at "vv"
            exact ⟨sz_lt (by omega), app c r10 hc (by omega)⟩
        · walk_at "vv"
          exact ⟨sz_lt (by omega), app c r10 hc (by omega)⟩
      have other : ∀ (V : VEnds) (r' : Nat), V.nx = N → r9 ≤ r' + 1 → vIf (vAnd (vTest (vOp vEqC (vVar 3) (vC (.int 2)))) (vTest (vOp vEqC (vVar 1) (vC (.str ("number" : Str))))))
          (vAsg (vOp vAdd (vOp vMod (vOp vIx (vVar 6) (vC (.int 0))) (vOp vPow (vC (.int 10)) (vC (.int 12)))) (vOp vMul (vVar 9) (vVar 7))) (vgName 10))
          (vIf (vAnd (vTest (vOp vEqC (vVar 3) (vC (.int 3)))) (vTest (vOp vEqC (vVar 1) (vC (.str ("number" : Str))))))
          (vAsg (vCall wNumber (vCons (vVar 0) vNil)) (vgName 10))
          vNext) V [some (.adr x), some (kdD k), none, some (.int way), some (.int open_), none, some (.lst ss), some (.int step), some (.lst acc), some (.int (i : Int)), some c0] ((some (x, r'), s0)) := by
        intro V r10 hV hr10
        have third : vIf (vAnd (vTest (vOp vEqC (vVar 3) (vC (.int 3)))) (vTest (vOp vEqC (vVar 1) (vC (.str ("number" : Str))))))
          (vAsg (vCall wNumber (vCons (vVar 0) vNil)) (vgName 10))
          vNext V [some (.adr x), some (kdD k), none, some (.int way), some (.int open_), none, some (.lst ss), some (.int step), some (.lst acc), some (.int (i : Int)), some c0] ((some (x, r10), s0)) := by
          refine e_if (e_and (e_test (e_op (e_var rfl (e_c ?_)))))
          walk_at "vv"
          refine w_ifd (fun q1 => ?_) (fun q1 => ?_)
          · walk_at "vv"
            cases hk : k with
            | num =>
              subst hk
              refine w_ifT ?_
              walk_at "vv"
              refine ⟨x, r10, s0, rfl, rfl, by omega, fun z r11 hz hr11 => ?_⟩
              walk_at "vv"
              rw [hV]
              exact fin _ r11 (.inr (val_num (Nat.lt_trans hz (by decide)))) (by omega)
            | txt =>
              subst hk
              refine w_ifF ?_
              walk_at "vv"
              rw [hV]
              exact fin c0 r10 (.inr hv0) (by omega)
          · walk_at "vv"
            rw [hV]
            exact fin c0 r10 (.inr hv0) (by omega)
        refine e_if (e_and (e_test (e_op (e_var rfl (e_c ?_)))))
        walk_at "vv"
        refine w_ifd (fun q1 => ?_) (fun q1 => ?_)
        · walk_at "vv"
          cases hk : k with
          | num =>
            subst hk
            refine w_ifT ?_
            obtain ⟨c1, hc1, ec1⟩ := atI_lt (l := ss) (v := 0) (by decide) (by omega)
            obtain ⟨z, rfl, hz⟩ := hv c1 hc1
            walk_at "vv"
            refine e_ixL ec1 ?_
            walk_at "vv"
            refine e_powI ⟨by decide, by decide, by decide⟩ ?_
            rw [show (10 : Int) ^ (12 : Int).toNat = 1000000000000 from rfl]
            walk_at "vv"
            refine e_mulI (.inl (.inl ⟨by omega, by omega⟩)) ?_
            walk_at "vv"
            rw [hV]
            refine fin _ r10 (.inr (val_num ?_)) (by omega)
            have hmul : ((i : Int) * step).natAbs ≤ 10000 * 1000000 := by
              rw [Int.natAbs_mul, Int.natAbs_natCast]
              exact Nat.mul_le_mul (by omega) hst
            have : (z % 1000000000000 + (i : Int) * step).natAbs ≤ 10000000000000 := by omega
            exact Nat.lt_of_le_of_lt this (by decide)
          | txt =>
            subst hk
            refine w_ifF ?_
            exact third
        · refine w_ifF ?_
          exact third
      refine e_if (e_and (e_test (e_op (e_var rfl (e_c ?_)))))
      walk_at "vv"
      refine w_ifd (fun q1 => ?_) (fun q1 => ?_)
      · walk_at "vv"
        refine w_ifd (fun q2 => ?_) (fun q2 => ?_)
        · walk_at "vv"
          refine e_take (by omega) (by decide) (by decide) fun z8 r10 h15 h16 hr10 => ?_
          walk_at "vv"
          refine w_ifd (fun q3 => ?_) (fun q3 => ?_)
          · walk_at "vv"
            have hne : acc ≠ [] := fun e => by rw [e] at hal; simp at hal; omega
            obtain ⟨r, c1, rfl⟩ : ∃ r c1, acc = r ++ [c1] := ⟨acc.dropLast, acc.getLast hne, (List.dropLast_concat_getLast hne).symm⟩
            refine e_ixL (x := c1) (atI_last _ _) ?_
            walk_at "vv"
            exact fin c1 r10 (hac c1 (by simp)) (by omega)
          · exact other _ r10 rfl (by omega)
        · refine w_ifF ?_
          exact other _ r9 rfl (by omega)
      · refine w_ifF ?_
        exact other _ r9 rfl (by omega)
    · rintro e m' ⟨_, acc, r8, rfl, hal, hac, rfl, hr8⟩
      rw [rangeD_len] at hal hr8
      walk_at "vv"
      exact hP acc r8 hal hac (by omega)
theorem p_near_cells {K : PySem.W.Frag} (ds : List D) (m : Mst) (P : D → Mst → Prop) (VX : XV) (h : wCells ds m P VX) : ds.length = 3 ∧ v_near_cells K vTake (vends P) (vstart N_near_cells.length ds) m := by
  obtain ⟨x, r, s0, n, k, rfl, hn, rfl, hr, hP⟩ := h
  refine ⟨rfl, ?_⟩
  unfold v_near_cells
  walk_at "vv"
  refine e_take (by omega) (by decide) (by decide) fun z1 r1 h1 h2 hr1 => ?_
  walk_at "vv"
  refine e_powI ⟨by decide, by decide, by decide⟩ ?_
  rw [show (10 : Int) ^ (18 : Int).toNat = 1000000000000000000 from rfl]
  walk_at "vv"
  refine e_powI ⟨by decide, by decide, by decide⟩ ?_
  rw [show (10 : Int) ^ (18 : Int).toNat = 1000000000000000000 from rfl]
  walk_at "vv"
  refine e_take (by omega) (by decide) (by decide) fun z2 r2 h3 h4 hr2 => ?_
  obtain ⟨first, hf, ef⟩ := at_litD [z1 - 20, 1000000000000000000 - 4, 4 - 1000000000000000000, 63] h3 h4
  refine e_ixL ef ?_
  have hfi : first.natAbs ≤ 1000000000000000000 := by simp at hf; omega
  walk_at "vv"
  refine e_take (by omega) (by decide) (by decide) fun z3 r3 h5 h6 hr3 => ?_
  obtain ⟨wide, hw, ew⟩ := at_litD [(1 : Int), 1, 2, 3, 8] h5 h6
  refine e_ixL ew ?_
  have hwi : 1 ≤ wide ∧ wide ≤ 8 := by simp at hw; omega
  walk_at "vv"
  refine e_take (by omega) (by decide) (by decide) fun bg r4 h7 h8 hr4 => ?_
  walk_at "vv"
  refine e_take (by omega) (by decide) (by decide) fun z4 r5 h9 h10 hr5 => ?_
  obtain ⟨open_, ho, eo⟩ := at_litD [(0 : Int), 0, 2, 5, 1] h9 h10
  refine e_ixL eo ?_
  walk_at "vv"
  refine e_itR (by omega) ?_
  refine for_inv (fun i e m' => i ≤ n ∧ ∃ (acc : List D) (r' : Nat), e = [some (.adr x), some (kdD k), none, some (.int first), some (.lst ([("" : Str), ("a" : Str), ("aa" : Str), ("ab" : Str), ("b" : Str), ("~" : Str), (" " : Str), ("Z" : Str)].map D.str)), some (.int wide), some (.int bg), some (.int open_), some (.lst acc), none, none, none] ∧ acc.length = i ∧ (∀ c ∈ acc, CellK k c) ∧ m' = (some (x, r'), s0) ∧ r5 ≤ r' + 12 * i) ⟨by omega, [], r5, rfl, rfl, by simp, rfl, by omega⟩ ?_ ?_
  · rintro i e m' d hi ⟨_, acc, r8, rfl, hal, hac, rfl, hr8⟩ ed
    obtain ⟨hi, rfl⟩ := rangeD_at ed
    rw [Int.zero_add]
    have app : ∀ (c : D) (r' : Nat), CellK k c → r8 ≤ r' + 10 → i + 1 ≤ n ∧ ∃ (acc' : List D) (r'' : Nat), [some (D.adr x), some (kdD k), none, some (.int first), some (.lst ([("" : Str), ("a" : Str), ("aa" : Str), ("ab" : Str), ("b" : Str), ("~" : Str), (" " : Str), ("Z" : Str)].map D.str)), some (.int wide), some (.int bg), some (.int open_), some (.lst (acc ++ [c])), none, none, none] = [some (.adr x), some (kdD k), none, some (.int first), some (.lst ([("" : Str), ("a" : Str), ("aa" : Str), ("ab" : Str), ("b" : Str), ("~" : Str), (" " : Str), ("Z" : Str)].map D.str)), some (.int wide), some (.int bg), some (.int open_), some (.lst acc'), none, none, none] ∧ acc'.length = i + 1 ∧ (∀ c ∈ acc', CellK k c) ∧ ((some (x, r'), s0) : Mst) = (some (x, r''), s0) ∧ r5 ≤ r'' + 12 * (i + 1) := fun c r' hc hr' => by
      refine ⟨by omega, acc ++ [c], r', rfl, by simp [hal], fun u hu => ?_, rfl, by omega⟩
      rcases List.mem_append.mp hu with hu | hu
      · exact hac u hu
      · rw [List.mem_singleton.mp hu]; exact hc
    walk_at "vv"
    refine e_take (by omega) (by omega) (by omega) fun turn r9 h13 h14 hr9 => ?_
    walk_at "vv"
    obtain ⟨tx, ht, et⟩ := at_litS [("" : Str), ("a" : Str), ("aa" : Str), ("ab" : Str), ("b" : Str), ("~" : Str), (" " : Str), ("Z" : Str)] (v := (bg + turn) % 8) (by omega) (by show _ < (8 : Int); omega)
    refine e_ixL et ?_
    walk_at "vv"
    have htl : IsT 40 tx := isT_all (l := [("" : Str), ("a" : Str), ("aa" : Str), ("ab" : Str), ("b" : Str), ("~" : Str), (" " : Str), ("Z" : Str)]) (by decide +kernel) ht
    obtain ⟨c0, hc0, ec0⟩ : ∃ c0, Val k c0 ∧ L2.atI [D.int (first + turn % 4), D.str tx] (if k.isT = true then 1 else 0) = some c0 := by
      cases k with
      | num =>
        refine ⟨_, val_num ?_, rfl⟩
        have : (first + turn % 4).natAbs ≤ 1000000000000000010 := by omega
        exact Nat.lt_of_le_of_lt this (by decide)
      | txt => exact ⟨_, ⟨_, rfl, htl⟩, rfl⟩
    refine e_ixL ec0 ?_
    walk_at "vv"
    walk_at "vi"
    refine w_ifd (fun q1 => ?_) (fun q1 => ?_)
    · walk_at "vv"
      have ho : open_ = 2 ∨ open_ = 5 ∨ open_ = 1 := by simp at ho; omega
      refine e_take (by omega) (by omega) (by omega) fun z8 r11 h15 h16 hr11 => ?_
      walk_at "vv"
      refine w_ifd (fun q3 => ?_) (fun q3 => ?_)
      · walk_at "vv"
        exact ⟨sz_lt (by omega), app .non r11 (.inl rfl) (by omega)⟩
      · walk_at "vv"
        exact ⟨sz_lt (by omega), app c0 r11 (.inr hc0) (by omega)⟩
    · walk_at "vv"
      exact ⟨sz_lt (by omega), app c0 r9 (.inr hc0) (by omega)⟩
  · rintro e m' ⟨_, acc, r8, rfl, hal, hac, rfl, hr8⟩
    rw [rangeD_len] at hal hr8
    walk_at "vv"
    exact hP acc r8 hal hac (by omega)
def wSomeCells : VSp := fun ds m P _ => ∃ (x : Addr) (r : Nat) (s0 : Sto) (n : Nat) (k : Kd), ds = [.adr x, kdD k, .int n] ∧ n ≤ 10000 ∧ m = (some (x, r), s0) ∧ 301 + 12 * n ≤ r ∧ ∀ (cs : List D) (r' : Nat), cs.length = n → (∀ c ∈ cs, CellK k c) → r ≤ r' + (301 + 12 * n) → P (.lst cs) ((some (x, r'), s0))
theorem p_some_cells {K : PySem.W.Frag} (ds : List D) (m : Mst) (P : D → Mst → Prop) (VX : XV) (h : wSomeCells ds m P VX) : ds.length = 3 ∧ v_some_cells K vTake wCells wCells (vends P) (vstart N_some_cells.length ds) m := by
  obtain ⟨x, r, s0, n, k, rfl, hn, rfl, hr, hP⟩ := h
  refine ⟨rfl, ?_⟩
  unfold v_some_cells
  walk_at "vi"
  refine e_take (by omega) (by decide) (by decide) fun z1 r1 h1 h2 hr1 => ?_
  walk_at "vv"
  refine w_ifd (fun q3 => ?_) (fun q3 => ?_)
  · walk_at "vv"
    exact ⟨x, r1, s0, n, k, rfl, hn, rfl, by omega, fun cs r' hl hc hr' => hP cs r' hl hc (by omega)⟩
  · walk_at "vv"
    exact ⟨x, r1, s0, n, k, rfl, hn, rfl, by omega, fun cs r' hl hc hr' => hP cs r' hl hc (by omega)⟩
theorem txt_app (a b : List Nat) : txt a ++ txt b = txt (a ++ b) := by
  show (⟨(a.map sg).toArray ++ (b.map sg).toArray⟩ : Str) = ⟨((a ++ b).map sg).toArray⟩
  rw [List.map_append]
  simp
theorem cutS_txt (a : List Nat) : cutS (txt a) none (some 20) = txt (a.take 20) := by
  unfold cutS
  rw [txt_cps, txt_len, HT.sIx_none, show (some (20 : Int)) = some ((20 : Nat) : Int) from rfl, HT.sIx_nat, List.drop_zero, Nat.sub_zero, ← List.map_take]
  show (⟨((a.take (min 20 a.length)).map sg).toArray⟩ : Str) = ⟨((a.take 20).map sg).toArray⟩
  by_cases h : 20 ≤ a.length
  · rw [Nat.min_eq_left h]
  · rw [Nat.min_eq_right (by omega), List.take_of_length_le (Nat.le_refl _), List.take_of_length_le (by omega)]
/-- those that are not open -/
def known (cs : List D) : List D := cs.filter fun c => !c.isN
theorem known_val {k : Kd} {cs : List D} (h : ∀ c ∈ cs, CellK k c) : ∀ c ∈ known cs, Val k c := fun c hc => by
  obtain ⟨h1, h2⟩ := List.mem_filter.mp hc
  rcases h c h1 with rfl | h
  · exact absurd h2 Bool.false_ne_true
  · exact h
/-- the comprehension that leaves the open ones out -/
theorem lc_known {env : Env} {m : Mst} {P : D → Mst → Prop} {cs : List D} {i : Nat} (hi : i < env.length) (hz : cs.length ≤ 16777216) (k : P (.lst (known cs)) m) : lcD cs (vgName i) (vTest (vOp vNotN (vVar i) (vC .non))) (vVar i) [i] env m P := by
  have e : cs = cs.map id := (List.map_id cs).symm
  rw [e]
  refine lc_fltL (g := id) (h := id) (p := fun c => !c.isN) hz (fun j c Q R ec h1 h2 => ?_) (by rw [List.map_id]; exact k)
  have hv : (((wipeE env [i]).set i (some (id c))))[i]? = some (some c) := by
    rw [List.getElem?_set_self (by rw [wipeE_len]; exact hi)]; rfl
  show (vTest _ : VT) _ _ _
  refine e_test (e_op (e_var hv (e_c (e_notN ⟨_, rfl, ?_⟩))))
  cases q : !c.isN with
  | true => rw [if_pos rfl]; exact e_var hv (h1 q)
  | false => rw [if_neg Bool.false_ne_true]; exact h2 q
def wValue : VSp := fun ds m P _ => ∃ (x : Addr) (r : Nat) (s0 : Sto) (k : Kd) (cs : List D), ds = [.adr x, kdD k, .lst cs] ∧ cs.length ≤ 10000 ∧ (∀ c ∈ cs, CellK k c) ∧ m = (some (x, r), s0) ∧ 40 ≤ r ∧ ∀ (v : D) (r' : Nat), Val k v → r ≤ r' + 40 → P v ((some (x, r'), s0))
theorem p_value {K : PySem.W.Frag} (ds : List D) (m : Mst) (P : D → Mst → Prop) (VX : XV) (h : wValue ds m P VX) : ds.length = 3 ∧ v_value K vTake wText wNumber (vends P) (vstart N_value.length ds) m := by
  obtain ⟨x, r, s0, k, cs, rfl, hl, hc, rfl, hr, hP⟩ := h
  refine ⟨rfl, ?_⟩
  unfold v_value
  walk_at "vv"
  refine lc_known (Nat.le_of_ble_eq_true rfl) (by omega) ?_
  have hv := known_val hc
  have hkl : (known cs).length ≤ 10000 := Nat.le_trans (List.length_filter_le _ _) hl
  generalize known cs = ks at *
  walk_at "vv"
  refine e_take (by omega) (by decide) (by decide) fun way r1 h1 h2 hr1 => ?_
  walk_at "vv"
  walk_at "vi"
  cases k with
  | txt =>
    refine w_ifT ?_
    walk_at "vi"
    refine w_ifd (fun q1 => ?_) (fun q1 => ?_)
    · walk_at "vv"
      refine w_ifd (fun q2 => ?_) (fun q2 => ?_)
      · walk_at "vv"
        refine e_take (by omega) (by omega) (by omega) fun z r2 h3 h4 hr2 => ?_
        obtain ⟨c, hcm, ec⟩ := atI_lt h3 h4
        obtain ⟨s, rfl, js, rfl, hjl, hj⟩ := hv c hcm
        refine e_ixL ec ?_
        walk_at "vv"
        obtain ⟨t, ht, et⟩ := at_litS [("" : Str), ("" : Str), (" " : Str), ("a" : Str)] (v := way) h1 q1
        obtain ⟨ls, rfl, hll, hls⟩ : IsT 1 t := isT_all (l := [("" : Str), ("" : Str), (" " : Str), ("a" : Str)]) (by decide +kernel) ht
        refine e_ixL et ?_
        refine e_addS (sz_le (by rw [txt_len, txt_len]; omega)) ?_
        rw [txt_app]
        walk_at "vv"
        refine e_cutS (by rw [txt_len, List.length_append]; omega) ?_
        rw [cutS_txt]
        refine hP _ r2 (val_txt ⟨_, rfl, by rw [List.length_take]; omega, fun u hu => ?_⟩) (by omega)
        rcases List.mem_append.mp (List.mem_of_mem_take hu) with hu | hu
        · exact hj u hu
        · exact hls u hu
      · walk_at "vv"
        exact ⟨x, r1, s0, rfl, rfl, by omega, fun z r2 hz hr2 => hP _ r2 (val_txt hz) (by omega)⟩
    · walk_at "vv"
      exact ⟨x, r1, s0, rfl, rfl, by omega, fun z r2 hz hr2 => hP _ r2 (val_txt hz) (by omega)⟩
  | num =>
    refine w_ifF ?_
    walk_at "vv"
    walk_at "vi"
    refine w_ifd (fun q1 => ?_) (fun q1 => ?_)
    · walk_at "vv"
      refine w_ifd (fun q2 => ?_) (fun q2 => ?_)
      · walk_at "vv"
        refine e_take (by omega) (by omega) (by omega) fun z r2 h3 h4 hr2 => ?_
        obtain ⟨c, hcm, ec⟩ := atI_lt h3 h4
        obtain ⟨s, rfl, hs⟩ := hv c hcm
        refine e_ixL ec ?_
        walk_at "vv"
        obtain ⟨t, ht, et⟩ := at_litD [(0 : Int), 0, 1, -1] (v := way) h1 q1
        refine e_ixL et ?_
        walk_at "vv"
        refine e_powI ⟨by decide, by decide, by decide⟩ ?_
        rw [show (10 : Int) ^ (18 : Int).toNat = 1000000000000000000 from rfl]
        walk_at "vv"
        refine e_powI ⟨by decide, by decide, by decide⟩ ?_
        rw [show (10 : Int) ^ (18 : Int).toNat = 1000000000000000000 from rfl]
        walk_at "vv"
        refine hP _ r2 (val_num ?_) (by omega)
        refine Nat.lt_of_le_of_lt (m := 1000000000000000000) ?_ (by decide)
        split <;> split <;> omega
      · walk_at "vv"
        exact ⟨x, r1, s0, rfl, rfl, by omega, fun z r2 hz hr2 => hP _ r2 (val_num (Nat.lt_trans hz (by decide))) (by omega)⟩
    · walk_at "vv"
      exact ⟨x, r1, s0, rfl, rfl, by omega, fun z r2 hz hr2 => hP _ r2 (val_num (Nat.lt_trans hz (by decide))) (by omega)⟩
/-- the six signs -/
def signs6 : List Str := ["=", "<>", "<", "<=", ">", ">="]
/-- a test of a cell -/
def IsTest (k : Kd) (t : D) : Prop := t = .tup [.str "open"] ∨ (∃ vs : List D, t = .tup [.str "among", .lst vs] ∧ vs.length ≤ 9 ∧ ∀ v ∈ vs, Val k v) ∨ ∃ (w : Str) (v : D), t = .tup [.str w, v] ∧ w ∈ signs6 ∧ Val k v
def wTest : VSp := fun ds m P _ => ∃ (x : Addr) (r : Nat) (s0 : Sto) (k : Kd) (cs : List D), ds = [.adr x, kdD k, .lst cs] ∧ cs.length ≤ 10000 ∧ (∀ c ∈ cs, CellK k c) ∧ m = (some (x, r), s0) ∧ 400 ≤ r ∧ ∀ (t : D) (r' : Nat), IsTest k t → r ≤ r' + 400 → P t ((some (x, r'), s0))
theorem p_test {K : PySem.W.Frag} (ds : List D) (m : Mst) (P : D → Mst → Prop) (VX : XV) (h : wTest ds m P VX) : ds.length = 3 ∧ v_test K vTake wValue (vends P) (vstart N_test.length ds) m := by
  obtain ⟨x, r, s0, k, cs, rfl, hl, hc, rfl, hr, hP⟩ := h
  refine ⟨rfl, ?_⟩
  unfold v_test
  walk_at "vv"
  refine e_take (by omega) (by decide) (by decide) fun z1 r1 h1 h2 hr1 => ?_
  obtain ⟨w, hw, ew⟩ := at_litS [("=" : Str), ("<>" : Str), ("<" : Str), ("<=" : Str), (">" : Str), (">=" : Str), ("open" : Str), ("among" : Str)] h1 h2
  refine e_ixL ew ?_
  have hw3 : w ∈ signs6 ∨ w = "open" ∨ w = "among" := by
    have : ∀ z ∈ [("=" : Str), ("<>" : Str), ("<" : Str), ("<=" : Str), (">" : Str), (">=" : Str), ("open" : Str), ("among" : Str)], z ∈ signs6 ∨ z = "open" ∨ z = "among" := by decide +kernel
    exact this w hw
  walk_at "vv"
  walk_at "vi"
  rcases hw3 with hw | rfl | rfl
  · have hn : ∀ z ∈ signs6, decide (z = "open") = false ∧ decide (z = "among") = false := by decide +kernel
    rw [(hn w hw).1]
    walk_at "vv"
    walk_at "vi"
    rw [(hn w hw).2]
    walk_at "vv"
    exact ⟨x, r1, s0, k, cs, rfl, hl, hc, rfl, by omega, fun v r2 hv hr2 => ⟨by show 2 ≤ sizeLine; exact sz_le (by decide), hP _ r2 (.inr (.inr ⟨w, v, rfl, hw, hv⟩)) (by omega)⟩⟩
  · rw [decide_eq_true rfl]
    walk_at "vv"
    exact hP _ r1 (.inl rfl) (by omega)
  · rw [decide_eq_false (by decide +kernel)]
    walk_at "vv"
    walk_at "vi"
    rw [decide_eq_true rfl]
    walk_at "vv"
    refine e_take (by omega) (by decide) (by decide) fun z2 r2 h3 h4 hr2 => ?_
    obtain ⟨n, hn, en⟩ := at_litD [(0 : Int), 1, 2, 4, 9] h3 h4
    refine e_ixL en ?_
    obtain ⟨l, rfl, hl9⟩ : ∃ l : Nat, n = (l : Int) ∧ l ≤ 9 := ⟨n.toNat, by simp at hn; omega, by simp at hn; omega⟩
    walk_at "vv"
    refine e_itR (by omega) ?_
    refine ⟨fun i acc m' => i ≤ l ∧ acc.length = i ∧ (∀ c ∈ acc, Val k c) ∧ ∃ r', m' = (some (x, r'), s0) ∧ r2 ≤ r' + 40 * i, ⟨by omega, rfl, by simp, r2, rfl, by omega⟩, ?_, ?_⟩
    · rintro i acc m' d ⟨hi0, hal, hv, r3, rfl, hr3⟩ ed
      obtain ⟨hi, rfl⟩ := rangeD_at ed
      walk_at "vv"
      refine ⟨x, r3, s0, k, cs, rfl, hl, hc, rfl, by omega, fun v r4 hv4 hr4 => ⟨sz_lt (by omega), by omega, by simp [hal], fun c hc => ?_, r4, rfl, by omega⟩⟩
      rcases List.mem_append.mp hc with hc | hc
      · exact hv c hc
      · rw [List.mem_singleton.mp hc]; exact hv4
    · rintro acc m' ⟨hi0, hal, hv, r3, rfl, hr3⟩
      rw [rangeD_len] at hal hr3
      walk_at "vv"
      exact hP _ r3 (.inr (.inl ⟨acc, rfl, by omega, hv⟩)) (by omega)
end Ps

/-! V18: notes looked at. -/
namespace Ps
open PySem PySem.Spec PyProof.Rows L2
local macro_rules | `(tactic| walk_at "v1") => `(tactic| first
  | ((with_reducible refine' e_var ?hx ?_); (case hx => exact rfl))
  | (with_reducible refine e_seqAsg ?_)
  | (with_reducible refine e_seqDrop ?_)
  | (with_reducible refine e_seqAug ?_)
  | (with_reducible refine e_seqApp ?_)
  | (with_reducible refine e_seqMut ?_)
  | (with_reducible refine e_seqPut ?_)
  | (with_reducible refine e_seqPar ?_)
  | (with_reducible refine e_seqFor ?_)
  | (with_reducible refine e_seqWhile ?_)
  | (with_reducible refine e_seqNext ?_)
  | (with_reducible refine e_seqSetF ?_)
  | (with_reducible refine e_seqAugF ?_)
  | (with_reducible refine e_seqAppS ?_)
  | (with_reducible refine e_seqMutS ?_)
  | (with_reducible refine e_seqPutS ?_)
  | (with_reducible refine e_seqForB ?_)
  | (with_reducible refine e_seqAugS ?_)
  | (with_reducible refine e_seqSeq ?_)
  | (with_reducible refine e_asg ?_)
  | (with_reducible refine e_drop ?_)
  | (with_reducible refine e_ret ?_)
  | (with_reducible refine e_retN ?_)
  | (with_reducible refine e_if ?_)
  | (with_reducible refine e_next ?_)
  | (with_reducible refine e_brk ?_)
  | (with_reducible refine e_cont ?_)
  | (with_reducible refine e_gname ?_)
  | (with_reducible refine e_c ?_)
  | (with_reducible refine e_nil ?_)
  | (with_reducible refine e_cons ?_)
  | (with_reducible refine e_op ?_)
  | (with_reducible refine e_un ?_)
  | (with_reducible refine e_cb ?_)
  | (with_reducible refine e_bm ?_)
  | (with_reducible refine e_bm0 ?_)
  | (with_reducible refine e_tyS ?_)
  | (with_reducible refine e_tyL ?_)
  | (with_reducible refine e_tyD ?_)
  | (with_reducible refine e_lst ?_)
  | (with_reducible refine e_tup ?_)
  | (with_reducible refine e_andV ?_)
  | (with_reducible refine e_orV ?_)
  | (with_reducible refine e_notV ?_)
  | (with_reducible refine e_blE ?_)
  | (with_reducible refine e_chain ?_)
  | (with_reducible refine e_test ?_)
  | (with_reducible refine e_and ?_)
  | (with_reducible refine e_or ?_)
  | (with_reducible refine e_not ?_)
  | (with_reducible refine e_yes ?_)
  | (with_reducible refine e_call ?_)
  | (with_reducible refine e_callS ?_)
  | (with_reducible refine e_callB ?_)
  | (with_reducible refine e_callBS ?_)
  | (with_reducible refine e_frB ?_)
  | (with_reducible refine e_frI ?_)
  | (with_reducible refine e_opL ?_)
  | (with_reducible refine e_unL ?_)
  | (with_reducible refine e_cbL ?_)
  | (with_reducible refine e_bmL ?_)
  | (with_reducible refine e_bm0L ?_)
  | (with_reducible refine e_truLk ?_)
  | (with_reducible refine e_slL ?_)
  | (with_reducible refine e_fld ?_)
  | (with_reducible refine e_setF ?_)
  | (with_reducible refine e_augF ?_)
  | (with_reducible refine e_meth ?_)
  | (with_reducible refine e_make ?_)
  | (with_reducible refine e_appS ?_)
  | (with_reducible refine e_mutS ?_)
  | (with_reducible refine e_putS ?_)
  | (with_reducible refine e_box ?_)
  | (with_reducible refine e_boxL ?_)
  | (with_reducible refine e_boxDi ?_)
  | (with_reducible refine e_seqB ?_)
  | (with_reducible refine e_enumB ?_)
  | (with_reducible refine e_revB ?_)
  | (with_reducible refine e_zipB ?_)
  | (with_reducible refine e_lcB ?_)
  | (with_reducible refine e_forB ?_)
  | (with_reducible refine e_popS ?_)
  | (with_reducible refine e_dpopS ?_)
  | (with_reducible refine e_get2 ?_)
  | (with_reducible refine e_addII ?_)
  | (with_reducible refine e_subII ?_)
  | (with_reducible refine e_sc ?_)
  | (with_reducible refine e_scI ?_)
  | (with_reducible refine e_sl ?_)
  | (with_reducible refine e_nopart ?_)
  | (with_reducible refine e_callE ?_)
  | (with_reducible refine e_isiT ?_)
  | (with_reducible refine e_fldX ?_)
  | (with_reducible refine e_tryK ?_)
  | (with_reducible refine e_kT ?_)
  | (with_reducible refine e_kN ?_)
  | (with_reducible refine e_ckw ?_)
  | (with_reducible refine e_max2 ?_)
  | (with_reducible refine e_min2 ?_)
  | (with_reducible refine e_part ?_)
  | (with_reducible refine e_intE ?_)
  | (with_reducible refine e_dnew ?_)
  | (with_reducible refine e_rz1 ?_)
  | (with_reducible refine e_rz0 ?_)
  | (with_reducible refine e_par ?_)
  | (with_reducible refine e_put ?_)
  | (with_reducible refine e_addI ?_)
  | (with_reducible refine e_subI ?_)
  | (with_reducible refine e_negI ?_)
  | (with_reducible refine e_eqI ?_)
  | (with_reducible refine e_eqS ?_)
  | (with_reducible refine e_eqB ?_)
  | (with_reducible refine e_neI ?_)
  | (with_reducible refine e_neS ?_)
  | (with_reducible refine e_neB ?_)
  | (with_reducible refine e_ltI ?_)
  | (with_reducible refine e_leI ?_)
  | (with_reducible refine e_gtI ?_)
  | (with_reducible refine e_geI ?_)
  | (with_reducible refine e_ipaI ?_)
  | (with_reducible refine e_lenL ?_)
  | (with_reducible refine e_lenT ?_)
  | (with_reducible refine e_lenD ?_)
  | (with_reducible refine e_listL ?_)
  | (with_reducible refine e_listT ?_)
  | (with_reducible refine e_tupL ?_)
  | (with_reducible refine e_tupT ?_)
  | (with_reducible refine e_intI ?_)
  | (with_reducible refine e_intB ?_)
  | (with_reducible refine e_abs ?_)
  | (with_reducible refine e_cutL ?_)
  | (with_reducible refine e_cutT ?_)
  | (with_reducible refine e_revm ?_)
  | (with_reducible refine e_clrm ?_)
  | (with_reducible refine e_gcons ?_)
  | (with_reducible refine e_gnil ?_)
  | (with_reducible refine e_seqv ?_)
  | (with_reducible refine e_itL ?_)
  | (with_reducible refine e_itT ?_)
  | (with_reducible refine e_itS ?_)
  | (with_reducible refine e_rg1 ?_)
  | (with_reducible refine e_rg2 ?_)
  | (with_reducible refine e_itZL ?_)
  | (with_reducible refine e_itZT ?_)
  | (with_reducible refine e_itEL ?_)
  | (with_reducible refine e_itET ?_)
  | (with_reducible refine e_itES ?_)
  | (with_reducible refine e_itVL ?_)
  | (with_reducible refine e_itVT ?_)
  | (with_reducible refine e_tru ?_)
  | (with_reducible refine e_truB ?_)
  | (with_reducible refine e_truN ?_)
  | (with_reducible refine e_truI ?_)
  | (with_reducible refine e_truL ?_)
  | (with_reducible refine e_truT ?_)
  | (with_reducible refine e_isNn ?_)
  | (with_reducible refine e_isNi ?_)
  | (with_reducible refine e_isNs ?_)
  | (with_reducible refine e_isNl ?_)
  | (with_reducible refine e_isNt ?_)
  | (with_reducible refine e_isNb ?_)
  | (with_reducible refine e_ntNn ?_)
  | (with_reducible refine e_ntNi ?_)
  | (with_reducible refine e_ntNs ?_)
  | (with_reducible refine e_ntNl ?_)
  | (with_reducible refine e_ntNt ?_)
  | (with_reducible refine e_rng1 ?_)
  | (with_reducible refine e_rng2 ?_)
  | (with_reducible refine e_zip ?_)
  | (with_reducible refine e_enum ?_)
  | (with_reducible refine e_rev ?_)
  | (with_reducible refine e_for ?_)
  | (with_reducible refine e_lc ?_)
  | (with_reducible refine w_ifT ?_)
  | (with_reducible refine w_ifF ?_)
  | (with_reducible refine w_ifNF ?_)
  | (with_reducible refine w_ifNT ?_)
  | ((with_reducible refine' e_aug ?hx ?_); (case hx => exact rfl))
  | ((with_reducible refine' e_app ?hx ?_); (case hx => exact rfl))
  | ((with_reducible refine' e_mut ?hx ?_); (case hx => exact rfl))
  | ((with_reducible refine' e_len ?hx ?_); (case hx => exact rfl))
  | ((with_reducible refine' e_gtup ?hx ?_); (case hx => exact rfl))
  | ((with_reducible refine' e_gtupU ?hx ?_); (case hx => exact rfl))
  | ((with_reducible refine' e_gtupL ?hx ?_); (case hx => exact rfl))
  | ((with_reducible refine' e_isi (b := true) ?hx ?hy ?_); (case hx => exact rfl); (case hy => first | exact rfl | decide))
  | ((with_reducible refine' e_isi (b := false) ?hx ?hy ?_); (case hx => exact rfl); (case hy => first | exact rfl | decide))
  | ((with_reducible refine' e_modI ?hx ?_); (case hx => decide))
  | ((with_reducible refine' e_divI ?hx ?_); (case hx => exact .inl ⟨by decide, by decide⟩))
  | ((with_reducible refine' e_mulI ?hx ?_); (case hx => first | exact .inl (.inr ⟨by decide, by decide⟩) | exact .inl (.inl ⟨by decide, by decide⟩)))
  | ((with_reducible refine' e_ipmI ?hx ?_); (case hx => first | exact .inl (.inr ⟨by decide, by decide⟩) | exact .inl (.inl ⟨by decide, by decide⟩)))
  | (with_reducible refine e_isN ?_) | (with_reducible refine e_notN ?_))
local macro_rules | `(tactic| walk_at "vv") => `(tactic| repeat (walk_at "v1"))
local macro_rules | `(tactic| walk_at "vi") => `(tactic| ((with_reducible refine e_seq ?_); repeat (walk_at "v1")))
local macro_rules | `(tactic| walk_at "ve") => `(tactic| ((with_reducible refine e_ifE ?_); repeat (walk_at "v1")))
theorem w_ifTd {p A B : Prop} [Decidable p] (h : p) (a : A) : if decide p = true then A else B := by rw [decide_eq_true h, if_pos rfl]; exact a
theorem w_ifFd {p A B : Prop} [Decidable p] (h : ¬ p) (b : B) : if decide p = true then A else B := by rw [decide_eq_false h, if_neg Bool.false_ne_true]; exact b
local macro_rules | `(tactic| walk_at "lit") => `(tactic| first | refine w_ifFd (by decide +kernel) ?_ | refine w_ifTd (by decide +kernel) ?_)
local macro_rules | `(tactic| walk_at "vw") => `(tactic| repeat (first | walk_at "v1" | (with_reducible refine e_seq ?_) | walk_at "lit"))
/- is_so: 0 cell, 1 sign, 2 value -/
def t_is_so (K : PySem.W.Frag) : TS :=
      (tSeq (tIfS (tTest (tOp (rEqU K) (tVar 1) (tC (.str ("=" : Str)))))
      (tRet (tOp (rEqU K) (tVar 0) (tVar 2)))
      tNext)
      (tSeq (tIfS (tTest (tOp (rEqU K) (tVar 1) (tC (.str ("<>" : Str)))))
      (tRet (tOp (rNeU K) (tVar 0) (tVar 2)))
      tNext)
      (tSeq (tIfS (tTest (tOp (rEqU K) (tVar 1) (tC (.str ("<" : Str)))))
      (tRet (tOp (rLtU K) (tVar 0) (tVar 2)))
      tNext)
      (tSeq (tIfS (tTest (tOp (rEqU K) (tVar 1) (tC (.str ("<=" : Str)))))
      (tRet (tOp (rLeV) (tVar 0) (tVar 2)))
      tNext)
      (tSeq (tIfS (tTest (tOp (rEqU K) (tVar 1) (tC (.str (">" : Str)))))
      (tRet (tOp (rGtV) (tVar 0) (tVar 2)))
      tNext)
      (tRet (tOp (rGeV) (tVar 0) (tVar 2))))))))
abbrev N_is_so : List Str := [("cell" : Str), ("sign" : Str), ("value" : Str)]
def v_is_so (K : PySem.W.Frag) : VS :=
      (vSeqS (vIf (vTest (vOp vEqC (vVar 1) (vC (.str ("=" : Str)))))
      (vRet (vOp vEqC (vVar 0) (vVar 2)))
      vNext)
      (vSeqS (vIf (vTest (vOp vEqC (vVar 1) (vC (.str ("<>" : Str)))))
      (vRet (vOp vNeC (vVar 0) (vVar 2)))
      vNext)
      (vSeqS (vIf (vTest (vOp vEqC (vVar 1) (vC (.str ("<" : Str)))))
      (vRet (vOp vLt (vVar 0) (vVar 2)))
      vNext)
      (vSeqS (vIf (vTest (vOp vEqC (vVar 1) (vC (.str ("<=" : Str)))))
      (vRet (vOp vLe (vVar 0) (vVar 2)))
      vNext)
      (vSeqS (vIf (vTest (vOp vEqC (vVar 1) (vC (.str (">" : Str)))))
      (vRet (vOp vGt (vVar 0) (vVar 2)))
      vNext)
      (vRet (vOp vGe (vVar 0) (vVar 2))))))))
theorem sim_is_so {K : PySem.W.Frag} {vsp : VSp} (hv : ∀ ds m P VX, vsp ds m P VX → ds.length = 3 ∧ v_is_so K (vends P) (vstart N_is_so.length ds) m) :
    ∀ us H Q E, spV K .O vsp us H Q E → t_is_so K { nx := fun _ H' => Q .non H', rt := Q } (L2.start N_is_so us) H :=
  sim_def (n := 3) (t := .O) (N := N_is_so) (Γn := [.F, .F, .F]) (Γb := []) (Γc := []) (ts := fun E => t_is_so K) (vs := fun VX => v_is_so K) (by decide) (fun c W VX hK hx => by
    subst hK
    exact (x_seq (x_if (Γn := [.F, .F, .F]) (s_test (SO.b (s_op o_eq (SF.b (s_varF (by rfl))) (SO.b s_str))))
      (x_retO (s_op o_eq (SF.b (s_varF (by rfl))) (SF.b (s_varF (by rfl)))))
      x_next)
      (x_seq (x_if (Γn := [.F, .F, .F]) (s_test (SO.b (s_op o_eq (SF.b (s_varF (by rfl))) (SO.b s_str))))
      (x_retO (s_op o_ne (SF.b (s_varF (by rfl))) (SF.b (s_varF (by rfl)))))
      x_next)
      (x_seq (x_if (Γn := [.F, .F, .F]) (s_test (SO.b (s_op o_eq (SF.b (s_varF (by rfl))) (SO.b s_str))))
      (x_retO (s_op o_lt (SF.b (s_varF (by rfl))) (SF.b (s_varF (by rfl)))))
      x_next)
      (x_seq (x_if (Γn := [.F, .F, .F]) (s_test (SO.b (s_op o_eq (SF.b (s_varF (by rfl))) (SO.b s_str))))
      (x_retO (s_op o_le (SF.b (s_varF (by rfl))) (SF.b (s_varF (by rfl)))))
      x_next)
      (x_seq (x_if (Γn := [.F, .F, .F]) (s_test (SO.b (s_op o_eq (SF.b (s_varF (by rfl))) (SO.b s_str))))
      (x_retO (s_op o_gt (SF.b (s_varF (by rfl))) (SF.b (s_varF (by rfl)))))
      x_next)
      (x_retO (s_op o_ge (SF.b (s_varF (by rfl))) (SF.b (s_varF (by rfl))))))))))) hv

/- note_of: 0 cells, 1 cell, 2 known -/
def t_note_of (K : PySem.W.Frag) : TS :=
      (tSeq (tAsg (tLc (iSeqV K (tVar 0)) (gName 1) (tTest (tOp (rNotN) (tVar 1) (tC .non))) (tVar 1) [1]) (gName 2))
      (tRet (tTup (tCons (tCB (rLenU K) (tCons (tVar 0) tNil)) (tCons (tOp (rSubU) (tCB (rLenU K) (tCons (tVar 0) tNil)) (tCB (rLenU K) (tCons (tVar 2) tNil))) (tCons (tCKw (rMinD K) (tCons (tVar 2) tNil) (tCons (tC .non) tNil)) (tCons (tCKw (rMaxD K) (tCons (tVar 2) tNil) (tCons (tC .non) tNil)) tNil)))))))
abbrev N_note_of : List Str := [("cells" : Str), ("cell" : Str), ("known" : Str)]
def v_note_of (K : PySem.W.Frag) : VS :=
      (vSeqS (vAsg (vLc (vSeq (vVar 0)) (vgName 1) (vTest (vOp vNotN (vVar 1) (vC .non))) (vVar 1) [1]) (vgName 2))
      (vRet (vTup (vCons (vCB vLen (vCons (vVar 0) vNil)) (vCons (vOp vSub (vCB vLen (vCons (vVar 0) vNil)) (vCB vLen (vCons (vVar 2) vNil))) (vCons (vCKw vMinD (vCons (vVar 2) vNil) (vCons (vC .non) vNil)) (vCons (vCKw vMaxD (vCons (vVar 2) vNil) (vCons (vC .non) vNil)) vNil)))))))
theorem sim_note_of {K : PySem.W.Frag} {vsp : VSp} (hv : ∀ ds m P VX, vsp ds m P VX → ds.length = 1 ∧ v_note_of K (vends P) (vstart N_note_of.length ds) m) :
    ∀ us H Q E, spV K .O vsp us H Q E → t_note_of K { nx := fun _ H' => Q .non H', rt := Q } (L2.start N_note_of us) H :=
  sim_def (n := 1) (t := .O) (N := N_note_of) (Γn := [.F, .F, .F]) (Γb := []) (Γc := []) (ts := fun E => t_note_of K) (vs := fun VX => v_note_of K) (by decide) (fun c W VX hK hx => by
    subst hK
    exact (x_seq (x_asgO (i := 2) (s_lc (vs := [1]) (i_seq (s_varF (by rfl))) (by rfl) (tg_name (is := [1]) (by rfl) (by decide)) (s_test (SO.b (s_op o_notN (SF.b (s_varF (by rfl))) (SO.b s_non)))) (s_varF (by rfl))))
      (x_retO (s_tup (g_cons (SO.f (s_cb l_len (a_cons (SF.b (s_varF (by rfl))) a_nil))) (g_cons (SO.f (s_op o_sub (SO.b (s_cb l_len (a_cons (SF.b (s_varF (by rfl))) a_nil))) (SO.b (s_cb l_len (a_cons (s_varB (t := .O) (by rfl)) a_nil))))) (g_cons (SO.f (s_ckw k_minD (a_cons (s_varB (t := .O) (by rfl)) a_nil) (a_cons (SO.b s_non) a_nil))) (g_cons (SO.f (s_ckw k_maxD (a_cons (s_varB (t := .O) (by rfl)) a_nil) (a_cons (SO.b s_non) a_nil))) g_nil)))))))) hv

/- has_none: 0 least, 1 greatest, 2 sign, 3 value -/
def t_has_none (K : PySem.W.Frag) (s_is_so_ : Sp) (a_SIGNS_UP : Addr) : TS :=
      (tSeq (tIfS (tTest (tOp (rEqU K) (tVar 2) (tC (.str ("=" : Str)))))
      (tRet (tOrV (tOp (rLtU K) (tVar 3) (tVar 0)) (tOp (rGtV) (tVar 3) (tVar 1))))
      tNext)
      (tSeq (tIfS (tTest (tOp (rEqU K) (tVar 2) (tC (.str ("<>" : Str)))))
      (tRet (tAndV (tOp (rEqU K) (tVar 0) (tVar 3)) (tOp (rEqU K) (tVar 1) (tVar 3))))
      tNext)
      (tSeq (tIfS (tTest (tOp (rInU K false) (tVar 2) (tC (.ref a_SIGNS_UP))))
      (tRet (tNotV (tCall s_is_so_ [] E0 (tCons (tVar 0) (tCons (tVar 2) (tCons (tVar 3) tNil))))))
      tNext)
      (tRet (tNotV (tCall s_is_so_ [] E0 (tCons (tVar 1) (tCons (tVar 2) (tCons (tVar 3) tNil)))))))))
abbrev N_has_none : List Str := [("least" : Str), ("greatest" : Str), ("sign" : Str), ("value" : Str)]
def v_has_none (K : PySem.W.Frag) (vs_is_so : VSp) : VS :=
      (vSeqS (vIf (vTest (vOp vEqC (vVar 2) (vC (.str ("=" : Str)))))
      (vRet (vOrV (vOp vLt (vVar 3) (vVar 0)) (vOp vGt (vVar 3) (vVar 1))))
      vNext)
      (vSeqS (vIf (vTest (vOp vEqC (vVar 2) (vC (.str ("<>" : Str)))))
      (vRet (vAndV (vOp vEqC (vVar 0) (vVar 3)) (vOp vEqC (vVar 1) (vVar 3))))
      vNext)
      (vSeqS (vIf (vTest (vOp (vIn false) (vVar 2) (vC (.tup [(.str ("<" : Str)), (.str ("<=" : Str))]))))
      (vRet (vNotV (vCall vs_is_so (vCons (vVar 0) (vCons (vVar 2) (vCons (vVar 3) vNil))))))
      vNext)
      (vRet (vNotV (vCall vs_is_so (vCons (vVar 1) (vCons (vVar 2) (vCons (vVar 3) vNil)))))))))
theorem sim_has_none {K : PySem.W.Frag} {vs_is_so : VSp} {a_SIGNS_UP : Addr} (h_SIGNS_UP : ∀ G, Dd K G (.ref a_SIGNS_UP) (.tup [(.str ("<" : Str)), (.str ("<=" : Str))])) {vsp : VSp} (hv : ∀ ds m P VX, vsp ds m P VX → ds.length = 4 ∧ v_has_none K vs_is_so (vends P) (vstart N_has_none.length ds) m) :
    ∀ us H Q E, spV K .O vsp us H Q E → t_has_none K (spV K .O vs_is_so) a_SIGNS_UP { nx := fun _ H' => Q .non H', rt := Q } (L2.start N_has_none us) H :=
  sim_def (n := 4) (t := .O) (N := N_has_none) (Γn := [.F, .F, .F, .F]) (Γb := []) (Γc := []) (ts := fun E => t_has_none K (spV K .O vs_is_so) a_SIGNS_UP) (vs := fun VX => v_has_none K vs_is_so) (by decide) (fun c W VX hK hx => by
    subst hK
    exact (x_seq (x_if (Γn := [.F, .F, .F, .F]) (s_test (SO.b (s_op o_eq (SF.b (s_varF (by rfl))) (SO.b s_str))))
      (x_retO (s_orV (SO.b (s_op o_lt (SF.b (s_varF (by rfl))) (SF.b (s_varF (by rfl))))) (s_op o_gt (SF.b (s_varF (by rfl))) (SF.b (s_varF (by rfl))))))
      x_next)
      (x_seq (x_if (Γn := [.F, .F, .F, .F]) (s_test (SO.b (s_op o_eq (SF.b (s_varF (by rfl))) (SO.b s_str))))
      (x_retO (s_andV (SO.b (s_op o_eq (SF.b (s_varF (by rfl))) (SF.b (s_varF (by rfl))))) (s_op o_eq (SF.b (s_varF (by rfl))) (SF.b (s_varF (by rfl))))))
      x_next)
      (x_seq (x_if (Γn := [.F, .F, .F, .F]) (s_test (SO.b (s_op (o_in false) (SF.b (s_varF (by rfl))) (SF.b (s_c h_SIGNS_UP)))))
      (x_retO (s_notV (SO.b (s_callO (g_cons (s_varF (by rfl)) (g_cons (s_varF (by rfl)) (g_cons (s_varF (by rfl)) g_nil)))))))
      x_next)
      (x_retO (s_notV (SO.b (s_callO (g_cons (s_varF (by rfl)) (g_cons (s_varF (by rfl)) (g_cons (s_varF (by rfl)) g_nil))))))))))) hv

/- has_all: 0 least, 1 greatest, 2 sign, 3 value -/
def t_has_all (K : PySem.W.Frag) (s_is_so_ : Sp) (a_SIGNS_UP : Addr) : TS :=
      (tSeq (tIfS (tTest (tOp (rEqU K) (tVar 2) (tC (.str ("=" : Str)))))
      (tRet (tAndV (tOp (rEqU K) (tVar 0) (tVar 3)) (tOp (rEqU K) (tVar 1) (tVar 3))))
      tNext)
      (tSeq (tIfS (tTest (tOp (rEqU K) (tVar 2) (tC (.str ("<>" : Str)))))
      (tRet (tOrV (tOp (rLtU K) (tVar 3) (tVar 0)) (tOp (rGtV) (tVar 3) (tVar 1))))
      tNext)
      (tSeq (tIfS (tTest (tOp (rInU K false) (tVar 2) (tC (.ref a_SIGNS_UP))))
      (tRet (tCall s_is_so_ [] E0 (tCons (tVar 1) (tCons (tVar 2) (tCons (tVar 3) tNil)))))
      tNext)
      (tRet (tCall s_is_so_ [] E0 (tCons (tVar 0) (tCons (tVar 2) (tCons (tVar 3) tNil))))))))
abbrev N_has_all : List Str := [("least" : Str), ("greatest" : Str), ("sign" : Str), ("value" : Str)]
def v_has_all (K : PySem.W.Frag) (vs_is_so : VSp) : VS :=
      (vSeqS (vIf (vTest (vOp vEqC (vVar 2) (vC (.str ("=" : Str)))))
      (vRet (vAndV (vOp vEqC (vVar 0) (vVar 3)) (vOp vEqC (vVar 1) (vVar 3))))
      vNext)
      (vSeqS (vIf (vTest (vOp vEqC (vVar 2) (vC (.str ("<>" : Str)))))
      (vRet (vOrV (vOp vLt (vVar 3) (vVar 0)) (vOp vGt (vVar 3) (vVar 1))))
      vNext)
      (vSeqS (vIf (vTest (vOp (vIn false) (vVar 2) (vC (.tup [(.str ("<" : Str)), (.str ("<=" : Str))]))))
      (vRet (vCall vs_is_so (vCons (vVar 1) (vCons (vVar 2) (vCons (vVar 3) vNil)))))
      vNext)
      (vRet (vCall vs_is_so (vCons (vVar 0) (vCons (vVar 2) (vCons (vVar 3) vNil))))))))
theorem sim_has_all {K : PySem.W.Frag} {vs_is_so : VSp} {a_SIGNS_UP : Addr} (h_SIGNS_UP : ∀ G, Dd K G (.ref a_SIGNS_UP) (.tup [(.str ("<" : Str)), (.str ("<=" : Str))])) {vsp : VSp} (hv : ∀ ds m P VX, vsp ds m P VX → ds.length = 4 ∧ v_has_all K vs_is_so (vends P) (vstart N_has_all.length ds) m) :
    ∀ us H Q E, spV K .O vsp us H Q E → t_has_all K (spV K .O vs_is_so) a_SIGNS_UP { nx := fun _ H' => Q .non H', rt := Q } (L2.start N_has_all us) H :=
  sim_def (n := 4) (t := .O) (N := N_has_all) (Γn := [.F, .F, .F, .F]) (Γb := []) (Γc := []) (ts := fun E => t_has_all K (spV K .O vs_is_so) a_SIGNS_UP) (vs := fun VX => v_has_all K vs_is_so) (by decide) (fun c W VX hK hx => by
    subst hK
    exact (x_seq (x_if (Γn := [.F, .F, .F, .F]) (s_test (SO.b (s_op o_eq (SF.b (s_varF (by rfl))) (SO.b s_str))))
      (x_retO (s_andV (SO.b (s_op o_eq (SF.b (s_varF (by rfl))) (SF.b (s_varF (by rfl))))) (s_op o_eq (SF.b (s_varF (by rfl))) (SF.b (s_varF (by rfl))))))
      x_next)
      (x_seq (x_if (Γn := [.F, .F, .F, .F]) (s_test (SO.b (s_op o_eq (SF.b (s_varF (by rfl))) (SO.b s_str))))
      (x_retO (s_orV (SO.b (s_op o_lt (SF.b (s_varF (by rfl))) (SF.b (s_varF (by rfl))))) (s_op o_gt (SF.b (s_varF (by rfl))) (SF.b (s_varF (by rfl))))))
      x_next)
      (x_seq (x_if (Γn := [.F, .F, .F, .F]) (s_test (SO.b (s_op (o_in false) (SF.b (s_varF (by rfl))) (SF.b (s_c h_SIGNS_UP)))))
      (x_retO (s_callO (g_cons (s_varF (by rfl)) (g_cons (s_varF (by rfl)) (g_cons (s_varF (by rfl)) g_nil)))))
      x_next)
      (x_retO (s_callO (g_cons (s_varF (by rfl)) (g_cons (s_varF (by rfl)) (g_cons (s_varF (by rfl)) g_nil))))))))) hv

/- looked_open: 0 many, 1 so_many_open -/
def t_looked_open (K : PySem.W.Frag) : TS :=
      (tSeq (tIfS (tTest (tOp (rEqU K) (tVar 1) (tC (.int 0))))
      (tRet (tC (.str ("none" : Str))))
      tNext)
      (tSeq (tIfS (tTest (tOp (rEqU K) (tVar 1) (tVar 0)))
      (tRet (tC (.str ("all" : Str))))
      tNext)
      (tRet (tC (.str ("some" : Str))))))
abbrev N_looked_open : List Str := [("many" : Str), ("so_many_open" : Str)]
def v_looked_open (K : PySem.W.Frag) : VS :=
      (vSeqS (vIf (vTest (vOp vEqC (vVar 1) (vC (.int 0))))
      (vRet (vC (.str ("none" : Str))))
      vNext)
      (vSeqS (vIf (vTest (vOp vEqC (vVar 1) (vVar 0)))
      (vRet (vC (.str ("all" : Str))))
      vNext)
      (vRet (vC (.str ("some" : Str))))))
theorem sim_looked_open {K : PySem.W.Frag} {vsp : VSp} (hv : ∀ ds m P VX, vsp ds m P VX → ds.length = 2 ∧ v_looked_open K (vends P) (vstart N_looked_open.length ds) m) :
    ∀ us H Q E, spV K .O vsp us H Q E → t_looked_open K { nx := fun _ H' => Q .non H', rt := Q } (L2.start N_looked_open us) H :=
  sim_def (n := 2) (t := .O) (N := N_looked_open) (Γn := [.F, .F]) (Γb := []) (Γc := []) (ts := fun E => t_looked_open K) (vs := fun VX => v_looked_open K) (by decide) (fun c W VX hK hx => by
    subst hK
    exact (x_seq (x_if (Γn := [.F, .F]) (s_test (SO.b (s_op o_eq (SF.b (s_varF (by rfl))) (SO.b s_int))))
      (x_retO s_str)
      x_next)
      (x_seq (x_if (Γn := [.F, .F]) (s_test (SO.b (s_op o_eq (SF.b (s_varF (by rfl))) (SF.b (s_varF (by rfl))))))
      (x_retO s_str)
      x_next)
      (x_retO s_str)))) hv

/- looked: 0 note, 1 test, 2 many, 3 so_many_open, 4 least, 5 greatest, 6 value, 7 none, 8 each -/
def t_looked (K : PySem.W.Frag) (s_looked_open_ : Sp) (s_has_none_ : Sp) (s_has_all_ : Sp) : TS :=
      (tSeq (tAsg (tVar 0) (gTup K 4 (gCons (gName 2) (gCons (gName 3) (gCons (gName 4) (gCons (gName 5) gNil))))))
      (tSeq (tIfS (tTest (tOp (rEqU K) (tOp (rIxU K) (tVar 1) (tC (.int 0))) (tC (.str ("open" : Str)))))
      (tRet (tCall s_looked_open_ [] E0 (tCons (tVar 2) (tCons (tVar 3) tNil))))
      tNext)
      (tSeq (tIfS (tTest (tOp (rEqU K) (tVar 3) (tVar 2)))
      (tRet (tC (.str ("none" : Str))))
      tNext)
      (tSeq (tIfS (tTest (tOp (rEqU K) (tOp (rIxU K) (tVar 1) (tC (.int 0))) (tC (.str ("among" : Str)))))
      (tSeq (tAsg (tCB (rAll K) (tCons (tLc (iSeqV K (tOp (rIxU K) (tVar 1) (tC (.int 1)))) (gName 6) tYes (tCall s_has_none_ [] E0 (tCons (tVar 4) (tCons (tVar 5) (tCons (tC (.str ("=" : Str))) (tCons (tVar 6) tNil))))) [6]) tNil)) (gName 7))
      (tAsg (tAndV (tOp (rEqU K) (tVar 4) (tVar 5)) (tOp (rInU K false) (tVar 4) (tOp (rIxU K) (tVar 1) (tC (.int 1))))) (gName 8)))
      (tSeq (tAsg (tCall s_has_none_ [] E0 (tCons (tVar 4) (tCons (tVar 5) (tCons (tOp (rIxU K) (tVar 1) (tC (.int 0))) (tCons (tOp (rIxU K) (tVar 1) (tC (.int 1))) tNil))))) (gName 7))
      (tAsg (tCall s_has_all_ [] E0 (tCons (tVar 4) (tCons (tVar 5) (tCons (tOp (rIxU K) (tVar 1) (tC (.int 0))) (tCons (tOp (rIxU K) (tVar 1) (tC (.int 1))) tNil))))) (gName 8))))
      (tSeq (tIfS (tTru K (tVar 7))
      (tRet (tC (.str ("none" : Str))))
      tNext)
      (tSeq (tIfS (tAnd (tTru K (tVar 8)) (tTest (tOp (rEqU K) (tVar 3) (tC (.int 0)))))
      (tRet (tC (.str ("all" : Str))))
      tNext)
      (tRet (tC (.str ("some" : Str))))))))))
abbrev N_looked : List Str := [("note" : Str), ("test" : Str), ("many" : Str), ("so_many_open" : Str), ("least" : Str), ("greatest" : Str), ("value" : Str), ("none" : Str), ("each" : Str)]
def v_looked (K : PySem.W.Frag) (vs_looked_open : VSp) (vs_has_none : VSp) (vs_has_all : VSp) : VS :=
      (vSeqS (vAsg (vVar 0) (vgTup 4 (vgCons (vgName 2) (vgCons (vgName 3) (vgCons (vgName 4) (vgCons (vgName 5) vgNil))))))
      (vSeqS (vIf (vTest (vOp vEqC (vOp vIx (vVar 1) (vC (.int 0))) (vC (.str ("open" : Str)))))
      (vRet (vCall vs_looked_open (vCons (vVar 2) (vCons (vVar 3) vNil))))
      vNext)
      (vSeqS (vIf (vTest (vOp vEqC (vVar 3) (vVar 2)))
      (vRet (vC (.str ("none" : Str))))
      vNext)
      (vSeqS (vIf (vTest (vOp vEqC (vOp vIx (vVar 1) (vC (.int 0))) (vC (.str ("among" : Str)))))
      (vSeqS (vAsg (vCB vAll (vCons (vLc (vSeq (vOp vIx (vVar 1) (vC (.int 1)))) (vgName 6) vYes (vCall vs_has_none (vCons (vVar 4) (vCons (vVar 5) (vCons (vC (.str ("=" : Str))) (vCons (vVar 6) vNil))))) [6]) vNil)) (vgName 7))
      (vAsg (vAndV (vOp vEqC (vVar 4) (vVar 5)) (vOp (vIn false) (vVar 4) (vOp vIx (vVar 1) (vC (.int 1))))) (vgName 8)))
      (vSeqS (vAsg (vCall vs_has_none (vCons (vVar 4) (vCons (vVar 5) (vCons (vOp vIx (vVar 1) (vC (.int 0))) (vCons (vOp vIx (vVar 1) (vC (.int 1))) vNil))))) (vgName 7))
      (vAsg (vCall vs_has_all (vCons (vVar 4) (vCons (vVar 5) (vCons (vOp vIx (vVar 1) (vC (.int 0))) (vCons (vOp vIx (vVar 1) (vC (.int 1))) vNil))))) (vgName 8))))
      (vSeqS (vIf (vTru (vVar 7))
      (vRet (vC (.str ("none" : Str))))
      vNext)
      (vSeqS (vIf (vAnd (vTru (vVar 8)) (vTest (vOp vEqC (vVar 3) (vC (.int 0)))))
      (vRet (vC (.str ("all" : Str))))
      vNext)
      (vRet (vC (.str ("some" : Str))))))))))
theorem sim_looked {K : PySem.W.Frag} {vs_looked_open : VSp} {vs_has_none : VSp} {vs_has_all : VSp} {vsp : VSp} (hv : ∀ ds m P VX, vsp ds m P VX → ds.length = 2 ∧ v_looked K vs_looked_open vs_has_none vs_has_all (vends P) (vstart N_looked.length ds) m) :
    ∀ us H Q E, spV K .O vsp us H Q E → t_looked K (spV K .O vs_looked_open) (spV K .O vs_has_none) (spV K .O vs_has_all) { nx := fun _ H' => Q .non H', rt := Q } (L2.start N_looked us) H :=
  sim_def (n := 2) (t := .O) (N := N_looked) (Γn := [.F, .F, .F, .F, .F, .F, .F, .F, .F]) (Γb := []) (Γc := []) (ts := fun E => t_looked K (spV K .O vs_looked_open) (spV K .O vs_has_none) (spV K .O vs_has_all)) (vs := fun VX => v_looked K vs_looked_open vs_has_none vs_has_all) (by decide) (fun c W VX hK hx => by
    subst hK
    exact (x_seq (x_asgT (s_varF (by rfl)) (tg_tup (tg_cons (tg_name (is := [2, 3, 4, 5]) (by rfl) (by decide)) (tg_cons (tg_name (is := [2, 3, 4, 5]) (by rfl) (by decide)) (tg_cons (tg_name (is := [2, 3, 4, 5]) (by rfl) (by decide)) (tg_cons (tg_name (is := [2, 3, 4, 5]) (by rfl) (by decide)) tg_nil))))))
      (x_seq (x_if (Γn := [.F, .F, .F, .F, .F, .F, .F, .F, .F]) (s_test (SO.b (s_op o_eq (SF.b (s_opF o_ix (SF.b (s_varF (by rfl))) (SO.b s_int))) (SO.b s_str))))
      (x_retO (s_callO (g_cons (s_varF (by rfl)) (g_cons (s_varF (by rfl)) g_nil))))
      x_next)
      (x_seq (x_if (Γn := [.F, .F, .F, .F, .F, .F, .F, .F, .F]) (s_test (SO.b (s_op o_eq (SF.b (s_varF (by rfl))) (SF.b (s_varF (by rfl))))))
      (x_retO s_str)
      x_next)
      (x_seq (x_if (Γn := [.F, .F, .F, .F, .F, .F, .F, .O, .O]) (s_test (SO.b (s_op o_eq (SF.b (s_opF o_ix (SF.b (s_varF (by rfl))) (SO.b s_int))) (SO.b s_str))))
      (x_seq (x_asgO (i := 7) (s_cb l_all (a_cons (SO.b (s_lc (vs := [6]) (i_seq (s_opF o_ix (SF.b (s_varF (by rfl))) (SO.b s_int))) (by rfl) (tg_name (is := [6]) (by rfl) (by decide)) s_yes (SO.f (s_callO (g_cons (s_varF (by rfl)) (g_cons (s_varF (by rfl)) (g_cons (SO.f s_str) (g_cons (s_varF (by rfl)) g_nil)))))))) a_nil)))
      (x_asgO (i := 8) (s_andV (SO.b (s_op o_eq (SF.b (s_varF (by rfl))) (SF.b (s_varF (by rfl))))) (s_op (o_in false) (SF.b (s_varF (by rfl))) (SF.b (s_opF o_ix (SF.b (s_varF (by rfl))) (SO.b s_int)))))))
      (x_seq (x_asgO (i := 7) (s_callO (g_cons (s_varF (by rfl)) (g_cons (s_varF (by rfl)) (g_cons (s_opF o_ix (SF.b (s_varF (by rfl))) (SO.b s_int)) (g_cons (s_opF o_ix (SF.b (s_varF (by rfl))) (SO.b s_int)) g_nil))))))
      (x_asgO (i := 8) (s_callO (g_cons (s_varF (by rfl)) (g_cons (s_varF (by rfl)) (g_cons (s_opF o_ix (SF.b (s_varF (by rfl))) (SO.b s_int)) (g_cons (s_opF o_ix (SF.b (s_varF (by rfl))) (SO.b s_int)) g_nil))))))))
      (x_seq (x_if (Γn := [.F, .F, .F, .F, .F, .F, .F, .O, .O]) (s_tru (s_varB (t := .O) (by rfl)))
      (x_retO s_str)
      x_next)
      (x_seq (x_if (Γn := [.F, .F, .F, .F, .F, .F, .F, .O, .O]) (s_and (s_tru (s_varB (t := .O) (by rfl))) (s_test (SO.b (s_op o_eq (SF.b (s_varF (by rfl))) (SO.b s_int)))))
      (x_retO s_str)
      x_next)
      (x_retO s_str)))))))) hv

/- _law_meets: 0 _law_cell, 1 _law_test_here, 2 _law_value_here, 3 _law_order -/
def t_own_meets (K : PySem.W.Frag) : TS :=
      (tSeq (tIfS (tTest (tOp (rEqU K) (tOp (rIxU K) (tVar 1) (tC (.int 0))) (tC (.str ("open" : Str)))))
      (tRet (tOp (rIsN) (tVar 0) (tC .non)))
      tNext)
      (tSeq (tIfS (tTest (tOp (rIsN) (tVar 0) (tC .non)))
      (tRet (tC (.bl false)))
      tNext)
      (tSeq (tIfS (tTest (tOp (rEqU K) (tOp (rIxU K) (tVar 1) (tC (.int 0))) (tC (.str ("among" : Str)))))
      (tRet (tCB (rAny K) (tCons (tLc (iSeqV K (tOp (rIxU K) (tVar 1) (tC (.int 1)))) (gName 2) tYes (tOp (rEqU K) (tVar 0) (tVar 2)) [2]) tNil)))
      tNext)
      (tSeq (tAsg (tOp (rSubU) (tCB (rIntU) (tCons (tOp (rGtV) (tVar 0) (tOp (rIxU K) (tVar 1) (tC (.int 1)))) tNil)) (tCB (rIntU) (tCons (tOp (rLtU K) (tVar 0) (tOp (rIxU K) (tVar 1) (tC (.int 1)))) tNil))) (gName 3))
      (tRet (tOp (rInU K false) (tVar 3) (tOp (rIxU K) (tDisp [((tC (.str ("=" : Str))), (tLst (tCons (tC (.int 0)) tNil))), ((tC (.str ("<>" : Str))), (tLst (tCons (tUn rNeg (tC (.int 1))) (tCons (tC (.int 1)) tNil)))), ((tC (.str ("<" : Str))), (tLst (tCons (tUn rNeg (tC (.int 1))) tNil))), ((tC (.str ("<=" : Str))), (tLst (tCons (tUn rNeg (tC (.int 1))) (tCons (tC (.int 0)) tNil)))), ((tC (.str (">" : Str))), (tLst (tCons (tC (.int 1)) tNil))), ((tC (.str (">=" : Str))), (tLst (tCons (tC (.int 0)) (tCons (tC (.int 1)) tNil))))]) (tOp (rIxU K) (tVar 1) (tC (.int 0))))))))))
abbrev N_own_meets : List Str := [("_law_cell" : Str), ("_law_test_here" : Str), ("_law_value_here" : Str), ("_law_order" : Str)]
def v_own_meets (K : PySem.W.Frag) : VS :=
      (vSeqS (vIf (vTest (vOp vEqC (vOp vIx (vVar 1) (vC (.int 0))) (vC (.str ("open" : Str)))))
      (vRet (vOp vIsN (vVar 0) (vC .non)))
      vNext)
      (vSeqS (vIf (vTest (vOp vIsN (vVar 0) (vC .non)))
      (vRet (vC (.bl false)))
      vNext)
      (vSeqS (vIf (vTest (vOp vEqC (vOp vIx (vVar 1) (vC (.int 0))) (vC (.str ("among" : Str)))))
      (vRet (vCB vAny (vCons (vLc (vSeq (vOp vIx (vVar 1) (vC (.int 1)))) (vgName 2) vYes (vOp vEqC (vVar 0) (vVar 2)) [2]) vNil)))
      vNext)
      (vSeqS (vAsg (vOp vSub (vCB vInt (vCons (vOp vGt (vVar 0) (vOp vIx (vVar 1) (vC (.int 1)))) vNil)) (vCB vInt (vCons (vOp vLt (vVar 0) (vOp vIx (vVar 1) (vC (.int 1)))) vNil))) (vgName 3))
      (vRet (vOp (vIn false) (vVar 3) (vOp vIx (vDisp (vpCons (vC (.str ("=" : Str))) (vLst (vCons (vC (.int 0)) vNil)) (vpCons (vC (.str ("<>" : Str))) (vLst (vCons (vUn vNeg (vC (.int 1))) (vCons (vC (.int 1)) vNil))) (vpCons (vC (.str ("<" : Str))) (vLst (vCons (vUn vNeg (vC (.int 1))) vNil)) (vpCons (vC (.str ("<=" : Str))) (vLst (vCons (vUn vNeg (vC (.int 1))) (vCons (vC (.int 0)) vNil))) (vpCons (vC (.str (">" : Str))) (vLst (vCons (vC (.int 1)) vNil)) (vpCons (vC (.str (">=" : Str))) (vLst (vCons (vC (.int 0)) (vCons (vC (.int 1)) vNil))) vpNil))))))) (vOp vIx (vVar 1) (vC (.int 0))))))))))
theorem sim_own_meets {K : PySem.W.Frag} {vsp : VSp} (hv : ∀ ds m P VX, vsp ds m P VX → ds.length = 2 ∧ v_own_meets K (vends P) (vstart N_own_meets.length ds) m) :
    ∀ us H Q E, spV K .O vsp us H Q E → t_own_meets K { nx := fun _ H' => Q .non H', rt := Q } (L2.start N_own_meets us) H :=
  sim_def (n := 2) (t := .O) (N := N_own_meets) (Γn := [.F, .F, .F, .F]) (Γb := []) (Γc := []) (ts := fun E => t_own_meets K) (vs := fun VX => v_own_meets K) (by decide) (fun c W VX hK hx => by
    subst hK
    exact (x_seq (x_if (Γn := [.F, .F, .F, .F]) (s_test (SO.b (s_op o_eq (SF.b (s_opF o_ix (SF.b (s_varF (by rfl))) (SO.b s_int))) (SO.b s_str))))
      (x_retO (s_op o_isN (SF.b (s_varF (by rfl))) (SO.b s_non)))
      x_next)
      (x_seq (x_if (Γn := [.F, .F, .F, .F]) (s_test (SO.b (s_op o_isN (SF.b (s_varF (by rfl))) (SO.b s_non))))
      (x_retO s_bl)
      x_next)
      (x_seq (x_if (Γn := [.F, .F, .F, .F]) (s_test (SO.b (s_op o_eq (SF.b (s_opF o_ix (SF.b (s_varF (by rfl))) (SO.b s_int))) (SO.b s_str))))
      (x_retO (s_cb l_any (a_cons (SO.b (s_lc (vs := [2]) (i_seq (s_opF o_ix (SF.b (s_varF (by rfl))) (SO.b s_int))) (by rfl) (tg_name (is := [2]) (by rfl) (by decide)) s_yes (SO.f (s_op o_eq (SF.b (s_varF (by rfl))) (SF.b (s_varF (by rfl))))))) a_nil)))
      x_next)
      (x_seq (x_asgO (i := 3) (s_op o_sub (SO.b (s_cb l_int (a_cons (SO.b (s_op o_gt (SF.b (s_varF (by rfl))) (SF.b (s_opF o_ix (SF.b (s_varF (by rfl))) (SO.b s_int))))) a_nil))) (SO.b (s_cb l_int (a_cons (SO.b (s_op o_lt (SF.b (s_varF (by rfl))) (SF.b (s_opF o_ix (SF.b (s_varF (by rfl))) (SO.b s_int))))) a_nil)))))
      (x_retO (s_op (o_in false) (s_varB (t := .O) (by rfl)) (SF.b (s_opF o_ix (SO.b (s_disp (p_cons (SO.f s_str) (SO.f (s_lst (g_cons (SO.f s_int) g_nil))) (p_cons (SO.f s_str) (SO.f (s_lst (g_cons (SO.f (s_un o_neg (SO.b s_int))) (g_cons (SO.f s_int) g_nil)))) (p_cons (SO.f s_str) (SO.f (s_lst (g_cons (SO.f (s_un o_neg (SO.b s_int))) g_nil))) (p_cons (SO.f s_str) (SO.f (s_lst (g_cons (SO.f (s_un o_neg (SO.b s_int))) (g_cons (SO.f s_int) g_nil)))) (p_cons (SO.f s_str) (SO.f (s_lst (g_cons (SO.f s_int) g_nil))) (p_cons (SO.f s_str) (SO.f (s_lst (g_cons (SO.f s_int) (g_cons (SO.f s_int) g_nil)))) p_nil)))))))) (SF.b (s_opF o_ix (SF.b (s_varF (by rfl))) (SO.b s_int)))))))))))) hv

/- _law_note: 0 _law_cells_here, 1 _law_cell, 2 _law_known -/
def t_note (K : PySem.W.Frag) : TS :=
      (tSeq (tAsg (tCB (rSortIT K) (tCons (tLc (iSeqV K (tVar 0)) (gName 1) (tTest (tOp (rNotN) (tVar 1) (tC .non))) (tVar 1) [1]) tNil)) (gName 2))
      (tSeq (tIfS (tTest (tOp (rEqU K) (tVar 2) (tLst tNil)))
      (tRet (tTup (tCons (tCB (rLenU K) (tCons (tVar 0) tNil)) (tCons (tCB (rLenU K) (tCons (tVar 0) tNil)) (tCons (tC .non) (tCons (tC .non) tNil))))))
      tNext)
      (tRet (tTup (tCons (tCB (rLenU K) (tCons (tVar 0) tNil)) (tCons (tOp (rSubU) (tCB (rLenU K) (tCons (tVar 0) tNil)) (tCB (rLenU K) (tCons (tVar 2) tNil))) (tCons (tOp (rIxU K) (tVar 2) (tC (.int 0))) (tCons (tOp (rIxU K) (tVar 2) (tUn rNeg (tC (.int 1)))) tNil))))))))
abbrev N_note : List Str := [("_law_cells_here" : Str), ("_law_cell" : Str), ("_law_known" : Str)]
def v_note (K : PySem.W.Frag) : VS :=
      (vSeqS (vAsg (vCB vSorted (vCons (vLc (vSeq (vVar 0)) (vgName 1) (vTest (vOp vNotN (vVar 1) (vC .non))) (vVar 1) [1]) vNil)) (vgName 2))
      (vSeqS (vIf (vTest (vOp vEqC (vVar 2) (vLst vNil)))
      (vRet (vTup (vCons (vCB vLen (vCons (vVar 0) vNil)) (vCons (vCB vLen (vCons (vVar 0) vNil)) (vCons (vC .non) (vCons (vC .non) vNil))))))
      vNext)
      (vRet (vTup (vCons (vCB vLen (vCons (vVar 0) vNil)) (vCons (vOp vSub (vCB vLen (vCons (vVar 0) vNil)) (vCB vLen (vCons (vVar 2) vNil))) (vCons (vOp vIx (vVar 2) (vC (.int 0))) (vCons (vOp vIx (vVar 2) (vUn vNeg (vC (.int 1)))) vNil))))))))
theorem sim_note {K : PySem.W.Frag} {vsp : VSp} (hv : ∀ ds m P VX, vsp ds m P VX → ds.length = 1 ∧ v_note K (vends P) (vstart N_note.length ds) m) :
    ∀ us H Q E, spV K .O vsp us H Q E → t_note K { nx := fun _ H' => Q .non H', rt := Q } (L2.start N_note us) H :=
  sim_def (n := 1) (t := .O) (N := N_note) (Γn := [.F, .F, .F]) (Γb := []) (Γc := []) (ts := fun E => t_note K) (vs := fun VX => v_note K) (by decide) (fun c W VX hK hx => by
    subst hK
    exact (x_seq (x_asgO (i := 2) (s_cb l_sorted (a_cons (SO.b (s_lc (vs := [1]) (i_seq (s_varF (by rfl))) (by rfl) (tg_name (is := [1]) (by rfl) (by decide)) (s_test (SO.b (s_op o_notN (SF.b (s_varF (by rfl))) (SO.b s_non)))) (s_varF (by rfl)))) a_nil)))
      (x_seq (x_if (Γn := [.F, .F, .O]) (s_test (SO.b (s_op o_eq (s_varB (t := .O) (by rfl)) (SO.b (s_lst g_nil)))))
      (x_retO (s_tup (g_cons (SO.f (s_cb l_len (a_cons (SF.b (s_varF (by rfl))) a_nil))) (g_cons (SO.f (s_cb l_len (a_cons (SF.b (s_varF (by rfl))) a_nil))) (g_cons (SO.f s_non) (g_cons (SO.f s_non) g_nil))))))
      x_next)
      (x_retO (s_tup (g_cons (SO.f (s_cb l_len (a_cons (SF.b (s_varF (by rfl))) a_nil))) (g_cons (SO.f (s_op o_sub (SO.b (s_cb l_len (a_cons (SF.b (s_varF (by rfl))) a_nil))) (SO.b (s_cb l_len (a_cons (s_varB (t := .O) (by rfl)) a_nil))))) (g_cons (s_opF o_ix (s_varB (t := .O) (by rfl)) (SO.b s_int)) (g_cons (s_opF o_ix (s_varB (t := .O) (by rfl)) (SO.b (s_un o_neg (SO.b s_int)))) g_nil))))))))) hv

inductive Sg where
  | eq | ne | lt | le | gt | ge
def sgS : Sg → Str
  | .eq => "=" | .ne => "<>" | .lt => "<" | .le => "<=" | .gt => ">" | .ge => ">="
theorem sg6_of {w : Str} (h : w ∈ signs6) : ∃ g, w = sgS g := by
  unfold signs6 at h
  simp only [List.mem_cons, List.not_mem_nil, or_false] at h
  rcases h with rfl | rfl | rfl | rfl | rfl | rfl
  · exact ⟨.eq, rfl⟩
  · exact ⟨.ne, rfl⟩
  · exact ⟨.lt, rfl⟩
  · exact ⟨.le, rfl⟩
  · exact ⟨.gt, rfl⟩
  · exact ⟨.ge, rfl⟩
/-- how a value stands to another -/
def soD (c : D) : Sg → D → Bool
  | .eq, v => eqDD c v
  | .ne, v => !eqDD c v
  | .lt, v => ltD c v
  | .le, v => !ltD v c
  | .gt, v => ltD v c
  | .ge, v => !ltD c v
def wIsSo : VSp := fun ds m P _ => ∃ (k : Kd) (c v : D) (g : Sg), ds = [c, .str (sgS g), v] ∧ Val k c ∧ Val k v ∧ P (.bl (soD c g v)) m
theorem p_is_so {K : PySem.W.Frag} (ds : List D) (m : Mst) (P : D → Mst → Prop) (VX : XV) (h : wIsSo ds m P VX) : ds.length = 3 ∧ v_is_so K (vends P) (vstart N_is_so.length ds) m := by
  obtain ⟨k, c, v, g, rfl, hc, hv, hP⟩ := h
  refine ⟨rfl, ?_⟩
  unfold v_is_so
  cases g with
  | eq => show (vSeqS _ _ : VS) _ [some c, some (.str "="), some v] _; walk_at "vw"; exact e_eqV hc hv hP
  | ne => show (vSeqS _ _ : VS) _ [some c, some (.str "<>"), some v] _; walk_at "vw"; exact e_neV hc hv hP
  | lt => show (vSeqS _ _ : VS) _ [some c, some (.str "<"), some v] _; walk_at "vw"; exact e_ltV hc hv hP
  | le => show (vSeqS _ _ : VS) _ [some c, some (.str "<="), some v] _; walk_at "vw"; exact e_leV hc hv hP
  | gt => show (vSeqS _ _ : VS) _ [some c, some (.str ">"), some v] _; walk_at "vw"; exact e_gtV hc hv hP
  | ge => show (vSeqS _ _ : VS) _ [some c, some (.str ">="), some v] _; walk_at "vw"; exact e_geV hc hv hP
/-- no value between two ends stands so -/
def hnD (a b : D) : Sg → D → Bool
  | .eq, v => ltD v a || ltD b v
  | .ne, v => eqDD a v && eqDD b v
  | .lt, v => !soD a .lt v
  | .le, v => !soD a .le v
  | .gt, v => !soD b .gt v
  | .ge, v => !soD b .ge v
/-- each value between two ends stands so -/
def haD (a b : D) : Sg → D → Bool
  | .eq, v => eqDD a v && eqDD b v
  | .ne, v => ltD v a || ltD b v
  | .lt, v => soD b .lt v
  | .le, v => soD b .le v
  | .gt, v => soD a .gt v
  | .ge, v => soD a .ge v
section
variable {Z : D → Prop} {x y : D} {ds : List D} {env : Env} {m : Mst} {P : D → Mst → Prop} {va vb : VE} {k : Kd}
theorem e_inT {b : Bool} (h1 : x.fl = true) (h2 : ds.all D.fl = true) (e : (ds.any fun y => eqF y x) = b) (h : Z (.bl b)) : vIn false x (.tup ds) Z := by
  cases x <;> first | exact absurd h1 Bool.false_ne_true | exact ⟨⟨h1, h2⟩, by rw [if_neg Bool.false_ne_true, e]; exact h⟩
theorem e_inL {b : Bool} (h1 : x.fl = true) (h2 : ds.all D.fl = true) (e : (ds.any fun y => eqF y x) = b) (h : Z (.bl b)) : vIn false x (.lst ds) Z := by
  cases x <;> first | exact absurd h1 Bool.false_ne_true | exact ⟨⟨h1, h2⟩, by rw [if_neg Bool.false_ne_true, e]; exact h⟩
theorem e_niL {b : Bool} (h1 : x.fl = true) (h2 : ds.all D.fl = true) (e : (!(ds.any fun y => eqF y x)) = b) (h : Z (.bl b)) : vIn true x (.lst ds) Z := by
  cases x <;> first | exact absurd h1 Bool.false_ne_true | exact ⟨⟨h1, h2⟩, by rw [if_pos rfl, e]; exact h⟩
/-- or, and of two bools -/
theorem e_or2 {a b : Bool} (ha : ∀ Q : D → Mst → Prop, Q (.bl a) m → va env m Q) (hb : ∀ Q : D → Mst → Prop, Q (.bl b) m → vb env m Q) (h : P (.bl (a || b)) m) : vOrV va vb env m P := by
  refine ha _ ⟨a, rfl, ?_⟩
  cases a with
  | true => exact h
  | false => exact hb _ h
theorem e_and2 {a b : Bool} (ha : ∀ Q : D → Mst → Prop, Q (.bl a) m → va env m Q) (hb : ∀ Q : D → Mst → Prop, Q (.bl b) m → vb env m Q) (h : P (.bl (a && b)) m) : vAndV va vb env m P := by
  refine ha _ ⟨a, rfl, ?_⟩
  cases a with
  | true => exact hb _ h
  | false => exact h
theorem val_fl (h : Val k x) : x.fl = true := by
  cases k with
  | num => obtain ⟨i, rfl, _⟩ := h; rfl
  | txt => obtain ⟨i, rfl, _⟩ := h; rfl
theorem eqF_val (hx : Val k x) (hy : Val k y) : eqF x y = eqDD x y := by
  cases k with
  | num => obtain ⟨i, rfl, _⟩ := hx; obtain ⟨j, rfl, _⟩ := hy; show (i == j) = decide (i = j); rfl
  | txt =>
    obtain ⟨i, rfl, _⟩ := hx; obtain ⟨j, rfl, _⟩ := hy
    show (i == j) = decide (i = j)
    by_cases h : i = j
    · subst h; rw [decide_eq_true rfl]; exact beq_self_eq_true i
    · rw [decide_eq_false h]; exact beq_eq_false_iff_ne.mpr h
theorem vals_fl (h : ∀ v ∈ ds, Val k v) : ds.all D.fl = true := List.all_eq_true.mpr fun v hv => val_fl (h v hv)
theorem any_val (hx : Val k x) (h : ∀ v ∈ ds, Val k v) : (ds.any fun y => eqF y x) = ds.any fun y => eqDD y x := by
  induction ds with
  | nil => rfl
  | cons d ds ih => rw [List.any_cons, List.any_cons, ih fun v hv => h v (List.mem_cons_of_mem _ hv), eqF_val (h d List.mem_cons_self) hx]
end
def wHas (f : D → D → Sg → D → Bool) : VSp := fun ds m P _ => ∃ (k : Kd) (a b v : D) (g : Sg), ds = [a, b, .str (sgS g), v] ∧ Val k a ∧ Val k b ∧ Val k v ∧ P (.bl (f a b g v)) m
theorem p_has_none {K : PySem.W.Frag} (ds : List D) (m : Mst) (P : D → Mst → Prop) (VX : XV) (h : wHas hnD ds m P VX) : ds.length = 4 ∧ v_has_none K wIsSo (vends P) (vstart N_has_none.length ds) m := by
  obtain ⟨k, a, b, v, g, rfl, ha, hb, hv, hP⟩ := h
  refine ⟨rfl, ?_⟩
  unfold v_has_none
  cases g with
  | eq =>
    show (vSeqS _ _ : VS) _ [some a, some b, some (.str "="), some v] _
    walk_at "vw"
    have hP : P (.bl (ltD v a || ltD b v)) m := hP
    refine e_ltV hv ha ⟨_, rfl, ?_⟩
    cases e : ltD v a with
    | true => rw [e] at hP; exact w_ifT hP
    | false => rw [e] at hP; refine w_ifF ?_; walk_at "vv"; exact e_gtV hv hb hP
  | ne =>
    show (vSeqS _ _ : VS) _ [some a, some b, some (.str "<>"), some v] _
    walk_at "vw"
    have hP : P (.bl (eqDD a v && eqDD b v)) m := hP
    refine e_eqV ha hv ⟨_, rfl, ?_⟩
    cases e : eqDD a v with
    | true => rw [e] at hP; refine w_ifT ?_; walk_at "vv"; exact e_eqV hb hv hP
    | false => rw [e] at hP; exact w_ifF hP
  | lt =>
    show (vSeqS _ _ : VS) _ [some a, some b, some (.str "<"), some v] _
    walk_at "vw"
    refine e_inT rfl rfl (b := true) (by decide +kernel) ⟨_, rfl, w_ifT ?_⟩
    walk_at "vv"
    exact ⟨k, a, v, .lt, rfl, ha, hv, _, rfl, hP⟩
  | le =>
    show (vSeqS _ _ : VS) _ [some a, some b, some (.str "<="), some v] _
    walk_at "vw"
    refine e_inT rfl rfl (b := true) (by decide +kernel) ⟨_, rfl, w_ifT ?_⟩
    walk_at "vv"
    exact ⟨k, a, v, .le, rfl, ha, hv, _, rfl, hP⟩
  | gt =>
    show (vSeqS _ _ : VS) _ [some a, some b, some (.str ">"), some v] _
    walk_at "vw"
    refine e_inT rfl rfl (b := false) (by decide +kernel) ⟨_, rfl, w_ifF ?_⟩
    walk_at "vv"
    exact ⟨k, b, v, .gt, rfl, hb, hv, _, rfl, hP⟩
  | ge =>
    show (vSeqS _ _ : VS) _ [some a, some b, some (.str ">="), some v] _
    walk_at "vw"
    refine e_inT rfl rfl (b := false) (by decide +kernel) ⟨_, rfl, w_ifF ?_⟩
    walk_at "vv"
    exact ⟨k, b, v, .ge, rfl, hb, hv, _, rfl, hP⟩
theorem p_has_all {K : PySem.W.Frag} (ds : List D) (m : Mst) (P : D → Mst → Prop) (VX : XV) (h : wHas haD ds m P VX) : ds.length = 4 ∧ v_has_all K wIsSo (vends P) (vstart N_has_all.length ds) m := by
  obtain ⟨k, a, b, v, g, rfl, ha, hb, hv, hP⟩ := h
  refine ⟨rfl, ?_⟩
  unfold v_has_all
  cases g with
  | ne =>
    show (vSeqS _ _ : VS) _ [some a, some b, some (.str "<>"), some v] _
    walk_at "vw"
    have hP : P (.bl (ltD v a || ltD b v)) m := hP
    refine e_ltV hv ha ⟨_, rfl, ?_⟩
    cases e : ltD v a with
    | true => rw [e] at hP; exact w_ifT hP
    | false => rw [e] at hP; refine w_ifF ?_; walk_at "vv"; exact e_gtV hv hb hP
  | eq =>
    show (vSeqS _ _ : VS) _ [some a, some b, some (.str "="), some v] _
    walk_at "vw"
    have hP : P (.bl (eqDD a v && eqDD b v)) m := hP
    refine e_eqV ha hv ⟨_, rfl, ?_⟩
    cases e : eqDD a v with
    | true => rw [e] at hP; refine w_ifT ?_; walk_at "vv"; exact e_eqV hb hv hP
    | false => rw [e] at hP; exact w_ifF hP
  | lt =>
    show (vSeqS _ _ : VS) _ [some a, some b, some (.str "<"), some v] _
    walk_at "vw"
    refine e_inT rfl rfl (b := true) (by decide +kernel) ⟨_, rfl, w_ifT ?_⟩
    walk_at "vv"
    exact ⟨k, b, v, .lt, rfl, hb, hv, hP⟩
  | le =>
    show (vSeqS _ _ : VS) _ [some a, some b, some (.str "<="), some v] _
    walk_at "vw"
    refine e_inT rfl rfl (b := true) (by decide +kernel) ⟨_, rfl, w_ifT ?_⟩
    walk_at "vv"
    exact ⟨k, b, v, .le, rfl, hb, hv, hP⟩
  | gt =>
    show (vSeqS _ _ : VS) _ [some a, some b, some (.str ">"), some v] _
    walk_at "vw"
    refine e_inT rfl rfl (b := false) (by decide +kernel) ⟨_, rfl, w_ifF ?_⟩
    walk_at "vv"
    exact ⟨k, a, v, .gt, rfl, ha, hv, hP⟩
  | ge =>
    show (vSeqS _ _ : VS) _ [some a, some b, some (.str ">="), some v] _
    walk_at "vw"
    refine e_inT rfl rfl (b := false) (by decide +kernel) ⟨_, rfl, w_ifF ?_⟩
    walk_at "vv"
    exact ⟨k, a, v, .ge, rfl, ha, hv, hP⟩
theorem lc_bl {vg : VG} {ve : VE} {ws : List Nat} {env : Env} {m : Mst} {P : D → Mst → Prop} {vs : List D} {f : D → Bool} (hz : vs.length ≤ 16777216) (hs : ∀ (i : Nat) (v : D) (Q : D → Mst → Prop), v ∈ vs → Q (.bl (f v)) m → vg v (wipeE env ws) fun e1 => ve e1 m Q)
    (k : P (.lst ((vs.map f).map D.bl)) m) : lcD vs vg vYes ve ws env m P := by
  have e : vs = vs.map id := (List.map_id vs).symm
  rw [e]
  refine lc_mapL (g := id) (h := fun v => .bl (f v)) hz (fun i v Q ev hQ => hs i v Q (List.mem_of_getElem? ev) hQ) ?_
  rw [List.map_map] at k
  exact k
theorem all_map {f : D → Bool} : ∀ vs : List D, (vs.map f).all id = vs.all f
  | [] => rfl
  | v :: vs => by rw [List.map_cons, List.all_cons, List.all_cons, all_map vs]; rfl
theorem any_map {f : D → Bool} : ∀ vs : List D, (vs.map f).any id = vs.any f
  | [] => rfl
  | v :: vs => by rw [List.map_cons, List.any_cons, List.any_cons, any_map vs]; rfl
/-- a test -/
inductive Ts where
  | opn
  | amg (vs : List D)
  | sg (g : Sg) (v : D)
def tsD : Ts → D
  | .opn => .tup [.str "open"]
  | .amg vs => .tup [.str "among", .lst vs]
  | .sg g v => .tup [.str (sgS g), v]
def OkT (k : Kd) : Ts → Prop
  | .opn => True
  | .amg vs => vs.length ≤ 9 ∧ ∀ v ∈ vs, Val k v
  | .sg _ v => Val k v
theorem isTest_ts {k : Kd} {t : D} (h : IsTest k t) : ∃ s, t = tsD s ∧ OkT k s := by
  rcases h with rfl | ⟨vs, rfl, hl, hv⟩ | ⟨w, v, rfl, hw, hv⟩
  · exact ⟨.opn, rfl, trivial⟩
  · exact ⟨.amg vs, rfl, hl, hv⟩
  · obtain ⟨g, rfl⟩ := sg6_of hw
    exact ⟨.sg g v, rfl, hv⟩
def noteD (many opened : Nat) (a b : D) : D := .tup [.int many, .int opened, a, b]
/-- what a note tells of a test -/
def lkD (many opened : Nat) (a b : D) : Ts → Str
  | .opn => if opened = 0 then "none" else if opened = many then "all" else "some"
  | .amg vs => if opened = many then "none" else if (vs.all fun v => hnD a b .eq v) = true then "none" else if (eqDD a b && vs.any fun y => eqDD y a) = true ∧ opened = 0 then "all" else "some"
  | .sg g v => if opened = many then "none" else if hnD a b g v = true then "none" else if haD a b g v = true ∧ opened = 0 then "all" else "some"
def OkN (k : Kd) (many opened : Nat) (a b : D) : Prop := 1 ≤ many ∧ opened ≤ many ∧ (opened = many ∨ (Val k a ∧ Val k b ∧ ltD b a = false))
def wLookOpen : VSp := fun ds m P _ => ∃ (many opened : Nat), ds = [.int many, .int opened] ∧ P (.str (lkD many opened .non .non .opn)) m
theorem p_looked_open {K : PySem.W.Frag} (ds : List D) (m : Mst) (P : D → Mst → Prop) (VX : XV) (h : wLookOpen ds m P VX) : ds.length = 2 ∧ v_looked_open K (vends P) (vstart N_looked_open.length ds) m := by
  obtain ⟨many, opened, rfl, hP⟩ := h
  refine ⟨rfl, ?_⟩
  unfold v_looked_open
  walk_at "vi"
  refine w_ifd (fun c => ?_) (fun c => ?_)
  · walk_at "vv"
    have e : lkD many opened .non .non .opn = "none" := if_pos (by omega)
    rw [e] at hP; exact hP
  · walk_at "vv"
    walk_at "vi"
    refine w_ifd (fun c2 => ?_) (fun c2 => ?_)
    · walk_at "vv"
      have e : lkD many opened .non .non .opn = "all" := (if_neg (by omega)).trans (if_pos (by omega))
      rw [e] at hP; exact hP
    · walk_at "vv"
      have e : lkD many opened .non .non .opn = "some" := (if_neg (by omega)).trans (if_neg (by omega))
      rw [e] at hP; exact hP
def wLooked : VSp := fun ds m P _ => ∃ (k : Kd) (many opened : Nat) (a b : D) (t : Ts), ds = [noteD many opened a b, tsD t] ∧ OkN k many opened a b ∧ OkT k t ∧ P (.str (lkD many opened a b t)) m
theorem p_looked {K : PySem.W.Frag} (ds : List D) (m : Mst) (P : D → Mst → Prop) (VX : XV) (h : wLooked ds m P VX) : ds.length = 2 ∧ v_looked K wLookOpen (wHas hnD) (wHas haD) (vends P) (vstart N_looked.length ds) m := by
  obtain ⟨k, many, opened, a, b, t, rfl, ⟨hm1, hle, hn⟩, ht, hP⟩ := h
  refine ⟨rfl, ?_⟩
  unfold v_looked
  cases t with
  | opn =>
    show (vSeqS _ _ : VS) _ [some (.tup [.int many, .int opened, a, b]), some (.tup [.str "open"]), none, none, none, none, none, none, none] _
    walk_at "vw"
    refine e_ixT (x := .str "open") rfl ?_
    walk_at "vw"
    exact ⟨many, opened, rfl, hP⟩
  | amg vs =>
    show (vSeqS _ _ : VS) _ [some (.tup [.int many, .int opened, a, b]), some (.tup [.str "among", .lst vs]), none, none, none, none, none, none, none] _
    walk_at "vw"
    refine e_ixT (x := .str "among") rfl ?_
    walk_at "vw"
    refine w_ifd (fun c => ?_) (fun c => ?_)
    · walk_at "vv"
      have e : lkD many opened a b (.amg vs) = "none" := if_pos (by omega)
      rw [e] at hP; exact hP
    · walk_at "vw"
      refine e_ixT (x := .str "among") rfl ?_
      walk_at "vw"
      refine e_ixT (x := .lst vs) rfl ?_
      obtain ⟨hl, hv⟩ := ht
      obtain ⟨ha, hb, hab⟩ : Val k a ∧ Val k b ∧ ltD b a = false := by
        rcases hn with h | h
        · exact absurd (by omega) c
        · exact h
      refine e_itL ?_
      refine lc_bl (f := fun v => hnD a b .eq v) (by omega) (fun i v Q hvm hQ => ?_) ?_
      · walk_at "vv"
        exact ⟨k, a, b, v, .eq, rfl, ha, hb, hv v hvm, hQ⟩
      · walk_at "vv"
        refine e_all ?_
        rw [all_map]
        have hP : P (.str (if (vs.all fun v => hnD a b .eq v) = true then "none" else if (eqDD a b && vs.any fun y => eqDD y a) = true ∧ opened = 0 then "all" else "some")) m := by
          have e : lkD many opened a b (.amg vs) = _ := if_neg (by omega)
          rw [e] at hP; exact hP
        walk_at "vv"
        generalize (vs.all fun v => hnD a b .eq v) = none at hP ⊢
        refine e_eqV ha hb ⟨_, rfl, ?_⟩
        have fin : ∀ (each : Bool) (V : VEnds) (e : Env), V.rt = P → each = (eqDD a b && vs.any fun y => eqDD y a) → e[7]? = some (some (.bl none)) → e[8]? = some (some (.bl each)) → e[3]? = some (some (.int opened)) →
            (vSeqS (vIf (vTru (vVar 7))
      (vRet (vC (.str ("none" : Str))))
      vNext)
      (vSeqS (vIf (vAnd (vTru (vVar 8)) (vTest (vOp vEqC (vVar 3) (vC (.int 0)))))
      (vRet (vC (.str ("all" : Str))))
      vNext)
      (vRet (vC (.str ("some" : Str)))))) V e m := by
          intro each V e hV he h7 h8 h3
          rw [← he] at hP
          refine e_seq (e_if (e_tru (e_var h7 (e_truB ?_))))
          cases none with
          | true => refine w_ifT (e_ret (e_c ?_)); rw [if_pos rfl] at hP; show V.rt _ _; rw [hV]; exact hP
          | false =>
            refine w_ifF (e_next ?_)
            rw [if_neg Bool.false_ne_true] at hP
            refine e_seq (e_if (e_and (e_tru (e_var h8 (e_truB ?_)))))
            cases each with
            | true =>
              refine w_ifT (e_test (e_op (e_var h3 (e_c (e_eqI ⟨_, rfl, ?_⟩)))))
              refine w_ifd (fun c => ?_) (fun c => ?_)
              · refine e_ret (e_c ?_); rw [if_pos ⟨rfl, by omega⟩] at hP; show V.rt _ _; rw [hV]; exact hP
              · refine e_next ?_; rw [if_neg (fun z => c (by omega))] at hP; show V.rt (.str "some") _; rw [hV]; exact hP
            | false =>
              refine w_ifF (w_ifF (e_next ?_)); rw [if_neg (fun z => Bool.false_ne_true z.1)] at hP; show V.rt (.str "some") _; rw [hV]; exact hP
        cases he : eqDD a b with
        | true =>
          refine w_ifT ?_
          walk_at "vv"
          refine e_ixT (x := .lst vs) rfl ?_
          refine e_inL (val_fl ha) (vals_fl hv) (any_val ha hv) ?_
          walk_at "vv"
          exact fin _ _ _ rfl (by rw [he]; rfl) rfl rfl rfl
        | false =>
          refine w_ifF ?_
          walk_at "vv"
          exact fin false _ _ rfl (by rw [he]; rfl) rfl rfl rfl
  | sg g v =>
    show (vSeqS _ _ : VS) _ [some (.tup [.int many, .int opened, a, b]), some (.tup [.str (sgS g), v]), none, none, none, none, none, none, none] _
    have hg : ∀ g : Sg, decide (sgS g = "open") = false ∧ decide (sgS g = "among") = false := fun g => by cases g <;> decide +kernel
    walk_at "vw"
    refine e_ixT (x := .str (sgS g)) rfl ?_
    walk_at "vv"
    rw [(hg g).1]
    walk_at "vw"
    refine w_ifd (fun c => ?_) (fun c => ?_)
    · walk_at "vv"
      have e : lkD many opened a b (.sg g v) = "none" := if_pos (by omega)
      rw [e] at hP; exact hP
    · obtain ⟨ha, hb, hab⟩ : Val k a ∧ Val k b ∧ ltD b a = false := by
        rcases hn with h | h
        · exact absurd (by omega) c
        · exact h
      have hP : P (.str (if hnD a b g v = true then "none" else if haD a b g v = true ∧ opened = 0 then "all" else "some")) m := by
        have e : lkD many opened a b (.sg g v) = _ := if_neg (by omega)
        rw [e] at hP; exact hP
      walk_at "vw"
      refine e_ixT (x := .str (sgS g)) rfl ?_
      walk_at "vv"
      rw [(hg g).2]
      walk_at "vv"
      refine e_ixT (x := .str (sgS g)) rfl ?_
      walk_at "vv"
      refine e_ixT (x := v) rfl ?_
      refine ⟨k, a, b, v, g, rfl, ha, hb, ht, ?_⟩
      walk_at "vv"
      refine e_ixT (x := .str (sgS g)) rfl ?_
      walk_at "vv"
      refine e_ixT (x := v) rfl ?_
      refine ⟨k, a, b, v, g, rfl, ha, hb, ht, ?_⟩
      walk_at "vv"
      walk_at "vi"
      cases e1 : hnD a b g v with
      | true =>
        rw [e1, if_pos rfl] at hP
        refine w_ifT ?_
        walk_at "vv"
        exact hP
      | false =>
        rw [e1, if_neg Bool.false_ne_true] at hP
        refine w_ifF ?_
        walk_at "vv"
        walk_at "vi"
        cases e2 : haD a b g v with
        | true =>
          rw [e2] at hP
          refine w_ifT ?_
          walk_at "vv"
          refine w_ifd (fun c => ?_) (fun c => ?_)
          · walk_at "vv"; rw [if_pos ⟨rfl, by omega⟩] at hP; exact hP
          · walk_at "vv"; rw [if_neg (fun z => c (by omega))] at hP; exact hP
        | false =>
          rw [e2, if_neg (fun z => Bool.false_ne_true z.1)] at hP
          refine w_ifF ?_
          walk_at "vv"
          exact hP
/-! notes -/
theorem known_len (cs : List D) : (known cs).length ≤ cs.length := List.length_filter_le _ _
def opens (cs : List D) : Nat := cs.length - (known cs).length
def noteOf (cs : List D) : D := noteD cs.length (opens cs) (minC (known cs)) (maxC (known cs))
def wNoteOf : VSp := fun ds m P _ => ∃ (k : Kd) (cs : List D), (ds = [.lst cs] ∨ ds = [.tup cs]) ∧ (∀ c ∈ cs, CellK k c) ∧ cs.length ≤ 10000 ∧ P (noteOf cs) m
theorem p_note_of {K : PySem.W.Frag} (ds : List D) (m : Mst) (P : D → Mst → Prop) (VX : XV) (h : wNoteOf ds m P VX) : ds.length = 1 ∧ v_note_of K (vends P) (vstart N_note_of.length ds) m := by
  obtain ⟨k, cs, hd, hc, hl, hP⟩ := h
  have hv := known_val hc
  have e : ((cs.length : Nat) : Int) - (((known cs).length : Nat) : Int) = ((opens cs : Nat) : Int) := by
    have := known_len cs
    unfold opens
    omega
  have hlen : ds.length = 1 := by rcases hd with rfl | rfl <;> rfl
  refine ⟨hlen, ?_⟩
  unfold v_note_of
  rcases hd with rfl | rfl
  all_goals
    walk_at "vv"
    refine lc_known (Nat.le_of_ble_eq_true rfl) (by omega) ?_
    walk_at "vv"
    rw [e]
    refine e_minD hv ?_
    walk_at "vv"
    refine e_maxD hv ?_
    walk_at "vv"
    exact hP
def wNoteL : VSp := fun ds m P _ => ∃ (k : Kd) (cs : List D), ds = [.lst cs] ∧ (∀ c ∈ cs, CellK k c) ∧ cs.length ≤ 10000 ∧ P (noteOf cs) m
theorem canLayAll_strs : ∀ ns : List Str, (∀ n ∈ ns, PyData.strOk n = true) → PyData.canLayAll0 (ns.map PyData.str) = true
  | [], _ => rfl
  | n :: r, h => by
    rw [List.map_cons, PyData.canLayAll0, canLayAll_strs r fun m hm => h m (List.mem_cons_of_mem _ hm), PyData.canLay0, h n List.mem_cons_self]
    rfl
theorem depthAll_strs : ∀ ns : List Str, PyData.depthAll (ns.map PyData.str) = 0
  | [] => rfl
  | n :: r => by
    rw [List.map_cons, PyData.depthAll, depthAll_strs r]
    rfl
theorem pls_strs : ∀ ns : List Str, D.pls (ns.map D.str) = true
  | [] => rfl
  | n :: r => by rw [List.map_cons, D.pls, pls_strs r]; rfl
theorem pys_strs : ∀ ns : List Str, D.pys (ns.map D.str) = ns.map PyData.str
  | [] => rfl
  | n :: r => by rw [List.map_cons, D.pys, pys_strs r]; rfl
theorem e_eqNil {k : Kd} {l : List D} {Z : D → Prop} (hv : ∀ v ∈ l, Val k v) (h : Z (.bl l.isEmpty)) : vEqC (.lst l) (.lst []) Z := by
  have he : PyData.eqv (D.lst l).py (D.lst []).py = l.isEmpty := by
    rw [D.py, D.py, PyData.eqv]
    cases l with
    | nil => rfl
    | cons x r => rw [D.pys, D.pys, PyData.eqvAll]; rfl
  cases k with
  | num =>
    obtain ⟨ns, rfl⟩ := vals_num hv
    refine e_eqD rfl ⟨pl_dL ns, rfl, ?_, rfl⟩ (by rw [he]; exact h)
    rw [show (D.lst (ns.map D.int)) = dL ns from rfl, py_dL]; exact shaped_dI _
  | txt =>
    obtain ⟨ns, rfl⟩ := vals_txt hv
    refine e_eqD rfl ⟨by rw [D.pl]; exact pls_strs ns, rfl, ?_, rfl⟩ (by rw [he]; exact h)
    rw [D.py, pys_strs]
    unfold SeqAt.shaped
    rw [PyData.canLay0, PyData.depth, canLayAll_strs ns fun n hn => by obtain ⟨s, e, hs⟩ := hv (.str n) (List.mem_map_of_mem hn); cases e; exact strOk_is hs, depthAll_strs]
    rfl
theorem p_note {K : PySem.W.Frag} (ds : List D) (m : Mst) (P : D → Mst → Prop) (VX : XV) (h : wNoteL ds m P VX) : ds.length = 1 ∧ v_note K (vends P) (vstart N_note.length ds) m := by
  obtain ⟨k, cs, rfl, hc, hl, hP⟩ := h
  have hv := known_val hc
  have e : ((cs.length : Nat) : Int) - (((known cs).length : Nat) : Int) = ((opens cs : Nat) : Int) := by
    have := known_len cs
    unfold opens
    omega
  refine ⟨rfl, ?_⟩
  unfold v_note
  walk_at "vv"
  refine lc_known (Nat.le_of_ble_eq_true rfl) (by omega) ?_
  walk_at "vv"
  refine e_sortedV hv fun l' hp hs => ?_
  have hv' : ∀ v ∈ l', Val k v := fun v h => hv v (hp.mem_iff.mp h)
  walk_at "vv"
  walk_at "vi"
  refine e_eqNil hv' ⟨_, rfl, ?_⟩
  unfold noteOf at hP
  cases hn : known cs with
  | nil =>
    rw [hn] at hp hP e
    obtain rfl : l' = [] := List.Perm.eq_nil hp
    refine w_ifT ?_
    walk_at "vv"
    have eo : opens cs = cs.length := by unfold opens; rw [hn]; rfl
    rw [eo] at hP
    exact hP
  | cons x r =>
    have hne : known cs ≠ [] := by rw [hn]; exact List.cons_ne_nil _ _
    obtain ⟨e0, e1⟩ := sorted_ends hv hp hs hne
    have hne' : l'.isEmpty = false := by
      cases l' with
      | nil => exact absurd (List.Perm.nil_eq hp).symm hne
      | cons _ _ => rfl
    rw [hne']
    refine w_ifF ?_
    walk_at "vv"
    rw [hp.length_eq, e]
    refine e_ixL e0 ?_
    walk_at "vv"
    refine e_ixL e1 ?_
    walk_at "vv"
    exact hP
/-! whether a cell meets a test -/
def mtD (c : D) : Ts → Bool
  | .opn => c.isN
  | .amg vs => !c.isN && vs.any fun y => eqDD c y
  | .sg g v => !c.isN && soD c g v
def wMeets : VSp := fun ds m P _ => ∃ (k : Kd) (c : D) (t : Ts), ds = [c, tsD t] ∧ CellK k c ∧ OkT k t ∧ P (.bl (mtD c t)) m
theorem eqDD_lt {k : Kd} {x y : D} (hx : Val k x) (hy : Val k y) : eqDD x y = (!ltD y x && !ltD x y) := by
  cases h1 : ltD y x with
  | true =>
    cases h : eqDD x y with
    | false => rfl
    | true => rw [(eqDD_iff hx hy).mp h, ltD_ir] at h1; cases h1
  | false =>
    cases h2 : ltD x y with
    | true =>
      cases h : eqDD x y with
      | false => rfl
      | true => rw [(eqDD_iff hx hy).mp h, ltD_ir] at h2; cases h2
    | false => exact (eqDD_iff hx hy).mpr (ltD_tot hx hy h2 h1)
/-- the orders a sign stands for -/
def ordS : Sg → List Int
  | .eq => [0] | .ne => [-1, 1] | .lt => [-1] | .le => [-1, 0] | .gt => [1] | .ge => [0, 1]
def ordKs : List (Key × D) := [(.inr "=", dL [0]), (.inr "<>", dL [-1, 1]), (.inr "<", dL [-1]), (.inr "<=", dL [-1, 0]), (.inr ">", dL [1]), (.inr ">=", dL [0, 1])]
def asL : Option D → Option (List Int)
  | some (.lst ds) => ds.mapM fun d => match d with | .int i => some i | _ => none
  | _ => none
theorem so_ord {k : Kd} {c v : D} (g : Sg) (hc : Val k c) (hv : Val k v) : ((ordS g).map D.int).any (fun y => eqF y (.int ((if ltD v c then 1 else 0) - (if ltD c v then 1 else 0)))) = soD c g v := by
  have e := eqDD_lt hc hv
  have h3 : ltD v c = true → ltD c v = false := ltD_as
  cases g <;> simp only [soD, e] <;> cases h1 : ltD v c <;> cases h2 : ltD c v <;> first | rfl | (exfalso; have := h3 h1; rw [h2] at this; cases this)
theorem ordKs_of : pairsK [(D.str "=", D.lst [D.int 0]), (D.str "<>", D.lst [D.int (-1), D.int 1]), (D.str "<", D.lst [D.int (-1)]), (D.str "<=", D.lst [D.int (-1), D.int 0]), (D.str ">", D.lst [D.int 1]), (D.str ">=", D.lst [D.int 0, D.int 1])] = some ordKs := rfl
theorem ordKs_at (g : Sg) : dget (mergeD [] ordKs) (.inr (sgS g)) = some (dL (ordS g)) := by
  cases g <;> rfl
theorem p_own_meets {K : PySem.W.Frag} (ds : List D) (m : Mst) (P : D → Mst → Prop) (VX : XV) (h : wMeets ds m P VX) : ds.length = 2 ∧ v_own_meets K (vends P) (vstart N_own_meets.length ds) m := by
  obtain ⟨k, c, t, rfl, hc, ht, hP⟩ := h
  refine ⟨rfl, ?_⟩
  unfold v_own_meets
  have hg : ∀ g : Sg, decide (sgS g = "open") = false ∧ decide (sgS g = "among") = false := fun g => by cases g <;> decide +kernel
  cases t with
  | opn =>
    show (vSeqS _ _ : VS) _ [some c, some (.tup [.str "open"]), none, none] _
    walk_at "vw"
    refine e_ixT (x := .str "open") rfl ?_
    walk_at "vw"
    exact hP
  | amg vs =>
    show (vSeqS _ _ : VS) _ [some c, some (.tup [.str "among", .lst vs]), none, none] _
    walk_at "vw"
    refine e_ixT (x := .str "among") rfl ?_
    walk_at "vw"
    rcases hc with rfl | hc
    · refine w_ifT ?_
      walk_at "vv"
      exact hP
    · rw [show mtD c (.amg vs) = (!c.isN && vs.any fun y => eqDD c y) from rfl, val_nn hc] at hP
      rw [val_nn hc]
      refine w_ifF ?_
      walk_at "vw"
      refine e_ixT (x := .str "among") rfl ?_
      walk_at "vw"
      refine e_ixT (x := .lst vs) rfl ?_
      refine e_itL ?_
      refine lc_bl (f := fun v => eqDD c v) (by have := ht.1; omega) (fun i v Q hvm hQ => ?_) ?_
      · walk_at "vv"
        exact e_eqV hc (ht.2 v hvm) hQ
      · walk_at "vv"
        refine e_any ?_
        rw [any_map]
        exact hP
  | sg g v =>
    show (vSeqS _ _ : VS) _ [some c, some (.tup [.str (sgS g), v]), none, none] _
    walk_at "vw"
    refine e_ixT (x := .str (sgS g)) rfl ?_
    walk_at "vv"
    rw [(hg g).1]
    walk_at "vw"
    rcases hc with rfl | hc
    · refine w_ifT ?_
      walk_at "vv"
      exact hP
    · rw [show mtD c (.sg g v) = (!c.isN && soD c g v) from rfl, val_nn hc] at hP
      rw [val_nn hc]
      refine w_ifF ?_
      walk_at "vw"
      refine e_ixT (x := .str (sgS g)) rfl ?_
      walk_at "vv"
      rw [(hg g).2]
      walk_at "vv"
      refine e_ixT (x := v) rfl ?_
      refine e_gtV hc ht ?_
      walk_at "vv"
      refine e_ixT (x := v) rfl ?_
      refine e_ltV hc ht ?_
      walk_at "vv"
      repeat (refine ⟨sz_le (Nat.le_of_ble_eq_true rfl), ?_⟩; walk_at "vv")
      refine ⟨_, ordKs_of, by decide, ?_⟩
      walk_at "vv"
      refine e_ixT (x := .str (sgS g)) rfl ?_
      refine e_ixD rfl (ordKs_at g) ?_
      refine e_inL rfl (by cases g <;> rfl) (so_ord g hc ht) ?_
      exact hP
end Ps

/-! V17: notes: the law. -/
namespace Ps
open PySem PySem.Spec PyProof.Rows L2
local macro_rules | `(tactic| walk_at "v1") => `(tactic| first
  | ((with_reducible refine' e_var ?hx ?_); (case hx => exact rfl))
  | (with_reducible refine e_seqAsg ?_)
  | (with_reducible refine e_seqDrop ?_)
  | (with_reducible refine e_seqAug ?_)
  | (with_reducible refine e_seqApp ?_)
  | (with_reducible refine e_seqMut ?_)
  | (with_reducible refine e_seqPut ?_)
  | (with_reducible refine e_seqPar ?_)
  | (with_reducible refine e_seqFor ?_)
  | (with_reducible refine e_seqWhile ?_)
  | (with_reducible refine e_seqNext ?_)
  | (with_reducible refine e_seqSetF ?_)
  | (with_reducible refine e_seqAugF ?_)
  | (with_reducible refine e_seqAppS ?_)
  | (with_reducible refine e_seqMutS ?_)
  | (with_reducible refine e_seqPutS ?_)
  | (with_reducible refine e_seqForB ?_)
  | (with_reducible refine e_seqAugS ?_)
  | (with_reducible refine e_seqSeq ?_)
  | (with_reducible refine e_asg ?_)
  | (with_reducible refine e_drop ?_)
  | (with_reducible refine e_ret ?_)
  | (with_reducible refine e_retN ?_)
  | (with_reducible refine e_if ?_)
  | (with_reducible refine e_next ?_)
  | (with_reducible refine e_brk ?_)
  | (with_reducible refine e_cont ?_)
  | (with_reducible refine e_gname ?_)
  | (with_reducible refine e_c ?_)
  | (with_reducible refine e_nil ?_)
  | (with_reducible refine e_cons ?_)
  | (with_reducible refine e_op ?_)
  | (with_reducible refine e_un ?_)
  | (with_reducible refine e_cb ?_)
  | (with_reducible refine e_bm ?_)
  | (with_reducible refine e_bm0 ?_)
  | (with_reducible refine e_tyS ?_)
  | (with_reducible refine e_tyL ?_)
  | (with_reducible refine e_tyD ?_)
  | (with_reducible refine e_lst ?_)
  | (with_reducible refine e_tup ?_)
  | (with_reducible refine e_andV ?_)
  | (with_reducible refine e_orV ?_)
  | (with_reducible refine e_notV ?_)
  | (with_reducible refine e_blE ?_)
  | (with_reducible refine e_chain ?_)
  | (with_reducible refine e_test ?_)
  | (with_reducible refine e_and ?_)
  | (with_reducible refine e_or ?_)
  | (with_reducible refine e_not ?_)
  | (with_reducible refine e_yes ?_)
  | (with_reducible refine e_call ?_)
  | (with_reducible refine e_callS ?_)
  | (with_reducible refine e_callB ?_)
  | (with_reducible refine e_callBS ?_)
  | (with_reducible refine e_frB ?_)
  | (with_reducible refine e_frI ?_)
  | (with_reducible refine e_opL ?_)
  | (with_reducible refine e_unL ?_)
  | (with_reducible refine e_cbL ?_)
  | (with_reducible refine e_bmL ?_)
  | (with_reducible refine e_bm0L ?_)
  | (with_reducible refine e_truLk ?_)
  | (with_reducible refine e_slL ?_)
  | (with_reducible refine e_fld ?_)
  | (with_reducible refine e_setF ?_)
  | (with_reducible refine e_augF ?_)
  | (with_reducible refine e_meth ?_)
  | (with_reducible refine e_make ?_)
  | (with_reducible refine e_appS ?_)
  | (with_reducible refine e_mutS ?_)
  | (with_reducible refine e_putS ?_)
  | (with_reducible refine e_box ?_)
  | (with_reducible refine e_boxL ?_)
  | (with_reducible refine e_boxDi ?_)
  | (with_reducible refine e_seqB ?_)
  | (with_reducible refine e_enumB ?_)
  | (with_reducible refine e_revB ?_)
  | (with_reducible refine e_zipB ?_)
  | (with_reducible refine e_lcB ?_)
  | (with_reducible refine e_forB ?_)
  | (with_reducible refine e_popS ?_)
  | (with_reducible refine e_dpopS ?_)
  | (with_reducible refine e_get2 ?_)
  | (with_reducible refine e_addII ?_)
  | (with_reducible refine e_subII ?_)
  | (with_reducible refine e_sc ?_)
  | (with_reducible refine e_scI ?_)
  | (with_reducible refine e_sl ?_)
  | (with_reducible refine e_nopart ?_)
  | (with_reducible refine e_callE ?_)
  | (with_reducible refine e_isiT ?_)
  | (with_reducible refine e_fldX ?_)
  | (with_reducible refine e_tryK ?_)
  | (with_reducible refine e_kT ?_)
  | (with_reducible refine e_kN ?_)
  | (with_reducible refine e_ckw ?_)
  | (with_reducible refine e_max2 ?_)
  | (with_reducible refine e_min2 ?_)
  | (with_reducible refine e_part ?_)
  | (with_reducible refine e_intE ?_)
  | (with_reducible refine e_dnew ?_)
  | (with_reducible refine e_rz1 ?_)
  | (with_reducible refine e_rz0 ?_)
  | (with_reducible refine e_par ?_)
  | (with_reducible refine e_put ?_)
  | (with_reducible refine e_addI ?_)
  | (with_reducible refine e_subI ?_)
  | (with_reducible refine e_negI ?_)
  | (with_reducible refine e_eqI ?_)
  | (with_reducible refine e_eqS ?_)
  | (with_reducible refine e_eqB ?_)
  | (with_reducible refine e_neI ?_)
  | (with_reducible refine e_neS ?_)
  | (with_reducible refine e_neB ?_)
  | (with_reducible refine e_ltI ?_)
  | (with_reducible refine e_leI ?_)
  | (with_reducible refine e_gtI ?_)
  | (with_reducible refine e_geI ?_)
  | (with_reducible refine e_ipaI ?_)
  | (with_reducible refine e_lenL ?_)
  | (with_reducible refine e_lenT ?_)
  | (with_reducible refine e_lenD ?_)
  | (with_reducible refine e_listL ?_)
  | (with_reducible refine e_listT ?_)
  | (with_reducible refine e_tupL ?_)
  | (with_reducible refine e_tupT ?_)
  | (with_reducible refine e_intI ?_)
  | (with_reducible refine e_intB ?_)
  | (with_reducible refine e_abs ?_)
  | (with_reducible refine e_cutL ?_)
  | (with_reducible refine e_cutT ?_)
  | (with_reducible refine e_revm ?_)
  | (with_reducible refine e_clrm ?_)
  | (with_reducible refine e_gcons ?_)
  | (with_reducible refine e_gnil ?_)
  | (with_reducible refine e_seqv ?_)
  | (with_reducible refine e_itL ?_)
  | (with_reducible refine e_itT ?_)
  | (with_reducible refine e_itS ?_)
  | (with_reducible refine e_rg1 ?_)
  | (with_reducible refine e_rg2 ?_)
  | (with_reducible refine e_itZL ?_)
  | (with_reducible refine e_itZT ?_)
  | (with_reducible refine e_itEL ?_)
  | (with_reducible refine e_itET ?_)
  | (with_reducible refine e_itES ?_)
  | (with_reducible refine e_itVL ?_)
  | (with_reducible refine e_itVT ?_)
  | (with_reducible refine e_tru ?_)
  | (with_reducible refine e_truB ?_)
  | (with_reducible refine e_truN ?_)
  | (with_reducible refine e_truI ?_)
  | (with_reducible refine e_truL ?_)
  | (with_reducible refine e_truT ?_)
  | (with_reducible refine e_isNn ?_)
  | (with_reducible refine e_isNi ?_)
  | (with_reducible refine e_isNs ?_)
  | (with_reducible refine e_isNl ?_)
  | (with_reducible refine e_isNt ?_)
  | (with_reducible refine e_isNb ?_)
  | (with_reducible refine e_ntNn ?_)
  | (with_reducible refine e_ntNi ?_)
  | (with_reducible refine e_ntNs ?_)
  | (with_reducible refine e_ntNl ?_)
  | (with_reducible refine e_ntNt ?_)
  | (with_reducible refine e_rng1 ?_)
  | (with_reducible refine e_rng2 ?_)
  | (with_reducible refine e_zip ?_)
  | (with_reducible refine e_enum ?_)
  | (with_reducible refine e_rev ?_)
  | (with_reducible refine e_for ?_)
  | (with_reducible refine e_lc ?_)
  | (with_reducible refine w_ifT ?_)
  | (with_reducible refine w_ifF ?_)
  | (with_reducible refine w_ifNF ?_)
  | (with_reducible refine w_ifNT ?_)
  | ((with_reducible refine' e_aug ?hx ?_); (case hx => exact rfl))
  | ((with_reducible refine' e_app ?hx ?_); (case hx => exact rfl))
  | ((with_reducible refine' e_mut ?hx ?_); (case hx => exact rfl))
  | ((with_reducible refine' e_len ?hx ?_); (case hx => exact rfl))
  | ((with_reducible refine' e_gtup ?hx ?_); (case hx => exact rfl))
  | ((with_reducible refine' e_gtupU ?hx ?_); (case hx => exact rfl))
  | ((with_reducible refine' e_gtupL ?hx ?_); (case hx => exact rfl))
  | ((with_reducible refine' e_isi (b := true) ?hx ?hy ?_); (case hx => exact rfl); (case hy => first | exact rfl | decide))
  | ((with_reducible refine' e_isi (b := false) ?hx ?hy ?_); (case hx => exact rfl); (case hy => first | exact rfl | decide))
  | ((with_reducible refine' e_modI ?hx ?_); (case hx => decide))
  | ((with_reducible refine' e_divI ?hx ?_); (case hx => exact .inl ⟨by decide, by decide⟩))
  | ((with_reducible refine' e_mulI ?hx ?_); (case hx => first | exact .inl (.inr ⟨by decide, by decide⟩) | exact .inl (.inl ⟨by decide, by decide⟩)))
  | ((with_reducible refine' e_ipmI ?hx ?_); (case hx => first | exact .inl (.inr ⟨by decide, by decide⟩) | exact .inl (.inl ⟨by decide, by decide⟩)))
  | (with_reducible refine e_isN ?_) | (with_reducible refine e_notN ?_))
local macro_rules | `(tactic| walk_at "vv") => `(tactic| repeat (walk_at "v1"))
local macro_rules | `(tactic| walk_at "vi") => `(tactic| ((with_reducible refine e_seq ?_); repeat (walk_at "v1")))
local macro_rules | `(tactic| walk_at "ve") => `(tactic| ((with_reducible refine e_ifE ?_); repeat (walk_at "v1")))
local macro_rules | `(tactic| walk_at "lit") => `(tactic| first | refine w_ifFd (by decide +kernel) ?_ | refine w_ifTd (by decide +kernel) ?_)
local macro_rules | `(tactic| walk_at "vw") => `(tactic| repeat (first | walk_at "v1" | (with_reducible refine e_seq ?_) | walk_at "lit"))
/- law: 0 _law_script, 1 _law_state, 2 _law_turn, 3 _law_kind_here, 4 _law_many, 5 _law_cells_here, 6 _law_due, 7 _law_handed -/
def t_law (K : PySem.W.Frag) (s_begin_ : Sp) (s_kind_ : Sp) (s_take_ : Sp) (s_some_cells_ : Sp) (s_note_ : Sp) (s_same_ : Sp) (s_note_of_ : Sp) : TS :=
      (tSeq (tAsg (tCall s_begin_ [] E0 (tCons (tVar 0) tNil)) (gName 1))
      (tSeq (tFor (iRng1 (tCons (tC (.int 5)) tNil)) (gName 2)
      (tSeq (tAsg (tCall s_kind_ [] E0 (tCons (tVar 1) tNil)) (gName 3))
      (tSeq (tAsg (tOp (rAddU K) (tC (.int 1)) (tCall s_take_ [] E0 (tCons (tVar 1) (tCons (tOp (rIxU K) (tLst (tCons (tC (.int 12)) (tCons (tC (.int 12)) (tCons (tC (.int 12)) (tCons (tC (.int 64)) tNil))))) (tCall s_take_ [] E0 (tCons (tVar 1) (tCons (tC (.int 4)) tNil)))) tNil)))) (gName 4))
      (tSeq (tAsg (tCall s_some_cells_ [] E0 (tCons (tVar 1) (tCons (tVar 3) (tCons (tVar 4) tNil)))) (gName 5))
      (tSeq (tAsg (tCall s_note_ [] E0 (tCons (tVar 5) tNil)) (gName 6))
      (tSeq (tAsg (tCB (rListU K) (tCons (tVar 5) tNil)) (gName 7))
      (tSeq (tIfS (tOr (tNot (tTru K (tCall s_same_ [] E0 (tCons (tCall s_note_of_ [] E0 (tCons (tVar 7) tNil)) (tCons (tVar 6) tNil))))) (tTest (tOp (rNeU K) (tVar 7) (tVar 5))))
      (tRet (tC (.bl false)))
      tNext)
      (tSeq (tIfS (tNot (tTru K (tCall s_same_ [] E0 (tCons (tCall s_note_of_ [] E0 (tCons (tCB (rTupU K) (tCons (tVar 5) tNil)) tNil)) (tCons (tVar 6) tNil)))))
      (tRet (tC (.bl false)))
      tNext)
      (tSeq (tAsg (tOp (rIxU K) (tCall s_some_cells_ [] E0 (tCons (tVar 1) (tCons (tVar 3) (tCons (tC (.int 1)) tNil)))) (tC (.int 0))) (gSub (tVar 7) (tCall s_take_ [] E0 (tCons (tVar 1) (tCons (tVar 4) tNil))) rSetU))
      (tIfS (tNot (tTru K (tCall s_same_ [] E0 (tCons (tCall s_note_of_ [] E0 (tCons (tVar 7) tNil)) (tCons (tCall s_note_ [] E0 (tCons (tVar 7) tNil)) tNil)))))
      (tRet (tC (.bl false)))
      tNext))))))))))
      (tRet (tC (.bl true)))))
abbrev N_law : List Str := [("_law_script" : Str), ("_law_state" : Str), ("_law_turn" : Str), ("_law_kind_here" : Str), ("_law_many" : Str), ("_law_cells_here" : Str), ("_law_due" : Str), ("_law_handed" : Str)]
def v_law (K : PySem.W.Frag) (vs_begin : VSp) (vs_kind : VSp) (vs_take : VSp) (vs_some_cells : VSp) (vs_note : VSp) (vs_same : VSp) (vs_note_of : VSp) : VS :=
      (vSeqS (vAsg (vCall vs_begin (vCons (vVar 0) vNil)) (vgName 1))
      (vSeqS (vFor [0, 2, 3, 4, 5, 6, 7] (vRng1 (vCons (vC (.int 5)) vNil)) (vgName 2)
      (vSeqS (vAsg (vCall vs_kind (vCons (vVar 1) vNil)) (vgName 3))
      (vSeqS (vAsg (vOp vAdd (vC (.int 1)) (vCall vs_take (vCons (vVar 1) (vCons (vOp vIx (vLst (vCons (vC (.int 12)) (vCons (vC (.int 12)) (vCons (vC (.int 12)) (vCons (vC (.int 64)) vNil))))) (vCall vs_take (vCons (vVar 1) (vCons (vC (.int 4)) vNil)))) vNil)))) (vgName 4))
      (vSeqS (vAsg (vCall vs_some_cells (vCons (vVar 1) (vCons (vVar 3) (vCons (vVar 4) vNil)))) (vgName 5))
      (vSeqS (vAsg (vCallB .O vs_note (vCons (vVar 5) vNil)) (vgName 6))
      (vSeqS (vAsg (vCB vList (vCons (vVar 5) vNil)) (vgName 7))
      (vSeqS (vIf (vOr (vNot (vTru (vCallB .O vs_same (vCons (vCallB .O vs_note_of (vCons (vVar 7) vNil)) (vCons (vVar 6) vNil))))) (vTest (vOp vNeC (vVar 7) (vVar 5))))
      (vRet (vC (.bl false)))
      vNext)
      (vSeqS (vIf (vNot (vTru (vCallB .O vs_same (vCons (vCallB .O vs_note_of (vCons (vCB vTupC (vCons (vVar 5) vNil)) vNil)) (vCons (vVar 6) vNil)))))
      (vRet (vC (.bl false)))
      vNext)
      (vSeqS (vPut 7 (vOp vIx (vCall vs_some_cells (vCons (vVar 1) (vCons (vVar 3) (vCons (vC (.int 1)) vNil)))) (vC (.int 0))) (vCall vs_take (vCons (vVar 1) (vCons (vVar 4) vNil))))
      (vIf (vNot (vTru (vCallB .O vs_same (vCons (vCallB .O vs_note_of (vCons (vVar 7) vNil)) (vCons (vCallB .O vs_note (vCons (vVar 7) vNil)) vNil)))))
      (vRet (vC (.bl false)))
      vNext))))))))))
      (vRet (vC (.bl true)))))
theorem sim_law {K : PySem.W.Frag} {vs_begin : VSp} {vs_kind : VSp} {vs_take : VSp} {vs_some_cells : VSp} {vs_note : VSp} {vs_same : VSp} {vs_note_of : VSp} {vsp : VSp} (hv : ∀ ds m P VX, vsp ds m P VX → ds.length = 1 ∧ v_law K vs_begin vs_kind vs_take vs_some_cells vs_note vs_same vs_note_of (vends P) (vstart N_law.length ds) m) :
    ∀ us H Q E, spV K .O vsp us H Q E → t_law K (spV K .O vs_begin) (spV K .F vs_kind) (spV K .O vs_take) (spV K .O vs_some_cells) (spV K .O vs_note) (spV K .O vs_same) (spV K .O vs_note_of) { nx := fun _ H' => Q .non H', rt := Q } (L2.start N_law us) H :=
  sim_def (n := 1) (t := .O) (N := N_law) (Γn := [.F, .F, .F, .F, .F, .F, .F, .F]) (Γb := []) (Γc := []) (ts := fun E => t_law K (spV K .O vs_begin) (spV K .F vs_kind) (spV K .O vs_take) (spV K .O vs_some_cells) (spV K .O vs_note) (spV K .O vs_same) (spV K .O vs_note_of)) (vs := fun VX => v_law K vs_begin vs_kind vs_take vs_some_cells vs_note vs_same vs_note_of) (by decide) (fun c W VX hK hx => by
    subst hK
    exact (x_seq (x_asgO (i := 1) (s_callO (g_cons (s_varF (by rfl)) g_nil)))
      (x_seq (x_pre (Γ1 := [.F, .F, .F, .F, .F, .F, .F, .F]) (x_for (Γ' := [.F, .F, .F, .F, .F, .F, .F, .F]) (ws := [0, 2, 3, 4, 5, 6, 7]) (i_rng1 (g_cons (SO.f s_int) g_nil)) (tg_name (is := [2]) (by rfl) (by decide))
      (x_post (Γ1 := [.F, .F, .F, .F, .F, .O, .O, .O]) (Γn := [.F, .F, .F, .F, .F, .F, .F, .F]) (x_seq (x_asgF (i := 3) (s_callF (g_cons (s_varF (by rfl)) g_nil)))
      (x_seq (x_asgO (i := 4) (s_op o_add (SO.b s_int) (SO.b (s_callO (g_cons (s_varF (by rfl)) (g_cons (s_opF o_ix (SO.b (s_lst (g_cons (SO.f s_int) (g_cons (SO.f s_int) (g_cons (SO.f s_int) (g_cons (SO.f s_int) g_nil)))))) (SO.b (s_callO (g_cons (s_varF (by rfl)) (g_cons (SO.f s_int) g_nil))))) g_nil))))))
      (x_seq (x_pre (Γ1 := [.F, .F, .F, .F, .F, .F, .F, .F]) (x_asgO (i := 5) (s_callO (g_cons (s_varF (by rfl)) (g_cons (s_varF (by rfl)) (g_cons (s_varF (by rfl)) g_nil))))))
      (x_seq (x_asgO (i := 6) (s_callB (a_cons (s_varB (t := .O) (by rfl)) a_nil)))
      (x_seq (x_asgO (i := 7) (s_cb l_list (a_cons (s_varB (t := .O) (by rfl)) a_nil)))
      (x_seq (x_if (Γn := [.F, .F, .F, .F, .F, .O, .O, .O]) (s_or (s_not (s_tru (SO.b (s_callB (a_cons (SO.b (s_callB (a_cons (s_varB (t := .O) (by rfl)) a_nil))) (a_cons (s_varB (t := .O) (by rfl)) a_nil)))))) (s_test (SO.b (s_op o_ne (s_varB (t := .O) (by rfl)) (s_varB (t := .O) (by rfl))))))
      (x_retO s_bl)
      x_next)
      (x_seq (x_if (Γn := [.F, .F, .F, .F, .F, .O, .O, .O]) (s_not (s_tru (SO.b (s_callB (a_cons (SO.b (s_callB (a_cons (SO.b (s_cb l_tup (a_cons (s_varB (t := .O) (by rfl)) a_nil))) a_nil))) (a_cons (s_varB (t := .O) (by rfl)) a_nil))))))
      (x_retO s_bl)
      x_next)
      (x_seq (x_put (by rfl) (s_opF o_ix (SO.b (s_callO (g_cons (s_varF (by rfl)) (g_cons (s_varF (by rfl)) (g_cons (SO.f s_int) g_nil))))) (SO.b s_int)) (SO.f (s_callO (g_cons (s_varF (by rfl)) (g_cons (s_varF (by rfl)) g_nil)))))
      (x_if (Γn := [.F, .F, .F, .F, .F, .O, .O, .O]) (s_not (s_tru (SO.b (s_callB (a_cons (SO.b (s_callB (a_cons (s_varB (t := .O) (by rfl)) a_nil))) (a_cons (SO.b (s_callB (a_cons (s_varB (t := .O) (by rfl)) a_nil))) a_nil))))))
      (x_retO s_bl)
      x_next))))))))))))
      (x_retO s_bl)))) hv

theorem note_im {k : Kd} {cs : List D} (hc : ∀ c ∈ cs, CellK k c) : D.Im (noteOf cs) := by
  refine .tup fun d hd => ?_
  have hv := known_val hc
  simp only [List.mem_cons, List.not_mem_nil, or_false] at hd
  rcases hd with rfl | rfl | rfl | rfl
  · exact .int _
  · exact .int _
  · by_cases hn : known cs = []
    · rw [hn]; exact .non
    · exact val_im (hv _ (minC_is hv hn).1)
  · by_cases hn : known cs = []
    · rw [hn]; exact .non
    · exact val_im (hv _ (maxC_is hv hn).1)
theorem gd_im_note {k : Kd} {cs : List D} {d : D} (hc : ∀ c ∈ cs, CellK k c) (hd : d ∈ [D.int cs.length, .int (opens cs), minC (known cs), maxC (known cs)]) : Gd 5 d := by
  have hv := known_val hc
  simp only [List.mem_cons, List.not_mem_nil, or_false] at hd
  rcases hd with rfl | rfl | rfl | rfl
  · exact gd_int (by decide)
  · exact gd_int (by decide)
  · by_cases hn : known cs = []
    · rw [hn]; exact gd_non (by decide)
    · exact gd_val (by decide) (hv _ (minC_is hv hn).1)
  · by_cases hn : known cs = []
    · rw [hn]; exact gd_non (by decide)
    · exact gd_val (by decide) (hv _ (maxC_is hv hn).1)
theorem p_law {K : PySem.W.Frag} (ds : List D) (m : Mst) (P : D → Mst → Prop) (VX : XV) (h : vLaw ds m P VX) : ds.length = 1 ∧ v_law K vBegin wKind vTake wSomeCells wNoteL (vSame 6) wNoteOf (vends P) (vstart N_law.length ds) m := by
  obtain ⟨ns, rfl, hl, rfl, k⟩ := h
  refine ⟨rfl, ?_⟩
  unfold v_law
  walk_at "vw"
  refine ⟨ns, rfl, hl, rfl, fun x => ?_⟩
  walk_at "vw"
  refine e_itR (j := 5) (by decide) ?_
  refine for_inv (fun i e m' => i ≤ 5 ∧ e = [none, some (.adr x), none, none, none, none, none, none] ∧ ∃ r', m' = (some (x, r'), emp) ∧ 2 ^ 50 ≤ r' + 5000 * i) ⟨by omega, rfl, _, rfl, by omega⟩ ?_ ?_
  · rintro i e m' d hi ⟨_, rfl, r, rfl, hr⟩ ed
    obtain ⟨hi, rfl⟩ := rangeD_at ed
    walk_at "vw"
    refine ⟨x, r, emp, rfl, rfl, by omega, fun kd r1 hr1 => ?_⟩
    walk_at "vw"
    refine e_take (by omega) (by decide) (by decide) fun z1 r2 h1 h2 hr2 => ?_
    obtain ⟨top, ht, et⟩ : ∃ top : Int, (1 ≤ top ∧ top ≤ 64) ∧ L2.atI [D.int 12, D.int 12, D.int 12, D.int 64] z1 = some (.int top) := by
      obtain ⟨z, hz, ez⟩ := at_litD [12, 12, 12, 64] h1 h2
      exact ⟨z, by simp at hz; omega, ez⟩
    refine e_ixL et ?_
    walk_at "vw"
    refine e_take (by omega) (by omega) (by omega) fun z2 r3 h3 h4 hr3 => ?_
    obtain ⟨n, rfl⟩ : ∃ n : Nat, z2 = (n : Int) := ⟨z2.toNat, by omega⟩
    walk_at "vw"
    rw [show (1 : Int) + (n : Int) = ((1 + n : Nat) : Int) by push_cast; rfl]
    refine ⟨x, r3, emp, 1 + n, kd, rfl, by omega, rfl, by omega, fun cs r4 hcl hc hr4 => ?_⟩
    walk_at "vw"
    have gN : ∀ {ds : List D}, (∀ c ∈ ds, CellK kd c) → Gd 6 (noteOf ds) := fun {ds} hc => (gd_tup (k := 5) (Nat.le_of_ble_eq_true rfl) fun d hd => gd_im_note hc hd : Gd 6 (noteOf ds))
    refine e_look ?_
    refine ⟨kd, cs, rfl, hc, by omega, frOk_im (note_im hc), ?_⟩
    walk_at "vw"
    refine e_look ?_
    refine ⟨kd, cs, .inl rfl, hc, by omega, frOk_im (note_im hc), ?_⟩
    walk_at "vw"
    refine e_look ?_
    refine e_sameG (gN hc) ?_
    walk_at "vw"
    refine e_neR rfl (by decide) (gd_cells (n := 2) (by decide) (by omega) hc) ?_
    walk_at "vw"
    refine e_look ?_
    refine ⟨kd, cs, .inr rfl, hc, by omega, frOk_im (note_im hc), ?_⟩
    walk_at "vw"
    refine e_look ?_
    refine e_sameG (gN hc) ?_
    walk_at "vw"
    refine ⟨x, r4, emp, 1, kd, rfl, by omega, rfl, by omega, fun cs1 r5 hcl1 hc1 hr5 => ?_⟩
    walk_at "vw"
    obtain ⟨c1, rfl⟩ : ∃ c1, cs1 = [c1] := List.length_eq_one_iff.mp hcl1
    refine e_ixL (x := c1) rfl ?_
    refine ⟨.lst cs, rfl, ?_⟩
    walk_at "vw"
    refine e_take (by omega) (by omega) (by omega) fun z3 r6 h5 h6 hr6 => ?_
    obtain ⟨q, rfl⟩ : ∃ q : Nat, z3 = (q : Int) := ⟨z3.toNat, by omega⟩
    refine ⟨q, ixN_nat (by omega), ?_⟩
    have hc2 : ∀ c ∈ cs.set q c1, CellK kd c := fun c hm => by
      rcases List.mem_or_eq_of_mem_set hm with h | h
      · exact hc c h
      · subst h; exact hc1 _ List.mem_cons_self
    walk_at "vw"
    refine e_look ?_
    refine ⟨kd, _, .inl rfl, hc2, by rw [List.length_set]; omega, frOk_im (note_im hc2), ?_⟩
    walk_at "vw"
    refine e_look ?_
    refine ⟨kd, _, rfl, hc2, by rw [List.length_set]; omega, frOk_im (note_im hc2), ?_⟩
    walk_at "vw"
    refine e_look ?_
    refine e_sameG (gN hc2) ?_
    walk_at "vw"
    exact ⟨by omega, rfl, r6, rfl, by omega⟩
  · rintro e m' ⟨_, rfl, r, rfl, hr⟩
    walk_at "vw"
    exact k _
end Ps

namespace Ps
open PySem PySem.Spec PyProof.Rows L2
def topS (i : Nat) : Stmt := PySem.Challenge.pw_pillarstore_k17_notes.main.body.getD i (.Pass ⟨0, 0, 0, 0⟩)
section
variable {P : Program} {w : World} {K : PySem.W.Frag} {mg : Str → Option Value} {base : Heap}
abbrev NN_begin : List Str := [("_law_script" : Str), ("_law_cells_here" : Str)]
abbrev sT_begin : Stmt := topS 3
theorem sc_begin : FnScope NN_begin [("_law_script" : Str)] (defScope sT_begin) := ⟨rfl, rfl, rfl, by decide +kernel, rfl, by decide +kernel, by decide +kernel⟩
theorem ok_begin {f : Addr} {fd : FuncData} (F : Fun K ("_law_begin" : Str) ("_law_begin" : Str) sT_begin f fd) (z_list : mg ("list" : Str) = none) {sp : Sp} (hl : ∀ vs H Q E, sp vs H Q E → vs.length = 1)
    (hp : ∀ vs H Q E, sp vs H Q E → t_begin K { nx := fun _ H' => Q .non H', rt := Q } (start NN_begin vs) H) : FnOk P w K mg base CX0 1 f fd [("_law_script" : Str)] sp := by
  refine F.ok (k := 0) sc_begin hl (fun cdv A outer s H vs Q E hr h => ⟨t_begin K, ?_, hp vs H Q E h⟩)
  exact (pss_cons (ps_set (i := 1) sc_begin.nd rfl (by first | exact Or.inl rfl | exact Or.inr rfl) (pe_callTy (call_listU (by rfl)) (by rfl) z_list bt_list (pa_cons (pe_slice sl_u (pv 0) po_none (po_some pe_int)) pa_nil)))
      (pss_cons (ps_if (pt_cmpR (op_eqU hr.units) (pv 1) (pe_lst pa_nil) (nomark _))
      (pss_one (ps_set (i := 1) sc_begin.nd rfl (by first | exact Or.inl rfl | exact Or.inr rfl) (pe_lst (pa_cons pe_int pa_nil))))
      pss_nil)
      (pss_one (ps_ret (pe_disp (pps_cons pe_str (pv 1) (pps_cons pe_str pe_int pps_nil)) (by rfl) (by rfl) (fun z => by cases z) (by decide))))))
abbrev NN_take : List Str := [("_law_state" : Str), ("_law_many" : Str), ("_law_turn" : Str), ("_law_place" : Str), ("_law_cell" : Str), ("_law_digit" : Str), ("_law_mixed" : Str)]
abbrev sT_take : Stmt := topS 4
theorem sc_take : FnScope NN_take [("_law_state" : Str), ("_law_many" : Str)] (defScope sT_take) := ⟨rfl, rfl, rfl, by decide +kernel, rfl, by decide +kernel, by decide +kernel⟩
theorem ok_take {f : Addr} {fd : FuncData} (F : Fun K ("_law_take" : Str) ("_law_take" : Str) sT_take f fd) (z_len : mg ("len" : Str) = none) (z_divmod : mg ("divmod" : Str) = none) {sp : Sp} (hl : ∀ vs H Q E, sp vs H Q E → vs.length = 2)
    (hp : ∀ vs H Q E, sp vs H Q E → t_take K { nx := fun _ H' => Q .non H', rt := Q } (start NN_take vs) H) : FnOk P w K mg base CX0 1 f fd [("_law_state" : Str), ("_law_many" : Str)] sp := by
  refine F.ok (k := 0) sc_take hl (fun cdv A outer s H vs Q E hr h => ⟨t_take K, ?_, hp vs H Q E h⟩)
  exact (pss_cons (ps_set (i := 2) sc_take.nd rfl (by first | exact Or.inl rfl | exact Or.inr rfl) (pe_op op_addU (pe_ix (ix_u (hu_of hr)) (pv 0) pe_str (fun _ _ => rfl)) pe_int))
      (pss_cons (ps_asg (pv 2) (pg_sub (pv 0) pe_str (set_u (hu_of hr))))
      (pss_cons (ps_set (i := 3) sc_take.nd rfl (by first | exact Or.inl rfl | exact Or.inr rfl) (pe_op op_modU (pv 2) (pe_callB call_lenU (by rfl) z_len bt_len (pa_cons (pe_ix (ix_u (hu_of hr)) (pv 0) pe_str (fun _ _ => rfl)) pa_nil))))
      (pss_cons (ps_set (i := 4) sc_take.nd rfl (by first | exact Or.inl rfl | exact Or.inr rfl) (pe_ix (ix_u (hu_of hr)) (pe_ix (ix_u (hu_of hr)) (pv 0) pe_str (fun _ _ => rfl)) (pv 3) (fun _ _ => rfl)))
      (pss_cons (ps_if (pt_cmpR op_geU (pv 4) (pe_op op_powU pe_int pe_int) (nomark _))
      (pss_cons (ps_asg (pe_callB call_divmodU (by rfl) z_divmod bt_divmod (pa_cons (pv 4) (pa_cons (pv 1) pa_nil))) (pg_tup rfl (pgs_cons (pg_sub (pe_ix (ix_u (hu_of hr)) (pv 0) pe_str (fun _ _ => rfl)) (pv 3) (set_u (hu_of hr))) (pgs_cons (pg_name (i := 5) sc_take.nd rfl (by first | exact Or.inl rfl | exact Or.inr rfl)) pgs_nil))))
      (pss_one (ps_ret (pv 5))))
      pss_nil)
      (pss_cons (ps_set (i := 6) sc_take.nd rfl (by first | exact Or.inl rfl | exact Or.inr rfl) (pe_op op_modU (pe_op op_mulU (pe_op op_addU (pe_op op_addU (pe_op op_modU (pv 4) pe_int) (pe_op op_mulU (pe_op op_mulU (pv 2) (pv 2)) pe_int)) pe_int) pe_int) pe_int))
      (pss_cons (ps_set (i := 6) sc_take.nd rfl (by first | exact Or.inl rfl | exact Or.inr rfl) (pe_op op_modU (pe_op op_mulU (pv 6) (pv 6)) pe_int))
      (pss_one (ps_ret (pe_op op_modU (pe_op op_divU (pe_op op_modU (pe_op op_mulU (pe_op op_addU (pv 6) (pe_op op_mulU (pv 2) pe_int)) pe_int) pe_int) pe_int) (pv 1)))))))))))
abbrev NN_kind : List Str := [("_law_state" : Str)]
abbrev sT_kind : Stmt := topS 9
theorem sc_kind : FnScope NN_kind [("_law_state" : Str)] (defScope sT_kind) := ⟨rfl, rfl, rfl, by decide +kernel, rfl, by decide +kernel, by decide +kernel⟩
theorem ok_kind {f : Addr} {fd : FuncData} (F : Fun K ("_law_kind" : Str) ("_law_kind" : Str) sT_kind f fd) {f_take : Addr} {fd_take : FuncData} {s_take_ : Sp} (G_take : FnOk P w K mg base CX0 1 f_take fd_take [("_law_state" : Str), ("_law_many" : Str)] s_take_) (b_take : Binds K fd_take [("_law_state" : Str), ("_law_many" : Str)] []) (m_take : mg ("_law_take" : Str) = some (.ref f_take)) (kp_take : PySem.W.keepIn K (.ref f_take) = true) {sp : Sp} (hl : ∀ vs H Q E, sp vs H Q E → vs.length = 1)
    (hp : ∀ vs H Q E, sp vs H Q E → t_kind K s_take_ { nx := fun _ H' => Q .non H', rt := Q } (start NN_kind vs) H) : FnOk P w K mg base CX0 2 f fd [("_law_state" : Str)] sp := by
  refine F.ok (k := 1) sc_kind hl (fun cdv A outer s H vs Q E hr h => ⟨t_kind K s_take_, ?_, hp vs H Q E h⟩)
  exact (pss_one (ps_ret (pe_ix (ix_u (hu_of hr)) (pe_lst (pa_cons pe_str (pa_cons pe_str pa_nil))) (pe_op op_divU (pe_call G_take (hr.mono (by decide)) (by rfl) m_take kp_take b_take .nil pass0 (pa_cons (pv 0) (pa_cons pe_int pa_nil))) pe_int) (fun _ _ => rfl))))
abbrev NN_text : List Str := [("_law_state" : Str), ("_law_words" : Str), ("_law_signs" : Str), ("_law_turn" : Str)]
abbrev sT_text : Stmt := topS 7
theorem sc_text : FnScope NN_text [("_law_state" : Str)] (defScope sT_text) := ⟨rfl, rfl, rfl, by decide +kernel, rfl, by decide +kernel, by decide +kernel⟩
theorem ok_text {f : Addr} {fd : FuncData} (F : Fun K ("_law_text" : Str) ("_law_text" : Str) sT_text f fd) {f_take : Addr} {fd_take : FuncData} {s_take_ : Sp} (G_take : FnOk P w K mg base CX0 1 f_take fd_take [("_law_state" : Str), ("_law_many" : Str)] s_take_) (b_take : Binds K fd_take [("_law_state" : Str), ("_law_many" : Str)] []) (m_take : mg ("_law_take" : Str) = some (.ref f_take)) (kp_take : PySem.W.keepIn K (.ref f_take) = true) (z_range : mg ("range" : Str) = none) (z_len : mg ("len" : Str) = none) {sp : Sp} (hl : ∀ vs H Q E, sp vs H Q E → vs.length = 1)
    (hp : ∀ vs H Q E, sp vs H Q E → t_text K s_take_ { nx := fun _ H' => Q .non H', rt := Q } (start NN_text vs) H) : FnOk P w K mg base CX0 2 f fd [("_law_state" : Str)] sp := by
  refine F.ok (k := 1) sc_text hl (fun cdv A outer s H vs Q E hr h => ⟨t_text K s_take_, ?_, hp vs H Q E h⟩)
  exact (pss_cons (ps_set (i := 1) sc_text.nd rfl (by first | exact Or.inl rfl | exact Or.inr rfl) (pe_lst (pa_cons pe_str (pa_cons pe_str (pa_cons pe_str (pa_cons pe_str (pa_cons pe_str (pa_cons pe_str (pa_cons pe_str (pa_cons pe_str (pa_cons pe_str (pa_cons pe_str (pa_cons (pe_op op_mulT pe_str pe_int) (pa_cons (pe_slice sl_u pe_str po_none (po_some pe_int)) pa_nil))))))))))))))
      (pss_cons (ps_if (pt_cmpR op_gtV (pe_call G_take (hr.mono (by decide)) (by rfl) m_take kp_take b_take .nil pass0 (pa_cons (pv 0) (pa_cons pe_int pa_nil))) pe_int (nomark _))
      (pss_one (ps_ret (pe_ix (ix_u (hu_of hr)) (pv 1) (pe_call G_take (hr.mono (by decide)) (by rfl) m_take kp_take b_take .nil pass0 (pa_cons (pv 0) (pa_cons pe_int pa_nil))) (fun _ _ => rfl))))
      pss_nil)
      (pss_cons (ps_set (i := 2) sc_text.nd rfl (by first | exact Or.inl rfl | exact Or.inr rfl) pe_str)
      (pss_one (ps_ret (pe_bm PySem.F.plainAttrs_str PySem.F.slot_str_join PySem.F.type_str_join mt_joinS pe_str (pa_cons (pe_lc (own := [(("_law_turn" : Str), 3)]) (g := (gName 3)) (tt := tYes) (te := (tOp (rIxU K) (tVar 2) (tCall s_take_ [] E0 (tCons (tVar 0) (tCons (tCB (rLenU K) (tCons (tVar 2) tNil)) tNil))))) (by rfl) sc_text.nd (pi_range1 rfl z_range (pa_cons (pe_call G_take (hr.mono (by decide)) (by rfl) m_take kp_take b_take .nil pass0 (pa_cons (pv 0) (pa_cons pe_int pa_nil))) pa_nil)) (blkOk_by (own := [(("_law_turn" : Str), 3)]) (N := [("_law_state" : Str), ("_law_words" : Str), ("_law_signs" : Str), ("_law_turn" : Str)]) (sc := defScope sT_text) (by decide +kernel)) (fun _ _ _ _ _ => (pg_name (i := 3) sc_text.nd rfl (by first | exact Or.inl rfl | exact Or.inr rfl))) (fun _ _ _ _ _ => pts_nil) (fun _ _ _ _ _ => (pe_ix (ix_u (hu_of hr)) (pv 2) (pe_call G_take (hr.mono (by decide)) (by rfl) m_take kp_take b_take .nil pass0 (pa_cons (pv 0) (pa_cons (pe_callB call_lenU (by rfl) z_len bt_len (pa_cons (pv 2) pa_nil)) pa_nil))) (fun _ _ => rfl)))) pa_nil)))))))
abbrev NN_number : List Str := [("_law_state" : Str), ("_law_way" : Str), ("_law_number_here" : Str)]
abbrev sT_number : Stmt := topS 6
theorem sc_number : FnScope NN_number [("_law_state" : Str)] (defScope sT_number) := ⟨rfl, rfl, rfl, by decide +kernel, rfl, by decide +kernel, by decide +kernel⟩
theorem ok_number {f : Addr} {fd : FuncData} (F : Fun K ("_law_number" : Str) ("_law_number" : Str) sT_number f fd) {f_take : Addr} {fd_take : FuncData} {s_take_ : Sp} (G_take : FnOk P w K mg base CX0 1 f_take fd_take [("_law_state" : Str), ("_law_many" : Str)] s_take_) (b_take : Binds K fd_take [("_law_state" : Str), ("_law_many" : Str)] []) (m_take : mg ("_law_take" : Str) = some (.ref f_take)) (kp_take : PySem.W.keepIn K (.ref f_take) = true) {sp : Sp} (hl : ∀ vs H Q E, sp vs H Q E → vs.length = 1)
    (hp : ∀ vs H Q E, sp vs H Q E → t_number K s_take_ { nx := fun _ H' => Q .non H', rt := Q } (start NN_number vs) H) : FnOk P w K mg base CX0 2 f fd [("_law_state" : Str)] sp := by
  refine F.ok (k := 1) sc_number hl (fun cdv A outer s H vs Q E hr h => ⟨t_number K s_take_, ?_, hp vs H Q E h⟩)
  exact (pss_cons (ps_set (i := 1) sc_number.nd rfl (by first | exact Or.inl rfl | exact Or.inr rfl) (pe_call G_take (hr.mono (by decide)) (by rfl) m_take kp_take b_take .nil pass0 (pa_cons (pv 0) (pa_cons pe_int pa_nil))))
      (pss_cons (ps_set (i := 2) sc_number.nd rfl (by first | exact Or.inl rfl | exact Or.inr rfl) (pe_call G_take (hr.mono (by decide)) (by rfl) m_take kp_take b_take .nil pass0 (pa_cons (pv 0) (pa_cons pe_int pa_nil))))
      (pss_cons (ps_if (pt_cmpR (op_eqU hr.units) (pv 1) pe_int (nomark _))
      (pss_one (ps_set (i := 2) sc_number.nd rfl (by first | exact Or.inl rfl | exact Or.inr rfl) (pe_ix (ix_u (hu_of hr)) (pe_lst (pa_cons pe_int (pa_cons pe_int (pa_cons pe_int (pa_cons pe_int (pa_cons pe_int (pa_cons pe_int (pa_cons pe_int (pa_cons pe_int (pa_cons (pe_op op_subU (pe_op op_powU pe_int pe_int) pe_int) (pa_cons (pe_op op_powU pe_int pe_int) (pa_cons pe_int (pa_cons pe_int pa_nil))))))))))))) (pv 2) (fun _ _ => rfl))))
      pss_nil)
      (pss_cons (ps_if (pt_cmpR (op_eqU hr.units) (pv 1) pe_int (nomark _))
      (pss_one (ps_set (i := 2) sc_number.nd rfl (by first | exact Or.inl rfl | exact Or.inr rfl) (pe_op op_addU (pe_op op_mulT (pe_call G_take (hr.mono (by decide)) (by rfl) m_take kp_take b_take .nil pass0 (pa_cons (pv 0) (pa_cons (pe_op op_powU pe_int pe_int) pa_nil))) (pe_op op_powU pe_int pe_int)) (pe_call G_take (hr.mono (by decide)) (by rfl) m_take kp_take b_take .nil pass0 (pa_cons (pv 0) (pa_cons (pe_op op_powU pe_int pe_int) pa_nil))))))
      pss_nil)
      (pss_cons (ps_if (pt_cmpR (op_eqU hr.units) (pv 1) pe_int (nomark _))
      (pss_one (ps_set (i := 2) sc_number.nd rfl (by first | exact Or.inl rfl | exact Or.inr rfl) (pe_call G_take (hr.mono (by decide)) (by rfl) m_take kp_take b_take .nil pass0 (pa_cons (pv 0) (pa_cons pe_int pa_nil)))))
      pss_nil)
      (pss_one (ps_ret (pe_op op_mulT (pv 2) (pe_ix (ix_u (hu_of hr)) (pe_lst (pa_cons pe_int (pa_cons (pe_un un_negU pe_int) pa_nil))) (pe_call G_take (hr.mono (by decide)) (by rfl) m_take kp_take b_take .nil pass0 (pa_cons (pv 0) (pa_cons pe_int pa_nil))) (fun _ _ => rfl))))))))))
abbrev NN_cells : List Str := [("_law_state" : Str), ("_law_kind_here" : Str), ("_law_many" : Str), ("_law_way" : Str), ("_law_open_in" : Str), ("_law_turn" : Str), ("_law_some" : Str), ("_law_step" : Str), ("_law_cells_here" : Str), ("_law_place" : Str), ("_law_cell" : Str)]
abbrev sT_cells : Stmt := topS 8
theorem sc_cells : FnScope NN_cells [("_law_state" : Str), ("_law_kind_here" : Str), ("_law_many" : Str)] (defScope sT_cells) := ⟨rfl, rfl, rfl, by decide +kernel, rfl, by decide +kernel, by decide +kernel⟩
theorem ok_cells {f : Addr} {fd : FuncData} (F : Fun K ("_law_cells" : Str) ("_law_cells" : Str) sT_cells f fd) {f_take : Addr} {fd_take : FuncData} {s_take_ : Sp} (G_take : FnOk P w K mg base CX0 1 f_take fd_take [("_law_state" : Str), ("_law_many" : Str)] s_take_) (b_take : Binds K fd_take [("_law_state" : Str), ("_law_many" : Str)] []) (m_take : mg ("_law_take" : Str) = some (.ref f_take)) (kp_take : PySem.W.keepIn K (.ref f_take) = true) {f_text : Addr} {fd_text : FuncData} {s_text_ : Sp} (G_text : FnOk P w K mg base CX0 2 f_text fd_text [("_law_state" : Str)] s_text_) (b_text : Binds K fd_text [("_law_state" : Str)] []) (m_text : mg ("_law_text" : Str) = some (.ref f_text)) (kp_text : PySem.W.keepIn K (.ref f_text) = true) {f_number : Addr} {fd_number : FuncData} {s_number_ : Sp} (G_number : FnOk P w K mg base CX0 2 f_number fd_number [("_law_state" : Str)] s_number_) (b_number : Binds K fd_number [("_law_state" : Str)] []) (m_number : mg ("_law_number" : Str) = some (.ref f_number)) (kp_number : PySem.W.keepIn K (.ref f_number) = true) (z_range : mg ("range" : Str) = none) (z_len : mg ("len" : Str) = none) {sp : Sp} (hl : ∀ vs H Q E, sp vs H Q E → vs.length = 3)
    (hp : ∀ vs H Q E, sp vs H Q E → t_cells K s_take_ s_text_ s_number_ { nx := fun _ H' => Q .non H', rt := Q } (start NN_cells vs) H) : FnOk P w K mg base CX0 3 f fd [("_law_state" : Str), ("_law_kind_here" : Str), ("_law_many" : Str)] sp := by
  refine F.ok (k := 2) sc_cells hl (fun cdv A outer s H vs Q E hr h => ⟨t_cells K s_take_ s_text_ s_number_, ?_, hp vs H Q E h⟩)
  exact (pss_cons (ps_set (i := 3) sc_cells.nd rfl (by first | exact Or.inl rfl | exact Or.inr rfl) (pe_call G_take (hr.mono (by decide)) (by rfl) m_take kp_take b_take .nil pass0 (pa_cons (pv 0) (pa_cons pe_int pa_nil))))
      (pss_cons (ps_set (i := 4) sc_cells.nd rfl (by first | exact Or.inl rfl | exact Or.inr rfl) (pe_ix (ix_u (hu_of hr)) (pe_lst (pa_cons pe_int (pa_cons pe_int (pa_cons pe_int pa_nil)))) (pe_call G_take (hr.mono (by decide)) (by rfl) m_take kp_take b_take .nil pass0 (pa_cons (pv 0) (pa_cons pe_int pa_nil))) (fun _ _ => rfl)))
      (pss_cons (ps_setLc (i := 6) (own := [(("_law_turn" : Str), 5)]) (g := (gName 5)) (tt := tYes) (te := (tIf (tTest (tOp (rEqU K) (tVar 1) (tC (.str ("text" : Str))))) (tCall s_text_ [] E0 (tCons (tVar 0) tNil)) (tCall s_number_ [] E0 (tCons (tVar 0) tNil)))) (by rfl) sc_cells.nd rfl rfl (sw_true rfl rfl rfl (by decide +kernel)) (pi_range1 rfl z_range (pa_cons (pe_op op_addU pe_int (pe_call G_take (hr.mono (by decide)) (by rfl) m_take kp_take b_take .nil pass0 (pa_cons (pv 0) (pa_cons pe_int pa_nil)))) pa_nil)) (blkOk_by (own := [(("_law_turn" : Str), 5)]) (N := [("_law_state" : Str), ("_law_kind_here" : Str), ("_law_many" : Str), ("_law_way" : Str), ("_law_open_in" : Str), ("_law_turn" : Str), ("_law_some" : Str), ("_law_step" : Str), ("_law_cells_here" : Str), ("_law_place" : Str), ("_law_cell" : Str)]) (sc := defScope sT_cells) (by decide +kernel)) (fun _ _ _ _ _ => (pg_name (i := 5) sc_cells.nd rfl (by first | exact Or.inl rfl | exact Or.inr rfl))) (fun _ _ _ _ _ => pts_nil) (fun _ _ _ _ _ => (pe_ifExp (pt_cmpR (op_eqU hr.units) (pv 1) pe_str (nomark _)) (pe_call G_text (hr.mono (by decide)) (by rfl) m_text kp_text b_text .nil pass0 (pa_cons (pv 0) pa_nil)) (pe_call G_number (hr.mono (by decide)) (by rfl) m_number kp_number b_number .nil pass0 (pa_cons (pv 0) pa_nil)))))
      (pss_cons (ps_set (i := 7) sc_cells.nd rfl (by first | exact Or.inl rfl | exact Or.inr rfl) (pe_ix (ix_u (hu_of hr)) (pe_lst (pa_cons (pe_op op_subU (pe_call G_take (hr.mono (by decide)) (by rfl) m_take kp_take b_take .nil pass0 (pa_cons (pv 0) (pa_cons pe_int pa_nil))) pe_int) (pa_cons (pe_call G_take (hr.mono (by decide)) (by rfl) m_take kp_take b_take .nil pass0 (pa_cons (pv 0) (pa_cons (pe_op op_powU pe_int pe_int) pa_nil))) pa_nil))) (pe_call G_take (hr.mono (by decide)) (by rfl) m_take kp_take b_take .nil pass0 (pa_cons (pv 0) (pa_cons pe_int pa_nil))) (fun _ _ => rfl)))
      (pss_cons (ps_set (i := 8) sc_cells.nd rfl (by first | exact Or.inl rfl | exact Or.inr rfl) (pe_lst pa_nil))
      (pss_cons (ps_for PassesOwn.never rfl (pi_range1 rfl z_range (pa_cons (pv 2) pa_nil)) (pg_name (i := 9) sc_cells.nd rfl (by first | exact Or.inl rfl | exact Or.inr rfl))
      (pss_cons (ps_set (i := 10) sc_cells.nd rfl (by first | exact Or.inl rfl | exact Or.inr rfl) (pe_ix (ix_u (hu_of hr)) (pv 6) (pe_call G_take (hr.mono (by decide)) (by rfl) m_take kp_take b_take .nil pass0 (pa_cons (pv 0) (pa_cons (pe_callB call_lenU (by rfl) z_len bt_len (pa_cons (pv 6) pa_nil)) pa_nil))) (fun _ _ => rfl)))
      (pss_cons (ps_if (PW.pt (pw_and (pt_cmpR (op_eqU hr.units) (pv 3) pe_int (nomark _)) (pw_and (pt_cmpR op_gtV (pv 9) pe_int (nomark _)) (pw_and1 (pt_cmpR op_gtV (pe_call G_take (hr.mono (by decide)) (by rfl) m_take kp_take b_take .nil pass0 (pa_cons (pv 0) (pa_cons pe_int pa_nil))) pe_int (nomark _))))))
      (pss_one (ps_set (i := 10) sc_cells.nd rfl (by first | exact Or.inl rfl | exact Or.inr rfl) (pe_ix (ix_u (hu_of hr)) (pv 8) (pe_un un_negU pe_int) (fun _ _ => rfl))))
      (pss_one (ps_if (PW.pt (pw_and (pt_cmpR (op_eqU hr.units) (pv 3) pe_int (nomark _)) (pw_and1 (pt_cmpR (op_eqU hr.units) (pv 1) pe_str (nomark _)))))
      (pss_one (ps_set (i := 10) sc_cells.nd rfl (by first | exact Or.inl rfl | exact Or.inr rfl) (pe_op op_addU (pe_op op_modU (pe_ix (ix_u (hu_of hr)) (pv 6) pe_int (fun _ _ => rfl)) (pe_op op_powU pe_int pe_int)) (pe_op op_mulT (pv 9) (pv 7)))))
      (pss_one (ps_if (PW.pt (pw_and (pt_cmpR (op_eqU hr.units) (pv 3) pe_int (nomark _)) (pw_and1 (pt_cmpR (op_eqU hr.units) (pv 1) pe_str (nomark _)))))
      (pss_one (ps_set (i := 10) sc_cells.nd rfl (by first | exact Or.inl rfl | exact Or.inr rfl) (pe_call G_number (hr.mono (by decide)) (by rfl) m_number kp_number b_number .nil pass0 (pa_cons (pv 0) pa_nil))))
      pss_nil)))))
      (pss_cons (ps_if (PW.pt (pw_and (pt_cmpR op_gtV (pv 4) pe_int (nomark _)) (pw_and (pt_cmpR (op_neU hr.units) (pv 3) pe_int (nomark _)) (pw_and1 (pt_cmpR (op_eqU hr.units) (pe_call G_take (hr.mono (by decide)) (by rfl) m_take kp_take b_take .nil pass0 (pa_cons (pv 0) (pa_cons (pv 4) pa_nil))) pe_int (nomark _))))))
      (pss_one (ps_set (i := 10) sc_cells.nd rfl (by first | exact Or.inl rfl | exact Or.inr rfl) pe_non))
      pss_nil)
      (pss_one (ps_expr (pe_bm PySem.F.plainAttrs_list PySem.F.slot_list_append PySem.F.type_list_append mt_append (pv 8) (pa_cons (pv 10) pa_nil))))))))
      (pss_one (ps_ret (pv 8)))))))))
abbrev NN_near_cells : List Str := [("_law_state" : Str), ("_law_kind_here" : Str), ("_law_many" : Str), ("_law_first" : Str), ("_law_texts" : Str), ("_law_wide" : Str), ("_law_begin_here" : Str), ("_law_open_in" : Str), ("_law_cells_here" : Str), ("_law_k" : Str), ("_law_turn" : Str), ("_law_cell" : Str)]
abbrev sT_near_cells : Stmt := topS 10
theorem sc_near_cells : FnScope NN_near_cells [("_law_state" : Str), ("_law_kind_here" : Str), ("_law_many" : Str)] (defScope sT_near_cells) := ⟨rfl, rfl, rfl, by decide +kernel, rfl, by decide +kernel, by decide +kernel⟩
theorem ok_near_cells {f : Addr} {fd : FuncData} (F : Fun K ("_law_near_cells" : Str) ("_law_near_cells" : Str) sT_near_cells f fd) {f_take : Addr} {fd_take : FuncData} {s_take_ : Sp} (G_take : FnOk P w K mg base CX0 1 f_take fd_take [("_law_state" : Str), ("_law_many" : Str)] s_take_) (b_take : Binds K fd_take [("_law_state" : Str), ("_law_many" : Str)] []) (m_take : mg ("_law_take" : Str) = some (.ref f_take)) (kp_take : PySem.W.keepIn K (.ref f_take) = true) (z_range : mg ("range" : Str) = none) (z_int : mg ("int" : Str) = none) {sp : Sp} (hl : ∀ vs H Q E, sp vs H Q E → vs.length = 3)
    (hp : ∀ vs H Q E, sp vs H Q E → t_near_cells K s_take_ { nx := fun _ H' => Q .non H', rt := Q } (start NN_near_cells vs) H) : FnOk P w K mg base CX0 2 f fd [("_law_state" : Str), ("_law_kind_here" : Str), ("_law_many" : Str)] sp := by
  refine F.ok (k := 1) sc_near_cells hl (fun cdv A outer s H vs Q E hr h => ⟨t_near_cells K s_take_, ?_, hp vs H Q E h⟩)
  exact (pss_cons (ps_set (i := 3) sc_near_cells.nd rfl (by first | exact Or.inl rfl | exact Or.inr rfl) (pe_ix (ix_u (hu_of hr)) (pe_lst (pa_cons (pe_op op_subU (pe_call G_take (hr.mono (by decide)) (by rfl) m_take kp_take b_take .nil pass0 (pa_cons (pv 0) (pa_cons pe_int pa_nil))) pe_int) (pa_cons (pe_op op_subU (pe_op op_powU pe_int pe_int) pe_int) (pa_cons (pe_op op_subU pe_int (pe_op op_powU pe_int pe_int)) (pa_cons pe_int pa_nil))))) (pe_call G_take (hr.mono (by decide)) (by rfl) m_take kp_take b_take .nil pass0 (pa_cons (pv 0) (pa_cons pe_int pa_nil))) (fun _ _ => rfl)))
      (pss_cons (ps_set (i := 4) sc_near_cells.nd rfl (by first | exact Or.inl rfl | exact Or.inr rfl) (pe_lst (pa_cons pe_str (pa_cons pe_str (pa_cons pe_str (pa_cons pe_str (pa_cons pe_str (pa_cons pe_str (pa_cons pe_str (pa_cons pe_str pa_nil))))))))))
      (pss_cons (ps_set (i := 5) sc_near_cells.nd rfl (by first | exact Or.inl rfl | exact Or.inr rfl) (pe_ix (ix_u (hu_of hr)) (pe_lst (pa_cons pe_int (pa_cons pe_int (pa_cons pe_int (pa_cons pe_int (pa_cons pe_int pa_nil)))))) (pe_call G_take (hr.mono (by decide)) (by rfl) m_take kp_take b_take .nil pass0 (pa_cons (pv 0) (pa_cons pe_int pa_nil))) (fun _ _ => rfl)))
      (pss_cons (ps_set (i := 6) sc_near_cells.nd rfl (by first | exact Or.inl rfl | exact Or.inr rfl) (pe_call G_take (hr.mono (by decide)) (by rfl) m_take kp_take b_take .nil pass0 (pa_cons (pv 0) (pa_cons pe_int pa_nil))))
      (pss_cons (ps_set (i := 7) sc_near_cells.nd rfl (by first | exact Or.inl rfl | exact Or.inr rfl) (pe_ix (ix_u (hu_of hr)) (pe_lst (pa_cons pe_int (pa_cons pe_int (pa_cons pe_int (pa_cons pe_int (pa_cons pe_int pa_nil)))))) (pe_call G_take (hr.mono (by decide)) (by rfl) m_take kp_take b_take .nil pass0 (pa_cons (pv 0) (pa_cons pe_int pa_nil))) (fun _ _ => rfl)))
      (pss_cons (ps_set (i := 8) sc_near_cells.nd rfl (by first | exact Or.inl rfl | exact Or.inr rfl) (pe_lst pa_nil))
      (pss_cons (ps_for PassesOwn.never rfl (pi_range1 rfl z_range (pa_cons (pv 2) pa_nil)) (pg_name (i := 9) sc_near_cells.nd rfl (by first | exact Or.inl rfl | exact Or.inr rfl))
      (pss_cons (ps_set (i := 10) sc_near_cells.nd rfl (by first | exact Or.inl rfl | exact Or.inr rfl) (pe_call G_take (hr.mono (by decide)) (by rfl) m_take kp_take b_take .nil pass0 (pa_cons (pv 0) (pa_cons (pv 5) pa_nil))))
      (pss_cons (ps_set (i := 11) sc_near_cells.nd rfl (by first | exact Or.inl rfl | exact Or.inr rfl) (pe_ix (ix_u (hu_of hr)) (pe_lst (pa_cons (pe_op op_addU (pv 3) (pe_op op_modU (pv 10) pe_int)) (pa_cons (pe_ix (ix_u (hu_of hr)) (pv 4) (pe_op op_modU (pe_op op_addU (pv 6) (pv 10)) pe_int) (fun _ _ => rfl)) pa_nil))) (pe_callTy call_intU (by rfl) z_int bt_int (pa_cons (pe_cmpR (op_eqU hr.units) (pv 1) pe_str (nomark _)) pa_nil)) (fun _ _ => rfl)))
      (pss_cons (ps_if (PW.pt (pw_and (pt_cmpR op_gtV (pv 7) pe_int (nomark _)) (pw_and1 (pt_cmpR (op_eqU hr.units) (pe_call G_take (hr.mono (by decide)) (by rfl) m_take kp_take b_take .nil pass0 (pa_cons (pv 0) (pa_cons (pv 7) pa_nil))) pe_int (nomark _)))))
      (pss_one (ps_set (i := 11) sc_near_cells.nd rfl (by first | exact Or.inl rfl | exact Or.inr rfl) pe_non))
      pss_nil)
      (pss_one (ps_expr (pe_bm PySem.F.plainAttrs_list PySem.F.slot_list_append PySem.F.type_list_append mt_append (pv 8) (pa_cons (pv 11) pa_nil))))))))
      (pss_one (ps_ret (pv 8))))))))))
abbrev NN_some_cells : List Str := [("_law_state" : Str), ("_law_kind_here" : Str), ("_law_many" : Str)]
abbrev sT_some_cells : Stmt := topS 11
theorem sc_some_cells : FnScope NN_some_cells [("_law_state" : Str), ("_law_kind_here" : Str), ("_law_many" : Str)] (defScope sT_some_cells) := ⟨rfl, rfl, rfl, by decide +kernel, rfl, by decide +kernel, by decide +kernel⟩
theorem ok_some_cells {f : Addr} {fd : FuncData} (F : Fun K ("_law_some_cells" : Str) ("_law_some_cells" : Str) sT_some_cells f fd) {f_take : Addr} {fd_take : FuncData} {s_take_ : Sp} (G_take : FnOk P w K mg base CX0 1 f_take fd_take [("_law_state" : Str), ("_law_many" : Str)] s_take_) (b_take : Binds K fd_take [("_law_state" : Str), ("_law_many" : Str)] []) (m_take : mg ("_law_take" : Str) = some (.ref f_take)) (kp_take : PySem.W.keepIn K (.ref f_take) = true) {f_cells : Addr} {fd_cells : FuncData} {s_cells_ : Sp} (G_cells : FnOk P w K mg base CX0 3 f_cells fd_cells [("_law_state" : Str), ("_law_kind_here" : Str), ("_law_many" : Str)] s_cells_) (b_cells : Binds K fd_cells [("_law_state" : Str), ("_law_kind_here" : Str), ("_law_many" : Str)] []) (m_cells : mg ("_law_cells" : Str) = some (.ref f_cells)) (kp_cells : PySem.W.keepIn K (.ref f_cells) = true) {f_near_cells : Addr} {fd_near_cells : FuncData} {s_near_cells_ : Sp} (G_near_cells : FnOk P w K mg base CX0 2 f_near_cells fd_near_cells [("_law_state" : Str), ("_law_kind_here" : Str), ("_law_many" : Str)] s_near_cells_) (b_near_cells : Binds K fd_near_cells [("_law_state" : Str), ("_law_kind_here" : Str), ("_law_many" : Str)] []) (m_near_cells : mg ("_law_near_cells" : Str) = some (.ref f_near_cells)) (kp_near_cells : PySem.W.keepIn K (.ref f_near_cells) = true) {sp : Sp} (hl : ∀ vs H Q E, sp vs H Q E → vs.length = 3)
    (hp : ∀ vs H Q E, sp vs H Q E → t_some_cells K s_take_ s_cells_ s_near_cells_ { nx := fun _ H' => Q .non H', rt := Q } (start NN_some_cells vs) H) : FnOk P w K mg base CX0 4 f fd [("_law_state" : Str), ("_law_kind_here" : Str), ("_law_many" : Str)] sp := by
  refine F.ok (k := 3) sc_some_cells hl (fun cdv A outer s H vs Q E hr h => ⟨t_some_cells K s_take_ s_cells_ s_near_cells_, ?_, hp vs H Q E h⟩)
  exact (pss_cons (ps_if (pt_cmpR (op_eqU hr.units) (pe_call G_take (hr.mono (by decide)) (by rfl) m_take kp_take b_take .nil pass0 (pa_cons (pv 0) (pa_cons pe_int pa_nil))) pe_int (nomark _))
      (pss_one (ps_ret (pe_call G_cells (hr.mono (by decide)) (by rfl) m_cells kp_cells b_cells .nil pass0 (pa_cons (pv 0) (pa_cons (pv 1) (pa_cons (pv 2) pa_nil))))))
      pss_nil)
      (pss_one (ps_ret (pe_call G_near_cells (hr.mono (by decide)) (by rfl) m_near_cells kp_near_cells b_near_cells .nil pass0 (pa_cons (pv 0) (pa_cons (pv 1) (pa_cons (pv 2) pa_nil)))))))
abbrev NN_note : List Str := [("_law_cells_here" : Str), ("_law_cell" : Str), ("_law_known" : Str)]
abbrev sT_note : Stmt := topS 12
theorem sc_note : FnScope NN_note [("_law_cells_here" : Str)] (defScope sT_note) := ⟨rfl, rfl, rfl, by decide +kernel, rfl, by decide +kernel, by decide +kernel⟩
theorem ok_note {f : Addr} {fd : FuncData} (F : Fun K ("_law_note" : Str) ("_law_note" : Str) sT_note f fd) (z_sorted : mg ("sorted" : Str) = none) (z_len : mg ("len" : Str) = none) {sp : Sp} (hl : ∀ vs H Q E, sp vs H Q E → vs.length = 1)
    (hp : ∀ vs H Q E, sp vs H Q E → t_note K { nx := fun _ H' => Q .non H', rt := Q } (start NN_note vs) H) : FnOk P w K mg base CX0 1 f fd [("_law_cells_here" : Str)] sp := by
  refine F.ok (k := 0) sc_note hl (fun cdv A outer s H vs Q E hr h => ⟨t_note K, ?_, hp vs H Q E h⟩)
  exact (pss_cons (ps_set (i := 2) sc_note.nd rfl (by first | exact Or.inl rfl | exact Or.inr rfl) (pe_callB cr_sortIT (by rfl) z_sorted bt_sorted (pa_cons (pe_lc (own := [(("_law_cell" : Str), 1)]) (g := (gName 1)) (tt := (tTest (tOp (rNotN) (tVar 1) (tC .non)))) (te := (tVar 1)) (by rfl) sc_note.nd (pi_seqV (pv 0)) (blkOk_by (own := [(("_law_cell" : Str), 1)]) (N := [("_law_cells_here" : Str), ("_law_cell" : Str), ("_law_known" : Str)]) (sc := defScope sT_note) (by decide +kernel)) (fun _ _ _ _ _ => (pg_name (i := 1) sc_note.nd rfl (by first | exact Or.inl rfl | exact Or.inr rfl))) (fun _ _ _ _ _ => pts_one (pt_cmpR op_notNU (pv 1) pe_non (nomark _))) (fun _ _ _ _ _ => (pv 1))) pa_nil)))
      (pss_cons (ps_if (pt_cmpR (op_eqU hr.units) (pv 2) (pe_lst pa_nil) (nomark _))
      (pss_one (ps_ret (pe_tup (pa_cons (pe_callB call_lenU (by rfl) z_len bt_len (pa_cons (pv 0) pa_nil)) (pa_cons (pe_callB call_lenU (by rfl) z_len bt_len (pa_cons (pv 0) pa_nil)) (pa_cons pe_non (pa_cons pe_non pa_nil)))))))
      pss_nil)
      (pss_one (ps_ret (pe_tup (pa_cons (pe_callB call_lenU (by rfl) z_len bt_len (pa_cons (pv 0) pa_nil)) (pa_cons (pe_op op_subU (pe_callB call_lenU (by rfl) z_len bt_len (pa_cons (pv 0) pa_nil)) (pe_callB call_lenU (by rfl) z_len bt_len (pa_cons (pv 2) pa_nil))) (pa_cons (pe_ix (ix_u (hu_of hr)) (pv 2) pe_int (fun _ _ => rfl)) (pa_cons (pe_ix (ix_u (hu_of hr)) (pv 2) (pe_un un_negU pe_int) (fun _ _ => rfl)) pa_nil)))))))))
abbrev NN_same : List Str := [("_law_found" : Str), ("_law_due" : Str), ("_law_name" : Str), ("_law_one" : Str), ("_law_other" : Str)]
abbrev sT_same : Stmt := topS 5
theorem sc_same : FnScope NN_same [("_law_found" : Str), ("_law_due" : Str)] (defScope sT_same) := ⟨rfl, rfl, rfl, by decide +kernel, rfl, by decide +kernel, by decide +kernel⟩
theorem ok_same {k : Nat} {f : Addr} {fd : FuncData} (F : Fun K ("_law_same" : Str) ("_law_same" : Str) sT_same f fd) {f_same : Addr} {fd_same : FuncData} {s_same_ : Sp} (G_same : FnOk P w K mg base CX0 k f_same fd_same [("_law_found" : Str), ("_law_due" : Str)] s_same_) (b_same : Binds K fd_same [("_law_found" : Str), ("_law_due" : Str)] []) (m_same : mg ("_law_same" : Str) = some (.ref f_same)) (kp_same : PySem.W.keepIn K (.ref f_same) = true) (z_isinstance : mg ("isinstance" : Str) = none) (z_dict : mg ("dict" : Str) = none) (z_list : mg ("list" : Str) = none) (z_tuple : mg ("tuple" : Str) = none) (z_len : mg ("len" : Str) = none) (z_all : mg ("all" : Str) = none) (z_zip : mg ("zip" : Str) = none) (z_str : mg ("str" : Str) = none) (z_int : mg ("int" : Str) = none) (z_bool : mg ("bool" : Str) = none) {sp : Sp} (hl : ∀ vs H Q E, sp vs H Q E → vs.length = 2)
    (hp : ∀ vs H Q E, sp vs H Q E → t_same K s_same_ { nx := fun _ H' => Q .non H', rt := Q } (start NN_same vs) H) : FnOk P w K mg base CX0 (k + 1) f fd [("_law_found" : Str), ("_law_due" : Str)] sp := by
  refine F.ok (k := k) sc_same hl (fun cdv A outer s H vs Q E hr h => ⟨t_same K s_same_, ?_, hp vs H Q E h⟩)
  exact (pss_cons (ps_if (pt_cmpR op_isNU (pv 1) pe_non (nomark _))
      (pss_one (ps_ret (pe_cmpR op_isNU (pv 0) pe_non (nomark _))))
      pss_nil)
      (pss_cons (ps_if (pt_truU (pe_callB call_isiU (by rfl) z_isinstance bt_isinstance (pa_cons (pv 1) (pa_cons (pe_bltn (by rfl) z_dict bt_dict rfl) pa_nil))) (by intro _; rfl))
      (pss_cons ps_never
      (pss_one ps_never))
      pss_nil)
      (pss_cons (ps_if (PW.pt (pw_or (pt_truU (pe_callB call_isiU (by rfl) z_isinstance bt_isinstance (pa_cons (pv 1) (pa_cons (pe_bltn (by rfl) z_list bt_list rfl) pa_nil))) (by intro _; rfl)) (pw_or1 (pt_truU (pe_callB call_isiU (by rfl) z_isinstance bt_isinstance (pa_cons (pv 1) (pa_cons (pe_bltn (by rfl) z_tuple bt_tuple rfl) pa_nil))) (by intro _; rfl)))))
      (pss_cons (ps_if (pt_cmpR (op_neU hr.units) (pe_callB call_isiU (by rfl) z_isinstance bt_isinstance (pa_cons (pv 0) (pa_cons (pe_bltn (by rfl) z_list bt_list rfl) pa_nil))) (pe_callB call_isiU (by rfl) z_isinstance bt_isinstance (pa_cons (pv 1) (pa_cons (pe_bltn (by rfl) z_list bt_list rfl) pa_nil))) (nomark _))
      (pss_one (ps_ret pe_bl))
      pss_nil)
      (pss_cons (ps_if (PW.pt (pw_or (pt_cmpR (op_neU hr.units) (pe_callB call_isiU (by rfl) z_isinstance bt_isinstance (pa_cons (pv 0) (pa_cons (pe_bltn (by rfl) z_tuple bt_tuple rfl) pa_nil))) (pe_callB call_isiU (by rfl) z_isinstance bt_isinstance (pa_cons (pv 1) (pa_cons (pe_bltn (by rfl) z_tuple bt_tuple rfl) pa_nil))) (nomark _)) (pw_or1 (pt_cmpR (op_neU hr.units) (pe_callB call_lenU (by rfl) z_len bt_len (pa_cons (pv 0) pa_nil)) (pe_callB call_lenU (by rfl) z_len bt_len (pa_cons (pv 1) pa_nil)) (nomark _)))))
      (pss_one (ps_ret pe_bl))
      pss_nil)
      (pss_one (ps_ret (pe_callB (cr_all (by rfl)) (by rfl) z_all bt_all (pa_cons (pe_lc (own := [(("_law_one" : Str), 3), (("_law_other" : Str), 4)]) (g := (gTup K 2 (gCons (gName 3) (gCons (gName 4) gNil)))) (tt := tYes) (te := (tCall s_same_ [] E0 (tCons (tVar 3) (tCons (tVar 4) tNil)))) (by rfl) sc_same.nd (RZ.pi_zipA (by rfl) z_zip (pa_cons (pv 0) (pa_cons (pv 1) pa_nil))) (blkOk_by (own := [(("_law_one" : Str), 3), (("_law_other" : Str), 4)]) (N := [("_law_found" : Str), ("_law_due" : Str), ("_law_name" : Str), ("_law_one" : Str), ("_law_other" : Str)]) (sc := defScope sT_same) (by decide +kernel)) (fun _ _ _ _ _ => (pg_tup rfl (pgs_cons (pg_name (i := 3) sc_same.nd rfl (by first | exact Or.inl rfl | exact Or.inr rfl)) (pgs_cons (pg_name (i := 4) sc_same.nd rfl (by first | exact Or.inl rfl | exact Or.inr rfl)) pgs_nil)))) (fun _ _ _ _ _ => pts_nil) (fun _ _ _ _ _ => (pe_call G_same (hr.mono (by exact Nat.le_refl _)) (by rfl) m_same kp_same b_same .nil pass0 (pa_cons (pv 3) (pa_cons (pv 4) pa_nil))))) pa_nil))))))
      pss_nil)
      (pss_cons (ps_if (pt_truU (pe_callB call_isiU (by rfl) z_isinstance bt_isinstance (pa_cons (pv 1) (pa_cons (pe_bltn (by rfl) z_str bt_str rfl) pa_nil))) (by intro _; rfl))
      (pss_one (ps_ret (pe_and (pe_callB call_isiU (by rfl) z_isinstance bt_isinstance (pa_cons (pv 0) (pa_cons (pe_bltn (by rfl) z_str bt_str rfl) pa_nil))) (pe_one (pe_cmpR (op_eqU hr.units) (pv 0) (pv 1) (nomark _))))))
      pss_nil)
      (pss_one (ps_ret (pe_and (pe_callB call_isiU (by rfl) z_isinstance bt_isinstance (pa_cons (pv 0) (pa_cons (pe_bltn (by rfl) z_int bt_int rfl) pa_nil))) (pe_and (pe_not (pe_callB call_isiU (by rfl) z_isinstance bt_isinstance (pa_cons (pv 0) (pa_cons (pe_bltn (by rfl) z_bool bt_bool rfl) pa_nil)))) (pe_one (pe_cmpR (op_eqU hr.units) (pv 0) (pv 1) (nomark _)))))))))))
abbrev NN_note_of : List Str := [("cells" : Str), ("cell" : Str), ("known" : Str)]
abbrev sT_note_of : Stmt := topS 1
theorem sc_note_of : FnScope NN_note_of [("cells" : Str)] (defScope sT_note_of) := ⟨rfl, rfl, rfl, by decide +kernel, rfl, by decide +kernel, by decide +kernel⟩
theorem ok_note_of {f : Addr} {fd : FuncData} (F : Fun K ("note_of" : Str) ("note_of" : Str) sT_note_of f fd) (z_len : mg ("len" : Str) = none) (z_min : mg ("min" : Str) = none) (z_max : mg ("max" : Str) = none) {sp : Sp} (hl : ∀ vs H Q E, sp vs H Q E → vs.length = 1)
    (hp : ∀ vs H Q E, sp vs H Q E → t_note_of K { nx := fun _ H' => Q .non H', rt := Q } (start NN_note_of vs) H) : FnOk P w K mg base CX0 1 f fd [("cells" : Str)] sp := by
  refine F.ok (k := 0) sc_note_of hl (fun cdv A outer s H vs Q E hr h => ⟨t_note_of K, ?_, hp vs H Q E h⟩)
  exact (pss_cons (ps_setLc (i := 2) (own := [(("cell" : Str), 1)]) (g := (gName 1)) (tt := (tTest (tOp (rNotN) (tVar 1) (tC .non)))) (te := (tVar 1)) (by rfl) sc_note_of.nd rfl rfl (sw_true rfl rfl rfl (by decide +kernel)) (pi_seqV (pv 0)) (blkOk_by (own := [(("cell" : Str), 1)]) (N := [("cells" : Str), ("cell" : Str), ("known" : Str)]) (sc := defScope sT_note_of) (by decide +kernel)) (fun _ _ _ _ _ => (pg_name (i := 1) sc_note_of.nd rfl (by first | exact Or.inl rfl | exact Or.inr rfl))) (fun _ _ _ _ _ => pts_one (pt_cmpR op_notNU (pv 1) pe_non (nomark _))) (fun _ _ _ _ _ => (pv 1)))
      (pss_one (ps_ret (pe_tup (pa_cons (pe_callB call_lenU (by rfl) z_len bt_len (pa_cons (pv 0) pa_nil)) (pa_cons (pe_op op_subU (pe_callB call_lenU (by rfl) z_len bt_len (pa_cons (pv 0) pa_nil)) (pe_callB call_lenU (by rfl) z_len bt_len (pa_cons (pv 2) pa_nil))) (pa_cons (pe_callBK (ck_min (by rfl)) (by rfl) z_min bt_min (pa_cons (pv 2) pa_nil) (pk_cons pe_non pk_nil)) (pa_cons (pe_callBK (ck_max (by rfl)) (by rfl) z_max bt_max (pa_cons (pv 2) pa_nil) (pk_cons pe_non pk_nil)) pa_nil))))))))
abbrev NN_law : List Str := [("_law_script" : Str), ("_law_state" : Str), ("_law_turn" : Str), ("_law_kind_here" : Str), ("_law_many" : Str), ("_law_cells_here" : Str), ("_law_due" : Str), ("_law_handed" : Str)]
abbrev sT_law : Stmt := topS 13
theorem sc_law : FnScope NN_law [("_law_script" : Str)] (defScope sT_law) := ⟨rfl, rfl, rfl, by decide +kernel, rfl, by decide +kernel, by decide +kernel⟩
theorem ok_law {f : Addr} {fd : FuncData} (F : Fun K ("law" : Str) ("law" : Str) sT_law f fd) {f_begin : Addr} {fd_begin : FuncData} {s_begin_ : Sp} (G_begin : FnOk P w K mg base CX0 1 f_begin fd_begin [("_law_script" : Str)] s_begin_) (b_begin : Binds K fd_begin [("_law_script" : Str)] []) (m_begin : mg ("_law_begin" : Str) = some (.ref f_begin)) (kp_begin : PySem.W.keepIn K (.ref f_begin) = true) {f_kind : Addr} {fd_kind : FuncData} {s_kind_ : Sp} (G_kind : FnOk P w K mg base CX0 2 f_kind fd_kind [("_law_state" : Str)] s_kind_) (b_kind : Binds K fd_kind [("_law_state" : Str)] []) (m_kind : mg ("_law_kind" : Str) = some (.ref f_kind)) (kp_kind : PySem.W.keepIn K (.ref f_kind) = true) {f_take : Addr} {fd_take : FuncData} {s_take_ : Sp} (G_take : FnOk P w K mg base CX0 1 f_take fd_take [("_law_state" : Str), ("_law_many" : Str)] s_take_) (b_take : Binds K fd_take [("_law_state" : Str), ("_law_many" : Str)] []) (m_take : mg ("_law_take" : Str) = some (.ref f_take)) (kp_take : PySem.W.keepIn K (.ref f_take) = true) {f_some_cells : Addr} {fd_some_cells : FuncData} {s_some_cells_ : Sp} (G_some_cells : FnOk P w K mg base CX0 4 f_some_cells fd_some_cells [("_law_state" : Str), ("_law_kind_here" : Str), ("_law_many" : Str)] s_some_cells_) (b_some_cells : Binds K fd_some_cells [("_law_state" : Str), ("_law_kind_here" : Str), ("_law_many" : Str)] []) (m_some_cells : mg ("_law_some_cells" : Str) = some (.ref f_some_cells)) (kp_some_cells : PySem.W.keepIn K (.ref f_some_cells) = true) {f_note : Addr} {fd_note : FuncData} {s_note_ : Sp} (G_note : FnOk P w K mg base CX0 1 f_note fd_note [("_law_cells_here" : Str)] s_note_) (b_note : Binds K fd_note [("_law_cells_here" : Str)] []) (m_note : mg ("_law_note" : Str) = some (.ref f_note)) (kp_note : PySem.W.keepIn K (.ref f_note) = true) {f_same : Addr} {fd_same : FuncData} {s_same_ : Sp} (G_same : FnOk P w K mg base CX0 6 f_same fd_same [("_law_found" : Str), ("_law_due" : Str)] s_same_) (b_same : Binds K fd_same [("_law_found" : Str), ("_law_due" : Str)] []) (m_same : mg ("_law_same" : Str) = some (.ref f_same)) (kp_same : PySem.W.keepIn K (.ref f_same) = true) {f_note_of : Addr} {fd_note_of : FuncData} {s_note_of_ : Sp} (G_note_of : FnOk P w K mg base CX0 1 f_note_of fd_note_of [("cells" : Str)] s_note_of_) (b_note_of : Binds K fd_note_of [("cells" : Str)] []) (m_note_of : mg ("note_of" : Str) = some (.ref f_note_of)) (kp_note_of : PySem.W.keepIn K (.ref f_note_of) = true) (z_range : mg ("range" : Str) = none) (z_list : mg ("list" : Str) = none) (z_tuple : mg ("tuple" : Str) = none) {sp : Sp} (hl : ∀ vs H Q E, sp vs H Q E → vs.length = 1)
    (hp : ∀ vs H Q E, sp vs H Q E → t_law K s_begin_ s_kind_ s_take_ s_some_cells_ s_note_ s_same_ s_note_of_ { nx := fun _ H' => Q .non H', rt := Q } (start NN_law vs) H) : FnOk P w K mg base CX0 7 f fd [("_law_script" : Str)] sp := by
  refine F.ok (k := 6) sc_law hl (fun cdv A outer s H vs Q E hr h => ⟨t_law K s_begin_ s_kind_ s_take_ s_some_cells_ s_note_ s_same_ s_note_of_, ?_, hp vs H Q E h⟩)
  exact (pss_cons (ps_set (i := 1) sc_law.nd rfl (by first | exact Or.inl rfl | exact Or.inr rfl) (pe_call G_begin (hr.mono (by decide)) (by rfl) m_begin kp_begin b_begin .nil pass0 (pa_cons (pv 0) pa_nil)))
      (pss_cons (ps_for PassesOwn.never rfl (pi_range1 rfl z_range (pa_cons pe_int pa_nil)) (pg_name (i := 2) sc_law.nd rfl (by first | exact Or.inl rfl | exact Or.inr rfl))
      (pss_cons (ps_set (i := 3) sc_law.nd rfl (by first | exact Or.inl rfl | exact Or.inr rfl) (pe_call G_kind (hr.mono (by decide)) (by rfl) m_kind kp_kind b_kind .nil pass0 (pa_cons (pv 1) pa_nil)))
      (pss_cons (ps_set (i := 4) sc_law.nd rfl (by first | exact Or.inl rfl | exact Or.inr rfl) (pe_op op_addU pe_int (pe_call G_take (hr.mono (by decide)) (by rfl) m_take kp_take b_take .nil pass0 (pa_cons (pv 1) (pa_cons (pe_ix (ix_u (hu_of hr)) (pe_lst (pa_cons pe_int (pa_cons pe_int (pa_cons pe_int (pa_cons pe_int pa_nil))))) (pe_call G_take (hr.mono (by decide)) (by rfl) m_take kp_take b_take .nil pass0 (pa_cons (pv 1) (pa_cons pe_int pa_nil))) (fun _ _ => rfl)) pa_nil)))))
      (pss_cons (ps_set (i := 5) sc_law.nd rfl (by first | exact Or.inl rfl | exact Or.inr rfl) (pe_call G_some_cells (hr.mono (by decide)) (by rfl) m_some_cells kp_some_cells b_some_cells .nil pass0 (pa_cons (pv 1) (pa_cons (pv 3) (pa_cons (pv 4) pa_nil)))))
      (pss_cons (ps_set (i := 6) sc_law.nd rfl (by first | exact Or.inl rfl | exact Or.inr rfl) (pe_call G_note (hr.mono (by decide)) (by rfl) m_note kp_note b_note .nil pass0 (pa_cons (pv 5) pa_nil)))
      (pss_cons (ps_set (i := 7) sc_law.nd rfl (by first | exact Or.inl rfl | exact Or.inr rfl) (pe_callTy (call_listU (by rfl)) (by rfl) z_list bt_list (pa_cons (pv 5) pa_nil)))
      (pss_cons (ps_if (PW.pt (pw_or (pt_not (pt_truU (pe_call G_same (hr.mono (by decide)) (by rfl) m_same kp_same b_same .nil pass0 (pa_cons (pe_call G_note_of (hr.mono (by decide)) (by rfl) m_note_of kp_note_of b_note_of .nil pass0 (pa_cons (pv 7) pa_nil)) (pa_cons (pv 6) pa_nil))) (by intro _; rfl))) (pw_or1 (pt_cmpR (op_neU hr.units) (pv 7) (pv 5) (nomark _)))))
      (pss_one (ps_ret pe_bl))
      pss_nil)
      (pss_cons (ps_if (pt_not (pt_truU (pe_call G_same (hr.mono (by decide)) (by rfl) m_same kp_same b_same .nil pass0 (pa_cons (pe_call G_note_of (hr.mono (by decide)) (by rfl) m_note_of kp_note_of b_note_of .nil pass0 (pa_cons (pe_callTy call_tupU (by rfl) z_tuple bt_tuple (pa_cons (pv 5) pa_nil)) pa_nil)) (pa_cons (pv 6) pa_nil))) (by intro _; rfl)))
      (pss_one (ps_ret pe_bl))
      pss_nil)
      (pss_cons (ps_asg (pe_ix (ix_u (hu_of hr)) (pe_call G_some_cells (hr.mono (by decide)) (by rfl) m_some_cells kp_some_cells b_some_cells .nil pass0 (pa_cons (pv 1) (pa_cons (pv 3) (pa_cons pe_int pa_nil)))) pe_int (fun _ _ => rfl)) (pg_sub (pv 7) (pe_call G_take (hr.mono (by decide)) (by rfl) m_take kp_take b_take .nil pass0 (pa_cons (pv 1) (pa_cons (pv 4) pa_nil))) (set_u (hu_of hr))))
      (pss_one (ps_if (pt_not (pt_truU (pe_call G_same (hr.mono (by decide)) (by rfl) m_same kp_same b_same .nil pass0 (pa_cons (pe_call G_note_of (hr.mono (by decide)) (by rfl) m_note_of kp_note_of b_note_of .nil pass0 (pa_cons (pv 7) pa_nil)) (pa_cons (pe_call G_note (hr.mono (by decide)) (by rfl) m_note kp_note b_note .nil pass0 (pa_cons (pv 7) pa_nil)) pa_nil))) (by intro _; rfl)))
      (pss_one (ps_ret pe_bl))
      pss_nil)))))))))))
      (pss_one (ps_ret pe_bl))))
end
theorem all_mk {l : PySem.W.OpenLaw} {w : World} {K : PySem.W.Frag} {h : Heap} {mg : Str → Option Value} {fa : Addr} (X : K.In h) (G : h.Ns mainGlobals mg) (hfa : mg "law" = some (.ref fa))
    {f_begin : Addr} {od_begin an_begin : Option Addr} {sl_begin : Array (Option Value)} {oc_begin kV_begin dc_begin pm_begin cd_begin ct_begin : Value} {f_take : Addr} {od_take an_take : Option Addr} {sl_take : Array (Option Value)} {oc_take kV_take dc_take pm_take cd_take ct_take : Value} {f_kind : Addr} {od_kind an_kind : Option Addr} {sl_kind : Array (Option Value)} {oc_kind kV_kind dc_kind pm_kind cd_kind ct_kind : Value} {f_text : Addr} {od_text an_text : Option Addr} {sl_text : Array (Option Value)} {oc_text kV_text dc_text pm_text cd_text ct_text : Value} {f_number : Addr} {od_number an_number : Option Addr} {sl_number : Array (Option Value)} {oc_number kV_number dc_number pm_number cd_number ct_number : Value} {f_cells : Addr} {od_cells an_cells : Option Addr} {sl_cells : Array (Option Value)} {oc_cells kV_cells dc_cells pm_cells cd_cells ct_cells : Value} {f_near_cells : Addr} {od_near_cells an_near_cells : Option Addr} {sl_near_cells : Array (Option Value)} {oc_near_cells kV_near_cells dc_near_cells pm_near_cells cd_near_cells ct_near_cells : Value} {f_some_cells : Addr} {od_some_cells an_some_cells : Option Addr} {sl_some_cells : Array (Option Value)} {oc_some_cells kV_some_cells dc_some_cells pm_some_cells cd_some_cells ct_some_cells : Value} {f_note : Addr} {od_note an_note : Option Addr} {sl_note : Array (Option Value)} {oc_note kV_note dc_note pm_note cd_note ct_note : Value} {f_same : Addr} {od_same an_same : Option Addr} {sl_same : Array (Option Value)} {oc_same kV_same dc_same pm_same cd_same ct_same : Value} {f_note_of : Addr} {od_note_of an_note_of : Option Addr} {sl_note_of : Array (Option Value)} {oc_note_of kV_note_of dc_note_of pm_note_of cd_note_of ct_note_of : Value} {f_law : Addr} {od_law an_law : Option Addr} {sl_law : Array (Option Value)} {oc_law kV_law dc_law pm_law cd_law ct_law : Value}
    (a_begin : PySem.W.nsIn K mainGlobals ("_law_begin" : Str) = some (some (.ref f_begin)))
    (l_begin : K.lookup f_begin = some ⟨oc_begin, od_begin, .func (PySem.W.fnOf ("_law_begin" : Str) ("_law_begin" : Str) (defArgs sT_begin) (defBody sT_begin) (defScope sT_begin) .none kV_begin dc_begin pm_begin an_begin cd_begin ct_begin), sl_begin⟩)
    (c_begin : PySem.W.codeIn K cd_begin ("_law_begin" : Str) = true)
    (kp_begin : PySem.W.keepIn K (.ref f_begin) = true)
    (a_take : PySem.W.nsIn K mainGlobals ("_law_take" : Str) = some (some (.ref f_take)))
    (l_take : K.lookup f_take = some ⟨oc_take, od_take, .func (PySem.W.fnOf ("_law_take" : Str) ("_law_take" : Str) (defArgs sT_take) (defBody sT_take) (defScope sT_take) .none kV_take dc_take pm_take an_take cd_take ct_take), sl_take⟩)
    (c_take : PySem.W.codeIn K cd_take ("_law_take" : Str) = true)
    (kp_take : PySem.W.keepIn K (.ref f_take) = true)
    (a_kind : PySem.W.nsIn K mainGlobals ("_law_kind" : Str) = some (some (.ref f_kind)))
    (l_kind : K.lookup f_kind = some ⟨oc_kind, od_kind, .func (PySem.W.fnOf ("_law_kind" : Str) ("_law_kind" : Str) (defArgs sT_kind) (defBody sT_kind) (defScope sT_kind) .none kV_kind dc_kind pm_kind an_kind cd_kind ct_kind), sl_kind⟩)
    (c_kind : PySem.W.codeIn K cd_kind ("_law_kind" : Str) = true)
    (kp_kind : PySem.W.keepIn K (.ref f_kind) = true)
    (a_text : PySem.W.nsIn K mainGlobals ("_law_text" : Str) = some (some (.ref f_text)))
    (l_text : K.lookup f_text = some ⟨oc_text, od_text, .func (PySem.W.fnOf ("_law_text" : Str) ("_law_text" : Str) (defArgs sT_text) (defBody sT_text) (defScope sT_text) .none kV_text dc_text pm_text an_text cd_text ct_text), sl_text⟩)
    (c_text : PySem.W.codeIn K cd_text ("_law_text" : Str) = true)
    (kp_text : PySem.W.keepIn K (.ref f_text) = true)
    (a_number : PySem.W.nsIn K mainGlobals ("_law_number" : Str) = some (some (.ref f_number)))
    (l_number : K.lookup f_number = some ⟨oc_number, od_number, .func (PySem.W.fnOf ("_law_number" : Str) ("_law_number" : Str) (defArgs sT_number) (defBody sT_number) (defScope sT_number) .none kV_number dc_number pm_number an_number cd_number ct_number), sl_number⟩)
    (c_number : PySem.W.codeIn K cd_number ("_law_number" : Str) = true)
    (kp_number : PySem.W.keepIn K (.ref f_number) = true)
    (a_cells : PySem.W.nsIn K mainGlobals ("_law_cells" : Str) = some (some (.ref f_cells)))
    (l_cells : K.lookup f_cells = some ⟨oc_cells, od_cells, .func (PySem.W.fnOf ("_law_cells" : Str) ("_law_cells" : Str) (defArgs sT_cells) (defBody sT_cells) (defScope sT_cells) .none kV_cells dc_cells pm_cells an_cells cd_cells ct_cells), sl_cells⟩)
    (c_cells : PySem.W.codeIn K cd_cells ("_law_cells" : Str) = true)
    (kp_cells : PySem.W.keepIn K (.ref f_cells) = true)
    (a_near_cells : PySem.W.nsIn K mainGlobals ("_law_near_cells" : Str) = some (some (.ref f_near_cells)))
    (l_near_cells : K.lookup f_near_cells = some ⟨oc_near_cells, od_near_cells, .func (PySem.W.fnOf ("_law_near_cells" : Str) ("_law_near_cells" : Str) (defArgs sT_near_cells) (defBody sT_near_cells) (defScope sT_near_cells) .none kV_near_cells dc_near_cells pm_near_cells an_near_cells cd_near_cells ct_near_cells), sl_near_cells⟩)
    (c_near_cells : PySem.W.codeIn K cd_near_cells ("_law_near_cells" : Str) = true)
    (kp_near_cells : PySem.W.keepIn K (.ref f_near_cells) = true)
    (a_some_cells : PySem.W.nsIn K mainGlobals ("_law_some_cells" : Str) = some (some (.ref f_some_cells)))
    (l_some_cells : K.lookup f_some_cells = some ⟨oc_some_cells, od_some_cells, .func (PySem.W.fnOf ("_law_some_cells" : Str) ("_law_some_cells" : Str) (defArgs sT_some_cells) (defBody sT_some_cells) (defScope sT_some_cells) .none kV_some_cells dc_some_cells pm_some_cells an_some_cells cd_some_cells ct_some_cells), sl_some_cells⟩)
    (c_some_cells : PySem.W.codeIn K cd_some_cells ("_law_some_cells" : Str) = true)
    (kp_some_cells : PySem.W.keepIn K (.ref f_some_cells) = true)
    (a_note : PySem.W.nsIn K mainGlobals ("_law_note" : Str) = some (some (.ref f_note)))
    (l_note : K.lookup f_note = some ⟨oc_note, od_note, .func (PySem.W.fnOf ("_law_note" : Str) ("_law_note" : Str) (defArgs sT_note) (defBody sT_note) (defScope sT_note) .none kV_note dc_note pm_note an_note cd_note ct_note), sl_note⟩)
    (c_note : PySem.W.codeIn K cd_note ("_law_note" : Str) = true)
    (kp_note : PySem.W.keepIn K (.ref f_note) = true)
    (a_same : PySem.W.nsIn K mainGlobals ("_law_same" : Str) = some (some (.ref f_same)))
    (l_same : K.lookup f_same = some ⟨oc_same, od_same, .func (PySem.W.fnOf ("_law_same" : Str) ("_law_same" : Str) (defArgs sT_same) (defBody sT_same) (defScope sT_same) .none kV_same dc_same pm_same an_same cd_same ct_same), sl_same⟩)
    (c_same : PySem.W.codeIn K cd_same ("_law_same" : Str) = true)
    (kp_same : PySem.W.keepIn K (.ref f_same) = true)
    (a_note_of : PySem.W.nsIn K mainGlobals ("note_of" : Str) = some (some (.ref f_note_of)))
    (l_note_of : K.lookup f_note_of = some ⟨oc_note_of, od_note_of, .func (PySem.W.fnOf ("note_of" : Str) ("note_of" : Str) (defArgs sT_note_of) (defBody sT_note_of) (defScope sT_note_of) .none kV_note_of dc_note_of pm_note_of an_note_of cd_note_of ct_note_of), sl_note_of⟩)
    (c_note_of : PySem.W.codeIn K cd_note_of ("note_of" : Str) = true)
    (kp_note_of : PySem.W.keepIn K (.ref f_note_of) = true)
    (a_law : PySem.W.nsIn K mainGlobals ("law" : Str) = some (some (.ref f_law)))
    (l_law : K.lookup f_law = some ⟨oc_law, od_law, .func (PySem.W.fnOf ("law" : Str) ("law" : Str) (defArgs sT_law) (defBody sT_law) (defScope sT_law) .none kV_law dc_law pm_law an_law cd_law ct_law), sl_law⟩)
    (c_law : PySem.W.codeIn K cd_law ("law" : Str) = true)
    (kp_law : PySem.W.keepIn K (.ref f_law) = true)
    (zz_list : PySem.W.nsIn K mainGlobals ("list" : Str) = some none)
    (zz_len : PySem.W.nsIn K mainGlobals ("len" : Str) = some none)
    (zz_divmod : PySem.W.nsIn K mainGlobals ("divmod" : Str) = some none)
    (zz_range : PySem.W.nsIn K mainGlobals ("range" : Str) = some none)
    (zz_int : PySem.W.nsIn K mainGlobals ("int" : Str) = some none)
    (zz_sorted : PySem.W.nsIn K mainGlobals ("sorted" : Str) = some none)
    (zz_isinstance : PySem.W.nsIn K mainGlobals ("isinstance" : Str) = some none)
    (zz_dict : PySem.W.nsIn K mainGlobals ("dict" : Str) = some none)
    (zz_tuple : PySem.W.nsIn K mainGlobals ("tuple" : Str) = some none)
    (zz_all : PySem.W.nsIn K mainGlobals ("all" : Str) = some none)
    (zz_zip : PySem.W.nsIn K mainGlobals ("zip" : Str) = some none)
    (zz_str : PySem.W.nsIn K mainGlobals ("str" : Str) = some none)
    (zz_bool : PySem.W.nsIn K mainGlobals ("bool" : Str) = some none)
    (zz_min : PySem.W.nsIn K mainGlobals ("min" : Str) = some none)
    (zz_max : PySem.W.nsIn K mainGlobals ("max" : Str) = some none) :
    ∃ fd : FuncData, (∀ (s : Shared) (v : Value), BindsTo s fd ⟨[v], []⟩ [("_law_script", v)]) ∧ ∀ base : Heap, K.In base → base.Ns mainGlobals mg → FnOk l.prog w K mg base CX0 7 fa fd ["_law_script"] (spLaw K) := by
  have e := hfa.symm.trans (PySem.W.mg_of X G a_law)
  cases e
  have F_begin := fun_mk (st := sT_begin) l_begin c_begin kp_begin
  have m_begin := PySem.W.mg_of X G a_begin
  have b_begin := F_begin.binds (ps := [("_law_script" : Str)]) fun _ _ _ _ _ _ us hl => match us, hl with | [_], _ => rfl
  have F_take := fun_mk (st := sT_take) l_take c_take kp_take
  have m_take := PySem.W.mg_of X G a_take
  have b_take := F_take.binds (ps := [("_law_state" : Str), ("_law_many" : Str)]) fun _ _ _ _ _ _ us hl => match us, hl with | [_, _], _ => rfl
  have F_kind := fun_mk (st := sT_kind) l_kind c_kind kp_kind
  have m_kind := PySem.W.mg_of X G a_kind
  have b_kind := F_kind.binds (ps := [("_law_state" : Str)]) fun _ _ _ _ _ _ us hl => match us, hl with | [_], _ => rfl
  have F_text := fun_mk (st := sT_text) l_text c_text kp_text
  have m_text := PySem.W.mg_of X G a_text
  have b_text := F_text.binds (ps := [("_law_state" : Str)]) fun _ _ _ _ _ _ us hl => match us, hl with | [_], _ => rfl
  have F_number := fun_mk (st := sT_number) l_number c_number kp_number
  have m_number := PySem.W.mg_of X G a_number
  have b_number := F_number.binds (ps := [("_law_state" : Str)]) fun _ _ _ _ _ _ us hl => match us, hl with | [_], _ => rfl
  have F_cells := fun_mk (st := sT_cells) l_cells c_cells kp_cells
  have m_cells := PySem.W.mg_of X G a_cells
  have b_cells := F_cells.binds (ps := [("_law_state" : Str), ("_law_kind_here" : Str), ("_law_many" : Str)]) fun _ _ _ _ _ _ us hl => match us, hl with | [_, _, _], _ => rfl
  have F_near_cells := fun_mk (st := sT_near_cells) l_near_cells c_near_cells kp_near_cells
  have m_near_cells := PySem.W.mg_of X G a_near_cells
  have b_near_cells := F_near_cells.binds (ps := [("_law_state" : Str), ("_law_kind_here" : Str), ("_law_many" : Str)]) fun _ _ _ _ _ _ us hl => match us, hl with | [_, _, _], _ => rfl
  have F_some_cells := fun_mk (st := sT_some_cells) l_some_cells c_some_cells kp_some_cells
  have m_some_cells := PySem.W.mg_of X G a_some_cells
  have b_some_cells := F_some_cells.binds (ps := [("_law_state" : Str), ("_law_kind_here" : Str), ("_law_many" : Str)]) fun _ _ _ _ _ _ us hl => match us, hl with | [_, _, _], _ => rfl
  have F_note := fun_mk (st := sT_note) l_note c_note kp_note
  have m_note := PySem.W.mg_of X G a_note
  have b_note := F_note.binds (ps := [("_law_cells_here" : Str)]) fun _ _ _ _ _ _ us hl => match us, hl with | [_], _ => rfl
  have F_same := fun_mk (st := sT_same) l_same c_same kp_same
  have m_same := PySem.W.mg_of X G a_same
  have b_same := F_same.binds (ps := [("_law_found" : Str), ("_law_due" : Str)]) fun _ _ _ _ _ _ us hl => match us, hl with | [_, _], _ => rfl
  have F_note_of := fun_mk (st := sT_note_of) l_note_of c_note_of kp_note_of
  have m_note_of := PySem.W.mg_of X G a_note_of
  have b_note_of := F_note_of.binds (ps := [("cells" : Str)]) fun _ _ _ _ _ _ us hl => match us, hl with | [_], _ => rfl
  have F_law := fun_mk (st := sT_law) l_law c_law kp_law
  have m_law := PySem.W.mg_of X G a_law
  have b_law := F_law.binds (ps := [("_law_script" : Str)]) fun _ _ _ _ _ _ us hl => match us, hl with | [_], _ => rfl
  have z_list := PySem.W.mg_none_of X G zz_list
  have z_len := PySem.W.mg_none_of X G zz_len
  have z_divmod := PySem.W.mg_none_of X G zz_divmod
  have z_range := PySem.W.mg_none_of X G zz_range
  have z_int := PySem.W.mg_none_of X G zz_int
  have z_sorted := PySem.W.mg_none_of X G zz_sorted
  have z_isinstance := PySem.W.mg_none_of X G zz_isinstance
  have z_dict := PySem.W.mg_none_of X G zz_dict
  have z_tuple := PySem.W.mg_none_of X G zz_tuple
  have z_all := PySem.W.mg_none_of X G zz_all
  have z_zip := PySem.W.mg_none_of X G zz_zip
  have z_str := PySem.W.mg_none_of X G zz_str
  have z_bool := PySem.W.mg_none_of X G zz_bool
  have z_min := PySem.W.mg_none_of X G zz_min
  have z_max := PySem.W.mg_none_of X G zz_max
  refine ⟨PySem.W.fnOf ("law" : Str) ("law" : Str) (defArgs sT_law) (defBody sT_law) (defScope sT_law) .none kV_law dc_law pm_law an_law cd_law ct_law, fun s v => .of_eq rfl, fun base hb hg => ?_⟩
  have G_begin : FnOk l.prog w K mg base CX0 1 f_begin _ [("_law_script" : Str)] (spV K .O vBegin) := ok_begin (P := l.prog) (w := w) (base := base) F_begin z_list (sp := (spV K .O vBegin)) (fun _ _ _ _ h => spV.len (n := 1) (fun ds m P X ⟨_, e, _⟩ => by rw [e]; rfl) h) (fun vs H Q E h => pure_begin vs H Q E (cv_begin h))
  have G_take : FnOk l.prog w K mg base CX0 1 f_take _ [("_law_state" : Str), ("_law_many" : Str)] (spV K .O vTake) := ok_take (P := l.prog) (w := w) (base := base) F_take z_len z_divmod (sp := (spV K .O vTake)) (fun _ _ _ _ h => spV.len (n := 2) (fun ds m P X ⟨_, _, _, _, e, _⟩ => by rw [e]; rfl) h) (fun vs H Q E h => pure_take vs H Q E (cv_take h))
  have G_kind : FnOk l.prog w K mg base CX0 2 f_kind _ [("_law_state" : Str)] (spV K .F wKind) := ok_kind (P := l.prog) (w := w) (base := base) F_kind G_take b_take m_take kp_take (sp := (spV K .F wKind)) (fun _ _ _ _ h => spV.len (n := 1) (fun ds m P X h => ((p_kind (K := K)) ds m P X h).1) h) (sim_kind (fun ds m P X h => (p_kind (K := K)) ds m P X h))
  have G_text : FnOk l.prog w K mg base CX0 2 f_text _ [("_law_state" : Str)] (spV K .F wText) := ok_text (P := l.prog) (w := w) (base := base) F_text G_take b_take m_take kp_take z_range z_len (sp := (spV K .F wText)) (fun _ _ _ _ h => spV.len (n := 1) (fun ds m P X h => ((p_text (K := K)) ds m P X h).1) h) (sim_text (fun ds m P X h => (p_text (K := K)) ds m P X h))
  have G_number : FnOk l.prog w K mg base CX0 2 f_number _ [("_law_state" : Str)] (spV K .O wNumber) := ok_number (P := l.prog) (w := w) (base := base) F_number G_take b_take m_take kp_take (sp := (spV K .O wNumber)) (fun _ _ _ _ h => spV.len (n := 1) (fun ds m P X h => ((p_number (K := K)) ds m P X h).1) h) (sim_number (fun ds m P X h => (p_number (K := K)) ds m P X h))
  have G_cells : FnOk l.prog w K mg base CX0 3 f_cells _ [("_law_state" : Str), ("_law_kind_here" : Str), ("_law_many" : Str)] (spV K .O wCells) := ok_cells (P := l.prog) (w := w) (base := base) F_cells G_take b_take m_take kp_take G_text b_text m_text kp_text G_number b_number m_number kp_number z_range z_len (sp := (spV K .O wCells)) (fun _ _ _ _ h => spV.len (n := 3) (fun ds m P X h => ((p_cells (K := K)) ds m P X h).1) h) (sim_cells (fun ds m P X h => (p_cells (K := K)) ds m P X h))
  have G_near_cells : FnOk l.prog w K mg base CX0 2 f_near_cells _ [("_law_state" : Str), ("_law_kind_here" : Str), ("_law_many" : Str)] (spV K .O wCells) := ok_near_cells (P := l.prog) (w := w) (base := base) F_near_cells G_take b_take m_take kp_take z_range z_int (sp := (spV K .O wCells)) (fun _ _ _ _ h => spV.len (n := 3) (fun ds m P X h => ((p_near_cells (K := K)) ds m P X h).1) h) (sim_near_cells (fun ds m P X h => (p_near_cells (K := K)) ds m P X h))
  have G_some_cells : FnOk l.prog w K mg base CX0 4 f_some_cells _ [("_law_state" : Str), ("_law_kind_here" : Str), ("_law_many" : Str)] (spV K .O wSomeCells) := ok_some_cells (P := l.prog) (w := w) (base := base) F_some_cells G_take b_take m_take kp_take G_cells b_cells m_cells kp_cells G_near_cells b_near_cells m_near_cells kp_near_cells (sp := (spV K .O wSomeCells)) (fun _ _ _ _ h => spV.len (n := 3) (fun ds m P X h => ((p_some_cells (K := K)) ds m P X h).1) h) (sim_some_cells (fun ds m P X h => (p_some_cells (K := K)) ds m P X h))
  have G_note : FnOk l.prog w K mg base CX0 1 f_note _ [("_law_cells_here" : Str)] (spV K .O wNoteL) := ok_note (P := l.prog) (w := w) (base := base) F_note z_sorted z_len (sp := (spV K .O wNoteL)) (fun _ _ _ _ h => spV.len (n := 1) (fun ds m P X h => ((p_note (K := K)) ds m P X h).1) h) (sim_note (fun ds m P X h => (p_note (K := K)) ds m P X h))
  have G_same_0 : FnOk l.prog w K mg base CX0 0 f_same _ [("_law_found" : Str), ("_law_due" : Str)] (spSame K 0) := fn_no (fd := PySem.W.fnOf ("_law_same" : Str) ("_law_same" : Str) (defArgs sT_same) (defBody sT_same) (defScope sT_same) .none kV_same dc_same pm_same an_same cd_same ct_same) same_no
  have G_same_1 : FnOk l.prog w K mg base CX0 1 f_same _ [("_law_found" : Str), ("_law_due" : Str)] (spSame K 1) := ok_same (P := l.prog) (w := w) (base := base) F_same G_same_0 b_same m_same kp_same z_isinstance z_dict z_list z_tuple z_len z_all z_zip z_str z_int z_bool (sp := (spSame K 1)) (by rintro vs H Q E ⟨_, _, _, rfl, _⟩; rfl) pure_same
  have G_same_2 : FnOk l.prog w K mg base CX0 2 f_same _ [("_law_found" : Str), ("_law_due" : Str)] (spSame K 2) := ok_same (P := l.prog) (w := w) (base := base) F_same G_same_1 b_same m_same kp_same z_isinstance z_dict z_list z_tuple z_len z_all z_zip z_str z_int z_bool (sp := (spSame K 2)) (by rintro vs H Q E ⟨_, _, _, rfl, _⟩; rfl) pure_same
  have G_same_3 : FnOk l.prog w K mg base CX0 3 f_same _ [("_law_found" : Str), ("_law_due" : Str)] (spSame K 3) := ok_same (P := l.prog) (w := w) (base := base) F_same G_same_2 b_same m_same kp_same z_isinstance z_dict z_list z_tuple z_len z_all z_zip z_str z_int z_bool (sp := (spSame K 3)) (by rintro vs H Q E ⟨_, _, _, rfl, _⟩; rfl) pure_same
  have G_same_4 : FnOk l.prog w K mg base CX0 4 f_same _ [("_law_found" : Str), ("_law_due" : Str)] (spSame K 4) := ok_same (P := l.prog) (w := w) (base := base) F_same G_same_3 b_same m_same kp_same z_isinstance z_dict z_list z_tuple z_len z_all z_zip z_str z_int z_bool (sp := (spSame K 4)) (by rintro vs H Q E ⟨_, _, _, rfl, _⟩; rfl) pure_same
  have G_same_5 : FnOk l.prog w K mg base CX0 5 f_same _ [("_law_found" : Str), ("_law_due" : Str)] (spSame K 5) := ok_same (P := l.prog) (w := w) (base := base) F_same G_same_4 b_same m_same kp_same z_isinstance z_dict z_list z_tuple z_len z_all z_zip z_str z_int z_bool (sp := (spSame K 5)) (by rintro vs H Q E ⟨_, _, _, rfl, _⟩; rfl) pure_same
  have G_same_6 : FnOk l.prog w K mg base CX0 6 f_same _ [("_law_found" : Str), ("_law_due" : Str)] (spSame K 6) := ok_same (P := l.prog) (w := w) (base := base) F_same G_same_5 b_same m_same kp_same z_isinstance z_dict z_list z_tuple z_len z_all z_zip z_str z_int z_bool (sp := (spSame K 6)) (by rintro vs H Q E ⟨_, _, _, rfl, _⟩; rfl) pure_same
  have G_same : FnOk l.prog w K mg base CX0 6 f_same _ [("_law_found" : Str), ("_law_due" : Str)] (spV K .O (vSame 6)) := G_same_6.imp fun _ _ _ _ h => cv_same h
  have G_note_of : FnOk l.prog w K mg base CX0 1 f_note_of _ [("cells" : Str)] (spV K .O wNoteOf) := ok_note_of (P := l.prog) (w := w) (base := base) F_note_of z_len z_min z_max (sp := (spV K .O wNoteOf)) (fun _ _ _ _ h => spV.len (n := 1) (fun ds m P X h => ((p_note_of (K := K)) ds m P X h).1) h) (sim_note_of (fun ds m P X h => (p_note_of (K := K)) ds m P X h))
  exact FnOk.imp (ok_law (P := l.prog) (w := w) (base := base) F_law G_begin b_begin m_begin kp_begin G_kind b_kind m_kind kp_kind G_take b_take m_take kp_take G_some_cells b_some_cells m_some_cells kp_some_cells G_note b_note m_note kp_note G_same b_same m_same kp_same G_note_of b_note_of m_note_of kp_note_of z_range z_list z_tuple (sp := (spV K .O vLaw)) (fun _ _ _ _ h => spV.len (n := 1) (fun ds m P X h => ((p_law (K := K)) ds m P X h).1) h) (sim_law (fun ds m P X h => (p_law (K := K)) ds m P X h))) fun _ _ _ _ h => cv_law h
theorem walk {l : PySem.W.OpenLaw} {q : Program} {loose : List Str} {XP : (Str → Option Value) → Heap → Prop} {YP : World → Heap → Prop} {d : DefRec} {K : Params → PySem.W.Frag} (hn : l.most = some 63) (hdf : d.params.defaults = [])
    (hY : ∀ (w : World) (h : Heap), YP w h → (K w.params).In h)
    (F : ∀ (w : World) (mg : Str → Option Value) (fa : Addr) (h : Heap), (K w.params).In h → h.Ns mainGlobals mg → mg d.name = some (.ref fa) →
      ∃ fd : FuncData, (∀ (s : Shared) (u : Value), BindsTo s fd ⟨[u], []⟩ [("_law_script", u)]) ∧ ∀ base : Heap, (K w.params).In base → base.Ns mainGlobals mg → FnOk l.prog w (K w.params) mg base CX0 7 fa fd ["_law_script"] (spLaw (K w.params))) :
    PySem.W.WalkO q loose XP YP l.row.toRowW d [] (fun f vs => PySem.call f vs) :=
  L2.walk_of (n := 63) (k := 7) (x := "_law_script") (CX := fun _ => CX0) (sp := fun w => spLaw (K w.params)) hn (by decide) hdf ⟨rfl, by decide, by decide⟩ hY F (fun _ _ a ns hl _ hS => ⟨a, ns, rfl, hS, hl, fun _ => rfl⟩) fun _ _ _ _ _ z => z
end Ps
open PySem PySem.W PyProof.Rows
set_option maxRecDepth 100000 in
set_option maxHeartbeats 0 in
theorem PySem.Challenge.cw_pillarstore_k17_notes_holds : PySem.Challenge.rw_pillarstore_k17_notes.Holds := by
  w_on; o_law; k_head; (case hw => w_witness2)
  k_fill
  refine Ps.walk (l := PySem.Challenge.rw_pillarstore_k17_notes) rfl rfl (fun w h Y => PySem.W.kIn_of Y) ?F
  case F =>
    intro w mg fa h KX G hmg
    refine' Ps.all_mk KX G hmg ?a_begin ?l_begin ?c_begin ?kp_begin ?a_take ?l_take ?c_take ?kp_take ?a_kind ?l_kind ?c_kind ?kp_kind ?a_text ?l_text ?c_text ?kp_text ?a_number ?l_number ?c_number ?kp_number ?a_cells ?l_cells ?c_cells ?kp_cells ?a_near_cells ?l_near_cells ?c_near_cells ?kp_near_cells ?a_some_cells ?l_some_cells ?c_some_cells ?kp_some_cells ?a_note ?l_note ?c_note ?kp_note ?a_same ?l_same ?c_same ?kp_same ?a_note_of ?l_note_of ?c_note_of ?kp_note_of ?a_law ?l_law ?c_law ?kp_law ?zz_list ?zz_len ?zz_divmod ?zz_range ?zz_int ?zz_sorted ?zz_isinstance ?zz_dict ?zz_tuple ?zz_all ?zz_zip ?zz_str ?zz_bool ?zz_min ?zz_max
    (case a_begin => k_is)
    (case l_begin => k_is)
    (case c_begin => k_is)
    (case kp_begin => k_is)
    (case a_take => k_is)
    (case l_take => k_is)
    (case c_take => k_is)
    (case kp_take => k_is)
    (case a_kind => k_is)
    (case l_kind => k_is)
    (case c_kind => k_is)
    (case kp_kind => k_is)
    (case a_text => k_is)
    (case l_text => k_is)
    (case c_text => k_is)
    (case kp_text => k_is)
    (case a_number => k_is)
    (case l_number => k_is)
    (case c_number => k_is)
    (case kp_number => k_is)
    (case a_cells => k_is)
    (case l_cells => k_is)
    (case c_cells => k_is)
    (case kp_cells => k_is)
    (case a_near_cells => k_is)
    (case l_near_cells => k_is)
    (case c_near_cells => k_is)
    (case kp_near_cells => k_is)
    (case a_some_cells => k_is)
    (case l_some_cells => k_is)
    (case c_some_cells => k_is)
    (case kp_some_cells => k_is)
    (case a_note => k_is)
    (case l_note => k_is)
    (case c_note => k_is)
    (case kp_note => k_is)
    (case a_same => k_is)
    (case l_same => k_is)
    (case c_same => k_is)
    (case kp_same => k_is)
    (case a_note_of => k_is)
    (case l_note_of => k_is)
    (case c_note_of => k_is)
    (case kp_note_of => k_is)
    (case a_law => k_is)
    (case l_law => k_is)
    (case c_law => k_is)
    (case kp_law => k_is)
    (case zz_list => k_is)
    (case zz_len => k_is)
    (case zz_divmod => k_is)
    (case zz_range => k_is)
    (case zz_int => k_is)
    (case zz_sorted => k_is)
    (case zz_isinstance => k_is)
    (case zz_dict => k_is)
    (case zz_tuple => k_is)
    (case zz_all => k_is)
    (case zz_zip => k_is)
    (case zz_str => k_is)
    (case zz_bool => k_is)
    (case zz_min => k_is)
    (case zz_max => k_is)
#print axioms PySem.Challenge.cw_pillarstore_k17_notes_holds

