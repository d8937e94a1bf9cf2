import PyProof.Rows.All
import Wide.All
import OpenK.AllK
import Wide.FinOn
import HandS.ForMost
import HandS.ForExc
import HandS.IsInst
import HandS.Walk
import HandS.Zip
import HandS.Wide
import HandS.Flow
import HandS.Small
import HandS.Rev
import HandS.More
import HandS.Steps
import HandS.WideBits
import HandS.TupAny
import KE.GoesEnum
import HandS.ExcInit
import HandS.ExcIs
import HandS.ExcField
import HandS.ClsMeth
import KE.KExcIs
import HandS.TryOnly
import KE.RegKIsAll
import PyProof.Rows.ChunkEnd
import HandS.Replace
import HandS.Text
import HandS.ReplaceList
import KE.KDictCopyH
import HandS.Strs
import HandS.SetFor
import HandS.TupLe
import PyProof.Rows.SetFrom
import HandS.ListEq
import KE.SortKeyHeap
import HandS.SortKw
import HandS.Conv
import KE.KMinBuiltin
import KE.KMinKey
import HandS.SortInts
import PyProof.P3Eq
import HandS.Words
import HandS.List
import HandS.FStrTup
import PySem.Challenge.RW_pillarstore_k16_cells_meet
set_option Elab.async false
set_option linter.all false
set_option maxRecDepth 100000
set_option maxHeartbeats 4000000
namespace Ps
open PySem PySem.Spec PyProof.Rows L2
theorem opr_or {X : Cx} {f : Value → Value → Sem Value} {r r' : R2} (h : OpR X f r) (h' : OpR X f r') : OpR X f (fun x y H Q => r x y H Q ∨ r' x y H Q) := by
  intro pins s σ H x y v u Q I rx ry q
  rcases q with q | q
  · exact h pins s σ H x y v u Q I rx ry q
  · exact h' pins s σ H x y v u Q I rx ry q
theorem callr_or {X : Cx} {f : Value} {r r' : List V → Hp → VK → Prop} (h : CallR X f r) (h' : CallR X f r') : CallR X f (fun xs H Q => r xs H Q ∨ r' xs H Q) := by
  intro pins s σ H xs us Q I r q
  rcases q with q | q
  · exact h pins s σ H xs us Q I r q
  · exact h' pins s σ H xs us Q I r q
theorem pset_or {X : Cx} {r r' : TSet} (h : PSet X r) (h' : PSet X r') : PSet X (fun o i v H Q => r o i v H Q ∨ r' o i v H Q) := by
  intro pins s σ H o i v ov iv u Q I ro ri rv q
  rcases q with q | q
  · exact h pins s σ H o i v ov iv u Q I ro ri rv q
  · exact h' pins s σ H o i v ov iv u Q I ro ri rv q
def rStrAdd : R2 := fun x y H Q => ∃ i j, x = .str i ∧ y = .str j ∧ i.length + j.length ≤ sizeLine ∧ Q (.str (i ++ j)) H
def rAddU (K : PySem.W.Frag) : R2 := fun x y H Q => (rI0 (fun i j => .int (i + j)) x y H Q ∨ rStrAdd x y H Q) ∨ (rCat x y H Q ∨ rCatA K x y H Q)
def rMulU : R2 := fun x y H Q => (rI CMul (fun i j => .int (i * j)) x y H Q ∨ rI CMulW (fun i j => .int (i * j)) x y H Q) ∨ rRep x y H Q
def rDivU : R2 := fun x y H Q => rI CDiv (fun i j => .int (i / j)) x y H Q ∨ rI CDivW (fun i j => .int (i / j)) x y H Q
def rModU : R2 := rI (fun _ j => 0 < j) fun i j => .int (i % j)
def rPowU : R2 := rI CPow fun i j => .int (i ^ j.toNat)
def rSubU : R2 := rI0 fun i j => .int (i - j)
def rIxD : R2 := fun x y H Q => ∃ a v, x = .ref a ∧ DGet H a y (some v) ∧ Q v H
def rIxU (K : PySem.W.Frag) : R2 := fun x y H Q => (rIxL K x y H Q ∨ rIxT K x y H Q) ∨ (rIxS x y H Q ∨ rIxD x y H Q)
def rEqU (K : PySem.W.Frag) : R2 := fun x y H Q => rEq x y H Q ∨ rEqD K x y H Q
def rNeU (K : PySem.W.Frag) : R2 := fun x y H Q => rNe x y H Q ∨ rNeD K x y H Q
def rLtS : R2 := fun x y H Q => ∃ i j, x = .str i ∧ y = .str j ∧ Q (.bl (decide (i.cps.toList < j.cps.toList))) H
def rLtU (K : PySem.W.Frag) : R2 := fun x y H Q => rI0 (fun i j => .bl (decide (i < j))) x y H Q ∨ rLtS x y H Q
def rLeU : R2 := rI0 fun i j => .bl (decide (i ≤ j))
def rGtU : R2 := rI0 fun i j => .bl (decide (j < i))
def rGeU : R2 := rI0 fun i j => .bl (decide (j ≤ i))
def rInD (neg : Bool) : R2 := fun y x H Q => ∃ a o, x = .ref a ∧ DGet H a y o ∧ Q (.bl (if neg then !o.isSome else o.isSome)) H
def rInS (neg : Bool) : R2 := fun x y H Q => ∃ i j, x = .str i ∧ y = .str j ∧ Q (.bl (if neg then !(!(Builtin.Str.occurrences j i 0 j.length 1).isEmpty) else !(Builtin.Str.occurrences j i 0 j.length 1).isEmpty)) H
def rInU (K : PySem.W.Frag) (neg : Bool) : R2 := fun x y H Q => rIn K neg x y H Q ∨ (rInS neg x y H Q ∨ rInD neg x y H Q)
def rIsN : R2 := fun x y H Q => y = .non ∧ Q (.bl (decide (x = .non))) H
def rNotN : R2 := fun x y H Q => y = .non ∧ Q (.bl (!decide (x = .non))) H
section
variable {X : Cx}
theorem op_addU : OpR X (binaryOp .Add) (rAddU X.K) := opr_or (opr_or op_add op_add_str) (opr_or op_cat op_catA)
theorem op_mulU : OpR X (binaryOp .Mult) rMulU := opr_or (opr_or op_mul op_mulW) op_rep
theorem op_divU : OpR X (binaryOp .FloorDiv) rDivU := opr_or op_fdiv op_fdivW
theorem op_modU : OpR X (binaryOp .Mod) rModU := op_mod
theorem op_powU : OpR X (binaryOp .Pow) rPowU := op_pow
theorem op_subU : OpR X (binaryOp .Sub) rSubU := op_sub
theorem op_eqU (hu : X.A.units + 64 < cLine) : OpR X (compareOp .Eq) (rEqU X.K) := opr_or op_eq (op_eqD hu)
theorem op_neU (hu : X.A.units + 64 < cLine) : OpR X (compareOp .NotEq) (rNeU X.K) := opr_or op_ne (op_neD hu)
theorem op_ltU : OpR X (compareOp .Lt) (rLtU X.K) := opr_or op_lt op_lt_str
theorem op_leU : OpR X (compareOp .LtE) rLeU := op_le
theorem op_gtU : OpR X (compareOp .Gt) rGtU := op_gt
theorem op_geU : OpR X (compareOp .GtE) rGeU := op_ge
theorem op_inD (hu : X.A.units + 1 < cLine) : OpR X (compareOp .In) (rInD false) := by
  intro pins s σ H x y v u Q I rx ry h
  obtain ⟨a, o, rfl, g, q⟩ := h
  cases ry
  exact d_in hu I g rx fun s3 I3 => ⟨.bl o.isSome, H, I3, rfl, q⟩
theorem op_inU (hu : X.A.units + 1 < cLine) : OpR X (compareOp .In) (rInU X.K false) := opr_or op_in_seq (opr_or op_in_str (op_inD hu))
theorem op_isNU : OpR X (compareOp .Is) rIsN := op_isN
theorem op_notNU : OpR X (compareOp .IsNot) rNotN := op_notN
theorem ix_dict (hu : X.A.units + 1 < cLine) : IxR X rIxD := by
  intro value slice pins s σ H x y v u Q I rx ry h hs
  obtain ⟨a, z, rfl, g, q⟩ := h
  cases rx
  have hT := dict_typeIs I g
  have h2 : wpAny (model X.prog X.w) X.A (getItem (.ref a) u) (EP X pins σ Q) X.xe s := d_getItem hu I g ry fun w' s3 I3 rw' => ⟨z, H, I3, rw', q⟩
  unfold subscriptTail
  refine wpAny_bind ?_
  rw [getitemInPython_of_ne hT.not_modules]
  refine wpAny_bind (wpAny_specialOf hT PySem.F.slot_dict_getitem.lookup ?_)
  have fin : wpAny (model X.prog X.w) X.A (subscripted slice false (.ref a) u) (fun r s₃ => wpAny (model X.prog X.w) X.A (letTemporaryGo value (.ref a) r >>= fun _ => pure r) (EP X pins σ Q) X.xe s₃) X.xe s := by
    rw [hs]
    exact wpAny_operating (wpAny_mono h2 (fun r s₃ h₃ => wpAny_bind (wpAny_letTemporaryGo (wpAny_pure h₃))) fun _ _ x => x)
  first
    | exact wpAny_pure (wpAny_bind fin)
    | exact wpAny_bind (wpAny_pure (wpAny_bind fin))
    | exact wpAny_bind fin
theorem ix_u (hu : X.A.units + 1 < cLine) : IxR X (rIxU X.K) := (ix_list.or ix_tup).or (ix_str.or (ix_dict hu))
end
def rLenU (K : PySem.W.Frag) : List V → Hp → VK → Prop := fun xs H Q => (∃ x n, xs = [x] ∧ LenV K x H n ∧ Q (.int n) H) ∨ ∃ a kvs, xs = [V.ref a] ∧ Rd H a (.dK kvs) ∧ Q (.int kvs.length) H
def rListU (K : PySem.W.Frag) : List V → Hp → VK → Prop := fun xs H Q => (∃ p ys, xs = [.ref p] ∧ (SqL K H p ys ∨ SqT K H p ys) ∧ ∀ l, H l = none → Q (.ref l) (upd H l (.lst ys))) ∨
  ∃ (a : Addr) (kvs : List (Key × V)), xs = [.ref a] ∧ Rd H a (.dK kvs) ∧ ∀ p, H p = none → Q (.ref p) (upd H p (.lst (kvs.map fun kv => kV kv.1)))
def rTupU (K : PySem.W.Frag) : List V → Hp → VK → Prop := fun xs H Q => ∃ p ys, xs = [.ref p] ∧ ((SqL K H p ys ∧ ∀ l, H l = none → Q (.ref l) (upd H l (.tup ys))) ∨ (SqT K H p ys ∧ Q (.ref p) H))
def rIntU : List V → Hp → VK → Prop := fun xs H Q => (∃ i, xs = [.int i] ∧ Q (.int i) H) ∨ ∃ k, xs = [.bl k] ∧ Q (.int (if k then 1 else 0)) H
def rDivmod : List V → Hp → VK → Prop := fun xs H Q => ∃ i j, xs = [.int i, .int j] ∧ CDivP i j ∧ ∀ p, H p = none → Q (.ref p) (upd H p (.tup [.int (i / j), .int (i % j)]))
def rMax2 : List V → Hp → VK → Prop := fun xs H Q => ∃ i j, xs = [.int i, .int j] ∧ Q (.int (if j > i then j else i)) H
def rMin2 : List V → Hp → VK → Prop := fun xs H Q => ∃ i j, xs = [.int i, .int j] ∧ Q (.int (if j < i then j else i)) H
def rSetU : TSet := fun o i v H Q => rSetL o i v H Q ∨ rSetD o i v H Q
def rSlU (K : PySem.W.Frag) : V → Option Int → Option Int → Hp → VK → Prop := fun x lo hi H Q => (rSlL K x lo hi H Q ∨ rSlA K x lo hi H Q) ∨ ∃ z, x = .str z ∧ z.length ≤ sizeLine ∧ Q (.str (cutS z lo hi)) H
section
variable {X : Cx}
theorem call_lenDk : CallR X (.builtin "len") (fun xs H Q => ∃ a kvs, xs = [V.ref a] ∧ Rd H a (.dK kvs) ∧ Q (.int kvs.length) H) := by
  intro pins s σ H xs us Q I r h
  obtain ⟨a, kvs, rfl, ha, q⟩ := h
  obtain ⟨u, rfl, ru⟩ := vals1 r
  cases ru
  exact d_len I ha fun t s' I' => ⟨.int kvs.length, H, I', ⟨t, rfl⟩, q⟩
theorem call_lenU : CallR X (.builtin "len") (rLenU X.K) := callr_or call_len call_lenDk
theorem call_listU (hc : X.calm = true) : CallR X (.type "list") (rListU X.K) := callr_or call_list_of (call_listD hc)
theorem call_tupU : CallR X (.type "tuple") (rTupU X.K) := call_tuple_of
theorem call_intU : CallR X (.type "int") rIntU := call_int1
theorem call_divmodU : CallR X (.builtin "divmod") rDivmod := call_divmodW
theorem call_max2U (hc : X.calm = true) : CallR X (.builtin "max") rMax2 := call_max2 hc
theorem call_min2U (hc : X.calm = true) : CallR X (.builtin "min") rMin2 := call_min2 hc
theorem set_u (hu : X.A.units + 1 < cLine) : PSet X rSetU := pset_or set_list (set_dict hu)
theorem sl_u : SlR X (rSlU X.K) := (sl_list.or sl_tupA).or sl_str
end
def iSeqV (K : PySem.W.Frag) (tl : TE) : TI := fun σ H R => tl σ H fun x H1 => (∃ a xs, x = .ref a ∧ SqL K H1 a xs ∧ R (Itl K a) H1) ∨ (∃ a xs, x = .ref a ∧ SqT K H1 a xs ∧ R (Itt K a) H1) ∨ ∃ z, x = .str z ∧ R (Its z) H1
section
variable {X : Cx} {tg : Expr}
theorem pi_seqV {l : Expr} {tl : TE} (hl : PE X l tl) : PI X tg l (iSeqV X.K tl) := by
  refine ⟨fun pins s σ H R I h => ?_⟩
  have hA : ∀ (a : Addr) (s1 : Shared) (H1 : Hp), Inv X pins σ H1 s1 → ∀ xs, SqL X.K H1 a xs → R (Itl X.K a) H1 → wpAny (model X.prog X.w) X.A (pyIter (.ref a)) (PIE X pins σ tg R) X.xe s1 := by
    intro a s1 H1 I1 xs hq q
    obtain ⟨its, rv, p, hz⟩ := I1.list hq
    refine wpAny_pyIter_list p.isList ?_
    refine ⟨s1.heap.objs.size, [s1.heap.objs.size], _, _, H1, rfl, I1.kept (t' := s1.toks) fun b o e => Heap.get?_push_of_some _ e, turn_list a _, ⟨_, Heap.get?_push_size _ rfl, rfl, rfl⟩, fun b hb => ?_, q⟩
    have e : b = s1.heap.objs.size := by simpa using hb
    subst e
    exact I1.fpOk (Nat.le_refl _) (I1.hok.fresh (Nat.le_refl _))
  have hB : ∀ (a : Addr) (s1 : Shared) (H1 : Hp), Inv X pins σ H1 s1 → ∀ xs, SqT X.K H1 a xs → R (Itt X.K a) H1 → wpAny (model X.prog X.w) X.A (pyIter (.ref a)) (PIE X pins σ tg R) X.xe s1 := by
    intro a s1 H1 I1 xs hq q
    obtain ⟨its, rv, p, hz⟩ := I1.tuple hq
    refine wpAny_pyIter_tuple (show s1.heap.IsTuple a its.toArray from p) ?_
    refine ⟨s1.heap.objs.size, [s1.heap.objs.size], _, _, H1, rfl, I1.kept (t' := s1.toks) fun b o e => Heap.get?_push_of_some _ e, turn_tuple a _, ⟨_, Heap.get?_push_size _ rfl, rfl, rfl⟩, fun b hb => ?_, q⟩
    have e : b = s1.heap.objs.size := by simpa using hb
    subst e
    exact I1.fpOk (Nat.le_refl _) (I1.hok.fresh (Nat.le_refl _))
  have hC : ∀ (z : Str) (s1 : Shared) (H1 : Hp) (u : Value), Inv X pins σ H1 s1 → RelV (.str z) u → R (Its z) H1 → wpAny (model X.prog X.w) X.A (pyIter u) (PIE X pins σ tg R) X.xe s1 := by
    intro z s1 H1 u I1 ru q
    obtain ⟨t, rfl⟩ := ru
    cases ha : z.cps.all (· < 128)
    · exact wpAny_pyIter_wide ha (pi_one (tk := s1.toks) I1 _ (turn_str _ z t "str_iterator" (.inr rfl)) ⟨_, Heap.get?_push_size _ rfl, rfl, rfl⟩ q)
    · exact wpAny_pyIter_ascii ha (pi_one (tk := s1.toks) I1 _ (turn_str _ z t "str_ascii_iterator" (.inl rfl)) ⟨_, Heap.get?_push_size _ rfl, rfl, rfl⟩ q)
  exact thn (hl.run pins s σ H _ I h) fun v s1 ⟨x, H1, I1, r1, q1⟩ => by
    rcases q1 with ⟨a, xs, e, hq, q⟩ | ⟨a, xs, e, hq, q⟩ | ⟨z, e, q⟩
    · subst e
      cases r1
      exact hA a s1 H1 I1 xs hq q
    · subst e
      cases r1
      exact hB a s1 H1 I1 xs hq q
    · subst e
      exact hC z s1 H1 v I1 r1 q
end
theorem bt_len : bootBuiltins "len" = some (.builtin "len") := by decide +kernel
theorem bt_isinstance : bootBuiltins "isinstance" = some (.builtin "isinstance") := by decide +kernel
theorem bt_any : bootBuiltins "any" = some (.builtin "any") := by decide +kernel
theorem bt_divmod : bootBuiltins "divmod" = some (.builtin "divmod") := by decide +kernel
theorem bt_max : bootBuiltins "max" = some (.builtin "max") := by decide +kernel
theorem bt_min : bootBuiltins "min" = some (.builtin "min") := by decide +kernel
theorem bt_int : bootBuiltins "int" = some (.type "int") := by decide +kernel
theorem bt_bool : bootBuiltins "bool" = some (.type "bool") := by decide +kernel
theorem bt_str : bootBuiltins "str" = some (.type "str") := by decide +kernel
theorem bt_list : bootBuiltins "list" = some (.type "list") := by decide +kernel
theorem bt_tuple : bootBuiltins "tuple" = some (.type "tuple") := by decide +kernel
def rIsiU (K : PySem.W.Frag) : List V → Hp → VK → Prop := fun xs H Q => rIsi K xs H Q ∨ rIsiT K xs H Q
def rNeg : V → Hp → VK → Prop := rU fun i => .int (-i)
def ipAddU (K : PySem.W.Frag) : TIp := fun x y H Q => (∃ i j, x = .int i ∧ y = .int j ∧ Q (.int (i + j)) H) ∨ ∃ i j, x = .str i ∧ y = .str j ∧ i.length + j.length ≤ sizeLine ∧ Q (.str (i ++ j)) H
section
variable {X : Cx}
theorem call_isiU : CallR X (.builtin "isinstance") (rIsiU X.K) := callr_or call_isi call_isiT
theorem un_negU : UnR X (unaryOp .USub) rNeg := un_neg
theorem pt_truU {a : Expr} {ta : TE} (ha : PE X a ta) (he : ∀ whole, isTrue a X.env whole = (do let v ← whole; standAt a.pos; holding [v] (truthy v))) : PT X a (tTru X.K ta) := pt_truth ha he
end
end Ps
namespace Ps
open PySem PySem.Spec PyProof.Rows L2
section
variable {prog : Program} {w : World} {A : Around} {E : Value → Shared → Prop} {s : Shared}
end
section
variable {prog : Program} {w : World} {A : Around} {E : Value → Shared → Prop} {s : Shared}
end
def IteT (K : PySem.W.Frag) (a : Addr) : It :=
  ⟨fun i H => ∃ (xs : List V) (x : V), SqT K H a xs ∧ xs[i]? = some x, fun i H v H' => ∃ T x, v = .ref T ∧ H T = none ∧ H' = upd H T (.tup [.int (i : Nat), x]) ∧ ∀ xs, SqT K H a xs → xs[i]? = some x, fun i H => ∃ xs : List V, SqT K H a xs ∧ xs.length ≤ i⟩
def iEnumU (K : PySem.W.Frag) (ta : TA) : TI := fun σ H R => ta σ H fun vs H1 => ∃ a xs, vs = [.ref a] ∧ ((SqL K H1 a xs ∧ R (Ite K a) H1) ∨ (SqT K H1 a xs ∧ R (IteT K a) H1))
end Ps
namespace Ps
open PySem PySem.Spec PyProof.Rows L2
def Wd (S : List (Addr × HO)) (G H : Hp) : Prop := Same G H ∧ (∀ x ∈ S, H x.1 = some x.2 ∧ G x.1 = none) ∧ (S.map Prod.fst).Nodup
structure Grow (H G H' G' : Hp) : Prop where
  gg : Same G G'
  gh : Same G' H'
  hh : Same H H'
  nn : ∀ a, H a ≠ none → G a = none → G' a = none
section
variable {S A B : List (Addr × HO)} {G G' G'' H H' H'' : Hp} {a p l : Addr} {o o' : HO} {x : Addr × HO} {K : PySem.W.Frag} {xs : List V}
theorem same_new (hp : H p = none) : Same H (upd H p o) := fun b u e => by
  rw [upd_ne (ne_of_none e hp)]
  exact e
theorem same_mut (v : Same G H) (h : G l = none) : Same G (upd H l o) := fun b u e => by
  rw [upd_ne (ne_of_none e h)]
  exact v b u e
theorem same_l (e : Same H H') (h : SqL K H a xs) : SqL K H' a xs := e.seq h
theorem same_t (e : Same H H') (h : SqT K H a xs) : SqT K H' a xs := by
  rcases h with (h | ⟨o, h⟩) | h
  · exact .inl (.inl (e _ _ h))
  · exact .inl (.inr ⟨o, e _ _ h⟩)
  · exact .inr h
theorem Grow.refl (v : Same G H) : Grow H G H G := ⟨Same.refl _, v, Same.refl _, fun _ _ h => h⟩
theorem Grow.new (v : Same G H) (hp : H p = none) : Grow H G (upd H p o) (upd G p o) := by
  have gp : G p = none := v.free hp
  refine ⟨same_new gp, fun b u e => ?_, same_new hp, fun b hb hg => ?_⟩
  · by_cases q : b = p
    · subst q; rw [upd_same] at e ⊢; exact e
    · rw [upd_ne q] at e ⊢; exact v b u e
  · have q : b ≠ p := fun z => hb (z ▸ hp)
    rw [upd_ne q]; exact hg
theorem Grow.trans (a : Grow H G H' G') (b : Grow H' G' H'' G'') : Grow H G H'' G'' :=
  ⟨a.gg.trans b.gg, b.gh, a.hh.trans b.hh, fun c hc hg => b.nn c (fun z => hc (a.hh.free z)) (a.nn c hc hg)⟩
theorem Wd.v (w : Wd S G H) : Same G H := w.1
theorem Wd.nil (v : Same G H) : Wd [] G H := ⟨v, fun x h => absurd h (by simp), List.nodup_nil⟩
theorem Wd.mem (w : Wd S G H) (h : (a, o) ∈ S) : H a = some o := (w.2.1 _ h).1
theorem Wd.hd (w : Wd ((a, o) :: S) G H) : H a = some o := w.mem List.mem_cons_self
theorem Wd.sd (w : Wd (x :: (a, o) :: S) G H) : H a = some o := w.mem (List.mem_cons_of_mem _ List.mem_cons_self)
theorem Wd.td {y : Addr × HO} (w : Wd (x :: y :: (a, o) :: S) G H) : H a = some o := w.mem (List.mem_cons_of_mem _ (List.mem_cons_of_mem _ List.mem_cons_self))
theorem Wd.grow (w : Wd S G H) (g : Grow H G H' G') : Wd S G' H' :=
  ⟨g.gh, fun y hy => ⟨g.hh _ _ (w.2.1 y hy).1, g.nn _ (by rw [(w.2.1 y hy).1]; simp) (w.2.1 y hy).2⟩, w.2.2⟩
theorem Wd.own' (w : Wd S G H) (s : Same H H') (hp : H p = none) (h : H' p = some o) : Wd ((p, o) :: S) G H' := by
  refine ⟨w.1.trans s, fun y hy => ?_, ?_⟩
  · rcases List.mem_cons.mp hy with rfl | hy
    · exact ⟨h, w.1.free hp⟩
    · exact ⟨s _ _ (w.2.1 y hy).1, (w.2.1 y hy).2⟩
  · rw [List.map_cons]
    refine List.nodup_cons.mpr ⟨fun m => ?_, w.2.2⟩
    obtain ⟨y, hy, e⟩ := List.mem_map.mp m
    have q := (w.2.1 y hy).1
    rw [e, hp] at q; cases q
theorem Wd.own (w : Wd S G H) (hp : H p = none) : Wd ((p, o) :: S) G (upd H p o) := w.own' (same_new hp) hp upd_same
theorem Wd.new (w : Wd S G H) (hp : H p = none) : Wd S (upd G p o) (upd H p o) := w.grow (Grow.new w.1 hp)
theorem Wd.perm (w : Wd S G H) (h : B.Perm S) : Wd B G H := ⟨w.1, fun y hy => w.2.1 y (h.mem_iff.mp hy), (h.map _).nodup_iff.mpr w.2.2⟩
theorem Wd.drop (w : Wd (x :: S) G H) : Wd S G H := ⟨w.1, fun y hy => w.2.1 y (List.mem_cons_of_mem _ hy), (List.nodup_cons.mp w.2.2).2⟩
theorem Wd.put (w : Wd ((l, o) :: S) G H) : Wd ((l, o') :: S) G (upd H l o') := by
  have hl := (w.2.1 _ List.mem_cons_self).2
  have nd := List.nodup_cons.mp w.2.2
  refine ⟨same_mut w.1 hl, fun y hy => ?_, w.2.2⟩
  rcases List.mem_cons.mp hy with rfl | hy
  · exact ⟨upd_same, hl⟩
  · have q : y.1 ≠ l := fun z => nd.1 (List.mem_map.mpr ⟨y, hy, z⟩)
    rw [upd_ne q]
    exact w.2.1 y (List.mem_cons_of_mem _ hy)
theorem Wd.swap {y : Addr × HO} (w : Wd (x :: y :: S) G H) : Wd (y :: x :: S) G H := w.perm (List.Perm.swap _ _ _)
theorem Wd.put2 (w : Wd (x :: (l, o) :: S) G H) : Wd (x :: (l, o') :: S) G (upd H l o') := w.swap.put.swap
theorem Wd.rot3 {y z : Addr × HO} (w : Wd (x :: y :: z :: S) G H) : Wd (z :: x :: y :: S) G H :=
  w.perm ((List.Perm.swap _ _ _).trans (List.Perm.cons _ (List.Perm.swap _ _ _)))
theorem Wd.rot3' {y z : Addr × HO} (w : Wd (z :: x :: y :: S) G H) : Wd (x :: y :: z :: S) G H :=
  w.perm ((List.Perm.cons _ (List.Perm.swap _ _ _)).trans (List.Perm.swap _ _ _))
theorem Wd.put3 {y : Addr × HO} (w : Wd (x :: y :: (l, o) :: S) G H) : Wd (x :: y :: (l, o') :: S) G (upd H l o') := w.rot3.put.rot3'
theorem Wd.share (w : Wd ((p, o) :: S) G H) : Wd S (upd G p o) H := by
  have nd := List.nodup_cons.mp w.2.2
  refine ⟨fun b u e => ?_, fun y hy => ⟨(w.2.1 y (List.mem_cons_of_mem _ hy)).1, ?_⟩, nd.2⟩
  · by_cases q : b = p
    · subst q; rw [upd_same] at e; rw [← e]; exact w.hd
    · rw [upd_ne q] at e; exact w.1 b u e
  · have q : y.1 ≠ p := fun z => nd.1 (List.mem_map.mpr ⟨y, hy, z⟩)
    rw [upd_ne q]
    exact (w.2.1 y (List.mem_cons_of_mem _ hy)).2
theorem Wd.gp (w : Wd ((p, o) :: S) G H) : G p = none := (w.2.1 _ List.mem_cons_self).2
theorem Wd.gsame (w : Wd ((p, o) :: S) G H) (o' : HO) : Same G (upd G p o') := same_new w.gp
theorem Wd.own3 {y : Addr × HO} (w : Wd (x :: y :: S) G H) (s : Same H H') (hp : H p = none) (h : H' p = some o) : Wd (x :: y :: (p, o) :: S) G H' := (w.own' s hp h).rot3'
end
section
variable {K : PySem.W.Frag} {H H' : Hp}
theorem dpAll_ints : ∀ (ns : List Int), DpAll K H (ns.map V.int) (ns.map PyData.int)
  | [] => .nil
  | _ :: r => .cons (.int _) (dpAll_ints r)
def dI (ns : List Int) : PyData := .list (ns.map PyData.int)
theorem dp_ints {a : Addr} {ns : List Int} (h : H a = some (.lst (ns.map V.int))) : Dp K H (.ref a) (dI ns) := .lst (SqL.of h) (dpAll_ints ns)
end
section
variable {t u : TS} {D : Ends} {σ : L2.St} {H : Hp} {te : TE} {g : TG} {i : Nat} {v x y : V} {K : PySem.W.Frag}
theorem w_seq (h : t ⟨u D, D.rt, D.bk, D.ct⟩ σ H) : tSeq t u D σ H := h
theorem w_asg (h : te σ H fun x H1 => g x σ H1 D.nx) : tAsg te g D σ H := h
theorem w_ret (h : te σ H D.rt) : tRet te D σ H := h
theorem w_retN (h : D.rt .non H) : tRetN D σ H := h
theorem w_drop (h : te σ H fun _ H1 => D.nx σ H1) : tDrop te D σ H := h
theorem w_ifs {c : TT} (h : c σ H fun b H1 => if b = true then t D σ H1 else u D σ H1) : tIfS c t u D σ H := h
theorem w_next (h : D.nx σ H) : tNext D σ H := h
theorem w_brk (h : D.bk σ H) : tBreak D σ H := h
theorem w_cont (h : D.ct σ H) : tCont D σ H := h
theorem w_aug {ti : TIp} (hx : σ[i]? = some (some x)) (h : te σ H fun y H1 => ti x y H1 fun z H2 => D.nx (σ.set i (some z)) H2) : tAug i te ti D σ H := ⟨x, hx, h⟩
theorem w_par {ta : TA} {j : Nat} (h : ta σ H fun vs H1 => ∃ v w, vs = [v, w] ∧ D.nx ((σ.set i (some v)).set j (some w)) H1) : tPar i j ta D σ H := h
theorem w_par2 {j : Nat} {v w : V} (h : D.nx ((σ.set i (some v)).set j (some w)) H) : ∃ v' w', [v, w] = [v', w'] ∧ D.nx ((σ.set i (some v')).set j (some w')) H := ⟨v, w, rfl, h⟩
theorem w_for {wi : TI} {tb : TS} (h : wi σ H fun J H1 => ∃ W : Nat → Nat → L2.St → Hp → Prop, (∃ m, W 0 m σ H1) ∧ ∀ i m σ H, W i m σ H →
    (J.stop i H ∧ D.nx σ H) ∨ (J.go i H ∧ ∃ N : L2.St → Hp → Prop, (∀ σ' H', N σ' H' → ∃ m', m' < m ∧ W (i + 1) m' σ' H') ∧ ∀ x H', J.yld i H x H' → g x σ H' fun σ2 H2 => tb { D with nx := N, ct := N, bk := D.nx } σ2 H2)) : tFor wi g tb D σ H := h
theorem w_gname {Q : L2.St → Hp → Prop} (h : Q (σ.set i (some v)) H) : gName i v σ H Q := h
theorem w_gnil {Q : L2.St → Hp → Prop} (h : Q σ H) : gNil [] σ H Q := ⟨rfl, h⟩
theorem w_gcons {gs : TGs} {r : List V} {Q : L2.St → Hp → Prop} (h : g v σ H fun σ' H' => gs r σ' H' Q) : gCons g gs (v :: r) σ H Q := ⟨v, r, rfl, h⟩
theorem w_gtup {gs : TGs} {n : Nat} {a : Addr} {xs : List V} {Q : L2.St → Hp → Prop} (ht : SqT K H a xs) (hn : xs.length = n) (h : gs xs σ H Q) : gTup K n gs (.ref a) σ H Q := ⟨a, xs, rfl, ht, hn, h⟩
theorem w_gsub {to ti : TE} {s : TSet} {Q : L2.St → Hp → Prop} (h : to σ H fun o H1 => ti σ H1 fun i H2 => s o i v H2 fun H3 => Q σ H3) : gSub to ti s v σ H Q := h
variable {Q : VK} {ta tb tc : TE} {r : R2}
theorem w_var (hx : σ[i]? = some (some v)) (h : Q v H) : tVar i σ H Q := ⟨v, hx, h⟩
theorem w_c (h : Q v H) : tC v σ H Q := h
theorem w_op (h : ta σ H fun x H1 => tb σ H1 fun y H2 => r x y H2 Q) : tOp r ta tb σ H Q := h
theorem w_un {r1 : V → Hp → VK → Prop} (h : ta σ H fun x H1 => r1 x H1 Q) : tUn r1 ta σ H Q := h
theorem w_cb {tl : TA} {rc : List V → Hp → VK → Prop} (h : tl σ H fun vs H1 => rc vs H1 Q) : tCB rc tl σ H Q := h
theorem w_bm {tl : TA} {T : String} {rm : V → List V → Hp → VK → Prop} (h : ta σ H fun x H1 => tyV K T x H1 ∧ tl σ H1 fun xs H2 => rm x xs H2 Q) : tBM K T rm ta tl σ H Q := h
theorem w_bm0 {T : String} {rm : V → List V → Hp → VK → Prop} (h : ta σ H fun x H1 => tyV K T x H1 ∧ rm x [] H1 Q) : tBM0 K T rm ta σ H Q := h
theorem w_lst {tl : TA} (h : tl σ H fun xs H1 => xs.length ≤ sizeLine ∧ ∀ p, H1 p = none → Q (.ref p) (upd H1 p (.lst xs))) : tLst tl σ H Q := h
theorem w_tup {tl : TA} (h : tl σ H fun xs H1 => xs.length ≤ sizeLine ∧ ∀ p, H1 p = none → Q (.ref p) (upd H1 p (.tup xs))) : tTup tl σ H Q := h
theorem w_call {tl : TA} {sp : Sp} {dvs : List V} {E : XK} (h : tl σ H fun vs H1 => sp (vs ++ dvs) H1 Q E) : tCall sp dvs E tl σ H Q := h
theorem w_callS {tl : TA} {sp : Sp} {E : L2.St → XK} (h : tl σ H fun vs H1 => sp vs H1 Q (E σ)) : tCallS sp E tl σ H Q := h
theorem w_sl {tl th : TO} {rs : V → Option Int → Option Int → Hp → VK → Prop} (h : te σ H fun x H1 => tl σ H1 fun l H2 => th σ H2 fun u H3 => rs x l u H3 Q) : tSl rs te tl th σ H Q := h
theorem w_nopart {P : Option Int → Hp → Prop} (h : P none H) : tNoPart σ H P := h
theorem w_part {P : Option Int → Hp → Prop} (h : te σ H fun x H1 => ∃ i, x = .int i ∧ P (some i) H1) : tPart te σ H P := h
theorem w_partI {P : Int → Prop} {i : Int} (h : P i) : ∃ j, V.int i = .int j ∧ P j := ⟨i, rfl, h⟩
theorem w_nil {P : List V → Hp → Prop} (h : P [] H) : tNil σ H P := h
theorem w_cons {tl : TA} {P : List V → Hp → Prop} (h : ta σ H fun x H1 => tl σ H1 fun xs H2 => P (x :: xs) H2) : tCons ta tl σ H P := h
theorem w_tif {c : TT} (h : c σ H fun b H1 => if b = true then ta σ H1 Q else tb σ H1 Q) : tIf c ta tb σ H Q := h
theorem w_andV (h : ta σ H fun x H1 => ∃ c, x = .bl c ∧ if c = true then tb σ H1 Q else Q (.bl false) H1) : tAndV ta tb σ H Q := h
theorem w_orV (h : ta σ H fun x H1 => ∃ c, x = .bl c ∧ if c = true then Q (.bl true) H1 else tb σ H1 Q) : tOrV ta tb σ H Q := h
theorem w_notV (h : ta σ H fun x H1 => ∃ c, x = .bl c ∧ Q (.bl (!c)) H1) : tNotV ta σ H Q := h
theorem w_blE {P : Bool → Prop} {b : Bool} (h : P b) : ∃ c, V.bl b = .bl c ∧ P c := ⟨b, rfl, h⟩
variable {P : Bool → Hp → Prop} {c d : TT}
theorem w_test (h : te σ H fun x H' => ∃ k, x = .bl k ∧ P k H') : tTest te σ H P := h
theorem w_tru (h : te σ H fun x H' => ∃ k, TruV K x H' k ∧ P k H') : tTru K te σ H P := h
theorem w_truB {b : Bool} {P : Bool → Prop} (h : P b) : ∃ k, TruV K (.bl b) H k ∧ P k := ⟨b, rfl, h⟩
theorem w_and (h : c σ H fun b H1 => if b = true then d σ H1 P else P false H1) : tAnd c d σ H P := h
theorem w_or (h : c σ H fun b H1 => if b = true then P true H1 else d σ H1 P) : tOr c d σ H P := h
theorem w_not (h : c σ H fun b H1 => P (!b) H1) : tNot c σ H P := h
theorem w_yes (h : P true H) : tYes σ H P := h
end
section
variable {H : Hp} {Q : VK} {K : PySem.W.Frag} {i j : Int} {a b : Addr} {xs ys : List V} {v : V}
theorem w_addI (h : Q (.int (i + j)) H) : rAddU K (.int i) (.int j) H Q := .inl (.inl ⟨i, j, rfl, rfl, h⟩)
theorem w_addS {x y : Str} (hz : x.length + y.length ≤ sizeLine) (h : Q (.str (x ++ y)) H) : rAddU K (.str x) (.str y) H Q := .inl (.inr ⟨x, y, rfl, rfl, hz, h⟩)
theorem w_addL (ha : H a = some (.lst xs)) (hb : H b = some (.lst ys)) (hz : xs.length + ys.length ≤ sizeLine) (h : ∀ p, H p = none → Q (.ref p) (upd H p (.lst (xs ++ ys)))) : rAddU K (.ref a) (.ref b) H Q :=
  .inr (.inl ⟨a, b, xs, ys, rfl, rfl, ha, hb, hz, h⟩)
theorem w_subI (h : Q (.int (i - j)) H) : rSubU (.int i) (.int j) H Q := ⟨i, j, rfl, rfl, h⟩
theorem w_mulI (hc : CMul i j) (h : Q (.int (i * j)) H) : rMulU (.int i) (.int j) H Q := .inl (.inl ⟨i, j, rfl, rfl, hc, h⟩)
theorem w_mulW (hc : CMulW i j) (h : Q (.int (i * j)) H) : rMulU (.int i) (.int j) H Q := .inl (.inr ⟨i, j, rfl, rfl, hc, h⟩)
theorem w_divI (hc : CDiv i j) (h : Q (.int (i / j)) H) : rDivU (.int i) (.int j) H Q := .inl ⟨i, j, rfl, rfl, hc, h⟩
theorem w_divW (hc : CDivW i j) (h : Q (.int (i / j)) H) : rDivU (.int i) (.int j) H Q := .inr ⟨i, j, rfl, rfl, hc, h⟩
theorem w_modI (hc : 0 < j) (h : Q (.int (i % j)) H) : rModU (.int i) (.int j) H Q := ⟨i, j, rfl, rfl, hc, h⟩
theorem w_modF (hc : 0 < j) (h : ∀ z, 0 ≤ z → z < j → Q (.int z) H) : rModU (.int i) (.int j) H Q := w_modI hc (h _ (Int.emod_nonneg _ (by omega)) (Int.emod_lt_of_pos _ hc))
theorem w_powI (hc : CPow i j) (h : Q (.int (i ^ j.toNat)) H) : rPowU (.int i) (.int j) H Q := ⟨i, j, rfl, rfl, hc, h⟩
theorem w_negI (h : Q (.int (-i)) H) : rNeg (.int i) H Q := ⟨i, rfl, h⟩
theorem w_ixL (hl : SqL K H a xs) (hi : atI xs i = some v) (h : Q v H) : rIxU K (.ref a) (.int i) H Q := .inl (.inl ⟨a, xs, i, v, rfl, rfl, hl, hi, h⟩)
theorem w_ixT (hl : SqT K H a xs) (hi : atI xs i = some v) (h : Q v H) : rIxU K (.ref a) (.int i) H Q := .inl (.inr ⟨a, xs, i, v, rfl, rfl, hl, hi, h⟩)
theorem w_ixS {z : Str} {c : Nat} (hz : z.length ≤ sizeLine) (hi : atI z.cps.toList i = some c) (h : Q (.str ⟨#[c]⟩) H) : rIxU K (.str z) (.int i) H Q := .inr (.inl ⟨z, i, c, rfl, rfl, hz, hi, h⟩)
theorem w_ixDs {kvs : List (Key × V)} {x : Str} (hd : H a = some (.dK kvs)) (hv : valV kvs (Sum.inr x) = some v) (h : Q v H) : rIxU K (.ref a) (.str x) H Q :=
  .inr (.inr ⟨a, v, rfl, by have g := DGet.k (k := Sum.inr x) hd; rw [hv] at g; exact g, h⟩)
theorem w_setDs {kvs : List (Key × V)} {x : Str} {P : Hp → Prop} (hd : H a = some (.dK kvs)) (hz : kvs.length < sizeLine) (h : P (upd H a (.dK (putK kvs (Sum.inr x) v)))) : rSetU (.ref a) (.str x) v H P :=
  .inr ⟨a, _, rfl, DPut.k (k := Sum.inr x) hd hz, h⟩
theorem w_setL {P : Hp → Prop} {k : Nat} (hd : H a = some (.lst xs)) (hi : ixN xs.length i = some k) (h : P (upd H a (.lst (xs.set k v)))) : rSetU (.ref a) (.int i) v H P :=
  .inl ⟨a, xs, i, k, rfl, rfl, hd, hi, h⟩
theorem w_eqI (h : Q (.bl (decide (i = j))) H) : rEqU K (.int i) (.int j) H Q := .inl ⟨rfl, by
  have e : decide (V.int i = V.int j) = decide (i = j) := by simp
  rw [e]; exact h⟩
theorem w_neI (h : Q (.bl (!decide (i = j))) H) : rNeU K (.int i) (.int j) H Q := .inl ⟨rfl, by
  have e : decide (V.int i = V.int j) = decide (i = j) := by simp
  rw [e]; exact h⟩
theorem w_eqS {x y : Str} (h : Q (.bl (decide (x = y))) H) : rEqU K (.str x) (.str y) H Q := .inl ⟨rfl, by
  have e : decide (V.str x = V.str y) = decide (x = y) := by simp
  rw [e]; exact h⟩
theorem w_neS {x y : Str} (h : Q (.bl (!decide (x = y))) H) : rNeU K (.str x) (.str y) H Q := .inl ⟨rfl, by
  have e : decide (V.str x = V.str y) = decide (x = y) := by simp
  rw [e]; exact h⟩
theorem w_eqD {x y : V} {d e : PyData} (hd : Dp K H x d) (he : Dp K H y e) (sd : SeqAt.shaped d = true) (se : SeqAt.shaped e = true) (h : Q (.bl (PyData.eqv d e)) H) : rEqU K x y H Q := .inr ⟨d, e, hd, he, sd, se, h⟩
theorem w_ltI (h : Q (.bl (decide (i < j))) H) : rLtU K (.int i) (.int j) H Q := .inl ⟨i, j, rfl, rfl, h⟩
theorem w_leI (h : Q (.bl (decide (i ≤ j))) H) : rLeU (.int i) (.int j) H Q := ⟨i, j, rfl, rfl, h⟩
theorem w_gtI (h : Q (.bl (decide (j < i))) H) : rGtU (.int i) (.int j) H Q := ⟨i, j, rfl, rfl, h⟩
theorem w_geI (h : Q (.bl (decide (j ≤ i))) H) : rGeU (.int i) (.int j) H Q := ⟨i, j, rfl, rfl, h⟩
theorem w_isN {x : V} (h : Q (.bl (decide (x = .non))) H) : rIsN x .non H Q := ⟨rfl, h⟩
theorem w_isNn (h : Q (.bl true) H) : rIsN .non .non H Q := ⟨rfl, by rw [decide_eq_true rfl]; exact h⟩
theorem w_isNi (h : Q (.bl false) H) : rIsN (.int i) .non H Q := ⟨rfl, by rw [decide_eq_false (by simp)]; exact h⟩
theorem w_isNs {z : Str} (h : Q (.bl false) H) : rIsN (.str z) .non H Q := ⟨rfl, by rw [decide_eq_false (by simp)]; exact h⟩
theorem w_isNr (h : Q (.bl false) H) : rIsN (.ref a) .non H Q := ⟨rfl, by rw [decide_eq_false (by simp)]; exact h⟩
theorem w_ntNn (h : Q (.bl false) H) : rNotN .non .non H Q := ⟨rfl, by rw [decide_eq_true rfl]; exact h⟩
theorem w_ntNi (h : Q (.bl true) H) : rNotN (.int i) .non H Q := ⟨rfl, by rw [decide_eq_false (by simp)]; exact h⟩
theorem w_ntNs {z : Str} (h : Q (.bl true) H) : rNotN (.str z) .non H Q := ⟨rfl, by rw [decide_eq_false (by simp)]; exact h⟩
theorem w_ntNr (h : Q (.bl true) H) : rNotN (.ref a) .non H Q := ⟨rfl, by rw [decide_eq_false (by simp)]; exact h⟩
theorem w_notN {x : V} (h : Q (.bl (!decide (x = .non))) H) : rNotN x .non H Q := ⟨rfl, h⟩
theorem w_ipaI (h : Q (.int (i + j)) H) : ipAddU K (.int i) (.int j) H Q := .inl ⟨i, j, rfl, rfl, h⟩
theorem w_ipsI {f : Int → Int → Int} (h : Q (.int (f i j)) H) : ipI f (.int i) (.int j) H Q := ⟨i, j, rfl, rfl, h⟩
theorem w_lenL (hl : SqL K H a xs) (h : Q (.int xs.length) H) : rLenU K [.ref a] H Q := .inl ⟨_, _, rfl, .inl ⟨xs, hl, rfl⟩, h⟩
theorem w_lenT (hl : SqT K H a xs) (h : Q (.int xs.length) H) : rLenU K [.ref a] H Q := .inl ⟨_, _, rfl, .inr ⟨xs, hl, rfl⟩, h⟩
theorem w_lenS {z : Str} (hz : z.length ≤ sizeLine) (h : Q (.int z.length) H) : rLenU K [.str z] H Q := .inl ⟨_, _, rfl, ⟨hz, rfl⟩, h⟩
theorem w_listL (hl : SqL K H a xs) (h : ∀ p, H p = none → Q (.ref p) (upd H p (.lst xs))) : rListU K [.ref a] H Q := .inl ⟨a, xs, rfl, .inl hl, h⟩
theorem w_tupL (hl : SqL K H a xs) (h : ∀ p, H p = none → Q (.ref p) (upd H p (.tup xs))) : rTupU K [.ref a] H Q := ⟨a, xs, rfl, .inl ⟨hl, h⟩⟩
theorem w_tupT (hl : SqT K H a xs) (h : Q (.ref a) H) : rTupU K [.ref a] H Q := ⟨a, xs, rfl, .inr ⟨hl, h⟩⟩
theorem w_intI (h : Q (.int i) H) : rIntU [.int i] H Q := .inl ⟨i, rfl, h⟩
theorem w_intB {k : Bool} (h : Q (.int (if k then 1 else 0)) H) : rIntU [.bl k] H Q := .inr ⟨k, rfl, h⟩
theorem w_divmod (hc : CDivW i j) (h : ∀ p, H p = none → Q (.ref p) (upd H p (.tup [.int (i / j), .int (i % j)]))) : rDivmod [.int i, .int j] H Q := ⟨i, j, rfl, ⟨hc.1, PyProof.noPylong_of_log2 hc.2⟩, h⟩
theorem w_any {bs : List Bool} (hl : SqL K H a (bs.map V.bl)) (h : Q (.bl (bs.any id)) H) : rAny K [.ref a] H Q := ⟨a, bs, rfl, hl, h⟩
theorem w_isi {x : V} {n : String} {t : Value} {k : Bool} (ht : TyX K H x t) (hk : PySem.W.kitOne K t (.type n) = some k) (h : Q (.bl k) H) : rIsiU K [x, .ty n] H Q := .inl ⟨x, .ty n, t, .type n, k, rfl, .ty n, ht, hk, h⟩
theorem ty_t (h : SqT K H a xs) : TyX K H (.ref a) (.type "tuple") := by
  rcases h with (h | ⟨o, h⟩) | ⟨o, its, n, h, c, _⟩
  · exact .base (.tup h)
  · exact .fTuple h
  · exact .kTuple h c
theorem w_is_int_dict {i : Int} (h : Q (.bl false) H) : rIsiU K [.int i, .ty "dict"] H Q := w_isi (.base (.int i)) (kit_ty (r := false) (by decide +kernel)) h
theorem w_is_int_list {i : Int} (h : Q (.bl false) H) : rIsiU K [.int i, .ty "list"] H Q := w_isi (.base (.int i)) (kit_ty (r := false) (by decide +kernel)) h
theorem w_is_int_tuple {i : Int} (h : Q (.bl false) H) : rIsiU K [.int i, .ty "tuple"] H Q := w_isi (.base (.int i)) (kit_ty (r := false) (by decide +kernel)) h
theorem w_is_int_str {i : Int} (h : Q (.bl false) H) : rIsiU K [.int i, .ty "str"] H Q := w_isi (.base (.int i)) (kit_ty (r := false) (by decide +kernel)) h
theorem w_is_int_int {i : Int} (h : Q (.bl true) H) : rIsiU K [.int i, .ty "int"] H Q := w_isi (.base (.int i)) (kit_ty (r := true) (by decide +kernel)) h
theorem w_is_int_bool {i : Int} (h : Q (.bl false) H) : rIsiU K [.int i, .ty "bool"] H Q := w_isi (.base (.int i)) (kit_ty (r := false) (by decide +kernel)) h
theorem w_is_bool_dict {kk : Bool} (h : Q (.bl false) H) : rIsiU K [.bl kk, .ty "dict"] H Q := w_isi (.base (.bl kk)) (kit_ty (r := false) (by decide +kernel)) h
theorem w_is_bool_list {kk : Bool} (h : Q (.bl false) H) : rIsiU K [.bl kk, .ty "list"] H Q := w_isi (.base (.bl kk)) (kit_ty (r := false) (by decide +kernel)) h
theorem w_is_bool_tuple {kk : Bool} (h : Q (.bl false) H) : rIsiU K [.bl kk, .ty "tuple"] H Q := w_isi (.base (.bl kk)) (kit_ty (r := false) (by decide +kernel)) h
theorem w_is_bool_str {kk : Bool} (h : Q (.bl false) H) : rIsiU K [.bl kk, .ty "str"] H Q := w_isi (.base (.bl kk)) (kit_ty (r := false) (by decide +kernel)) h
theorem w_is_bool_int {kk : Bool} (h : Q (.bl true) H) : rIsiU K [.bl kk, .ty "int"] H Q := w_isi (.base (.bl kk)) (kit_ty (r := true) (by decide +kernel)) h
theorem w_is_bool_bool {kk : Bool} (h : Q (.bl true) H) : rIsiU K [.bl kk, .ty "bool"] H Q := w_isi (.base (.bl kk)) (kit_ty (r := true) (by decide +kernel)) h
theorem w_is_str_dict {zz : Str} (h : Q (.bl false) H) : rIsiU K [.str zz, .ty "dict"] H Q := w_isi (.base (.str zz)) (kit_ty (r := false) (by decide +kernel)) h
theorem w_is_str_list {zz : Str} (h : Q (.bl false) H) : rIsiU K [.str zz, .ty "list"] H Q := w_isi (.base (.str zz)) (kit_ty (r := false) (by decide +kernel)) h
theorem w_is_str_tuple {zz : Str} (h : Q (.bl false) H) : rIsiU K [.str zz, .ty "tuple"] H Q := w_isi (.base (.str zz)) (kit_ty (r := false) (by decide +kernel)) h
theorem w_is_str_str {zz : Str} (h : Q (.bl true) H) : rIsiU K [.str zz, .ty "str"] H Q := w_isi (.base (.str zz)) (kit_ty (r := true) (by decide +kernel)) h
theorem w_is_str_int {zz : Str} (h : Q (.bl false) H) : rIsiU K [.str zz, .ty "int"] H Q := w_isi (.base (.str zz)) (kit_ty (r := false) (by decide +kernel)) h
theorem w_is_str_bool {zz : Str} (h : Q (.bl false) H) : rIsiU K [.str zz, .ty "bool"] H Q := w_isi (.base (.str zz)) (kit_ty (r := false) (by decide +kernel)) h
theorem w_slL {lo hi : Option Int} (hl : SqL K H a xs) (h : ∀ p, H p = none → Q (.ref p) (upd H p (.lst (cutV xs lo hi)))) : rSlU K (.ref a) lo hi H Q := .inl (.inl ⟨a, xs, rfl, hl, h⟩)
theorem w_rep {k : Int} (hl : H a = some (.lst xs)) (h1 : -(2 ^ 63) ≤ k) (h2 : k < 2 ^ 63) (h3 : xs.length * k.toNat ≤ sizeLine) (h : ∀ p, H p = none → Q (.ref p) (upd H p (.lst ((List.replicate k.toNat xs).flatten)))) : rMulU (.ref a) (.int k) H Q := by
  refine .inr ?_
  exact ⟨a, k, xs, rfl, rfl, hl, h1, h2, h3, h⟩
theorem w_ifd {p A B : Prop} [Decidable p] (h1 : p → A) (h2 : ¬ p → B) : if decide p = true then A else B := by
  by_cases h : p
  · rw [if_pos (decide_eq_true h)]; exact h1 h
  · rw [if_neg (by simp [h])]; exact h2 h
theorem w_ifn {p A B : Prop} [Decidable p] (h1 : ¬ p → A) (h2 : p → B) : if (!decide p) = true then A else B := by
  by_cases h : p
  · rw [if_neg (by simp [h])]; exact h2 h
  · rw [if_pos (by simp [h])]; exact h1 h
theorem w_ifNF {A B : Prop} (h : A) : if (!false) = true then A else B := by simpa using h
theorem w_ifNT {A B : Prop} (h : B) : if (!true) = true then A else B := by simpa using h
theorem w_ifT {A B : Prop} (h : A) : if true = true then A else B := by rw [if_pos rfl]; exact h
theorem w_ifF {A B : Prop} (h : B) : if false = true then A else B := by rw [if_neg Bool.false_ne_true]; exact h
end
section
variable {σ : L2.St} {H : Hp} {Q : VK} {K : PySem.W.Frag} {R : It → Hp → Prop} {ta : TA} {te : TE}
theorem w_lc {wi : TI} {g : TG} {tt : TT} {te : TE} {vs : List Nat} (h : wi σ H fun J H1 => ∀ D, H1 D = none → ∃ W : Nat → Nat → Hp → Prop, (∃ m, W 0 m (upd H1 D (.lst []))) ∧ ∀ i m H, W i m H →
  (J.stop i H ∧ Q (.ref D) H) ∨ (J.go i H ∧ ∃ Nx : Hp → Prop, (∀ H', Nx H' → ∃ m', m' < m ∧ W (i + 1) m' H') ∧ ∀ x H', J.yld i H x H' → g x (wipe σ vs) H' fun σ2 H2 => wipe σ2 vs = wipe σ vs ∧ tt σ2 H2 fun b H3 =>
    if b = true then te σ2 H3 fun y H4 => ∃ acc, H4 D = some (.lst acc) ∧ acc.length < sizeLine ∧ Nx (upd H4 D (.lst (acc ++ [y]))) else Nx H3)) : tLc wi g tt te vs σ H Q := h
def ZipK (K : PySem.W.Frag) (R : It → Hp → Prop) (vs : List V) (H1 : Hp) : Prop := ∃ a b xs ys, vs = [.ref a, .ref b] ∧ ((SqL K H1 a xs ∧ SqL K H1 b ys ∧ R (Itz K a b) H1) ∨ (SqT K H1 a xs ∧ SqT K H1 b ys ∧ R (RZ.ItzT K a b) H1))
def SeqK (K : PySem.W.Frag) (R : It → Hp → Prop) (x : V) (H1 : Hp) : Prop := (∃ a xs, x = .ref a ∧ SqL K H1 a xs ∧ R (Itl K a) H1) ∨ (∃ a xs, x = .ref a ∧ SqT K H1 a xs ∧ R (Itt K a) H1) ∨ ∃ z, x = .str z ∧ R (Its z) H1
def Rng1K (R : It → Hp → Prop) (vs : List V) (H1 : Hp) : Prop := ∃ j : Int, vs = [.int j] ∧ -(2 ^ 62) ≤ j ∧ j < 2 ^ 62 ∧ R (Itr 0 j.toNat) H1
def Rng2K (R : It → Hp → Prop) (vs : List V) (H1 : Hp) : Prop := ∃ i j : Int, vs = [.int i, .int j] ∧ (-(2 ^ 62) ≤ i ∧ i < 2 ^ 62 ∧ -(2 ^ 62) ≤ j ∧ j < 2 ^ 62) ∧ R (Itr i (j - i).toNat) H1
def EnumK (K : PySem.W.Frag) (R : It → Hp → Prop) (vs : List V) (H1 : Hp) : Prop := ∃ a xs, vs = [.ref a] ∧ ((SqL K H1 a xs ∧ R (Ite K a) H1) ∨ (SqT K H1 a xs ∧ R (IteT K a) H1))
def RevK (K : PySem.W.Frag) (R : It → Hp → Prop) (v : V) (H1 : Hp) : Prop := ∃ (a : Addr) (xs : List V), v = .ref a ∧ ((SqL K H1 a xs ∧ R (Itv K a xs.length) H1) ∨ (SqT K H1 a xs ∧ R (RT.ItvT K a xs.length) H1))
theorem w_zip (h : ta σ H fun vs H1 => ZipK K R vs H1) : RZ.iZipA K ta σ H R := h
theorem w_seqv (h : te σ H fun x H1 => SeqK K R x H1) : iSeqV K te σ H R := h
theorem w_rng1 (h : ta σ H fun vs H1 => Rng1K R vs H1) : iRng1 ta σ H R := h
theorem w_rng2 (h : ta σ H fun vs H1 => Rng2K R vs H1) : iRng2 ta σ H R := h
theorem w_enum (h : ta σ H fun vs H1 => EnumK K R vs H1) : iEnumU K ta σ H R := h
theorem w_rev (h : te σ H fun v H1 => RevK K R v H1) : RT.iRevA K te σ H R := h
end
theorem sz_le {n : Nat} (h : n ≤ 16777216) : n ≤ sizeLine := by rw [sizeLine_eq]; exact h
theorem sz_lt {n : Nat} (h : n < 16777216) : n < sizeLine := by rw [sizeLine_eq]; exact h
end Ps
namespace Ps
open PySem PySem.Spec PyProof.Rows L2
def exv (a C : Addr) (d : Option Addr) : HO := .ext fun h => ∃ vs sl, h.get? a = some ({ cls := .ref C, dict := d, data := .fields vs, slots := sl } : Obj)
section
variable {X : Cx} {pins : List (Addr × Obj)} {σ : L2.St} {H : Hp} {s : Shared}
end
section
variable {X : Cx} {x n y : Str} {c : Value} {i j : Nat} {body : List Stmt} {np pos pos' p1 p2 p3 : Pos} {tb : WX → TS} {Wout : WX}
end
end Ps
namespace Ps
open PySem PySem.Spec PyProof.Rows L2
section
variable {X : Cx} {CX : CXT} {k : Nat} {f C : Addr} {fd : FuncData} {ps : List Str} {sp : Sp} {E : L2.St → XK} {x m : Str} {p pos apos : Pos} {e o : Expr} {es : List Expr} {ta : TE} {t : TA}
def tMethQ (C : Addr) (m : Str) (sp : Sp) (E : L2.St → XK) (ta : TE) (t : TA) : TE := fun σ H Q => ta σ H fun x H1 => ∃ a dx fs, x = .ref a ∧ H1 a = some (.ins C dx fs) ∧ fs.lookup m = none ∧ t σ H1 fun vs H2 => sp (x :: vs) H2 Q (E σ)
def tMakeQ (C : Addr) (sp : Sp) (E : L2.St → XK) (t : TA) : TE := fun σ H Q => t σ H fun vs H1 => ∀ x dx, H1 x = none → H1 dx = none → dx ≠ x →
  sp (.ref x :: vs) (upd (upd H1 dx (.own x)) x (.ins C dx [])) (fun v H2 => v = .non ∧ Q (.ref x) H2) (E σ)
end
end Ps
namespace Ps
open PySem PySem.Spec PyProof.Rows L2
section
variable {X : Cx} {pins : List (Addr × Obj)} {σ : L2.St} {H : Hp} {s : Shared}
end
end Ps
namespace Ps
open PySem PySem.Spec PyProof.Rows L2
def tRz (W : WX) (cls : Value) : TS := fun _ σ H => W cls none σ H
section
variable {K : PySem.W.Frag} {H H1 : Hp} {σ : L2.St} {D : Ends} {ta tv : TE} {f m : Str} {Q : VK} {a C dx : Addr} {fs : List (Str × V)} {fl : List Str} {v y : V} {t : TA} {sp : Sp} {E : L2.St → XK}
def FldK (K : PySem.W.Frag) (f : Str) (x : V) (H1 : Hp) (Q : VK) : Prop := ∃ a C dx fs v, x = .ref a ∧ H1 a = some (.ins C dx fs) ∧ Cls K C ∧ NoAttr K C f ∧ fs.lookup f = some v ∧ Q v H1
theorem w_fld (h : ta σ H fun x H1 => FldK K f x H1 Q) : tFld K ta f σ H Q := h
def SFldK (K : PySem.W.Frag) (f : Str) (D : Ends) (σ : L2.St) (y x : V) (H2 : Hp) : Prop := ∃ a C dx fs, x = .ref a ∧ H2 a = some (.ins C dx fs) ∧ Cls K C ∧ NoAttr K C f ∧ fs.length < 1000 ∧ D.nx σ (upd H2 a (.ins C dx (putF f y fs)))
theorem w_sfld (h : tv σ H fun y H1 => ta σ H1 fun x H2 => SFldK K f D σ y x H2) : sFld K ta tv f D σ H := h
def AFldK (K : PySem.W.Frag) (f : Str) (rd : V → V → Hp → VK → Prop) (tv : TE) (D : Ends) (σ : L2.St) (x : V) (H1 : Hp) : Prop := ∃ a C dx fs v, x = .ref a ∧ H1 a = some (.ins C dx fs) ∧ Cls K C ∧ NoAttr K C f ∧ fs.lookup f = some v ∧
  tv σ H1 fun y H2 => rd v y H2 fun z H3 => ∃ dx' fs', H3 a = some (.ins C dx' fs') ∧ fs'.length < 1000 ∧ D.nx σ (upd H3 a (.ins C dx' (putF f z fs')))
theorem w_afld {rd : V → V → Hp → VK → Prop} (h : ta σ H fun x H1 => AFldK K f rd tv D σ x H1) : sFldAug K ta tv rd f D σ H := h
theorem w_rAdd {i j : Int} (h : Q (.int (i + j)) H) : rAdd (.int i) (.int j) H Q := ⟨i, j, rfl, rfl, h⟩
theorem w_rSub {i j : Int} (h : Q (.int (i - j)) H) : rSub (.int i) (.int j) H Q := ⟨i, j, rfl, rfl, h⟩
def MethK (C : Addr) (m : Str) (sp : Sp) (E : XK) (t : TA) (σ : L2.St) (x : V) (H1 : Hp) (Q : VK) : Prop := ∃ a dx fs, x = .ref a ∧ H1 a = some (.ins C dx fs) ∧ fs.lookup m = none ∧ t σ H1 fun vs H2 => sp (x :: vs) H2 Q E
theorem w_meth (h : ta σ H fun x H1 => MethK C m sp (E σ) t σ x H1 Q) : tMethQ C m sp E ta t σ H Q := h
theorem w_make (h : t σ H fun vs H1 => ∀ x dx, H1 x = none → H1 dx = none → dx ≠ x → sp (.ref x :: vs) (upd (upd H1 dx (.own x)) x (.ins C dx [])) (fun v H2 => v = .non ∧ Q (.ref x) H2) (E σ)) : tMakeQ C sp E t σ H Q := h
theorem w_rz {W : WX} {cls : Value} (h : W cls none σ H) : tRz W cls D σ H := h
theorem w_vei {ta : TA} (h : ta σ H fun vs H1 => ∃ (a C : Addr) (ws : List V), vs = .ref a :: ws ∧ ws.length ≤ 1000 ∧ OexC K C ∧ H1 a = some (exo a C none) ∧ Q .non H1) : tVeI K ta σ H Q := h
theorem w_ost {to te : TE} (h : te σ H fun y H1 => to σ H1 fun x H2 => ∃ a C : Addr, x = .ref a ∧ OexC K C ∧ PySem.W.findIn K (.ref C) f = some none ∧
  ((H2 a = some (exo a C none) ∧ ∀ dx, H2 dx = none → dx ≠ a → D.nx σ (upd (upd H2 dx (exd dx [(f, y)])) a (exo a C (some dx)))) ∨
    ∃ (dx : Addr) (fs : List (Str × V)), H2 a = some (exo a C (some dx)) ∧ H2 dx = some (exd dx fs) ∧ fs.length ≤ 900 ∧ D.nx σ (upd H2 dx (exd dx ((f, y) :: fs))))) : tOst K f to te D σ H := h
theorem w_max2 {i j : Int} (h : Q (.int (if j > i then j else i)) H) : rMax2 [.int i, .int j] H Q := ⟨i, j, rfl, h⟩
end
end Ps
namespace Ps
open PySem PySem.Spec PyProof.Rows L2
end Ps
namespace Ps
open PySem PySem.Spec PyProof.Rows L2
local macro_rules | `(tactic| walk_at "s1") => `(tactic| first
  | (with_reducible refine w_seq ?_) | (with_reducible refine w_asg ?_) | (with_reducible refine w_op ?_) | (with_reducible refine w_c ?_)
  | ((with_reducible refine' w_var ?hx ?_); (case hx => exact rfl))
  | (with_reducible refine w_gname ?_) | (with_reducible refine w_cons ?_) | (with_reducible refine w_nil ?_) | (with_reducible refine w_cb ?_) | (with_reducible refine w_call ?_)
  | (with_reducible refine w_ret ?_) | (with_reducible refine w_drop ?_) | (with_reducible refine w_ifs ?_) | (with_reducible refine w_test ?_) | (with_reducible refine w_next ?_)
  | (with_reducible refine w_addI ?_) | (with_reducible refine w_subI ?_) | (with_reducible refine w_negI ?_) | (with_reducible refine w_eqI ?_) | (with_reducible refine w_neI ?_) | (with_reducible refine w_ltI ?_) | (with_reducible refine w_leI ?_)
  | (with_reducible refine w_gtI ?_) | (with_reducible refine w_geI ?_) | (with_reducible refine w_isNn ?_) | (with_reducible refine w_isNi ?_) | (with_reducible refine w_isNs ?_) | (with_reducible refine w_isNr ?_) | (with_reducible refine w_ntNn ?_) | (with_reducible refine w_ntNi ?_) | (with_reducible refine w_ntNs ?_) | (with_reducible refine w_ntNr ?_) | (with_reducible refine w_isN ?_) | (with_reducible refine w_notN ?_) | (with_reducible refine w_ipaI ?_) | (with_reducible refine w_eqS ?_) | (with_reducible refine w_neS ?_)
  | (with_reducible refine w_blE ?_) | (with_reducible refine w_truB ?_) | (with_reducible refine w_intI ?_) | (with_reducible refine w_intB ?_)
  | (with_reducible refine w_bm ?_) | (with_reducible refine w_bm0 ?_) | (with_reducible refine w_lst ?_) | (with_reducible refine w_tup ?_) | (with_reducible refine w_un ?_) | (with_reducible refine w_sl ?_) | (with_reducible refine w_nopart ?_) | (with_reducible refine w_part ?_) | (with_reducible refine w_partI ?_)
  | (with_reducible refine w_gsub ?_) | (with_reducible refine w_gcons ?_) | (with_reducible refine w_gnil ?_) | (with_reducible refine w_and ?_) | (with_reducible refine w_or ?_) | (with_reducible refine w_not ?_) | (with_reducible refine w_tru ?_) | (with_reducible refine w_yes ?_)
  | (with_reducible refine w_andV ?_) | (with_reducible refine w_orV ?_) | (with_reducible refine w_notV ?_) | (with_reducible refine w_tif ?_) | (with_reducible refine w_callS ?_) | (with_reducible refine w_for ?_)
  | (with_reducible refine w_par ?_) | (with_reducible refine w_par2 ?_) | (with_reducible refine w_retN ?_) | (with_reducible refine w_brk ?_) | (with_reducible refine w_cont ?_)
  | ((with_reducible refine' w_aug ?hx ?_); (case hx => exact rfl)) | (with_reducible refine w_ipsI ?_)
  | (with_reducible refine w_is_int_dict ?_) | (with_reducible refine w_is_int_list ?_) | (with_reducible refine w_is_int_tuple ?_) | (with_reducible refine w_is_int_str ?_) | (with_reducible refine w_is_int_int ?_) | (with_reducible refine w_is_int_bool ?_) | (with_reducible refine w_is_bool_dict ?_) | (with_reducible refine w_is_bool_list ?_) | (with_reducible refine w_is_bool_tuple ?_) | (with_reducible refine w_is_bool_str ?_) | (with_reducible refine w_is_bool_int ?_) | (with_reducible refine w_is_bool_bool ?_) | (with_reducible refine w_is_str_dict ?_) | (with_reducible refine w_is_str_list ?_) | (with_reducible refine w_is_str_tuple ?_) | (with_reducible refine w_is_str_str ?_) | (with_reducible refine w_is_str_int ?_) | (with_reducible refine w_is_str_bool ?_)
  | (with_reducible refine w_ifT ?_) | (with_reducible refine w_ifF ?_) | (with_reducible refine w_ifNF ?_) | (with_reducible refine w_ifNT ?_)
  | (with_reducible refine w_tys ?_) | (with_reducible refine w_chain ?_) | (with_reducible refine w_ost ?_) | (with_reducible refine w_vei ?_) | (with_reducible refine w_rzO ?_) | (with_reducible refine w_fld ?_) | (with_reducible refine w_sfld ?_) | (with_reducible refine w_afld ?_) | (with_reducible refine w_meth ?_) | (with_reducible refine w_make ?_) | (with_reducible refine w_rz ?_) | (with_reducible refine w_rAdd ?_) | (with_reducible refine w_rSub ?_) | (with_reducible refine w_max2 ?_) | (with_reducible refine w_lc ?_) | (with_reducible refine w_zip ?_) | (with_reducible refine w_seqv ?_) | (with_reducible refine w_rng1 ?_) | (with_reducible refine w_rng2 ?_) | (with_reducible refine w_rng3 ?_) | (with_reducible refine w_enum ?_) | (with_reducible refine w_rev ?_))
local macro_rules | `(tactic| walk_at "go") => `(tactic| repeat (walk_at "s1"))
def t_begin (K : PySem.W.Frag) : TS :=
      (tSeq (tAsg (tCB (rListU K) (tCons (tSl (rSlU K) (tVar 0) tNoPart (tPart (tC (.int 63)))) tNil)) (gName 1))
      (tSeq (tIfS (tTest (tOp (rEqU K) (tVar 1) (tLst tNil)))
      (tAsg (tLst (tCons (tC (.int 7)) tNil)) (gName 1))
      tNext)
      (tRet (tDisp [((tC (.str ("cells" : Str))), (tVar 1)), ((tC (.str ("turn" : Str))), (tC (.int 0)))]))))
abbrev N_begin : List Str := [("_law_script" : Str), ("_law_cells" : Str)]
def t_take (K : PySem.W.Frag) : TS :=
      (tSeq (tAsg (tOp (rAddU K) (tOp (rIxU K) (tVar 0) (tC (.str ("turn" : Str)))) (tC (.int 1))) (gName 2))
      (tSeq (tAsg (tVar 2) (gSub (tVar 0) (tC (.str ("turn" : Str))) rSetU))
      (tSeq (tAsg (tOp (rModU) (tVar 2) (tCB (rLenU K) (tCons (tOp (rIxU K) (tVar 0) (tC (.str ("cells" : Str)))) tNil))) (gName 3))
      (tSeq (tAsg (tOp (rIxU K) (tOp (rIxU K) (tVar 0) (tC (.str ("cells" : Str)))) (tVar 3)) (gName 4))
      (tSeq (tIfS (tTest (tOp (rGeU) (tVar 4) (tOp (rPowU) (tC (.int 10)) (tC (.int 18)))))
      (tSeq (tAsg (tCB (rDivmod) (tCons (tVar 4) (tCons (tVar 1) tNil))) (gTup K 2 (gCons (gSub (tOp (rIxU K) (tVar 0) (tC (.str ("cells" : Str)))) (tVar 3) rSetU) (gCons (gName 5) gNil))))
      (tRet (tVar 5)))
      tNext)
      (tSeq (tAsg (tOp (rModU) (tOp (rMulU) (tOp (rAddU K) (tOp (rAddU K) (tOp (rModU) (tVar 4) (tC (.int 2147483629))) (tOp (rMulU) (tOp (rMulU) (tVar 2) (tVar 2)) (tC (.int 7919)))) (tC (.int 11))) (tC (.int 48271))) (tC (.int 2147483647))) (gName 6))
      (tSeq (tAsg (tOp (rModU) (tOp (rMulU) (tVar 6) (tVar 6)) (tC (.int 2147483587))) (gName 6))
      (tRet (tOp (rModU) (tOp (rDivU) (tOp (rModU) (tOp (rMulU) (tOp (rAddU K) (tVar 6) (tOp (rMulU) (tVar 2) (tC (.int 104729)))) (tC (.int 69621))) (tC (.int 2147483629))) (tC (.int 7))) (tVar 1))))))))))
abbrev N_take : List Str := [("_law_state" : Str), ("_law_many" : Str), ("_law_turn" : Str), ("_law_place" : Str), ("_law_cell" : Str), ("_law_digit" : Str), ("_law_mixed" : Str)]
def stD (c : Addr) (t : Int) : HO := .dK [(.inr "cells", .ref c), (.inr "turn", .int t)]
def LW (m : Nat) (a : Addr) (R : List (Addr × HO)) (G H : Hp) : Prop := ∃ (c : Addr) (t : Int) (ns : List Int), Wd ((a, stD c t) :: (c, .lst (ns.map V.int)) :: R) G H ∧ 0 < ns.length ∧ 0 ≤ t ∧ t + m ≤ 2 ^ 50
section
variable {m m' : Nat} {a p l : Addr} {R : List (Addr × HO)} {G G' H H' : Hp} {o o' : HO} {x : Addr × HO}
theorem LW.le (h : LW m a R G H) (l : m' ≤ m) : LW m' a R G H := by
  obtain ⟨c, t, ns, w, h1, h2, h3⟩ := h
  exact ⟨c, t, ns, w, h1, h2, by omega⟩
theorem LW.v (h : LW m a R G H) : Same G H := by
  obtain ⟨c, t, ns, w, _⟩ := h
  exact w.v
theorem LW.grow (h : LW m a R G H) (g : Grow H G H' G') : LW m a R G' H' := by
  obtain ⟨c, t, ns, w, r⟩ := h
  exact ⟨c, t, ns, w.grow g, r⟩
theorem LW.own (h : LW m a R G H) (s : Same H H') (hp : H p = none) (e : H' p = some o) : LW m a ((p, o) :: R) G H' := by
  obtain ⟨c, t, ns, w, r⟩ := h
  exact ⟨c, t, ns, w.own3 s hp e, r⟩
theorem LW.new (h : LW m a R G H) (hp : H p = none) : LW m a R (upd G p o) (upd H p o) := h.grow (Grow.new h.v hp)
theorem LW.put (h : LW m a ((l, o) :: R) G H) : LW m a ((l, o') :: R) G (upd H l o') := by
  obtain ⟨c, t, ns, w, r⟩ := h
  exact ⟨c, t, ns, w.put3, r⟩
theorem LW.hd (h : LW m a ((l, o) :: R) G H) : H l = some o := by
  obtain ⟨c, t, ns, w, r⟩ := h
  exact w.td
theorem LW.drop (h : LW m a (x :: R) G H) : LW m a R G H := by
  obtain ⟨c, t, ns, w, r⟩ := h
  exact ⟨c, t, ns, w.rot3.drop, r⟩
theorem LW.share (h : LW m a ((l, o) :: R) G H) : LW m a R (upd G l o) H := by
  obtain ⟨c, t, ns, w, r⟩ := h
  exact ⟨c, t, ns, w.rot3.share, r⟩
theorem LW.gsame (h : LW m a ((l, o) :: R) G H) (o' : HO) : Same G (upd G l o') := by
  obtain ⟨c, t, ns, w, r⟩ := h
  exact w.rot3.gsame o'
end
theorem ne_ct : ¬ (Str.ofString "cells" = Str.ofString "turn") := by decide +kernel
theorem st_turn {c : Addr} {t : Int} : valV [((.inr "cells" : Key), V.ref c), (.inr "turn", V.int t)] (.inr "turn") = some (.int t) := by
  simp [valV, ne_ct]
theorem st_cells {c : Addr} {t : Int} : valV [((.inr "cells" : Key), V.ref c), (.inr "turn", V.int t)] (.inr "cells") = some (.ref c) := by
  simp [valV]
theorem st_len {c : Addr} {t : Int} : [((.inr "cells" : Key), V.ref c), (.inr "turn", V.int t)].length < sizeLine := by
  show 2 < sizeLine
  decide
theorem st_put {c : Addr} {t u : Int} : HO.dK (putK [((.inr "cells" : Key), V.ref c), (.inr "turn", V.int t)] (.inr "turn") (.int u)) = stD c u := by
  simp [putK, stD, ne_ct]
theorem ixN_nat {n j : Nat} (hj : j < n) : ixN n (j : Int) = some j := by
  unfold ixN
  rw [if_pos (by omega), if_pos (by omega)]
  simp
def spTake : Sp := fun vs H Q _ => ∃ (m : Nat) (a : Addr) (n : Int) (R : List (Addr × HO)) (G : Hp), vs = [.ref a, .int n] ∧ LW (m + 1) a R G H ∧ 0 < n ∧ n < 2 ^ 62 ∧
  ∀ (v : Int) (H' : Hp), LW m a R G H' → 0 ≤ v → v < n → Q (.int v) H'
theorem pure_take {K : PySem.W.Frag} (vs : List V) (H : Hp) (Q : VK) (E : XK) (h : spTake vs H Q E) : t_take K { nx := fun _ H' => Q .non H', rt := Q } (start N_take vs) H := by
  obtain ⟨m, a, n, R, G, rfl, ⟨c, t, ns, w, hns, ht0, htm⟩, hn0, hn1, k⟩ := h
  unfold t_take
  walk_at "go"
  refine w_ixDs w.hd st_turn ?_
  walk_at "go"
  refine w_setDs w.hd st_len ?_
  rw [st_put]
  have w1 : Wd ((a, stD c (t + 1)) :: (c, .lst (ns.map V.int)) :: R) G (upd H a (stD c (t + 1))) := w.put
  revert w1
  generalize upd H a (stD c (t + 1)) = H1
  intro w1
  walk_at "go"
  refine w_ixDs w1.hd st_cells ?_
  walk_at "go"
  refine w_lenL (SqL.of w1.sd) ?_
  walk_at "go"
  refine w_modI (by rw [List.length_map]; omega) ?_
  rw [List.length_map]
  obtain ⟨j, hj, ej⟩ : ∃ j : Nat, j < ns.length ∧ (t + 1) % (ns.length : Int) = (j : Int) := ⟨((t + 1) % (ns.length : Int)).toNat, by
    have h1 := Int.emod_nonneg (t + 1) (show (ns.length : Int) ≠ 0 by omega)
    have h2 := Int.emod_lt_of_pos (t + 1) (show (0 : Int) < ns.length by omega)
    omega, by
    have h1 := Int.emod_nonneg (t + 1) (show (ns.length : Int) ≠ 0 by omega)
    omega⟩
  rw [ej]
  walk_at "go"
  refine w_ixDs w1.hd st_cells ?_
  walk_at "go"
  refine w_ixL (v := V.int ns[j]) (SqL.of w1.sd) (atI_nat (by simp [hj])) ?_
  walk_at "go"
  refine w_powI ⟨by decide, by decide, by decide⟩ ?_
  walk_at "go"
  refine w_ifd (fun hc => ?_) (fun hc => ?_)
  · walk_at "go"
    refine w_divmod (wide_div (b := 62) hn0 (by omega) (by decide) (by decide)) fun p hp => ?_
    have w2 := w1.new (o := .tup [.int (ns[j] / n), .int (ns[j] % n)]) hp
    walk_at "go"
    refine w_gtup (SqT.of upd_same) rfl ?_
    walk_at "go"
    refine w_ixDs w2.hd st_cells ?_
    walk_at "go"
    refine w_setL (k := j) w2.sd (by rw [List.length_map]; exact ixN_nat hj) ?_
    have w3 := w2.put2 (o' := .lst ((ns.map V.int).set j (.int (ns[j] / n))))
    walk_at "go"
    have el : (ns.map V.int).set j (.int (ns[j] / n)) = (ns.set j (ns[j] / n)).map V.int := by rw [List.map_set]
    rw [el] at w3 ⊢
    refine k _ _ ?_ (Int.emod_nonneg _ (by omega)) (Int.emod_lt_of_pos _ hn0)
    obtain ⟨v3, o3, n3⟩ := w3
    exact ⟨c, t + 1, ns.set j (ns[j] / n), ⟨(same_new (w1.v.free hp)).trans v3, fun y hy => ⟨(o3 y hy).1, (same_new (w1.v.free hp)).free (o3 y hy).2⟩, n3⟩, by rw [List.length_set]; exact hns, by omega, by omega⟩
  · have ht : -(2 ^ 64) < t + 1 ∧ t + 1 < 2 ^ 64 := by omega
    walk_at "go"
    refine w_modF (by decide) fun z1 h1 h2 => ?_
    walk_at "go"
    refine w_mulI (.inl ht) ?_
    walk_at "go"
    refine w_mulI (.inr ⟨by decide, by decide⟩) ?_
    walk_at "go"
    refine w_mulI (.inr ⟨by decide, by decide⟩) ?_
    walk_at "go"
    refine w_modF (by decide) fun z2 h3 h4 => ?_
    walk_at "go"
    refine w_mulI (.inl ⟨by omega, by omega⟩) ?_
    walk_at "go"
    refine w_modF (by decide) fun z3 h5 h6 => ?_
    walk_at "go"
    refine w_mulI (.inr ⟨by decide, by decide⟩) ?_
    walk_at "go"
    refine w_mulI (.inr ⟨by decide, by decide⟩) ?_
    walk_at "go"
    refine w_modF (by decide) fun z4 h7 h8 => ?_
    walk_at "go"
    refine w_divI ⟨by decide, by decide⟩ ?_
    walk_at "go"
    refine w_modF hn0 fun z5 h9 h10 => ?_
    exact k _ _ ⟨c, t + 1, ns, w1, hns, by omega, by omega⟩ h9 h10
end Ps
namespace Ps
open PySem PySem.Spec PyProof.Rows L2
local macro_rules | `(tactic| walk_at "s1") => `(tactic| first
  | (with_reducible refine w_seq ?_) | (with_reducible refine w_asg ?_) | (with_reducible refine w_op ?_) | (with_reducible refine w_c ?_)
  | ((with_reducible refine' w_var ?hx ?_); (case hx => exact rfl))
  | (with_reducible refine w_gname ?_) | (with_reducible refine w_cons ?_) | (with_reducible refine w_nil ?_) | (with_reducible refine w_cb ?_) | (with_reducible refine w_call ?_)
  | (with_reducible refine w_ret ?_) | (with_reducible refine w_drop ?_) | (with_reducible refine w_ifs ?_) | (with_reducible refine w_test ?_) | (with_reducible refine w_next ?_)
  | (with_reducible refine w_addI ?_) | (with_reducible refine w_subI ?_) | (with_reducible refine w_negI ?_) | (with_reducible refine w_eqI ?_) | (with_reducible refine w_neI ?_) | (with_reducible refine w_ltI ?_) | (with_reducible refine w_leI ?_)
  | (with_reducible refine w_gtI ?_) | (with_reducible refine w_geI ?_) | (with_reducible refine w_isNn ?_) | (with_reducible refine w_isNi ?_) | (with_reducible refine w_isNs ?_) | (with_reducible refine w_isNr ?_) | (with_reducible refine w_ntNn ?_) | (with_reducible refine w_ntNi ?_) | (with_reducible refine w_ntNs ?_) | (with_reducible refine w_ntNr ?_) | (with_reducible refine w_isN ?_) | (with_reducible refine w_notN ?_) | (with_reducible refine w_ipaI ?_) | (with_reducible refine w_eqS ?_) | (with_reducible refine w_neS ?_)
  | (with_reducible refine w_blE ?_) | (with_reducible refine w_truB ?_) | (with_reducible refine w_intI ?_) | (with_reducible refine w_intB ?_)
  | (with_reducible refine w_bm ?_) | (with_reducible refine w_bm0 ?_) | (with_reducible refine w_lst ?_) | (with_reducible refine w_tup ?_) | (with_reducible refine w_un ?_) | (with_reducible refine w_sl ?_) | (with_reducible refine w_nopart ?_) | (with_reducible refine w_part ?_) | (with_reducible refine w_partI ?_)
  | (with_reducible refine w_gsub ?_) | (with_reducible refine w_gcons ?_) | (with_reducible refine w_gnil ?_) | (with_reducible refine w_and ?_) | (with_reducible refine w_or ?_) | (with_reducible refine w_not ?_) | (with_reducible refine w_tru ?_) | (with_reducible refine w_yes ?_)
  | (with_reducible refine w_andV ?_) | (with_reducible refine w_orV ?_) | (with_reducible refine w_notV ?_) | (with_reducible refine w_tif ?_) | (with_reducible refine w_callS ?_) | (with_reducible refine w_for ?_)
  | (with_reducible refine w_par ?_) | (with_reducible refine w_par2 ?_) | (with_reducible refine w_retN ?_) | (with_reducible refine w_brk ?_) | (with_reducible refine w_cont ?_)
  | ((with_reducible refine' w_aug ?hx ?_); (case hx => exact rfl)) | (with_reducible refine w_ipsI ?_)
  | (with_reducible refine w_is_int_dict ?_) | (with_reducible refine w_is_int_list ?_) | (with_reducible refine w_is_int_tuple ?_) | (with_reducible refine w_is_int_str ?_) | (with_reducible refine w_is_int_int ?_) | (with_reducible refine w_is_int_bool ?_) | (with_reducible refine w_is_bool_dict ?_) | (with_reducible refine w_is_bool_list ?_) | (with_reducible refine w_is_bool_tuple ?_) | (with_reducible refine w_is_bool_str ?_) | (with_reducible refine w_is_bool_int ?_) | (with_reducible refine w_is_bool_bool ?_) | (with_reducible refine w_is_str_dict ?_) | (with_reducible refine w_is_str_list ?_) | (with_reducible refine w_is_str_tuple ?_) | (with_reducible refine w_is_str_str ?_) | (with_reducible refine w_is_str_int ?_) | (with_reducible refine w_is_str_bool ?_)
  | (with_reducible refine w_ifT ?_) | (with_reducible refine w_ifF ?_) | (with_reducible refine w_ifNF ?_) | (with_reducible refine w_ifNT ?_)
  | (with_reducible refine w_tys ?_) | (with_reducible refine w_chain ?_) | (with_reducible refine w_ost ?_) | (with_reducible refine w_vei ?_) | (with_reducible refine w_rzO ?_) | (with_reducible refine w_fld ?_) | (with_reducible refine w_sfld ?_) | (with_reducible refine w_afld ?_) | (with_reducible refine w_meth ?_) | (with_reducible refine w_make ?_) | (with_reducible refine w_rz ?_) | (with_reducible refine w_rAdd ?_) | (with_reducible refine w_rSub ?_) | (with_reducible refine w_max2 ?_) | (with_reducible refine w_lc ?_) | (with_reducible refine w_zip ?_) | (with_reducible refine w_seqv ?_) | (with_reducible refine w_rng1 ?_) | (with_reducible refine w_rng2 ?_) | (with_reducible refine w_rng3 ?_) | (with_reducible refine w_enum ?_) | (with_reducible refine w_rev ?_))
local macro_rules | `(tactic| walk_at "go") => `(tactic| repeat (walk_at "s1"))
theorem canLayAll_ints : ∀ ns : List Int, PyData.canLayAll0 (ns.map PyData.int) = true
  | [] => rfl
  | n :: r => by
    rw [List.map_cons, PyData.canLayAll0, canLayAll_ints r]
    rfl
theorem depthAll_ints : ∀ ns : List Int, PyData.depthAll (ns.map PyData.int) = 0
  | [] => rfl
  | n :: r => by
    rw [List.map_cons, PyData.depthAll, depthAll_ints r]
    rfl
theorem shaped_dI (ns : List Int) : SeqAt.shaped (dI ns) = true := by
  unfold SeqAt.shaped dI
  rw [PyData.canLay0, PyData.depth, canLayAll_ints, depthAll_ints]
  rfl
theorem eqvAll_ints : ∀ ns ms : List Int, PyData.eqvAll (ns.map PyData.int) (ms.map PyData.int) = decide (ns = ms)
  | [], [] => by simp [PyData.eqvAll]
  | [], _ :: _ => by simp [PyData.eqvAll]
  | _ :: _, [] => by simp [PyData.eqvAll]
  | n :: r, m :: q => by
    rw [List.map_cons, List.map_cons, PyData.eqvAll, eqvAll_ints r q, PyData.eqv]
    by_cases h : n = m
    · subst h; simp
    · simp [h]
theorem eqv_dI (ns ms : List Int) : PyData.eqv (dI ns) (dI ms) = decide (ns = ms) := by
  unfold dI
  rw [PyData.eqv]
  exact eqvAll_ints ns ms
section
variable {H : Hp} {Q : VK} {K : PySem.W.Frag} {σ : L2.St} {a : Addr}
theorem w_eqLI {b : Addr} {ns ms : List Int} (ha : H a = some (.lst (ns.map V.int))) (hb : H b = some (.lst (ms.map V.int))) (h : Q (.bl (decide (ns = ms))) H) : rEqU K (.ref a) (.ref b) H Q :=
  w_eqD (dp_ints ha) (dp_ints hb) (shaped_dI _) (shaped_dI _) (by rw [eqv_dI]; exact h)
theorem w_disp {trs : List (TE × TE)} (h : ∀ p, H p = none → tPairs trs σ (upd H p (.dK [])) fun ps H2 => H2 p = some (.dK []) ∧ ∃ kvs : List (Key × V), ps = kvs.map (fun kv => (kV kv.1, kv.2)) ∧ kvs.length ≤ 15 ∧ Q (.ref p) (upd H2 p (.dK (mergeK [] kvs)))) : tDisp trs σ H Q := h
theorem w_pcons {tk tv : TE} {r : List (TE × TE)} {P : List (V × V) → Hp → Prop} (h : tk σ H fun x H1 => tv σ H1 fun y H2 => tPairs r σ H2 fun ps H3 => P ((x, y) :: ps) H3) : tPairs ((tk, tv) :: r) σ H P := h
theorem w_pnil {P : List (V × V) → Hp → Prop} (h : P [] H) : tPairs [] σ H P := h
theorem cutV_to (xs : List V) (n : Nat) : cutV xs none (some (n : Int)) = xs.take n := by
  unfold cutV
  rw [HT.sIx_none, HT.sIx_nat, List.drop_zero, Nat.sub_zero]
  by_cases h : n ≤ xs.length
  · rw [Nat.min_eq_left h]
  · rw [Nat.min_eq_right (by omega), List.take_of_length_le (Nat.le_refl _), List.take_of_length_le (by omega)]
end
def spBegin (K : PySem.W.Frag) : Sp := fun vs H Q _ => ∃ (s : Addr) (ns : List Int), vs = [.ref s] ∧ SqL K H s (ns.map V.int) ∧ ns.length ≤ 63 ∧ ∀ a H', LW (2 ^ 50) a [] H H' → Q (.ref a) H'
theorem pure_begin {K : PySem.W.Frag} (vs : List V) (H : Hp) (Q : VK) (E : XK) (h : spBegin K vs H Q E) : t_begin K { nx := fun _ H' => Q .non H', rt := Q } (start N_begin vs) H := by
  obtain ⟨s, ns, rfl, hs, hl, k⟩ := h
  unfold t_begin
  walk_at "go"
  refine w_slL hs fun p hp => ?_
  have e1 : cutV (ns.map V.int) none (some 63) = ns.map V.int := by
    have q := cutV_to (ns.map V.int) 63
    rw [List.take_of_length_le (by rw [List.length_map]; exact hl)] at q
    exact q
  rw [e1]
  have s1 : Same H (upd H p (.lst (ns.map V.int))) := same_new hp
  walk_at "go"
  refine w_listL (SqL.of upd_same) fun c hc => ?_
  have s2 := s1.trans (same_new (o := .lst (ns.map V.int)) hc)
  have c2 : upd (upd H p (.lst (ns.map V.int))) c (.lst (ns.map V.int)) c = some (.lst (ns.map V.int)) := upd_same
  have hc0 : H c = none := s1.free hc
  revert c2 s2
  generalize upd (upd H p (.lst (ns.map V.int))) c (.lst (ns.map V.int)) = H2
  intro s2 c2
  walk_at "go"
  refine ⟨Nat.zero_le _, fun q hq => ?_⟩
  have s3 := s2.trans (same_new (o := .lst []) hq)
  have c3 := same_new (o := .lst []) hq _ _ c2
  refine w_eqLI (ns := ns) (ms := []) c3 upd_same ?_
  walk_at "go"
  have fin : ∀ (H3 : Hp) (c' : Addr) (ms : List Int), Same H H3 → H c' = none → H3 c' = some (.lst (ms.map V.int)) → 0 < ms.length → ∀ p, H3 p = none → Q (.ref p) (upd (upd H3 p (.dK [])) p (.dK (mergeK [] [(.inr "cells", .ref c'), (.inr "turn", .int 0)]))) := by
    intro H3 c' ms s3 h1 h2 h3 p hp
    have e : HO.dK (mergeK [] [(.inr "cells", .ref c'), (.inr "turn", .int 0)]) = stD c' 0 := by
      show HO.dK (putK (putK [] (.inr "cells") (.ref c')) (.inr "turn") (.int 0)) = stD c' 0
      simp [putK, stD, ne_ct]
    rw [e, upd_upd]
    have w := ((Wd.nil (Same.refl H)).own' s3 h1 h2).own (p := p) (o := stD c' 0) hp
    exact k p _ ⟨c', 0, ms, w, h3, by decide, by decide⟩
  refine w_ifd (fun he => ?_) (fun he => ?_)
  · walk_at "go"
    refine ⟨by decide, fun r hr => ?_⟩
    walk_at "go"
    refine w_disp fun p hp => ?_
    refine w_pcons ?_
    walk_at "go"
    refine w_pcons ?_
    walk_at "go"
    refine w_pnil ?_
    exact ⟨upd_same, [(.inr "cells", .ref r), (.inr "turn", .int 0)], rfl, by show 2 ≤ 15; decide, fin _ r [7] (s3.trans (same_new hr)) (s3.free hr) upd_same (by decide) p hp⟩
  · walk_at "go"
    refine w_disp fun p hp => ?_
    refine w_pcons ?_
    walk_at "go"
    refine w_pcons ?_
    walk_at "go"
    refine w_pnil ?_
    refine ⟨upd_same, [(.inr "cells", .ref c), (.inr "turn", .int 0)], rfl, by show 2 ≤ 15; decide, fin _ c ns s3 hc0 c3 ?_ p hp⟩
    cases ns with
    | nil => exact absurd rfl he
    | cons _ _ => exact Nat.succ_pos _
end Ps
namespace Ps
open PySem PySem.Spec PyProof.Rows L2
def Sq (K : PySem.W.Frag) (H : Hp) (a : Addr) (xs : List V) : Prop := SqL K H a xs ∨ SqT K H a xs
section
variable {K : PySem.W.Frag} {H H' Hi H4 : Hp} {a b D p : Addr} {xs ys vs : List V} {R : It → Hp → Prop} {v y : V} {i n : Nat}
theorem Sq.l (h : H a = some (.lst xs)) : Sq K H a xs := .inl (SqL.of h)
theorem Sq.t (h : H a = some (.tup xs)) : Sq K H a xs := .inr (SqT.of h)
theorem take_snoc {α : Type} : ∀ {l : List α} {i : Nat} {x : α}, l[i]? = some x → l.take (i + 1) = l.take i ++ [x] := fun {l i x} h => by
  rw [List.take_add_one, h]
  rfl
end
section
variable {m : Nat} {a l : Addr} {R : List (Addr × HO)} {G H : Hp} {o : HO} {n : Int} {Q : VK} {E : XK} {K : PySem.W.Frag}
theorem LW.at (h : LW m a R G H) (q : (l, o) ∈ R) : H l = some o := by
  obtain ⟨c, t, ns, w, r⟩ := h
  exact w.mem (List.mem_cons_of_mem _ (List.mem_cons_of_mem _ q))
theorem LW.sd {x : Addr × HO} (h : LW m a (x :: (l, o) :: R) G H) : H l = some o := h.at (List.mem_cons_of_mem _ List.mem_cons_self)
theorem LW.td {x y : Addr × HO} (h : LW m a (x :: y :: (l, o) :: R) G H) : H l = some o := h.at (List.mem_cons_of_mem _ (List.mem_cons_of_mem _ List.mem_cons_self))
theorem LW.perm {R' : List (Addr × HO)} (h : LW m a R G H) (p : R'.Perm R) : LW m a R' G H := by
  obtain ⟨c, t, ns, w, r⟩ := h
  exact ⟨c, t, ns, w.perm ((p.cons _).cons _), r⟩
end
def spLaw (K : PySem.W.Frag) : Sp := fun vs H Q _ => ∃ (a : Addr) (ns : List Int), vs = [.ref a] ∧ SqL K H a (ns.map V.int) ∧ ns.length ≤ 63 ∧ ∀ H', Q (.bl true) H'
end Ps
namespace Ps
open PySem PySem.Spec PyProof.Rows L2
section
variable {K : PySem.W.Frag} {H H' H1 Hi H4 : Hp} {a b D p : Addr} {xs ys vs : List V} {R : It → Hp → Prop} {v y : V} {i n m : Nat}
end
theorem sIx_none (n d : Nat) : HT.sIx n d none = d := rfl
theorem sIx_nat {n d j : Nat} : HT.sIx n d (some (j : Int)) = min j n := by
  unfold HT.sIx
  simp
  intro h
  omega
def RngCK (R : It → Hp → Prop) (vs : List V) (H1 : Hp) : Prop := ∃ (i j c : Int) (n : Nat), vs = [.int i, .int j, .int c] ∧ RgC i j c n ∧ R (Itc i c n) H1
theorem w_rng3 {ta : TA} {σ : L2.St} {H : Hp} {R : It → Hp → Prop} (h : ta σ H fun vs H1 => RngCK R vs H1) : iRng3 ta σ H R := h
theorem split_at {α : Type} {l : List α} {i : Nat} {x : α} (h : l[i]? = some x) : ∃ A B, l = A ++ x :: B ∧ A.length = i := by
  obtain ⟨h1, h2⟩ := List.getElem?_eq_some_iff.mp h
  refine ⟨l.take i, l.drop (i + 1), ?_, by rw [List.length_take]; omega⟩
  rw [← h2, List.getElem_cons_drop, List.take_append_drop]
theorem set_mid {α : Type} (A B : List α) (x y : α) : (A ++ x :: B).set A.length y = A ++ y :: B := by
  rw [List.set_append_right _ _ (Nat.le_refl _), Nat.sub_self, List.set_cons_zero]
section
variable {m : Nat} {a l p : Addr} {R : List (Addr × HO)} {G H : Hp} {o o' : HO} {i : Nat}
theorem LW.set (h : LW m a R G H) (e : R[i]? = some (l, o)) : LW m a (R.set i (l, o')) G (upd H l o') := by
  obtain ⟨A, B, rfl, rfl⟩ := split_at e
  rw [set_mid]
  have h1 := h.perm (R' := (l, o) :: (A ++ B)) List.perm_middle.symm
  exact (h1.put (o' := o')).perm List.perm_middle
theorem LW.get (h : LW m a R G H) (e : R[i]? = some (l, o)) : H l = some o := h.at (List.mem_of_getElem? e)
end
end Ps
namespace Ps
open PySem PySem.Spec PyProof.Rows L2
section
variable {K : PySem.W.Frag} {H H' : Hp} {a : Addr} {xs : List V} {R : It → Hp → Prop}
theorem sql_at (e : H' a = H a) (h : SqL K H a xs) : SqL K H' a xs := h.imp (fun h => by unfold L2.Rd at h ⊢; rw [e]; exact h) id
theorem sqt_at (e : H' a = H a) (h : SqT K H a xs) : SqT K H' a xs := h.imp (fun h => by unfold L2.Rd at h ⊢; rw [e]; exact h) id
theorem Sq.at (h : Sq K H a xs) (e : H' a = H a) : Sq K H' a xs := h.imp (sql_at e) (sqt_at e)
end
theorem w_chain {r r' : R2} {ta tb tc : TE} {σ : L2.St} {H : Hp} {Q : VK} (h : ta σ H fun x H1 => tb σ H1 fun y H2 => r x y H2 fun z H3 => ∃ k, z = .bl k ∧ (if k = true then tc σ H3 fun w' H4 => r' y w' H4 Q else Q (.bl false) H3)) : tChain r r' ta tb tc σ H Q := h
end Ps
namespace Ps
open PySem PySem.Spec PyProof.Rows L2
def repS (z : Str) (k : Nat) : Str := ⟨(List.replicate k z.cps).foldl (· ++ ·) #[]⟩
def rSMul : R2 := fun x y H Q => ∃ (z : Str) (k : Nat), x = .str z ∧ y = .int (k : Int) ∧ 2 ≤ k ∧ z.length ≠ 0 ∧ z.length * k ≤ 16777216 ∧ Q (.str (repS z k)) H
theorem op_smul {X : Cx} : OpR X (binaryOp .Mult) rSMul := by
  intro pins s σ H x y v u Q I rx ry h
  obtain ⟨z, k, rfl, rfl, hk, h0, hz, q⟩ := h
  obtain ⟨t, rfl⟩ := rx
  obtain ⟨t', rfl⟩ := ry
  have hk2 : k ≤ 16777216 := Nat.le_trans (Nat.le_mul_of_pos_left k (by omega)) hz
  have hl : Builtin.Str.tooLong (z.length * k) = false := by
    unfold Builtin.Str.tooLong
    exact decide_eq_false (by rw [sizeLine_eq]; omega)
  refine PySem.P.mul_str (by rw [decide_eq_false (by omega), decide_eq_false (by omega)]; rfl) (fun _ _ => ?_) (fun _ _ => by rw [Int.toNat_natCast]; exact hl) ?_
  · have : (z.length : Int) * k ≤ 16777216 := by
      have h2 : ((z.length * k : Nat) : Int) ≤ 16777216 := by omega
      rw [Int.natCast_mul] at h2
      exact h2
    have := Int.le_ediv_of_mul_le (c := (k : Int)) (a := (z.length : Int)) (b := 2 ^ 63 - 1) (by omega) (by omega)
    omega
  · rw [if_neg (by omega), if_neg (by
      have e1 : ((k : Int) == 1) = false := beq_false_of_ne (by omega)
      have e2 : (z.length == 0) = false := beq_false_of_ne h0
      rw [e1, e2]
      exact Bool.false_ne_true), Int.toNat_natCast]
    exact ⟨PySem.fits_reps hl, ⟨.str (repS z k), H, I.tok _, ⟨_, rfl⟩, q⟩⟩
def rMulT : R2 := fun x y H Q => rMulU x y H Q ∨ rSMul x y H Q
theorem op_mulT {X : Cx} : OpR X (binaryOp .Mult) rMulT := opr_or op_mulU op_smul
def rJoinS (K : PySem.W.Frag) : V → List V → Hp → VK → Prop := fun x xs H Q => ∃ a p, ∃ ys : List Str, x = .str a ∧ xs = [.ref p] ∧ (SqL K H p (ys.map V.str) ∨ SqT K H p (ys.map V.str)) ∧
  (ys.map (·.length)).sum + ys.length * a.length ≤ 16777216 ∧ Q (.str (Txt.join a ys)) H
theorem mt_joinS {X : Cx} : MtR X "str.join" (rJoinS X.K) := mt_join
theorem join_one (cs : List Nat) : Txt.join Str.empty (cs.map fun c => (⟨#[c]⟩ : Str)) = ⟨cs.toArray⟩ := by
  show Builtin.Str.glued Str.empty _ = _
  cases cs with
  | nil => rfl
  | cons c r =>
    have e := PySem.StrLaws.glued_list Str.empty ⟨#[c]⟩ (r.map fun c => (⟨#[c]⟩ : Str))
    have g : ∀ l : List Nat, PySem.StrLaws.glueL [] (l.map fun c => (⟨#[c]⟩ : Str)) = l := fun l => by
      induction l with
      | nil => rfl
      | cons x l ih =>
        show [] ++ ([x] ++ PySem.StrLaws.glueL [] (l.map fun c => (⟨#[c]⟩ : Str))) = _
        rw [ih]; rfl
    have e2 : (Builtin.Str.glued Str.empty ((c :: r).map fun c => (⟨#[c]⟩ : Str))).cps.toList = c :: r := by
      rw [List.map_cons, e]
      show [c] ++ PySem.StrLaws.glueL [] (r.map fun c => (⟨#[c]⟩ : Str)) = _
      rw [g]; rfl
    generalize Builtin.Str.glued Str.empty ((c :: r).map fun c => (⟨#[c]⟩ : Str)) = z at *
    obtain ⟨arr⟩ := z
    congr 1
    rw [← e2]
section
variable {K : PySem.W.Frag} {H : Hp} {Q : VK} {p : Addr}
theorem w_tys {z : Str} {P : Prop} (h : P) : tyV K "str" (.str z) H ∧ P := ⟨rfl, h⟩
end
end Ps
namespace Ps
open PySem PySem.Spec PyProof.Rows L2
section
variable {prog : Program} {w : World} {A : Around} {E : Value → Shared → Prop} {s : Shared}
end
end Ps
namespace Ps
open PySem PySem.Spec PyProof.Rows L2
inductive D where
  | non
  | bl (b : Bool)
  | int (i : Int)
  | str (s : Str)
  | adr (a : Addr)
  | ty (n : String)
  | scr (ns : List Int)
  | lst (ds : List D)
  | tup (ds : List D)
  | dic (kvs : List (Key × D))
  | obj (C : Addr) (fs : List (Str × D))
  | exc (C : Addr) (fs : List (Str × D))
  | dcl (w : World) (kvs : List (Leaf × D))
  | dct (w : World) (kvs : List (List Leaf × D))
  | lck (u : Obj × List (Key × V)) (kvs : List (Key × D))
  | lct (w : World) (u : Obj × List ((List Leaf × Addr) × V)) (kvs : List (List Leaf × D))
def TupAt (K : PySem.W.Frag) (G : Hp) (a : Addr) (vs : List V) : Prop := G a = some (.tup vs) ∨
  ∃ (o : Obj) (its : Array Value) (n : Nat), K.lookup a = some o ∧ o.cls = .type "tuple" ∧ o.data = .seq its n ∧ its.size ≤ sizeLine ∧ Vals vs its.toList
theorem TupAt.sq {K : PySem.W.Frag} {G : Hp} {a : Addr} {vs : List V} (h : TupAt K G a vs) : SqT K G a vs := h.elim (fun h => SqT.of h) fun h => .inr h
theorem TupAt.mono {K : PySem.W.Frag} {G G' : Hp} {a : Addr} {vs : List V} (s : Same G G') (h : TupAt K G a vs) : TupAt K G' a vs := h.elim (fun h => .inl (s _ _ h)) fun h => .inr h
def lfV : Leaf → V
  | .none => .non
  | .num i => .int i
  | .text x => .str x
def noBl : Value → Bool
  | .bool _ => false
  | _ => true
def cellIs (k : Leaf) (v : Value) : Bool := Leaf.isOf k v && noBl v
theorem cellIs_leaf {k : Leaf} {v : Value} (h : cellIs k v = true) : Leaf.isOf k v = true := (Bool.and_eq_true _ _ ▸ h).1
def cellKind (prog : Program) (w : World) : KeyKind prog w Leaf where
  is := cellIs
  hash := (leafKind prog w).hash
  inj := fun v a b ha hb => (leafKind prog w).inj v a b (cellIs_leaf ha) (cellIs_leaf hb)
  byValue := fun k v h => (leafKind prog w).byValue k v (cellIs_leaf h)
  pyHash := fun hv h => (leafKind prog w).pyHash (cellIs_leaf hv) h
  eqBool := fun hu hv h => (leafKind prog w).eqBool (cellIs_leaf hu) (cellIs_leaf hv) h
  «strs» := fun k x t v h => by
    have e := (leafKind prog w).strs k x t v (cellIs_leaf h)
    have e2 : (leafKind prog w).is k v = Leaf.isOf k v := rfl
    unfold cellIs
    rw [← e2, e]
    cases v <;> first | rfl | simp [noBl] | skip
def DictL (w : World) (a : Addr) (kvs : List (Leaf × V)) (h : Heap) : Prop := kvs.length ≤ sizeLine ∧ (a == sysModules) = false ∧ ∃ (P : Program) (vs : List (Leaf × Value)), KV kvs vs ∧ h.DictOf (cellKind P w) a vs
def DL (w : World) (a : Addr) (kvs : List (Leaf × V)) : HO := .ext (DictL w a kvs)
def DictT (w : World) (a : Addr) (kvs : List ((List Leaf × Addr) × V)) (h : Heap) : Prop := kvs.length ≤ sizeLine ∧ (a == sysModules) = false ∧ ∃ (P : Program) (xs : List (List Leaf × Addr × Value)),
  Paired (fun (p : (List Leaf × Addr) × V) (q : List Leaf × Addr × Value) => p.1.1 = q.1 ∧ p.1.2 = q.2.1 ∧ RelV p.2 q.2.2) kvs xs ∧
  ∃ o es ep, h.get? a = some o ∧ o.ExactDict ∧ o.data = .dict es ep ∧ es.toList = xs.map (entryOfKey (tupleKind (cellKind P w))) ∧ (xs.map (·.1)).Nodup
def DT (w : World) (a : Addr) (kvs : List ((List Leaf × Addr) × V)) : HO := .ext (DictT w a kvs)
mutual
inductive Dd (K : PySem.W.Frag) (G : Hp) : V → D → Prop
  | non : Dd K G .non .non
  | bl (b : Bool) : Dd K G (.bl b) (.bl b)
  | int (i : Int) : Dd K G (.int i) (.int i)
  | str (x : Str) : Dd K G (.str x) (.str x)
  | adr (a : Addr) : Dd K G (.ref a) (.adr a)
  | ty (n : String) : Dd K G (.ty n) (.ty n)
  | scr {a : Addr} {ns : List Int} : SqL K G a (ns.map V.int) → Dd K G (.ref a) (.scr ns)
  | lst {a : Addr} {vs : List V} {ds : List D} : G a = some (.lst vs) → DdAll K G vs ds → Dd K G (.ref a) (.lst ds)
  | tup {a : Addr} {vs : List V} {ds : List D} : TupAt K G a vs → DdAll K G vs ds → Dd K G (.ref a) (.tup ds)
  | dic {a : Addr} {kvs : List (Key × V)} {kds : List (Key × D)} {ks : List Key} {vs : List V} {ds : List D} : Rd G a (.dK kvs) → kvs.map Prod.fst = ks → kds.map Prod.fst = ks → kvs.map Prod.snd = vs → kds.map Prod.snd = ds → DdAll K G vs ds → Dd K G (.ref a) (.dic kds)
  | obj {a C dx : Addr} {fs : List (Str × V)} {gs : List (Str × D)} {ks : List Str} {vs : List V} {ds : List D} : G a = some (.ins C dx fs) → G dx = some (.own a) → fs.map Prod.fst = ks → gs.map Prod.fst = ks → fs.map Prod.snd = vs → gs.map Prod.snd = ds → DdAll K G vs ds → Dd K G (.ref a) (.obj C gs)
  | exc0 {a C : Addr} : G a = some (exv a C none) → Dd K G (.ref a) (.exc C [])
  | exc1 {a C b : Addr} {fs : List (Str × V)} {gs : List (Str × D)} {ks : List Str} {vs : List V} {ds : List D} : G a = some (exv a C (some b)) → G b = some (.xd fs) → fs.map Prod.fst = ks → gs.map Prod.fst = ks → fs.map Prod.snd = vs → gs.map Prod.snd = ds → DdAll K G vs ds → Dd K G (.ref a) (.exc C gs)
  | dcl {a : Addr} {w : World} {kvs : List (Leaf × V)} {kds : List (Leaf × D)} {ks : List Leaf} {vs : List V} {ds : List D} : G a = some (DL w a kvs) → kvs.map Prod.fst = ks → kds.map Prod.fst = ks → kvs.map Prod.snd = vs → kds.map Prod.snd = ds → DdAll K G vs ds → Dd K G (.ref a) (.dcl w kds)
  | dct {a : Addr} {w : World} {kvs : List ((List Leaf × Addr) × V)} {kds : List (List Leaf × D)} {ks : List (List Leaf)} {vs : List V} {ds : List D} : Rd G a (DT w a kvs) → (kvs.map fun p => p.1.1) = ks → (∀ p ∈ kvs, TupAt K G p.1.2 (p.1.1.map lfV)) → kds.map Prod.fst = ks → kvs.map Prod.snd = vs → kds.map Prod.snd = ds → DdAll K G vs ds → Dd K G (.ref a) (.dct w kds)
inductive DdAll (K : PySem.W.Frag) (G : Hp) : List V → List D → Prop
  | nil : DdAll K G [] []
  | cons {v : V} {vs : List V} {d : D} {ds : List D} : Dd K G v d → DdAll K G vs ds → DdAll K G (v :: vs) (d :: ds)
end
theorem same_rd {G H : Hp} {a : Addr} {o : HO} (s : Same G H) (h : Rd G a o) : Rd H a o := h.elim (fun h => .inl (s _ _ h)) fun ⟨u, h⟩ => .inr ⟨u, s _ _ h⟩
section
variable {K : PySem.W.Frag} {G G' H H' : Hp}
mutual
theorem Dd.mono (s : Same G G') : ∀ {v : V} {d : D}, Dd K G v d → Dd K G' v d
  | _, _, .non => .non
  | _, _, .bl b => .bl b
  | _, _, .int i => .int i
  | _, _, .str x => .str x
  | _, _, .adr a => .adr a
  | _, _, .ty n => .ty n
  | _, _, .scr h => .scr (same_l s h)
  | _, _, .lst h a => .lst (s _ _ h) (DdAll.mono s a)
  | _, _, .tup h a => .tup (h.mono s) (DdAll.mono s a)
  | _, _, .dic h e1 e2 e3 e4 a => .dic (same_rd s h) e1 e2 e3 e4 (DdAll.mono s a)
  | _, _, .obj h1 h2 e1 e2 e3 e4 a => .obj (s _ _ h1) (s _ _ h2) e1 e2 e3 e4 (DdAll.mono s a)
  | _, _, .dcl h e1 e2 e3 e4 a => .dcl (s _ _ h) e1 e2 e3 e4 (DdAll.mono s a)
  | _, _, .dct h e1 e0 e2 e3 e4 a => .dct (same_rd s h) e1 (fun p hp => (e0 p hp).mono s) e2 e3 e4 (DdAll.mono s a)
  | _, _, .exc0 h1 => .exc0 (s _ _ h1)
  | _, _, .exc1 h1 h2 e1 e2 e3 e4 a => .exc1 (s _ _ h1) (s _ _ h2) e1 e2 e3 e4 (DdAll.mono s a)
theorem DdAll.mono (s : Same G G') : ∀ {vs : List V} {ds : List D}, DdAll K G vs ds → DdAll K G' vs ds
  | _, _, .nil => .nil
  | _, _, .cons h t => .cons (Dd.mono s h) (DdAll.mono s t)
end
theorem DdAll.len : ∀ {vs : List V} {ds : List D}, DdAll K G vs ds → vs.length = ds.length
  | _, _, .nil => rfl
  | _, _, .cons _ t => by rw [List.length_cons, List.length_cons, DdAll.len t]
theorem DdAll.get : ∀ {vs : List V} {ds : List D} {i : Nat} {d : D}, DdAll K G vs ds → ds[i]? = some d → ∃ v, vs[i]? = some v ∧ Dd K G v d
  | _, _, _, _, .nil, h => by simp at h
  | _, _, 0, _, .cons h _, e => by simp at e; subst e; exact ⟨_, rfl, h⟩
  | _, _, i + 1, _, .cons _ t, e => by
    obtain ⟨v, h1, h2⟩ := DdAll.get (i := i) t (by simpa using e)
    exact ⟨v, by simpa using h1, h2⟩
theorem DdAll.getV : ∀ {vs : List V} {ds : List D} {i : Nat} {v : V}, DdAll K G vs ds → vs[i]? = some v → ∃ d, ds[i]? = some d ∧ Dd K G v d
  | _, _, _, _, .nil, h => by simp at h
  | _, _, 0, _, .cons h _, e => by simp at e; subst e; exact ⟨_, rfl, h⟩
  | _, _, i + 1, _, .cons _ t, e => by
    obtain ⟨v, h1, h2⟩ := DdAll.getV (i := i) t (by simpa using e)
    exact ⟨v, by simpa using h1, h2⟩
theorem DdAll.app : ∀ {vs ws : List V} {ds es : List D}, DdAll K G vs ds → DdAll K G ws es → DdAll K G (vs ++ ws) (ds ++ es)
  | _, _, _, _, .nil, s => s
  | _, _, _, _, .cons h t, s => .cons h (DdAll.app t s)
theorem DdAll.one {v : V} {d : D} (h : Dd K G v d) : DdAll K G [v] [d] := .cons h .nil
theorem DdAll.set : ∀ {vs : List V} {ds : List D} {v : V} {d : D} (i : Nat), DdAll K G vs ds → Dd K G v d → DdAll K G (vs.set i v) (ds.set i d)
  | _, _, _, _, _, .nil, _ => .nil
  | _, _, _, _, 0, .cons _ t, h => .cons h t
  | _, _, _, _, i + 1, .cons q t, h => .cons q (DdAll.set i t h)
theorem DdAll.take : ∀ {vs : List V} {ds : List D} (n : Nat), DdAll K G vs ds → DdAll K G (vs.take n) (ds.take n)
  | _, _, 0, _ => by simp; exact .nil
  | _, _, _ + 1, .nil => .nil
  | _, _, n + 1, .cons h t => .cons h (DdAll.take n t)
theorem DdAll.drop : ∀ {vs : List V} {ds : List D} (n : Nat), DdAll K G vs ds → DdAll K G (vs.drop n) (ds.drop n)
  | _, _, 0, r => r
  | _, _, _ + 1, .nil => .nil
  | _, _, n + 1, .cons _ t => DdAll.drop n t
theorem DdAll.flat {vs : List V} {ds : List D} (h : DdAll K G vs ds) : ∀ n : Nat, DdAll K G (List.replicate n vs).flatten (List.replicate n ds).flatten
  | 0 => .nil
  | n + 1 => by rw [List.replicate_succ, List.replicate_succ, List.flatten_cons, List.flatten_cons]; exact h.app (DdAll.flat h n)
inductive OT where
  | F
  | O
  deriving DecidableEq
def OwnTop (K : PySem.W.Frag) (G : Hp) : List (Addr × HO) → V → D → Prop
  | S, v, .lst ds => ∃ a vs, v = .ref a ∧ S = [(a, .lst vs)] ∧ DdAll K G vs ds
  | S, v, .dic kds => ∃ a kvs, v = .ref a ∧ S = [(a, .dK kvs)] ∧ kvs.map Prod.fst = kds.map Prod.fst ∧ DdAll K G (kvs.map Prod.snd) (kds.map Prod.snd)
  | S, v, d => S = [] ∧ Dd K G v d
def Own (K : PySem.W.Frag) (G : Hp) : OT → List (Addr × HO) → V → D → Prop
  | .F, S, v, d => S = [] ∧ Dd K G v d
  | .O, S, v, d => OwnTop K G S v d
theorem OwnTop.mono (s : Same G G') {S : List (Addr × HO)} {v : V} {d : D} (h : OwnTop K G S v d) : OwnTop K G' S v d := by
  cases d with
  | lst ds => obtain ⟨a, vs, e1, e2, h⟩ := h; exact ⟨a, vs, e1, e2, h.mono s⟩
  | dic kds => obtain ⟨a, vs, e1, e2, e3, h⟩ := h; exact ⟨a, vs, e1, e2, e3, h.mono s⟩
  | _ => exact ⟨h.1, h.2.mono s⟩
theorem Own.mono (s : Same G G') {t : OT} {S : List (Addr × HO)} {v : V} {d : D} (h : Own K G t S v d) : Own K G' t S v d := by
  cases t with
  | F => exact ⟨h.1, h.2.mono s⟩
  | O => exact OwnTop.mono s h
theorem Own.freeze {t : OT} {S R : List (Addr × HO)} {v : V} {d : D} (w : Wd (S ++ R) G H) (h : Own K G t S v d) : ∃ G', Same G G' ∧ Wd R G' H ∧ Dd K G' v d := by
  cases t with
  | F =>
    obtain ⟨rfl, h⟩ := h
    exact ⟨G, Same.refl G, w, h⟩
  | O =>
    cases d with
    | lst ds =>
      obtain ⟨a, vs, rfl, rfl, h⟩ := h
      exact ⟨_, w.gsame _, w.share, .lst upd_same (h.mono (w.gsame _))⟩
    | dic kds =>
      obtain ⟨a, kvs, rfl, rfl, e, h⟩ := h
      exact ⟨_, w.gsame _, w.share, .dic (.inl upd_same) e rfl rfl rfl (h.mono (w.gsame _))⟩
    | _ =>
      obtain ⟨rfl, h⟩ := h
      exact ⟨G, Same.refl G, w, h⟩
def Bo (K : PySem.W.Frag) (G : Hp) (S : List (Addr × HO)) (t : OT) (v : V) (d : D) : Prop := ∃ S', (∀ x ∈ S', x ∈ S) ∧ Own K G t S' v d
theorem Bo.mono (s : Same G G') {S S2 : List (Addr × HO)} (hs : ∀ x ∈ S, x ∈ S2) {t : OT} {v : V} {d : D} (h : Bo K G S t v d) : Bo K G' S2 t v d := by
  obtain ⟨S', h1, h2⟩ := h
  exact ⟨S', fun x hx => hs x (h1 x hx), h2.mono s⟩
inductive Tp (K : PySem.W.Frag) (G H : Hp) : V → D → Prop
  | dd {v : V} {d : D} : Dd K G v d → Tp K G H v d
  | lst {a : Addr} {vs : List V} {ds : List D} : H a = some (.lst vs) → DdAll K G vs ds → Tp K G H (.ref a) (.lst ds)
  | dic {a : Addr} {kvs : List (Key × V)} {kds : List (Key × D)} : Rd H a (.dK kvs) → kvs.map Prod.fst = kds.map Prod.fst → DdAll K G (kvs.map Prod.snd) (kds.map Prod.snd) → Tp K G H (.ref a) (.dic kds)
theorem Bo.tp {S R : List (Addr × HO)} {t : OT} {v : V} {d : D} (w : Wd (S ++ R) G H) (h : Bo K G S t v d) : Tp K G H v d := by
  obtain ⟨S', h1, h2⟩ := h
  have hm : ∀ x ∈ S', H x.1 = some x.2 := fun x hx => w.mem (List.mem_append_left _ (h1 x hx))
  cases t with
  | F => exact .dd h2.2
  | O =>
    cases d with
    | lst ds =>
      obtain ⟨a, vs, rfl, rfl, h⟩ := h2
      exact .lst (hm _ List.mem_cons_self) h
    | dic kds =>
      obtain ⟨a, kvs, rfl, rfl, e, h⟩ := h2
      exact .dic (.inl (hm _ List.mem_cons_self)) e h
    | _ => exact .dd h2.2
theorem Tp.deep {v : V} {d : D} (s : Same G H) (h : Tp K G H v d) : Dd K H v d := by
  cases h with
  | dd h => exact h.mono s
  | lst h1 h2 => exact .lst h1 (h2.mono s)
  | dic h1 h2 h3 => exact .dic h1 h2 rfl rfl rfl (h3.mono s)
theorem Tp.l {v : V} {ds : List D} (s : Same G H) (h : Tp K G H v (.lst ds)) : ∃ a vs, v = .ref a ∧ H a = some (.lst vs) ∧ DdAll K G vs ds := by
  cases h with
  | dd h => cases h with | lst h1 h2 => exact ⟨_, _, rfl, s _ _ h1, h2⟩
  | lst h1 h2 => exact ⟨_, _, rfl, h1, h2⟩
theorem Tp.t {v : V} {ds : List D} (s : Same G H) (h : Tp K G H v (.tup ds)) : ∃ a vs, v = .ref a ∧ TupAt K G a vs ∧ SqT K H a vs ∧ DdAll K G vs ds := by
  cases h with
  | dd h => cases h with | tup h1 h2 => exact ⟨_, _, rfl, h1, same_t s h1.sq, h2⟩
theorem Tp.dk {v : V} {kds : List (Key × D)} (s : Same G H) (h : Tp K G H v (.dic kds)) : ∃ a kvs, v = .ref a ∧ Rd H a (.dK kvs) ∧ kvs.map Prod.fst = kds.map Prod.fst ∧ DdAll K G (kvs.map Prod.snd) (kds.map Prod.snd) := by
  cases h with
  | dd h => cases h with | dic h1 e1 e2 e3 e4 h2 => exact ⟨_, _, rfl, same_rd s h1, by rw [e1, e2], by rw [e3, e4]; exact h2⟩
  | dic h1 h2 h3 => exact ⟨_, _, rfl, h1, h2, h3⟩
def D.sc : D → Bool
  | .non | .bl _ | .int _ | .str _ | .ty _ | .adr _ => true
  | _ => false
theorem Tp.s {v : V} {d : D} (h : Tp K G H v d) (e : d.sc = true) : Dd K G v d := by
  cases h with
  | dd h => exact h
  | lst _ _ => cases e
  | dic _ _ _ => cases e
abbrev Env := List (Option D)
inductive Slots (K : PySem.W.Frag) (G : Hp) : List OT → List (Addr × HO) → Env → L2.St → Prop
  | nil : Slots K G [] [] [] []
  | no {t : OT} {Γ : List OT} {S : List (Addr × HO)} {env : Env} {o : Option V} {σ : L2.St} : Slots K G Γ S env σ → Slots K G (t :: Γ) S (none :: env) (o :: σ)
  | yes {t : OT} {Γ : List OT} {S1 S : List (Addr × HO)} {env : Env} {d : D} {v : V} {σ : L2.St} : Own K G t S1 v d → Slots K G Γ S env σ → Slots K G (t :: Γ) (S1 ++ S) (some d :: env) (some v :: σ)
variable {Γ : List OT} {S S1 S2 R : List (Addr × HO)} {env : Env} {σ : L2.St}
theorem Slots.mono (s : Same G G') (h : Slots K G Γ S env σ) : Slots K G' Γ S env σ := by
  induction h with
  | nil => exact .nil
  | no _ ih => exact .no ih
  | yes h _ ih => exact .yes (h.mono s) ih
theorem Slots.len (h : Slots K G Γ S env σ) : σ.length = env.length ∧ Γ.length = env.length := by
  induction h with
  | nil => exact ⟨rfl, rfl⟩
  | no _ ih => exact ⟨by simp [ih.1], by simp [ih.2]⟩
  | yes _ _ ih => exact ⟨by simp [ih.1], by simp [ih.2]⟩
theorem Slots.at (h : Slots K G Γ S env σ) : ∀ {i : Nat} {d : D} {t : OT}, env[i]? = some (some d) → Γ[i]? = some t → ∃ v S1 S2 S3, σ[i]? = some (some v) ∧ S = S1 ++ (S2 ++ S3) ∧ Own K G t S2 v d ∧
    ∀ (G' : Hp) (S2' : List (Addr × HO)) (t' : OT) (o' : Option D) (v' : Option V), Same G G' → ((o' = none ∧ S2' = []) ∨ ∃ d' v'', o' = some d' ∧ v' = some v'' ∧ Own K G' t' S2' v'' d') → Slots K G' (Γ.set i t') (S1 ++ (S2' ++ S3)) (env.set i o') (σ.set i v') := by
  induction h with
  | nil => intro i d t h1 h2; simp at h1
  | @no t0 Γ S env o σ h ih =>
    intro i d t h1 h2
    cases i with
    | zero => simp at h1
    | succ i =>
      obtain ⟨v, S1, S2, S3, e1, e2, e3, e4⟩ := ih (i := i) (by simpa using h1) (by simpa using h2)
      refine ⟨v, S1, S2, S3, by simpa using e1, e2, e3, fun G' S2' t' o' v' s q => ?_⟩
      rw [List.set_cons_succ, List.set_cons_succ, List.set_cons_succ]
      exact .no (e4 G' S2' t' o' v' s q)
  | @yes t0 Γ S1 S env d0 v0 σ h hs ih =>
    intro i d t h1 h2
    cases i with
    | zero =>
      simp at h1 h2
      subst h1; subst h2
      refine ⟨v0, [], S1, S, rfl, rfl, h, fun G' S2' t' o' v' s q => ?_⟩
      rw [List.set_cons_zero, List.set_cons_zero, List.set_cons_zero]
      rcases q with ⟨rfl, rfl⟩ | ⟨d', v'', rfl, rfl, q⟩
      · exact .no (hs.mono s)
      · exact (Slots.yes (S := S) q (hs.mono s))
    | succ i =>
      obtain ⟨v, T1, T2, T3, e1, e2, e3, e4⟩ := ih (i := i) (by simpa using h1) (by simpa using h2)
      refine ⟨v, S1 ++ T1, T2, T3, by simpa using e1, by rw [e2, List.append_assoc], e3, fun G' S2' t' o' v' s q => ?_⟩
      rw [List.set_cons_succ, List.set_cons_succ, List.set_cons_succ, List.append_assoc]
      exact .yes (h.mono s) (e4 G' S2' t' o' v' s q)
theorem Slots.put (h : Slots K G Γ S env σ) : ∀ {i : Nat}, i < env.length → ∃ S1 S2 S3, S = S1 ++ (S2 ++ S3) ∧
    ∀ (G' : Hp) (S2' : List (Addr × HO)) (t' : OT) (o' : Option D) (v' : Option V), Same G G' → ((o' = none ∧ S2' = []) ∨ ∃ d' v'', o' = some d' ∧ v' = some v'' ∧ Own K G' t' S2' v'' d') → Slots K G' (Γ.set i t') (S1 ++ (S2' ++ S3)) (env.set i o') (σ.set i v') := by
  induction h with
  | nil => intro i hi; simp at hi
  | @no t0 Γ S env o σ h ih =>
    intro i hi
    cases i with
    | zero =>
      refine ⟨[], [], S, rfl, fun G' S2' t' o' v' s q => ?_⟩
      rw [List.set_cons_zero, List.set_cons_zero, List.set_cons_zero]
      rcases q with ⟨rfl, rfl⟩ | ⟨d', v'', rfl, rfl, q⟩
      · exact .no (h.mono s)
      · exact (Slots.yes (S := S) q (h.mono s))
    | succ i =>
      obtain ⟨S1, S2, S3, e2, e4⟩ := ih (i := i) (by simpa using hi)
      refine ⟨S1, S2, S3, e2, fun G' S2' t' o' v' s q => ?_⟩
      rw [List.set_cons_succ, List.set_cons_succ, List.set_cons_succ]
      exact .no (e4 G' S2' t' o' v' s q)
  | @yes t0 Γ S1 S env d0 v0 σ h hs ih =>
    intro i hi
    cases i with
    | zero =>
      refine ⟨[], S1, S, rfl, fun G' S2' t' o' v' s q => ?_⟩
      rw [List.set_cons_zero, List.set_cons_zero, List.set_cons_zero]
      rcases q with ⟨rfl, rfl⟩ | ⟨d', v'', rfl, rfl, q⟩
      · exact .no (hs.mono s)
      · exact (Slots.yes (S := S) q (hs.mono s))
    | succ i =>
      obtain ⟨T1, T2, T3, e2, e4⟩ := ih (i := i) (by simpa using hi)
      refine ⟨S1 ++ T1, T2, T3, by rw [e2, List.append_assoc], fun G' S2' t' o' v' s q => ?_⟩
      rw [List.set_cons_succ, List.set_cons_succ, List.set_cons_succ, List.append_assoc]
      exact .yes (h.mono s) (e4 G' S2' t' o' v' s q)
end
abbrev Sto := Addr → Option D
def emp : Sto := fun _ => none
def sput (s : Sto) (a : Addr) (d : D) : Sto := fun b => if b = a then some d else s b
theorem sput_ne {s : Sto} {a b : Addr} {d : D} (h : b ≠ a) : sput s a d b = s b := if_neg h
abbrev Mst := Option (Addr × Nat) × Sto
def AmbD : Option (Addr × Nat) → List (Addr × HO) → Prop
  | none, C => C = []
  | some (a, m), C => ∃ (c : Addr) (t : Int) (ns : List Int), C = [(a, stD c t), (c, .lst (ns.map V.int))] ∧ 0 < ns.length ∧ 0 ≤ t ∧ t + m ≤ 2 ^ 50
def Cell (K : PySem.W.Frag) (G : Hp) (a : Addr) : D → List (Addr × HO) → Prop
  | .lst ds, C => ∃ vs, C = [(a, .lst vs)] ∧ DdAll K G vs ds
  | .dic kds, C => ∃ kvs, C = [(a, .dK kvs)] ∧ kvs.map Prod.fst = kds.map Prod.fst ∧ DdAll K G (kvs.map Prod.snd) (kds.map Prod.snd)
  | .obj Cl gs, C => ∃ dx fs, C = [(a, .ins Cl dx fs), (dx, .own a)] ∧ fs.map Prod.fst = gs.map Prod.fst ∧ DdAll K G (fs.map Prod.snd) (gs.map Prod.snd)
  | .dcl w kds, C => ∃ kvs, C = [(a, DL w a kvs)] ∧ kvs.map Prod.fst = kds.map Prod.fst ∧ DdAll K G (kvs.map Prod.snd) (kds.map Prod.snd)
  | .lck u kds, C => C = [(a, .frz u.1 (.dK u.2))] ∧ u.2.map Prod.fst = kds.map Prod.fst ∧ DdAll K G (u.2.map Prod.snd) (kds.map Prod.snd)
  | .lct w u kds, C => C = [(a, .frz u.1 (DT w a u.2))] ∧ (u.2.map fun p => p.1.1) = kds.map Prod.fst ∧ (∀ p ∈ u.2, TupAt K G p.1.2 (p.1.1.map lfV)) ∧ DdAll K G (u.2.map Prod.snd) (kds.map Prod.snd)
  | .dct w kds, C => ∃ kvs, C = [(a, DT w a kvs)] ∧ (kvs.map fun p => p.1.1) = kds.map Prod.fst ∧ (∀ p ∈ kvs, TupAt K G p.1.2 (p.1.1.map lfV)) ∧ DdAll K G (kvs.map Prod.snd) (kds.map Prod.snd)
  | _, _ => False
inductive Cells (K : PySem.W.Frag) (G : Hp) : List (Addr × D) → List (Addr × HO) → Prop
  | nil : Cells K G [] []
  | cons {a : Addr} {d : D} {L : List (Addr × D)} {C1 C2 : List (Addr × HO)} : Cell K G a d C1 → Cells K G L C2 → Cells K G ((a, d) :: L) (C1 ++ C2)
def StoC (K : PySem.W.Frag) (G : Hp) (s : Sto) (C : List (Addr × HO)) : Prop := ∃ L : List (Addr × D), (∀ a, s a = L.lookup a) ∧ Cells K G L C
def Amb (K : PySem.W.Frag) (G : Hp) (m : Mst) (C : List (Addr × HO)) : Prop := ∃ C1 C2, C = C1 ++ C2 ∧ AmbD m.1 C1 ∧ StoC K G m.2 C2
theorem Cell.mono {K : PySem.W.Frag} {G G' : Hp} {a : Addr} {d : D} {C : List (Addr × HO)} (s : Same G G') (h : Cell K G a d C) : Cell K G' a d C := by
  cases d with
  | lst ds => obtain ⟨vs, e, q⟩ := h; exact ⟨vs, e, q.mono s⟩
  | dic ds => obtain ⟨vs, e, e2, q⟩ := h; exact ⟨vs, e, e2, q.mono s⟩
  | obj Cl ds => obtain ⟨dx, vs, e, e2, q⟩ := h; exact ⟨dx, vs, e, e2, q.mono s⟩
  | dcl w ds => obtain ⟨vs, e, e2, q⟩ := h; exact ⟨vs, e, e2, q.mono s⟩
  | lck u ds => obtain ⟨e, e2, q⟩ := h; exact ⟨e, e2, q.mono s⟩
  | lct w u ds => obtain ⟨e, e2, e3, q⟩ := h; exact ⟨e, e2, fun p hp => (e3 p hp).mono s, q.mono s⟩
  | dct w ds => obtain ⟨vs, e, e2, e3, q⟩ := h; exact ⟨vs, e, e2, fun p hp => (e3 p hp).mono s, q.mono s⟩
  | _ => exact h.elim
theorem Cells.mono {K : PySem.W.Frag} {G G' : Hp} {L : List (Addr × D)} {C : List (Addr × HO)} (s : Same G G') (h : Cells K G L C) : Cells K G' L C := by
  induction h with
  | nil => exact .nil
  | cons h _ ih => exact .cons (h.mono s) ih
theorem Amb.mono {K : PySem.W.Frag} {G G' : Hp} {m : Mst} {C : List (Addr × HO)} (s : Same G G') (h : Amb K G m C) : Amb K G' m C := by
  obtain ⟨C1, C2, e, a, L, l, c⟩ := h
  exact ⟨C1, C2, e, a, L, l, c.mono s⟩
theorem Amb.none {K : PySem.W.Frag} {G : Hp} : Amb K G (none, emp) [] := ⟨[], [], rfl, rfl, [], fun _ => rfl, .nil⟩
theorem Cells.nil_of {K : PySem.W.Frag} {G : Hp} {L : List (Addr × D)} {C : List (Addr × HO)} (h : Cells K G L C) (e : ∀ a, L.lookup a = Option.none) : L = [] ∧ C = [] := by
  cases h with
  | nil => exact ⟨rfl, rfl⟩
  | @cons a d L C1 C2 _ _ =>
    have q := e a
    rw [List.lookup_cons, beq_self_eq_true] at q
    cases q
theorem Amb.none_inv {K : PySem.W.Frag} {G : Hp} {C : List (Addr × HO)} (h : Amb K G (Option.none, emp) C) : C = [] := by
  obtain ⟨C1, C2, rfl, a, L, l, c⟩ := h
  obtain rfl : C1 = [] := a
  exact (c.nil_of fun a => (l a).symm).2
structure JC where
  K : PySem.W.Frag
  R : List (Addr × HO)
  G0 : Hp
def Stx (c : JC) (Γ : List OT) (G H : Hp) (S1 S : List (Addr × HO)) (env : Env) (σ : L2.St) (m : Mst) : Prop :=
  Same c.G0 G ∧ ∃ C, Wd (S1 ++ (S ++ (C ++ c.R))) G H ∧ Amb c.K G m C ∧ Slots c.K G Γ S env σ
abbrev Stt (c : JC) (Γ : List OT) (G H : Hp) (S : List (Addr × HO)) (env : Env) (σ : L2.St) (m : Mst) : Prop := Stx c Γ G H [] S env σ m
section
variable {c : JC} {Γ : List OT} {G G' H H' : Hp} {S S1 S2 R : List (Addr × HO)} {env : Env} {σ : L2.St} {m : Mst} {t : OT} {d : D} {p : Addr} {o : HO}
theorem Wd.dropL {A B : List (Addr × HO)} (w : Wd (A ++ B) G H) : Wd B G H := ⟨w.1, fun y hy => w.2.1 y (List.mem_append_right _ hy), by
  have h := w.2.2
  rw [List.map_append] at h
  exact (List.nodup_append.mp h).2.1⟩
theorem Wd.dropM {A B C : List (Addr × HO)} (w : Wd (A ++ (B ++ C)) G H) : Wd (A ++ C) G H :=
  (w.perm (B := B ++ (A ++ C)) (by rw [← List.append_assoc, ← List.append_assoc]; exact List.Perm.append_right _ List.perm_append_comm)).dropL
theorem Stx.drop (h : Stx c Γ G H S1 S env σ m) : Stt c Γ G H S env σ m := by
  obtain ⟨s, C, w, a, z⟩ := h
  exact ⟨s, C, w.dropL, a, z⟩
theorem Stx.v (h : Stx c Γ G H S1 S env σ m) : Same G H := by
  obtain ⟨s, C, w, a, z⟩ := h
  exact w.v
theorem Stx.len (h : Stx c Γ G H S1 S env σ m) : σ.length = env.length ∧ Γ.length = env.length := by
  obtain ⟨s, C, w, a, z⟩ := h
  exact z.len
theorem Stx.new (h : Stx c Γ G H S1 S env σ m) (hp : H p = none) : Stx c Γ G (upd H p o) ((p, o) :: S1) S env σ m := by
  obtain ⟨s, C, w, a, z⟩ := h
  exact ⟨s, C, w.own hp, a, z⟩
theorem Stx.newS (h : Stx c Γ G H S1 S env σ m) (hp : H p = none) : Stx c Γ (upd G p o) (upd H p o) S1 S env σ m ∧ Same G (upd G p o) := by
  obtain ⟨s, C, w, a, z⟩ := h
  have g := Grow.new (o := o) w.v hp
  exact ⟨⟨s.trans g.gg, C, w.grow g, a.mono g.gg, z.mono g.gg⟩, g.gg⟩
theorem Stx.freeze {v : V} (h : Stx c Γ G H (S2 ++ S1) S env σ m) (q : Own c.K G t S2 v d) : ∃ G', Same G G' ∧ Stx c Γ G' H S1 S env σ m ∧ Dd c.K G' v d := by
  obtain ⟨s, C, w, a, z⟩ := h
  rw [List.append_assoc] at w
  obtain ⟨G', s', w', q'⟩ := q.freeze w
  exact ⟨G', s', ⟨s.trans s', C, w', a.mono s', z.mono s'⟩, q'⟩
def leO : OT → OT → Bool
  | .O, _ => true
  | .F, .F => true
  | .F, .O => false
theorem Slots.weak {Ga : Hp} (h : Slots c.K Ga Γ S env σ) : ∀ {Γ' : List OT} {R : List (Addr × HO)} {G : Hp}, Same Ga G → Γ'.length = Γ.length → (Γ.zip Γ').all (fun p => leO p.1 p.2) = true → Wd (S ++ R) G H → ∃ G' S', Same G G' ∧ Wd (S' ++ R) G' H ∧ Slots c.K G' Γ' S' env σ := by
  induction h with
  | nil =>
    intro Γ' R G s hl hz w
    cases Γ' with
    | nil => exact ⟨G, [], Same.refl G, w, .nil⟩
    | cons _ _ => simp at hl
  | @no t0 Γ S env o σ h ih =>
    intro Γ' R G s hl hz w
    cases Γ' with
    | nil => simp at hl
    | cons t' Γ' =>
      rw [List.zip_cons_cons, List.all_cons, Bool.and_eq_true] at hz
      obtain ⟨G', S', s, w', q⟩ := ih s (by simpa using hl) hz.2 w
      exact ⟨G', S', s, w', .no q⟩
  | @yes t0 Γ S1 S env d0 v0 σ h hs ih =>
    intro Γ' R G s hl hz w
    cases Γ' with
    | nil => simp at hl
    | cons t' Γ' =>
      rw [List.zip_cons_cons, List.all_cons, Bool.and_eq_true] at hz
      rw [List.append_assoc] at w
      by_cases e : t0 = t'
      · subst e
        have w2 : Wd (S ++ (S1 ++ R)) G H := w.perm (by rw [← List.append_assoc, ← List.append_assoc]; exact List.Perm.append_right _ List.perm_append_comm)
        obtain ⟨G', S', s', w', q⟩ := ih s (by simpa using hl) hz.2 w2
        exact ⟨G', S1 ++ S', s', w'.perm (by rw [← List.append_assoc]; exact List.Perm.append_right _ List.perm_append_comm), .yes (h.mono (s.trans s')) q⟩
      · have et : t' = .F := by
          cases t0 <;> cases t' <;> first | rfl | exact absurd rfl e | cases hz.1
        subst et
        obtain ⟨G1, s1, w1, q1⟩ := (h.mono s).freeze w
        obtain ⟨G', S', s', w', q⟩ := ih (s.trans s1) (by simpa using hl) hz.2 w1
        exact ⟨G', S', s1.trans s', w', .yes (S1 := []) ⟨rfl, q1.mono s'⟩ q⟩
end
end Ps
namespace Ps
open PySem PySem.Spec PyProof.Rows L2
abbrev VE := Env → Mst → (D → Mst → Prop) → Prop
abbrev VT := Env → Mst → (Bool → Mst → Prop) → Prop
abbrev VA := Env → Mst → (List D → Mst → Prop) → Prop
structure VEnds where
  nx : Env → Mst → Prop
  rt : D → Mst → Prop
  bk : Env → Mst → Prop := fun _ _ => False
  ct : Env → Mst → Prop := fun _ _ => False
abbrev VS := VEnds → Env → Mst → Prop
abbrev XV := Addr → List (Str × D) → Mst → Prop
abbrev XW := Addr → List (Str × D) → Env → Mst → Prop
abbrev VSp := List D → Mst → (D → Mst → Prop) → XV → Prop
def ExcAt (K : PySem.W.Frag) (G : Hp) (d : Option Addr) (fs : List (Str × D)) : Prop :=
  (d = none ∧ fs = []) ∨ ∃ b xs, d = some b ∧ G b = some (.xd xs) ∧ xs.map Prod.fst = fs.map Prod.fst ∧ DdAll K G (xs.map Prod.snd) (fs.map Prod.snd)
def spV (K : PySem.W.Frag) (t : OT) (vsp : VSp) : Sp := fun vs H Q E => ∃ (ds : List D) (G : Hp) (R C : List (Addr × HO)) (m : Mst) (P : D → Mst → Prop) (X : XV), Wd (C ++ R) G H ∧ Amb K G m C ∧ DdAll K G vs ds ∧ vsp ds m P X ∧
  (∀ d m' v H' G' S1 C', P d m' → Same G G' → Wd (S1 ++ (C' ++ R)) G' H' → Amb K G' m' C' → Own K G' t S1 v d → Q v H') ∧
  ∀ c fs m' dd H' G' C', X c fs m' → Same G G' → Wd (C' ++ R) G' H' → Amb K G' m' C' → ExcAt K G' dd fs → E (.ref c) dd H'
section
variable (c : JC) (Γ : List OT)
def SF (te : TE) (ve : VE) : Prop := ∀ (T : List (Addr × HO)) (G H : Hp) (S : List (Addr × HO)) (env : Env) (σ : L2.St) (m : Mst) (P : D → Mst → Prop) (Q : VK), Stx c Γ G H T S env σ m → ve env m P →
  (∀ d m' v G' H', P d m' → Same G G' → Stx c Γ G' H' T S env σ m' → Dd c.K G' v d → Q v H') → te σ H Q
def SO (te : TE) (ve : VE) : Prop := ∀ (T : List (Addr × HO)) (G H : Hp) (S : List (Addr × HO)) (env : Env) (σ : L2.St) (m : Mst) (P : D → Mst → Prop) (Q : VK), Stx c Γ G H T S env σ m → ve env m P →
  (∀ d m' v G' H' S1, P d m' → Same G G' → Stx c Γ G' H' (S1 ++ T) S env σ m' → OwnTop c.K G' S1 v d → Q v H') → te σ H Q
def SB (te : TE) (ve : VE) : Prop := ∀ (T : List (Addr × HO)) (G H : Hp) (S : List (Addr × HO)) (env : Env) (σ : L2.St) (m : Mst) (P : D → Mst → Prop) (Q : VK), Stx c Γ G H T S env σ m → ve env m P →
  (∀ d m' v G' H' S1, P d m' → Same G G' → Stx c Γ G' H' (S1 ++ T) S env σ m' → (∃ t, Bo c.K G' (S1 ++ S) t v d) → Q v H') → te σ H Q
def ST (tt : TT) (vt : VT) : Prop := ∀ (T : List (Addr × HO)) (G H : Hp) (S : List (Addr × HO)) (env : Env) (σ : L2.St) (m : Mst) (P : Bool → Mst → Prop) (Q : Bool → Hp → Prop), Stx c Γ G H T S env σ m → vt env m P →
  (∀ b m' G' H' S1, P b m' → Same G G' → Stx c Γ G' H' (S1 ++ T) S env σ m' → Q b H') → tt σ H Q
inductive BoAll (K : PySem.W.Frag) (G : Hp) (S : List (Addr × HO)) : List V → List D → Prop
  | nil : BoAll K G S [] []
  | cons {v : V} {d : D} {vs : List V} {ds : List D} : (∃ t, Bo K G S t v d) → BoAll K G S vs ds → BoAll K G S (v :: vs) (d :: ds)
def SA (ta : TA) (va : VA) : Prop := ∀ (T : List (Addr × HO)) (G H : Hp) (S : List (Addr × HO)) (env : Env) (σ : L2.St) (m : Mst) (P : List D → Mst → Prop) (Q : List V → Hp → Prop), Stx c Γ G H T S env σ m → va env m P →
  (∀ ds m' vs G' H' S1, P ds m' → Same G G' → Stx c Γ G' H' (S1 ++ T) S env σ m' → BoAll c.K G' (S1 ++ S) vs ds → Q vs H') → ta σ H Q
def SG (ta : TA) (va : VA) : Prop := ∀ (T : List (Addr × HO)) (G H : Hp) (S : List (Addr × HO)) (env : Env) (σ : L2.St) (m : Mst) (P : List D → Mst → Prop) (Q : List V → Hp → Prop), Stx c Γ G H T S env σ m → va env m P →
  (∀ ds m' vs G' H', P ds m' → Same G G' → Stx c Γ G' H' T S env σ m' → DdAll c.K G' vs ds → Q vs H') → ta σ H Q
def ExOk (W : WX) (VW : XW) : Prop := ∀ (G H : Hp) (S : List (Addr × HO)) (env : Env) (σ : L2.St) (m : Mst) (C : Addr) (fs : List (Str × D)) (d : Option Addr), Stt c Γ G H S env σ m → ExcAt c.K G d fs → VW C fs env m → W (.ref C) d σ H
end
def vVar (i : Nat) : VE := fun env m P => ∃ d, env[i]? = some (some d) ∧ P d m
def vC (d : D) : VE := fun _ m P => P d m
def vNil : VA := fun _ m P => P [] m
def vCons (ve : VE) (va : VA) : VA := fun env m P => ve env m fun d m1 => va env m1 fun ds m2 => P (d :: ds) m2
def vOp (f : D → D → (D → Prop) → Prop) (va vb : VE) : VE := fun env m P => va env m fun x m1 => vb env m1 fun y m2 => f x y fun z => P z m2
def vUn (f : D → (D → Prop) → Prop) (va : VE) : VE := fun env m P => va env m fun x m1 => f x fun z => P z m1
def vCB (f : List D → (D → Prop) → Prop) (va : VA) : VE := fun env m P => va env m fun xs m1 => f xs fun z => P z m1
def vLst (va : VA) : VE := fun env m P => va env m fun xs m1 => xs.length ≤ sizeLine ∧ P (.lst xs) m1
def vTup (va : VA) : VE := fun env m P => va env m fun xs m1 => xs.length ≤ sizeLine ∧ P (.tup xs) m1
def vIfE (vt : VT) (va vb : VE) : VE := fun env m P => vt env m fun b m1 => if b = true then va env m1 P else vb env m1 P
def vTest (ve : VE) : VT := fun env m P => ve env m fun x m1 => ∃ b, x = .bl b ∧ P b m1
def truD : D → (Bool → Mst → Prop) → Mst → Prop
  | .non, P, m1 => P false m1
  | .bl b, P, m1 => P b m1
  | .int i, P, m1 => P (i != 0) m1
  | .str z, P, m1 => z.length ≤ sizeLine ∧ P ((z.length : Int) != 0) m1
  | .lst ds, P, m1 => P (!ds.isEmpty) m1
  | .tup ds, P, m1 => P (!ds.isEmpty) m1
  | _, _, _ => False
def vTru (ve : VE) : VT := fun env m P => ve env m fun x m1 => truD x P m1
def vAnd (a b : VT) : VT := fun env m P => a env m fun x m1 => if x = true then b env m1 P else P false m1
def vOr (a b : VT) : VT := fun env m P => a env m fun x m1 => if x = true then P true m1 else b env m1 P
def vNot (a : VT) : VT := fun env m P => a env m fun x m1 => P (!x) m1
def vYes : VT := fun _ m P => P true m
def vCall (vsp : VSp) (va : VA) : VE := fun env m P => va env m fun ds m1 => vsp ds m1 P fun _ _ _ => False
section
variable {c : JC} {Γ : List OT} {G G' H H' : Hp} {T S S1 S2 R : List (Addr × HO)} {env : Env} {σ : L2.St} {m : Mst} {t : OT} {v : V} {d : D} {p : Addr} {o : HO} {i : Nat}
theorem Stx.dropT (st : Stx c Γ G H (S1 ++ T) S env σ m) : Stx c Γ G H T S env σ m := by
  obtain ⟨s, C, w, a, z⟩ := st
  exact ⟨s, C, by rw [List.append_assoc] at w; exact w.dropL, a, z⟩
theorem bo_sub {K : PySem.W.Frag} {A B : List (Addr × HO)} (s : Same G G') (hs : ∀ x ∈ A, x ∈ B) (h : ∃ t, Bo K G A t v d) : ∃ t, Bo K G' B t v d := h.elim fun t h => ⟨t, h.mono s hs⟩
theorem bo_tp (h : Stx c Γ G H T S env σ m) (b : ∃ t, Bo c.K G (T ++ S) t v d) : Tp c.K G H v d := by
  obtain ⟨s, C, w, a, z⟩ := h
  obtain ⟨t, b⟩ := b
  rw [← List.append_assoc] at w
  exact b.tp w
theorem BoAll.mono {K : PySem.W.Frag} {A B : List (Addr × HO)} (s : Same G G') (hs : ∀ x ∈ A, x ∈ B) {vs : List V} {ds : List D} (h : BoAll K G A vs ds) : BoAll K G' B vs ds := by
  induction h with
  | nil => exact .nil
  | cons h _ ih => exact .cons (bo_sub s hs h) ih
inductive TpAll (K : PySem.W.Frag) (G H : Hp) : List V → List D → Prop
  | nil : TpAll K G H [] []
  | cons {v : V} {d : D} {vs : List V} {ds : List D} : Tp K G H v d → TpAll K G H vs ds → TpAll K G H (v :: vs) (d :: ds)
theorem BoAll.tp (h : Stx c Γ G H T S env σ m) {vs : List V} {ds : List D} (b : BoAll c.K G (T ++ S) vs ds) : TpAll c.K G H vs ds := by
  induction b with
  | nil => exact .nil
  | cons b _ ih => exact .cons (bo_tp h b) ih
theorem SO.f {te : TE} {ve : VE} (h : SO c Γ te ve) : SF c Γ te ve := fun T G H S env σ m P Q st hv k =>
  h T G H S env σ m P Q st hv fun d m' v G' H' S1 p s st' q => by
    obtain ⟨G2, s2, st2, q2⟩ := Stx.freeze (t := .O) st' q
    exact k d m' v G2 H' p (s.trans s2) st2 q2
theorem SF.b {te : TE} {ve : VE} (h : SF c Γ te ve) : SB c Γ te ve := fun T G H S env σ m P Q st hv k =>
  h T G H S env σ m P Q st hv fun d m' v G' H' p s st' q => k d m' v G' H' [] p s st' ⟨.F, [], fun _ h => absurd h (by simp), rfl, q⟩
theorem SO.b {te : TE} {ve : VE} (h : SO c Γ te ve) : SB c Γ te ve := fun T G H S env σ m P Q st hv k =>
  h T G H S env σ m P Q st hv fun d m' v G' H' S1 p s st' q => k d m' v G' H' S1 p s st' ⟨.O, S1, fun _ h => List.mem_append_left _ h, q⟩
theorem s_varF (hi : Γ[i]? = some .F) : SF c Γ (tVar i) (vVar i) := fun T G H S env σ m P Q st hv k => by
  obtain ⟨d, e, p⟩ := hv
  obtain ⟨s, C, w, a, z⟩ := id st
  obtain ⟨v, A1, A2, A3, e1, e2, e3, e4⟩ := z.at e hi
  exact ⟨v, e1, k d m v G H p (Same.refl G) st e3.2⟩
theorem s_varB {t : OT} (hi : Γ[i]? = some t) : SB c Γ (tVar i) (vVar i) := fun T G H S env σ m P Q st hv k => by
  obtain ⟨d, e, p⟩ := hv
  obtain ⟨s, C, w, a, z⟩ := id st
  obtain ⟨v, A1, A2, A3, e1, e2, e3, e4⟩ := z.at e hi
  exact ⟨v, e1, k d m v G H [] p (Same.refl G) st ⟨t, A2, fun x hx => by
    rw [e2, List.nil_append]; exact List.mem_append_right _ (List.mem_append_left _ hx), e3⟩⟩
theorem s_non : SO c Γ (tC .non) (vC .non) := fun T G H S env σ m P Q st hv k => k .non m .non G H [] hv (Same.refl G) st ⟨rfl, .non⟩
theorem s_bl {b : Bool} : SO c Γ (tC (.bl b)) (vC (.bl b)) := fun T G H S env σ m P Q st hv k => k _ m _ G H [] hv (Same.refl G) st ⟨rfl, .bl b⟩
theorem s_int {b : Int} : SO c Γ (tC (.int b)) (vC (.int b)) := fun T G H S env σ m P Q st hv k => k _ m _ G H [] hv (Same.refl G) st ⟨rfl, .int b⟩
theorem s_str {b : Str} : SO c Γ (tC (.str b)) (vC (.str b)) := fun T G H S env σ m P Q st hv k => k _ m _ G H [] hv (Same.refl G) st ⟨rfl, .str b⟩
theorem s_ty {b : String} : SO c Γ (tC (.ty b)) (vC (.ty b)) := fun T G H S env σ m P Q st hv k => k _ m _ G H [] hv (Same.refl G) st ⟨rfl, .ty b⟩
theorem a_nil : SA c Γ tNil vNil := fun T G H S env σ m P Q st hv k => k [] m [] G H [] hv (Same.refl G) st .nil
theorem a_cons {te : TE} {ve : VE} {ta : TA} {va : VA} (h : SB c Γ te ve) (t : SA c Γ ta va) : SA c Γ (tCons te ta) (vCons ve va) := fun T G H S env σ m P Q st hv k =>
  h T G H S env σ m _ _ st hv fun d m1 v G1 H1 S1 p1 s1 st1 b1 => t (S1 ++ T) G1 H1 S env σ m1 _ _ st1 p1 fun ds m2 vs G2 H2 S2 p2 s2 st2 b2 =>
    k (d :: ds) m2 (v :: vs) G2 H2 (S2 ++ S1) p2 (s1.trans s2) (by rw [List.append_assoc]; exact st2)
      (.cons (bo_sub s2 (fun x hx => by rcases List.mem_append.mp hx with q | q <;> simp [q]) b1) (b2.mono (Same.refl _) fun x hx => by rcases List.mem_append.mp hx with q | q <;> simp [q]))
theorem g_nil : SG c Γ tNil vNil := fun T G H S env σ m P Q st hv k => k [] m [] G H hv (Same.refl G) st .nil
theorem g_cons {te : TE} {ve : VE} {ta : TA} {va : VA} (h : SF c Γ te ve) (t : SG c Γ ta va) : SG c Γ (tCons te ta) (vCons ve va) := fun T G H S env σ m P Q st hv k =>
  h T G H S env σ m _ _ st hv fun d m1 v G1 H1 p1 s1 st1 b1 => t T G1 H1 S env σ m1 _ _ st1 p1 fun ds m2 vs G2 H2 p2 s2 st2 b2 =>
    k (d :: ds) m2 (v :: vs) G2 H2 p2 (s1.trans s2) st2 (.cons (b1.mono s2) b2)
def D.im : D → Bool
  | .lst _ | .dic _ => false
  | _ => true
theorem ownTop_im {K : PySem.W.Frag} (h : Dd K G v d) (e : d.im = true) : OwnTop K G [] v d := by
  cases d <;> first | exact ⟨rfl, h⟩ | cases e
inductive Nw (K : PySem.W.Frag) (G H : Hp) : V → Hp → D → Prop
  | old {v : V} {d : D} : Dd K G v d → d.im = true → Nw K G H v H d
  | lst {p : Addr} {vs : List V} {ds : List D} : H p = none → DdAll K G vs ds → Nw K G H (.ref p) (upd H p (.lst vs)) (.lst ds)
  | tup {p : Addr} {vs : List V} {ds : List D} : H p = none → DdAll K G vs ds → Nw K G H (.ref p) (upd H p (.tup vs)) (.tup ds)
  | dic {p : Addr} {kvs : List (Key × V)} {kds : List (Key × D)} : H p = none → kvs.map Prod.fst = kds.map Prod.fst → DdAll K G (kvs.map Prod.snd) (kds.map Prod.snd) → Nw K G H (.ref p) (upd H p (.dK kvs)) (.dic kds)
theorem Nw.own (st : Stx c Γ G H T S env σ m) (n : Nw c.K G H v H' d) : ∃ G' S1, Same G G' ∧ Stx c Γ G' H' (S1 ++ T) S env σ m ∧ OwnTop c.K G' S1 v d := by
  cases n with
  | old h e => exact ⟨G, [], Same.refl G, st, ownTop_im h e⟩
  | lst hp h => exact ⟨G, [(_, _)], Same.refl G, st.new hp, _, _, rfl, rfl, h⟩
  | tup hp h =>
    obtain ⟨st', s⟩ := st.newS hp
    exact ⟨_, [], s, st', rfl, .tup (.inl upd_same) (h.mono s)⟩
  | dic hp e h => exact ⟨G, [(_, _)], Same.refl G, st.new hp, _, _, rfl, rfl, e, h⟩
theorem Stx.ext (st : Stx c Γ G H T S env σ m) {S1 : List (Addr × HO)} {G' H' : Hp} (st' : Stx c Γ G' H' (S1 ++ T) S env σ m) : Stx c Γ G' H' (S1 ++ T) S env σ m := st'
def OpV (K : PySem.W.Frag) (r : R2) (f : D → D → (D → Prop) → Prop) : Prop := ∀ (G H : Hp) (x y : V) (d e : D) (P : D → Prop) (Q : VK), Same G H → Tp K G H x d → Tp K G H y e → f d e P → (∀ z v H', P z → Nw K G H v H' z → Q v H') → r x y H Q
def OpF (K : PySem.W.Frag) (r : R2) (f : D → D → (D → Prop) → Prop) : Prop := ∀ (G H : Hp) (x y : V) (d e : D) (P : D → Prop) (Q : VK), Same G H → Tp K G H x d → Tp K G H y e → f d e P → (∀ z v, P z → Dd K G v z → Q v H) → r x y H Q
def UnV (K : PySem.W.Frag) (r : V → Hp → VK → Prop) (f : D → (D → Prop) → Prop) : Prop := ∀ (G H : Hp) (x : V) (d : D) (P : D → Prop) (Q : VK), Same G H → Tp K G H x d → f d P → (∀ z v H', P z → Nw K G H v H' z → Q v H') → r x H Q
def ClV (K : PySem.W.Frag) (r : List V → Hp → VK → Prop) (f : List D → (D → Prop) → Prop) : Prop := ∀ (G H : Hp) (xs : List V) (ds : List D) (P : D → Prop) (Q : VK), Same G H → TpAll K G H xs ds → f ds P → (∀ z v H', P z → Nw K G H v H' z → Q v H') → r xs H Q
def MtV (K : PySem.W.Frag) (T : String) (r : V → List V → Hp → VK → Prop) (f : D → List D → (D → Prop) → Prop) : Prop := ∀ (G H : Hp) (x : V) (d : D) (xs : List V) (ds : List D) (P : D → Prop) (Q : VK), Same G H → Tp K G H x d → TpAll K G H xs ds → f d ds P → (∀ z v H', P z → Nw K G H v H' z → Q v H') → r x xs H Q
theorem s_op {r : R2} {f : D → D → (D → Prop) → Prop} {ta tb : TE} {va vb : VE} (o : OpV c.K r f) (ha : SB c Γ ta va) (hb : SB c Γ tb vb) : SO c Γ (tOp r ta tb) (vOp f va vb) := fun T G H S env σ m P Q st hv k =>
  ha T G H S env σ m _ _ st hv fun x m1 v G1 H1 S1 p1 s1 st1 b1 => hb (S1 ++ T) G1 H1 S env σ m1 _ _ st1 p1 fun y m2 u G2 H2 S2 p2 s2 st2 b2 => by
    have t1 := bo_tp (T := S2 ++ (S1 ++ T)) st2 (bo_sub s2 (B := S2 ++ (S1 ++ T) ++ S) (fun x hx => by rcases List.mem_append.mp hx with q | q <;> simp [q]) b1)
    have t2 := bo_tp (T := S2 ++ (S1 ++ T)) st2 (bo_sub (Same.refl _) (B := S2 ++ (S1 ++ T) ++ S) (fun x hx => by rcases List.mem_append.mp hx with q | q <;> simp [q]) b2)
    refine o G2 H2 v u x y _ _ st2.v t1 t2 p2 fun z w H' pz n => ?_
    obtain ⟨G3, S3, s3, st3, q3⟩ := Nw.own (T := T) (by
      exact st2.dropT.dropT) n
    exact k z m2 w G3 H' S3 pz (s1.trans (s2.trans s3)) st3 q3
theorem s_opF {r : R2} {f : D → D → (D → Prop) → Prop} {ta tb : TE} {va vb : VE} (o : OpF c.K r f) (ha : SB c Γ ta va) (hb : SB c Γ tb vb) : SF c Γ (tOp r ta tb) (vOp f va vb) := fun T G H S env σ m P Q st hv k =>
  ha T G H S env σ m _ _ st hv fun x m1 v G1 H1 S1 p1 s1 st1 b1 => hb (S1 ++ T) G1 H1 S env σ m1 _ _ st1 p1 fun y m2 u G2 H2 S2 p2 s2 st2 b2 => by
    have t1 := bo_tp (T := S2 ++ (S1 ++ T)) st2 (bo_sub s2 (B := S2 ++ (S1 ++ T) ++ S) (fun x hx => by rcases List.mem_append.mp hx with q | q <;> simp [q]) b1)
    have t2 := bo_tp (T := S2 ++ (S1 ++ T)) st2 (bo_sub (Same.refl _) (B := S2 ++ (S1 ++ T) ++ S) (fun x hx => by rcases List.mem_append.mp hx with q | q <;> simp [q]) b2)
    refine o G2 H2 v u x y _ _ st2.v t1 t2 p2 fun z w pz n => ?_
    exact k z m2 w G2 H2 pz (s1.trans s2) st2.dropT.dropT n
theorem s_un {r : V → Hp → VK → Prop} {f : D → (D → Prop) → Prop} {ta : TE} {va : VE} (o : UnV c.K r f) (ha : SB c Γ ta va) : SO c Γ (tUn r ta) (vUn f va) := fun T G H S env σ m P Q st hv k =>
  ha T G H S env σ m _ _ st hv fun x m1 v G1 H1 S1 p1 s1 st1 b1 => by
    have t1 := bo_tp (T := S1 ++ T) st1 (bo_sub (Same.refl _) (B := S1 ++ T ++ S) (fun x hx => by rcases List.mem_append.mp hx with q | q <;> simp [q]) b1)
    refine o G1 H1 v x _ _ st1.v t1 p1 fun z w H' pz n => ?_
    obtain ⟨G3, S3, s3, st3, q3⟩ := Nw.own (T := T) (by
      obtain ⟨s, C, w, a, z⟩ := st1
      exact ⟨s, C, by rw [List.append_assoc] at w; exact w.dropL, a, z⟩) n
    exact k z m1 w G3 H' S3 pz (s1.trans s3) st3 q3
theorem s_cb {r : List V → Hp → VK → Prop} {f : List D → (D → Prop) → Prop} {ta : TA} {va : VA} (o : ClV c.K r f) (ha : SA c Γ ta va) : SO c Γ (tCB r ta) (vCB f va) := fun T G H S env σ m P Q st hv k =>
  ha T G H S env σ m _ _ st hv fun x m1 v G1 H1 S1 p1 s1 st1 b1 => by
    have t1 := BoAll.tp (T := S1 ++ T) st1 (b1.mono (Same.refl _) (B := S1 ++ T ++ S) (fun x hx => by rcases List.mem_append.mp hx with q | q <;> simp [q]))
    refine o G1 H1 v x _ _ st1.v t1 p1 fun z w H' pz n => ?_
    obtain ⟨G3, S3, s3, st3, q3⟩ := Nw.own (T := T) (by
      obtain ⟨s, C, w, a, z⟩ := st1
      exact ⟨s, C, by rw [List.append_assoc] at w; exact w.dropL, a, z⟩) n
    exact k z m1 w G3 H' S3 pz (s1.trans s3) st3 q3
theorem s_lst {ta : TA} {va : VA} (ha : SG c Γ ta va) : SO c Γ (tLst ta) (vLst va) := fun T G H S env σ m P Q st hv k =>
  ha T G H S env σ m _ _ st hv fun ds m1 vs G1 H1 p1 s1 st1 b1 => ⟨by rw [b1.len]; exact p1.1, fun p hp => by
    obtain ⟨G3, S3, s3, st3, q3⟩ := Nw.own st1 (.lst hp b1)
    exact k _ m1 _ G3 _ S3 p1.2 (s1.trans s3) st3 q3⟩
theorem s_tup {ta : TA} {va : VA} (ha : SG c Γ ta va) : SO c Γ (tTup ta) (vTup va) := fun T G H S env σ m P Q st hv k =>
  ha T G H S env σ m _ _ st hv fun ds m1 vs G1 H1 p1 s1 st1 b1 => ⟨by rw [b1.len]; exact p1.1, fun p hp => by
    obtain ⟨G3, S3, s3, st3, q3⟩ := Nw.own st1 (.tup hp b1)
    exact k _ m1 _ G3 _ S3 p1.2 (s1.trans s3) st3 q3⟩
theorem Dd.blInv {K : PySem.W.Frag} {b : Bool} (h : Dd K G v (.bl b)) : v = .bl b := by cases h; rfl
theorem Tp.blInv {K : PySem.W.Frag} {b : Bool} (h : Tp K G H v (.bl b)) : v = .bl b := by cases h with | dd h => exact h.blInv
theorem s_test {ta : TE} {va : VE} (ha : SB c Γ ta va) : ST c Γ (tTest ta) (vTest va) := fun T G H S env σ m P Q st hv k =>
  ha T G H S env σ m _ _ st hv fun x m1 v G1 H1 S1 p1 s1 st1 b1 => by
    obtain ⟨b, rfl, p⟩ := p1
    have t1 := bo_tp (T := S1 ++ T) st1 (bo_sub (Same.refl _) (B := S1 ++ T ++ S) (fun x hx => by rcases List.mem_append.mp hx with q | q <;> simp [q]) b1)
    exact ⟨b, t1.blInv, k b m1 G1 H1 S1 p s1 st1⟩
theorem s_and {a b : TT} {x y : VT} (ha : ST c Γ a x) (hb : ST c Γ b y) : ST c Γ (tAnd a b) (vAnd x y) := fun T G H S env σ m P Q st hv k =>
  ha T G H S env σ m _ _ st hv fun z m1 G1 H1 S1 p1 s1 st1 => by
    cases z with
    | true =>
      rw [if_pos rfl] at p1 ⊢
      exact hb (S1 ++ T) G1 H1 S env σ m1 _ _ st1 p1 fun b m2 G2 H2 S2 p2 s2 st2 => k b m2 G2 H2 (S2 ++ S1) p2 (s1.trans s2) (by rw [List.append_assoc]; exact st2)
    | false =>
      rw [if_neg Bool.false_ne_true] at p1 ⊢
      exact k _ m1 G1 H1 S1 p1 s1 st1
theorem s_or {a b : TT} {x y : VT} (ha : ST c Γ a x) (hb : ST c Γ b y) : ST c Γ (tOr a b) (vOr x y) := fun T G H S env σ m P Q st hv k =>
  ha T G H S env σ m _ _ st hv fun z m1 G1 H1 S1 p1 s1 st1 => by
    cases z with
    | true =>
      rw [if_pos rfl] at p1 ⊢
      exact k _ m1 G1 H1 S1 p1 s1 st1
    | false =>
      rw [if_neg Bool.false_ne_true] at p1 ⊢
      exact hb (S1 ++ T) G1 H1 S env σ m1 _ _ st1 p1 fun b m2 G2 H2 S2 p2 s2 st2 => k b m2 G2 H2 (S2 ++ S1) p2 (s1.trans s2) (by rw [List.append_assoc]; exact st2)
theorem s_not {a : TT} {x : VT} (ha : ST c Γ a x) : ST c Γ (tNot a) (vNot x) := fun T G H S env σ m P Q st hv k =>
  ha T G H S env σ m _ _ st hv fun z m1 G1 H1 S1 p1 s1 st1 => k (!z) m1 G1 H1 S1 p1 s1 st1
theorem s_yes : ST c Γ tYes vYes := fun T G H S env σ m P Q st hv k => k true m G H [] hv (Same.refl G) st
theorem s_tru {ta : TE} {va : VE} (ha : SB c Γ ta va) : ST c Γ (tTru c.K ta) (vTru va) := fun T G H S env σ m P Q st hv k =>
  ha T G H S env σ m _ _ st hv fun x m1 v G1 H1 S1 p1 s1 st1 b1 => by
    have t1 := bo_tp (T := S1 ++ T) st1 (bo_sub (Same.refl _) (B := S1 ++ T ++ S) (fun x hx => by rcases List.mem_append.mp hx with q | q <;> simp [q]) b1)
    have sv := st1.v
    have em : ∀ {vs : List V} {ds : List D} {G : Hp}, DdAll c.K G vs ds → vs.isEmpty = ds.isEmpty := fun h => by cases h <;> rfl
    cases x with
    | non => cases t1 with | dd h => cases h; exact ⟨false, rfl, k _ m1 G1 H1 S1 p1 s1 st1⟩
    | bl b => cases t1 with | dd h => cases h; exact ⟨b, rfl, k _ m1 G1 H1 S1 p1 s1 st1⟩
    | int b => cases t1 with | dd h => cases h; exact ⟨_, rfl, k _ m1 G1 H1 S1 p1 s1 st1⟩
    | str b => cases t1 with | dd h => cases h; exact ⟨_, ⟨p1.1, rfl⟩, k _ m1 G1 H1 S1 p1.2 s1 st1⟩
    | lst ds =>
      obtain ⟨a, vs, rfl, h1, h2⟩ := t1.l sv
      exact ⟨_, .inl ⟨vs, SqL.of h1, rfl⟩, by rw [em h2]; exact k _ m1 G1 H1 S1 p1 s1 st1⟩
    | tup ds =>
      obtain ⟨a, vs, rfl, _, h1, h2⟩ := t1.t sv
      exact ⟨_, .inr (.inl ⟨vs, h1, rfl⟩), by rw [em h2]; exact k _ m1 G1 H1 S1 p1 s1 st1⟩
    | _ => exact p1.elim
end
end Ps
namespace Ps
open PySem PySem.Spec PyProof.Rows L2
abbrev VO := Env → Mst → (Option Int → Mst → Prop) → Prop
def vNoPart : VO := fun _ m P => P none m
def vPart (ve : VE) : VO := fun env m P => ve env m fun x m1 => ∃ i, x = .int i ∧ P (some i) m1
def vSl (f : D → Option Int → Option Int → (D → Prop) → Prop) (ve : VE) (vl vh : VO) : VE := fun env m P => ve env m fun x m1 => vl env m1 fun l m2 => vh env m2 fun h m3 => f x l h fun z => P z m3
def isTy : String → D → Bool
  | "str", .str _ => true
  | "list", .lst _ => true
  | _, _ => false
def vBMt (T : String) (f : D → List D → (D → Prop) → Prop) (ve : VE) (va : VA) : VE := fun env m P => ve env m fun x m1 => isTy T x = true ∧ va env m1 fun xs m2 => f x xs fun z => P z m2
section
variable {c : JC} {Γ : List OT} {G G' H H' : Hp} {T S S1 S2 R : List (Addr × HO)} {env : Env} {σ : L2.St} {m : Mst} {v : V} {d : D}
theorem tp_ty {K : PySem.W.Frag} {T : String} (s : Same G H) (h : Tp K G H v d) (e : isTy T d = true) : tyV K T v H := by
  unfold isTy at e
  split at e
  · cases h with | dd h => cases h; rfl
  · obtain ⟨a, vs, rfl, h1, h2⟩ := h.l s; exact .inl ⟨rfl, _, SqL.of h1⟩
  · cases e
theorem s_bm {T : String} {r : V → List V → Hp → VK → Prop} {f : D → List D → (D → Prop) → Prop} {te : TE} {ve : VE} {ta : TA} {va : VA} (o : MtV c.K T r f) (he : SB c Γ te ve) (ha : SA c Γ ta va) : SO c Γ (tBM c.K T r te ta) (vBMt T f ve va) := fun T' G H S env σ m P Q st hv k =>
  he T' G H S env σ m _ _ st hv fun x m1 v G1 H1 S1 p1 s1 st1 b1 => by
    have t0 := bo_tp (T := S1 ++ T') st1 (bo_sub (Same.refl _) (B := S1 ++ T' ++ S) (fun x hx => by rcases List.mem_append.mp hx with q | q <;> simp [q]) b1)
    refine ⟨tp_ty st1.v t0 p1.1, ha (S1 ++ T') G1 H1 S env σ m1 _ _ st1 p1.2 fun xs m2 vs G2 H2 S2 p2 s2 st2 b2 => ?_⟩
    have t1 := bo_tp (T := S2 ++ (S1 ++ T')) st2 (bo_sub s2 (B := S2 ++ (S1 ++ T') ++ S) (fun x hx => by rcases List.mem_append.mp hx with q | q <;> simp [q]) b1)
    have t2 := BoAll.tp (T := S2 ++ (S1 ++ T')) st2 (b2.mono (Same.refl _) (B := S2 ++ (S1 ++ T') ++ S) (fun x hx => by rcases List.mem_append.mp hx with q | q <;> simp [q]))
    refine o G2 H2 v x vs xs _ _ st2.v t1 t2 p2 fun z w H' pz n => ?_
    obtain ⟨G3, S3, s3, st3, q3⟩ := Nw.own (T := T') st2.dropT.dropT n
    exact k z m2 w G3 H' S3 pz (s1.trans (s2.trans s3)) st3 q3
theorem s_ifF {tt : TT} {vt : VT} {ta tb : TE} {va vb : VE} (ht : ST c Γ tt vt) (ha : SF c Γ ta va) (hb : SF c Γ tb vb) : SF c Γ (tIf tt ta tb) (vIfE vt va vb) := fun T G H S env σ m P Q st hv k =>
  ht T G H S env σ m _ _ st hv fun b m1 G1 H1 S1 p1 s1 st1 => by
    cases b with
    | true =>
      rw [if_pos rfl] at p1 ⊢
      exact ha T G1 H1 S env σ m1 _ _ st1.dropT p1 fun d m' v G' H' p s st' q => k d m' v G' H' p (s1.trans s) st' q
    | false =>
      rw [if_neg Bool.false_ne_true] at p1 ⊢
      exact hb T G1 H1 S env σ m1 _ _ st1.dropT p1 fun d m' v G' H' p s st' q => k d m' v G' H' p (s1.trans s) st' q
theorem SB.tp {te : TE} {ve : VE} (h : SB c Γ te ve) {P : D → Mst → Prop} {Q : VK} (st : Stx c Γ G H T S env σ m) (hv : ve env m P)
    (k : ∀ d m' v G' H' S1, P d m' → Same G G' → Stx c Γ G' H' (S1 ++ T) S env σ m' → Tp c.K G' H' v d → Q v H') : te σ H Q :=
  h T G H S env σ m _ _ st hv fun x m1 v G1 H1 S1 p1 s1 st1 b1 => k x m1 v G1 H1 S1 p1 s1 st1
    (bo_tp (T := S1 ++ T) st1 (bo_sub (Same.refl _) (B := S1 ++ T ++ S) (fun x hx => by rcases List.mem_append.mp hx with q | q <;> simp [q]) b1))
def SP (c : JC) (Γ : List OT) (tl : TO) (vl : VO) : Prop := ∀ (T : List (Addr × HO)) (G H : Hp) (S : List (Addr × HO)) (env : Env) (σ : L2.St) (m : Mst) (P : Option Int → Mst → Prop) (Q : Option Int → Hp → Prop), Stx c Γ G H T S env σ m → vl env m P →
  (∀ x m' G' H' S1, P x m' → Same G G' → Stx c Γ G' H' (S1 ++ T) S env σ m' → Q x H') → tl σ H Q
theorem s_nopart : SP c Γ tNoPart vNoPart := fun T G H S env σ m P Q st hv k => k none m G H [] hv (Same.refl G) st
theorem Tp.intInv {K : PySem.W.Frag} {i : Int} (h : Tp K G H v (.int i)) : v = .int i := by cases h with | dd h => cases h; rfl
theorem Tp.strInv {K : PySem.W.Frag} {i : Str} (h : Tp K G H v (.str i)) : v = .str i := by cases h with | dd h => cases h; rfl
theorem s_part {te : TE} {ve : VE} (he : SB c Γ te ve) : SP c Γ (tPart te) (vPart ve) := fun T G H S env σ m P Q st hv k =>
  he.tp st hv fun x m1 v G1 H1 S1 p1 s1 st1 t1 => by
    obtain ⟨i, rfl, p⟩ := p1
    exact ⟨i, t1.intInv, k _ m1 G1 H1 S1 p s1 st1⟩
def SlV (K : PySem.W.Frag) (r : V → Option Int → Option Int → Hp → VK → Prop) (f : D → Option Int → Option Int → (D → Prop) → Prop) : Prop :=
  ∀ (G H : Hp) (x : V) (d : D) (lo hi : Option Int) (P : D → Prop) (Q : VK), Same G H → Tp K G H x d → f d lo hi P → (∀ z v H', P z → Nw K G H v H' z → Q v H') → r x lo hi H Q
theorem s_sl {r : V → Option Int → Option Int → Hp → VK → Prop} {f : D → Option Int → Option Int → (D → Prop) → Prop} {te : TE} {ve : VE} {tl th : TO} {vl vh : VO} (o : SlV c.K r f) (he : SB c Γ te ve) (hl : SP c Γ tl vl) (hh : SP c Γ th vh) : SO c Γ (tSl r te tl th) (vSl f ve vl vh) := fun T G H S env σ m P Q st hv k =>
  he T G H S env σ m _ _ st hv fun x m1 v G1 H1 S1 p1 s1 st1 b1 => hl (S1 ++ T) G1 H1 S env σ m1 _ _ st1 p1 fun lo m2 G2 H2 S2 p2 s2 st2 => hh (S2 ++ (S1 ++ T)) G2 H2 S env σ m2 _ _ st2 p2 fun hi m3 G3 H3 S3 p3 s3 st3 => by
    have t1 := bo_tp (T := S3 ++ (S2 ++ (S1 ++ T))) st3 (bo_sub (s2.trans s3) (B := S3 ++ (S2 ++ (S1 ++ T)) ++ S) (fun x hx => by rcases List.mem_append.mp hx with q | q <;> simp [q]) b1)
    refine o G3 H3 v x lo hi _ _ st3.v t1 p3 fun z w H' pz n => ?_
    obtain ⟨G4, S4, s4, st4, q4⟩ := Nw.own (T := T) st3.dropT.dropT.dropT n
    exact k z m3 w G4 H' S4 pz (s1.trans (s2.trans (s3.trans s4))) st4 q4
theorem Wd.toC {A B C R : List (Addr × HO)} (w : Wd (A ++ (B ++ (C ++ R))) G H) : Wd (C ++ (A ++ (B ++ R))) G H := w.perm (by
  have h1 : (C ++ (A ++ (B ++ R))).Perm (A ++ (C ++ (B ++ R))) := List.perm_append_comm_assoc C A (B ++ R)
  have h2 : (C ++ (B ++ R)).Perm (B ++ (C ++ R)) := List.perm_append_comm_assoc C B R
  exact h1.trans (h2.append_left A))
theorem Wd.ofC {A B C R : List (Addr × HO)} (w : Wd (C ++ (A ++ (B ++ R))) G H) : Wd (A ++ (B ++ (C ++ R))) G H := w.perm (by
  have h1 : (C ++ (A ++ (B ++ R))).Perm (A ++ (C ++ (B ++ R))) := List.perm_append_comm_assoc C A (B ++ R)
  have h2 : (C ++ (B ++ R)).Perm (B ++ (C ++ R)) := List.perm_append_comm_assoc C B R
  exact (h1.trans (h2.append_left A)).symm)
theorem run_spV {t : OT} {vsp : VSp} {W : XK} {VX : XV} (st : Stx c Γ G H T S env σ m) {vs : List V} {ds : List D} (h : DdAll c.K G vs ds) {P : D → Mst → Prop} {Q : VK} (hv : vsp ds m P VX)
    (k : ∀ d m' v G' H' S1, P d m' → Same G G' → Stx c Γ G' H' (S1 ++ T) S env σ m' → Own c.K G' t S1 v d → Q v H')
    (kx : ∀ C fs m' dd G' H', VX C fs m' → Same G G' → Stx c Γ G' H' T S env σ m' → ExcAt c.K G' dd fs → W (.ref C) dd H') : spV c.K t vsp vs H Q W := by
  obtain ⟨s, C, w, a, z⟩ := st
  refine ⟨ds, G, T ++ (S ++ c.R), C, m, P, VX, w.toC, a, h, hv, fun d m' v H' G' S1 C' p s' w' a' o => ?_, fun cl fs m' dd H' G' C' p s' w' a' o => ?_⟩
  · refine k d m' v G' H' S1 p s' ⟨s.trans s', C', ?_, a', z.mono s'⟩ o
    rw [List.append_assoc]
    refine w'.perm (List.Perm.append_left S1 ?_)
    have h1 : (C' ++ (T ++ (S ++ c.R))).Perm (T ++ (C' ++ (S ++ c.R))) := List.perm_append_comm_assoc C' T (S ++ c.R)
    have h2 : (C' ++ (S ++ c.R)).Perm (S ++ (C' ++ c.R)) := List.perm_append_comm_assoc C' S c.R
    exact (h1.trans (h2.append_left T)).symm
  · exact kx cl fs m' dd G' H' p s' ⟨s.trans s', C', w'.ofC, a', z.mono s'⟩ o
theorem s_callF {vsp : VSp} {E : XK} {ta : TA} {va : VA} (ha : SG c Γ ta va) : SF c Γ (tCall (spV c.K .F vsp) [] E ta) (vCall vsp va) := fun T G H S env σ m P Q st hv k =>
  ha T G H S env σ m _ _ st hv fun ds m1 vs G1 H1 p1 s1 st1 b1 => by
    rw [List.append_nil]
    exact run_spV st1 b1 p1 (fun d m' v G' H' S1 p s st' o => by
      obtain ⟨rfl, o⟩ := o
      exact k d m' v G' H' p (s1.trans s) st' o) fun _ _ _ _ _ _ h => h.elim
theorem s_callO {vsp : VSp} {E : XK} {ta : TA} {va : VA} (ha : SG c Γ ta va) : SO c Γ (tCall (spV c.K .O vsp) [] E ta) (vCall vsp va) := fun T G H S env σ m P Q st hv k =>
  ha T G H S env σ m _ _ st hv fun ds m1 vs G1 H1 p1 s1 st1 b1 => by
    rw [List.append_nil]
    exact run_spV st1 b1 p1 (fun d m' v G' H' S1 p s st' o => k d m' v G' H' S1 p (s1.trans s) st' o) fun _ _ _ _ _ _ h => h.elim
noncomputable def allBut (H : Hp) (C : List (Addr × HO)) : Hp := fun a => open Classical in if a ∈ C.map Prod.fst then none else H a
theorem allBut_of {C : List (Addr × HO)} {a : Addr} (h : a ∉ C.map Prod.fst) : allBut H C a = H a := by unfold allBut; rw [if_neg h]
theorem allBut_ge {C : List (Addr × HO)} (w : Wd C G H) : Same G (allBut H C) := fun a o e => by
  by_cases h : a ∈ C.map Prod.fst
  · obtain ⟨x, hx, rfl⟩ := List.mem_map.mp h
    rw [(w.2.1 x hx).2] at e; cases e
  · rw [allBut_of h]; exact w.1 _ _ e
theorem wd_apart {A B : List (Addr × HO)} (w : Wd (A ++ B) G H) {x : Addr × HO} (hx : x ∈ A) : x.1 ∉ B.map Prod.fst := fun h => by
  have nd := w.2.2
  rw [List.map_append] at nd
  exact (List.nodup_append.mp nd).2.2 x.1 (List.mem_map.mpr ⟨x, hx, rfl⟩) x.1 h rfl
theorem Bo.all {A B : List (Addr × HO)} {t : OT} (w : Wd (A ++ B) G H) {K : PySem.W.Frag} (b : Bo K G A t v d) : Dd K (allBut H B) v d := by
  have hg : Same G (allBut H B) := allBut_ge w.dropL
  obtain ⟨S', h1, h2⟩ := b
  have hm : ∀ x ∈ S', allBut H B x.1 = some x.2 := fun x hx => by
    rw [allBut_of (wd_apart w (h1 x hx))]
    exact w.mem (List.mem_append_left _ (h1 x hx))
  cases t with
  | F => exact h2.2.mono hg
  | O =>
    cases d with
    | lst ds =>
      obtain ⟨a, vs, rfl, rfl, h⟩ := h2
      exact .lst (hm _ List.mem_cons_self) (h.mono hg)
    | dic kds =>
      obtain ⟨a, vs, rfl, rfl, e, h⟩ := h2
      exact .dic (.inl (hm _ List.mem_cons_self)) e rfl rfl rfl (h.mono hg)
    | _ => exact h2.2.mono hg
theorem BoAll.all {A B : List (Addr × HO)} (w : Wd (A ++ B) G H) {K : PySem.W.Frag} {vs : List V} {ds : List D} (b : BoAll K G A vs ds) : DdAll K (allBut H B) vs ds := by
  induction b with
  | nil => exact .nil
  | cons b _ ih => exact .cons (b.elim fun t b => b.all w) ih
inductive D.Im : D → Prop
  | non : D.Im .non
  | bl (b : Bool) : D.Im (.bl b)
  | int (i : Int) : D.Im (.int i)
  | str (s : Str) : D.Im (.str s)
  | ty (n : String) : D.Im (.ty n)
  | adr (a : Addr) : D.Im (.adr a)
  | tup {ds : List D} : (∀ d ∈ ds, D.Im d) → D.Im (.tup ds)
def D.Fr (d : D) : Prop := D.Im d ∨ ∃ ds, d = .lst ds ∧ ∀ x ∈ ds, D.Im x
inductive Chg : HO → Prop
  | lst (vs : List V) : Chg (.lst vs)
  | dK (kvs : List (Key × V)) : Chg (.dK kvs)
  | ins (C dx : Addr) (fs : List (Str × V)) : Chg (.ins C dx fs)
  | own (a : Addr) : Chg (.own a)
  | ext (φ : Heap → Prop) : Chg (.ext φ)
  | frz (o : Obj) (u : HO) : Chg (.frz o u)
def TupS (G G' : Hp) : Prop := ∀ a o, G a = some o → ¬ Chg o → G' a = some o
theorem TupS.tup (s : TupS G G') {a : Addr} {vs : List V} (h : G a = some (.tup vs)) : G' a = some (.tup vs) := s _ _ h (fun z => by cases z)
theorem TupS.xd (s : TupS G G') {a : Addr} {vs : List (Str × V)} (h : G a = some (.xd vs)) : G' a = some (.xd vs) := s _ _ h (fun z => by cases z)
def D.isLck : D → Bool
  | .lck _ _ => true
  | .lct _ _ _ => true
  | _ => false
def unl : D → D
  | .lck _ kds => .dic kds
  | .lct w _ kds => .dct w kds
  | d => d
inductive Rs (s : Sto) : D → D → Prop
  | refl (d : D) : Rs s d d
  | lst {ds es : List D} : ds.length = es.length → (∀ (i : Nat) (d e : D), ds[i]? = some d → es[i]? = some e → Rs s d e) → Rs s (.lst ds) (.lst es)
  | tup {ds es : List D} : ds.length = es.length → (∀ (i : Nat) (d e : D), ds[i]? = some d → es[i]? = some e → Rs s d e) → Rs s (.tup ds) (.tup es)
  | ptr {a : Addr} {d e : D} (h : s a = some d) (r : Rs s d e) (hl : d.isLck = false := by rfl) : Rs s (.adr a) e
  | ptrK {a : Addr} {u : Obj × List (Key × V)} {kds : List (Key × D)} {e : D} : s a = some (.lck u kds) → Rs s (.dic kds) e → Rs s (.adr a) e
  | dic {ks : List Key} {ds es : List (Key × D)} : ds.map Prod.fst = ks → es.map Prod.fst = ks → (∀ (i : Nat) (d e : Key × D), ds[i]? = some d → es[i]? = some e → Rs s d.2 e.2) → Rs s (.dic ds) (.dic es)
def RsAll (s : Sto) (ds es : List D) : Prop := ds.length = es.length ∧ ∀ (i : Nat) (d e : D), ds[i]? = some d → es[i]? = some e → Rs s d e
theorem RsAll.refl (s : Sto) (ds : List D) : RsAll s ds ds := ⟨rfl, fun i d e h1 h2 => by rw [h1] at h2; cases h2; exact .refl d⟩
theorem RsAll.nil {s : Sto} : RsAll s [] [] := .refl _ _
theorem RsAll.cons {s : Sto} {d e : D} {ds es : List D} (h : Rs s d e) (t : RsAll s ds es) : RsAll s (d :: ds) (e :: es) :=
  ⟨by rw [List.length_cons, List.length_cons, t.1], fun i x y h1 h2 => by
    cases i with
    | zero => simp at h1 h2; subst h1; subst h2; exact h
    | succ i => exact t.2 i x y (by simpa using h1) (by simpa using h2)⟩
theorem Cells.at {K : PySem.W.Frag} {L : List (Addr × D)} {C : List (Addr × HO)} (h : Cells K G L C) : ∀ {a : Addr} {d : D}, L.lookup a = some d → ∃ A C1 B, C = A ++ (C1 ++ B) ∧ Cell K G a d C1 ∧
    ∀ (d' : D) (C1' : List (Addr × HO)), Cell K G a d' C1' → ∃ L', (∀ b, L'.lookup b = if b = a then some d' else L.lookup b) ∧ Cells K G L' (A ++ (C1' ++ B)) := by
  induction h with
  | nil => intro a d e; cases e
  | @cons b d0 L C1 C2 q r ih =>
    intro a d e
    rw [List.lookup_cons] at e
    by_cases z : a = b
    · subst z
      rw [beq_self_eq_true] at e
      cases e
      refine ⟨[], C1, C2, rfl, q, fun d' C1' q' => ⟨(a, d') :: L, fun b => ?_, by rw [List.nil_append]; exact .cons q' r⟩⟩
      rw [List.lookup_cons, List.lookup_cons]
      by_cases z : b = a
      · subst z; rw [beq_self_eq_true, if_pos rfl]
      · rw [beq_eq_false_iff_ne.mpr z, if_neg z]
    · rw [beq_eq_false_iff_ne.mpr z] at e
      obtain ⟨A, D1, B, e1, e2, e3⟩ := ih e
      refine ⟨C1 ++ A, D1, B, by rw [e1, List.append_assoc], e2, fun d' C1' q' => ?_⟩
      obtain ⟨L', e4, e5⟩ := e3 d' C1' q'
      refine ⟨(b, d0) :: L', fun x => ?_, by rw [List.append_assoc]; exact .cons q e5⟩
      rw [List.lookup_cons, List.lookup_cons]
      by_cases y : x = b
      · subst y; rw [beq_self_eq_true, if_neg (fun w => z w.symm)]
      · rw [beq_eq_false_iff_ne.mpr y]; exact e4 x
theorem Amb.at {K : PySem.W.Frag} {C : List (Addr × HO)} (h : Amb K G m C) {a : Addr} {d : D} (e : m.2 a = some d) : ∃ A C1 B, C = A ++ (C1 ++ B) ∧ Cell K G a d C1 ∧ ∀ (d' : D) (C1' : List (Addr × HO)), Cell K G a d' C1' → Amb K G (m.1, sput m.2 a d') (A ++ (C1' ++ B)) := by
  obtain ⟨D1, D2, rfl, am, L, l, c⟩ := h
  obtain ⟨A, C1, B, rfl, q, f⟩ := c.at (by rw [← l a]; exact e)
  refine ⟨D1 ++ A, C1, B, by rw [List.append_assoc], q, fun d' C1' q' => ?_⟩
  obtain ⟨L', e4, e5⟩ := f d' C1' q'
  refine ⟨D1, A ++ (C1' ++ B), by rw [List.append_assoc], am, L', fun b => ?_, e5⟩
  show sput m.2 a d' b = _
  unfold sput
  rw [e4 b, l b]
theorem Cell.dd {K : PySem.W.Frag} {G' : Hp} (s : Same G G') {a : Addr} {d : D} {C : List (Addr × HO)} (q : Cell K G a d C) (h : ∀ x ∈ C, G' x.1 = some x.2) : Dd K G' (.ref a) (unl d) := by
  cases d with
  | lck u ds => obtain ⟨rfl, e1, e⟩ := q; exact .dic (.inr ⟨u.1, h _ List.mem_cons_self⟩) e1 rfl rfl rfl (e.mono s)
  | lst ds => obtain ⟨vs, rfl, e⟩ := q; exact .lst (h _ List.mem_cons_self) (e.mono s)
  | dic ds => obtain ⟨vs, rfl, e1, e⟩ := q; exact .dic (.inl (h _ List.mem_cons_self)) e1 rfl rfl rfl (e.mono s)
  | obj Cl gs => obtain ⟨dx, fs, rfl, e1, e⟩ := q; exact .obj (h _ List.mem_cons_self) (h _ (List.mem_cons_of_mem _ List.mem_cons_self)) e1 rfl rfl rfl (e.mono s)
  | dcl w ds => obtain ⟨vs, rfl, e1, e⟩ := q; exact .dcl (h _ List.mem_cons_self) e1 rfl rfl rfl (e.mono s)
  | dct w ds => obtain ⟨vs, rfl, e1, e0, e⟩ := q; exact .dct (.inl (h _ List.mem_cons_self)) e1 (fun p hp => (e0 p hp).mono s) rfl rfl rfl (e.mono s)
  | lct w u ds => obtain ⟨rfl, e1, e0, e⟩ := q; exact .dct (.inr ⟨u.1, h _ List.mem_cons_self⟩) e1 (fun p hp => (e0 p hp).mono s) rfl rfl rfl (e.mono s)
  | _ => exact q.elim
def frOk : OT → D → Prop
  | .F, d => D.Im d
  | .O, d => D.Fr d
theorem Im.im {d : D} (h : D.Im d) : d.im = true := by cases h <;> rfl
def YD (K : PySem.W.Frag) (G : Hp) (ds : List D) : Nat → Hp → V → Hp → Prop := fun i H x H' => ∃ d, ds[i]? = some d ∧ ((H' = H ∧ Dd K G x d) ∨ ∃ p vs es, d = .tup es ∧ x = .ref p ∧ H p = none ∧ H' = upd H p (.tup vs) ∧ DdAll K G vs es)
def SI (c : JC) (Γ : List OT) (wi : TI) (vi : VA) : Prop := ∀ (T : List (Addr × HO)) (G H : Hp) (S : List (Addr × HO)) (env : Env) (σ : L2.St) (m : Mst) (P : List D → Mst → Prop) (R : It → Hp → Prop), Stx c Γ G H T S env σ m → vi env m P →
  (∀ ds m' J G' H', P ds m' → Same G G' → Stx c Γ G' H' T S env σ m' → Walk J ds.length (Same G') (YD c.K G' ds) → R J H') → wi σ H R
def signsOf (z : Str) : List D := z.cps.toList.map fun c => .str ⟨#[c]⟩
def itSeq : D → (List D → Mst → Prop) → Mst → Prop
  | .lst ds, P, m => P ds m
  | .tup ds, P, m => P ds m
  | .str z, P, m => P (signsOf z) m
  | _, _, _ => False
def vSeq (ve : VE) : VA := fun env m P => ve env m fun x m1 => itSeq x P m1
theorem DdAll.yat {K : PySem.W.Frag} {vs : List V} {ds : List D} (h : DdAll K G vs ds) {i : Nat} {x : V} {H H' : Hp} (y : YAt vs i H x H') : YD K G ds i H x H' := by
  obtain ⟨d, e, q⟩ := h.getV y.2
  exact ⟨d, e, .inl ⟨y.1, q⟩⟩
theorem i_seq {te : TE} {ve : VE} (he : SF c Γ te ve) : SI c Γ (iSeqV c.K te) (vSeq ve) := fun T G H S env σ m P R st hv k =>
  he T G H S env σ m _ _ st hv fun x m1 v G1 H1 p1 s1 st1 q1 => by
    cases q1 with
    | lst h1 h2 =>
      refine .inl ⟨_, _, rfl, SqL.of (st1.v _ _ h1), k _ m1 _ G1 H1 p1 s1 st1 ?_⟩
      rw [← h2.len]
      exact walk_list.mono (fun _ s => SqL.of (s _ _ h1)) fun i H x H' _ _ y => h2.yat y
    | tup h1 h2 =>
      refine .inr (.inl ⟨_, _, rfl, same_t st1.v h1.sq, k _ m1 _ G1 H1 p1 s1 st1 ?_⟩)
      rw [← h2.len]
      exact walk_tup.mono (fun _ s => same_t s h1.sq) fun i H x H' _ _ y => h2.yat y
    | str z =>
      refine .inr (.inr ⟨z, rfl, k _ m1 _ G1 H1 p1 s1 st1 ?_⟩)
      rw [show (signsOf z).length = z.cps.size by unfold signsOf; simp]
      refine walk_str.mono (fun _ _ => trivial) fun i H x H' _ _ y => ?_
      obtain ⟨rfl, c', ec, rfl⟩ := y
      refine ⟨.str ⟨#[c']⟩, ?_, .inl ⟨rfl, .str _⟩⟩
      unfold signsOf
      rw [List.getElem?_map, Array.getElem?_toList, ec]
      rfl
    | _ => exact p1.elim
def rangeD (lo : Int) (n : Nat) : List D := (List.range n).map fun (k : Nat) => .int (lo + (k : Int))
theorem rangeD_get {lo : Int} {n i : Nat} (h : i < n) : (rangeD lo n)[i]? = some (.int (lo + (i : Int))) := by
  unfold rangeD
  rw [List.getElem?_map, List.getElem?_range h]
  rfl
theorem rangeD_len {lo : Int} {n : Nat} : (rangeD lo n).length = n := by unfold rangeD; simp
def itRng : List D → (List D → Mst → Prop) → Mst → Prop
  | [.int j], P, m1 => (-(2 ^ 62) ≤ j ∧ j < 2 ^ 62) ∧ P (rangeD 0 j.toNat) m1
  | [.int i, .int j], P, m1 => (-(2 ^ 62) ≤ i ∧ i < 2 ^ 62 ∧ -(2 ^ 62) ≤ j ∧ j < 2 ^ 62) ∧ P (rangeD i (j - i).toNat) m1
  | _, _, _ => False
def vRng1 (va : VA) : VA := fun env m P => va env m fun xs m1 => ∃ j, xs = [.int j] ∧ itRng xs P m1
theorem BoAll.inv1 {K : PySem.W.Frag} {d : D} {vs : List V} (h : DdAll K G vs [d]) : ∃ v, vs = [v] ∧ Dd K G v d := by
  cases h with | cons h t => cases t; exact ⟨_, rfl, h⟩
theorem BoAll.inv2 {K : PySem.W.Frag} {d e : D} {vs : List V} (h : DdAll K G vs [d, e]) : ∃ v u, vs = [v, u] ∧ Dd K G v d ∧ Dd K G u e := by
  cases h with | cons h t => cases t with | cons h2 t => cases t; exact ⟨_, _, rfl, h, h2⟩
theorem Dd.intInv {K : PySem.W.Frag} {i : Int} (h : Dd K G v (.int i)) : v = .int i := by cases h; rfl
theorem i_rng1 {ta : TA} {va : VA} (ha : SG c Γ ta va) : SI c Γ (iRng1 ta) (vRng1 va) := fun T G H S env σ m P R st hv k =>
  ha T G H S env σ m (fun ds m1 => ∃ j, ds = [.int j] ∧ itRng ds P m1) _ st hv fun ds m1 vs G1 H1 p1 s1 st1 q1 => by
    obtain ⟨j, rfl, p1⟩ := p1
    obtain ⟨v, rfl, h⟩ := BoAll.inv1 q1
    obtain rfl := h.intInv
    have p1 : (-(2 ^ 62) ≤ j ∧ j < 2 ^ 62) ∧ P (rangeD 0 j.toNat) m1 := p1
    refine ⟨j, rfl, p1.1.1, p1.1.2, k _ m1 _ G1 H1 p1.2 s1 st1 ?_⟩
    rw [rangeD_len]
    exact walk_range.mono (fun _ _ => trivial) fun i H x H' hi _ y => ⟨_, rangeD_get hi, .inl ⟨y.1, by rw [y.2]; exact .int _⟩⟩
def zipD (a b : List D) : List D := List.zipWith (fun x y => D.tup [x, y]) a b
def itZip : List D → (List D → Mst → Prop) → Mst → Prop
  | [.lst a, .lst b], P, m1 => P (zipD a b) m1
  | [.tup a, .tup b], P, m1 => P (zipD a b) m1
  | _, _, _ => False
def enumD (a : List D) : List D := zipD (rangeD 0 a.length) a
def itEnum : List D → (List D → Mst → Prop) → Mst → Prop
  | [.lst a], P, m1 => P (enumD a) m1
  | [.tup a], P, m1 => P (enumD a) m1
  | [.str z], P, m1 => P (enumD (signsOf z)) m1
  | _, _, _ => False
def itRev : D → (List D → Mst → Prop) → Mst → Prop
  | .lst a, P, m1 => P a.reverse m1
  | .tup a, P, m1 => P a.reverse m1
  | _, _, _ => False
end
end Ps
namespace Ps
open PySem PySem.Spec PyProof.Rows L2
abbrev VG := D → Env → (Env → Prop) → Prop
abbrev VGs := List D → Env → (Env → Prop) → Prop
def vgName (i : Nat) : VG := fun d env P => P (env.set i (some d))
def vgNil : VGs := fun ds env P => ds = [] ∧ P env
def vgCons (g : VG) (gs : VGs) : VGs := fun ds env P => match ds with
  | d :: r => g d env fun e => gs r e P
  | [] => False
def vgTup (n : Nat) (gs : VGs) : VG := fun d env P => match d with
  | .tup ds => ds.length = n ∧ gs ds env P
  | _ => False
def vgTupU (n : Nat) (gs : VGs) : VG := fun d env P => match d with
  | .tup ds => ds.length = n ∧ gs ds env P
  | .lst ds => ds.length = n ∧ gs ds env P
  | _ => False
def wipeE (env : Env) : List Nat → Env
  | [] => env
  | v :: vs => (wipeE env vs).set v none
def lcD (items : List D) (vg : VG) (vt : VT) (ve : VE) (vs : List Nat) (env : Env) (m1 : Mst) (P : D → Mst → Prop) : Prop := ∃ W : Nat → List D → Mst → Prop, W 0 [] m1 ∧
  (∀ i acc m' d, W i acc m' → items[i]? = some d → vg d (wipeE env vs) fun e1 => vt e1 m' fun b m2 => if b = true then ve e1 m2 fun y m3 => acc.length < sizeLine ∧ W (i + 1) (acc ++ [y]) m3 else W (i + 1) acc m2) ∧
  ∀ acc m', W items.length acc m' → P (.lst acc) m'
def vLc (vi : VA) (vg : VG) (vt : VT) (ve : VE) (vs : List Nat) : VE := fun env m P => vi env m fun items m1 => lcD items vg vt ve vs env m1 P
def vNext : VS := fun V env m => V.nx env m
def vSeqS (a b : VS) : VS := fun V env m => a { V with nx := b V } env m
def vAsg (ve : VE) (vg : VG) : VS := fun V env m => ve env m fun d m1 => vg d env fun e1 => V.nx e1 m1
def vDrop (ve : VE) : VS := fun V env m => ve env m fun _ m1 => V.nx env m1
def vRet (ve : VE) : VS := fun V env m => ve env m V.rt
def vIf (vt : VT) (a b : VS) : VS := fun V env m => vt env m fun x m1 => if x = true then a V env m1 else b V env m1
def forD (ws : List Nat) (items : List D) (vg : VG) (vb : VS) (V : VEnds) (env : Env) (m1 : Mst) : Prop := ∃ W : Nat → Env → Mst → Prop, W 0 (wipeE env ws) m1 ∧
  (∀ i e m' d, W i e m' → items[i]? = some d → vg d e fun e1 => vb { V with nx := fun e2 m2 => W (i + 1) (wipeE e2 ws) m2, ct := fun e2 m2 => W (i + 1) (wipeE e2 ws) m2, bk := fun e2 m2 => V.nx (wipeE e2 ws) m2 } e1 m') ∧ ∀ e m', W items.length e m' → V.nx e m'
def vFor (ws : List Nat) (vi : VA) (vg : VG) (vb : VS) : VS := fun V env m => vi env m fun items m1 => forD ws items vg vb V env m1
def vWhile (ws : List Nat) (vt : VT) (vb : VS) : VS := fun V env m => ∃ W : Nat → Env → Mst → Prop, (∃ n, W n (wipeE env ws) m) ∧
  ∀ n e m', W n e m' → vt e m' fun b m1 => if b = true then vb { V with nx := fun e2 m2 => ∃ n', n' < n ∧ W n' (wipeE e2 ws) m2, ct := fun e2 m2 => ∃ n', n' < n ∧ W n' (wipeE e2 ws) m2, bk := fun e2 m2 => V.nx (wipeE e2 ws) m2 } e m1 else V.nx e m1
def vAug (i : Nat) (f : D → D → (D → Prop) → Prop) (ve : VE) : VS := fun V env m => ∃ x, env[i]? = some (some x) ∧ ve env m fun y m1 => f x y fun z => V.nx (env.set i (some z)) m1
def vPar (i j : Nat) (va : VA) : VS := fun V env m => va env m fun ds m1 => match ds with
  | [d, e] => V.nx ((env.set i (some d)).set j (some e)) m1
  | _ => False
def vMut (i : Nat) (f : List D → List D → (List D → D → Prop) → Prop) (va : VA) : VS := fun V env m => ∃ ds, env[i]? = some (some (.lst ds)) ∧ va env m fun xs m1 => f ds xs fun ds' z => V.nx (env.set i (some (.lst ds'))) m1
def dKey : D → Option Key
  | .int i => some (.inl i)
  | .str s => some (.inr s)
  | _ => none
def dput (kvs : List (Key × D)) (k : Key) (d : D) : List (Key × D) := if (kvs.any fun kv => decide (kv.1 = k)) = true then kvs.map (fun kv => if kv.1 = k then (kv.1, d) else kv) else kvs ++ [(k, d)]
def dget (kvs : List (Key × D)) (k : Key) : Option D := (kvs.find? fun kv => decide (kv.1 = k)).map (·.2)
def vPut (i : Nat) (ve vk : VE) : VS := fun V env m => ve env m fun d m1 => ∃ x, env[i]? = some (some x) ∧ vk env m1 fun y m2 => match x, y with
  | .lst ds, .int k => ∃ j, ixN ds.length k = some j ∧ V.nx (env.set i (some (.lst (ds.set j d)))) m2
  | .dic kds, y => ∃ k, dKey y = some k ∧ kds.length < sizeLine ∧ V.nx (env.set i (some (.dic (dput kds k d)))) m2
  | _, _ => False
section
variable {c : JC} {Γ Γ1 Γ2 Γn Γb Γc : List OT} {G G' H H' : Hp} {T S S1 S2 R : List (Addr × HO)} {env : Env} {σ : L2.St} {m : Mst} {v : V} {d : D} {t : OT} {i j : Nat} {is : List Nat}
theorem Slots.setF {K : PySem.W.Frag} (h : Slots K G Γ S env σ) : ∀ {i : Nat} {o : Option D} {o' : Option V}, Γ[i]? = some .F → (o = none ∨ ∃ d v, o = some d ∧ o' = some v ∧ Dd K G v d) → Slots K G Γ S (env.set i o) (σ.set i o') := by
  induction h with
  | nil => intro i o o' h1 h2; simp at h1
  | @no t0 Γ S env o0 σ h ih =>
    intro i o o' h1 h2
    cases i with
    | zero =>
      simp at h1
      subst h1
      rw [List.set_cons_zero, List.set_cons_zero]
      rcases h2 with rfl | ⟨d, v, rfl, rfl, q⟩
      · exact .no h
      · exact .yes (S1 := []) ⟨rfl, q⟩ h
    | succ i =>
      rw [List.set_cons_succ, List.set_cons_succ]
      exact .no (ih (by simpa using h1) h2)
  | @yes t0 Γ S1 S env d0 v0 σ h hs ih =>
    intro i o o' h1 h2
    cases i with
    | zero =>
      simp at h1
      subst h1
      obtain ⟨rfl, h⟩ := h
      rw [List.set_cons_zero, List.set_cons_zero]
      rcases h2 with rfl | ⟨d, v, rfl, rfl, q⟩
      · exact .no hs
      · exact .yes (S1 := []) ⟨rfl, q⟩ hs
    | succ i =>
      rw [List.set_cons_succ, List.set_cons_succ]
      exact .yes h (ih (by simpa using h1) h2)
theorem Slots.wipeF {K : PySem.W.Frag} (h : Slots K G Γ S env σ) : ∀ {vs : List Nat}, (vs.all fun i => decide (Γ[i]? = some .F)) = true → Slots K G Γ S (wipeE env vs) (wipe σ vs)
  | [], _ => h
  | v :: vs, e => by
    rw [List.all_cons, Bool.and_eq_true] at e
    exact (Slots.wipeF h e.2).setF (of_decide_eq_true e.1) (.inl rfl)
theorem wipe_in {σ : L2.St} {i : Nat} : ∀ {vs : List Nat}, i ∈ vs → i < σ.length → (wipe σ vs)[i]? = some none
  | [], h, _ => absurd h (by simp)
  | v :: vs, h, hl => by
    unfold wipe
    by_cases e : v = i
    · subst e
      rw [List.getElem?_set_self (by rw [wipe_length]; exact hl)]
    · rw [List.getElem?_set_ne e]
      exact wipe_in (by rcases List.mem_cons.mp h with q | q; exact absurd q.symm e; exact q) hl
theorem wipe_eq {σ σ' : L2.St} {vs : List Nat} (hl : σ'.length = σ.length) (h : ∀ j, j ∉ vs → σ'[j]? = σ[j]?) : wipe σ' vs = wipe σ vs := by
  refine List.ext_getElem? fun j => ?_
  by_cases e : j ∈ vs
  · by_cases hj : j < σ.length
    · rw [wipe_in e (by omega), wipe_in e hj]
    · rw [List.getElem?_eq_none (by rw [wipe_length]; omega), List.getElem?_eq_none (by rw [wipe_length]; omega)]
  · rw [wipe_out e, wipe_out e, h j e]
theorem wipe_wipe (σ : L2.St) (vs : List Nat) : wipe (wipe σ vs) vs = wipe σ vs := wipe_eq (wipe_length σ vs) fun j h => wipe_out h
def SGt (c : JC) (Γ : List OT) (is : List Nat) (tg : TG) (vg : VG) : Prop := ∀ (G H : Hp) (S : List (Addr × HO)) (env : Env) (σ : L2.St) (v : V) (d : D) (P : Env → Prop) (Q : L2.St → Hp → Prop), Slots c.K G Γ S env σ → Same G H → Dd c.K G v d → vg d env P →
  (∀ env' σ', P env' → Slots c.K G Γ S env' σ' → σ'.length = σ.length → (∀ j, j ∉ is → σ'[j]? = σ[j]?) → Q σ' H) → tg v σ H Q
theorem tg_name (h : Γ[i]? = some .F) (hi : i ∈ is) : SGt c Γ is (gName i) (vgName i) := fun G H S env σ v d P Q sl sg hd hv k =>
  k _ _ hv (sl.setF h (.inr ⟨d, v, rfl, rfl, hd⟩)) (List.length_set ..) fun j hj => List.getElem?_set_ne (fun e => hj (by rw [← e]; exact hi))
theorem Stx.item (st : Stx c Γ G H T S env σ m) {ds : List D} {G0 : Hp} (s0 : Same G0 G) {x : V} (y : YD c.K G0 ds i H x H') : ∃ d G', ds[i]? = some d ∧ Same G G' ∧ Stx c Γ G' H' T S env σ m ∧ Dd c.K G' x d := by
  obtain ⟨d, e, q⟩ := y
  rcases q with ⟨rfl, q⟩ | ⟨p, vs, es, rfl, rfl, hp, rfl, q⟩
  · exact ⟨d, G, e, Same.refl G, st, q.mono s0⟩
  · obtain ⟨st', s⟩ := st.newS (o := .tup vs) hp
    exact ⟨.tup es, _, e, s, st', .tup (.inl upd_same) (q.mono (s0.trans s))⟩
theorem Stx.push {acc : List V} {D : Addr} {y : V} (st : Stx c Γ G H ((D, .lst acc) :: T) S env σ m) : H D = some (.lst acc) ∧ Stx c Γ G (upd H D (.lst (acc ++ [y]))) ((D, .lst (acc ++ [y])) :: T) S env σ m := by
  obtain ⟨s, C, w, a, z⟩ := st
  exact ⟨w.hd, s, C, w.put, a, z⟩
theorem Stx.slots {env' : Env} {σ' : L2.St} (st : Stx c Γ G H T S env σ m) (z : Slots c.K G Γ S env' σ') : Stx c Γ G H T S env' σ' m := by
  obtain ⟨s, C, w, a, _⟩ := st
  exact ⟨s, C, w, a, z⟩
theorem s_lc {wi : TI} {vi : VA} {tg : TG} {vg : VG} {tt : TT} {vt : VT} {te : TE} {ve : VE} {vs : List Nat} (hi : SI c Γ wi vi) (hF : (vs.all fun i => decide (Γ[i]? = some .F)) = true) (hg : SGt c Γ vs tg vg) (ht : ST c Γ tt vt) (he : SF c Γ te ve) :
    SO c Γ (tLc wi tg tt te vs) (vLc vi vg vt ve vs) := fun T G H S env σ m P Q st hv k =>
  hi T G H S env σ m _ _ st hv fun items m1 J G1 H1 p1 s1 st1 wk => by
    obtain ⟨W, w0, wn, wd⟩ := p1
    intro D hD
    refine lc_it wk (fun i H' => ∃ G2 accV acc m', Same G1 G2 ∧ Stx c Γ G2 H' ((D, .lst accV) :: T) S env σ m' ∧ DdAll c.K G2 accV acc ∧ W i acc m') ⟨G1, [], [], m1, Same.refl _, st1.new hD, .nil, w0⟩ (fun i H' _ p => ?_) (fun i x Hi H' hi p y => ?_) (fun H' p => ?_)
    · obtain ⟨G2, accV, acc, m', s2, st2, _⟩ := p
      exact s2.trans st2.v
    · obtain ⟨G2, accV, acc, m', s2, st2, hacc, hw⟩ := p
      obtain ⟨d, G3, ed, s3, st3, hd⟩ := st2.item s2 y
      obtain ⟨q0, C0, q1, q2, z3⟩ := id st3
      refine hg G3 H' S (wipeE env vs) (wipe σ vs) x d _ _ (z3.wipeF hF) st3.v hd (wn i acc m' d hw ed) fun e1 σ1 pe sl1 l1 n1 => ⟨?_, ?_⟩
      · rw [wipe_eq l1 n1, wipe_wipe]
      · have st4 := st3.slots sl1
        refine ht _ G3 H' S e1 σ1 m' _ _ st4 pe fun b m2 G4 H4 S4 p4 s4 st5 => ?_
        cases b with
        | true =>
          rw [if_pos rfl] at p4 ⊢
          refine he _ G4 H4 S e1 σ1 m2 _ _ st5.dropT p4 fun y m3 u G5 H5 p5 s5 st6 hy => ?_
          have st7 := st6.slots (z3.mono (s4.trans s5))
          refine ⟨accV, st7.push (y := u).1, by rw [hacc.len]; exact p5.1, G5, accV ++ [u], acc ++ [y], m3, s2.trans (s3.trans (s4.trans s5)), st7.push.2, ?_, p5.2⟩
          exact (hacc.mono (s3.trans (s4.trans s5))).app (.one hy)
        | false =>
          rw [if_neg Bool.false_ne_true] at p4 ⊢
          exact ⟨G4, accV, acc, m2, s2.trans (s3.trans s4), st5.dropT.slots (z3.mono s4), hacc.mono (s3.trans s4), p4⟩
    · obtain ⟨G2, accV, acc, m', s2, st2, hacc, hw⟩ := p
      exact k (.lst acc) m' (.ref D) G2 H' [(D, .lst accV)] (wd acc m' hw) (s1.trans s2) st2 ⟨D, accV, rfl, rfl, hacc⟩
structure EndsOk (c : JC) (t : OT) (Γn Γb Γc : List OT) (Gs : Hp) (De : Ends) (Ve : VEnds) : Prop where
  nx : ∀ (G H : Hp) (S : List (Addr × HO)) (env : Env) (σ : L2.St) (m : Mst), Same Gs G → Stt c Γn G H S env σ m → Ve.nx env m → De.nx σ H
  rt : ∀ (G H : Hp) (S1 C : List (Addr × HO)) (m : Mst) (v : V) (d : D), Same Gs G → Same c.G0 G → Wd (S1 ++ (C ++ c.R)) G H → Amb c.K G m C → Own c.K G t S1 v d → Ve.rt d m → De.rt v H
  bk : ∀ (G H : Hp) (S : List (Addr × HO)) (env : Env) (σ : L2.St) (m : Mst), Same Gs G → Stt c Γb G H S env σ m → Ve.bk env m → De.bk σ H
  ct : ∀ (G H : Hp) (S : List (Addr × HO)) (env : Env) (σ : L2.St) (m : Mst), Same Gs G → Stt c Γc G H S env σ m → Ve.ct env m → De.ct σ H
theorem EndsOk.up {Gs G : Hp} {De : Ends} {Ve : VEnds} (s : Same Gs G) (e : EndsOk c t Γn Γb Γc Gs De Ve) : EndsOk c t Γn Γb Γc G De Ve :=
  ⟨fun G H S env σ m q => e.nx G H S env σ m (s.trans q), fun G H S1 C m v d q => e.rt G H S1 C m v d (s.trans q), fun G H S env σ m q => e.bk G H S env σ m (s.trans q), fun G H S env σ m q => e.ct G H S env σ m (s.trans q)⟩
def SS (c : JC) (t : OT) (Γ Γn Γb Γc : List OT) (ts : TS) (vs : VS) : Prop := ∀ (G H : Hp) (S : List (Addr × HO)) (env : Env) (σ : L2.St) (m : Mst) (De : Ends) (Ve : VEnds), EndsOk c t Γn Γb Γc G De Ve → Stt c Γ G H S env σ m → vs Ve env m → ts De σ H
theorem x_next : SS c t Γ Γ Γb Γc tNext vNext := fun G H S env σ m De Ve e st hv => e.nx G H S env σ m (Same.refl _) st hv
theorem x_seq {a b : TS} {x y : VS} (ha : SS c t Γ Γ1 Γb Γc a x) (hb : SS c t Γ1 Γn Γb Γc b y) : SS c t Γ Γn Γb Γc (tSeq a b) (vSeqS x y) := fun G H S env σ m De Ve e st hv =>
  ha G H S env σ m { De with nx := b De } { Ve with nx := y Ve } ⟨fun G H S env σ m s st hv => hb G H S env σ m De Ve (e.up s) st hv, e.rt, e.bk, e.ct⟩ st hv
theorem x_retF {te : TE} {ve : VE} (h : SF c Γ te ve) : SS c .F Γ Γn Γb Γc (tRet te) (vRet ve) := fun G H S env σ m De Ve e st hv =>
  h [] G H S env σ m _ _ st hv fun d m' v G' H' p s st' q => by
    obtain ⟨s', C, w, a, z⟩ := st'
    exact e.rt G' H' [] C m' v d s s' w.dropL.dropL a ⟨rfl, q⟩ p
theorem x_retO {te : TE} {ve : VE} (h : SO c Γ te ve) : SS c .O Γ Γn Γb Γc (tRet te) (vRet ve) := fun G H S env σ m De Ve e st hv =>
  h [] G H S env σ m _ _ st hv fun d m' v G' H' S1 p s st' q => by
    obtain ⟨s', C, w, a, z⟩ := st'
    rw [List.append_nil] at w
    exact e.rt G' H' S1 C m' v d s s' w.dropM a q p
theorem x_retV (hi : Γ[i]? = some t) : SS c t Γ Γn Γb Γc (tRet (tVar i)) (vRet (vVar i)) := fun G H S env σ m De Ve e st hv => by
  obtain ⟨d, ed, p⟩ := hv
  obtain ⟨s', C, w, a, z⟩ := st
  obtain ⟨v, A1, A2, A3, e1, rfl, e3, e4⟩ := z.at ed hi
  refine ⟨v, e1, e.rt G H A2 C m v d (Same.refl _) s' ?_ a e3 p⟩
  have w1 : Wd (A1 ++ (A2 ++ (A3 ++ (C ++ c.R)))) G H := by
    rw [List.nil_append, List.append_assoc, List.append_assoc] at w
    exact w
  exact w1.dropL.dropM
theorem own_non {K : PySem.W.Frag} : Own K G t [] .non .non := by cases t <;> exact ⟨rfl, .non⟩
theorem x_if {tt : TT} {vt : VT} {a b : TS} {x y : VS} (ht : ST c Γ tt vt) (ha : SS c t Γ Γn Γb Γc a x) (hb : SS c t Γ Γn Γb Γc b y) : SS c t Γ Γn Γb Γc (tIfS tt a b) (vIf vt x y) := fun G H S env σ m De Ve e st hv =>
  ht [] G H S env σ m _ _ st hv fun q m1 G1 H1 S1 p1 s1 st1 => by
    cases q with
    | true =>
      rw [if_pos rfl] at p1 ⊢
      exact ha G1 H1 S env σ m1 De Ve (e.up s1) st1.drop p1
    | false =>
      rw [if_neg Bool.false_ne_true] at p1 ⊢
      exact hb G1 H1 S env σ m1 De Ve (e.up s1) st1.drop p1
theorem Stt.weak (hl : Γ1.length = Γ.length) (hz : (Γ.zip Γ1).all (fun p => leO p.1 p.2) = true) (st : Stt c Γ G H S env σ m) : ∃ G' S', Same G G' ∧ Stt c Γ1 G' H S' env σ m := by
  obtain ⟨s, C, w, a, z⟩ := st
  obtain ⟨G', S', s', w', z'⟩ := z.weak (Same.refl G) hl hz w
  exact ⟨G', S', s', s.trans s', C, w', a.mono s', z'⟩
theorem x_pre {a : TS} {x : VS} (h : SS c t Γ1 Γn Γb Γc a x) (hl : Γ1.length = Γ.length := by rfl) (hz : (Γ.zip Γ1).all (fun p => leO p.1 p.2) = true := by rfl) : SS c t Γ Γn Γb Γc a x := fun G H S env σ m De Ve e st hv => by
  obtain ⟨G', S', s, st'⟩ := st.weak hl hz
  exact h G' H S' env σ m De Ve (e.up s) st' hv
theorem x_post {a : TS} {x : VS} (h : SS c t Γ Γ1 Γb Γc a x) (hl : Γn.length = Γ1.length := by rfl) (hz : (Γ1.zip Γn).all (fun p => leO p.1 p.2) = true := by rfl) : SS c t Γ Γn Γb Γc a x := fun G H S env σ m De Ve e st hv =>
  h G H S env σ m De Ve ⟨fun G H S env σ m s st hv => by
    obtain ⟨G', S', s', st'⟩ := st.weak hl hz
    exact e.nx G' H S' env σ m (s.trans s') st' hv, e.rt, e.bk, e.ct⟩ st hv
theorem Slots.wipe1 {K : PySem.W.Frag} (h : Slots K G Γ S env σ) {i : Nat} (hi : i < env.length) {t' : OT} (w : Wd (S ++ R) G H) : ∃ S', Wd (S' ++ R) G H ∧ Slots K G (Γ.set i t') S' (env.set i none) σ := by
  obtain ⟨S1, S2, S3, rfl, q⟩ := h.put hi
  refine ⟨S1 ++ ([] ++ S3), ?_, ?_⟩
  · rw [List.append_assoc, List.append_assoc] at w
    rw [List.append_assoc, List.nil_append]
    exact w.dropM
  · have q2 := q G [] t' none (σ[i]'(by rw [h.len.1]; exact hi)) (Same.refl G) (.inl ⟨rfl, rfl⟩)
    rw [List.set_getElem_self] at q2
    exact q2
def wipeΓ (Γ : List OT) : List Nat → List OT
  | [] => Γ
  | v :: vs => (wipeΓ Γ vs).set v .F
theorem wipeE_len (env : Env) : ∀ vs : List Nat, (wipeE env vs).length = env.length
  | [] => rfl
  | v :: vs => by unfold wipeE; rw [List.length_set, wipeE_len env vs]
theorem Slots.wipes {K : PySem.W.Frag} (h : Slots K G Γ S env σ) (w : Wd (S ++ R) G H) : ∀ {vs : List Nat}, (vs.all fun i => decide (i < Γ.length)) = true → ∃ S', Wd (S' ++ R) G H ∧ Slots K G (wipeΓ Γ vs) S' (wipeE env vs) σ
  | [], _ => ⟨S, w, h⟩
  | v :: vs, e => by
    rw [List.all_cons, Bool.and_eq_true] at e
    obtain ⟨S', w', h'⟩ := Slots.wipes h w e.2
    exact h'.wipe1 (by rw [wipeE_len, ← h.len.2]; exact of_decide_eq_true e.1) w'
theorem Stx.wipes (st : Stt c Γ G H S env σ m) {ws : List Nat} (hv : (ws.all fun i => decide (i < Γ.length)) = true) : ∃ S', Stt c (wipeΓ Γ ws) G H S' (wipeE env ws) σ m := by
  obtain ⟨s, C, w, a, z⟩ := st
  obtain ⟨S', w', z'⟩ := z.wipes w hv
  exact ⟨S', s, C, w', a, z'⟩
theorem x_for {Γ' : List OT} {ws : List Nat} {wi : TI} {vi : VA} {tg : TG} {vg : VG} {b : TS} {y : VS} (hi : SI c Γ wi vi) (hg : SGt c Γ' is tg vg) (hb : SS c t Γ' Γ' Γ' Γ' b y) (hw : wipeΓ Γ ws = Γ' := by rfl) (hw' : wipeΓ Γ' ws = Γ' := by rfl)
    (hv : (ws.all fun i => decide (i < Γ.length)) = true := by rfl) (hv' : (ws.all fun i => decide (i < Γ'.length)) = true := by rfl) : SS c t Γ Γ' Γb Γc (tFor wi tg b) (vFor ws vi vg y) := fun G H S env σ m De Ve e st hv0 =>
  hi [] G H S env σ m _ _ st hv0 fun items m1 J G1 H1 p1 s1 st1 wk => by
    obtain ⟨W, w0, wn, wd⟩ := p1
    obtain ⟨S1, st1⟩ := Stx.wipes st1 hv
    rw [hw] at st1
    have wp : ∀ {G H : Hp} {S : List (Addr × HO)} {env : Env} {σ : L2.St} {m : Mst}, Stt c Γ' G H S env σ m → ∃ S', Stt c Γ' G H S' (wipeE env ws) σ m := fun st => by
      have q := Stx.wipes st hv'
      rw [hw'] at q
      exact q
    refine for_it wk (fun i σ H' => ∃ G2 S2 env2 m2, Same G1 G2 ∧ Stt c Γ' G2 H' S2 env2 σ m2 ∧ W i env2 m2) ⟨G1, S1, _, m1, Same.refl _, st1, w0⟩ (fun i σ H' _ p => ?_) (fun i x σ Hi H' hi p y => ?_) (fun σ H' p => ?_)
    · obtain ⟨G2, S2, env2, m2, s2, st2, _⟩ := p
      exact s2.trans st2.v
    · obtain ⟨G2, S2, env2, m2, s2, st2, hw⟩ := p
      obtain ⟨d, G3, ed, s3, st3, hd⟩ := st2.item s2 y
      obtain ⟨q0, C0, q1, q2, z3⟩ := id st3
      refine hg G3 H' S2 env2 σ x d _ _ z3 st3.v hd (wn i env2 m2 d hw ed) fun e1 σ1 pe sl1 _ _ => ?_
      have up : Same G G3 := s1.trans (s2.trans s3)
      exact hb G3 H' S2 e1 σ1 m2 _ { Ve with nx := fun e2 m2 => W (i + 1) (wipeE e2 ws) m2, ct := fun e2 m2 => W (i + 1) (wipeE e2 ws) m2, bk := fun e2 m2 => Ve.nx (wipeE e2 ws) m2 } ⟨fun G H S env σ m s st hv => by
        obtain ⟨S', st'⟩ := wp st
        exact ⟨G, S', _, m, s2.trans (s3.trans s), st', hv⟩, (e.up up).rt, fun G H S env σ m s st hv => by
        obtain ⟨S', st'⟩ := wp st
        exact (e.up up).nx G H S' _ σ m s st' hv, fun G H S env σ m s st hv => by
        obtain ⟨S', st'⟩ := wp st
        exact ⟨G, S', _, m, s2.trans (s3.trans s), st', hv⟩⟩ (st3.slots sl1) pe
    · obtain ⟨G2, S2, env2, m2, s2, st2, hw⟩ := p
      exact e.nx G2 H' S2 env2 σ m2 (s1.trans s2) st2 (wd env2 m2 hw)
theorem Stx.put (st : Stx c Γ G H S1 S env σ m) (hi : i < Γ.length) (q : Own c.K G t S1 v d) : ∃ S', Stt c (Γ.set i t) G H S' (env.set i (some d)) (σ.set i (some v)) m := by
  obtain ⟨s, C, w, a, z⟩ := st
  obtain ⟨A1, A2, A3, rfl, p⟩ := z.put (i := i) (by rw [← z.len.2]; exact hi)
  refine ⟨A1 ++ (S1 ++ A3), s, C, ?_, a, p G S1 t (some d) (some v) (Same.refl G) (.inr ⟨d, v, rfl, rfl, q⟩)⟩
  rw [List.append_assoc, List.append_assoc] at w
  have w2 : Wd (A1 ++ (S1 ++ (A2 ++ (A3 ++ (C ++ c.R))))) G H := w.perm (List.perm_append_comm_assoc A1 S1 _)
  rw [List.nil_append, List.append_assoc, List.append_assoc]
  rw [← List.append_assoc] at w2
  have w3 := w2.dropM
  rw [List.append_assoc] at w3
  exact w3
theorem x_asgF {te : TE} {ve : VE} (h : SF c Γ te ve) (hi : i < Γ.length := by decide) : SS c t Γ (Γ.set i .F) Γb Γc (tAsg te (gName i)) (vAsg ve (vgName i)) := fun G H S env σ m De Ve e st hv =>
  h [] G H S env σ m _ _ st hv fun d m' v G' H' p s st' q => by
    obtain ⟨S', st2⟩ := Stx.put (i := i) (t := .F) st' hi ⟨rfl, q⟩
    exact e.nx G' H' S' _ _ m' s st2 p
theorem x_asgO {te : TE} {ve : VE} (h : SO c Γ te ve) (hi : i < Γ.length := by decide) : SS c t Γ (Γ.set i .O) Γb Γc (tAsg te (gName i)) (vAsg ve (vgName i)) := fun G H S env σ m De Ve e st hv =>
  h [] G H S env σ m _ _ st hv fun d m' v G' H' S1 p s st' q => by
    rw [List.append_nil] at st'
    obtain ⟨S', st2⟩ := Stx.put (i := i) (t := .O) st' hi q
    exact e.nx G' H' S' _ _ m' s st2 p
end
end Ps
namespace Ps
open PySem PySem.Spec PyProof.Rows L2
section
variable {c : JC} {Γ Γ1 Γ2 Γn Γb Γc : List OT} {G G' H H' : Hp} {T S S1 S2 R : List (Addr × HO)} {env : Env} {σ : L2.St} {m : Mst} {v : V} {d : D} {t : OT} {i j : Nat} {is : List Nat}
theorem Wd.putM {A B : List (Addr × HO)} {l : Addr} {o o' : HO} (w : Wd (A ++ ((l, o) :: B)) G H) : Wd (A ++ ((l, o') :: B)) G (upd H l o') :=
  ((w.perm (List.perm_middle.symm)).put (o' := o')).perm List.perm_middle
theorem set_self {α : Type} : ∀ {l : List α} {i : Nat} {x : α}, l[i]? = some x → l.set i x = l
  | [], _, _, h => by simp at h
  | _ :: _, 0, _, h => by simp at h; subst h; rfl
  | y :: l, i + 1, x, h => by rw [List.set_cons_succ, set_self (l := l) (i := i) (by simpa using h)]
theorem Stx.mutL {ds : List D} (st : Stx c Γ G H T S env σ m) (he : env[i]? = some (some (.lst ds))) (hi : Γ[i]? = some .O) : ∃ a vs, σ[i]? = some (some (.ref a)) ∧ H a = some (.lst vs) ∧ DdAll c.K G vs ds ∧
    ∀ vs' ds', DdAll c.K G vs' ds' → ∃ S', Stx c Γ G (upd H a (.lst vs')) T S' (env.set i (some (.lst ds'))) σ m := by
  obtain ⟨s, C, w, a, z⟩ := st
  obtain ⟨v, A1, A2, A3, e1, rfl, ⟨l, vs, rfl, rfl, q⟩, e4⟩ := z.at he hi
  have w1 : Wd (T ++ A1 ++ ((l, .lst vs) :: (A3 ++ (C ++ c.R)))) G H := by
    simpa [List.append_assoc] using w
  refine ⟨l, vs, e1, w1.mem (by simp), q, fun vs' ds' q' => ⟨A1 ++ ([(l, .lst vs')] ++ A3), s, C, ?_, a, ?_⟩⟩
  · simpa [List.append_assoc] using w1.putM (o' := .lst vs')
  · have z2 := e4 G [(l, .lst vs')] .O (some (.lst ds')) (some (.ref l)) (Same.refl G) (.inr ⟨_, _, rfl, rfl, l, vs', rfl, rfl, q'⟩)
    rw [set_self hi, set_self e1] at z2
    exact z2
def vApp (i : Nat) (ve : VE) : VS := fun V env m => ∃ ds, env[i]? = some (some (.lst ds)) ∧ ve env m fun d m1 => ds.length < sizeLine ∧ V.nx (env.set i (some (.lst (ds ++ [d])))) m1
theorem x_app {te : TE} {ve : VE} (hi : Γ[i]? = some .O) (h : SF c Γ te ve) : SS c t Γ Γ Γb Γc (tDrop (tBM c.K "list" rAppend (tVar i) (tCons te tNil))) (vApp i ve) := fun G H S env σ m De Ve e st hv => by
  obtain ⟨ds, ed, p⟩ := hv
  obtain ⟨a, vs, e1, e2, _, _⟩ := st.mutL ed hi
  refine ⟨_, e1, .inl ⟨rfl, vs, SqL.of e2⟩, h [] G H S env σ m _ _ st p fun d m1 u G1 H1 p1 s1 st1 q1 => ?_⟩
  obtain ⟨a', vs', e1', e2', q', k'⟩ := st1.mutL ed hi
  obtain rfl : a = a' := by rw [e1] at e1'; cases e1'; rfl
  obtain ⟨S', st2⟩ := k' (vs' ++ [u]) (ds ++ [d]) (q'.app (.one q1))
  exact ⟨a, vs', u, rfl, rfl, e2', by rw [q'.len]; exact p1.1, e.nx G1 _ S' _ σ m1 s1 st2 p1.2⟩
theorem kV_of {K : PySem.W.Frag} {y : D} {u : V} {k : Key} (h : Tp K G H u y) (e : dKey y = some k) : u = kV k := by
  cases y with
  | int i => cases e; exact h.intInv
  | str z => cases e; exact h.strInv
  | _ => cases e
theorem any_fst {α β : Type} (p : Key → Bool) : ∀ {l : List (Key × α)} {r : List (Key × β)}, l.map Prod.fst = r.map Prod.fst → (l.any fun kv => p kv.1) = (r.any fun kv => p kv.1)
  | [], [], _ => rfl
  | [], _ :: _, h => by simp at h
  | _ :: _, [], h => by simp at h
  | x :: l, y :: r, h => by
    rw [List.map_cons, List.map_cons] at h
    obtain ⟨h1, h2⟩ := List.cons.inj h
    rw [List.any_cons, List.any_cons, h1, any_fst p h2]
theorem put_fst {k : Key} {v : V} {d : D} {kvs : List (Key × V)} {kds : List (Key × D)} (e : kvs.map Prod.fst = kds.map Prod.fst) : (putK kvs k v).map Prod.fst = (dput kds k d).map Prod.fst := by
  unfold putK dput
  rw [any_fst (fun x => decide (x = k)) e]
  split
  · rw [List.map_map, List.map_map]
    have h1 : (Prod.fst ∘ fun (kv : Key × V) => if kv.1 = k then (kv.1, v) else kv) = Prod.fst := by funext x; simp only [Function.comp]; split <;> rfl
    have h2 : (Prod.fst ∘ fun (kv : Key × D) => if kv.1 = k then (kv.1, d) else kv) = Prod.fst := by funext x; simp only [Function.comp]; split <;> rfl
    rw [h1, h2, e]
  · rw [List.map_append, List.map_append, e]; rfl
theorem map_put {K : PySem.W.Frag} {k : Key} {v : V} {d : D} (h : Dd K G v d) : ∀ {kvs : List (Key × V)} {kds : List (Key × D)}, kvs.map Prod.fst = kds.map Prod.fst → DdAll K G (kvs.map Prod.snd) (kds.map Prod.snd) →
    DdAll K G ((kvs.map (fun kv => if kv.1 = k then (kv.1, v) else kv)).map Prod.snd) ((kds.map (fun kv => if kv.1 = k then (kv.1, d) else kv)).map Prod.snd)
  | [], [], _, _ => .nil
  | [], _ :: _, e, _ => by simp at e
  | _ :: _, [], e, _ => by simp at e
  | x :: l, y :: r, e, q => by
    rw [List.map_cons, List.map_cons] at e
    obtain ⟨h1, h2⟩ := List.cons.inj e
    rw [List.map_cons, List.map_cons] at q
    cases q with
    | cons q1 q2 =>
      rw [List.map_cons, List.map_cons, List.map_cons, List.map_cons, h1]
      refine .cons ?_ (map_put h h2 q2)
      by_cases z : y.1 = k
      · rw [if_pos z, if_pos z]; exact h
      · rw [if_neg z, if_neg z]; exact q1
theorem put_snd {K : PySem.W.Frag} {k : Key} {v : V} {d : D} (h : Dd K G v d) {kvs : List (Key × V)} {kds : List (Key × D)} (e : kvs.map Prod.fst = kds.map Prod.fst) (q : DdAll K G (kvs.map Prod.snd) (kds.map Prod.snd)) : DdAll K G ((putK kvs k v).map Prod.snd) ((dput kds k d).map Prod.snd) := by
  unfold putK dput
  rw [any_fst (fun x => decide (x = k)) e]
  split
  · exact map_put h e q
  · rw [List.map_append, List.map_append]; exact q.app (.one h)
theorem get_snd {K : PySem.W.Frag} {k : Key} : ∀ {kvs : List (Key × V)} {kds : List (Key × D)}, kvs.map Prod.fst = kds.map Prod.fst → DdAll K G (kvs.map Prod.snd) (kds.map Prod.snd) →
    (valV kvs k = none ∧ dget kds k = none) ∨ ∃ v d, valV kvs k = some v ∧ dget kds k = some d ∧ Dd K G v d
  | [], [], _, _ => .inl ⟨rfl, rfl⟩
  | [], _ :: _, e, _ => by simp at e
  | _ :: _, [], e, _ => by simp at e
  | x :: l, y :: r, e, q => by
    rw [List.map_cons, List.map_cons] at e
    obtain ⟨h1, h2⟩ := List.cons.inj e
    rw [List.map_cons, List.map_cons] at q
    cases q with
    | cons q1 q2 =>
      by_cases z : y.1 = k
      · refine .inr ⟨x.2, y.2, ?_, ?_, q1⟩
        · rw [valV_pos (by rw [h1]; exact z)]
        · unfold dget; rw [List.find?_cons_of_pos (by simp [z])]; rfl
      · rcases get_snd (k := k) h2 q2 with ⟨h3, h4⟩ | ⟨v, d, h3, h4, h5⟩
        · refine .inl ⟨by rw [valV_neg (by rw [h1]; exact z)]; exact h3, ?_⟩
          unfold dget; rw [List.find?_cons_of_neg (by simp [z])]; exact h4
        · refine .inr ⟨v, d, by rw [valV_neg (by rw [h1]; exact z)]; exact h3, ?_, h5⟩
          unfold dget; rw [List.find?_cons_of_neg (by simp [z])]; exact h4
theorem Slots.put2 {u w : V} {x y : D} (st : Stt c Γ G H S env σ m) (hi : Γ[i]? = some .F) (hj : Γ[j]? = some .F) (hx : Dd c.K G u x) (hy : Dd c.K G w y) : Stt c Γ G H S ((env.set i (some x)).set j (some y)) ((σ.set i (some u)).set j (some w)) m := by
  obtain ⟨s, C, w', a, z⟩ := st
  exact ⟨s, C, w', a, (z.setF hi (.inr ⟨x, u, rfl, rfl, hx⟩)).setF hj (.inr ⟨y, w, rfl, rfl, hy⟩)⟩
def vstart (N : Nat) (ds : List D) : Env := ds.map some ++ List.replicate (N - ds.length) none
theorem slots_nones {K : PySem.W.Frag} : ∀ n : Nat, Slots K G (List.replicate n .F) [] (List.replicate n none) (List.replicate n (none : Option V))
  | 0 => .nil
  | n + 1 => .no (slots_nones n)
theorem slots_args {K : PySem.W.Frag} {r : Nat} : ∀ {vs : List V} {ds : List D}, DdAll K G vs ds → Slots K G (List.replicate (ds.length + r) .F) [] (ds.map some ++ List.replicate r none) (vs.map some ++ List.replicate r none)
  | _, _, .nil => by rw [List.length_nil, Nat.zero_add]; exact slots_nones r
  | _, _, .cons (ds := ds) h t => by
    rw [show (_ :: ds).length + r = (ds.length + r) + 1 by rw [List.length_cons]; omega, List.replicate_succ]
    exact .yes (S1 := []) ⟨rfl, h⟩ (slots_args t)
theorem slots_start {K : PySem.W.Frag} {N : List Str} {vs : List V} {ds : List D} (h : DdAll K G vs ds) (hl : ds.length ≤ N.length) : Slots K G (List.replicate N.length .F) [] (vstart N.length ds) (L2.start N vs) := by
  unfold vstart L2.start
  rw [h.len]
  have q := slots_args (r := N.length - ds.length) h
  rw [show ds.length + (N.length - ds.length) = N.length by omega] at q
  exact q
abbrev vends (P : D → Mst → Prop) : VEnds := { nx := fun _ m => P .non m, rt := P }
theorem sim_def {K : PySem.W.Frag} {t : OT} {N : List Str} {Γn Γb Γc : List OT} {ts : XK → TS} {vs : XV → VS} {n : Nat} (hn : n ≤ N.length)
    (h : ∀ (c : JC) (W : XK) (VX : XV), c.K = K → (∀ Γ, ExOk c Γ (fun cls d _ H => W cls d H) (fun C fs _ m => VX C fs m)) → SS c t (List.replicate N.length .F) Γn Γb Γc (ts W) (vs VX))
    {vsp : VSp} (hv : ∀ ds m P X, vsp ds m P X → ds.length = n ∧ vs X (vends P) (vstart N.length ds) m) :
    ∀ us H Q E, spV K t vsp us H Q E → ts E { nx := fun _ H' => Q .non H', rt := Q } (L2.start N us) H := by
  rintro us H Q E ⟨ds, G, R, C, m, P, X, w, a, q, hs, k, kx⟩
  obtain ⟨hl, hb⟩ := hv ds m P X hs
  have w0 : Wd ([] ++ ([] ++ (C ++ R))) G H := w
  refine h ⟨K, R, G⟩ E X rfl (fun Γ G' H' S env σ m' C' fs d st ex hx => ?_) G H [] (vstart N.length ds) (L2.start N us) m _ (vends P) ⟨?_, ?_, fun _ _ _ _ _ _ _ _ h => h.elim, fun _ _ _ _ _ _ _ _ h => h.elim⟩ ⟨Same.refl G, C, w0, a, slots_start q (by omega)⟩ hb
  · obtain ⟨s, C2, w2, a2, z2⟩ := st
    exact kx C' fs m' d H' G' C2 hx s w2.dropL.dropL a2 ex
  · rintro G' H' S env σ m' s ⟨_, C2, w2, a2, z2⟩ hp
    exact k .non m' .non H' G' [] C2 hp s w2.dropL.dropL a2 own_non
  · intro G' H' S1 C2 m' v d s _ w2 a2 o hp
    exact k d m' v H' G' S1 C2 hp s w2 a2 o
end
end Ps
namespace Ps
open PySem PySem.Spec PyProof.Rows L2
mutual
def D.py : D → PyData
  | .non => .none
  | .bl b => .bool b
  | .int i => .int i
  | .str s => .str s
  | .lst ds => .list (D.pys ds)
  | .tup ds => .tuple (D.pys ds)
  | _ => .dict []
def D.pys : List D → List PyData
  | [] => []
  | d :: ds => d.py :: D.pys ds
end
mutual
/-- data without dicts, instances, classes -/
def D.pl : D → Bool
  | .non | .bl _ | .int _ | .str _ => true
  | .lst ds => D.pls ds
  | .tup ds => D.pls ds
  | _ => false
def D.pls : List D → Bool
  | [] => true
  | d :: ds => d.pl && D.pls ds
end
section
variable {K : PySem.W.Frag} {G H : Hp}
mutual
theorem Dd.dp : ∀ {d : D} {v : V}, Dd K G v d → d.pl = true → Dp K G v d.py
  | .non, _, h, _ => by cases h; exact .non
  | .bl b, _, h, _ => by cases h; exact .bl b
  | .int b, _, h, _ => by cases h; exact .int b
  | .str b, _, h, _ => by cases h; exact .str b
  | .lst ds, _, h, e => by
    cases h with | lst h1 h2 => exact .lst (SqL.of h1) (DdAll.dp h2 (by simpa [D.pl] using e))
  | .tup ds, _, h, e => by
    cases h with | tup h1 h2 => exact .tup h1.sq (DdAll.dp h2 (by simpa [D.pl] using e))
  | .adr _, _, _, e => by simp [D.pl] at e
  | .ty _, _, _, e => by simp [D.pl] at e
  | .scr _, _, _, e => by simp [D.pl] at e
  | .dic _, _, _, e => by simp [D.pl] at e
  | .obj _ _, _, _, e => by simp [D.pl] at e
  | .exc _ _, _, _, e => by simp [D.pl] at e
  | .dcl _ _, _, _, e => by simp [D.pl] at e
  | .dct _ _, _, _, e => by simp [D.pl] at e
  | .lck _ _, _, _, e => by simp [D.pl] at e
  | .lct _ _ _, _, _, e => by simp [D.pl] at e
theorem DdAll.dp : ∀ {ds : List D} {vs : List V}, DdAll K G vs ds → D.pls ds = true → DpAll K G vs (D.pys ds)
  | [], _, h, _ => by cases h; exact .nil
  | d :: ds, _, h, e => by
    rw [D.pls, Bool.and_eq_true] at e
    cases h with | cons h1 h2 => exact .cons (h1.dp e.1) (h2.dp e.2)
end
def D.fl : D → Bool
  | .non | .bl _ | .int _ | .str _ => true
  | _ => false
theorem fl4 {x : D} (e : x.fl = true) : x = .non ∨ (∃ b, x = .bl b) ∨ (∃ i, x = .int i) ∨ ∃ z, x = .str z := by
  cases x <;> first | exact .inl rfl | exact .inr (.inl ⟨_, rfl⟩) | exact .inr (.inr (.inl ⟨_, rfl⟩)) | exact .inr (.inr (.inr ⟨_, rfl⟩)) | cases e
def flW : D → V
  | .bl b => .bl b
  | .int i => .int i
  | .str z => .str z
  | _ => .non
theorem fl_dd {x : D} {u : V} (e : x.fl = true) (h : Dd K G u x) : u = flW x := by
  cases h <;> first | rfl | cases e
def scD : D → D → Bool
  | .non, .non => true | .non, .int _ => true | .int _, .non => true | .non, .bl _ => true | .bl _, .non => true | .non, .str _ => true | .str _, .non => true
  | .int _, .int _ => true | .bl _, .bl _ => true | .str _, .str _ => true
  | .int _, .str _ => true | .str _, .int _ => true | .bl _, .str _ => true | .str _, .bl _ => true
  | _, _ => false
def eqS : D → D → Bool
  | .non, .non => true
  | .bl a, .bl b => decide (a = b)
  | .int a, .int b => decide (a = b)
  | .str a, .str b => decide (a = b)
  | _, _ => false
theorem scD_z {x y : D} (e : scD x y = true) : x.fl = true ∧ y.fl = true := by
  cases x <;> first | exact absurd e Bool.false_ne_true | (refine ⟨rfl, ?_⟩; cases y <;> first | rfl | exact absurd e Bool.false_ne_true)
theorem scD_v {x y : D} {u v : V} (h : Dd K G u x) (h' : Dd K G v y) (e : scD x y = true) : scal u v = true ∧ decide (u = v) = eqS x y := by
  have z := scD_z e
  rcases fl4 z.1 with rfl | ⟨a, rfl⟩ | ⟨a, rfl⟩ | ⟨a, rfl⟩ <;> rcases fl4 z.2 with rfl | ⟨b, rfl⟩ | ⟨b, rfl⟩ | ⟨b, rfl⟩ <;> first | exact absurd e Bool.false_ne_true | (obtain rfl := fl_dd rfl h; obtain rfl := fl_dd rfl h'; exact ⟨rfl, by simp [flW, eqS]⟩)
def vAdd : D → D → (D → Prop) → Prop
  | .int i, .int j, P => P (.int (i + j))
  | .str a, .str b, P => a.length + b.length ≤ sizeLine ∧ P (.str (a ++ b))
  | .lst a, .lst b, P => a.length + b.length ≤ sizeLine ∧ P (.lst (a ++ b))
  | .tup a, .tup b, P => a.length + b.length ≤ sizeLine ∧ P (.tup (a ++ b))
  | _, _, _ => False
def vSub : D → D → (D → Prop) → Prop
  | .int i, .int j, P => P (.int (i - j))
  | _, _, _ => False
def vMul : D → D → (D → Prop) → Prop
  | .int i, .int j, P => (CMul i j ∨ CMulW i j) ∧ P (.int (i * j))
  | .lst a, .int k, P => (-(2 ^ 63) ≤ k ∧ k < 2 ^ 63 ∧ a.length * k.toNat ≤ sizeLine) ∧ P (.lst (List.replicate k.toNat a).flatten)
  | .str z, .int k, P => (2 ≤ k ∧ z.length ≠ 0 ∧ z.length * k.toNat ≤ 16777216) ∧ P (.str (repS z k.toNat))
  | _, _, _ => False
def vDiv : D → D → (D → Prop) → Prop
  | .int i, .int j, P => (CDiv i j ∨ CDivW i j) ∧ P (.int (i / j))
  | _, _, _ => False
def vMod : D → D → (D → Prop) → Prop
  | .int i, .int j, P => 0 < j ∧ P (.int (i % j))
  | _, _, _ => False
def vPow : D → D → (D → Prop) → Prop
  | .int i, .int j, P => CPow i j ∧ P (.int (i ^ j.toNat))
  | _, _, _ => False
def vEqC : D → D → (D → Prop) → Prop := fun x y P => if scD x y = true then P (.bl (eqS x y)) else (x.pl = true ∧ y.pl = true ∧ SeqAt.shaped x.py = true ∧ SeqAt.shaped y.py = true) ∧ P (.bl (PyData.eqv x.py y.py))
def vNeC : D → D → (D → Prop) → Prop := fun x y P => if scD x y = true then P (.bl (!eqS x y)) else (x.pl = true ∧ y.pl = true ∧ SeqAt.shaped x.py = true ∧ SeqAt.shaped y.py = true) ∧ P (.bl (!PyData.eqv x.py y.py))
def vLt : D → D → (D → Prop) → Prop
  | .int i, .int j, P => P (.bl (decide (i < j)))
  | .str i, .str j, P => P (.bl (decide (i.cps.toList < j.cps.toList)))
  | _, _, _ => False
def vLe : D → D → (D → Prop) → Prop
  | .int i, .int j, P => P (.bl (decide (i ≤ j)))
  | .str i, .str j, P => P (.bl (!decide (j.cps.toList < i.cps.toList)))
  | _, _, _ => False
def vGt : D → D → (D → Prop) → Prop
  | .int i, .int j, P => P (.bl (decide (j < i)))
  | .str i, .str j, P => P (.bl (decide (j.cps.toList < i.cps.toList)))
  | _, _, _ => False
def vGe : D → D → (D → Prop) → Prop
  | .int i, .int j, P => P (.bl (decide (j ≤ i)))
  | .str i, .str j, P => P (.bl (!decide (i.cps.toList < j.cps.toList)))
  | _, _, _ => False
def D.isN : D → Bool
  | .non => true
  | _ => false
def vIsN : D → D → (D → Prop) → Prop
  | x, .non, P => P (.bl x.isN)
  | _, _, _ => False
def vNotN : D → D → (D → Prop) → Prop
  | x, .non, P => P (.bl (!x.isN))
  | _, _, _ => False
def eqF : D → D → Bool
  | .non, .non => true
  | .bl a, .bl b => a == b
  | .int a, .int b => a == b
  | .str a, .str b => a == b
  | .bl a, .int b => (if a then 1 else 0) == b
  | .int a, .bl b => a == (if b then 1 else 0)
  | _, _ => false
def vIn (neg : Bool) : D → D → (D → Prop) → Prop
  | x, .lst ds, P => (x.fl = true ∧ ds.all D.fl = true) ∧ P (.bl (if neg then !(ds.any fun y => eqF y x) else ds.any fun y => eqF y x))
  | x, .tup ds, P => (x.fl = true ∧ ds.all D.fl = true) ∧ P (.bl (if neg then !(ds.any fun y => eqF y x) else ds.any fun y => eqF y x))
  | .str i, .str j, P => P (.bl (if neg then !(!(Builtin.Str.occurrences j i 0 j.length 1).isEmpty) else !(Builtin.Str.occurrences j i 0 j.length 1).isEmpty))
  | x, .dic kds, P => ∃ k, dKey x = some k ∧ P (.bl (if neg then !(dget kds k).isSome else (dget kds k).isSome))
  | _, _, _ => False
def vIx : D → D → (D → Prop) → Prop
  | .lst ds, .int i, P => ∃ d, atI ds i = some d ∧ P d
  | .tup ds, .int i, P => ∃ d, atI ds i = some d ∧ P d
  | .str z, .int i, P => z.length ≤ sizeLine ∧ ∃ c, atI z.cps.toList i = some c ∧ P (.str ⟨#[c]⟩)
  | .dic kds, y, P => ∃ k d, dKey y = some k ∧ dget kds k = some d ∧ P d
  | _, _, _ => False
theorem o_add : OpV K (rAddU K) vAdd := fun G H x y d e P Q s h h' f k => by
  unfold vAdd at f
  split at f
  · obtain rfl := h.intInv; obtain rfl := h'.intInv
    exact w_addI (k _ _ _ f (.old (.int _) rfl))
  · obtain rfl := h.strInv; obtain rfl := h'.strInv
    exact w_addS f.1 (k _ _ _ f.2 (.old (.str _) rfl))
  · obtain ⟨a, vs, rfl, h1, q1⟩ := h.l s
    obtain ⟨b, ws, rfl, h2, q2⟩ := h'.l s
    exact w_addL h1 h2 (by rw [q1.len, q2.len]; exact f.1) fun p hp => k _ _ _ f.2 (.lst hp (q1.app q2))
  · obtain ⟨a, vs, rfl, g1, h1, q1⟩ := h.t s
    obtain ⟨b, ws, rfl, g2, h2, q2⟩ := h'.t s
    refine .inr (.inr ⟨a, b, vs, ws, rfl, rfl, h1, h2, by rw [q1.len, q2.len]; exact f.1, fun e => ?_, fun _ e => ?_, fun _ _ p hp => k _ _ _ f.2 (.tup hp (q1.app q2))⟩)
    · subst e
      cases q1
      exact k _ _ _ f.2 (.old (.tup g2 q2) rfl)
    · subst e
      cases q2
      rw [List.append_nil] at f
      exact k _ _ _ f.2 (.old (.tup g1 q1) rfl)
  · exact f.elim
theorem o_sub : OpV K rSubU vSub := fun G H x y d e P Q s h h' f k => by
  unfold vSub at f
  split at f
  · obtain rfl := h.intInv; obtain rfl := h'.intInv
    exact w_subI (k _ _ _ f (.old (.int _) rfl))
  · exact f.elim
theorem o_mul : OpV K rMulT vMul := fun G H x y d e P Q s h h' f k => by
  unfold vMul at f
  split at f
  · obtain rfl := h.intInv; obtain rfl := h'.intInv
    refine .inl ?_
    rcases f.1 with q | q
    · exact w_mulI q (k _ _ _ f.2 (.old (.int _) rfl))
    · exact w_mulW q (k _ _ _ f.2 (.old (.int _) rfl))
  · obtain ⟨a, vs, rfl, h1, q1⟩ := h.l s
    obtain rfl := h'.intInv
    exact .inl (w_rep h1 f.1.1 f.1.2.1 (by rw [q1.len]; exact f.1.2.2) fun p hp => k _ _ _ f.2 (.lst hp (q1.flat _)))
  · obtain rfl := h.strInv; obtain rfl := h'.intInv
    rename_i z j
    obtain ⟨n, rfl⟩ : ∃ n : Nat, j = (n : Int) := ⟨j.toNat, by omega⟩
    rw [Int.toNat_natCast] at f
    exact .inr ⟨_, n, rfl, rfl, by omega, f.1.2.1, f.1.2.2, k _ _ _ f.2 (.old (.str _) rfl)⟩
  · exact f.elim
theorem o_div : OpV K rDivU vDiv := fun G H x y d e P Q s h h' f k => by
  unfold vDiv at f
  split at f
  · obtain rfl := h.intInv; obtain rfl := h'.intInv
    rcases f.1 with q | q
    · exact w_divI q (k _ _ _ f.2 (.old (.int _) rfl))
    · exact w_divW q (k _ _ _ f.2 (.old (.int _) rfl))
  · exact f.elim
theorem o_mod : OpV K rModU vMod := fun G H x y d e P Q s h h' f k => by
  unfold vMod at f
  split at f
  · obtain rfl := h.intInv; obtain rfl := h'.intInv
    exact w_modI f.1 (k _ _ _ f.2 (.old (.int _) rfl))
  · exact f.elim
theorem o_pow : OpV K rPowU vPow := fun G H x y d e P Q s h h' f k => by
  unfold vPow at f
  split at f
  · obtain rfl := h.intInv; obtain rfl := h'.intInv
    exact w_powI f.1 (k _ _ _ f.2 (.old (.int _) rfl))
  · exact f.elim
theorem scD_fl {x y : D} (e : scD x y = true) : x.sc = true ∧ y.sc = true :=
  ⟨by rcases fl4 (scD_z e).1 with rfl | ⟨a, rfl⟩ | ⟨a, rfl⟩ | ⟨a, rfl⟩ <;> rfl, by rcases fl4 (scD_z e).2 with rfl | ⟨a, rfl⟩ | ⟨a, rfl⟩ | ⟨a, rfl⟩ <;> rfl⟩
theorem o_eq : OpV K (rEqU K) vEqC := fun G H x y d e P Q s h h' f k => by
  unfold vEqC at f
  split at f
  · rename_i z
    obtain ⟨z1, z2⟩ := scD_v (h.s (scD_fl z).1) (h'.s (scD_fl z).2) z
    exact .inl ⟨z1, by rw [z2]; exact k _ _ _ f (.old (.bl _) rfl)⟩
  · exact .inr ⟨_, _, (h.deep s).dp f.1.1, (h'.deep s).dp f.1.2.1, f.1.2.2.1, f.1.2.2.2, k _ _ _ f.2 (.old (.bl _) rfl)⟩
theorem o_ne : OpV K (rNeU K) vNeC := fun G H x y d e P Q s h h' f k => by
  unfold vNeC at f
  split at f
  · rename_i z
    obtain ⟨z1, z2⟩ := scD_v (h.s (scD_fl z).1) (h'.s (scD_fl z).2) z
    exact .inl ⟨z1, by rw [z2]; exact k _ _ _ f (.old (.bl _) rfl)⟩
  · exact .inr ⟨_, _, (h.deep s).dp f.1.1, (h'.deep s).dp f.1.2.1, f.1.2.2.1, f.1.2.2.2, k _ _ _ f.2 (.old (.bl _) rfl)⟩
def rLeV : R2 := fun x y H Q => rLeU x y H Q ∨ ∃ i j, x = .str i ∧ y = .str j ∧ Q (.bl (!decide (j.cps.toList < i.cps.toList))) H
def rGtV : R2 := fun x y H Q => rGtU x y H Q ∨ ∃ i j, x = .str i ∧ y = .str j ∧ Q (.bl (decide (j.cps.toList < i.cps.toList))) H
def rGeV : R2 := fun x y H Q => rGeU x y H Q ∨ ∃ i j, x = .str i ∧ y = .str j ∧ Q (.bl (!decide (i.cps.toList < j.cps.toList))) H
theorem op_leV {X : Cx} : OpR X (compareOp .LtE) rLeV := opr_or op_leU op_le_str
theorem op_gtV {X : Cx} : OpR X (compareOp .Gt) rGtV := opr_or op_gtU op_gt_str
theorem op_geV {X : Cx} : OpR X (compareOp .GtE) rGeV := opr_or op_geU op_ge_str
theorem o_lt : OpV K (rLtU K) vLt := fun G H x y d e P Q s h h' f k => by
  unfold vLt at f
  split at f
  · obtain rfl := h.intInv; obtain rfl := h'.intInv
    exact w_ltI (k _ _ _ f (.old (.bl _) rfl))
  · obtain rfl := h.strInv; obtain rfl := h'.strInv
    exact .inr ⟨_, _, rfl, rfl, k _ _ _ f (.old (.bl _) rfl)⟩
  · exact f.elim
theorem o_le : OpV K rLeV vLe := fun G H x y d e P Q s h h' f k => by
  unfold vLe at f
  split at f
  · obtain rfl := h.intInv; obtain rfl := h'.intInv
    exact .inl (w_leI (k _ _ _ f (.old (.bl _) rfl)))
  · obtain rfl := h.strInv; obtain rfl := h'.strInv
    exact .inr ⟨_, _, rfl, rfl, k _ _ _ f (.old (.bl _) rfl)⟩
  · exact f.elim
theorem o_gt : OpV K rGtV vGt := fun G H x y d e P Q s h h' f k => by
  unfold vGt at f
  split at f
  · obtain rfl := h.intInv; obtain rfl := h'.intInv
    exact .inl (w_gtI (k _ _ _ f (.old (.bl _) rfl)))
  · obtain rfl := h.strInv; obtain rfl := h'.strInv
    exact .inr ⟨_, _, rfl, rfl, k _ _ _ f (.old (.bl _) rfl)⟩
  · exact f.elim
theorem o_ge : OpV K rGeV vGe := fun G H x y d e P Q s h h' f k => by
  unfold vGe at f
  split at f
  · obtain rfl := h.intInv; obtain rfl := h'.intInv
    exact .inl (w_geI (k _ _ _ f (.old (.bl _) rfl)))
  · obtain rfl := h.strInv; obtain rfl := h'.strInv
    exact .inr ⟨_, _, rfl, rfl, k _ _ _ f (.old (.bl _) rfl)⟩
  · exact f.elim
theorem Dd.isN {v : V} {d : D} (h : Dd K G v d) : decide (v = V.non) = d.isN := by cases h <;> simp [D.isN]
theorem Tp.isN {v : V} {d : D} (h : Tp K G H v d) : decide (v = V.non) = d.isN := by
  cases h with
  | dd h => exact h.isN
  | lst _ _ => simp [D.isN]
  | dic _ _ _ => simp [D.isN]
theorem Tp.nonInv {v : V} (h : Tp K G H v .non) : v = .non := by cases h with | dd h => cases h; rfl
theorem o_isN : OpV K rIsN vIsN := fun G H x y d e P Q s h h' f k => by
  unfold vIsN at f
  split at f
  · obtain rfl := h'.nonInv
    exact ⟨rfl, by rw [h.isN]; exact k _ _ _ f (.old (.bl _) rfl)⟩
  · exact f.elim
theorem o_notN : OpV K rNotN vNotN := fun G H x y d e P Q s h h' f k => by
  unfold vNotN at f
  split at f
  · obtain rfl := h'.nonInv
    exact ⟨rfl, by rw [h.isN]; exact k _ _ _ f (.old (.bl _) rfl)⟩
  · exact f.elim
theorem fl_v {v : V} {d : D} (h : Dd K G v d) (e : d.fl = true) : flatV v = true := by cases h <;> first | rfl | cases e
theorem eqF_v {u v : V} {x y : D} (h : Dd K G u x) (h' : Dd K G v y) (e : x.fl = true) (e' : y.fl = true) : eqV u v = eqF x y := by
  rcases fl4 e with rfl | ⟨a, rfl⟩ | ⟨a, rfl⟩ | ⟨a, rfl⟩ <;> rcases fl4 e' with rfl | ⟨b, rfl⟩ | ⟨b, rfl⟩ | ⟨b, rfl⟩ <;> (obtain rfl := fl_dd rfl h; obtain rfl := fl_dd rfl h'; rfl)
theorem fls_v {vs : List V} : ∀ {ds : List D}, DdAll K G vs ds → ds.all D.fl = true → vs.all flatV = true := by
  induction vs with
  | nil => intro ds h e; rfl
  | cons v vs ih =>
    intro ds h e
    cases h with
    | cons h1 h2 =>
      rw [List.all_cons, Bool.and_eq_true] at e
      rw [List.all_cons, fl_v h1 e.1, ih h2 e.2]; rfl
theorem any_eqF {u : V} {x : D} (h : Dd K G u x) (e : x.fl = true) {vs : List V} : ∀ {ds : List D}, DdAll K G vs ds → ds.all D.fl = true → inV u vs = ds.any fun y => eqF y x := by
  induction vs with
  | nil => intro ds h e; cases h; rfl
  | cons v vs ih =>
    intro ds h' e'
    cases h' with
    | cons h1 h2 =>
      rw [List.all_cons, Bool.and_eq_true] at e'
      have q := ih h2 e'.2
      unfold inV at q ⊢
      rw [List.any_cons, List.any_cons, q, eqF_v h1 h e'.1 e]
theorem fl_sc {d : D} (e : d.fl = true) : d.sc = true := by cases d <;> first | rfl | cases e
theorem DGet.of {a : Addr} {kvs : List (Key × V)} {k : Key} {r : Option V} (h : Rd H a (.dK kvs)) (e : valV kvs k = r) : DGet H a (kV k) r := by rw [← e]; exact .inl ⟨kvs, k, h, rfl, rfl⟩
theorem o_in (neg : Bool) : OpV K (rInU K neg) (vIn neg) := fun G H x y d e P Q s h h' f k => by
  unfold vIn at f
  split at f
  · obtain ⟨a, vs, rfl, h1, q1⟩ := h'.l s
    have hx := h.s (fl_sc f.1.1)
    refine .inl ⟨a, vs, rfl, .inl (SqL.of h1), fl_v hx f.1.1, fls_v q1 f.1.2, ?_⟩
    rw [any_eqF hx f.1.1 q1 f.1.2]
    exact k _ _ _ f.2 (.old (.bl _) rfl)
  · obtain ⟨a, vs, rfl, g1, h1, q1⟩ := h'.t s
    have hx := h.s (fl_sc f.1.1)
    refine .inl ⟨a, vs, rfl, .inr h1, fl_v hx f.1.1, fls_v q1 f.1.2, ?_⟩
    rw [any_eqF hx f.1.1 q1 f.1.2]
    exact k _ _ _ f.2 (.old (.bl _) rfl)
  · obtain rfl := h.strInv; obtain rfl := h'.strInv
    exact .inr (.inl ⟨_, _, rfl, rfl, k _ _ _ f (.old (.bl _) rfl)⟩)
  · obtain ⟨a, kvs, rfl, h1, e1, q1⟩ := h'.dk s
    obtain ⟨kk, ek, f⟩ := f
    obtain rfl := kV_of h ek
    refine .inr (.inr ?_)
    rcases get_snd (k := kk) e1 q1 with ⟨z1, z2⟩ | ⟨v, d', z1, z2, z3⟩
    · refine ⟨a, none, rfl, DGet.of h1 z1, ?_⟩
      rw [z2] at f
      exact k _ _ _ f (.old (.bl _) rfl)
    · refine ⟨a, some v, rfl, DGet.of h1 z1, ?_⟩
      rw [z2] at f
      exact k _ _ _ f (.old (.bl _) rfl)
  · exact f.elim
theorem DdAll.atI {vs : List V} {ds : List D} (h : DdAll K G vs ds) {i : Int} {d : D} (e : L2.atI ds i = some d) : ∃ v, L2.atI vs i = some v ∧ Dd K G v d := by
  unfold L2.atI at e ⊢
  rw [h.len]
  cases q : ixN ds.length i with
  | none => rw [q] at e; cases e
  | some j =>
    rw [q] at e
    exact h.get e
theorem o_ix : OpF K (rIxU K) vIx := fun G H x y d e P Q s h h' f k => by
  unfold vIx at f
  split at f
  · obtain ⟨z, ez, f⟩ := f
    obtain ⟨a, vs, rfl, h1, q1⟩ := h.l s
    obtain rfl := h'.intInv
    obtain ⟨v, ev, hv⟩ := q1.atI ez
    exact w_ixL (SqL.of h1) ev (k _ _ f hv)
  · obtain ⟨z, ez, f⟩ := f
    obtain ⟨a, vs, rfl, _, h1, q1⟩ := h.t s
    obtain rfl := h'.intInv
    obtain ⟨v, ev, hv⟩ := q1.atI ez
    exact w_ixT h1 ev (k _ _ f hv)
  · obtain ⟨hz, c, ec, f⟩ := f
    obtain rfl := h.strInv; obtain rfl := h'.intInv
    exact w_ixS hz ec (k _ _ f (.str _))
  · obtain ⟨kk, z, ek, ez, f⟩ := f
    obtain ⟨a, kvs, rfl, h1, e1, q1⟩ := h.dk s
    obtain rfl := kV_of h' ek
    rcases get_snd (k := kk) e1 q1 with ⟨z1, z2⟩ | ⟨v, d', z1, z2, z3⟩
    · rw [z2] at ez; cases ez
    · rw [z2] at ez
      cases ez
      exact .inr (.inr ⟨a, v, rfl, DGet.of h1 z1, k _ _ f z3⟩)
  · exact f.elim
def vNeg : D → (D → Prop) → Prop
  | .int i, P => P (.int (-i))
  | _, _ => False
theorem o_neg : UnV K rNeg vNeg := fun G H x d P Q s h f k => by
  unfold vNeg at f
  split at f
  · obtain rfl := h.intInv
    exact w_negI (k _ _ _ f (.old (.int _) rfl))
  · exact f.elim
def cutD (xs : List D) (lo hi : Option Int) : List D := (xs.drop (HT.sIx xs.length 0 lo)).take (HT.sIx xs.length xs.length hi - HT.sIx xs.length 0 lo)
theorem DdAll.cut {vs : List V} {ds : List D} (h : DdAll K G vs ds) (lo hi : Option Int) : DdAll K G (cutV vs lo hi) (cutD ds lo hi) := by
  unfold cutV cutD
  rw [h.len]
  exact (h.drop _).take _
def vCut : D → Option Int → Option Int → (D → Prop) → Prop
  | .lst ds, lo, hi, P => P (.lst (cutD ds lo hi))
  | .tup ds, lo, hi, P => P (.tup (cutD ds lo hi))
  | .str z, lo, hi, P => z.length ≤ sizeLine ∧ P (.str (cutS z lo hi))
  | _, _, _, _ => False
theorem cut_whole {ds : List D} {lo hi : Option Int} (h : HT.sIx ds.length 0 lo = 0 ∧ HT.sIx ds.length ds.length hi = ds.length) : cutD ds lo hi = ds := by
  unfold cutD
  rw [h.1, h.2, List.drop_zero, Nat.sub_zero, List.take_length]
theorem o_cut : SlV K (rSlU K) vCut := fun G H x d lo hi P Q s h f k => by
  cases d with
  | lst ds =>
    obtain ⟨a, vs, rfl, h1, q1⟩ := h.l s
    exact w_slL (SqL.of h1) fun p hp => k _ _ _ f (.lst hp (q1.cut lo hi))
  | tup ds =>
    obtain ⟨a, vs, rfl, g1, h1, q1⟩ := h.t s
    refine .inl (.inr ⟨a, vs, rfl, h1, fun e => ?_, fun _ p hp => k _ _ _ f (.tup hp (q1.cut lo hi))⟩)
    rw [q1.len] at e
    have f : P (.tup (cutD ds lo hi)) := f
    rw [cut_whole e] at f
    exact k _ _ _ f (.old (.tup g1 q1) rfl)
  | str z =>
    obtain rfl := h.strInv
    exact .inr ⟨z, rfl, f.1, k _ _ _ f.2 (.old (.str _) rfl)⟩
  | _ => exact f.elim
theorem TpAll.inv1 {d : D} {vs : List V} (h : TpAll K G H vs [d]) : ∃ v, vs = [v] ∧ Tp K G H v d := by
  cases h with | cons h t => cases t; exact ⟨_, rfl, h⟩
theorem TpAll.inv2 {d e : D} {vs : List V} (h : TpAll K G H vs [d, e]) : ∃ v u, vs = [v, u] ∧ Tp K G H v d ∧ Tp K G H u e := by
  cases h with | cons h t => cases t with | cons h2 t => cases t; exact ⟨_, _, rfl, h, h2⟩
def vLen : List D → (D → Prop) → Prop
  | [.lst ds], P => P (.int ds.length)
  | [.tup ds], P => P (.int ds.length)
  | [.dic ds], P => P (.int ds.length)
  | [.str z], P => z.length ≤ sizeLine ∧ P (.int z.length)
  | [.scr ns], P => P (.int ns.length)
  | _, _ => False
theorem l_len : ClV K (rLenU K) vLen := fun G H xs ds P Q s h f k => by
  unfold vLen at f
  split at f
  · obtain ⟨v, rfl, hv⟩ := h.inv1
    replace h := hv
    obtain ⟨a, vs, rfl, h1, q1⟩ := h.l s
    exact w_lenL (SqL.of h1) (by rw [q1.len]; exact k _ _ _ f (.old (.int _) rfl))
  · obtain ⟨v, rfl, hv⟩ := h.inv1
    replace h := hv
    obtain ⟨a, vs, rfl, _, h1, q1⟩ := h.t s
    exact w_lenT h1 (by rw [q1.len]; exact k _ _ _ f (.old (.int _) rfl))
  · obtain ⟨v, rfl, hv⟩ := h.inv1
    replace h := hv
    obtain ⟨a, kvs, rfl, h1, e1, q1⟩ := h.dk s
    have el := congrArg List.length e1
    rw [List.length_map, List.length_map] at el
    exact .inr ⟨a, kvs, rfl, h1, by rw [el]; exact k _ _ _ f (.old (.int _) rfl)⟩
  · obtain ⟨v, rfl, hv⟩ := h.inv1
    replace h := hv
    obtain rfl := h.strInv
    exact w_lenS f.1 (k _ _ _ f.2 (.old (.int _) rfl))
  · obtain ⟨v, rfl, hv⟩ := h.inv1
    cases hv with | dd hv => cases hv with | scr h1 => exact w_lenL (same_l s h1) (by rw [List.length_map]; exact k _ _ _ f (.old (.int _) rfl))
  · exact f.elim
def vTupC : List D → (D → Prop) → Prop
  | [.lst ds], P => P (.tup ds)
  | [.tup ds], P => P (.tup ds)
  | _, _ => False
theorem l_tup : ClV K (rTupU K) vTupC := fun G H xs ds P Q s h f k => by
  unfold vTupC at f
  split at f
  · obtain ⟨v, rfl, hv⟩ := h.inv1
    replace h := hv
    obtain ⟨a, vs, rfl, h1, q1⟩ := h.l s
    exact w_tupL (SqL.of h1) fun p hp => k _ _ _ f (.tup hp q1)
  · obtain ⟨v, rfl, hv⟩ := h.inv1
    replace h := hv
    obtain ⟨a, vs, rfl, g1, h1, q1⟩ := h.t s
    exact w_tupT h1 (k _ _ _ f (.old (.tup g1 q1) rfl))
  · exact f.elim
def vInt : List D → (D → Prop) → Prop
  | [.int i], P => P (.int i)
  | [.bl b], P => P (.int (if b then 1 else 0))
  | _, _ => False
theorem l_int : ClV K rIntU vInt := fun G H xs ds P Q s h f k => by
  unfold vInt at f
  split at f
  · obtain ⟨v, rfl, hv⟩ := h.inv1
    replace h := hv
    obtain rfl := h.intInv
    exact w_intI (k _ _ _ f (.old (.int _) rfl))
  · obtain ⟨v, rfl, hv⟩ := h.inv1
    replace h := hv
    obtain rfl := h.blInv
    exact w_intB (k _ _ _ f (.old (.int _) rfl))
  · exact f.elim
def vMax2 : List D → (D → Prop) → Prop
  | [.int i, .int j], P => P (.int (if j > i then j else i))
  | _, _ => False
theorem l_max2 : ClV K rMax2 vMax2 := fun G H xs ds P Q s h f k => by
  unfold vMax2 at f
  split at f
  · obtain ⟨v, u, rfl, hv, h'⟩ := h.inv2
    replace h := hv
    obtain rfl := h.intInv; obtain rfl := h'.intInv
    exact ⟨_, _, rfl, k _ _ _ f (.old (.int _) rfl)⟩
  · exact f.elim
def vMin2 : List D → (D → Prop) → Prop
  | [.int i, .int j], P => P (.int (if j < i then j else i))
  | _, _ => False
theorem l_min2 : ClV K rMin2 vMin2 := fun G H xs ds P Q s h f k => by
  unfold vMin2 at f
  split at f
  · obtain ⟨v, u, rfl, hv, h'⟩ := h.inv2
    replace h := hv
    obtain rfl := h.intInv; obtain rfl := h'.intInv
    exact ⟨_, _, rfl, k _ _ _ f (.old (.int _) rfl)⟩
  · exact f.elim
theorem bls_v {ns : List Bool} : ∀ {vs : List V}, DdAll K G vs (ns.map D.bl) → vs = ns.map V.bl := by
  induction ns with
  | nil => intro vs h; cases h; rfl
  | cons n ns ih =>
    intro vs h
    cases h with | cons h1 h2 => rw [List.map_cons, h1.blInv, ih h2]
def vAny : List D → (D → Prop) → Prop
  | [.lst ds], P => ∃ ns : List Bool, ds = ns.map D.bl ∧ P (.bl (ns.any id))
  | _, _ => False
theorem l_any : ClV K (rAny K) vAny := fun G H xs ds P Q s h f k => by
  unfold vAny at f
  split at f
  · obtain ⟨v, rfl, hv⟩ := h.inv1
    replace h := hv
    obtain ⟨ns, rfl, f⟩ := f
    obtain ⟨a, vs, rfl, h1, q1⟩ := h.l s
    rw [bls_v q1] at h1
    exact w_any (SqL.of h1) (k _ _ _ f (.old (.bl _) rfl))
  · exact f.elim
def D.tyN : D → Option String
  | .non => some "NoneType"
  | .bl _ => some "bool"
  | .int _ => some "int"
  | .str _ => some "str"
  | .lst _ => some "list"
  | .tup _ => some "tuple"
  | _ => none
def subT : String → String → Option Bool
  | "bool", "int" => some true
  | a, b => if ["int", "bool", "str", "list", "tuple", "dict"].contains b = true then some (a == b) else none
def vIsi : List D → (D → Prop) → Prop
  | [x, .ty n], P => ∃ a b, x.tyN = some a ∧ subT a n = some b ∧ P (.bl b)
  | _, _ => False
theorem tp_tyX {v : V} {d : D} {a : String} (s : Same G H) (h : Tp K G H v d) (e : d.tyN = some a) : TyX K H v (.type a) := by
  cases d with
  | non => cases e; obtain rfl := h.nonInv; exact .base .non
  | bl b => cases e; obtain rfl := h.blInv; exact .base (.bl b)
  | int b => cases e; obtain rfl := h.intInv; exact .base (.int b)
  | str b => cases e; obtain rfl := h.strInv; exact .base (.str b)
  | lst ds => cases e; obtain ⟨p, vs, rfl, h1, _⟩ := h.l s; exact .base (.lst h1)
  | tup ds => cases e; obtain ⟨p, vs, rfl, _, h1, _⟩ := h.t s; exact ty_t h1
  | _ => cases e
theorem kit_sub {K : PySem.W.Frag} {d : D} {a n : String} {b : Bool} (ha : d.tyN = some a) (h : subT a n = some b) : PySem.W.kitOne K (.type a) (.type n) = some b := by
  have hn : n = "int" ∨ n = "bool" ∨ n = "str" ∨ n = "list" ∨ n = "tuple" ∨ n = "dict" := by
    unfold subT at h
    split at h
    · exact .inl rfl
    · split at h
      · rename_i q
        simpa using q
      · cases h
  have hT : a = "NoneType" ∨ a = "bool" ∨ a = "int" ∨ a = "str" ∨ a = "list" ∨ a = "tuple" ∨ a = "dict" := by
    cases d <;> simp [D.tyN] at ha <;> simp [← ha]
  rcases hT with rfl | rfl | rfl | rfl | rfl | rfl | rfl <;> rcases hn with rfl | rfl | rfl | rfl | rfl | rfl
  · obtain rfl : b = false := by simpa [subT] using h.symm
    exact kit_ty (by decide +kernel)
  · obtain rfl : b = false := by simpa [subT] using h.symm
    exact kit_ty (by decide +kernel)
  · obtain rfl : b = false := by simpa [subT] using h.symm
    exact kit_ty (by decide +kernel)
  · obtain rfl : b = false := by simpa [subT] using h.symm
    exact kit_ty (by decide +kernel)
  · obtain rfl : b = false := by simpa [subT] using h.symm
    exact kit_ty (by decide +kernel)
  · obtain rfl : b = false := by simpa [subT] using h.symm
    exact kit_ty (by decide +kernel)
  · obtain rfl : b = true := by simpa [subT] using h.symm
    exact kit_ty (by decide +kernel)
  · obtain rfl : b = true := by simpa [subT] using h.symm
    exact kit_ty (by decide +kernel)
  · obtain rfl : b = false := by simpa [subT] using h.symm
    exact kit_ty (by decide +kernel)
  · obtain rfl : b = false := by simpa [subT] using h.symm
    exact kit_ty (by decide +kernel)
  · obtain rfl : b = false := by simpa [subT] using h.symm
    exact kit_ty (by decide +kernel)
  · obtain rfl : b = false := by simpa [subT] using h.symm
    exact kit_ty (by decide +kernel)
  · obtain rfl : b = true := by simpa [subT] using h.symm
    exact kit_ty (by decide +kernel)
  · obtain rfl : b = false := by simpa [subT] using h.symm
    exact kit_ty (by decide +kernel)
  · obtain rfl : b = false := by simpa [subT] using h.symm
    exact kit_ty (by decide +kernel)
  · obtain rfl : b = false := by simpa [subT] using h.symm
    exact kit_ty (by decide +kernel)
  · obtain rfl : b = false := by simpa [subT] using h.symm
    exact kit_ty (by decide +kernel)
  · obtain rfl : b = false := by simpa [subT] using h.symm
    exact kit_ty (by decide +kernel)
  · obtain rfl : b = false := by simpa [subT] using h.symm
    exact kit_ty (by decide +kernel)
  · obtain rfl : b = false := by simpa [subT] using h.symm
    exact kit_ty (by decide +kernel)
  · obtain rfl : b = true := by simpa [subT] using h.symm
    exact kit_ty (by decide +kernel)
  · obtain rfl : b = false := by simpa [subT] using h.symm
    exact kit_ty (by decide +kernel)
  · obtain rfl : b = false := by simpa [subT] using h.symm
    exact kit_ty (by decide +kernel)
  · obtain rfl : b = false := by simpa [subT] using h.symm
    exact kit_ty (by decide +kernel)
  · obtain rfl : b = false := by simpa [subT] using h.symm
    exact kit_ty (by decide +kernel)
  · obtain rfl : b = false := by simpa [subT] using h.symm
    exact kit_ty (by decide +kernel)
  · obtain rfl : b = false := by simpa [subT] using h.symm
    exact kit_ty (by decide +kernel)
  · obtain rfl : b = true := by simpa [subT] using h.symm
    exact kit_ty (by decide +kernel)
  · obtain rfl : b = false := by simpa [subT] using h.symm
    exact kit_ty (by decide +kernel)
  · obtain rfl : b = false := by simpa [subT] using h.symm
    exact kit_ty (by decide +kernel)
  · obtain rfl : b = false := by simpa [subT] using h.symm
    exact kit_ty (by decide +kernel)
  · obtain rfl : b = false := by simpa [subT] using h.symm
    exact kit_ty (by decide +kernel)
  · obtain rfl : b = false := by simpa [subT] using h.symm
    exact kit_ty (by decide +kernel)
  · obtain rfl : b = false := by simpa [subT] using h.symm
    exact kit_ty (by decide +kernel)
  · obtain rfl : b = true := by simpa [subT] using h.symm
    exact kit_ty (by decide +kernel)
  · obtain rfl : b = false := by simpa [subT] using h.symm
    exact kit_ty (by decide +kernel)
  · obtain rfl : b = false := by simpa [subT] using h.symm
    exact kit_ty (by decide +kernel)
  · obtain rfl : b = false := by simpa [subT] using h.symm
    exact kit_ty (by decide +kernel)
  · obtain rfl : b = false := by simpa [subT] using h.symm
    exact kit_ty (by decide +kernel)
  · obtain rfl : b = false := by simpa [subT] using h.symm
    exact kit_ty (by decide +kernel)
  · obtain rfl : b = false := by simpa [subT] using h.symm
    exact kit_ty (by decide +kernel)
  · obtain rfl : b = true := by simpa [subT] using h.symm
    exact kit_ty (by decide +kernel)
theorem l_isi : ClV K (rIsiU K) vIsi := fun G H xs ds P Q s h f k => by
  unfold vIsi at f
  split at f
  · obtain ⟨v, u, rfl, hv, h'⟩ := h.inv2
    replace h := hv
    obtain ⟨a, b, ea, eb, f⟩ := f
    cases h' with
    | dd h' =>
    cases h'
    exact w_isi (tp_tyX s h ea) (kit_sub ea eb) (k _ _ _ f (.old (.bl _) rfl))
  · exact f.elim
def vJoin : D → List D → (D → Prop) → Prop
  | .str a, [.lst ds], P => ∃ ys : List Str, ds = ys.map D.str ∧ (ys.map (·.length)).sum + ys.length * a.length ≤ 16777216 ∧ P (.str (Txt.join a ys))
  | _, _, _ => False
theorem strs_v {ns : List Str} : ∀ {vs : List V}, DdAll K G vs (ns.map D.str) → vs = ns.map V.str := by
  induction ns with
  | nil => intro vs h; cases h; rfl
  | cons n ns ih =>
    intro vs h
    cases h with
    | cons h1 h2 =>
      cases h1
      rw [List.map_cons, ih h2]
theorem m_join : MtV K "str" (rJoinS K) vJoin := fun G H x d xs ds P Q s h hs f k => by
  unfold vJoin at f
  split at f
  · obtain rfl := h.strInv
    obtain ⟨v, rfl, h'⟩ := hs.inv1
    obtain ⟨ys, rfl, hz, f⟩ := f
    obtain ⟨a, vs, rfl, h1, q1⟩ := h'.l s
    rw [strs_v q1] at h1
    exact ⟨_, a, ys, rfl, rfl, .inl (SqL.of h1), hz, k _ _ _ f (.old (.str _) rfl)⟩
  · exact f.elim
end
end Ps
namespace Ps
open PySem PySem.Spec PyProof.Rows L2
section
variable {K : PySem.W.Frag} {G G' H H' : Hp} {R S X C : List (Addr × HO)} {m : Nat} {a : Addr}
def vTake : VSp := fun ds m P _ => ∃ (a : Addr) (n : Int) (k : Nat) (s : Sto), ds = [.adr a, .int n] ∧ m = (some (a, k + 1), s) ∧ 0 < n ∧ n < 2 ^ 62 ∧ ∀ v : Int, 0 ≤ v → v < n → P (.int v) (some (a, k), s)
theorem amb_lw {a : Addr} {k : Nat} {s : Sto} (w : Wd (C ++ R) G H) (h : Amb K G (some (a, k), s) C) : ∃ C2, StoC K G s C2 ∧ LW k a (C2 ++ R) G H := by
  obtain ⟨C1, C2, rfl, ⟨c, t, ns, rfl, h1, h2, h3⟩, st⟩ := h
  exact ⟨C2, st, c, t, ns, by rw [List.append_assoc] at w; exact w, h1, h2, h3⟩
theorem lw_amb {a : Addr} {k : Nat} (h : LW k a R G H) : ∃ C, Wd (C ++ R) G H ∧ AmbD (some (a, k)) C := by
  obtain ⟨c, t, ns, w, h1, h2, h3⟩ := h
  exact ⟨[(a, stD c t), (c, .lst (ns.map V.int))], w, c, t, ns, rfl, h1, h2, h3⟩
theorem dd_adr {v : V} {a : Addr} (h : Dd K G v (.adr a)) : v = .ref a := by cases h; rfl
theorem cv_take {vs : List V} {Q : VK} {E : XK} (h : spV K .O vTake vs H Q E) : spTake vs H Q E := by
  obtain ⟨ds, G, R, C, m, P, X, w, am, q, ⟨a, n, k, s, rfl, rfl, h1, h2, h3⟩, hk, _⟩ := h
  obtain ⟨u, v, rfl, q1, q2⟩ := BoAll.inv2 q
  obtain rfl := dd_adr q1
  obtain rfl := q2.intInv
  obtain ⟨C2, st, lw0⟩ := amb_lw w am
  refine ⟨k, a, n, C2 ++ R, G, rfl, lw0, h1, h2, fun v H' lw h4 h5 => ?_⟩
  obtain ⟨C', w', am'⟩ := lw_amb lw
  exact hk _ _ _ _ G [] (C' ++ C2) (h3 v h4 h5) (Same.refl _) (by rw [List.nil_append, List.append_assoc]; exact w') ⟨C', C2, rfl, am', st⟩ ⟨rfl, .int v⟩
theorem Wd.join (w : Wd R G H) (x : Wd X H H') : Wd (X ++ R) G H' := by
  refine ⟨w.1.trans x.1, fun y hy => ?_, ?_⟩
  · rcases List.mem_append.mp hy with h | h
    · exact ⟨(x.2.1 y h).1, w.1.free (x.2.1 y h).2⟩
    · exact ⟨x.1 _ _ (w.2.1 y h).1, (w.2.1 y h).2⟩
  · rw [List.map_append]
    refine List.nodup_append.mpr ⟨x.2.2, w.2.2, fun b hb b' hb' e => ?_⟩
    subst e
    obtain ⟨y, hy, rfl⟩ := List.mem_map.mp hb
    obtain ⟨z, hz, e⟩ := List.mem_map.mp hb'
    have := (w.2.1 z hz).1
    rw [e, (x.2.1 y hy).2] at this
    cases this
def vBegin : VSp := fun ds m P _ => ∃ ns : List Int, ds = [.scr ns] ∧ ns.length ≤ 63 ∧ m = (none, emp) ∧ ∀ a, P (.adr a) (some (a, 2 ^ 50), emp)
theorem cv_begin {vs : List V} {Q : VK} {E : XK} (h : spV K .O vBegin vs H Q E) : spBegin K vs H Q E := by
  obtain ⟨ds, G, R, C, m, P, X, w, am, q, ⟨ns, rfl, hl, rfl, h3⟩, hk, _⟩ := h
  obtain ⟨u, rfl, q1⟩ := BoAll.inv1 q
  obtain rfl := am.none_inv
  cases q1 with
  | scr q1 =>
    refine ⟨_, ns, rfl, same_l w.1 q1, hl, fun a H' lw => ?_⟩
    obtain ⟨C', w', am'⟩ := lw_amb lw
    rw [List.append_nil] at w'
    exact hk _ _ _ _ G [] C' (h3 a) (Same.refl _) (w.join w') ⟨C', [], (List.append_nil _).symm, am', [], fun _ => rfl, .nil⟩ ⟨rfl, .adr a⟩
def vLaw : VSp := fun ds m P _ => ∃ ns : List Int, ds = [.scr ns] ∧ ns.length ≤ 63 ∧ m = (none, emp) ∧ ∀ m', P (.bl true) m'
theorem cv_law {t : OT} {vs : List V} {Q : VK} {E : XK} (h : spLaw K vs H Q E) : spV K t vLaw vs H Q E := by
  obtain ⟨a, ns, rfl, hs, hl, k⟩ := h
  refine ⟨[.scr ns], H, [], [], (none, emp), fun d _ => d = .bl true, fun _ _ _ => False, Wd.nil (Same.refl _), Amb.none, .one (.scr hs), ⟨ns, rfl, hl, rfl, fun _ => rfl⟩, ?_, fun _ _ _ _ _ _ _ h => h.elim⟩
  rintro d m' v H' G' S1 C' rfl s w am o
  have : v = .bl true := by
    cases t with
    | F => exact o.2.blInv
    | O => exact Dd.blInv o.2
  subst this
  exact k H'
theorem spV.imp {t : OT} {a b : VSp} (h : ∀ ds m P X, a ds m P X → b ds m P X) {vs : List V} {Q : VK} {E : XK} (q : spV K t a vs H Q E) : spV K t b vs H Q E := by
  obtain ⟨ds, G, R, C, m, P, X, w, am, q, hs, k⟩ := q
  exact ⟨ds, G, R, C, m, P, X, w, am, q, h _ _ _ _ hs, k⟩
theorem spV.len {t : OT} {a : VSp} {n : Nat} (h : ∀ ds m P X, a ds m P X → ds.length = n) {vs : List V} {Q : VK} {E : XK} (q : spV K t a vs H Q E) : vs.length = n := by
  obtain ⟨ds, G, R, C, m, P, X, w, am, q, hs, k⟩ := q
  rw [q.len]; exact h _ _ _ _ hs
end
end Ps
namespace Ps
open PySem PySem.Spec PyProof.Rows L2
section
variable {c : JC} {K : PySem.W.Frag} {Γ : List OT} {G G' H H' : Hp} {T S S1 S2 R : List (Addr × HO)} {env : Env} {σ : L2.St} {m : Mst} {v : V} {d : D}
abbrev VP := Env → Mst → (List (D × D) → Mst → Prop) → Prop
def vpNil : VP := fun _ m P => P [] m
def vpCons (a b : VE) (r : VP) : VP := fun env m P => a env m fun x m1 => b env m1 fun y m2 => r env m2 fun ps m3 => P ((x, y) :: ps) m3
inductive DdPairs (K : PySem.W.Frag) (G : Hp) : List (V × V) → List (D × D) → Prop
  | nil : DdPairs K G [] []
  | cons {u v : V} {d e : D} {us : List (V × V)} {ds : List (D × D)} : Dd K G u d → Dd K G v e → DdPairs K G us ds → DdPairs K G ((u, v) :: us) ((d, e) :: ds)
theorem DdPairs.mono (s : Same G G') {us : List (V × V)} {ds : List (D × D)} (h : DdPairs K G us ds) : DdPairs K G' us ds := by
  induction h with
  | nil => exact .nil
  | cons h1 h2 _ ih => exact .cons (h1.mono s) (h2.mono s) ih
def SPr (c : JC) (Γ : List OT) (trs : List (TE × TE)) (vp : VP) : Prop := ∀ (T : List (Addr × HO)) (G H : Hp) (S : List (Addr × HO)) (env : Env) (σ : L2.St) (m : Mst) (P : List (D × D) → Mst → Prop) (Q : List (V × V) → Hp → Prop), Stx c Γ G H T S env σ m → vp env m P →
  (∀ ds m' us G' H', P ds m' → Same G G' → Stx c Γ G' H' T S env σ m' → DdPairs c.K G' us ds → Q us H') → tPairs trs σ H Q
theorem p_nil : SPr c Γ [] vpNil := fun T G H S env σ m P Q st hv k => k [] m [] G H hv (Same.refl G) st .nil
theorem p_cons {ta tb : TE} {va vb : VE} {trs : List (TE × TE)} {vp : VP} (ha : SF c Γ ta va) (hb : SF c Γ tb vb) (hr : SPr c Γ trs vp) : SPr c Γ ((ta, tb) :: trs) (vpCons va vb vp) := fun T G H S env σ m P Q st hv k =>
  ha T G H S env σ m _ _ st hv fun x m1 u G1 H1 p1 s1 st1 q1 => hb T G1 H1 S env σ m1 _ _ st1 p1 fun y m2 w G2 H2 p2 s2 st2 q2 => hr T G2 H2 S env σ m2 _ _ st2 p2 fun ds m3 us G3 H3 p3 s3 st3 q3 =>
    k _ m3 _ G3 H3 p3 (s1.trans (s2.trans s3)) st3 (.cons (q1.mono (s2.trans s3)) (q2.mono s3) q3)
def pairsK : List (D × D) → Option (List (Key × D))
  | [] => some []
  | (x, y) :: r => match dKey x, pairsK r with
    | some k, some ks => some ((k, y) :: ks)
    | _, _ => none
theorem pairsK_v : ∀ {us : List (V × V)} {ds : List (D × D)} {ks : List (Key × D)}, DdPairs K G us ds → pairsK ds = some ks → ∃ kvs : List (Key × V), us = kvs.map (fun kv => (kV kv.1, kv.2)) ∧ kvs.map Prod.fst = ks.map Prod.fst ∧ DdAll K G (kvs.map Prod.snd) (ks.map Prod.snd)
  | _, _, ks, .nil, e => by cases e; exact ⟨[], rfl, rfl, .nil⟩
  | _, _, ks, .cons (d := d) (ds := ds) h1 h2 t, e => by
    unfold pairsK at e
    split at e
    · rename_i k ks' e1 e2
      cases e
      obtain ⟨kvs, rfl, e3, e4⟩ := pairsK_v t e2
      exact ⟨(k, _) :: kvs, by rw [List.map_cons, kV_of (.dd h1 : Tp K G G _ d) e1], by rw [List.map_cons, List.map_cons, e3], .cons h2 e4⟩
    · cases e
def mergeD (kds more : List (Key × D)) : List (Key × D) := more.foldl (fun acc kv => dput acc kv.1 kv.2) kds
theorem merge_d : ∀ {more : List (Key × V)} {ds : List (Key × D)} {kvs : List (Key × V)} {kds : List (Key × D)}, more.map Prod.fst = ds.map Prod.fst → DdAll K G (more.map Prod.snd) (ds.map Prod.snd) → kvs.map Prod.fst = kds.map Prod.fst → DdAll K G (kvs.map Prod.snd) (kds.map Prod.snd) →
    (mergeK kvs more).map Prod.fst = (mergeD kds ds).map Prod.fst ∧ DdAll K G ((mergeK kvs more).map Prod.snd) ((mergeD kds ds).map Prod.snd)
  | [], [], _, _, _, _, e, q => ⟨e, q⟩
  | [], _ :: _, _, _, e, _, _, _ => by simp at e
  | _ :: _, [], _, _, e, _, _, _ => by simp at e
  | x :: more, y :: ds, kvs, kds, e, q, e', q' => by
    rw [List.map_cons, List.map_cons] at e
    obtain ⟨h1, h2⟩ := List.cons.inj e
    rw [List.map_cons, List.map_cons] at q
    cases q with
    | cons q1 q2 =>
      have z := merge_d (kvs := putK kvs x.1 x.2) (kds := dput kds y.1 y.2) h2 q2 (by rw [h1]; exact put_fst e') (by rw [h1]; exact put_snd q1 e' q')
      exact z
def vDisp (vp : VP) : VE := fun env m P => vp env m fun ps m1 => ∃ ks, pairsK ps = some ks ∧ ks.length ≤ 15 ∧ P (.dic (mergeD [] ks)) m1
theorem s_disp {trs : List (TE × TE)} {vp : VP} (h : SPr c Γ trs vp) : SO c Γ (tDisp trs) (vDisp vp) := fun T G H S env σ m P Q st hv k p hp => by
  refine h ((p, .dK []) :: T) G _ S env σ m _ _ (st.new hp) hv fun ds m1 us G1 H1 p1 s1 st1 q1 => ?_
  obtain ⟨ks, e1, e2, p1⟩ := p1
  obtain ⟨kvs, rfl, e3, e4⟩ := pairsK_v q1 e1
  obtain ⟨s, C, w, a, z⟩ := id st1
  have el : kvs.length = ks.length := by simpa using congrArg List.length e3
  obtain ⟨m1', m2'⟩ := merge_d (kvs := []) (kds := []) e3 e4 rfl .nil
  refine ⟨w.hd, kvs, rfl, by rw [el]; exact e2, ?_⟩
  exact k _ m1 _ G1 _ [(p, .dK (mergeK [] kvs))] p1 s1 ⟨s, C, w.put, a, z⟩ ⟨p, _, rfl, rfl, m1', m2'⟩
end
end Ps
namespace Ps
open PySem PySem.Spec PyProof.Rows L2
section
variable {V : VEnds} {env : Env} {m : Mst} {a b : VS} {ve va vb vc : VE} {vl : VA} {vt vu : VT} {vg : VG} {vgs : VGs} {i j : Nat} {d e : D} {ds : List D} {P : D → Mst → Prop} {B : Bool → Mst → Prop} {A : List D → Mst → Prop} {E : Env → Prop} {Z : D → Prop} {n k : Int} {s t : Str}
theorem e_seq (h : a { V with nx := b V } env m) : vSeqS a b V env m := h
theorem e_seqO (h : ∀ N : Env → Mst → Prop, (∀ e m, b V e m → N e m) → a { V with nx := N } env m) : vSeqS a b V env m := h (b V) fun _ _ h => h
theorem e_seqAsg {vi : VE} {g : VG} (h : (vAsg vi g) { V with nx := b V } env m) : vSeqS (vAsg vi g) b V env m := h
theorem e_seqDrop {vi : VE} (h : (vDrop vi) { V with nx := b V } env m) : vSeqS (vDrop vi) b V env m := h
theorem e_seqAug {f : D → D → (D → Prop) → Prop} {vi : VE} (h : (vAug i f vi) { V with nx := b V } env m) : vSeqS (vAug i f vi) b V env m := h
theorem e_seqApp {vi : VE} (h : (vApp i vi) { V with nx := b V } env m) : vSeqS (vApp i vi) b V env m := h
theorem e_seqMut {f : List D → List D → (List D → D → Prop) → Prop} (h : (vMut i f vl) { V with nx := b V } env m) : vSeqS (vMut i f vl) b V env m := h
theorem e_seqPut {vi vk : VE} (h : (vPut i vi vk) { V with nx := b V } env m) : vSeqS (vPut i vi vk) b V env m := h
theorem e_seqPar  (h : (vPar i j vl) { V with nx := b V } env m) : vSeqS (vPar i j vl) b V env m := h
theorem e_seqFor {ws : List Nat} {vi : VA} (h : (vFor ws vi vg a) { V with nx := b V } env m) : vSeqS (vFor ws vi vg a) b V env m := h
theorem e_seqWhile {ws : List Nat} (h : (vWhile ws vt a) { V with nx := b V } env m) : vSeqS (vWhile ws vt a) b V env m := h
theorem e_seqNext  (h : (vNext) { V with nx := b V } env m) : vSeqS (vNext) b V env m := h
theorem e_seqSeq {x y : VS} (h : (vSeqS x y) { V with nx := b V } env m) : vSeqS (vSeqS x y) b V env m := h
theorem e_asg (h : ve env m fun d m1 => vg d env fun e1 => V.nx e1 m1) : vAsg ve vg V env m := h
theorem e_ret (h : ve env m V.rt) : vRet ve V env m := h
theorem e_if (h : vt env m fun x m1 => if x = true then a V env m1 else b V env m1) : vIf vt a b V env m := h
theorem e_next (h : V.nx env m) : vNext V env m := h
theorem e_app (hx : env[i]? = some (some (.lst ds))) (h : ve env m fun d m1 => ds.length < sizeLine ∧ V.nx (env.set i (some (.lst (ds ++ [d])))) m1) : vApp i ve V env m := ⟨ds, hx, h⟩
theorem e_gname (h : E (env.set i (some d))) : vgName i d env E := h
theorem e_gtup {n : Nat} (hl : ds.length = n) (h : vgs ds env E) : vgTup n vgs (.tup ds) env E := ⟨hl, h⟩
theorem e_gtupU {n : Nat} (hl : ds.length = n) (h : vgs ds env E) : vgTupU n vgs (.tup ds) env E := ⟨hl, h⟩
theorem e_gtupL {n : Nat} (hl : ds.length = n) (h : vgs ds env E) : vgTupU n vgs (.lst ds) env E := ⟨hl, h⟩
theorem e_gcons (h : vg d env fun e => vgs ds e E) : vgCons vg vgs (d :: ds) env E := h
theorem e_gnil (h : E env) : vgNil [] env E := ⟨rfl, h⟩
theorem e_var (hx : env[i]? = some (some d)) (h : P d m) : vVar i env m P := ⟨d, hx, h⟩
theorem e_c (h : P d m) : vC d env m P := h
theorem e_nil (h : A [] m) : vNil env m A := h
theorem e_cons (h : ve env m fun d m1 => vl env m1 fun ds m2 => A (d :: ds) m2) : vCons ve vl env m A := h
theorem e_op {f : D → D → (D → Prop) → Prop} (h : va env m fun x m1 => vb env m1 fun y m2 => f x y fun z => P z m2) : vOp f va vb env m P := h
theorem e_un {f : D → (D → Prop) → Prop} (h : va env m fun x m1 => f x fun z => P z m1) : vUn f va env m P := h
theorem e_cb {f : List D → (D → Prop) → Prop} (h : vl env m fun xs m1 => f xs fun z => P z m1) : vCB f vl env m P := h
theorem e_bm {T : String} {f : D → List D → (D → Prop) → Prop} (h : ve env m fun x m1 => isTy T x = true ∧ vl env m1 fun xs m2 => f x xs fun z => P z m2) : vBMt T f ve vl env m P := h
theorem e_tyS {Q : Prop} (h : Q) : isTy "str" (.str s) = true ∧ Q := ⟨rfl, h⟩
theorem e_tyL {Q : Prop} (h : Q) : isTy "list" (.lst ds) = true ∧ Q := ⟨rfl, h⟩
theorem e_lst (h : vl env m fun xs m1 => xs.length ≤ sizeLine ∧ P (.lst xs) m1) : vLst vl env m P := h
theorem e_tup (h : vl env m fun xs m1 => xs.length ≤ sizeLine ∧ P (.tup xs) m1) : vTup vl env m P := h
theorem e_len (hz : Nat.ble ds.length 16777216 = true) {Q : Prop} (h : Q) : ds.length ≤ sizeLine ∧ Q := ⟨sz_le (Nat.le_of_ble_eq_true hz), h⟩
theorem e_ifE (h : vt env m fun b m1 => if b = true then va env m1 P else vb env m1 P) : vIfE vt va vb env m P := h
theorem e_blE {b : Bool} {Q : Bool → Prop} (h : Q b) : ∃ c, D.bl b = .bl c ∧ Q c := ⟨b, rfl, h⟩
theorem e_test (h : ve env m fun x m1 => ∃ b, x = .bl b ∧ B b m1) : vTest ve env m B := h
theorem e_tru (h : ve env m fun x m1 => truD x B m1) : vTru ve env m B := h
theorem e_truB {b : Bool} (h : B b m) : truD (.bl b) B m := h
theorem e_truN (h : B false m) : truD .non B m := h
theorem e_truI (h : B (n != 0) m) : truD (.int n) B m := h
theorem e_truL (h : B (!ds.isEmpty) m) : truD (.lst ds) B m := h
theorem e_truT (h : B (!ds.isEmpty) m) : truD (.tup ds) B m := h
theorem e_and (h : vt env m fun x m1 => if x = true then vu env m1 B else B false m1) : vAnd vt vu env m B := h
theorem e_or (h : vt env m fun x m1 => if x = true then B true m1 else vu env m1 B) : vOr vt vu env m B := h
theorem e_not (h : vt env m fun x m1 => B (!x) m1) : vNot vt env m B := h
theorem e_yes (h : B true m) : vYes env m B := h
theorem e_call {vsp : VSp} (h : vl env m fun ds m1 => vsp ds m1 P fun _ _ _ => False) : vCall vsp vl env m P := h
theorem frOk_bl {t : OT} {b : Bool} : frOk t (.bl b) := by cases t; exact .bl b; exact .inl (.bl b)
theorem frOk_int {t : OT} {b : Int} : frOk t (.int b) := by cases t; exact .int b; exact .inl (.int b)
theorem e_frB {t : OT} {b : Bool} {Q : Prop} (h : Q) : frOk t (.bl b) ∧ Q := ⟨frOk_bl, h⟩
theorem e_frI {t : OT} {b : Int} {Q : Prop} (h : Q) : frOk t (.int b) ∧ Q := ⟨frOk_int, h⟩
theorem e_sl {f : D → Option Int → Option Int → (D → Prop) → Prop} {vlo vhi : VO} (h : ve env m fun x m1 => vlo env m1 fun l m2 => vhi env m2 fun h m3 => f x l h fun z => P z m3) : vSl f ve vlo vhi env m P := h
theorem e_nopart {Q : Option Int → Mst → Prop} (h : Q none m) : vNoPart env m Q := h
theorem e_part {Q : Option Int → Mst → Prop} (h : ve env m fun x m1 => ∃ i, x = .int i ∧ Q (some i) m1) : vPart ve env m Q := h
theorem e_intE {Q : Int → Prop} (h : Q n) : ∃ i, D.int n = .int i ∧ Q i := ⟨n, rfl, h⟩
theorem e_addI (h : Z (.int (n + k))) : vAdd (.int n) (.int k) Z := h
theorem e_addS (hz : s.length + t.length ≤ sizeLine) (h : Z (.str (s ++ t))) : vAdd (.str s) (.str t) Z := ⟨hz, h⟩
theorem e_addL {x y : List D} (hz : x.length + y.length ≤ 16777216) (h : Z (.lst (x ++ y))) : vAdd (.lst x) (.lst y) Z := ⟨sz_le hz, h⟩
theorem e_subI (h : Z (.int (n - k))) : vSub (.int n) (.int k) Z := h
theorem e_mulI (hc : CMul n k ∨ CMulW n k) (h : Z (.int (n * k))) : vMul (.int n) (.int k) Z := ⟨hc, h⟩
theorem e_divI (hc : CDiv n k ∨ CDivW n k) (h : Z (.int (n / k))) : vDiv (.int n) (.int k) Z := ⟨hc, h⟩
theorem e_modI (hc : 0 < k) (h : Z (.int (n % k))) : vMod (.int n) (.int k) Z := ⟨hc, h⟩
theorem e_powI (hc : CPow n k) (h : Z (.int (n ^ k.toNat))) : vPow (.int n) (.int k) Z := ⟨hc, h⟩
theorem e_negI (h : Z (.int (-n))) : vNeg (.int n) Z := h
theorem e_eqI (h : Z (.bl (decide (n = k)))) : vEqC (.int n) (.int k) Z := h
theorem e_eqS (h : Z (.bl (decide (s = t)))) : vEqC (.str s) (.str t) Z := h
theorem e_eqB {x y : Bool} (h : Z (.bl (decide (x = y)))) : vEqC (.bl x) (.bl y) Z := h
theorem e_neI (h : Z (.bl (!decide (n = k)))) : vNeC (.int n) (.int k) Z := h
theorem e_neS (h : Z (.bl (!decide (s = t)))) : vNeC (.str s) (.str t) Z := h
theorem e_neB {x y : Bool} (h : Z (.bl (!decide (x = y)))) : vNeC (.bl x) (.bl y) Z := h
theorem e_ltI (h : Z (.bl (decide (n < k)))) : vLt (.int n) (.int k) Z := h
theorem e_leI (h : Z (.bl (decide (n ≤ k)))) : vLe (.int n) (.int k) Z := h
theorem e_gtI (h : Z (.bl (decide (k < n)))) : vGt (.int n) (.int k) Z := h
theorem e_geI (h : Z (.bl (decide (k ≤ n)))) : vGe (.int n) (.int k) Z := h
theorem e_isNn (h : Z (.bl true)) : vIsN .non .non Z := h
theorem e_isNi (h : Z (.bl false)) : vIsN (.int n) .non Z := h
theorem e_isNs (h : Z (.bl false)) : vIsN (.str s) .non Z := h
theorem e_isNl (h : Z (.bl false)) : vIsN (.lst ds) .non Z := h
theorem e_isNt (h : Z (.bl false)) : vIsN (.tup ds) .non Z := h
theorem e_isNb {b : Bool} (h : Z (.bl false)) : vIsN (.bl b) .non Z := h
theorem e_ntNn (h : Z (.bl false)) : vNotN .non .non Z := h
theorem e_ntNi (h : Z (.bl true)) : vNotN (.int n) .non Z := h
theorem e_ntNs (h : Z (.bl true)) : vNotN (.str s) .non Z := h
theorem e_ntNl (h : Z (.bl true)) : vNotN (.lst ds) .non Z := h
theorem e_ntNt (h : Z (.bl true)) : vNotN (.tup ds) .non Z := h
theorem e_isN (h : Z (.bl d.isN)) : vIsN d .non Z := by cases d <;> exact h
theorem e_notN (h : Z (.bl (!d.isN))) : vNotN d .non Z := by cases d <;> exact h
theorem e_ixL {x : D} (he : atI ds n = some x) (h : Z x) : vIx (.lst ds) (.int n) Z := ⟨x, he, h⟩
theorem e_ixT {x : D} (he : atI ds n = some x) (h : Z x) : vIx (.tup ds) (.int n) Z := ⟨x, he, h⟩
theorem e_ixS {c : Nat} (hz : s.length ≤ 16777216) (he : atI s.cps.toList n = some c) (h : Z (.str ⟨#[c]⟩)) : vIx (.str s) (.int n) Z := ⟨sz_le hz, c, he, h⟩
theorem e_ixD {kds : List (Key × D)} {y x : D} {kk : Key} (hk : dKey y = some kk) (he : dget kds kk = some x) (h : Z x) : vIx (.dic kds) y Z := by cases y <;> first | exact ⟨kk, x, hk, he, h⟩ | cases hk
theorem e_lenL (h : Z (.int ds.length)) : vLen [.lst ds] Z := h
theorem e_lenT (h : Z (.int ds.length)) : vLen [.tup ds] Z := h
theorem e_lenD {kds : List (Key × D)} (h : Z (.int kds.length)) : vLen [.dic kds] Z := h
theorem e_lenS (hz : s.length ≤ 16777216) (h : Z (.int s.length)) : vLen [.str s] Z := ⟨sz_le hz, h⟩
theorem e_tupL (h : Z (.tup ds)) : vTupC [.lst ds] Z := h
theorem e_tupT (h : Z (.tup ds)) : vTupC [.tup ds] Z := h
theorem e_intI (h : Z (.int n)) : vInt [.int n] Z := h
theorem e_intB {b : Bool} (h : Z (.int (if b then 1 else 0))) : vInt [.bl b] Z := h
theorem e_max2 (h : Z (.int (if k > n then k else n))) : vMax2 [.int n, .int k] Z := h
theorem e_min2 (h : Z (.int (if k < n then k else n))) : vMin2 [.int n, .int k] Z := h
theorem e_isi {x : D} {ty a : String} {b : Bool} (ha : x.tyN = some a) (hb : subT a ty = some b) (h : Z (.bl b)) : vIsi [x, .ty ty] Z := ⟨a, b, ha, hb, h⟩
theorem e_cutL {lo hi : Option Int} (h : Z (.lst (cutD ds lo hi))) : vCut (.lst ds) lo hi Z := h
theorem e_cutT {lo hi : Option Int} (h : Z (.tup (cutD ds lo hi))) : vCut (.tup ds) lo hi Z := h
theorem e_cutS {lo hi : Option Int} (hz : s.length ≤ 16777216) (h : Z (.str (cutS s lo hi))) : vCut (.str s) lo hi Z := ⟨sz_le hz, h⟩
theorem e_any {ns : List Bool} (h : Z (.bl (ns.any id))) : vAny [.lst (ns.map D.bl)] Z := ⟨ns, rfl, h⟩
theorem e_take {x : Addr} {r : Nat} {s0 : Sto} {VX : XV} (hl : 1 ≤ r) (h0 : 0 < n) (h1 : n < 2 ^ 62) (h : ∀ (v : Int) (r' : Nat), 0 ≤ v → v < n → r ≤ r' + 1 → P (.int v) (some (x, r'), s0)) : vTake [.adr x, .int n] (some (x, r), s0) P VX := ⟨x, n, r - 1, s0, rfl, by rw [Nat.sub_add_cancel (by omega)], h0, h1, fun v q1 q2 => h v _ q1 q2 (by omega)⟩
theorem e_sc {b : Bool} {Q : Prop} (h : Q) : (D.bl b).sc = true ∧ Q := ⟨rfl, h⟩
theorem e_scI {Q : Prop} (h : Q) : (D.int n).sc = true ∧ Q := ⟨rfl, h⟩
end
section
variable {va : VA} {ve : VE} {env : Env} {m : Mst} {A : List D → Mst → Prop} {ds es : List D} {n k : Int}
theorem e_seqv (h : ve env m fun x m1 => itSeq x A m1) : vSeq ve env m A := h
theorem e_itL (h : A ds m) : itSeq (.lst ds) A m := h
theorem e_itT (h : A ds m) : itSeq (.tup ds) A m := h
theorem e_itS {z : Str} (h : A (signsOf z) m) : itSeq (.str z) A m := h
theorem e_rng1 (h : va env m fun xs m1 => ∃ j, xs = [.int j] ∧ itRng xs A m1) : vRng1 va env m A := h
theorem e_rg1 (h : itRng [.int n] A m) : ∃ j, [D.int n] = [.int j] ∧ itRng [.int n] A m := ⟨n, rfl, h⟩
theorem e_rg2 (h : itRng [.int n, .int k] A m) : ∃ i j, [D.int n, D.int k] = [.int i, .int j] ∧ itRng [.int n, .int k] A m := ⟨n, k, rfl, h⟩
theorem e_itR {j : Nat} (hj : j < 2 ^ 62) (h : A (rangeD 0 j) m) : itRng [.int (j : Int)] A m := ⟨⟨by omega, by omega⟩, by rw [Int.toNat_natCast]; exact h⟩
theorem e_itZL (h : A (zipD ds es) m) : itZip [.lst ds, .lst es] A m := h
theorem e_itZT (h : A (zipD ds es) m) : itZip [.tup ds, .tup es] A m := h
theorem e_itEL (h : A (enumD ds) m) : itEnum [.lst ds] A m := h
theorem e_itES {z : Str} (h : A (enumD (signsOf z)) m) : itEnum [.str z] A m := h
theorem e_itET (h : A (enumD ds) m) : itEnum [.tup ds] A m := h
theorem e_itVL (h : A ds.reverse m) : itRev (.lst ds) A m := h
theorem e_itVT (h : A ds.reverse m) : itRev (.tup ds) A m := h
theorem rangeD_at {lo : Int} {n i : Nat} {d : D} (h : (rangeD lo n)[i]? = some d) : i < n ∧ d = .int (lo + (i : Int)) := by
  have hi : i < n := by
    have := (List.getElem?_eq_some_iff.mp h).1
    rw [rangeD_len] at this
    exact this
  rw [rangeD_get hi] at h
  exact ⟨hi, (Option.some.inj h).symm⟩
theorem map_at {α : Type} {f : α → D} {xs : List α} {i : Nat} {d : D} (h : (xs.map f)[i]? = some d) : ∃ x, xs[i]? = some x ∧ d = f x := by
  rw [List.getElem?_map] at h
  cases e : xs[i]? with
  | none => rw [e] at h; cases h
  | some c => rw [e] at h; exact ⟨c, rfl, (Option.some.inj h).symm⟩
end
section
variable {ve : VE} {vt : VT} {vg : VG} {vb : VS} {env : Env} {m : Mst} {V : VEnds} {ws vs : List Nat} {items : List D} {P : D → Mst → Prop}
theorem e_for {vi : VA} (h : vi env m fun items m1 => forD ws items vg vb V env m1) : vFor ws vi vg vb V env m := h
theorem e_lc {vi : VA} (h : vi env m fun items m1 => lcD items vg vt ve vs env m1 P) : vLc vi vg vt ve vs env m P := h
theorem for_inv (W : Nat → Env → Mst → Prop) (h0 : W 0 (wipeE env ws) m) (hs : ∀ i e m' d, i < items.length → W i e m' → items[i]? = some d → vg d e fun e1 => vb { V with nx := fun e2 m2 => W (i + 1) (wipeE e2 ws) m2, ct := fun e2 m2 => W (i + 1) (wipeE e2 ws) m2, bk := fun e2 m2 => V.nx (wipeE e2 ws) m2 } e1 m')
  (hd : ∀ e m', W items.length e m' → V.nx e m') : forD ws items vg vb V env m := ⟨W, h0, fun i e m' d hw ed => hs i e m' d (List.getElem?_eq_some_iff.mp ed).1 hw ed, hd⟩
theorem lc_mapL {α : Type} {xs : List α} {g h : α → D} (hz : xs.length ≤ 16777216) (hs : ∀ (i : Nat) (x : α) (Q : D → Mst → Prop), xs[i]? = some x → Q (h x) m → vg (g x) (wipeE env vs) fun e1 => ve e1 m Q)
  (k : P (.lst (xs.map h)) m) : lcD (xs.map g) vg vYes ve vs env m P := by
  refine ⟨fun i acc m' => acc = (xs.take i).map h ∧ m' = m, ⟨by rw [List.take_zero]; rfl, rfl⟩, ?_, ?_⟩
  · rintro i acc m' d ⟨rfl, rfl⟩ e
    obtain ⟨x, ex, rfl⟩ := map_at e
    have hi := (List.getElem?_eq_some_iff.mp ex).1
    refine hs i x _ ex ⟨by rw [List.length_map, List.length_take]; exact sz_lt (by omega), ?_, rfl⟩
    rw [take_snoc ex, List.map_append]
    rfl
  · rintro acc m' ⟨rfl, rfl⟩
    rw [List.length_map, List.take_length]
    exact k
theorem lc_fltL {α : Type} {xs : List α} {g h : α → D} {p : α → Bool} (hz : xs.length ≤ 16777216) (hs : ∀ (i : Nat) (x : α) (Q : D → Mst → Prop) (R : Mst → Prop), xs[i]? = some x → (p x = true → Q (h x) m) → (p x = false → R m) → vg (g x) (wipeE env vs) fun e1 => vt e1 m fun b m2 => if b = true then ve e1 m2 Q else R m2)
  (k : P (.lst ((xs.filter p).map h)) m) : lcD (xs.map g) vg vt ve vs env m P := by
  refine ⟨fun i acc m' => acc = ((xs.take i).filter p).map h ∧ m' = m, ⟨by rw [List.take_zero]; rfl, rfl⟩, ?_, ?_⟩
  · rintro i acc m' d ⟨rfl, rfl⟩ e
    obtain ⟨x, ex, rfl⟩ := map_at e
    have hi := (List.getElem?_eq_some_iff.mp ex).1
    have hl : (((xs.take i).filter p).map h).length ≤ i := by
      rw [List.length_map]
      exact Nat.le_trans (List.length_filter_le _ _) (by rw [List.length_take]; omega)
    refine hs i x _ _ ex (fun e => ⟨sz_lt (by omega), ?_, rfl⟩) (fun e => ⟨?_, rfl⟩)
    · rw [take_snoc ex, List.filter_append, List.map_append, List.filter_cons_of_pos e]
      rfl
    · rw [take_snoc ex, List.filter_append, List.filter_cons_of_neg (by rw [e]; exact Bool.false_ne_true), List.filter_nil, List.append_nil]
  · rintro acc m' ⟨rfl, rfl⟩
    rw [List.length_map, List.take_length]
    exact k
end
end Ps
namespace Ps
open PySem PySem.Spec PyProof.Rows L2
def lookS (s : Sto) (a : Addr) : D := match s a with
  | some (.lst ds) => .lst ds
  | some (.dic kds) => .dic kds
  | some (.lck _ kds) => .dic kds
  | _ => .adr a
@[reducible] def look (s : Sto) : D → D
  | .adr a => lookS s a
  | d => d
section
variable {c : JC} {K : PySem.W.Frag} {Γ Γ1 Γn Γb Γc : List OT} {G G' H H' : Hp} {T S S1 S2 R C : List (Addr × HO)} {env : Env} {σ : L2.St} {m : Mst} {v : V} {d : D} {t : OT} {i j : Nat} {a : Addr} {is : List Nat}
theorem Cell.hd (h : Cell K G a d C) : ∃ x ∈ C, x.1 = a := by
  cases d with
  | lst ds => obtain ⟨vs, rfl, _⟩ := h; exact ⟨_, List.mem_cons_self, rfl⟩
  | dic ds => obtain ⟨vs, rfl, _⟩ := h; exact ⟨_, List.mem_cons_self, rfl⟩
  | obj Cl ds => obtain ⟨dx, vs, rfl, _⟩ := h; exact ⟨_, List.mem_cons_self, rfl⟩
  | dcl w ds => obtain ⟨vs, rfl, _⟩ := h; exact ⟨_, List.mem_cons_self, rfl⟩
  | dct w ds => obtain ⟨vs, rfl, _⟩ := h; exact ⟨_, List.mem_cons_self, rfl⟩
  | lck u ds => obtain ⟨rfl, _⟩ := h; exact ⟨_, List.mem_cons_self, rfl⟩
  | lct w u ds => obtain ⟨rfl, _⟩ := h; exact ⟨_, List.mem_cons_self, rfl⟩
  | _ => exact h.elim
def boxD : D → Mst → (D → Mst → Prop) → Prop
  | .lst ds, m, P => ∀ y, m.2 y = none → P (.adr y) (m.1, sput m.2 y (.lst ds))
  | .dic kds, m, P => ∀ y, m.2 y = none → P (.adr y) (m.1, sput m.2 y (.dic kds))
  | d, m, P => P d m
def dputF (f : Str) (d : D) : List (Str × D) → List (Str × D)
  | [] => [(f, d)]
  | (g, e) :: r => if g = f then (g, d) :: r else (g, e) :: dputF f d r
def vSetF (C : Addr) (f : Str) (vo ve : VE) : VS := fun V env m => ve env m fun d m1 => vo env m1 fun x m2 => ∃ a fs, x = .adr a ∧ m2.2 a = some (.obj C fs) ∧ fs.length < 1000 ∧ V.nx env (m2.1, sput m2.2 a (.obj C (dputF f d fs)))
def vAugF (C : Addr) (f : Str) (g : D → D → (D → Prop) → Prop) (vo ve : VE) : VS := fun V env m => vo env m fun x m1 => ∃ a fs x0, x = .adr a ∧ m1.2 a = some (.obj C fs) ∧ fs.lookup f = some x0 ∧ ve env m1 fun y m2 => g x0 y fun z => ∃ fs', m2.2 a = some (.obj C fs') ∧ fs'.length < 1000 ∧ V.nx env (m2.1, sput m2.2 a (.obj C (dputF f z fs')))
def vMutS (f : List D → List D → (List D → D → Prop) → Prop) (ve : VE) (va : VA) : VS := fun V env m => ve env m fun x m1 => ∃ a ds0, x = .adr a ∧ m1.2 a = some (.lst ds0) ∧ va env m1 fun xs m2 => ∃ ds, m2.2 a = some (.lst ds) ∧ f ds (xs.map (look m2.2)) fun ds' z => V.nx env (m2.1, sput m2.2 a (.lst ds'))
def vAppS (ve vx : VE) : VS := fun V env m => ve env m fun x m1 => ∃ a ds0, x = .adr a ∧ m1.2 a = some (.lst ds0) ∧ vx env m1 fun d m2 => ∃ ds, m2.2 a = some (.lst ds) ∧ ds.length < sizeLine ∧ V.nx env (m2.1, sput m2.2 a (.lst (ds ++ [d])))
def vPutS (vo ve vk : VE) : VS := fun V env m => ve env m fun d m1 => vo env m1 fun x m2 => ∃ a, x = .adr a ∧ vk env m2 fun y m3 => (∃ ds k j, m3.2 a = some (.lst ds) ∧ y = .int k ∧ ixN ds.length k = some j ∧ V.nx env (m3.1, sput m3.2 a (.lst (ds.set j d)))) ∨
  ∃ kds k, m3.2 a = some (.dic kds) ∧ dKey y = some k ∧ kds.length < sizeLine ∧ V.nx env (m3.1, sput m3.2 a (.dic (dput kds k d)))
end
end Ps
namespace Ps
open PySem PySem.Spec PyProof.Rows L2
abbrev VAB := Env → Mst → (List D → List (Addr × D) → Mst → Prop) → Prop
section
variable {c : JC} {K : PySem.W.Frag} {Γ Γ1 Γn Γb Γc : List OT} {G G0 G' H H' : Hp} {T S S1 S2 R C : List (Addr × HO)} {env : Env} {σ : L2.St} {m : Mst} {v : V} {d : D} {t : OT} {i j : Nat} {a b : Addr} {is : List Nat} {bs cs : List (Addr × D)} {ds es : List D}
def HasL (K : PySem.W.Frag) (G0 : Hp) (bs : List (Addr × D)) (a : Addr) (ds : List D) : Prop := ∀ G H, Same G0 G → Same G H → (∀ p ∈ bs, Tp K G H (.ref p.1) p.2) → Tp K G H (.ref a) (.lst ds)
theorem HasL.at {vs : List V} (h : HasL K G0 bs a ds) (s1 : Same G0 G) (s2 : Same G H) (q : ∀ p ∈ bs, Tp K G H (.ref p.1) p.2) (e : H a = some (.lst vs)) : DdAll K G vs ds := by
  obtain ⟨a', vs', e', h1, h2⟩ := (h G H s1 s2 q).l s2
  cases e'
  rw [e] at h1; cases h1
  exact h2
theorem HasL.frz (h : G0 a = some (.lst vs)) (q : DdAll K G0 vs ds) : HasL K G0 [] a ds := fun G H s1 s2 _ => .dd (.lst (s1 _ _ h) (q.mono s1))
theorem HasL.l (h : HasL K G0 bs a ds) : HasL K G0 (bs ++ cs) a ds := fun G H s1 s2 q => h G H s1 s2 fun p hp => q p (List.mem_append_left _ hp)
theorem HasL.r (h : HasL K G0 cs a ds) : HasL K G0 (bs ++ cs) a ds := fun G H s1 s2 q => h G H s1 s2 fun p hp => q p (List.mem_append_right _ hp)
def Stand (bs : List (Addr × D)) (s : Sto) : Prop := ∀ p ∈ bs, s p.1 = some p.2 ∧ ∃ ds, p.2 = .lst ds
def forDB (ws : List Nat) (items : List D) (bs : List (Addr × D)) (vg : VG) (vb : VS) (V : VEnds) (env : Env) (m1 : Mst) : Prop := ∃ W : Nat → Env → Mst → Prop, W 0 (wipeE env ws) m1 ∧ (∀ i e m', W i e m' → Stand bs m'.2) ∧
  (∀ i e m' d, W i e m' → items[i]? = some d → vg d e fun e1 => vb { V with nx := fun e2 m2 => W (i + 1) (wipeE e2 ws) m2, ct := fun e2 m2 => W (i + 1) (wipeE e2 ws) m2, bk := fun e2 m2 => V.nx (wipeE e2 ws) m2 } e1 m') ∧ ∀ e m', W items.length e m' → V.nx e m'
def vForB (ws : List Nat) (vi : VAB) (vg : VG) (vb : VS) : VS := fun V env m => vi env m fun items bs m1 => forDB ws items bs vg vb V env m1
theorem DdAll.dropLast : ∀ {vs : List V} {ds : List D}, DdAll K G vs ds → DdAll K G vs.dropLast ds.dropLast
  | _, _, .nil => .nil
  | _, _, .cons _ .nil => .nil
  | _, _, .cons h (.cons h2 t) => .cons h (DdAll.dropLast (.cons h2 t))
theorem DdAll.ins {v : V} {d : D} (h : Dd K G v d) : ∀ {vs : List V} {ds : List D} (k : Nat), DdAll K G vs ds → DdAll K G (vs.take k ++ v :: vs.drop k) (ds.take k ++ d :: ds.drop k) := fun k q => (q.take k).app (.cons h (q.drop k))
end
end Ps
namespace Ps
open PySem PySem.Spec PyProof.Rows L2
section
variable {X : Cx} {CX : CXT} {k : Nat} {f C : Addr} {fd : FuncData} {ps : List Str} {sp : Sp} {E : L2.St → XK} {x m : Str} {p pos apos : Pos}
end
section
variable {c : JC} {K : PySem.W.Frag} {Γ Γ1 Γn Γb Γc : List OT} {G G0 G' H H' : Hp} {T S S1 S2 R C : List (Addr × HO)} {env : Env} {σ : L2.St} {m : Mst} {v : V} {d : D} {t : OT} {i j : Nat} {a b : Addr}
def vAugS (f : D → D → (D → Prop) → Prop) (vo vk ve : VE) : VS := fun V env m => vo env m fun x m1 => ∃ a, x = .adr a ∧ vk env m1 fun y m2 => ∃ ds k d, m2.2 a = some (.lst ds) ∧ y = .int k ∧ atI ds k = some d ∧ ve env m2 fun z m3 => f d z fun w => ∃ ds' j, m3.2 a = some (.lst ds') ∧ ixN ds'.length k = some j ∧ V.nx env (m3.1, sput m3.2 a (.lst (ds'.set j w)))
end
section
variable {V : VEnds} {env : Env} {m : Mst} {ve va vb vo vk vx : VE} {vl : VA} {P : D → Mst → Prop} {B : Bool → Mst → Prop} {Z : D → Prop} {ds es : List D} {a C : Addr} {fs : List (Str × D)} {f : Str} {d : D} {s : Sto} {A : List D → List (Addr × D) → Mst → Prop}
theorem e_boxL (h : ∀ y, m.2 y = none → P (.adr y) (m.1, sput m.2 y (.lst ds))) : boxD (.lst ds) m P := h
theorem e_boxDi {kds : List (Key × D)} (h : ∀ y, m.2 y = none → P (.adr y) (m.1, sput m.2 y (.dic kds))) : boxD (.dic kds) m P := h
theorem e_seqSetF {b : VS} (h : (vSetF C f vo ve) { V with nx := b V } env m) : vSeqS (vSetF C f vo ve) b V env m := h
theorem e_seqAugF {b : VS} {g : D → D → (D → Prop) → Prop} (h : (vAugF C f g vo ve) { V with nx := b V } env m) : vSeqS (vAugF C f g vo ve) b V env m := h
theorem e_seqAppS {b : VS} (h : (vAppS ve vx) { V with nx := b V } env m) : vSeqS (vAppS ve vx) b V env m := h
theorem e_seqMutS {b : VS} {f : List D → List D → (List D → D → Prop) → Prop} (h : (vMutS f ve vl) { V with nx := b V } env m) : vSeqS (vMutS f ve vl) b V env m := h
theorem e_seqPutS {b : VS} (h : (vPutS vo ve vk) { V with nx := b V } env m) : vSeqS (vPutS vo ve vk) b V env m := h
theorem e_seqAugS {b : VS} {f : D → D → (D → Prop) → Prop} (h : (vAugS f vo vk ve) { V with nx := b V } env m) : vSeqS (vAugS f vo vk ve) b V env m := h
theorem e_seqForB {b a : VS} {vg : VG} {ws : List Nat} {vi : VAB} (h : (vForB ws vi vg a) { V with nx := b V } env m) : vSeqS (vForB ws vi vg a) b V env m := h
end
end Ps
namespace Ps
open PySem PySem.Spec PyProof.Rows L2
section
variable {c : JC} {Γ Γ1 Γ2 Γn Γb Γc : List OT} {G G' H H' : Hp} {T S S1 S2 R : List (Addr × HO)} {env : Env} {σ : L2.St} {m : Mst} {v : V} {d : D} {t : OT} {i j : Nat} {is : List Nat}
def vUpd (i : Nat) (ve : VE) : VS := fun V env m => ∃ kds, env[i]? = some (some (.dic kds)) ∧ ve env m fun x m1 => ∃ more, x = .dic more ∧ kds.length + more.length ≤ 16777216 ∧ V.nx (env.set i (some (.dic (mergeD kds more)))) m1
theorem e_disp {vp : VP} {P : D → Mst → Prop} (h : vp env m fun ps m1 => ∃ ks, pairsK ps = some ks ∧ ks.length ≤ 15 ∧ P (.dic (mergeD [] ks)) m1) : vDisp vp env m P := h
theorem e_pcons {a b : VE} {r : VP} {P : List (D × D) → Mst → Prop} (h : a env m fun x m1 => b env m1 fun y m2 => r env m2 fun ps m3 => P ((x, y) :: ps) m3) : vpCons a b r env m P := h
theorem e_pnil {P : List (D × D) → Mst → Prop} (h : P [] m) : vpNil env m P := h
theorem e_seqUpd {ve : VE} {b : VS} {V : VEnds} (h : (vUpd i ve) { V with nx := b V } env m) : vSeqS (vUpd i ve) b V env m := h
end
end Ps
namespace Ps
open PySem PySem.Spec PyProof.Rows L2
section
variable {P : Program} {w : World} {A : Around} {E : Value → Shared → Prop} {s : Shared}
end
section
variable {c : JC} {Γ : List OT} {env : Env} {m : Mst}
end
end Ps
namespace Ps
open PySem PySem.Spec PyProof.Rows L2
section
variable {prog : Program} {w : World}
end
section
variable {c : JC} {K : PySem.W.Frag} {Γ : List OT} {G G' H H' : Hp} {T S S1 R C : List (Addr × HO)} {env : Env} {σ : L2.St} {m : Mst} {v : V} {d : D}
theorem Cells.out {L : List (Addr × D)} (h : Cells K G L C) {y : Addr} : L.lookup y = some d → ∃ A C1 B L', C = A ++ (C1 ++ B) ∧ Cell K G y d C1 ∧ Cells K G L' (A ++ B) ∧ ∀ b, b ≠ y → L'.lookup b = L.lookup b := by
  induction h with
  | nil => intro e; cases e
  | @cons a d0 L C1 C2 q cs ih =>
    intro e
    by_cases z : y = a
    · subst z
      rw [List.lookup_cons, beq_self_eq_true] at e
      cases e
      exact ⟨[], C1, C2, L, rfl, q, cs, fun b hb => by rw [List.lookup_cons, beq_eq_false_iff_ne.mpr hb]⟩
    · rw [List.lookup_cons, beq_eq_false_iff_ne.mpr z] at e
      obtain ⟨A, D1, B, L', rfl, q2, cs2, f⟩ := ih e
      refine ⟨C1 ++ A, D1, B, (a, d0) :: L', by rw [List.append_assoc], q2, by rw [List.append_assoc]; exact .cons q cs2, fun b hb => ?_⟩
      rw [List.lookup_cons, List.lookup_cons, f b hb]
end
end Ps
namespace PySem.W
open PySem PySem.Calls PyProof.Rows
section
variable {prog : Program} {w : World} {A : Around} {E : Value → Shared → Prop} {s : Shared} {a kS : Addr} {b : Bool} {vs : List Value} {keys : Array Value} {e e1 : Nat} {P : PySem.Fin → Shared → Prop}
end
end PySem.W
namespace Ps
open PySem PySem.Spec PyProof.Rows L2
section
variable {X : Cx} {pins : List (Addr × Obj)} {σ : L2.St} {k : Nat} {f : Addr} {fd : FuncData} {p : Str} {sp : Sp} {H : Hp} {s : Shared}
end
section
variable {c : JC} {Γ : List OT} {env : Env} {m : Mst}
end
end Ps
namespace Ps
open PySem PySem.Spec PyProof.Rows L2
section
variable {X : Cx} {pins : List (Addr × Obj)} {σ : L2.St} {H : Hp} {s : Shared} {a : Addr} {kvs : List (Leaf × V)} {k : Leaf} {v : V} {u r : Value} {A : Around} {E : Value → Shared → Prop}
end
section
variable {κ : Type} [DecidableEq κ] {K : PySem.W.Frag} {G : Hp}
end
section
variable {c : JC} {Γ Γ1 Γn Γb Γc : List OT} {G G' H H' : Hp} {T S S1 S2 R C : List (Addr × HO)} {env : Env} {σ : L2.St} {m : Mst} {v : V} {d : D} {t : OT} {i j : Nat} {a : Addr} {w : World}
def SubS (s' s : Sto) : Prop := ∀ a d, s' a = some d → s a = some d
theorem SubS.refl (s : Sto) : SubS s s := fun _ _ h => h
theorem SubS.new {s : Sto} {y : Addr} {d : D} (h : s y = none) : SubS s (sput s y d) := fun a e h2 => by
  have : a ≠ y := fun z => by subst z; rw [h] at h2; cases h2
  rw [sput_ne this]; exact h2
theorem SubS.put {s s' : Sto} {y : Addr} {d : D} (h : SubS s s') (hy : s y = none) : SubS s (sput s' y d) := fun a e h2 => by
  have : a ≠ y := fun z => by subst z; rw [hy] at h2; cases h2
  rw [sput_ne this]; exact h a e h2
end
end Ps
namespace PyProof.Rows
open PySem
section
variable {prog : Program} {w : World} {A : Around} {E : Value → Shared → Prop} {s : Shared} {h₀ : Heap} {l I S : Addr} {kid : String} {vs : List Value} {R : Result → Shared → Prop} {Q : Value → Shared → Prop}
end
end PyProof.Rows
namespace Ps
open PySem PySem.Spec PyProof.Rows L2
section
variable {X : Cx} {e : Expr} {p p2 pos kpos : Pos} {t : TA}
end
section
variable {c : JC} {Γ : List OT} {env : Env} {m : Mst}
end
end Ps
namespace Ps
open PySem PySem.Spec PyProof.Rows L2
local macro_rules | `(tactic| walk_at "s1") => `(tactic| first
  | (with_reducible refine w_seq ?_) | (with_reducible refine w_asg ?_) | (with_reducible refine w_op ?_) | (with_reducible refine w_c ?_)
  | ((with_reducible refine' w_var ?hx ?_); (case hx => exact rfl))
  | (with_reducible refine w_gname ?_) | (with_reducible refine w_cons ?_) | (with_reducible refine w_nil ?_) | (with_reducible refine w_cb ?_) | (with_reducible refine w_call ?_)
  | (with_reducible refine w_ret ?_) | (with_reducible refine w_drop ?_) | (with_reducible refine w_ifs ?_) | (with_reducible refine w_test ?_) | (with_reducible refine w_next ?_)
  | (with_reducible refine w_addI ?_) | (with_reducible refine w_subI ?_) | (with_reducible refine w_negI ?_) | (with_reducible refine w_eqI ?_) | (with_reducible refine w_neI ?_) | (with_reducible refine w_ltI ?_) | (with_reducible refine w_leI ?_)
  | (with_reducible refine w_gtI ?_) | (with_reducible refine w_geI ?_) | (with_reducible refine w_isNn ?_) | (with_reducible refine w_isNi ?_) | (with_reducible refine w_isNs ?_) | (with_reducible refine w_isNr ?_) | (with_reducible refine w_ntNn ?_) | (with_reducible refine w_ntNi ?_) | (with_reducible refine w_ntNs ?_) | (with_reducible refine w_ntNr ?_) | (with_reducible refine w_isN ?_) | (with_reducible refine w_notN ?_) | (with_reducible refine w_ipaI ?_) | (with_reducible refine w_eqS ?_) | (with_reducible refine w_neS ?_)
  | (with_reducible refine w_blE ?_) | (with_reducible refine w_truB ?_) | (with_reducible refine w_intI ?_) | (with_reducible refine w_intB ?_)
  | (with_reducible refine w_bm ?_) | (with_reducible refine w_bm0 ?_) | (with_reducible refine w_lst ?_) | (with_reducible refine w_tup ?_) | (with_reducible refine w_un ?_) | (with_reducible refine w_sl ?_) | (with_reducible refine w_nopart ?_) | (with_reducible refine w_part ?_) | (with_reducible refine w_partI ?_)
  | (with_reducible refine w_gsub ?_) | (with_reducible refine w_gcons ?_) | (with_reducible refine w_gnil ?_) | (with_reducible refine w_and ?_) | (with_reducible refine w_or ?_) | (with_reducible refine w_not ?_) | (with_reducible refine w_tru ?_) | (with_reducible refine w_yes ?_)
  | (with_reducible refine w_andV ?_) | (with_reducible refine w_orV ?_) | (with_reducible refine w_notV ?_) | (with_reducible refine w_tif ?_) | (with_reducible refine w_callS ?_) | (with_reducible refine w_for ?_)
  | (with_reducible refine w_par ?_) | (with_reducible refine w_par2 ?_) | (with_reducible refine w_retN ?_) | (with_reducible refine w_brk ?_) | (with_reducible refine w_cont ?_)
  | ((with_reducible refine' w_aug ?hx ?_); (case hx => exact rfl)) | (with_reducible refine w_ipsI ?_)
  | (with_reducible refine w_is_int_dict ?_) | (with_reducible refine w_is_int_list ?_) | (with_reducible refine w_is_int_tuple ?_) | (with_reducible refine w_is_int_str ?_) | (with_reducible refine w_is_int_int ?_) | (with_reducible refine w_is_int_bool ?_) | (with_reducible refine w_is_bool_dict ?_) | (with_reducible refine w_is_bool_list ?_) | (with_reducible refine w_is_bool_tuple ?_) | (with_reducible refine w_is_bool_str ?_) | (with_reducible refine w_is_bool_int ?_) | (with_reducible refine w_is_bool_bool ?_) | (with_reducible refine w_is_str_dict ?_) | (with_reducible refine w_is_str_list ?_) | (with_reducible refine w_is_str_tuple ?_) | (with_reducible refine w_is_str_str ?_) | (with_reducible refine w_is_str_int ?_) | (with_reducible refine w_is_str_bool ?_)
  | (with_reducible refine w_ifT ?_) | (with_reducible refine w_ifF ?_) | (with_reducible refine w_ifNF ?_) | (with_reducible refine w_ifNT ?_)
  | (with_reducible refine w_tys ?_) | (with_reducible refine w_chain ?_) | (with_reducible refine w_ost ?_) | (with_reducible refine w_vei ?_) | (with_reducible refine w_rzO ?_) | (with_reducible refine w_fld ?_) | (with_reducible refine w_sfld ?_) | (with_reducible refine w_afld ?_) | (with_reducible refine w_meth ?_) | (with_reducible refine w_make ?_) | (with_reducible refine w_rz ?_) | (with_reducible refine w_rAdd ?_) | (with_reducible refine w_rSub ?_) | (with_reducible refine w_max2 ?_) | (with_reducible refine w_lc ?_) | (with_reducible refine w_zip ?_) | (with_reducible refine w_seqv ?_) | (with_reducible refine w_rng1 ?_) | (with_reducible refine w_rng2 ?_) | (with_reducible refine w_rng3 ?_) | (with_reducible refine w_enum ?_) | (with_reducible refine w_rev ?_))
local macro_rules | `(tactic| walk_at "go") => `(tactic| repeat (walk_at "s1"))
end Ps
namespace Ps
open PySem PySem.Spec PyProof.Rows L2
section
variable {X : Cx} {CX : CXT} {k : Nat} {f : Addr} {fd : FuncData} {ps : List Str} {sp : Sp} {dvs : List V} {ds : List Value} {E : XK} {fe : Expr} {p pos : Pos} {e : Expr} {es : List Expr} {t : TA} {te : TE} {L : List (Addr × TE)}
end
section
variable {c : JC} {Γ : List OT} {G G' H H' : Hp} {T S : List (Addr × HO)} {env : Env} {σ : L2.St} {m : Mst} {v : V} {d : D}
inductive Cls2 (c : JC) (Γ : List OT) : List (Addr × TE) → List (Addr × VE) → Prop where
  | nil : Cls2 c Γ [] []
  | cons {f : Addr} {tc : TE} {vc : VE} {L : List (Addr × TE)} {M : List (Addr × VE)} (h : SF c Γ tc vc) (r : Cls2 c Γ L M) : Cls2 c Γ ((f, tc) :: L) ((f, vc) :: M)
theorem Cls2.at {L : List (Addr × TE)} {M : List (Addr × VE)} (h : Cls2 c Γ L M) : ∀ q ∈ M, ∃ p ∈ L, p.1 = q.1 ∧ SF c Γ p.2 q.2 := by
  induction h with
  | nil => exact fun q hq => absurd hq (by simp)
  | cons h r ih =>
    intro q hq
    rcases List.mem_cons.mp hq with rfl | hq
    · exact ⟨_, List.mem_cons_self, rfl, h⟩
    · obtain ⟨p, hp, z⟩ := ih q hq
      exact ⟨p, List.mem_cons_of_mem _ hp, z⟩
end
section
variable {c : JC} {Γ : List OT}
end
section
variable {ve : VE} {env : Env} {m : Mst} {P : D → Mst → Prop} {K : PySem.W.Frag}
end
section
variable {ve : VE} {env : Env} {m : Mst} {P : D → Mst → Prop} {M : List (Addr × VE)}
end
end Ps
namespace Ps
open PySem PySem.Spec PyProof.Rows L2
open PySem
section
variable {prog : Program} {w : World} {A : Around} {s : Shared} {I S l : Addr} {vs : List Value} {kw : List (Str × Value)} {R : Result → Shared → Prop}
end
end Ps
namespace Ps
open PySem PySem.Spec PyProof.Rows L2
section
variable {prog : Program} {w : World} {A : Around} {E : Value → Shared → Prop} {s : Shared}
end
section
variable {prog : Program} {w : World} {A : Around} {vs : List Value}
end
section
variable {c : JC} {Γ : List OT}
end
section
variable {K : PySem.W.Frag} {G H H' : Hp}
end
end Ps
namespace Ps
open PySem PySem.Spec PyProof.Rows L2
open PySem
section
variable {prog : Program} {w : World} {A : Around} {s : Shared} {I S l : Addr} {vs : List Value} {kw : List (Str × Value)} {R : Result → Shared → Prop}
end
end Ps
namespace Ps
open PySem PySem.Spec PyProof.Rows L2
section
variable {c : JC} {Γ : List OT} {env : Env} {m : Mst}
end
end Ps
namespace Ps
open PySem PySem.Spec PyProof.Rows L2
def sev (r : Nat) : List Int := if r < 128 then [(r : Int)] else ((r % 128 + 128 : Nat) : Int) :: sev (r / 128)
termination_by r
decreasing_by omega
def zz (n : Int) : Nat := if n < 0 then (-2 * n - 1).toNat else (2 * n).toNat
def nb (n : Int) : List Int := sev (zz n)
inductive Rd (α : Type) where
  | got (x : α) (j : Nat)
  | bad (w : Str)
end Ps
namespace Ps
open PySem PySem.Spec PyProof.Rows L2
def signs : Str := (" !\"#$&'()*+,-./0123456789:;<=>?@ABCDEFGHIJKLMNOPQRSTUVWXYZ[\\]^_`abcdefghijklmnopqrstuvwxyz{|}~" : Str)
def sg (k : Nat) : Nat := signs.cps.toList.getD k 0
def txt (ks : List Nat) : Str := ⟨(ks.map sg).toArray⟩
theorem signs_list : signs.cps.toList.length = 94 := by decide +kernel
theorem txt_len (ks : List Nat) : (txt ks).length = ks.length := by
  show (ks.map sg).toArray.size = _
  rw [List.size_toArray, List.length_map]
theorem txt_cps (ks : List Nat) : (txt ks).cps.toList = ks.map sg := by simp [txt]
def IsT (n : Nat) (z : Str) : Prop := ∃ ks : List Nat, z = txt ks ∧ ks.length ≤ n ∧ ∀ k ∈ ks, k < 94
def okT (n : Nat) (z : Str) : Bool := z.cps.toList.all (fun c => signs.cps.toList.contains c) && decide (z.length ≤ n)
theorem sg_of {c : Nat} (h : signs.cps.toList.contains c = true) : ∃ k, k < 94 ∧ sg k = c := by
  have hm : c ∈ signs.cps.toList := by simpa using h
  obtain ⟨k, hk, e⟩ := List.getElem_of_mem hm
  refine ⟨k, by rw [signs_list] at hk; exact hk, ?_⟩
  unfold sg
  rw [List.getD_eq_getElem?_getD, List.getElem?_eq_getElem hk, e]
  rfl
theorem isT_list : ∀ cs : List Nat, (∀ c ∈ cs, signs.cps.toList.contains c = true) → ∃ ks : List Nat, cs = ks.map sg ∧ ∀ k ∈ ks, k < 94
  | [], _ => ⟨[], rfl, by simp⟩
  | c :: r, h => by
    obtain ⟨k, hk, e⟩ := sg_of (h c List.mem_cons_self)
    obtain ⟨ks, e2, h2⟩ := isT_list r fun x hx => h x (List.mem_cons_of_mem _ hx)
    exact ⟨k :: ks, by rw [List.map_cons, e, ← e2], fun x hx => (List.mem_cons.mp hx).elim (fun z => z ▸ hk) (h2 x)⟩
theorem okT_is {n : Nat} {z : Str} (h : okT n z = true) : IsT n z := by
  unfold okT at h
  obtain ⟨h1, h2⟩ := Bool.and_eq_true_iff.mp h
  obtain ⟨ks, e, hk⟩ := isT_list z.cps.toList (List.all_eq_true.mp h1)
  have hz : z = txt ks := by
    obtain ⟨arr⟩ := z
    unfold txt
    rw [← e]
  refine ⟨ks, hz, ?_, hk⟩
  have := of_decide_eq_true h2
  rw [hz, txt_len] at this
  exact this
end Ps
namespace Ps
open PySem PySem.Spec PyProof.Rows L2
def num (b : Nat) : List Nat → Nat
  | [] => 0
  | x :: r => x + b * num b r
def bl (n : Nat) : Nat := if n = 0 then 0 else Nat.log2 n + 1
def ins (xs : List Nat) : List Int := xs.map fun x : Nat => (x : Int)
end Ps
namespace Ps
open PySem PySem.Spec PyProof.Rows L2
def tb (ks : List Nat) : List Int := nb ks.length ++ ins ks
end Ps
namespace Ps
open PySem PySem.Spec PyProof.Rows L2
local macro_rules | `(tactic| walk_at "v1") => `(tactic| with_reducible first
  | refine e_isN ?_
  | refine e_notN ?_)
local macro_rules | `(tactic| walk_at "v1") => `(tactic| first
  | ((with_reducible refine' e_modI ?hx ?_); (case hx => decide))
  | ((with_reducible refine' e_divI ?hx ?_); (case hx => exact .inl ⟨by decide, by decide⟩))
  | ((with_reducible refine' e_mulI ?hx ?_); (case hx => first | exact .inl (.inr ⟨by decide, by decide⟩) | exact .inl (.inl ⟨by decide, by decide⟩)))
  | fail)
local macro_rules | `(tactic| walk_at "v1") => `(tactic| first
  | ((with_reducible refine' e_gtupU ?hx ?_); (case hx => exact rfl))
  | ((with_reducible refine' e_gtupL ?hx ?_); (case hx => exact rfl))
  | ((with_reducible refine' e_isi (b := true) ?hx ?hy ?_); (case hx => exact rfl); (case hy => first | exact rfl | decide))
  | ((with_reducible refine' e_isi (b := false) ?hx ?hy ?_); (case hx => exact rfl); (case hy => first | exact rfl | decide))
  | fail)
local macro_rules | `(tactic| walk_at "v1") => `(tactic| first
  | ((with_reducible refine' e_app ?hx ?_); (case hx => exact rfl))
  | ((with_reducible refine' e_len ?hx ?_); (case hx => exact rfl))
  | ((with_reducible refine' e_gtup ?hx ?_); (case hx => exact rfl))
  | fail)
local macro_rules | `(tactic| walk_at "v1") => `(tactic| with_reducible first
  | refine w_ifF ?_
  | refine w_ifNF ?_
  | refine w_ifNT ?_)
local macro_rules | `(tactic| walk_at "v1") => `(tactic| with_reducible first
  | refine e_for ?_
  | refine e_lc ?_
  | refine w_ifT ?_)
local macro_rules | `(tactic| walk_at "v1") => `(tactic| with_reducible first
  | refine e_rng1 ?_)
local macro_rules | `(tactic| walk_at "v1") => `(tactic| with_reducible first
  | refine e_ntNi ?_
  | refine e_ntNs ?_
  | refine e_ntNl ?_
  | refine e_ntNt ?_)
local macro_rules | `(tactic| walk_at "v1") => `(tactic| with_reducible first
  | refine e_isNl ?_
  | refine e_isNt ?_
  | refine e_isNb ?_
  | refine e_ntNn ?_)
local macro_rules | `(tactic| walk_at "v1") => `(tactic| with_reducible first
  | refine e_truT ?_
  | refine e_isNn ?_
  | refine e_isNi ?_
  | refine e_isNs ?_)
local macro_rules | `(tactic| walk_at "v1") => `(tactic| with_reducible first
  | refine e_truB ?_
  | refine e_truN ?_
  | refine e_truI ?_
  | refine e_truL ?_)
local macro_rules | `(tactic| walk_at "v1") => `(tactic| with_reducible first
  | refine e_itES ?_
  | refine e_itVL ?_
  | refine e_itVT ?_
  | refine e_tru ?_)
local macro_rules | `(tactic| walk_at "v1") => `(tactic| with_reducible first
  | refine e_itZL ?_
  | refine e_itZT ?_
  | refine e_itEL ?_
  | refine e_itET ?_)
local macro_rules | `(tactic| walk_at "v1") => `(tactic| with_reducible first
  | refine e_itT ?_
  | refine e_itS ?_
  | refine e_rg1 ?_
  | refine e_rg2 ?_)
local macro_rules | `(tactic| walk_at "v1") => `(tactic| with_reducible first
  | refine e_gcons ?_
  | refine e_gnil ?_
  | refine e_seqv ?_
  | refine e_itL ?_)
local macro_rules | `(tactic| walk_at "v1") => `(tactic| with_reducible first
  | refine e_cutL ?_
  | refine e_cutT ?_)
local macro_rules | `(tactic| walk_at "v1") => `(tactic| with_reducible first
  | refine e_tupT ?_
  | refine e_intI ?_
  | refine e_intB ?_)
local macro_rules | `(tactic| walk_at "v1") => `(tactic| with_reducible first
  | refine e_lenD ?_
  | refine e_tupL ?_)
local macro_rules | `(tactic| walk_at "v1") => `(tactic| with_reducible first
  | refine e_geI ?_
  | refine e_lenL ?_
  | refine e_lenT ?_)
local macro_rules | `(tactic| walk_at "v1") => `(tactic| with_reducible first
  | refine e_neB ?_
  | refine e_ltI ?_
  | refine e_leI ?_
  | refine e_gtI ?_)
local macro_rules | `(tactic| walk_at "v1") => `(tactic| with_reducible first
  | refine e_eqS ?_
  | refine e_eqB ?_
  | refine e_neI ?_
  | refine e_neS ?_)
local macro_rules | `(tactic| walk_at "v1") => `(tactic| with_reducible first
  | refine e_addI ?_
  | refine e_subI ?_
  | refine e_negI ?_
  | refine e_eqI ?_)
local macro_rules | `(tactic| walk_at "v1") => `(tactic| with_reducible first
  | refine e_nopart ?_
  | refine e_part ?_
  | refine e_intE ?_)
local macro_rules | `(tactic| walk_at "v1") => `(tactic| with_reducible first
  | refine e_sc ?_
  | refine e_scI ?_
  | refine e_sl ?_)
local macro_rules | `(tactic| walk_at "v1") => `(tactic| with_reducible first
  | refine e_boxL ?_
  | refine e_boxDi ?_)
local macro_rules | `(tactic| walk_at "v1") => `(tactic| with_reducible first
  | refine e_frB ?_
  | refine e_frI ?_)
local macro_rules | `(tactic| walk_at "v1") => `(tactic| with_reducible first
  | refine e_not ?_
  | refine e_yes ?_
  | refine e_call ?_)
local macro_rules | `(tactic| walk_at "v1") => `(tactic| with_reducible first
  | refine e_test ?_
  | refine e_and ?_
  | refine e_or ?_)
local macro_rules | `(tactic| walk_at "v1") => `(tactic| with_reducible first
  | refine e_blE ?_)
local macro_rules | `(tactic| walk_at "v1") => `(tactic| with_reducible first
  | refine e_tyS ?_
  | refine e_tyL ?_
  | refine e_lst ?_
  | refine e_tup ?_)
local macro_rules | `(tactic| walk_at "v1") => `(tactic| with_reducible first
  | refine e_un ?_
  | refine e_cb ?_
  | refine e_bm ?_)
local macro_rules | `(tactic| walk_at "v1") => `(tactic| with_reducible first
  | refine e_c ?_
  | refine e_nil ?_
  | refine e_cons ?_
  | refine e_op ?_)
local macro_rules | `(tactic| walk_at "v1") => `(tactic| with_reducible first
  | refine e_next ?_
  | refine e_gname ?_)
local macro_rules | `(tactic| walk_at "v1") => `(tactic| with_reducible first
  | refine e_ret ?_
  | refine e_if ?_)
local macro_rules | `(tactic| walk_at "v1") => `(tactic| with_reducible first
  | refine e_seqForB ?_
  | refine e_seqAugS ?_
  | refine e_seqSeq ?_
  | refine e_asg ?_)
local macro_rules | `(tactic| walk_at "v1") => `(tactic| with_reducible first
  | refine e_seqAugF ?_
  | refine e_seqAppS ?_
  | refine e_seqMutS ?_
  | refine e_seqPutS ?_)
local macro_rules | `(tactic| walk_at "v1") => `(tactic| with_reducible first
  | refine e_seqFor ?_
  | refine e_seqWhile ?_
  | refine e_seqNext ?_
  | refine e_seqSetF ?_)
local macro_rules | `(tactic| walk_at "v1") => `(tactic| with_reducible first
  | refine e_seqApp ?_
  | refine e_seqMut ?_
  | refine e_seqPut ?_
  | refine e_seqPar ?_)
local macro_rules | `(tactic| walk_at "v1") => `(tactic| first
  | ((with_reducible refine' e_var ?hx ?_); (case hx => exact rfl))
  | (with_reducible refine e_seqAsg ?_)
  | (with_reducible refine e_seqDrop ?_)
  | (with_reducible refine e_seqAug ?_)
  | fail)
local macro_rules | `(tactic| walk_at "vv") => `(tactic| repeat (walk_at "v1"))
local macro_rules | `(tactic| walk_at "vi") => `(tactic| ((with_reducible refine e_seq ?_); repeat (walk_at "v1")))
local macro_rules | `(tactic| walk_at "ve") => `(tactic| ((with_reducible refine e_ifE ?_); repeat (walk_at "v1")))
abbrev dL (ns : List Int) : D := .lst (ns.map D.int)
abbrev bad (X : XV) (C : Addr) (w : Str) (m : Mst) : Prop := X C [("why", .str w)] m
def t_number (K : PySem.W.Frag) (s_take_ : Sp) : TS :=
      (tSeq (tAsg (tCall s_take_ [] E0 (tCons (tVar 0) (tCons (tC (.int 6)) tNil))) (gName 1))
      (tSeq (tAsg (tCall s_take_ [] E0 (tCons (tVar 0) (tCons (tC (.int 12)) tNil))) (gName 2))
      (tSeq (tIfS (tTest (tOp (rEqU K) (tVar 1) (tC (.int 1))))
      (tAsg (tOp (rIxU K) (tLst (tCons (tC (.int 0)) (tCons (tC (.int 1)) (tCons (tC (.int 63)) (tCons (tC (.int 64)) (tCons (tC (.int 127)) (tCons (tC (.int 128)) (tCons (tC (.int 8191)) (tCons (tC (.int 8192)) (tCons (tOp (rSubU) (tOp (rPowU) (tC (.int 10)) (tC (.int 18))) (tC (.int 1))) (tCons (tOp (rPowU) (tC (.int 10)) (tC (.int 17))) (tCons (tC (.int 255)) (tCons (tC (.int 256)) tNil))))))))))))) (tVar 2)) (gName 2))
      tNext)
      (tSeq (tIfS (tTest (tOp (rEqU K) (tVar 1) (tC (.int 2))))
      (tAsg (tOp (rAddU K) (tOp (rMulT) (tCall s_take_ [] E0 (tCons (tVar 0) (tCons (tOp (rPowU) (tC (.int 10)) (tC (.int 9))) tNil))) (tOp (rPowU) (tC (.int 10)) (tC (.int 9)))) (tCall s_take_ [] E0 (tCons (tVar 0) (tCons (tOp (rPowU) (tC (.int 10)) (tC (.int 9))) tNil)))) (gName 2))
      tNext)
      (tSeq (tIfS (tTest (tOp (rEqU K) (tVar 1) (tC (.int 3))))
      (tAsg (tCall s_take_ [] E0 (tCons (tVar 0) (tCons (tC (.int 2000)) tNil))) (gName 2))
      tNext)
      (tRet (tOp (rMulT) (tVar 2) (tOp (rIxU K) (tLst (tCons (tC (.int 1)) (tCons (tUn rNeg (tC (.int 1))) tNil))) (tCall s_take_ [] E0 (tCons (tVar 0) (tCons (tC (.int 2)) tNil)))))))))))
abbrev N_number : List Str := [("_law_state" : Str), ("_law_way" : Str), ("_law_number_here" : Str)]
def v_number (K : PySem.W.Frag) (vs_take : VSp) : VS :=
      (vSeqS (vAsg (vCall vs_take (vCons (vVar 0) (vCons (vC (.int 6)) vNil))) (vgName 1))
      (vSeqS (vAsg (vCall vs_take (vCons (vVar 0) (vCons (vC (.int 12)) vNil))) (vgName 2))
      (vSeqS (vIf (vTest (vOp vEqC (vVar 1) (vC (.int 1))))
      (vAsg (vOp vIx (vLst (vCons (vC (.int 0)) (vCons (vC (.int 1)) (vCons (vC (.int 63)) (vCons (vC (.int 64)) (vCons (vC (.int 127)) (vCons (vC (.int 128)) (vCons (vC (.int 8191)) (vCons (vC (.int 8192)) (vCons (vOp vSub (vOp vPow (vC (.int 10)) (vC (.int 18))) (vC (.int 1))) (vCons (vOp vPow (vC (.int 10)) (vC (.int 17))) (vCons (vC (.int 255)) (vCons (vC (.int 256)) vNil))))))))))))) (vVar 2)) (vgName 2))
      vNext)
      (vSeqS (vIf (vTest (vOp vEqC (vVar 1) (vC (.int 2))))
      (vAsg (vOp vAdd (vOp vMul (vCall vs_take (vCons (vVar 0) (vCons (vOp vPow (vC (.int 10)) (vC (.int 9))) vNil))) (vOp vPow (vC (.int 10)) (vC (.int 9)))) (vCall vs_take (vCons (vVar 0) (vCons (vOp vPow (vC (.int 10)) (vC (.int 9))) vNil)))) (vgName 2))
      vNext)
      (vSeqS (vIf (vTest (vOp vEqC (vVar 1) (vC (.int 3))))
      (vAsg (vCall vs_take (vCons (vVar 0) (vCons (vC (.int 2000)) vNil))) (vgName 2))
      vNext)
      (vRet (vOp vMul (vVar 2) (vOp vIx (vLst (vCons (vC (.int 1)) (vCons (vUn vNeg (vC (.int 1))) vNil))) (vCall vs_take (vCons (vVar 0) (vCons (vC (.int 2)) vNil)))))))))))
theorem sim_number {K : PySem.W.Frag} {vs_take : VSp} {vsp : VSp} (hv : ∀ ds m P VX, vsp ds m P VX → ds.length = 1 ∧ v_number K vs_take (vends P) (vstart N_number.length ds) m) :
    ∀ us H Q E, spV K .O vsp us H Q E → t_number K (spV K .O vs_take) { nx := fun _ H' => Q .non H', rt := Q } (L2.start N_number us) H :=
  sim_def (n := 1) (t := .O) (N := N_number) (Γn := [.F, .F, .F]) (Γb := []) (Γc := []) (ts := fun E => t_number K (spV K .O vs_take)) (vs := fun VX => v_number K vs_take) (by decide) (fun c W VX hK hx => by
    subst hK
    exact (x_seq (x_asgO (i := 1) (s_callO (g_cons (s_varF (by rfl)) (g_cons (SO.f s_int) g_nil))))
      (x_seq (x_asgO (i := 2) (s_callO (g_cons (s_varF (by rfl)) (g_cons (SO.f s_int) g_nil))))
      (x_seq (x_if (Γn := [.F, .O, .F]) (s_test (SO.b (s_op o_eq (s_varB (t := .O) (by rfl)) (SO.b s_int))))
      (x_asgF (i := 2) (s_opF o_ix (SO.b (s_lst (g_cons (SO.f s_int) (g_cons (SO.f s_int) (g_cons (SO.f s_int) (g_cons (SO.f s_int) (g_cons (SO.f s_int) (g_cons (SO.f s_int) (g_cons (SO.f s_int) (g_cons (SO.f s_int) (g_cons (SO.f (s_op o_sub (SO.b (s_op o_pow (SO.b s_int) (SO.b s_int))) (SO.b s_int))) (g_cons (SO.f (s_op o_pow (SO.b s_int) (SO.b s_int))) (g_cons (SO.f s_int) (g_cons (SO.f s_int) g_nil)))))))))))))) (s_varB (t := .O) (by rfl))))
      (x_post (Γ1 := [.F, .O, .O]) (Γn := [.F, .O, .F]) x_next))
      (x_seq (x_if (Γn := [.F, .O, .F]) (s_test (SO.b (s_op o_eq (s_varB (t := .O) (by rfl)) (SO.b s_int))))
      (x_post (Γ1 := [.F, .O, .O]) (Γn := [.F, .O, .F]) (x_asgO (i := 2) (s_op o_add (SO.b (s_op o_mul (SO.b (s_callO (g_cons (s_varF (by rfl)) (g_cons (SO.f (s_op o_pow (SO.b s_int) (SO.b s_int))) g_nil)))) (SO.b (s_op o_pow (SO.b s_int) (SO.b s_int))))) (SO.b (s_callO (g_cons (s_varF (by rfl)) (g_cons (SO.f (s_op o_pow (SO.b s_int) (SO.b s_int))) g_nil)))))))
      x_next)
      (x_seq (x_if (Γn := [.F, .O, .F]) (s_test (SO.b (s_op o_eq (s_varB (t := .O) (by rfl)) (SO.b s_int))))
      (x_post (Γ1 := [.F, .O, .O]) (Γn := [.F, .O, .F]) (x_asgO (i := 2) (s_callO (g_cons (s_varF (by rfl)) (g_cons (SO.f s_int) g_nil)))))
      x_next)
      (x_retO (s_op o_mul (SF.b (s_varF (by rfl))) (SF.b (s_opF o_ix (SO.b (s_lst (g_cons (SO.f s_int) (g_cons (SO.f (s_un o_neg (SO.b s_int))) g_nil)))) (SO.b (s_callO (g_cons (s_varF (by rfl)) (g_cons (SO.f s_int) g_nil)))))))))))))) hv
def t_text (K : PySem.W.Frag) (s_take_ : Sp) : TS :=
      (tSeq (tAsg (tLst (tCons (tC (.str ("a" : Str))) (tCons (tC (.str ("" : Str))) (tCons (tC (.str ("aa" : Str))) (tCons (tC (.str ("b" : Str))) (tCons (tC (.str ("ab" : Str))) (tCons (tC (.str ("~" : Str))) (tCons (tC (.str (" " : Str))) (tCons (tC (.str ("zz top" : Str))) (tCons (tC (.str ("Aa" : Str))) (tCons (tC (.str ("0" : Str))) (tCons (tOp (rMulT) (tC (.str ("a" : Str))) (tC (.int 20))) (tCons (tSl (rSlU K) (tC (.str ("the twenty signs of it" : Str))) tNoPart (tPart (tC (.int 20)))) tNil))))))))))))) (gName 1))
      (tSeq (tIfS (tTest (tOp (rGtV) (tCall s_take_ [] E0 (tCons (tVar 0) (tCons (tC (.int 4)) tNil))) (tC (.int 0))))
      (tRet (tOp (rIxU K) (tVar 1) (tCall s_take_ [] E0 (tCons (tVar 0) (tCons (tC (.int 12)) tNil)))))
      tNext)
      (tSeq (tAsg (tC (.str (" !\"#$&'()*+,-./0123456789:;<=>?@ABCXYZ[]^_`abcxyz{|}~" : Str))) (gName 2))
      (tRet (tBM K "str" (rJoinS K) (tC (.str ("" : Str))) (tCons (tLc (iRng1 (tCons (tCall s_take_ [] E0 (tCons (tVar 0) (tCons (tC (.int 21)) tNil))) tNil)) (gName 3) tYes (tOp (rIxU K) (tVar 2) (tCall s_take_ [] E0 (tCons (tVar 0) (tCons (tCB (rLenU K) (tCons (tVar 2) tNil)) tNil)))) [3]) tNil))))))
abbrev N_text : List Str := [("_law_state" : Str), ("_law_words" : Str), ("_law_signs_here" : Str), ("_law_turn" : Str)]
def v_text (K : PySem.W.Frag) (vs_take : VSp) : VS :=
      (vSeqS (vAsg (vLst (vCons (vC (.str ("a" : Str))) (vCons (vC (.str ("" : Str))) (vCons (vC (.str ("aa" : Str))) (vCons (vC (.str ("b" : Str))) (vCons (vC (.str ("ab" : Str))) (vCons (vC (.str ("~" : Str))) (vCons (vC (.str (" " : Str))) (vCons (vC (.str ("zz top" : Str))) (vCons (vC (.str ("Aa" : Str))) (vCons (vC (.str ("0" : Str))) (vCons (vOp vMul (vC (.str ("a" : Str))) (vC (.int 20))) (vCons (vSl vCut (vC (.str ("the twenty signs of it" : Str))) vNoPart (vPart (vC (.int 20)))) vNil))))))))))))) (vgName 1))
      (vSeqS (vIf (vTest (vOp vGt (vCall vs_take (vCons (vVar 0) (vCons (vC (.int 4)) vNil))) (vC (.int 0))))
      (vRet (vOp vIx (vVar 1) (vCall vs_take (vCons (vVar 0) (vCons (vC (.int 12)) vNil)))))
      vNext)
      (vSeqS (vAsg (vC (.str (" !\"#$&'()*+,-./0123456789:;<=>?@ABCXYZ[]^_`abcxyz{|}~" : Str))) (vgName 2))
      (vRet (vBMt "str" vJoin (vC (.str ("" : Str))) (vCons (vLc (vRng1 (vCons (vCall vs_take (vCons (vVar 0) (vCons (vC (.int 21)) vNil))) vNil)) (vgName 3) vYes (vOp vIx (vVar 2) (vCall vs_take (vCons (vVar 0) (vCons (vCB vLen (vCons (vVar 2) vNil)) vNil)))) [3]) vNil))))))
theorem sim_text {K : PySem.W.Frag} {vs_take : VSp} {vsp : VSp} (hv : ∀ ds m P VX, vsp ds m P VX → ds.length = 1 ∧ v_text K vs_take (vends P) (vstart N_text.length ds) m) :
    ∀ us H Q E, spV K .F vsp us H Q E → t_text K (spV K .O vs_take) { nx := fun _ H' => Q .non H', rt := Q } (L2.start N_text us) H :=
  sim_def (n := 1) (t := .F) (N := N_text) (Γn := [.F, .F, .F, .F]) (Γb := []) (Γc := []) (ts := fun E => t_text K (spV K .O vs_take)) (vs := fun VX => v_text K vs_take) (by decide) (fun c W VX hK hx => by
    subst hK
    exact (x_seq (x_asgO (i := 1) (s_lst (g_cons (SO.f s_str) (g_cons (SO.f s_str) (g_cons (SO.f s_str) (g_cons (SO.f s_str) (g_cons (SO.f s_str) (g_cons (SO.f s_str) (g_cons (SO.f s_str) (g_cons (SO.f s_str) (g_cons (SO.f s_str) (g_cons (SO.f s_str) (g_cons (SO.f (s_op o_mul (SO.b s_str) (SO.b s_int))) (g_cons (SO.f (s_sl o_cut (SO.b s_str) s_nopart (s_part (SO.b s_int)))) g_nil))))))))))))))
      (x_seq (x_if (Γn := [.F, .O, .F, .F]) (s_test (SO.b (s_op o_gt (SO.b (s_callO (g_cons (s_varF (by rfl)) (g_cons (SO.f s_int) g_nil)))) (SO.b s_int))))
      (x_retF (s_opF o_ix (s_varB (t := .O) (by rfl)) (SO.b (s_callO (g_cons (s_varF (by rfl)) (g_cons (SO.f s_int) g_nil))))))
      x_next)
      (x_seq (x_asgO (i := 2) s_str)
      (x_retF (SO.f (s_bm m_join (SO.b s_str) (a_cons (SO.b (s_lc (vs := [3]) (i_rng1 (g_cons (SO.f (s_callO (g_cons (s_varF (by rfl)) (g_cons (SO.f s_int) g_nil)))) g_nil)) (by rfl) (tg_name (is := [3]) (by rfl) (by decide)) s_yes (s_opF o_ix (s_varB (t := .O) (by rfl)) (SO.b (s_callO (g_cons (s_varF (by rfl)) (g_cons (SO.f (s_cb l_len (a_cons (s_varB (t := .O) (by rfl)) a_nil))) g_nil))))))) a_nil)))))))) hv
theorem at_litD (l : List Int) {v : Int} (h0 : 0 ≤ v) (h1 : v < l.length) : ∃ z, z ∈ l ∧ L2.atI (l.map D.int) v = some (.int z) := by
  obtain ⟨j, rfl⟩ : ∃ j : Nat, v = (j : Int) := ⟨v.toNat, by omega⟩
  have hj : j < l.length := by omega
  exact ⟨l[j], List.getElem_mem hj, atI_nat (by rw [List.getElem?_map, List.getElem?_eq_getElem hj]; rfl)⟩
theorem at_litS (l : List Str) {v : Int} (h0 : 0 ≤ v) (h1 : v < l.length) : ∃ z, z ∈ l ∧ L2.atI (l.map D.str) v = some (.str z) := by
  obtain ⟨j, rfl⟩ : ∃ j : Nat, v = (j : Int) := ⟨v.toNat, by omega⟩
  have hj : j < l.length := by omega
  exact ⟨l[j], List.getElem_mem hj, atI_nat (by rw [List.getElem?_map, List.getElem?_eq_getElem hj]; rfl)⟩
def wNumber : VSp := fun ds m P _ => ∃ (x : Addr) (r : Nat) (s0 : Sto), ds = [.adr x] ∧ m = (some (x, r), s0) ∧ 8 ≤ r ∧ ∀ (n : Int) (r' : Nat), n.natAbs < 10 ^ 18 → r ≤ r' + 8 → P (.int n) ((some (x, r'), s0))
theorem p_number {K : PySem.W.Frag} (ds : List D) (m : Mst) (P : D → Mst → Prop) (VX : XV) (h : wNumber ds m P VX) : ds.length = 1 ∧ v_number K vTake (vends P) (vstart N_number.length ds) m := by
  obtain ⟨x, r, s0, rfl, rfl, hr, k⟩ := h
  refine ⟨rfl, ?_⟩
  unfold v_number
  walk_at "vv"
  refine e_take (by omega) (by decide) (by decide) fun way r1 h1 h2 hr1 => ?_
  walk_at "vv"
  refine e_take (by omega) (by decide) (by decide) fun z1 r2 h3 h4 hr2 => ?_
  walk_at "vv"
  with_reducible refine e_seqO fun N1 hN1 => ?_
  have f1 : ∀ (n : Int) (r' : Nat), n.natAbs < 10 ^ 18 → r ≤ r' + 2 → N1 [some (.adr x), some (.int way), some (.int n)] ((some (x, r'), s0)) := by
    intro n r3 hn hr3
    refine hN1 _ _ ?_
    with_reducible refine e_seqO fun N2 hN2 => ?_
    have f2 : ∀ (n : Int) (r' : Nat), n.natAbs < 10 ^ 18 → r ≤ r' + 4 → N2 [some (.adr x), some (.int way), some (.int n)] ((some (x, r'), s0)) := by
      intro n r4 hn hr4
      refine hN2 _ _ ?_
      with_reducible refine e_seqO fun N3 hN3 => ?_
      have f3 : ∀ (n : Int) (r' : Nat), n.natAbs < 10 ^ 18 → r ≤ r' + 5 → N3 [some (.adr x), some (.int way), some (.int n)] ((some (x, r'), s0)) := by
        intro n r5 hn hr5
        refine hN3 _ _ ?_
        walk_at "vv"
        refine e_take (by omega) (by decide) (by decide) fun z r6 h5 h6 hr6 => ?_
        obtain ⟨s, hm, em⟩ := at_litD [1, -1] h5 h6
        refine e_ixL em ?_
        simp at hm
        refine e_mulI (.inl (.inr ⟨by omega, by omega⟩)) ?_
        refine k _ _ ?_ (by omega)
        rcases hm with rfl | rfl <;> omega
      walk_at "vv"
      refine w_ifd (fun c => ?_) (fun c => ?_)
      · walk_at "vv"
        refine e_take (by omega) (by decide) (by decide) fun z3 r5 h5 h6 hr5 => ?_
        walk_at "vv"
        exact f3 _ _ (by omega) (by omega)
      · exact f3 _ _ hn (by omega)
    walk_at "vv"
    refine w_ifd (fun c => ?_) (fun c => ?_)
    · walk_at "vv"
      refine e_powI ⟨by decide, by decide, by decide⟩ ?_
      rw [show (10 : Int) ^ (9 : Int).toNat = 1000000000 from rfl]
      walk_at "vv"
      refine e_take (by omega) (by decide) (by decide) fun z3 r5 h5 h6 hr5 => ?_
      walk_at "vv"
      refine e_powI ⟨by decide, by decide, by decide⟩ ?_
      rw [show (10 : Int) ^ (9 : Int).toNat = 1000000000 from rfl]
      walk_at "vv"
      refine e_powI ⟨by decide, by decide, by decide⟩ ?_
      rw [show (10 : Int) ^ (9 : Int).toNat = 1000000000 from rfl]
      walk_at "vv"
      refine e_take (by omega) (by decide) (by decide) fun z4 r6 h7 h8 hr6 => ?_
      walk_at "vv"
      exact f2 _ _ (by omega) (by omega)
    · exact f2 _ _ hn (by omega)
  walk_at "vv"
  refine w_ifd (fun c => ?_) (fun c => ?_)
  · walk_at "vv"
    refine e_powI ⟨by decide, by decide, by decide⟩ ?_
    walk_at "vv"
    refine e_powI ⟨by decide, by decide, by decide⟩ ?_
    rw [show (10 : Int) ^ (17 : Int).toNat = 100000000000000000 from rfl, show (10 : Int) ^ (18 : Int).toNat = 1000000000000000000 from rfl]
    walk_at "vv"
    obtain ⟨s, hm, em⟩ := at_litD [0, 1, 63, 64, 127, 128, 8191, 8192, 1000000000000000000 - 1, 100000000000000000, 255, 256] h3 h4
    refine e_ixL em ?_
    have hs : s.natAbs < 10 ^ 18 := by
      simp at hm
      omega
    walk_at "vv"
    exact f1 _ _ hs (by omega)
  · exact f1 _ _ (by omega) (by omega)
theorem isT_all {l : List Str} {n : Nat} (h : l.all (okT n) = true) {z : Str} (hz : z ∈ l) : IsT n z := okT_is (List.all_eq_true.mp h z hz)
def wText : VSp := fun ds m P _ => ∃ (x : Addr) (r : Nat) (s0 : Sto), ds = [.adr x] ∧ m = (some (x, r), s0) ∧ 30 ≤ r ∧ ∀ (z : Str) (r' : Nat), IsT 20 z → r ≤ r' + 30 → P (.str z) ((some (x, r'), s0))
theorem atI_lt {α : Type} {l : List α} {v : Int} (h0 : 0 ≤ v) (h1 : v < l.length) : ∃ x, x ∈ l ∧ L2.atI l v = some x := by
  obtain ⟨j, rfl⟩ : ∃ j : Nat, v = (j : Int) := ⟨v.toNat, by omega⟩
  have hj : j < l.length := by omega
  exact ⟨l[j], List.getElem_mem hj, atI_nat (List.getElem?_eq_getElem hj)⟩
theorem join_signs {cs : List Nat} (n : Nat) (h : ∀ c ∈ cs, signs.cps.toList.contains c = true) (hl : cs.length ≤ n) : IsT n (Txt.join Str.empty (cs.map fun c => (⟨#[c]⟩ : Str))) := by
  rw [join_one]
  refine okT_is ?_
  unfold okT
  rw [Bool.and_eq_true]
  refine ⟨List.all_eq_true.mpr (by simpa using h), decide_eq_true ?_⟩
  show cs.toArray.size ≤ n
  simpa using hl
theorem sg_in {z : Str} {l : Nat} (hz : okT l z = true) {c : Nat} (hc : c ∈ z.cps.toList) : signs.cps.toList.contains c = true := by
  unfold okT at hz
  rw [Bool.and_eq_true] at hz
  exact List.all_eq_true.mp hz.1 c hc
theorem sum_ones (cs : List Nat) : ((cs.map fun c => (⟨#[c]⟩ : Str)).map (·.length)).sum = cs.length := by
  induction cs with
  | nil => rfl
  | cons c r ih => rw [List.map_cons, List.map_cons, List.sum_cons, ih, List.length_cons]; show 1 + _ = _; omega
theorem e_joinC {cs : List Nat} {Z : D → Prop} (hl : cs.length ≤ 1000) (h : Z (.str (Txt.join Str.empty (cs.map fun c => (⟨#[c]⟩ : Str))))) : vJoin (.str (Str.ofString "")) [.lst (cs.map fun c => D.str ⟨#[c]⟩)] Z := by
  refine ⟨cs.map fun c => (⟨#[c]⟩ : Str), ?_, ?_, h⟩
  · rw [List.map_map]; rfl
  · rw [sum_ones, List.length_map]
    show cs.length + cs.length * 0 ≤ _
    omega
theorem p_text {K : PySem.W.Frag} (ds : List D) (m : Mst) (P : D → Mst → Prop) (VX : XV) (h : wText ds m P VX) : ds.length = 1 ∧ v_text K vTake (vends P) (vstart N_text.length ds) m := by
  obtain ⟨x, r, s0, rfl, rfl, hr, k⟩ := h
  refine ⟨rfl, ?_⟩
  unfold v_text
  walk_at "vv"
  refine ⟨⟨by decide, by decide +kernel, by decide +kernel⟩, ?_⟩
  walk_at "vv"
  refine e_cutS (by decide) ?_
  walk_at "vv"
  walk_at "vi"
  refine e_take (by omega) (by decide) (by decide) fun z1 r1 h1 h2 hr1 => ?_
  walk_at "vv"
  refine w_ifd (fun c => ?_) (fun c => ?_)
  · walk_at "vv"
    refine e_take (by omega) (by decide) (by decide) fun z2 r2 h3 h4 hr2 => ?_
    obtain ⟨s, hm, em⟩ := at_litS [("a" : Str), ("" : Str), ("aa" : Str), ("b" : Str), ("ab" : Str), ("~" : Str), (" " : Str), ("zz top" : Str), ("Aa" : Str), ("0" : Str), repS ("a" : Str) 20, cutS ("the twenty signs of it" : Str) none (some 20)] h3 h4
    refine e_ixL em ?_
    exact k s _ (isT_all (by decide +kernel) hm) (by omega)
  · walk_at "vv"
    refine e_take (by omega) (by decide) (by decide) fun z2 r2 h3 h4 hr2 => ?_
    obtain ⟨j, rfl⟩ : ∃ j : Nat, z2 = (j : Int) := ⟨z2.toNat, by omega⟩
    walk_at "vv"
    refine e_itR (by omega) ?_
    have hz : okT 53 (" !\"#$&'()*+,-./0123456789:;<=>?@ABCXYZ[]^_`abcxyz{|}~" : Str) = true := by decide +kernel
    refine ⟨fun i acc m' => i ≤ j ∧ ∃ cs : List Nat, acc = cs.map (fun c => D.str ⟨#[c]⟩) ∧ cs.length = i ∧ (∀ c ∈ cs, signs.cps.toList.contains c = true) ∧ ∃ r' : Nat, m' = (some (x, r'), s0) ∧ r2 ≤ r' + i, ⟨Nat.zero_le _, [], rfl, rfl, by simp, r2, rfl, by omega⟩, ?_, ?_⟩
    · rintro i acc m' d ⟨hi0, cs, rfl, hcs, hc, r3, rfl, hr3⟩ ed
      obtain ⟨hi, rfl⟩ := rangeD_at ed
      walk_at "vv"
      refine e_lenS (by decide) ?_
      walk_at "vv"
      refine e_take (by omega) (by decide) (by decide) fun z3 r4 h5 h6 hr4 => ?_
      obtain ⟨c', hm, em⟩ := atI_lt (l := (" !\"#$&'()*+,-./0123456789:;<=>?@ABCXYZ[]^_`abcxyz{|}~" : Str).cps.toList) h5 (by rw [Array.length_toList]; exact h6)
      refine e_ixS (by decide) em ⟨by rw [List.length_map]; exact sz_lt (by omega), by omega, cs ++ [c'], by rw [List.map_append]; rfl, by simp [hcs], fun c h => ?_, r4, rfl, by omega⟩
      rcases List.mem_append.mp h with h | h
      · exact hc c h
      · rw [List.mem_singleton.mp h]; exact sg_in hz hm
    · rintro acc m' ⟨hi0, cs, rfl, hcs, hc, r3, rfl, hr3⟩
      rw [rangeD_len] at hcs hr3
      walk_at "vv"
      refine e_joinC (by omega) ?_
      exact k _ _ (join_signs 20 hc (by omega)) (by omega)
section
variable {P : D → Mst → Prop} {m : Mst} {VX : XV} {k : Nat} {Z : D → Prop}
end
def Gd : Nat → D → Prop
  | 0, _ => False
  | _ + 1, .non => True
  | _ + 1, .int _ => True
  | _ + 1, .str s => PyData.strOk s = true
  | n + 1, .lst ds => ds.length ≤ 16777216 ∧ ∀ d ∈ ds, Gd n d
  | n + 1, .tup ds => ds.length ≤ 16777216 ∧ ∀ d ∈ ds, Gd n d
  | _ + 1, _ => False
theorem Gd.up : ∀ {n : Nat} {d : D}, Gd n d → Gd (n + 1) d
  | 0, _, h => h.elim
  | n + 1, d, h => by
    cases d with
    | lst ds => exact ⟨h.1, fun x hx => Gd.up (h.2 x hx)⟩
    | tup ds => exact ⟨h.1, fun x hx => Gd.up (h.2 x hx)⟩
    | non => exact h
    | int i => exact h
    | str s => exact h
    | _ => exact h.elim
theorem Gd.le {n k : Nat} {d : D} (hk : n ≤ k) (h : Gd n d) : Gd k d := by
  induction hk with
  | refl => exact h
  | step _ ih => exact ih.up
theorem pls_of : ∀ {ds : List D}, (∀ d ∈ ds, d.pl = true) → D.pls ds = true
  | [], _ => rfl
  | d :: ds, h => by rw [D.pls, h d List.mem_cons_self, pls_of fun x hx => h x (List.mem_cons_of_mem _ hx)]; rfl
theorem lays_of : ∀ {ds : List D}, (∀ d ∈ ds, PyData.canLay0 d.py = true) → PyData.canLayAll0 (D.pys ds) = true
  | [], _ => rfl
  | d :: ds, h => by rw [D.pys, PyData.canLayAll0, h d List.mem_cons_self, lays_of fun x hx => h x (List.mem_cons_of_mem _ hx)]; rfl
theorem depths_of {n : Nat} : ∀ {ds : List D}, (∀ d ∈ ds, PyData.depth d.py ≤ n) → PyData.depthAll (D.pys ds) ≤ n
  | [], _ => by rw [D.pys, PyData.depthAll]; exact Nat.zero_le _
  | d :: ds, h => by
    rw [D.pys, PyData.depthAll]
    exact Nat.max_le.mpr ⟨h d List.mem_cons_self, depths_of fun x hx => h x (List.mem_cons_of_mem _ hx)⟩
theorem Gd.pl : ∀ {n : Nat} {d : D}, Gd n d → d.pl = true
  | 0, _, h => h.elim
  | n + 1, d, h => by
    cases d with
    | lst ds => rw [D.pl]; exact pls_of fun x hx => Gd.pl (h.2 x hx)
    | tup ds => rw [D.pl]; exact pls_of fun x hx => Gd.pl (h.2 x hx)
    | non => rfl
    | int i => rfl
    | str s => rfl
    | _ => exact h.elim
theorem Gd.lay : ∀ {n : Nat} {d : D}, Gd n d → PyData.canLay0 d.py = true ∧ PyData.depth d.py ≤ n
  | 0, _, h => h.elim
  | n + 1, d, h => by
    cases d with
    | lst ds =>
      rw [D.py, PyData.canLay0, PyData.depth]
      exact ⟨lays_of fun x hx => (Gd.lay (h.2 x hx)).1, Nat.succ_le_succ (depths_of fun x hx => (Gd.lay (h.2 x hx)).2)⟩
    | tup ds =>
      rw [D.py, PyData.canLay0, PyData.depth]
      exact ⟨lays_of fun x hx => (Gd.lay (h.2 x hx)).1, Nat.succ_le_succ (depths_of fun x hx => (Gd.lay (h.2 x hx)).2)⟩
    | non => exact ⟨rfl, by rw [D.py, PyData.depth]; omega⟩
    | int i => exact ⟨rfl, by rw [D.py, PyData.depth]; omega⟩
    | str s => exact ⟨by rw [D.py, PyData.canLay0]; exact h, by rw [D.py, PyData.depth]; omega⟩
    | _ => exact h.elim
theorem Gd.shaped {n : Nat} {d : D} (hn : n ≤ 64) (h : Gd n d) : SeqAt.shaped d.py = true := by
  unfold SeqAt.shaped
  rw [h.lay.1, decide_eq_true (Nat.le_trans h.lay.2 hn)]; rfl
section
variable {d e : D} {n k : Nat} {P : D → Mst → Prop} {m : Mst} {VX : XV} {Z : D → Prop}
end
inductive Kd where
  | num
  | txt
def Kd.isT : Kd → Bool
  | .num => false
  | .txt => true
def kdD : Kd → D
  | .num => .str "number"
  | .txt => .str "text"
def Val : Kd → D → Prop
  | .num, d => ∃ z : Int, d = .int z ∧ z.natAbs < 2 ^ 100
  | .txt, d => ∃ s : Str, d = .str s ∧ IsT 40 s
def CellK (k : Kd) (d : D) : Prop := d = .non ∨ Val k d
def ltD : D → D → Bool
  | .int i, .int j => decide (i < j)
  | .str s, .str t => decide (s.cps.toList < t.cps.toList)
  | _, _ => false
def eqDD : D → D → Bool
  | .int i, .int j => decide (i = j)
  | .str s, .str t => decide (s = t)
  | _, _ => false
theorem str_eq {s t : Str} (h : s.cps.toList = t.cps.toList) : s = t := by
  obtain ⟨⟨a⟩⟩ := s
  obtain ⟨⟨b⟩⟩ := t
  have h : a = b := h
  rw [h]
section
variable {k : Kd} {x y z : D}
theorem eqDD_iff (hx : Val k x) (hy : Val k y) : eqDD x y = true ↔ x = y := by
  cases k with
  | num =>
    obtain ⟨i, rfl, _⟩ := hx; obtain ⟨j, rfl, _⟩ := hy
    exact ⟨fun h => by rw [of_decide_eq_true h], fun h => by cases h; exact decide_eq_true rfl⟩
  | txt =>
    obtain ⟨i, rfl, _⟩ := hx; obtain ⟨j, rfl, _⟩ := hy
    exact ⟨fun h => by rw [of_decide_eq_true h], fun h => by cases h; exact decide_eq_true rfl⟩
theorem ltD_ir (x : D) : ltD x x = false := by
  cases x <;> try rfl
  · exact decide_eq_false (Int.lt_irrefl _)
  · exact decide_eq_false (List.lt_irrefl _)
theorem ltD_tr (h1 : ltD x y = true) (h2 : ltD y z = true) : ltD x z = true := by
  cases x <;> try (exact absurd h1 Bool.false_ne_true)
  · cases y <;> try (exact absurd h1 Bool.false_ne_true)
    cases z <;> try (exact absurd h2 Bool.false_ne_true)
    simp only [ltD, decide_eq_true_eq] at *
    omega
  · cases y <;> try (exact absurd h1 Bool.false_ne_true)
    cases z <;> try (exact absurd h2 Bool.false_ne_true)
    simp only [ltD, decide_eq_true_eq] at *
    exact List.lt_trans h1 h2
theorem ltD_as (h1 : ltD x y = true) : ltD y x = false := by
  cases h : ltD y x with
  | false => rfl
  | true => exact absurd (ltD_tr h1 h) (by rw [ltD_ir]; exact Bool.false_ne_true)
theorem ltD_tot (hx : Val k x) (hy : Val k y) (h1 : ltD x y = false) (h2 : ltD y x = false) : x = y := by
  cases k with
  | num =>
    obtain ⟨i, rfl, _⟩ := hx; obtain ⟨j, rfl, _⟩ := hy
    have a := of_decide_eq_false (p := i < j) h1
    have b := of_decide_eq_false (p := j < i) h2
    rw [show i = j by omega]
  | txt =>
    obtain ⟨i, rfl, _⟩ := hx; obtain ⟨j, rfl, _⟩ := hy
    have a := List.not_lt.mp (of_decide_eq_false (p := i.cps.toList < j.cps.toList) h1)
    have b := List.not_lt.mp (of_decide_eq_false (p := j.cps.toList < i.cps.toList) h2)
    rw [str_eq (List.le_antisymm b a)]
variable {Z : D → Prop}
theorem e_ltV (hx : Val k x) (hy : Val k y) (h : Z (.bl (ltD x y))) : vLt x y Z := by
  cases k with
  | num => obtain ⟨i, rfl, _⟩ := hx; obtain ⟨j, rfl, _⟩ := hy; exact h
  | txt => obtain ⟨i, rfl, _⟩ := hx; obtain ⟨j, rfl, _⟩ := hy; exact h
theorem e_gtV (hx : Val k x) (hy : Val k y) (h : Z (.bl (ltD y x))) : vGt x y Z := by
  cases k with
  | num => obtain ⟨i, rfl, _⟩ := hx; obtain ⟨j, rfl, _⟩ := hy; exact h
  | txt => obtain ⟨i, rfl, _⟩ := hx; obtain ⟨j, rfl, _⟩ := hy; exact h
theorem dec_not {p q : Prop} [Decidable p] [Decidable q] (h : p ↔ ¬ q) : decide p = !decide q := by
  by_cases c : q
  · rw [decide_eq_true c, decide_eq_false (fun z => (h.mp z) c)]; rfl
  · rw [decide_eq_false c, decide_eq_true (h.mpr c)]; rfl
theorem e_leV (hx : Val k x) (hy : Val k y) (h : Z (.bl (!ltD y x))) : vLe x y Z := by
  cases k with
  | num =>
    obtain ⟨i, rfl, _⟩ := hx; obtain ⟨j, rfl, _⟩ := hy
    have e : decide (i ≤ j) = !decide (j < i) := dec_not (by omega)
    show Z (.bl (decide (i ≤ j)))
    rw [e]; exact h
  | txt => obtain ⟨i, rfl, _⟩ := hx; obtain ⟨j, rfl, _⟩ := hy; exact h
theorem e_geV (hx : Val k x) (hy : Val k y) (h : Z (.bl (!ltD x y))) : vGe x y Z := by
  cases k with
  | num =>
    obtain ⟨i, rfl, _⟩ := hx; obtain ⟨j, rfl, _⟩ := hy
    have e : decide (j ≤ i) = !decide (i < j) := dec_not (by omega)
    show Z (.bl (decide (j ≤ i)))
    rw [e]; exact h
  | txt => obtain ⟨i, rfl, _⟩ := hx; obtain ⟨j, rfl, _⟩ := hy; exact h
theorem e_eqV (hx : Val k x) (hy : Val k y) (h : Z (.bl (eqDD x y))) : vEqC x y Z := by
  cases k with
  | num => obtain ⟨i, rfl, _⟩ := hx; obtain ⟨j, rfl, _⟩ := hy; exact e_eqI h
  | txt => obtain ⟨i, rfl, _⟩ := hx; obtain ⟨j, rfl, _⟩ := hy; exact e_eqS h
theorem e_neV (hx : Val k x) (hy : Val k y) (h : Z (.bl (!eqDD x y))) : vNeC x y Z := by
  cases k with
  | num => obtain ⟨i, rfl, _⟩ := hx; obtain ⟨j, rfl, _⟩ := hy; exact e_neI h
  | txt => obtain ⟨i, rfl, _⟩ := hx; obtain ⟨j, rfl, _⟩ := hy; exact e_neS h
theorem val_nn (h : Val k x) : x.isN = false := by
  cases k with
  | num => obtain ⟨i, rfl, _⟩ := h; rfl
  | txt => obtain ⟨i, rfl, _⟩ := h; rfl
theorem e_kT (h : Z (.bl k.isT)) : vEqC (kdD k) (.str "text") Z := by
  cases k with
  | num => exact e_eqS (by rw [decide_eq_false (by decide +kernel)]; exact h)
  | txt => exact e_eqS (by rw [decide_eq_true rfl]; exact h)
theorem e_kN (h : Z (.bl (!k.isT))) : vEqC (kdD k) (.str "number") Z := by
  cases k with
  | num => exact e_eqS (by rw [decide_eq_true rfl]; exact h)
  | txt => exact e_eqS (by rw [decide_eq_false (by decide +kernel)]; exact h)
end
section
variable {k : Kd} {l : List D} {Z : D → Prop}
end
local macro_rules | `(tactic| walk_at "v1") => `(tactic| with_reducible first
  | refine e_min2 ?_)
local macro_rules | `(tactic| walk_at "v1") => `(tactic| with_reducible first
  | refine e_kT ?_
  | refine e_kN ?_
  | refine e_max2 ?_)
def t_cells (K : PySem.W.Frag) (s_take_ : Sp) (s_text_ : Sp) (s_number_ : Sp) : TS :=
      (tSeq (tAsg (tCall s_take_ [] E0 (tCons (tVar 0) (tCons (tC (.int 5)) tNil))) (gName 3))
      (tSeq (tAsg (tOp (rIxU K) (tLst (tCons (tC (.int 0)) (tCons (tC (.int 4)) (tCons (tC (.int 9)) tNil)))) (tCall s_take_ [] E0 (tCons (tVar 0) (tCons (tC (.int 3)) tNil)))) (gName 4))
      (tSeq (tAsg (tLc (iRng1 (tCons (tOp (rAddU K) (tC (.int 1)) (tCall s_take_ [] E0 (tCons (tVar 0) (tCons (tC (.int 8)) tNil)))) tNil)) (gName 5) tYes (tIf (tTest (tOp (rEqU K) (tVar 1) (tC (.str ("text" : Str))))) (tCall s_text_ [] E0 (tCons (tVar 0) tNil)) (tCall s_number_ [] E0 (tCons (tVar 0) tNil))) [5]) (gName 6))
      (tSeq (tAsg (tOp (rIxU K) (tLst (tCons (tOp (rSubU) (tCall s_take_ [] E0 (tCons (tVar 0) (tCons (tC (.int 9)) tNil))) (tC (.int 4))) (tCons (tCall s_take_ [] E0 (tCons (tVar 0) (tCons (tOp (rPowU) (tC (.int 10)) (tC (.int 6))) tNil))) tNil))) (tCall s_take_ [] E0 (tCons (tVar 0) (tCons (tC (.int 2)) tNil)))) (gName 7))
      (tSeq (tAsg (tLst tNil) (gName 8))
      (tSeq (tFor (iRng1 (tCons (tVar 2) tNil)) (gName 9)
      (tSeq (tAsg (tOp (rIxU K) (tVar 6) (tCall s_take_ [] E0 (tCons (tVar 0) (tCons (tCB (rLenU K) (tCons (tVar 6) tNil)) tNil)))) (gName 10))
      (tSeq (tIfS (tAnd (tTest (tOp (rEqU K) (tVar 3) (tC (.int 1)))) (tAnd (tTest (tOp (rGtV) (tVar 9) (tC (.int 0)))) (tTest (tOp (rGtV) (tCall s_take_ [] E0 (tCons (tVar 0) (tCons (tC (.int 5)) tNil))) (tC (.int 0))))))
      (tAsg (tOp (rIxU K) (tVar 8) (tUn rNeg (tC (.int 1)))) (gName 10))
      (tIfS (tAnd (tTest (tOp (rEqU K) (tVar 3) (tC (.int 2)))) (tTest (tOp (rEqU K) (tVar 1) (tC (.str ("number" : Str))))))
      (tAsg (tOp (rAddU K) (tOp (rModU) (tOp (rIxU K) (tVar 6) (tC (.int 0))) (tOp (rPowU) (tC (.int 10)) (tC (.int 12)))) (tOp (rMulT) (tVar 9) (tVar 7))) (gName 10))
      (tIfS (tAnd (tTest (tOp (rEqU K) (tVar 3) (tC (.int 3)))) (tTest (tOp (rEqU K) (tVar 1) (tC (.str ("number" : Str))))))
      (tAsg (tCall s_number_ [] E0 (tCons (tVar 0) tNil)) (gName 10))
      tNext)))
      (tSeq (tIfS (tAnd (tTest (tOp (rGtV) (tVar 4) (tC (.int 0)))) (tAnd (tTest (tOp (rNeU K) (tVar 3) (tC (.int 2)))) (tTest (tOp (rEqU K) (tCall s_take_ [] E0 (tCons (tVar 0) (tCons (tVar 4) tNil))) (tC (.int 0))))))
      (tAsg (tC .non) (gName 10))
      tNext)
      (tDrop (tBM K "list" (rAppend) (tVar 8) (tCons (tVar 10) tNil)))))))
      (tRet (tVar 8))))))))
abbrev N_cells : List Str := [("_law_state" : Str), ("_law_kind_here" : Str), ("_law_many" : Str), ("_law_way" : Str), ("_law_open_in" : Str), ("_law_turn" : Str), ("_law_some" : Str), ("_law_step" : Str), ("_law_cells_here" : Str), ("_law_place" : Str), ("_law_cell" : Str)]
def v_cells (K : PySem.W.Frag) (vs_take : VSp) (vs_text : VSp) (vs_number : VSp) : VS :=
      (vSeqS (vAsg (vCall vs_take (vCons (vVar 0) (vCons (vC (.int 5)) vNil))) (vgName 3))
      (vSeqS (vAsg (vOp vIx (vLst (vCons (vC (.int 0)) (vCons (vC (.int 4)) (vCons (vC (.int 9)) vNil)))) (vCall vs_take (vCons (vVar 0) (vCons (vC (.int 3)) vNil)))) (vgName 4))
      (vSeqS (vAsg (vLc (vRng1 (vCons (vOp vAdd (vC (.int 1)) (vCall vs_take (vCons (vVar 0) (vCons (vC (.int 8)) vNil)))) vNil)) (vgName 5) vYes (vIfE (vTest (vOp vEqC (vVar 1) (vC (.str ("text" : Str))))) (vCall vs_text (vCons (vVar 0) vNil)) (vCall vs_number (vCons (vVar 0) vNil))) [5]) (vgName 6))
      (vSeqS (vAsg (vOp vIx (vLst (vCons (vOp vSub (vCall vs_take (vCons (vVar 0) (vCons (vC (.int 9)) vNil))) (vC (.int 4))) (vCons (vCall vs_take (vCons (vVar 0) (vCons (vOp vPow (vC (.int 10)) (vC (.int 6))) vNil))) vNil))) (vCall vs_take (vCons (vVar 0) (vCons (vC (.int 2)) vNil)))) (vgName 7))
      (vSeqS (vAsg (vLst vNil) (vgName 8))
      (vSeqS (vFor [2, 5, 9, 10] (vRng1 (vCons (vVar 2) vNil)) (vgName 9)
      (vSeqS (vAsg (vOp vIx (vVar 6) (vCall vs_take (vCons (vVar 0) (vCons (vCB vLen (vCons (vVar 6) vNil)) vNil)))) (vgName 10))
      (vSeqS (vIf (vAnd (vTest (vOp vEqC (vVar 3) (vC (.int 1)))) (vAnd (vTest (vOp vGt (vVar 9) (vC (.int 0)))) (vTest (vOp vGt (vCall vs_take (vCons (vVar 0) (vCons (vC (.int 5)) vNil))) (vC (.int 0))))))
      (vAsg (vOp vIx (vVar 8) (vUn vNeg (vC (.int 1)))) (vgName 10))
      (vIf (vAnd (vTest (vOp vEqC (vVar 3) (vC (.int 2)))) (vTest (vOp vEqC (vVar 1) (vC (.str ("number" : Str))))))
      (vAsg (vOp vAdd (vOp vMod (vOp vIx (vVar 6) (vC (.int 0))) (vOp vPow (vC (.int 10)) (vC (.int 12)))) (vOp vMul (vVar 9) (vVar 7))) (vgName 10))
      (vIf (vAnd (vTest (vOp vEqC (vVar 3) (vC (.int 3)))) (vTest (vOp vEqC (vVar 1) (vC (.str ("number" : Str))))))
      (vAsg (vCall vs_number (vCons (vVar 0) vNil)) (vgName 10))
      vNext)))
      (vSeqS (vIf (vAnd (vTest (vOp vGt (vVar 4) (vC (.int 0)))) (vAnd (vTest (vOp vNeC (vVar 3) (vC (.int 2)))) (vTest (vOp vEqC (vCall vs_take (vCons (vVar 0) (vCons (vVar 4) vNil))) (vC (.int 0))))))
      (vAsg (vC .non) (vgName 10))
      vNext)
      (vApp 8 (vVar 10))))))
      (vRet (vVar 8))))))))
theorem sim_cells {K : PySem.W.Frag} {vs_take : VSp} {vs_text : VSp} {vs_number : VSp} {vsp : VSp} (hv : ∀ ds m P VX, vsp ds m P VX → ds.length = 3 ∧ v_cells K vs_take vs_text vs_number (vends P) (vstart N_cells.length ds) m) :
    ∀ us H Q E, spV K .O vsp us H Q E → t_cells K (spV K .O vs_take) (spV K .F vs_text) (spV K .O vs_number) { nx := fun _ H' => Q .non H', rt := Q } (L2.start N_cells us) H :=
  sim_def (n := 3) (t := .O) (N := N_cells) (Γn := [.F, .F, .F, .F, .F, .F, .F, .F, .F, .F, .F]) (Γb := []) (Γc := []) (ts := fun E => t_cells K (spV K .O vs_take) (spV K .F vs_text) (spV K .O vs_number)) (vs := fun VX => v_cells K vs_take vs_text vs_number) (by decide) (fun c W VX hK hx => by
    subst hK
    exact (x_seq (x_asgO (i := 3) (s_callO (g_cons (s_varF (by rfl)) (g_cons (SO.f s_int) g_nil))))
      (x_seq (x_asgF (i := 4) (s_opF o_ix (SO.b (s_lst (g_cons (SO.f s_int) (g_cons (SO.f s_int) (g_cons (SO.f s_int) g_nil))))) (SO.b (s_callO (g_cons (s_varF (by rfl)) (g_cons (SO.f s_int) g_nil))))))
      (x_seq (x_asgO (i := 6) (s_lc (vs := [5]) (i_rng1 (g_cons (SO.f (s_op o_add (SO.b s_int) (SO.b (s_callO (g_cons (s_varF (by rfl)) (g_cons (SO.f s_int) g_nil)))))) g_nil)) (by rfl) (tg_name (is := [5]) (by rfl) (by decide)) s_yes (s_ifF (s_test (SO.b (s_op o_eq (SF.b (s_varF (by rfl))) (SO.b s_str)))) (s_callF (g_cons (s_varF (by rfl)) g_nil)) (SO.f (s_callO (g_cons (s_varF (by rfl)) g_nil))))))
      (x_seq (x_asgF (i := 7) (s_opF o_ix (SO.b (s_lst (g_cons (SO.f (s_op o_sub (SO.b (s_callO (g_cons (s_varF (by rfl)) (g_cons (SO.f s_int) g_nil)))) (SO.b s_int))) (g_cons (SO.f (s_callO (g_cons (s_varF (by rfl)) (g_cons (SO.f (s_op o_pow (SO.b s_int) (SO.b s_int))) g_nil)))) g_nil)))) (SO.b (s_callO (g_cons (s_varF (by rfl)) (g_cons (SO.f s_int) g_nil))))))
      (x_seq (x_asgO (i := 8) (s_lst g_nil))
      (x_seq (x_for (Γ' := [.F, .F, .F, .O, .F, .F, .O, .F, .O, .F, .F]) (ws := [2, 5, 9, 10]) (i_rng1 (g_cons (s_varF (by rfl)) g_nil)) (tg_name (is := [9]) (by rfl) (by decide))
      (x_seq (x_asgF (i := 10) (s_opF o_ix (s_varB (t := .O) (by rfl)) (SO.b (s_callO (g_cons (s_varF (by rfl)) (g_cons (SO.f (s_cb l_len (a_cons (s_varB (t := .O) (by rfl)) a_nil))) g_nil))))))
      (x_seq (x_if (Γn := [.F, .F, .F, .O, .F, .F, .O, .F, .O, .F, .F]) (s_and (s_test (SO.b (s_op o_eq (s_varB (t := .O) (by rfl)) (SO.b s_int)))) (s_and (s_test (SO.b (s_op o_gt (SF.b (s_varF (by rfl))) (SO.b s_int)))) (s_test (SO.b (s_op o_gt (SO.b (s_callO (g_cons (s_varF (by rfl)) (g_cons (SO.f s_int) g_nil)))) (SO.b s_int))))))
      (x_asgF (i := 10) (s_opF o_ix (s_varB (t := .O) (by rfl)) (SO.b (s_un o_neg (SO.b s_int)))))
      (x_if (Γn := [.F, .F, .F, .O, .F, .F, .O, .F, .O, .F, .F]) (s_and (s_test (SO.b (s_op o_eq (s_varB (t := .O) (by rfl)) (SO.b s_int)))) (s_test (SO.b (s_op o_eq (SF.b (s_varF (by rfl))) (SO.b s_str)))))
      (x_post (Γ1 := [.F, .F, .F, .O, .F, .F, .O, .F, .O, .F, .O]) (Γn := [.F, .F, .F, .O, .F, .F, .O, .F, .O, .F, .F]) (x_asgO (i := 10) (s_op o_add (SO.b (s_op o_mod (SF.b (s_opF o_ix (s_varB (t := .O) (by rfl)) (SO.b s_int))) (SO.b (s_op o_pow (SO.b s_int) (SO.b s_int))))) (SO.b (s_op o_mul (SF.b (s_varF (by rfl))) (SF.b (s_varF (by rfl))))))))
      (x_if (Γn := [.F, .F, .F, .O, .F, .F, .O, .F, .O, .F, .F]) (s_and (s_test (SO.b (s_op o_eq (s_varB (t := .O) (by rfl)) (SO.b s_int)))) (s_test (SO.b (s_op o_eq (SF.b (s_varF (by rfl))) (SO.b s_str)))))
      (x_post (Γ1 := [.F, .F, .F, .O, .F, .F, .O, .F, .O, .F, .O]) (Γn := [.F, .F, .F, .O, .F, .F, .O, .F, .O, .F, .F]) (x_asgO (i := 10) (s_callO (g_cons (s_varF (by rfl)) g_nil))))
      x_next)))
      (x_seq (x_if (Γn := [.F, .F, .F, .O, .F, .F, .O, .F, .O, .F, .F]) (s_and (s_test (SO.b (s_op o_gt (SF.b (s_varF (by rfl))) (SO.b s_int)))) (s_and (s_test (SO.b (s_op o_ne (s_varB (t := .O) (by rfl)) (SO.b s_int)))) (s_test (SO.b (s_op o_eq (SO.b (s_callO (g_cons (s_varF (by rfl)) (g_cons (s_varF (by rfl)) g_nil)))) (SO.b s_int))))))
      (x_post (Γ1 := [.F, .F, .F, .O, .F, .F, .O, .F, .O, .F, .O]) (Γn := [.F, .F, .F, .O, .F, .F, .O, .F, .O, .F, .F]) (x_asgO (i := 10) s_non))
      x_next)
      (x_app (by rfl) (s_varF (by rfl)))))))
      (x_retV (by rfl))))))))) hv
def t_kind (K : PySem.W.Frag) (s_take_ : Sp) : TS :=
      (tRet (tOp (rIxU K) (tLst (tCons (tC (.str ("number" : Str))) (tCons (tC (.str ("text" : Str))) tNil))) (tOp (rDivU) (tCall s_take_ [] E0 (tCons (tVar 0) (tCons (tC (.int 3)) tNil))) (tC (.int 2)))))
abbrev N_kind : List Str := [("_law_state" : Str)]
def v_kind (K : PySem.W.Frag) (vs_take : VSp) : VS :=
      (vRet (vOp vIx (vLst (vCons (vC (.str ("number" : Str))) (vCons (vC (.str ("text" : Str))) vNil))) (vOp vDiv (vCall vs_take (vCons (vVar 0) (vCons (vC (.int 3)) vNil))) (vC (.int 2)))))
theorem sim_kind {K : PySem.W.Frag} {vs_take : VSp} {vsp : VSp} (hv : ∀ ds m P VX, vsp ds m P VX → ds.length = 1 ∧ v_kind K vs_take (vends P) (vstart N_kind.length ds) m) :
    ∀ us H Q E, spV K .F vsp us H Q E → t_kind K (spV K .O vs_take) { nx := fun _ H' => Q .non H', rt := Q } (L2.start N_kind us) H :=
  sim_def (n := 1) (t := .F) (N := N_kind) (Γn := [.F]) (Γb := []) (Γc := []) (ts := fun E => t_kind K (spV K .O vs_take)) (vs := fun VX => v_kind K vs_take) (by decide) (fun c W VX hK hx => by
    subst hK
    exact (x_retF (s_opF o_ix (SO.b (s_lst (g_cons (SO.f s_str) (g_cons (SO.f s_str) g_nil)))) (SO.b (s_op o_div (SO.b (s_callO (g_cons (s_varF (by rfl)) (g_cons (SO.f s_int) g_nil)))) (SO.b s_int)))))) hv
def t_near_cells (K : PySem.W.Frag) (s_take_ : Sp) : TS :=
      (tSeq (tAsg (tOp (rIxU K) (tLst (tCons (tOp (rSubU) (tCall s_take_ [] E0 (tCons (tVar 0) (tCons (tC (.int 40)) tNil))) (tC (.int 20))) (tCons (tOp (rSubU) (tOp (rPowU) (tC (.int 10)) (tC (.int 18))) (tC (.int 4))) (tCons (tOp (rSubU) (tC (.int 4)) (tOp (rPowU) (tC (.int 10)) (tC (.int 18)))) (tCons (tC (.int 63)) tNil))))) (tCall s_take_ [] E0 (tCons (tVar 0) (tCons (tC (.int 4)) tNil)))) (gName 3))
      (tSeq (tAsg (tLst (tCons (tC (.str ("" : Str))) (tCons (tC (.str ("a" : Str))) (tCons (tC (.str ("aa" : Str))) (tCons (tC (.str ("ab" : Str))) (tCons (tC (.str ("b" : Str))) (tCons (tC (.str ("~" : Str))) (tCons (tC (.str (" " : Str))) (tCons (tC (.str ("Z" : Str))) tNil))))))))) (gName 4))
      (tSeq (tAsg (tOp (rIxU K) (tLst (tCons (tC (.int 1)) (tCons (tC (.int 1)) (tCons (tC (.int 2)) (tCons (tC (.int 3)) (tCons (tC (.int 8)) tNil)))))) (tCall s_take_ [] E0 (tCons (tVar 0) (tCons (tC (.int 5)) tNil)))) (gName 5))
      (tSeq (tAsg (tCall s_take_ [] E0 (tCons (tVar 0) (tCons (tC (.int 8)) tNil))) (gName 6))
      (tSeq (tAsg (tOp (rIxU K) (tLst (tCons (tC (.int 0)) (tCons (tC (.int 0)) (tCons (tC (.int 2)) (tCons (tC (.int 5)) (tCons (tC (.int 1)) tNil)))))) (tCall s_take_ [] E0 (tCons (tVar 0) (tCons (tC (.int 5)) tNil)))) (gName 7))
      (tSeq (tAsg (tLst tNil) (gName 8))
      (tSeq (tFor (iRng1 (tCons (tVar 2) tNil)) (gName 9)
      (tSeq (tAsg (tCall s_take_ [] E0 (tCons (tVar 0) (tCons (tVar 5) tNil))) (gName 10))
      (tSeq (tAsg (tOp (rIxU K) (tLst (tCons (tOp (rAddU K) (tVar 3) (tOp (rModU) (tVar 10) (tC (.int 4)))) (tCons (tOp (rIxU K) (tVar 4) (tOp (rModU) (tOp (rAddU K) (tVar 6) (tVar 10)) (tC (.int 8)))) tNil))) (tCB (rIntU) (tCons (tOp (rEqU K) (tVar 1) (tC (.str ("text" : Str)))) tNil))) (gName 11))
      (tSeq (tIfS (tAnd (tTest (tOp (rGtV) (tVar 7) (tC (.int 0)))) (tTest (tOp (rEqU K) (tCall s_take_ [] E0 (tCons (tVar 0) (tCons (tVar 7) tNil))) (tC (.int 0)))))
      (tAsg (tC .non) (gName 11))
      tNext)
      (tDrop (tBM K "list" (rAppend) (tVar 8) (tCons (tVar 11) tNil)))))))
      (tRet (tVar 8)))))))))
abbrev N_near_cells : List Str := [("_law_state" : Str), ("_law_kind_here" : Str), ("_law_many" : Str), ("_law_first" : Str), ("_law_texts" : Str), ("_law_wide" : Str), ("_law_begin_here" : Str), ("_law_open_in" : Str), ("_law_cells_here" : Str), ("_law_k" : Str), ("_law_turn" : Str), ("_law_cell" : Str)]
def v_near_cells (K : PySem.W.Frag) (vs_take : VSp) : VS :=
      (vSeqS (vAsg (vOp vIx (vLst (vCons (vOp vSub (vCall vs_take (vCons (vVar 0) (vCons (vC (.int 40)) vNil))) (vC (.int 20))) (vCons (vOp vSub (vOp vPow (vC (.int 10)) (vC (.int 18))) (vC (.int 4))) (vCons (vOp vSub (vC (.int 4)) (vOp vPow (vC (.int 10)) (vC (.int 18)))) (vCons (vC (.int 63)) vNil))))) (vCall vs_take (vCons (vVar 0) (vCons (vC (.int 4)) vNil)))) (vgName 3))
      (vSeqS (vAsg (vLst (vCons (vC (.str ("" : Str))) (vCons (vC (.str ("a" : Str))) (vCons (vC (.str ("aa" : Str))) (vCons (vC (.str ("ab" : Str))) (vCons (vC (.str ("b" : Str))) (vCons (vC (.str ("~" : Str))) (vCons (vC (.str (" " : Str))) (vCons (vC (.str ("Z" : Str))) vNil))))))))) (vgName 4))
      (vSeqS (vAsg (vOp vIx (vLst (vCons (vC (.int 1)) (vCons (vC (.int 1)) (vCons (vC (.int 2)) (vCons (vC (.int 3)) (vCons (vC (.int 8)) vNil)))))) (vCall vs_take (vCons (vVar 0) (vCons (vC (.int 5)) vNil)))) (vgName 5))
      (vSeqS (vAsg (vCall vs_take (vCons (vVar 0) (vCons (vC (.int 8)) vNil))) (vgName 6))
      (vSeqS (vAsg (vOp vIx (vLst (vCons (vC (.int 0)) (vCons (vC (.int 0)) (vCons (vC (.int 2)) (vCons (vC (.int 5)) (vCons (vC (.int 1)) vNil)))))) (vCall vs_take (vCons (vVar 0) (vCons (vC (.int 5)) vNil)))) (vgName 7))
      (vSeqS (vAsg (vLst vNil) (vgName 8))
      (vSeqS (vFor [2, 9, 10, 11] (vRng1 (vCons (vVar 2) vNil)) (vgName 9)
      (vSeqS (vAsg (vCall vs_take (vCons (vVar 0) (vCons (vVar 5) vNil))) (vgName 10))
      (vSeqS (vAsg (vOp vIx (vLst (vCons (vOp vAdd (vVar 3) (vOp vMod (vVar 10) (vC (.int 4)))) (vCons (vOp vIx (vVar 4) (vOp vMod (vOp vAdd (vVar 6) (vVar 10)) (vC (.int 8)))) vNil))) (vCB vInt (vCons (vOp vEqC (vVar 1) (vC (.str ("text" : Str)))) vNil))) (vgName 11))
      (vSeqS (vIf (vAnd (vTest (vOp vGt (vVar 7) (vC (.int 0)))) (vTest (vOp vEqC (vCall vs_take (vCons (vVar 0) (vCons (vVar 7) vNil))) (vC (.int 0)))))
      (vAsg (vC .non) (vgName 11))
      vNext)
      (vApp 8 (vVar 11))))))
      (vRet (vVar 8)))))))))
theorem sim_near_cells {K : PySem.W.Frag} {vs_take : VSp} {vsp : VSp} (hv : ∀ ds m P VX, vsp ds m P VX → ds.length = 3 ∧ v_near_cells K vs_take (vends P) (vstart N_near_cells.length ds) m) :
    ∀ us H Q E, spV K .O vsp us H Q E → t_near_cells K (spV K .O vs_take) { nx := fun _ H' => Q .non H', rt := Q } (L2.start N_near_cells us) H :=
  sim_def (n := 3) (t := .O) (N := N_near_cells) (Γn := [.F, .F, .F, .F, .F, .F, .F, .F, .F, .F, .F, .F]) (Γb := []) (Γc := []) (ts := fun E => t_near_cells K (spV K .O vs_take)) (vs := fun VX => v_near_cells K vs_take) (by decide) (fun c W VX hK hx => by
    subst hK
    exact (x_seq (x_asgF (i := 3) (s_opF o_ix (SO.b (s_lst (g_cons (SO.f (s_op o_sub (SO.b (s_callO (g_cons (s_varF (by rfl)) (g_cons (SO.f s_int) g_nil)))) (SO.b s_int))) (g_cons (SO.f (s_op o_sub (SO.b (s_op o_pow (SO.b s_int) (SO.b s_int))) (SO.b s_int))) (g_cons (SO.f (s_op o_sub (SO.b s_int) (SO.b (s_op o_pow (SO.b s_int) (SO.b s_int))))) (g_cons (SO.f s_int) g_nil)))))) (SO.b (s_callO (g_cons (s_varF (by rfl)) (g_cons (SO.f s_int) g_nil))))))
      (x_seq (x_asgO (i := 4) (s_lst (g_cons (SO.f s_str) (g_cons (SO.f s_str) (g_cons (SO.f s_str) (g_cons (SO.f s_str) (g_cons (SO.f s_str) (g_cons (SO.f s_str) (g_cons (SO.f s_str) (g_cons (SO.f s_str) g_nil))))))))))
      (x_seq (x_asgF (i := 5) (s_opF o_ix (SO.b (s_lst (g_cons (SO.f s_int) (g_cons (SO.f s_int) (g_cons (SO.f s_int) (g_cons (SO.f s_int) (g_cons (SO.f s_int) g_nil))))))) (SO.b (s_callO (g_cons (s_varF (by rfl)) (g_cons (SO.f s_int) g_nil))))))
      (x_seq (x_asgO (i := 6) (s_callO (g_cons (s_varF (by rfl)) (g_cons (SO.f s_int) g_nil))))
      (x_seq (x_asgF (i := 7) (s_opF o_ix (SO.b (s_lst (g_cons (SO.f s_int) (g_cons (SO.f s_int) (g_cons (SO.f s_int) (g_cons (SO.f s_int) (g_cons (SO.f s_int) g_nil))))))) (SO.b (s_callO (g_cons (s_varF (by rfl)) (g_cons (SO.f s_int) g_nil))))))
      (x_seq (x_asgO (i := 8) (s_lst g_nil))
      (x_seq (x_for (Γ' := [.F, .F, .F, .F, .O, .F, .O, .F, .O, .F, .F, .F]) (ws := [2, 9, 10, 11]) (i_rng1 (g_cons (s_varF (by rfl)) g_nil)) (tg_name (is := [9]) (by rfl) (by decide))
      (x_post (Γ1 := [.F, .F, .F, .F, .O, .F, .O, .F, .O, .F, .O, .F]) (Γn := [.F, .F, .F, .F, .O, .F, .O, .F, .O, .F, .F, .F]) (x_seq (x_asgO (i := 10) (s_callO (g_cons (s_varF (by rfl)) (g_cons (s_varF (by rfl)) g_nil))))
      (x_seq (x_asgF (i := 11) (s_opF o_ix (SO.b (s_lst (g_cons (SO.f (s_op o_add (SF.b (s_varF (by rfl))) (SO.b (s_op o_mod (s_varB (t := .O) (by rfl)) (SO.b s_int))))) (g_cons (s_opF o_ix (s_varB (t := .O) (by rfl)) (SO.b (s_op o_mod (SO.b (s_op o_add (s_varB (t := .O) (by rfl)) (s_varB (t := .O) (by rfl)))) (SO.b s_int)))) g_nil)))) (SO.b (s_cb l_int (a_cons (SO.b (s_op o_eq (SF.b (s_varF (by rfl))) (SO.b s_str))) a_nil)))))
      (x_seq (x_if (Γn := [.F, .F, .F, .F, .O, .F, .O, .F, .O, .F, .O, .F]) (s_and (s_test (SO.b (s_op o_gt (SF.b (s_varF (by rfl))) (SO.b s_int)))) (s_test (SO.b (s_op o_eq (SO.b (s_callO (g_cons (s_varF (by rfl)) (g_cons (s_varF (by rfl)) g_nil)))) (SO.b s_int)))))
      (x_post (Γ1 := [.F, .F, .F, .F, .O, .F, .O, .F, .O, .F, .O, .O]) (Γn := [.F, .F, .F, .F, .O, .F, .O, .F, .O, .F, .O, .F]) (x_asgO (i := 11) s_non))
      x_next)
      (x_app (by rfl) (s_varF (by rfl))))))))
      (x_retV (by rfl)))))))))) hv
def t_some_cells (K : PySem.W.Frag) (s_take_ : Sp) (s_cells_ : Sp) (s_near_cells_ : Sp) : TS :=
      (tSeq (tIfS (tTest (tOp (rEqU K) (tCall s_take_ [] E0 (tCons (tVar 0) (tCons (tC (.int 2)) tNil))) (tC (.int 0))))
      (tRet (tCall s_cells_ [] E0 (tCons (tVar 0) (tCons (tVar 1) (tCons (tVar 2) tNil)))))
      tNext)
      (tRet (tCall s_near_cells_ [] E0 (tCons (tVar 0) (tCons (tVar 1) (tCons (tVar 2) tNil))))))
abbrev N_some_cells : List Str := [("_law_state" : Str), ("_law_kind_here" : Str), ("_law_many" : Str)]
def v_some_cells (K : PySem.W.Frag) (vs_take : VSp) (vs_cells : VSp) (vs_near_cells : VSp) : VS :=
      (vSeqS (vIf (vTest (vOp vEqC (vCall vs_take (vCons (vVar 0) (vCons (vC (.int 2)) vNil))) (vC (.int 0))))
      (vRet (vCall vs_cells (vCons (vVar 0) (vCons (vVar 1) (vCons (vVar 2) vNil)))))
      vNext)
      (vRet (vCall vs_near_cells (vCons (vVar 0) (vCons (vVar 1) (vCons (vVar 2) vNil))))))
theorem sim_some_cells {K : PySem.W.Frag} {vs_take : VSp} {vs_cells : VSp} {vs_near_cells : VSp} {vsp : VSp} (hv : ∀ ds m P VX, vsp ds m P VX → ds.length = 3 ∧ v_some_cells K vs_take vs_cells vs_near_cells (vends P) (vstart N_some_cells.length ds) m) :
    ∀ us H Q E, spV K .O vsp us H Q E → t_some_cells K (spV K .O vs_take) (spV K .O vs_cells) (spV K .O vs_near_cells) { nx := fun _ H' => Q .non H', rt := Q } (L2.start N_some_cells us) H :=
  sim_def (n := 3) (t := .O) (N := N_some_cells) (Γn := [.F, .F, .F]) (Γb := []) (Γc := []) (ts := fun E => t_some_cells K (spV K .O vs_take) (spV K .O vs_cells) (spV K .O vs_near_cells)) (vs := fun VX => v_some_cells K vs_take vs_cells vs_near_cells) (by decide) (fun c W VX hK hx => by
    subst hK
    exact (x_seq (x_if (Γn := [.F, .F, .F]) (s_test (SO.b (s_op o_eq (SO.b (s_callO (g_cons (s_varF (by rfl)) (g_cons (SO.f s_int) g_nil)))) (SO.b s_int))))
      (x_retO (s_callO (g_cons (s_varF (by rfl)) (g_cons (s_varF (by rfl)) (g_cons (s_varF (by rfl)) g_nil)))))
      x_next)
      (x_retO (s_callO (g_cons (s_varF (by rfl)) (g_cons (s_varF (by rfl)) (g_cons (s_varF (by rfl)) g_nil))))))) hv
def t_value (K : PySem.W.Frag) (s_take_ : Sp) (s_text_ : Sp) (s_number_ : Sp) : TS :=
      (tSeq (tAsg (tLc (iSeqV K (tVar 2)) (gName 3) (tTest (tOp (rNotN) (tVar 3) (tC .non))) (tVar 3) [3]) (gName 4))
      (tSeq (tAsg (tCall s_take_ [] E0 (tCons (tVar 0) (tCons (tC (.int 6)) tNil))) (gName 5))
      (tSeq (tIfS (tTest (tOp (rEqU K) (tVar 1) (tC (.str ("text" : Str)))))
      (tSeq (tIfS (tAnd (tTest (tOp (rLtU K) (tVar 5) (tC (.int 4)))) (tTest (tOp (rGtV) (tCB (rLenU K) (tCons (tVar 4) tNil)) (tC (.int 0)))))
      (tRet (tSl (rSlU K) (tOp (rAddU K) (tOp (rIxU K) (tVar 4) (tCall s_take_ [] E0 (tCons (tVar 0) (tCons (tCB (rLenU K) (tCons (tVar 4) tNil)) tNil)))) (tOp (rIxU K) (tLst (tCons (tC (.str ("" : Str))) (tCons (tC (.str ("" : Str))) (tCons (tC (.str (" " : Str))) (tCons (tC (.str ("a" : Str))) tNil))))) (tVar 5))) tNoPart (tPart (tC (.int 20)))))
      tNext)
      (tRet (tCall s_text_ [] E0 (tCons (tVar 0) tNil))))
      tNext)
      (tSeq (tIfS (tAnd (tTest (tOp (rLtU K) (tVar 5) (tC (.int 4)))) (tTest (tOp (rGtV) (tCB (rLenU K) (tCons (tVar 4) tNil)) (tC (.int 0)))))
      (tSeq (tAsg (tOp (rAddU K) (tOp (rIxU K) (tVar 4) (tCall s_take_ [] E0 (tCons (tVar 0) (tCons (tCB (rLenU K) (tCons (tVar 4) tNil)) tNil)))) (tOp (rIxU K) (tLst (tCons (tC (.int 0)) (tCons (tC (.int 0)) (tCons (tC (.int 1)) (tCons (tUn rNeg (tC (.int 1))) tNil))))) (tVar 5))) (gName 6))
      (tRet (tCB (rMin2) (tCons (tOp (rSubU) (tOp (rPowU) (tC (.int 10)) (tC (.int 18))) (tC (.int 1))) (tCons (tCB (rMax2) (tCons (tOp (rSubU) (tC (.int 1)) (tOp (rPowU) (tC (.int 10)) (tC (.int 18)))) (tCons (tVar 6) tNil))) tNil)))))
      tNext)
      (tRet (tCall s_number_ [] E0 (tCons (tVar 0) tNil)))))))
abbrev N_value : List Str := [("_law_state" : Str), ("_law_kind_here" : Str), ("_law_cells_here" : Str), ("_law_cell" : Str), ("_law_known" : Str), ("_law_way" : Str), ("_law_number_here" : Str)]
def v_value (K : PySem.W.Frag) (vs_take : VSp) (vs_text : VSp) (vs_number : VSp) : VS :=
      (vSeqS (vAsg (vLc (vSeq (vVar 2)) (vgName 3) (vTest (vOp vNotN (vVar 3) (vC .non))) (vVar 3) [3]) (vgName 4))
      (vSeqS (vAsg (vCall vs_take (vCons (vVar 0) (vCons (vC (.int 6)) vNil))) (vgName 5))
      (vSeqS (vIf (vTest (vOp vEqC (vVar 1) (vC (.str ("text" : Str)))))
      (vSeqS (vIf (vAnd (vTest (vOp vLt (vVar 5) (vC (.int 4)))) (vTest (vOp vGt (vCB vLen (vCons (vVar 4) vNil)) (vC (.int 0)))))
      (vRet (vSl vCut (vOp vAdd (vOp vIx (vVar 4) (vCall vs_take (vCons (vVar 0) (vCons (vCB vLen (vCons (vVar 4) vNil)) vNil)))) (vOp vIx (vLst (vCons (vC (.str ("" : Str))) (vCons (vC (.str ("" : Str))) (vCons (vC (.str (" " : Str))) (vCons (vC (.str ("a" : Str))) vNil))))) (vVar 5))) vNoPart (vPart (vC (.int 20)))))
      vNext)
      (vRet (vCall vs_text (vCons (vVar 0) vNil))))
      vNext)
      (vSeqS (vIf (vAnd (vTest (vOp vLt (vVar 5) (vC (.int 4)))) (vTest (vOp vGt (vCB vLen (vCons (vVar 4) vNil)) (vC (.int 0)))))
      (vSeqS (vAsg (vOp vAdd (vOp vIx (vVar 4) (vCall vs_take (vCons (vVar 0) (vCons (vCB vLen (vCons (vVar 4) vNil)) vNil)))) (vOp vIx (vLst (vCons (vC (.int 0)) (vCons (vC (.int 0)) (vCons (vC (.int 1)) (vCons (vUn vNeg (vC (.int 1))) vNil))))) (vVar 5))) (vgName 6))
      (vRet (vCB vMin2 (vCons (vOp vSub (vOp vPow (vC (.int 10)) (vC (.int 18))) (vC (.int 1))) (vCons (vCB vMax2 (vCons (vOp vSub (vC (.int 1)) (vOp vPow (vC (.int 10)) (vC (.int 18)))) (vCons (vVar 6) vNil))) vNil)))))
      vNext)
      (vRet (vCall vs_number (vCons (vVar 0) vNil)))))))
theorem sim_value {K : PySem.W.Frag} {vs_take : VSp} {vs_text : VSp} {vs_number : VSp} {vsp : VSp} (hv : ∀ ds m P VX, vsp ds m P VX → ds.length = 3 ∧ v_value K vs_take vs_text vs_number (vends P) (vstart N_value.length ds) m) :
    ∀ us H Q E, spV K .F vsp us H Q E → t_value K (spV K .O vs_take) (spV K .F vs_text) (spV K .O vs_number) { nx := fun _ H' => Q .non H', rt := Q } (L2.start N_value us) H :=
  sim_def (n := 3) (t := .F) (N := N_value) (Γn := [.F, .F, .F, .F, .F, .F, .F]) (Γb := []) (Γc := []) (ts := fun E => t_value K (spV K .O vs_take) (spV K .F vs_text) (spV K .O vs_number)) (vs := fun VX => v_value K vs_take vs_text vs_number) (by decide) (fun c W VX hK hx => by
    subst hK
    exact (x_seq (x_asgO (i := 4) (s_lc (vs := [3]) (i_seq (s_varF (by rfl))) (by rfl) (tg_name (is := [3]) (by rfl) (by decide)) (s_test (SO.b (s_op o_notN (SF.b (s_varF (by rfl))) (SO.b s_non)))) (s_varF (by rfl))))
      (x_seq (x_asgO (i := 5) (s_callO (g_cons (s_varF (by rfl)) (g_cons (SO.f s_int) g_nil))))
      (x_seq (x_if (Γn := [.F, .F, .F, .F, .O, .O, .F]) (s_test (SO.b (s_op o_eq (SF.b (s_varF (by rfl))) (SO.b s_str))))
      (x_seq (x_if (Γn := [.F, .F, .F, .F, .O, .O, .F]) (s_and (s_test (SO.b (s_op o_lt (s_varB (t := .O) (by rfl)) (SO.b s_int)))) (s_test (SO.b (s_op o_gt (SO.b (s_cb l_len (a_cons (s_varB (t := .O) (by rfl)) a_nil))) (SO.b s_int)))))
      (x_retF (SO.f (s_sl o_cut (SO.b (s_op o_add (SF.b (s_opF o_ix (s_varB (t := .O) (by rfl)) (SO.b (s_callO (g_cons (s_varF (by rfl)) (g_cons (SO.f (s_cb l_len (a_cons (s_varB (t := .O) (by rfl)) a_nil))) g_nil)))))) (SF.b (s_opF o_ix (SO.b (s_lst (g_cons (SO.f s_str) (g_cons (SO.f s_str) (g_cons (SO.f s_str) (g_cons (SO.f s_str) g_nil)))))) (s_varB (t := .O) (by rfl)))))) s_nopart (s_part (SO.b s_int)))))
      x_next)
      (x_retF (s_callF (g_cons (s_varF (by rfl)) g_nil))))
      x_next)
      (x_seq (x_if (Γn := [.F, .F, .F, .F, .O, .O, .F]) (s_and (s_test (SO.b (s_op o_lt (s_varB (t := .O) (by rfl)) (SO.b s_int)))) (s_test (SO.b (s_op o_gt (SO.b (s_cb l_len (a_cons (s_varB (t := .O) (by rfl)) a_nil))) (SO.b s_int)))))
      (x_seq (x_asgO (i := 6) (s_op o_add (SF.b (s_opF o_ix (s_varB (t := .O) (by rfl)) (SO.b (s_callO (g_cons (s_varF (by rfl)) (g_cons (SO.f (s_cb l_len (a_cons (s_varB (t := .O) (by rfl)) a_nil))) g_nil)))))) (SF.b (s_opF o_ix (SO.b (s_lst (g_cons (SO.f s_int) (g_cons (SO.f s_int) (g_cons (SO.f s_int) (g_cons (SO.f (s_un o_neg (SO.b s_int))) g_nil)))))) (s_varB (t := .O) (by rfl))))))
      (x_retF (SO.f (s_cb l_min2 (a_cons (SO.b (s_op o_sub (SO.b (s_op o_pow (SO.b s_int) (SO.b s_int))) (SO.b s_int))) (a_cons (SO.b (s_cb l_max2 (a_cons (SO.b (s_op o_sub (SO.b s_int) (SO.b (s_op o_pow (SO.b s_int) (SO.b s_int))))) (a_cons (s_varB (t := .O) (by rfl)) a_nil)))) a_nil))))))
      x_next)
      (x_retF (SO.f (s_callO (g_cons (s_varF (by rfl)) g_nil))))))))) hv
def t_test (K : PySem.W.Frag) (s_take_ : Sp) (s_value_ : Sp) : TS :=
      (tSeq (tAsg (tOp (rIxU K) (tLst (tCons (tC (.str ("=" : Str))) (tCons (tC (.str ("<>" : Str))) (tCons (tC (.str ("<" : Str))) (tCons (tC (.str ("<=" : Str))) (tCons (tC (.str (">" : Str))) (tCons (tC (.str (">=" : Str))) (tCons (tC (.str ("open" : Str))) (tCons (tC (.str ("among" : Str))) tNil))))))))) (tCall s_take_ [] E0 (tCons (tVar 0) (tCons (tC (.int 8)) tNil)))) (gName 3))
      (tSeq (tIfS (tTest (tOp (rEqU K) (tVar 3) (tC (.str ("open" : Str)))))
      (tRet (tTup (tCons (tC (.str ("open" : Str))) tNil)))
      tNext)
      (tSeq (tIfS (tTest (tOp (rEqU K) (tVar 3) (tC (.str ("among" : Str)))))
      (tSeq (tAsg (tOp (rIxU K) (tLst (tCons (tC (.int 0)) (tCons (tC (.int 1)) (tCons (tC (.int 2)) (tCons (tC (.int 4)) (tCons (tC (.int 9)) tNil)))))) (tCall s_take_ [] E0 (tCons (tVar 0) (tCons (tC (.int 5)) tNil)))) (gName 4))
      (tRet (tTup (tCons (tC (.str ("among" : Str))) (tCons (tLc (iRng1 (tCons (tVar 4) tNil)) (gName 5) tYes (tCall s_value_ [] E0 (tCons (tVar 0) (tCons (tVar 1) (tCons (tVar 2) tNil)))) [5]) tNil)))))
      tNext)
      (tRet (tTup (tCons (tVar 3) (tCons (tCall s_value_ [] E0 (tCons (tVar 0) (tCons (tVar 1) (tCons (tVar 2) tNil)))) tNil)))))))
abbrev N_test : List Str := [("_law_state" : Str), ("_law_kind_here" : Str), ("_law_cells_here" : Str), ("_law_word" : Str), ("_law_many" : Str), ("_law_k" : Str)]
def v_test (K : PySem.W.Frag) (vs_take : VSp) (vs_value : VSp) : VS :=
      (vSeqS (vAsg (vOp vIx (vLst (vCons (vC (.str ("=" : Str))) (vCons (vC (.str ("<>" : Str))) (vCons (vC (.str ("<" : Str))) (vCons (vC (.str ("<=" : Str))) (vCons (vC (.str (">" : Str))) (vCons (vC (.str (">=" : Str))) (vCons (vC (.str ("open" : Str))) (vCons (vC (.str ("among" : Str))) vNil))))))))) (vCall vs_take (vCons (vVar 0) (vCons (vC (.int 8)) vNil)))) (vgName 3))
      (vSeqS (vIf (vTest (vOp vEqC (vVar 3) (vC (.str ("open" : Str)))))
      (vRet (vTup (vCons (vC (.str ("open" : Str))) vNil)))
      vNext)
      (vSeqS (vIf (vTest (vOp vEqC (vVar 3) (vC (.str ("among" : Str)))))
      (vSeqS (vAsg (vOp vIx (vLst (vCons (vC (.int 0)) (vCons (vC (.int 1)) (vCons (vC (.int 2)) (vCons (vC (.int 4)) (vCons (vC (.int 9)) vNil)))))) (vCall vs_take (vCons (vVar 0) (vCons (vC (.int 5)) vNil)))) (vgName 4))
      (vRet (vTup (vCons (vC (.str ("among" : Str))) (vCons (vLc (vRng1 (vCons (vVar 4) vNil)) (vgName 5) vYes (vCall vs_value (vCons (vVar 0) (vCons (vVar 1) (vCons (vVar 2) vNil)))) [5]) vNil)))))
      vNext)
      (vRet (vTup (vCons (vVar 3) (vCons (vCall vs_value (vCons (vVar 0) (vCons (vVar 1) (vCons (vVar 2) vNil)))) vNil)))))))
theorem sim_test {K : PySem.W.Frag} {vs_take : VSp} {vs_value : VSp} {vsp : VSp} (hv : ∀ ds m P VX, vsp ds m P VX → ds.length = 3 ∧ v_test K vs_take vs_value (vends P) (vstart N_test.length ds) m) :
    ∀ us H Q E, spV K .O vsp us H Q E → t_test K (spV K .O vs_take) (spV K .F vs_value) { nx := fun _ H' => Q .non H', rt := Q } (L2.start N_test us) H :=
  sim_def (n := 3) (t := .O) (N := N_test) (Γn := [.F, .F, .F, .F, .F, .F]) (Γb := []) (Γc := []) (ts := fun E => t_test K (spV K .O vs_take) (spV K .F vs_value)) (vs := fun VX => v_test K vs_take vs_value) (by decide) (fun c W VX hK hx => by
    subst hK
    exact (x_seq (x_asgF (i := 3) (s_opF o_ix (SO.b (s_lst (g_cons (SO.f s_str) (g_cons (SO.f s_str) (g_cons (SO.f s_str) (g_cons (SO.f s_str) (g_cons (SO.f s_str) (g_cons (SO.f s_str) (g_cons (SO.f s_str) (g_cons (SO.f s_str) g_nil)))))))))) (SO.b (s_callO (g_cons (s_varF (by rfl)) (g_cons (SO.f s_int) g_nil))))))
      (x_seq (x_if (Γn := [.F, .F, .F, .F, .F, .F]) (s_test (SO.b (s_op o_eq (SF.b (s_varF (by rfl))) (SO.b s_str))))
      (x_retO (s_tup (g_cons (SO.f s_str) g_nil)))
      x_next)
      (x_seq (x_if (Γn := [.F, .F, .F, .F, .F, .F]) (s_test (SO.b (s_op o_eq (SF.b (s_varF (by rfl))) (SO.b s_str))))
      (x_seq (x_asgF (i := 4) (s_opF o_ix (SO.b (s_lst (g_cons (SO.f s_int) (g_cons (SO.f s_int) (g_cons (SO.f s_int) (g_cons (SO.f s_int) (g_cons (SO.f s_int) g_nil))))))) (SO.b (s_callO (g_cons (s_varF (by rfl)) (g_cons (SO.f s_int) g_nil))))))
      (x_retO (s_tup (g_cons (SO.f s_str) (g_cons (SO.f (s_lc (vs := [5]) (i_rng1 (g_cons (s_varF (by rfl)) g_nil)) (by rfl) (tg_name (is := [5]) (by rfl) (by decide)) s_yes (s_callF (g_cons (s_varF (by rfl)) (g_cons (s_varF (by rfl)) (g_cons (s_varF (by rfl)) g_nil)))))) g_nil)))))
      x_next)
      (x_retO (s_tup (g_cons (s_varF (by rfl)) (g_cons (s_callF (g_cons (s_varF (by rfl)) (g_cons (s_varF (by rfl)) (g_cons (s_varF (by rfl)) g_nil)))) g_nil)))))))) hv
def wKind : VSp := fun ds m P _ => ∃ (x : Addr) (r : Nat) (s0 : Sto), ds = [.adr x] ∧ m = (some (x, r), s0) ∧ 1 ≤ r ∧ ∀ (k : Kd) (r' : Nat), r ≤ r' + 1 → P (kdD k) ((some (x, r'), s0))
theorem p_kind {K : PySem.W.Frag} (ds : List D) (m : Mst) (P : D → Mst → Prop) (VX : XV) (h : wKind ds m P VX) : ds.length = 1 ∧ v_kind K vTake (vends P) (vstart N_kind.length ds) m := by
  obtain ⟨x, r, s0, rfl, rfl, hr, k⟩ := h
  refine ⟨rfl, ?_⟩
  unfold v_kind
  walk_at "vv"
  refine e_take (by omega) (by decide) (by decide) fun z1 r1 h1 h2 hr1 => ?_
  walk_at "vv"
  rcases (show z1 / 2 = 0 ∨ z1 / 2 = 1 by omega) with e | e
  · rw [e]
    exact e_ixL (x := kdD .num) rfl (k .num r1 (by omega))
  · rw [e]
    exact e_ixL (x := kdD .txt) rfl (k .txt r1 (by omega))
def wCells : VSp := fun ds m P _ => ∃ (x : Addr) (r : Nat) (s0 : Sto) (n : Nat) (k : Kd), ds = [.adr x, kdD k, .int n] ∧ n ≤ 10000 ∧ m = (some (x, r), s0) ∧ 300 + 12 * n ≤ r ∧ ∀ (cs : List D) (r' : Nat), cs.length = n → (∀ c ∈ cs, CellK k c) → r ≤ r' + (300 + 12 * n) → P (.lst cs) ((some (x, r'), s0))
theorem atI_last {α : Type} (l : List α) (x : α) : L2.atI (l ++ [x]) (-1) = some x := by
  unfold L2.atI ixN
  rw [if_neg (by decide), List.length_append, List.length_singleton, if_pos (by omega)]
  show (l ++ [x])[(-1 + ((l.length + 1 : Nat) : Int)).toNat]? = _
  rw [show (-1 + ((l.length + 1 : Nat) : Int)).toNat = l.length by omega, List.getElem?_append_right (Nat.le_refl _), Nat.sub_self]
  rfl
theorem val_num {z : Int} (h : z.natAbs < 2 ^ 100) : Val .num (.int z) := ⟨z, rfl, h⟩
theorem val_txt {z : Str} (h : IsT 20 z) : Val .txt (.str z) := by
  obtain ⟨ks, rfl, hl, hk⟩ := h
  exact ⟨_, rfl, ks, rfl, by omega, hk⟩
theorem val_any {K : PySem.W.Frag} {x : Addr} {r : Nat} {k : Kd} {env : Env} {P : D → Mst → Prop} (hr : 30 ≤ r) (he : env[0]? = some (some (.adr x))) (h : ∀ (d : D) (r' : Nat), Val k d → r ≤ r' + 30 → P d ((some (x, r'), s0))) :
    if k.isT = true then vCall wText (vCons (vVar 0) vNil) env ((some (x, r), s0)) P else vCall wNumber (vCons (vVar 0) vNil) env ((some (x, r), s0)) P := by
  cases k with
  | num => exact e_call (e_cons (e_var he (e_nil ⟨x, r, s0, rfl, rfl, by omega, fun n r' hn hr' => h _ r' (val_num (Nat.lt_trans hn (by decide))) (by omega)⟩)))
  | txt => exact e_call (e_cons (e_var he (e_nil ⟨x, r, s0, rfl, rfl, by omega, fun z r' hz hr' => h _ r' (val_txt hz) (by omega)⟩)))
theorem p_cells {K : PySem.W.Frag} (ds : List D) (m : Mst) (P : D → Mst → Prop) (VX : XV) (h : wCells ds m P VX) : ds.length = 3 ∧ v_cells K vTake wText wNumber (vends P) (vstart N_cells.length ds) m := by
  obtain ⟨x, r, s0, n, k, rfl, hn, rfl, hr, hP⟩ := h
  refine ⟨rfl, ?_⟩
  unfold v_cells
  walk_at "vv"
  refine e_take (by omega) (by decide) (by decide) fun way r1 h1 h2 hr1 => ?_
  walk_at "vv"
  refine e_take (by omega) (by decide) (by decide) fun z2 r2 h3 h4 hr2 => ?_
  obtain ⟨open_, hm, em⟩ := at_litD [(0 : Int), 4, 9] h3 h4
  refine e_ixL em ?_
  walk_at "vv"
  refine e_take (by omega) (by decide) (by decide) fun z3 r3 h5 h6 hr3 => ?_
  obtain ⟨l, rfl⟩ : ∃ l : Nat, z3 = (l : Int) := ⟨z3.toNat, by omega⟩
  walk_at "vv"
  rw [show (1 : Int) + (l : Int) = ((1 + l : Nat) : Int) by push_cast; rfl]
  refine e_itR (by omega) ?_
  refine ⟨fun i acc m' => i ≤ 1 + l ∧ acc.length = i ∧ (∀ c ∈ acc, Val k c) ∧ ∃ r', m' = (some (x, r'), s0) ∧ r3 ≤ r' + 30 * i, ⟨by omega, rfl, by simp, r3, rfl, by omega⟩, ?_, ?_⟩
  · rintro i acc m' d ⟨hi0, hl, hv, r4, rfl, hr4⟩ ed
    obtain ⟨hi, rfl⟩ := rangeD_at ed
    walk_at "vv"
    walk_at "ve"
    refine val_any (K := K) (by omega) rfl fun d r5 hd hr5 => ⟨sz_lt (by omega), by omega, by simp [hl], fun c hc => ?_, r5, rfl, by omega⟩
    rcases List.mem_append.mp hc with hc | hc
    · exact hv c hc
    · rw [List.mem_singleton.mp hc]; exact hd
  · rintro ss m' ⟨hi0, hsl, hv, r4, rfl, hr4⟩
    rw [rangeD_len] at hsl hr4
    walk_at "vv"
    refine e_take (by omega) (by decide) (by decide) fun z4 r5 h7 h8 hr5 => ?_
    walk_at "vv"
    refine e_powI ⟨by decide, by decide, by decide⟩ ?_
    rw [show (10 : Int) ^ (6 : Int).toNat = 1000000 from rfl]
    walk_at "vv"
    refine e_take (by omega) (by decide) (by decide) fun z5 r6 h9 h10 hr6 => ?_
    walk_at "vv"
    refine e_take (by omega) (by decide) (by decide) fun z6 r7 h11 h12 hr7 => ?_
    obtain ⟨step, hstep, estep⟩ := at_litD [z4 - 4, z5] h11 h12
    refine e_ixL estep ?_
    have hst : step.natAbs ≤ 1000000 := by simp at hstep; omega
    walk_at "vv"
    refine e_itR (by omega) ?_
    refine for_inv (fun i e m' => i ≤ n ∧ ∃ (acc : List D) (r' : Nat), e = [some (.adr x), some (kdD k), none, some (.int way), some (.int open_), none, some (.lst ss), some (.int step), some (.lst acc), none, none] ∧ acc.length = i ∧ (∀ c ∈ acc, CellK k c) ∧ m' = (some (x, r'), s0) ∧ r7 ≤ r' + 12 * i) ⟨by omega, [], r7, rfl, rfl, by simp, rfl, by omega⟩ ?_ ?_
    · rintro i e m' d hi ⟨_, acc, r8, rfl, hal, hac, rfl, hr8⟩ ed
      obtain ⟨hi, rfl⟩ := rangeD_at ed
      rw [Int.zero_add]
      walk_at "vv"
      refine e_take (by omega) (by omega) (by omega) fun z7 r9 h13 h14 hr9 => ?_
      obtain ⟨c0, hc0, ec0⟩ := atI_lt (l := ss) h13 h14
      refine e_ixL ec0 ?_
      have hv0 := hv c0 hc0
      walk_at "vv"
      with_reducible refine e_seqO fun N hN => ?_
      have fin : ∀ (c : D) (r' : Nat), CellK k c → r9 ≤ r' + 9 → N [some (.adr x), some (kdD k), none, some (.int way), some (.int open_), none, some (.lst ss), some (.int step), some (.lst acc), some (.int (i : Int)), some c] ((some (x, r'), s0)) := by
        intro c r10 hc hr10
        refine hN _ _ ?_
        have app : ∀ (c : D) (r' : Nat), CellK k c → r9 ≤ r' + 10 → i + 1 ≤ n ∧ ∃ (acc' : List D) (r'' : Nat), [some (D.adr x), some (kdD k), none, some (.int way), some (.int open_), none, some (.lst ss), some (.int step), some (.lst (acc ++ [c])), none, none] = [some (.adr x), some (kdD k), none, some (.int way), some (.int open_), none, some (.lst ss), some (.int step), some (.lst acc'), none, none] ∧ acc'.length = i + 1 ∧ (∀ c ∈ acc', CellK k c) ∧ ((some (x, r'), s0) : Mst) = (some (x, r''), s0) ∧ r7 ≤ r'' + 12 * (i + 1) := fun c r' hc hr' => by
          refine ⟨by omega, acc ++ [c], r', rfl, by simp [hal], fun u hu => ?_, rfl, by omega⟩
          rcases List.mem_append.mp hu with hu | hu
          · exact hac u hu
          · rw [List.mem_singleton.mp hu]; exact hc
        walk_at "vi"
        refine w_ifd (fun q1 => ?_) (fun q1 => ?_)
        · walk_at "vv"
          refine w_ifn (fun q2 => ?_) (fun q2 => ?_)
          · walk_at "vv"
            have ho : open_ = 4 ∨ open_ = 9 := by simp at hm; omega
            refine e_take (by omega) (by omega) (by omega) fun z8 r11 h15 h16 hr11 => ?_
            walk_at "vv"
            refine w_ifd (fun q3 => ?_) (fun q3 => ?_)
            · walk_at "vv"
              exact ⟨sz_lt (by omega), app .non r11 (.inl rfl) (by omega)⟩
            · walk_at "vv"
              exact ⟨sz_lt (by omega), app c r11 hc (by omega)⟩
          · walk_at "vv"
            exact ⟨sz_lt (by omega), app c r10 hc (by omega)⟩
        · walk_at "vv"
          exact ⟨sz_lt (by omega), app c r10 hc (by omega)⟩
      have other : ∀ (V : VEnds) (r' : Nat), V.nx = N → r9 ≤ r' + 1 → vIf (vAnd (vTest (vOp vEqC (vVar 3) (vC (.int 2)))) (vTest (vOp vEqC (vVar 1) (vC (.str ("number" : Str))))))
          (vAsg (vOp vAdd (vOp vMod (vOp vIx (vVar 6) (vC (.int 0))) (vOp vPow (vC (.int 10)) (vC (.int 12)))) (vOp vMul (vVar 9) (vVar 7))) (vgName 10))
          (vIf (vAnd (vTest (vOp vEqC (vVar 3) (vC (.int 3)))) (vTest (vOp vEqC (vVar 1) (vC (.str ("number" : Str))))))
          (vAsg (vCall wNumber (vCons (vVar 0) vNil)) (vgName 10))
          vNext) V [some (.adr x), some (kdD k), none, some (.int way), some (.int open_), none, some (.lst ss), some (.int step), some (.lst acc), some (.int (i : Int)), some c0] ((some (x, r'), s0)) := by
        intro V r10 hV hr10
        have third : vIf (vAnd (vTest (vOp vEqC (vVar 3) (vC (.int 3)))) (vTest (vOp vEqC (vVar 1) (vC (.str ("number" : Str))))))
          (vAsg (vCall wNumber (vCons (vVar 0) vNil)) (vgName 10))
          vNext V [some (.adr x), some (kdD k), none, some (.int way), some (.int open_), none, some (.lst ss), some (.int step), some (.lst acc), some (.int (i : Int)), some c0] ((some (x, r10), s0)) := by
          refine e_if (e_and (e_test (e_op (e_var rfl (e_c ?_)))))
          walk_at "vv"
          refine w_ifd (fun q1 => ?_) (fun q1 => ?_)
          · walk_at "vv"
            cases hk : k with
            | num =>
              subst hk
              refine w_ifT ?_
              walk_at "vv"
              refine ⟨x, r10, s0, rfl, rfl, by omega, fun z r11 hz hr11 => ?_⟩
              walk_at "vv"
              rw [hV]
              exact fin _ r11 (.inr (val_num (Nat.lt_trans hz (by decide)))) (by omega)
            | txt =>
              subst hk
              refine w_ifF ?_
              walk_at "vv"
              rw [hV]
              exact fin c0 r10 (.inr hv0) (by omega)
          · walk_at "vv"
            rw [hV]
            exact fin c0 r10 (.inr hv0) (by omega)
        refine e_if (e_and (e_test (e_op (e_var rfl (e_c ?_)))))
        walk_at "vv"
        refine w_ifd (fun q1 => ?_) (fun q1 => ?_)
        · walk_at "vv"
          cases hk : k with
          | num =>
            subst hk
            refine w_ifT ?_
            obtain ⟨c1, hc1, ec1⟩ := atI_lt (l := ss) (v := 0) (by decide) (by omega)
            obtain ⟨z, rfl, hz⟩ := hv c1 hc1
            walk_at "vv"
            refine e_ixL ec1 ?_
            walk_at "vv"
            refine e_powI ⟨by decide, by decide, by decide⟩ ?_
            rw [show (10 : Int) ^ (12 : Int).toNat = 1000000000000 from rfl]
            walk_at "vv"
            refine e_mulI (.inl (.inl ⟨by omega, by omega⟩)) ?_
            walk_at "vv"
            rw [hV]
            refine fin _ r10 (.inr (val_num ?_)) (by omega)
            have hmul : ((i : Int) * step).natAbs ≤ 10000 * 1000000 := by
              rw [Int.natAbs_mul, Int.natAbs_natCast]
              exact Nat.mul_le_mul (by omega) hst
            have : (z % 1000000000000 + (i : Int) * step).natAbs ≤ 10000000000000 := by omega
            exact Nat.lt_of_le_of_lt this (by decide)
          | txt =>
            subst hk
            refine w_ifF ?_
            exact third
        · refine w_ifF ?_
          exact third
      refine e_if (e_and (e_test (e_op (e_var rfl (e_c ?_)))))
      walk_at "vv"
      refine w_ifd (fun q1 => ?_) (fun q1 => ?_)
      · walk_at "vv"
        refine w_ifd (fun q2 => ?_) (fun q2 => ?_)
        · walk_at "vv"
          refine e_take (by omega) (by decide) (by decide) fun z8 r10 h15 h16 hr10 => ?_
          walk_at "vv"
          refine w_ifd (fun q3 => ?_) (fun q3 => ?_)
          · walk_at "vv"
            have hne : acc ≠ [] := fun e => by rw [e] at hal; simp at hal; omega
            obtain ⟨r, c1, rfl⟩ : ∃ r c1, acc = r ++ [c1] := ⟨acc.dropLast, acc.getLast hne, (List.dropLast_concat_getLast hne).symm⟩
            refine e_ixL (x := c1) (atI_last _ _) ?_
            walk_at "vv"
            exact fin c1 r10 (hac c1 (by simp)) (by omega)
          · exact other _ r10 rfl (by omega)
        · refine w_ifF ?_
          exact other _ r9 rfl (by omega)
      · refine w_ifF ?_
        exact other _ r9 rfl (by omega)
    · rintro e m' ⟨_, acc, r8, rfl, hal, hac, rfl, hr8⟩
      rw [rangeD_len] at hal hr8
      walk_at "vv"
      exact hP acc r8 hal hac (by omega)
theorem p_near_cells {K : PySem.W.Frag} (ds : List D) (m : Mst) (P : D → Mst → Prop) (VX : XV) (h : wCells ds m P VX) : ds.length = 3 ∧ v_near_cells K vTake (vends P) (vstart N_near_cells.length ds) m := by
  obtain ⟨x, r, s0, n, k, rfl, hn, rfl, hr, hP⟩ := h
  refine ⟨rfl, ?_⟩
  unfold v_near_cells
  walk_at "vv"
  refine e_take (by omega) (by decide) (by decide) fun z1 r1 h1 h2 hr1 => ?_
  walk_at "vv"
  refine e_powI ⟨by decide, by decide, by decide⟩ ?_
  rw [show (10 : Int) ^ (18 : Int).toNat = 1000000000000000000 from rfl]
  walk_at "vv"
  refine e_powI ⟨by decide, by decide, by decide⟩ ?_
  rw [show (10 : Int) ^ (18 : Int).toNat = 1000000000000000000 from rfl]
  walk_at "vv"
  refine e_take (by omega) (by decide) (by decide) fun z2 r2 h3 h4 hr2 => ?_
  obtain ⟨first, hf, ef⟩ := at_litD [z1 - 20, 1000000000000000000 - 4, 4 - 1000000000000000000, 63] h3 h4
  refine e_ixL ef ?_
  have hfi : first.natAbs ≤ 1000000000000000000 := by simp at hf; omega
  walk_at "vv"
  refine e_take (by omega) (by decide) (by decide) fun z3 r3 h5 h6 hr3 => ?_
  obtain ⟨wide, hw, ew⟩ := at_litD [(1 : Int), 1, 2, 3, 8] h5 h6
  refine e_ixL ew ?_
  have hwi : 1 ≤ wide ∧ wide ≤ 8 := by simp at hw; omega
  walk_at "vv"
  refine e_take (by omega) (by decide) (by decide) fun bg r4 h7 h8 hr4 => ?_
  walk_at "vv"
  refine e_take (by omega) (by decide) (by decide) fun z4 r5 h9 h10 hr5 => ?_
  obtain ⟨open_, ho, eo⟩ := at_litD [(0 : Int), 0, 2, 5, 1] h9 h10
  refine e_ixL eo ?_
  walk_at "vv"
  refine e_itR (by omega) ?_
  refine for_inv (fun i e m' => i ≤ n ∧ ∃ (acc : List D) (r' : Nat), e = [some (.adr x), some (kdD k), none, some (.int first), some (.lst ([("" : Str), ("a" : Str), ("aa" : Str), ("ab" : Str), ("b" : Str), ("~" : Str), (" " : Str), ("Z" : Str)].map D.str)), some (.int wide), some (.int bg), some (.int open_), some (.lst acc), none, none, none] ∧ acc.length = i ∧ (∀ c ∈ acc, CellK k c) ∧ m' = (some (x, r'), s0) ∧ r5 ≤ r' + 12 * i) ⟨by omega, [], r5, rfl, rfl, by simp, rfl, by omega⟩ ?_ ?_
  · rintro i e m' d hi ⟨_, acc, r8, rfl, hal, hac, rfl, hr8⟩ ed
    obtain ⟨hi, rfl⟩ := rangeD_at ed
    rw [Int.zero_add]
    have app : ∀ (c : D) (r' : Nat), CellK k c → r8 ≤ r' + 10 → i + 1 ≤ n ∧ ∃ (acc' : List D) (r'' : Nat), [some (D.adr x), some (kdD k), none, some (.int first), some (.lst ([("" : Str), ("a" : Str), ("aa" : Str), ("ab" : Str), ("b" : Str), ("~" : Str), (" " : Str), ("Z" : Str)].map D.str)), some (.int wide), some (.int bg), some (.int open_), some (.lst (acc ++ [c])), none, none, none] = [some (.adr x), some (kdD k), none, some (.int first), some (.lst ([("" : Str), ("a" : Str), ("aa" : Str), ("ab" : Str), ("b" : Str), ("~" : Str), (" " : Str), ("Z" : Str)].map D.str)), some (.int wide), some (.int bg), some (.int open_), some (.lst acc'), none, none, none] ∧ acc'.length = i + 1 ∧ (∀ c ∈ acc', CellK k c) ∧ ((some (x, r'), s0) : Mst) = (some (x, r''), s0) ∧ r5 ≤ r'' + 12 * (i + 1) := fun c r' hc hr' => by
      refine ⟨by omega, acc ++ [c], r', rfl, by simp [hal], fun u hu => ?_, rfl, by omega⟩
      rcases List.mem_append.mp hu with hu | hu
      · exact hac u hu
      · rw [List.mem_singleton.mp hu]; exact hc
    walk_at "vv"
    refine e_take (by omega) (by omega) (by omega) fun turn r9 h13 h14 hr9 => ?_
    walk_at "vv"
    obtain ⟨tx, ht, et⟩ := at_litS [("" : Str), ("a" : Str), ("aa" : Str), ("ab" : Str), ("b" : Str), ("~" : Str), (" " : Str), ("Z" : Str)] (v := (bg + turn) % 8) (by omega) (by show _ < (8 : Int); omega)
    refine e_ixL et ?_
    walk_at "vv"
    have htl : IsT 40 tx := isT_all (l := [("" : Str), ("a" : Str), ("aa" : Str), ("ab" : Str), ("b" : Str), ("~" : Str), (" " : Str), ("Z" : Str)]) (by decide +kernel) ht
    obtain ⟨c0, hc0, ec0⟩ : ∃ c0, Val k c0 ∧ L2.atI [D.int (first + turn % 4), D.str tx] (if k.isT = true then 1 else 0) = some c0 := by
      cases k with
      | num =>
        refine ⟨_, val_num ?_, rfl⟩
        have : (first + turn % 4).natAbs ≤ 1000000000000000010 := by omega
        exact Nat.lt_of_le_of_lt this (by decide)
      | txt => exact ⟨_, ⟨_, rfl, htl⟩, rfl⟩
    refine e_ixL ec0 ?_
    walk_at "vv"
    walk_at "vi"
    refine w_ifd (fun q1 => ?_) (fun q1 => ?_)
    · walk_at "vv"
      have ho : open_ = 2 ∨ open_ = 5 ∨ open_ = 1 := by simp at ho; omega
      refine e_take (by omega) (by omega) (by omega) fun z8 r11 h15 h16 hr11 => ?_
      walk_at "vv"
      refine w_ifd (fun q3 => ?_) (fun q3 => ?_)
      · walk_at "vv"
        exact ⟨sz_lt (by omega), app .non r11 (.inl rfl) (by omega)⟩
      · walk_at "vv"
        exact ⟨sz_lt (by omega), app c0 r11 (.inr hc0) (by omega)⟩
    · walk_at "vv"
      exact ⟨sz_lt (by omega), app c0 r9 (.inr hc0) (by omega)⟩
  · rintro e m' ⟨_, acc, r8, rfl, hal, hac, rfl, hr8⟩
    rw [rangeD_len] at hal hr8
    walk_at "vv"
    exact hP acc r8 hal hac (by omega)
def wSomeCells : VSp := fun ds m P _ => ∃ (x : Addr) (r : Nat) (s0 : Sto) (n : Nat) (k : Kd), ds = [.adr x, kdD k, .int n] ∧ n ≤ 10000 ∧ m = (some (x, r), s0) ∧ 301 + 12 * n ≤ r ∧ ∀ (cs : List D) (r' : Nat), cs.length = n → (∀ c ∈ cs, CellK k c) → r ≤ r' + (301 + 12 * n) → P (.lst cs) ((some (x, r'), s0))
theorem p_some_cells {K : PySem.W.Frag} (ds : List D) (m : Mst) (P : D → Mst → Prop) (VX : XV) (h : wSomeCells ds m P VX) : ds.length = 3 ∧ v_some_cells K vTake wCells wCells (vends P) (vstart N_some_cells.length ds) m := by
  obtain ⟨x, r, s0, n, k, rfl, hn, rfl, hr, hP⟩ := h
  refine ⟨rfl, ?_⟩
  unfold v_some_cells
  walk_at "vi"
  refine e_take (by omega) (by decide) (by decide) fun z1 r1 h1 h2 hr1 => ?_
  walk_at "vv"
  refine w_ifd (fun q3 => ?_) (fun q3 => ?_)
  · walk_at "vv"
    exact ⟨x, r1, s0, n, k, rfl, hn, rfl, by omega, fun cs r' hl hc hr' => hP cs r' hl hc (by omega)⟩
  · walk_at "vv"
    exact ⟨x, r1, s0, n, k, rfl, hn, rfl, by omega, fun cs r' hl hc hr' => hP cs r' hl hc (by omega)⟩
theorem txt_app (a b : List Nat) : txt a ++ txt b = txt (a ++ b) := by
  show (⟨(a.map sg).toArray ++ (b.map sg).toArray⟩ : Str) = ⟨((a ++ b).map sg).toArray⟩
  rw [List.map_append]
  simp
theorem cutS_txt (a : List Nat) : cutS (txt a) none (some 20) = txt (a.take 20) := by
  unfold cutS
  rw [txt_cps, txt_len, HT.sIx_none, show (some (20 : Int)) = some ((20 : Nat) : Int) from rfl, HT.sIx_nat, List.drop_zero, Nat.sub_zero, ← List.map_take]
  show (⟨((a.take (min 20 a.length)).map sg).toArray⟩ : Str) = ⟨((a.take 20).map sg).toArray⟩
  by_cases h : 20 ≤ a.length
  · rw [Nat.min_eq_left h]
  · rw [Nat.min_eq_right (by omega), List.take_of_length_le (Nat.le_refl _), List.take_of_length_le (by omega)]
def known (cs : List D) : List D := cs.filter fun c => !c.isN
theorem known_val {k : Kd} {cs : List D} (h : ∀ c ∈ cs, CellK k c) : ∀ c ∈ known cs, Val k c := fun c hc => by
  obtain ⟨h1, h2⟩ := List.mem_filter.mp hc
  rcases h c h1 with rfl | h
  · exact absurd h2 Bool.false_ne_true
  · exact h
theorem lc_known {env : Env} {m : Mst} {P : D → Mst → Prop} {cs : List D} {i : Nat} (hi : i < env.length) (hz : cs.length ≤ 16777216) (k : P (.lst (known cs)) m) : lcD cs (vgName i) (vTest (vOp vNotN (vVar i) (vC .non))) (vVar i) [i] env m P := by
  have e : cs = cs.map id := (List.map_id cs).symm
  rw [e]
  refine lc_fltL (g := id) (h := id) (p := fun c => !c.isN) hz (fun j c Q R ec h1 h2 => ?_) (by rw [List.map_id]; exact k)
  have hv : (((wipeE env [i]).set i (some (id c))))[i]? = some (some c) := by
    rw [List.getElem?_set_self (by rw [wipeE_len]; exact hi)]; rfl
  show (vTest _ : VT) _ _ _
  refine e_test (e_op (e_var hv (e_c (e_notN ⟨_, rfl, ?_⟩))))
  cases q : !c.isN with
  | true => rw [if_pos rfl]; exact e_var hv (h1 q)
  | false => rw [if_neg Bool.false_ne_true]; exact h2 q
def wValue : VSp := fun ds m P _ => ∃ (x : Addr) (r : Nat) (s0 : Sto) (k : Kd) (cs : List D), ds = [.adr x, kdD k, .lst cs] ∧ cs.length ≤ 10000 ∧ (∀ c ∈ cs, CellK k c) ∧ m = (some (x, r), s0) ∧ 40 ≤ r ∧ ∀ (v : D) (r' : Nat), Val k v → r ≤ r' + 40 → P v ((some (x, r'), s0))
theorem p_value {K : PySem.W.Frag} (ds : List D) (m : Mst) (P : D → Mst → Prop) (VX : XV) (h : wValue ds m P VX) : ds.length = 3 ∧ v_value K vTake wText wNumber (vends P) (vstart N_value.length ds) m := by
  obtain ⟨x, r, s0, k, cs, rfl, hl, hc, rfl, hr, hP⟩ := h
  refine ⟨rfl, ?_⟩
  unfold v_value
  walk_at "vv"
  refine lc_known (Nat.le_of_ble_eq_true rfl) (by omega) ?_
  have hv := known_val hc
  have hkl : (known cs).length ≤ 10000 := Nat.le_trans (List.length_filter_le _ _) hl
  generalize known cs = ks at *
  walk_at "vv"
  refine e_take (by omega) (by decide) (by decide) fun way r1 h1 h2 hr1 => ?_
  walk_at "vv"
  walk_at "vi"
  cases k with
  | txt =>
    refine w_ifT ?_
    walk_at "vi"
    refine w_ifd (fun q1 => ?_) (fun q1 => ?_)
    · walk_at "vv"
      refine w_ifd (fun q2 => ?_) (fun q2 => ?_)
      · walk_at "vv"
        refine e_take (by omega) (by omega) (by omega) fun z r2 h3 h4 hr2 => ?_
        obtain ⟨c, hcm, ec⟩ := atI_lt h3 h4
        obtain ⟨s, rfl, js, rfl, hjl, hj⟩ := hv c hcm
        refine e_ixL ec ?_
        walk_at "vv"
        obtain ⟨t, ht, et⟩ := at_litS [("" : Str), ("" : Str), (" " : Str), ("a" : Str)] (v := way) h1 q1
        obtain ⟨ls, rfl, hll, hls⟩ : IsT 1 t := isT_all (l := [("" : Str), ("" : Str), (" " : Str), ("a" : Str)]) (by decide +kernel) ht
        refine e_ixL et ?_
        refine e_addS (sz_le (by rw [txt_len, txt_len]; omega)) ?_
        rw [txt_app]
        walk_at "vv"
        refine e_cutS (by rw [txt_len, List.length_append]; omega) ?_
        rw [cutS_txt]
        refine hP _ r2 (val_txt ⟨_, rfl, by rw [List.length_take]; omega, fun u hu => ?_⟩) (by omega)
        rcases List.mem_append.mp (List.mem_of_mem_take hu) with hu | hu
        · exact hj u hu
        · exact hls u hu
      · walk_at "vv"
        exact ⟨x, r1, s0, rfl, rfl, by omega, fun z r2 hz hr2 => hP _ r2 (val_txt hz) (by omega)⟩
    · walk_at "vv"
      exact ⟨x, r1, s0, rfl, rfl, by omega, fun z r2 hz hr2 => hP _ r2 (val_txt hz) (by omega)⟩
  | num =>
    refine w_ifF ?_
    walk_at "vv"
    walk_at "vi"
    refine w_ifd (fun q1 => ?_) (fun q1 => ?_)
    · walk_at "vv"
      refine w_ifd (fun q2 => ?_) (fun q2 => ?_)
      · walk_at "vv"
        refine e_take (by omega) (by omega) (by omega) fun z r2 h3 h4 hr2 => ?_
        obtain ⟨c, hcm, ec⟩ := atI_lt h3 h4
        obtain ⟨s, rfl, hs⟩ := hv c hcm
        refine e_ixL ec ?_
        walk_at "vv"
        obtain ⟨t, ht, et⟩ := at_litD [(0 : Int), 0, 1, -1] (v := way) h1 q1
        refine e_ixL et ?_
        walk_at "vv"
        refine e_powI ⟨by decide, by decide, by decide⟩ ?_
        rw [show (10 : Int) ^ (18 : Int).toNat = 1000000000000000000 from rfl]
        walk_at "vv"
        refine e_powI ⟨by decide, by decide, by decide⟩ ?_
        rw [show (10 : Int) ^ (18 : Int).toNat = 1000000000000000000 from rfl]
        walk_at "vv"
        refine hP _ r2 (val_num ?_) (by omega)
        refine Nat.lt_of_le_of_lt (m := 1000000000000000000) ?_ (by decide)
        split <;> split <;> omega
      · walk_at "vv"
        exact ⟨x, r1, s0, rfl, rfl, by omega, fun z r2 hz hr2 => hP _ r2 (val_num (Nat.lt_trans hz (by decide))) (by omega)⟩
    · walk_at "vv"
      exact ⟨x, r1, s0, rfl, rfl, by omega, fun z r2 hz hr2 => hP _ r2 (val_num (Nat.lt_trans hz (by decide))) (by omega)⟩
def signs6 : List Str := ["=", "<>", "<", "<=", ">", ">="]
def IsTest (k : Kd) (t : D) : Prop := t = .tup [.str "open"] ∨ (∃ vs : List D, t = .tup [.str "among", .lst vs] ∧ vs.length ≤ 9 ∧ ∀ v ∈ vs, Val k v) ∨ ∃ (w : Str) (v : D), t = .tup [.str w, v] ∧ w ∈ signs6 ∧ Val k v
def wTest : VSp := fun ds m P _ => ∃ (x : Addr) (r : Nat) (s0 : Sto) (k : Kd) (cs : List D), ds = [.adr x, kdD k, .lst cs] ∧ cs.length ≤ 10000 ∧ (∀ c ∈ cs, CellK k c) ∧ m = (some (x, r), s0) ∧ 400 ≤ r ∧ ∀ (t : D) (r' : Nat), IsTest k t → r ≤ r' + 400 → P t ((some (x, r'), s0))
theorem p_test {K : PySem.W.Frag} (ds : List D) (m : Mst) (P : D → Mst → Prop) (VX : XV) (h : wTest ds m P VX) : ds.length = 3 ∧ v_test K vTake wValue (vends P) (vstart N_test.length ds) m := by
  obtain ⟨x, r, s0, k, cs, rfl, hl, hc, rfl, hr, hP⟩ := h
  refine ⟨rfl, ?_⟩
  unfold v_test
  walk_at "vv"
  refine e_take (by omega) (by decide) (by decide) fun z1 r1 h1 h2 hr1 => ?_
  obtain ⟨w, hw, ew⟩ := at_litS [("=" : Str), ("<>" : Str), ("<" : Str), ("<=" : Str), (">" : Str), (">=" : Str), ("open" : Str), ("among" : Str)] h1 h2
  refine e_ixL ew ?_
  have hw3 : w ∈ signs6 ∨ w = "open" ∨ w = "among" := by
    have : ∀ z ∈ [("=" : Str), ("<>" : Str), ("<" : Str), ("<=" : Str), (">" : Str), (">=" : Str), ("open" : Str), ("among" : Str)], z ∈ signs6 ∨ z = "open" ∨ z = "among" := by decide +kernel
    exact this w hw
  walk_at "vv"
  walk_at "vi"
  rcases hw3 with hw | rfl | rfl
  · have hn : ∀ z ∈ signs6, decide (z = "open") = false ∧ decide (z = "among") = false := by decide +kernel
    rw [(hn w hw).1]
    walk_at "vv"
    walk_at "vi"
    rw [(hn w hw).2]
    walk_at "vv"
    exact ⟨x, r1, s0, k, cs, rfl, hl, hc, rfl, by omega, fun v r2 hv hr2 => ⟨by show 2 ≤ sizeLine; exact sz_le (by decide), hP _ r2 (.inr (.inr ⟨w, v, rfl, hw, hv⟩)) (by omega)⟩⟩
  · rw [decide_eq_true rfl]
    walk_at "vv"
    exact hP _ r1 (.inl rfl) (by omega)
  · rw [decide_eq_false (by decide +kernel)]
    walk_at "vv"
    walk_at "vi"
    rw [decide_eq_true rfl]
    walk_at "vv"
    refine e_take (by omega) (by decide) (by decide) fun z2 r2 h3 h4 hr2 => ?_
    obtain ⟨n, hn, en⟩ := at_litD [(0 : Int), 1, 2, 4, 9] h3 h4
    refine e_ixL en ?_
    obtain ⟨l, rfl, hl9⟩ : ∃ l : Nat, n = (l : Int) ∧ l ≤ 9 := ⟨n.toNat, by simp at hn; omega, by simp at hn; omega⟩
    walk_at "vv"
    refine e_itR (by omega) ?_
    refine ⟨fun i acc m' => i ≤ l ∧ acc.length = i ∧ (∀ c ∈ acc, Val k c) ∧ ∃ r', m' = (some (x, r'), s0) ∧ r2 ≤ r' + 40 * i, ⟨by omega, rfl, by simp, r2, rfl, by omega⟩, ?_, ?_⟩
    · rintro i acc m' d ⟨hi0, hal, hv, r3, rfl, hr3⟩ ed
      obtain ⟨hi, rfl⟩ := rangeD_at ed
      walk_at "vv"
      refine ⟨x, r3, s0, k, cs, rfl, hl, hc, rfl, by omega, fun v r4 hv4 hr4 => ⟨sz_lt (by omega), by omega, by simp [hal], fun c hc => ?_, r4, rfl, by omega⟩⟩
      rcases List.mem_append.mp hc with hc | hc
      · exact hv c hc
      · rw [List.mem_singleton.mp hc]; exact hv4
    · rintro acc m' ⟨hi0, hal, hv, r3, rfl, hr3⟩
      rw [rangeD_len] at hal hr3
      walk_at "vv"
      exact hP _ r3 (.inr (.inl ⟨acc, rfl, by omega, hv⟩)) (by omega)
theorem w_ifTd {p A B : Prop} [Decidable p] (h : p) (a : A) : if decide p = true then A else B := by rw [decide_eq_true h, if_pos rfl]; exact a
theorem w_ifFd {p A B : Prop} [Decidable p] (h : ¬ p) (b : B) : if decide p = true then A else B := by rw [decide_eq_false h, if_neg Bool.false_ne_true]; exact b
local macro_rules | `(tactic| walk_at "lit") => `(tactic| first | refine w_ifFd (by decide +kernel) ?_ | refine w_ifTd (by decide +kernel) ?_)
local macro_rules | `(tactic| walk_at "vw") => `(tactic| repeat (first | walk_at "v1" | (with_reducible refine e_seq ?_) | walk_at "lit"))
def t_is_so (K : PySem.W.Frag) : TS :=
      (tSeq (tIfS (tTest (tOp (rEqU K) (tVar 1) (tC (.str ("=" : Str)))))
      (tRet (tOp (rEqU K) (tVar 0) (tVar 2)))
      tNext)
      (tSeq (tIfS (tTest (tOp (rEqU K) (tVar 1) (tC (.str ("<>" : Str)))))
      (tRet (tOp (rNeU K) (tVar 0) (tVar 2)))
      tNext)
      (tSeq (tIfS (tTest (tOp (rEqU K) (tVar 1) (tC (.str ("<" : Str)))))
      (tRet (tOp (rLtU K) (tVar 0) (tVar 2)))
      tNext)
      (tSeq (tIfS (tTest (tOp (rEqU K) (tVar 1) (tC (.str ("<=" : Str)))))
      (tRet (tOp (rLeV) (tVar 0) (tVar 2)))
      tNext)
      (tSeq (tIfS (tTest (tOp (rEqU K) (tVar 1) (tC (.str (">" : Str)))))
      (tRet (tOp (rGtV) (tVar 0) (tVar 2)))
      tNext)
      (tRet (tOp (rGeV) (tVar 0) (tVar 2))))))))
abbrev N_is_so : List Str := [("cell" : Str), ("sign" : Str), ("value" : Str)]
def v_is_so (K : PySem.W.Frag) : VS :=
      (vSeqS (vIf (vTest (vOp vEqC (vVar 1) (vC (.str ("=" : Str)))))
      (vRet (vOp vEqC (vVar 0) (vVar 2)))
      vNext)
      (vSeqS (vIf (vTest (vOp vEqC (vVar 1) (vC (.str ("<>" : Str)))))
      (vRet (vOp vNeC (vVar 0) (vVar 2)))
      vNext)
      (vSeqS (vIf (vTest (vOp vEqC (vVar 1) (vC (.str ("<" : Str)))))
      (vRet (vOp vLt (vVar 0) (vVar 2)))
      vNext)
      (vSeqS (vIf (vTest (vOp vEqC (vVar 1) (vC (.str ("<=" : Str)))))
      (vRet (vOp vLe (vVar 0) (vVar 2)))
      vNext)
      (vSeqS (vIf (vTest (vOp vEqC (vVar 1) (vC (.str (">" : Str)))))
      (vRet (vOp vGt (vVar 0) (vVar 2)))
      vNext)
      (vRet (vOp vGe (vVar 0) (vVar 2))))))))
theorem sim_is_so {K : PySem.W.Frag} {vsp : VSp} (hv : ∀ ds m P VX, vsp ds m P VX → ds.length = 3 ∧ v_is_so K (vends P) (vstart N_is_so.length ds) m) :
    ∀ us H Q E, spV K .O vsp us H Q E → t_is_so K { nx := fun _ H' => Q .non H', rt := Q } (L2.start N_is_so us) H :=
  sim_def (n := 3) (t := .O) (N := N_is_so) (Γn := [.F, .F, .F]) (Γb := []) (Γc := []) (ts := fun E => t_is_so K) (vs := fun VX => v_is_so K) (by decide) (fun c W VX hK hx => by
    subst hK
    exact (x_seq (x_if (Γn := [.F, .F, .F]) (s_test (SO.b (s_op o_eq (SF.b (s_varF (by rfl))) (SO.b s_str))))
      (x_retO (s_op o_eq (SF.b (s_varF (by rfl))) (SF.b (s_varF (by rfl)))))
      x_next)
      (x_seq (x_if (Γn := [.F, .F, .F]) (s_test (SO.b (s_op o_eq (SF.b (s_varF (by rfl))) (SO.b s_str))))
      (x_retO (s_op o_ne (SF.b (s_varF (by rfl))) (SF.b (s_varF (by rfl)))))
      x_next)
      (x_seq (x_if (Γn := [.F, .F, .F]) (s_test (SO.b (s_op o_eq (SF.b (s_varF (by rfl))) (SO.b s_str))))
      (x_retO (s_op o_lt (SF.b (s_varF (by rfl))) (SF.b (s_varF (by rfl)))))
      x_next)
      (x_seq (x_if (Γn := [.F, .F, .F]) (s_test (SO.b (s_op o_eq (SF.b (s_varF (by rfl))) (SO.b s_str))))
      (x_retO (s_op o_le (SF.b (s_varF (by rfl))) (SF.b (s_varF (by rfl)))))
      x_next)
      (x_seq (x_if (Γn := [.F, .F, .F]) (s_test (SO.b (s_op o_eq (SF.b (s_varF (by rfl))) (SO.b s_str))))
      (x_retO (s_op o_gt (SF.b (s_varF (by rfl))) (SF.b (s_varF (by rfl)))))
      x_next)
      (x_retO (s_op o_ge (SF.b (s_varF (by rfl))) (SF.b (s_varF (by rfl))))))))))) hv
def t_own_meets (K : PySem.W.Frag) : TS :=
      (tSeq (tIfS (tTest (tOp (rEqU K) (tOp (rIxU K) (tVar 1) (tC (.int 0))) (tC (.str ("open" : Str)))))
      (tRet (tOp (rIsN) (tVar 0) (tC .non)))
      tNext)
      (tSeq (tIfS (tTest (tOp (rIsN) (tVar 0) (tC .non)))
      (tRet (tC (.bl false)))
      tNext)
      (tSeq (tIfS (tTest (tOp (rEqU K) (tOp (rIxU K) (tVar 1) (tC (.int 0))) (tC (.str ("among" : Str)))))
      (tRet (tCB (rAny K) (tCons (tLc (iSeqV K (tOp (rIxU K) (tVar 1) (tC (.int 1)))) (gName 2) tYes (tOp (rEqU K) (tVar 0) (tVar 2)) [2]) tNil)))
      tNext)
      (tSeq (tAsg (tOp (rSubU) (tCB (rIntU) (tCons (tOp (rGtV) (tVar 0) (tOp (rIxU K) (tVar 1) (tC (.int 1)))) tNil)) (tCB (rIntU) (tCons (tOp (rLtU K) (tVar 0) (tOp (rIxU K) (tVar 1) (tC (.int 1)))) tNil))) (gName 3))
      (tRet (tOp (rInU K false) (tVar 3) (tOp (rIxU K) (tDisp [((tC (.str ("=" : Str))), (tLst (tCons (tC (.int 0)) tNil))), ((tC (.str ("<>" : Str))), (tLst (tCons (tUn rNeg (tC (.int 1))) (tCons (tC (.int 1)) tNil)))), ((tC (.str ("<" : Str))), (tLst (tCons (tUn rNeg (tC (.int 1))) tNil))), ((tC (.str ("<=" : Str))), (tLst (tCons (tUn rNeg (tC (.int 1))) (tCons (tC (.int 0)) tNil)))), ((tC (.str (">" : Str))), (tLst (tCons (tC (.int 1)) tNil))), ((tC (.str (">=" : Str))), (tLst (tCons (tC (.int 0)) (tCons (tC (.int 1)) tNil))))]) (tOp (rIxU K) (tVar 1) (tC (.int 0))))))))))
abbrev N_own_meets : List Str := [("_law_cell" : Str), ("_law_test_here" : Str), ("_law_value_here" : Str), ("_law_order" : Str)]
def v_own_meets (K : PySem.W.Frag) : VS :=
      (vSeqS (vIf (vTest (vOp vEqC (vOp vIx (vVar 1) (vC (.int 0))) (vC (.str ("open" : Str)))))
      (vRet (vOp vIsN (vVar 0) (vC .non)))
      vNext)
      (vSeqS (vIf (vTest (vOp vIsN (vVar 0) (vC .non)))
      (vRet (vC (.bl false)))
      vNext)
      (vSeqS (vIf (vTest (vOp vEqC (vOp vIx (vVar 1) (vC (.int 0))) (vC (.str ("among" : Str)))))
      (vRet (vCB vAny (vCons (vLc (vSeq (vOp vIx (vVar 1) (vC (.int 1)))) (vgName 2) vYes (vOp vEqC (vVar 0) (vVar 2)) [2]) vNil)))
      vNext)
      (vSeqS (vAsg (vOp vSub (vCB vInt (vCons (vOp vGt (vVar 0) (vOp vIx (vVar 1) (vC (.int 1)))) vNil)) (vCB vInt (vCons (vOp vLt (vVar 0) (vOp vIx (vVar 1) (vC (.int 1)))) vNil))) (vgName 3))
      (vRet (vOp (vIn false) (vVar 3) (vOp vIx (vDisp (vpCons (vC (.str ("=" : Str))) (vLst (vCons (vC (.int 0)) vNil)) (vpCons (vC (.str ("<>" : Str))) (vLst (vCons (vUn vNeg (vC (.int 1))) (vCons (vC (.int 1)) vNil))) (vpCons (vC (.str ("<" : Str))) (vLst (vCons (vUn vNeg (vC (.int 1))) vNil)) (vpCons (vC (.str ("<=" : Str))) (vLst (vCons (vUn vNeg (vC (.int 1))) (vCons (vC (.int 0)) vNil))) (vpCons (vC (.str (">" : Str))) (vLst (vCons (vC (.int 1)) vNil)) (vpCons (vC (.str (">=" : Str))) (vLst (vCons (vC (.int 0)) (vCons (vC (.int 1)) vNil))) vpNil))))))) (vOp vIx (vVar 1) (vC (.int 0))))))))))
theorem sim_own_meets {K : PySem.W.Frag} {vsp : VSp} (hv : ∀ ds m P VX, vsp ds m P VX → ds.length = 2 ∧ v_own_meets K (vends P) (vstart N_own_meets.length ds) m) :
    ∀ us H Q E, spV K .O vsp us H Q E → t_own_meets K { nx := fun _ H' => Q .non H', rt := Q } (L2.start N_own_meets us) H :=
  sim_def (n := 2) (t := .O) (N := N_own_meets) (Γn := [.F, .F, .F, .F]) (Γb := []) (Γc := []) (ts := fun E => t_own_meets K) (vs := fun VX => v_own_meets K) (by decide) (fun c W VX hK hx => by
    subst hK
    exact (x_seq (x_if (Γn := [.F, .F, .F, .F]) (s_test (SO.b (s_op o_eq (SF.b (s_opF o_ix (SF.b (s_varF (by rfl))) (SO.b s_int))) (SO.b s_str))))
      (x_retO (s_op o_isN (SF.b (s_varF (by rfl))) (SO.b s_non)))
      x_next)
      (x_seq (x_if (Γn := [.F, .F, .F, .F]) (s_test (SO.b (s_op o_isN (SF.b (s_varF (by rfl))) (SO.b s_non))))
      (x_retO s_bl)
      x_next)
      (x_seq (x_if (Γn := [.F, .F, .F, .F]) (s_test (SO.b (s_op o_eq (SF.b (s_opF o_ix (SF.b (s_varF (by rfl))) (SO.b s_int))) (SO.b s_str))))
      (x_retO (s_cb l_any (a_cons (SO.b (s_lc (vs := [2]) (i_seq (s_opF o_ix (SF.b (s_varF (by rfl))) (SO.b s_int))) (by rfl) (tg_name (is := [2]) (by rfl) (by decide)) s_yes (SO.f (s_op o_eq (SF.b (s_varF (by rfl))) (SF.b (s_varF (by rfl))))))) a_nil)))
      x_next)
      (x_seq (x_asgO (i := 3) (s_op o_sub (SO.b (s_cb l_int (a_cons (SO.b (s_op o_gt (SF.b (s_varF (by rfl))) (SF.b (s_opF o_ix (SF.b (s_varF (by rfl))) (SO.b s_int))))) a_nil))) (SO.b (s_cb l_int (a_cons (SO.b (s_op o_lt (SF.b (s_varF (by rfl))) (SF.b (s_opF o_ix (SF.b (s_varF (by rfl))) (SO.b s_int))))) a_nil)))))
      (x_retO (s_op (o_in false) (s_varB (t := .O) (by rfl)) (SF.b (s_opF o_ix (SO.b (s_disp (p_cons (SO.f s_str) (SO.f (s_lst (g_cons (SO.f s_int) g_nil))) (p_cons (SO.f s_str) (SO.f (s_lst (g_cons (SO.f (s_un o_neg (SO.b s_int))) (g_cons (SO.f s_int) g_nil)))) (p_cons (SO.f s_str) (SO.f (s_lst (g_cons (SO.f (s_un o_neg (SO.b s_int))) g_nil))) (p_cons (SO.f s_str) (SO.f (s_lst (g_cons (SO.f (s_un o_neg (SO.b s_int))) (g_cons (SO.f s_int) g_nil)))) (p_cons (SO.f s_str) (SO.f (s_lst (g_cons (SO.f s_int) g_nil))) (p_cons (SO.f s_str) (SO.f (s_lst (g_cons (SO.f s_int) (g_cons (SO.f s_int) g_nil)))) p_nil)))))))) (SF.b (s_opF o_ix (SF.b (s_varF (by rfl))) (SO.b s_int)))))))))))) hv
inductive Sg where
  | eq | ne | lt | le | gt | ge
def sgS : Sg → Str
  | .eq => "=" | .ne => "<>" | .lt => "<" | .le => "<=" | .gt => ">" | .ge => ">="
theorem sg6_of {w : Str} (h : w ∈ signs6) : ∃ g, w = sgS g := by
  unfold signs6 at h
  simp only [List.mem_cons, List.not_mem_nil, or_false] at h
  rcases h with rfl | rfl | rfl | rfl | rfl | rfl
  · exact ⟨.eq, rfl⟩
  · exact ⟨.ne, rfl⟩
  · exact ⟨.lt, rfl⟩
  · exact ⟨.le, rfl⟩
  · exact ⟨.gt, rfl⟩
  · exact ⟨.ge, rfl⟩
def soD (c : D) : Sg → D → Bool
  | .eq, v => eqDD c v
  | .ne, v => !eqDD c v
  | .lt, v => ltD c v
  | .le, v => !ltD v c
  | .gt, v => ltD v c
  | .ge, v => !ltD c v
def wIsSo : VSp := fun ds m P _ => ∃ (k : Kd) (c v : D) (g : Sg), ds = [c, .str (sgS g), v] ∧ Val k c ∧ Val k v ∧ P (.bl (soD c g v)) m
theorem p_is_so {K : PySem.W.Frag} (ds : List D) (m : Mst) (P : D → Mst → Prop) (VX : XV) (h : wIsSo ds m P VX) : ds.length = 3 ∧ v_is_so K (vends P) (vstart N_is_so.length ds) m := by
  obtain ⟨k, c, v, g, rfl, hc, hv, hP⟩ := h
  refine ⟨rfl, ?_⟩
  unfold v_is_so
  cases g with
  | eq => show (vSeqS _ _ : VS) _ [some c, some (.str "="), some v] _; walk_at "vw"; exact e_eqV hc hv hP
  | ne => show (vSeqS _ _ : VS) _ [some c, some (.str "<>"), some v] _; walk_at "vw"; exact e_neV hc hv hP
  | lt => show (vSeqS _ _ : VS) _ [some c, some (.str "<"), some v] _; walk_at "vw"; exact e_ltV hc hv hP
  | le => show (vSeqS _ _ : VS) _ [some c, some (.str "<="), some v] _; walk_at "vw"; exact e_leV hc hv hP
  | gt => show (vSeqS _ _ : VS) _ [some c, some (.str ">"), some v] _; walk_at "vw"; exact e_gtV hc hv hP
  | ge => show (vSeqS _ _ : VS) _ [some c, some (.str ">="), some v] _; walk_at "vw"; exact e_geV hc hv hP
section
variable {Z : D → Prop} {x y : D} {ds : List D} {env : Env} {m : Mst} {P : D → Mst → Prop} {va vb : VE} {k : Kd}
theorem e_inT {b : Bool} (h1 : x.fl = true) (h2 : ds.all D.fl = true) (e : (ds.any fun y => eqF y x) = b) (h : Z (.bl b)) : vIn false x (.tup ds) Z := by
  cases x <;> first | exact absurd h1 Bool.false_ne_true | exact ⟨⟨h1, h2⟩, by rw [if_neg Bool.false_ne_true, e]; exact h⟩
theorem e_inL {b : Bool} (h1 : x.fl = true) (h2 : ds.all D.fl = true) (e : (ds.any fun y => eqF y x) = b) (h : Z (.bl b)) : vIn false x (.lst ds) Z := by
  cases x <;> first | exact absurd h1 Bool.false_ne_true | exact ⟨⟨h1, h2⟩, by rw [if_neg Bool.false_ne_true, e]; exact h⟩
theorem val_fl (h : Val k x) : x.fl = true := by
  cases k with
  | num => obtain ⟨i, rfl, _⟩ := h; rfl
  | txt => obtain ⟨i, rfl, _⟩ := h; rfl
theorem eqF_val (hx : Val k x) (hy : Val k y) : eqF x y = eqDD x y := by
  cases k with
  | num => obtain ⟨i, rfl, _⟩ := hx; obtain ⟨j, rfl, _⟩ := hy; show (i == j) = decide (i = j); rfl
  | txt =>
    obtain ⟨i, rfl, _⟩ := hx; obtain ⟨j, rfl, _⟩ := hy
    show (i == j) = decide (i = j)
    by_cases h : i = j
    · subst h; rw [decide_eq_true rfl]; exact beq_self_eq_true i
    · rw [decide_eq_false h]; exact beq_eq_false_iff_ne.mpr h
theorem vals_fl (h : ∀ v ∈ ds, Val k v) : ds.all D.fl = true := List.all_eq_true.mpr fun v hv => val_fl (h v hv)
theorem any_val (hx : Val k x) (h : ∀ v ∈ ds, Val k v) : (ds.any fun y => eqF y x) = ds.any fun y => eqDD y x := by
  induction ds with
  | nil => rfl
  | cons d ds ih => rw [List.any_cons, List.any_cons, ih fun v hv => h v (List.mem_cons_of_mem _ hv), eqF_val (h d List.mem_cons_self) hx]
end
theorem lc_bl {vg : VG} {ve : VE} {ws : List Nat} {env : Env} {m : Mst} {P : D → Mst → Prop} {vs : List D} {f : D → Bool} (hz : vs.length ≤ 16777216) (hs : ∀ (i : Nat) (v : D) (Q : D → Mst → Prop), v ∈ vs → Q (.bl (f v)) m → vg v (wipeE env ws) fun e1 => ve e1 m Q)
    (k : P (.lst ((vs.map f).map D.bl)) m) : lcD vs vg vYes ve ws env m P := by
  have e : vs = vs.map id := (List.map_id vs).symm
  rw [e]
  refine lc_mapL (g := id) (h := fun v => .bl (f v)) hz (fun i v Q ev hQ => hs i v Q (List.mem_of_getElem? ev) hQ) ?_
  rw [List.map_map] at k
  exact k
theorem any_map {f : D → Bool} : ∀ vs : List D, (vs.map f).any id = vs.any f
  | [] => rfl
  | v :: vs => by rw [List.map_cons, List.any_cons, List.any_cons, any_map vs]; rfl
inductive Ts where
  | opn
  | amg (vs : List D)
  | sg (g : Sg) (v : D)
def tsD : Ts → D
  | .opn => .tup [.str "open"]
  | .amg vs => .tup [.str "among", .lst vs]
  | .sg g v => .tup [.str (sgS g), v]
def OkT (k : Kd) : Ts → Prop
  | .opn => True
  | .amg vs => vs.length ≤ 12 ∧ ∀ v ∈ vs, Val k v
  | .sg _ v => Val k v
theorem isTest_ts {k : Kd} {t : D} (h : IsTest k t) : ∃ s, t = tsD s ∧ OkT k s := by
  rcases h with rfl | ⟨vs, rfl, hl, hv⟩ | ⟨w, v, rfl, hw, hv⟩
  · exact ⟨.opn, rfl, trivial⟩
  · exact ⟨.amg vs, rfl, by omega, hv⟩
  · obtain ⟨g, rfl⟩ := sg6_of hw
    exact ⟨.sg g v, rfl, hv⟩
def mtD (c : D) : Ts → Bool
  | .opn => c.isN
  | .amg vs => !c.isN && vs.any fun y => eqDD c y
  | .sg g v => !c.isN && soD c g v
def wMeets : VSp := fun ds m P _ => ∃ (k : Kd) (c : D) (t : Ts), ds = [c, tsD t] ∧ CellK k c ∧ OkT k t ∧ P (.bl (mtD c t)) m
theorem eqDD_lt {k : Kd} {x y : D} (hx : Val k x) (hy : Val k y) : eqDD x y = (!ltD y x && !ltD x y) := by
  cases h1 : ltD y x with
  | true =>
    cases h : eqDD x y with
    | false => rfl
    | true => rw [(eqDD_iff hx hy).mp h, ltD_ir] at h1; cases h1
  | false =>
    cases h2 : ltD x y with
    | true =>
      cases h : eqDD x y with
      | false => rfl
      | true => rw [(eqDD_iff hx hy).mp h, ltD_ir] at h2; cases h2
    | false => exact (eqDD_iff hx hy).mpr (ltD_tot hx hy h2 h1)
def ordS : Sg → List Int
  | .eq => [0] | .ne => [-1, 1] | .lt => [-1] | .le => [-1, 0] | .gt => [1] | .ge => [0, 1]
def ordKs : List (Key × D) := [(.inr "=", dL [0]), (.inr "<>", dL [-1, 1]), (.inr "<", dL [-1]), (.inr "<=", dL [-1, 0]), (.inr ">", dL [1]), (.inr ">=", dL [0, 1])]
theorem so_ord {k : Kd} {c v : D} (g : Sg) (hc : Val k c) (hv : Val k v) : ((ordS g).map D.int).any (fun y => eqF y (.int ((if ltD v c then 1 else 0) - (if ltD c v then 1 else 0)))) = soD c g v := by
  have e := eqDD_lt hc hv
  have h3 : ltD v c = true → ltD c v = false := ltD_as
  cases g <;> simp only [soD, e] <;> cases h1 : ltD v c <;> cases h2 : ltD c v <;> first | rfl | (exfalso; have := h3 h1; rw [h2] at this; cases this)
theorem ordKs_of : pairsK [(D.str "=", D.lst [D.int 0]), (D.str "<>", D.lst [D.int (-1), D.int 1]), (D.str "<", D.lst [D.int (-1)]), (D.str "<=", D.lst [D.int (-1), D.int 0]), (D.str ">", D.lst [D.int 1]), (D.str ">=", D.lst [D.int 0, D.int 1])] = some ordKs := rfl
theorem ordKs_at (g : Sg) : dget (mergeD [] ordKs) (.inr (sgS g)) = some (dL (ordS g)) := by
  cases g <;> rfl
theorem p_own_meets {K : PySem.W.Frag} (ds : List D) (m : Mst) (P : D → Mst → Prop) (VX : XV) (h : wMeets ds m P VX) : ds.length = 2 ∧ v_own_meets K (vends P) (vstart N_own_meets.length ds) m := by
  obtain ⟨k, c, t, rfl, hc, ht, hP⟩ := h
  refine ⟨rfl, ?_⟩
  unfold v_own_meets
  have hg : ∀ g : Sg, decide (sgS g = "open") = false ∧ decide (sgS g = "among") = false := fun g => by cases g <;> decide +kernel
  cases t with
  | opn =>
    show (vSeqS _ _ : VS) _ [some c, some (.tup [.str "open"]), none, none] _
    walk_at "vw"
    refine e_ixT (x := .str "open") rfl ?_
    walk_at "vw"
    exact hP
  | amg vs =>
    show (vSeqS _ _ : VS) _ [some c, some (.tup [.str "among", .lst vs]), none, none] _
    walk_at "vw"
    refine e_ixT (x := .str "among") rfl ?_
    walk_at "vw"
    rcases hc with rfl | hc
    · refine w_ifT ?_
      walk_at "vv"
      exact hP
    · rw [show mtD c (.amg vs) = (!c.isN && vs.any fun y => eqDD c y) from rfl, val_nn hc] at hP
      rw [val_nn hc]
      refine w_ifF ?_
      walk_at "vw"
      refine e_ixT (x := .str "among") rfl ?_
      walk_at "vw"
      refine e_ixT (x := .lst vs) rfl ?_
      refine e_itL ?_
      refine lc_bl (f := fun v => eqDD c v) (by have := ht.1; omega) (fun i v Q hvm hQ => ?_) ?_
      · walk_at "vv"
        exact e_eqV hc (ht.2 v hvm) hQ
      · walk_at "vv"
        refine e_any ?_
        rw [any_map]
        exact hP
  | sg g v =>
    show (vSeqS _ _ : VS) _ [some c, some (.tup [.str (sgS g), v]), none, none] _
    walk_at "vw"
    refine e_ixT (x := .str (sgS g)) rfl ?_
    walk_at "vv"
    rw [(hg g).1]
    walk_at "vw"
    rcases hc with rfl | hc
    · refine w_ifT ?_
      walk_at "vv"
      exact hP
    · rw [show mtD c (.sg g v) = (!c.isN && soD c g v) from rfl, val_nn hc] at hP
      rw [val_nn hc]
      refine w_ifF ?_
      walk_at "vw"
      refine e_ixT (x := .str (sgS g)) rfl ?_
      walk_at "vv"
      rw [(hg g).2]
      walk_at "vv"
      refine e_ixT (x := v) rfl ?_
      refine e_gtV hc ht ?_
      walk_at "vv"
      refine e_ixT (x := v) rfl ?_
      refine e_ltV hc ht ?_
      walk_at "vv"
      repeat (refine ⟨sz_le (Nat.le_of_ble_eq_true rfl), ?_⟩; walk_at "vv")
      refine ⟨_, ordKs_of, by decide, ?_⟩
      walk_at "vv"
      refine e_ixT (x := .str (sgS g)) rfl ?_
      refine e_ixD rfl (ordKs_at g) ?_
      refine e_inL rfl (by cases g <;> rfl) (so_ord g hc ht) ?_
      exact hP
local macro_rules | `(tactic| walk_at "v1") => `(tactic| with_reducible first
  | refine e_seqUpd ?_)
local macro_rules | `(tactic| walk_at "v1") => `(tactic| with_reducible first
  | refine e_disp ?_
  | refine e_pcons ?_
  | refine e_pnil ?_)
local macro_rules | `(tactic| walk_at "lit") => `(tactic| first | refine w_ifFd (by decide +kernel) ?_ | refine w_ifTd (by decide +kernel) ?_)
local macro_rules | `(tactic| walk_at "vw") => `(tactic| repeat (first | walk_at "v1" | (with_reducible refine e_seq ?_) | walk_at "lit"))
def t_meets (K : PySem.W.Frag) (s_is_so_ : Sp) : TS :=
      (tSeq (tIfS (tTest (tOp (rEqU K) (tOp (rIxU K) (tVar 1) (tC (.int 0))) (tC (.str ("open" : Str)))))
      (tRet (tOp (rIsN) (tVar 0) (tC .non)))
      tNext)
      (tSeq (tIfS (tTest (tOp (rIsN) (tVar 0) (tC .non)))
      (tRet (tC (.bl false)))
      tNext)
      (tSeq (tIfS (tTest (tOp (rEqU K) (tOp (rIxU K) (tVar 1) (tC (.int 0))) (tC (.str ("among" : Str)))))
      (tRet (tOp (rInU K false) (tVar 0) (tOp (rIxU K) (tVar 1) (tC (.int 1)))))
      tNext)
      (tRet (tCall s_is_so_ [] E0 (tCons (tVar 0) (tCons (tOp (rIxU K) (tVar 1) (tC (.int 0))) (tCons (tOp (rIxU K) (tVar 1) (tC (.int 1))) tNil))))))))
abbrev N_meets : List Str := [("cell" : Str), ("test" : Str)]
def v_meets (K : PySem.W.Frag) (vs_is_so : VSp) : VS :=
      (vSeqS (vIf (vTest (vOp vEqC (vOp vIx (vVar 1) (vC (.int 0))) (vC (.str ("open" : Str)))))
      (vRet (vOp vIsN (vVar 0) (vC .non)))
      vNext)
      (vSeqS (vIf (vTest (vOp vIsN (vVar 0) (vC .non)))
      (vRet (vC (.bl false)))
      vNext)
      (vSeqS (vIf (vTest (vOp vEqC (vOp vIx (vVar 1) (vC (.int 0))) (vC (.str ("among" : Str)))))
      (vRet (vOp (vIn false) (vVar 0) (vOp vIx (vVar 1) (vC (.int 1)))))
      vNext)
      (vRet (vCall vs_is_so (vCons (vVar 0) (vCons (vOp vIx (vVar 1) (vC (.int 0))) (vCons (vOp vIx (vVar 1) (vC (.int 1))) vNil))))))))
theorem sim_meets {K : PySem.W.Frag} {vs_is_so : VSp} {vsp : VSp} (hv : ∀ ds m P VX, vsp ds m P VX → ds.length = 2 ∧ v_meets K vs_is_so (vends P) (vstart N_meets.length ds) m) :
    ∀ us H Q E, spV K .O vsp us H Q E → t_meets K (spV K .O vs_is_so) { nx := fun _ H' => Q .non H', rt := Q } (L2.start N_meets us) H :=
  sim_def (n := 2) (t := .O) (N := N_meets) (Γn := [.F, .F]) (Γb := []) (Γc := []) (ts := fun E => t_meets K (spV K .O vs_is_so)) (vs := fun VX => v_meets K vs_is_so) (by decide) (fun c W VX hK hx => by
    subst hK
    exact (x_seq (x_if (Γn := [.F, .F]) (s_test (SO.b (s_op o_eq (SF.b (s_opF o_ix (SF.b (s_varF (by rfl))) (SO.b s_int))) (SO.b s_str))))
      (x_retO (s_op o_isN (SF.b (s_varF (by rfl))) (SO.b s_non)))
      x_next)
      (x_seq (x_if (Γn := [.F, .F]) (s_test (SO.b (s_op o_isN (SF.b (s_varF (by rfl))) (SO.b s_non))))
      (x_retO s_bl)
      x_next)
      (x_seq (x_if (Γn := [.F, .F]) (s_test (SO.b (s_op o_eq (SF.b (s_opF o_ix (SF.b (s_varF (by rfl))) (SO.b s_int))) (SO.b s_str))))
      (x_retO (s_op (o_in false) (SF.b (s_varF (by rfl))) (SF.b (s_opF o_ix (SF.b (s_varF (by rfl))) (SO.b s_int)))))
      x_next)
      (x_retO (s_callO (g_cons (s_varF (by rfl)) (g_cons (s_opF o_ix (SF.b (s_varF (by rfl))) (SO.b s_int)) (g_cons (s_opF o_ix (SF.b (s_varF (by rfl))) (SO.b s_int)) g_nil))))))))) hv
def OkC (k : Kd) : Ts → Prop
  | .opn => True
  | .amg vs => vs.length ≤ 12 ∧ ∀ v ∈ vs, Val k v
  | .sg _ v => Val k v
theorem sg_words (g : Sg) : decide (sgS g = "open") = false ∧ decide (sgS g = "among") = false := by cases g <;> decide +kernel
theorem eqDD_symm {k : Kd} {x y : D} (hx : Val k x) (hy : Val k y) : eqDD x y = eqDD y x := by
  rw [eqDD_lt hx hy, eqDD_lt hy hx, Bool.and_comm]
theorem any_symm {k : Kd} {x : D} {ds : List D} (hx : Val k x) (h : ∀ v ∈ ds, Val k v) : (ds.any fun y => eqDD y x) = ds.any fun y => eqDD x y := by
  induction ds with
  | nil => rfl
  | cons d ds ih => rw [List.any_cons, List.any_cons, ih fun v hv => h v (List.mem_cons_of_mem _ hv), eqDD_symm (h d List.mem_cons_self) hx]
def wMeetsC : VSp := fun ds m P _ => ∃ (k : Kd) (c : D) (t : Ts), ds = [c, tsD t] ∧ CellK k c ∧ OkC k t ∧ P (.bl (mtD c t)) m
theorem p_meets {K : PySem.W.Frag} (ds : List D) (m : Mst) (P : D → Mst → Prop) (VX : XV) (h : wMeetsC ds m P VX) : ds.length = 2 ∧ v_meets K wIsSo (vends P) (vstart N_meets.length ds) m := by
  obtain ⟨k, c, t, rfl, hc, ht, hP⟩ := h
  refine ⟨rfl, ?_⟩
  unfold v_meets
  cases t with
  | opn =>
    show (vSeqS _ _ : VS) _ [some c, some (.tup [.str "open"])] _
    walk_at "vw"
    refine e_ixT (x := .str "open") rfl ?_
    walk_at "vw"
    exact hP
  | amg vs =>
    show (vSeqS _ _ : VS) _ [some c, some (.tup [.str "among", .lst vs])] _
    walk_at "vw"
    refine e_ixT (x := .str "among") rfl ?_
    walk_at "vw"
    rcases hc with rfl | hc
    · refine w_ifT ?_
      walk_at "vv"
      exact hP
    · rw [show mtD c (.amg vs) = (!c.isN && vs.any fun y => eqDD c y) from rfl, val_nn hc] at hP
      rw [val_nn hc]
      refine w_ifF ?_
      walk_at "vw"
      refine e_ixT (x := .str "among") rfl ?_
      walk_at "vw"
      refine e_ixT (x := .lst vs) rfl ?_
      refine e_inL (val_fl hc) (vals_fl ht.2) (any_val hc ht.2) ?_
      rw [any_symm hc ht.2]
      exact hP
  | sg g v =>
    show (vSeqS _ _ : VS) _ [some c, some (.tup [.str (sgS g), v])] _
    walk_at "vw"
    refine e_ixT (x := .str (sgS g)) rfl ?_
    walk_at "vv"
    rw [(sg_words g).1]
    walk_at "vw"
    rcases hc with rfl | hc
    · refine w_ifT ?_
      walk_at "vv"
      exact hP
    · rw [show mtD c (.sg g v) = (!c.isN && soD c g v) from rfl, val_nn hc] at hP
      rw [val_nn hc]
      refine w_ifF ?_
      walk_at "vw"
      refine e_ixT (x := .str (sgS g)) rfl ?_
      walk_at "vv"
      rw [(sg_words g).2]
      walk_at "vw"
      refine e_ixT (x := .str (sgS g)) rfl ?_
      walk_at "vv"
      refine e_ixT (x := v) rfl ?_
      walk_at "vv"
      exact ⟨k, c, v, g, rfl, hc, ht, hP⟩
section
variable {P : Program} {w : World} {K : PySem.W.Frag} {mg : Str → Option Value} {base : Heap} {CX : CXT} {k : Nat} {f : Addr} {fd : FuncData} {ps : List Str} {sp sp' : Sp}
structure FnG (P : Program) (w : World) (K : PySem.W.Frag) (mg : Str → Option Value) (base : Heap) (CX : CXT) (k : Nat) (f : Addr) (fd : FuncData) (ps : List Str) (sp : Sp) : Prop where
  ln : ∀ {vs : List V} {H : Hp} {Q : VK} {E : XK}, sp vs H Q E → vs.length = ps.length
  go : ∀ {A : Around}, A.guards = some [] → Room k A → ∀ {out : List PySem.Env} {s : Shared} {H : Hp}, Env0 P w K mg base A out s H → ∀ {args : Args} {us : List Value}, BindsTo s fd args (ps.zip us) →
    ∀ {vs : List V}, Vals vs us → ∀ {Q : VK} {E : XK}, sp vs H Q E → codeAny (model P w) A (.call (.ref f) args) (CR CX out P w H s Q E) s
theorem FnG.of (F : FnOk P w K mg base CX k f fd ps sp) : FnG P w K mg base CX k f fd ps sp :=
  ⟨fun h => F.len _ _ _ _ h, fun {A} _ r {out s H} e {args us} b {vs} v {Q E} h => F.run A out s H args us vs Q E r e b v h⟩
theorem FnG.imp (F : FnG P w K mg base CX k f fd ps sp) (h : ∀ vs H Q E, sp' vs H Q E → sp vs H Q E) : FnG P w K mg base CX k f fd ps sp' :=
  ⟨fun {vs H Q E} q => F.ln (h vs H Q E q), fun {A} g r {out s H} e {args us} b {vs} v {Q E} q => F.go g r e b v (h vs H Q E q)⟩
theorem FnG.mono {j : Nat} (F : FnG P w K mg base CX j f fd ps sp) (h : j ≤ k) : FnG P w K mg base CX k f fd ps sp :=
  ⟨F.ln, fun g r => F.go g (r.mono h)⟩
theorem fun_okG {x qual : Str} {st : Stmt} {N : List Str} (F : Fun K x qual st f fd) (S : FnScope N ps (defScope st)) (len : ∀ vs H Q E, sp vs H Q E → vs.length = ps.length)
    (bd : ∀ (cdv : Value) (A : Around) (out : List PySem.Env) (s : Shared) (H : Hp) (vs : List V) (Q : VK) (E : XK), (A.deeper (envOfC qual (defScope st) s.heap.objs.size f cdv)).guards = some [] →
      Room k (A.deeper (envOfC qual (defScope st) s.heap.objs.size f cdv)) → sp vs H Q E →
      ∃ t, PSs (cxOf CX0 P w K mg base N qual (defScope st) f cdv A out s H E).nox (defBody st) t ∧ t { nx := fun _ H2 => Q .non H2, rt := Q } (L2.start N vs) H) : FnG P w K mg base CX0 (k + 1) f fd ps sp := by
  obtain ⟨_, _, _, _, _, _, cv, _, _, rfl, look, hcode⟩ := F.ex
  refine ⟨fun h => len _ _ _ _ h, fun {A} gA room {out s H} en {args us} bnd {vs} vls {Q E} want => ?_⟩
  have old : ∀ (b : Addr) (o : Obj), base.get? b = some o → s.heap.get? b = some o := fun b o q => (en.bs b o q).left
  have inS : K.In s.heap := en.mod.kin.keeps old
  have kinds : ∀ z ∈ ps.zip us, (defScope st).names.lookup z.1 = some .local ∨ ((defScope st).names.lookup z.1 = some .cell ∧ ((cellsFrom (s.heap.objs.size + 1) (defScope st).names []).lookup z.1).isSome = true) := by
    rintro ⟨nm, u⟩ hz
    exact (S.par nm (List.of_mem_zip hz).1).imp id fun q => ⟨q, PySem.W.cellsFrom_some _ _ _ (.inl q)⟩
  refine codeAny_call_function room.depth (inS f _ look) rfl S.co S.gen rfl (PySem.W.codeRec_of inS hcode) (bnd _ _ _ _ (wpAny_newFunctionEnv_cells S.kind kinds ?_))
  rintro _ rfl s1 x
  refine ⟨(en.mod.nolimit.keeps old).keeps x.toInCall.keep, codeAny_func ?_⟩
  obtain ⟨t, ht, run⟩ := bd cv A out s H vs Q E gA (room.deeper _) want
  have J0 := inv_start (CX := CX0) (P := P) (w := w) (E := E) S room.hd en (len _ _ _ _ want) vls x
  have fin : ∀ {σ2 : L2.St} {H2 : Hp} {v : V} {u : Value} {s2 : Shared}, Inv (cxOf CX0 P w K mg base N qual (defScope st) f cv A out s H E) [] σ2 H2 s2 → RelV v u → Q v H2 → CE out P w H s Q u s2 :=
    fun J rv q => ⟨_, _, J.os, J.bare, J.base, J.hok, rv, q⟩
  refine wpAny_mono (ht.nox.run [] s1 (L2.start N vs) H _ J0 run) ?_ fun _ _ q => q
  rintro fl s2 got
  cases fl with
  | brk => exact got.elim fun _ q => q.elim fun _ q => q.2.elim
  | cont => exact got.elim fun _ q => q.elim fun _ q => q.2.elim
  | ret u =>
    obtain ⟨_, _, _, J, rv, q⟩ := got
    exact fin J rv q
  | next =>
    obtain ⟨_, _, J, q⟩ := got
    exact fin (v := V.non) (u := Value.none) J rfl q
end
section
variable {X : Cx} {x : Str} {p pos : Pos} {e : Expr} {es : List Expr} {t : TA} {k : Nat} {f : Addr} {fd : FuncData} {ps : List Str} {sp : Sp}
theorem pe_callG (F : FnG X.prog X.w X.K X.mg X.base CX0 k f fd ps sp) (gA : X.A.guards = some []) (hr : Room k X.A) (hg : Gl X x) (hm : X.mg x = some (.ref f)) (hk : PySem.W.keepIn X.K (.ref f) = true) (hb : Binds X.K fd ps [])
    (ha : PA X (e :: es) t) (hdb : (x == ("__debug__" : Str)) = false := by decide) (he : starEach (e :: es) X.env = (false, eval e X.env) :: starEach es X.env := by rfl) (hpl : (backTo pos (starEach es X.env)).any (·.1) = false := by rfl) :
    PE X (.Call (.Name x p) (e :: es) [] pos) (tCall sp [] E0 t) := by
  refine ⟨fun pins s σ H Q I h => wpAny_Call_Name_kw (ld_glob I hg hm ?_ hdb)⟩
  refine PySem.W.callWith_K (h₀ := X.base) I.ok.mod.kin hk (thn (ha.run pos pins s σ H _ I h) ?_) he hpl
  rintro us s1 ⟨vs, H1, J, vls, want⟩
  rw [List.append_nil] at want
  refine ⟨J.kIn, wpAny_call (codeAny_mono (F.go (args := ⟨us, []⟩) (us := us) gA hr J.env0 ?_ vls want) ?_)⟩
  · have q := hb s1 us J.kIn (by rw [List.append_nil, ← vls.length]; exact F.ln want)
    rwa [List.append_nil] at q
  · rintro (e | fl) s2 got
    · exact got.elim
    · cases fl with
      | ret u => exact J.after got
      | next => exact got.elim
      | brk => exact got.elim
      | cont => exact got.elim
def rStrQ (K : PySem.W.Frag) : List V → Hp → VK → Prop := fun xs H Q => ∃ a d, xs = [.ref a] ∧ Dp K H (.ref a) d ∧ d.showable = true ∧ d.hasDict = false ∧ d.depth ≤ 20 ∧ d.shown.length ≤ sizeLine ∧ Q (.str d.shown) H
theorem call_strQ {k : Nat} (gA : X.A.guards = some []) (hr : Room k X.A) : CallR X (.type "str") (rStrQ X.K) := by
  intro pins s σ H xs us Q I r h
  obtain ⟨a, d, rfl, hd, hs, hn, hdp, hz, q⟩ := h
  obtain ⟨u, rfl, rx⟩ := vals1 r
  obtain rfl : u = Value.ref a := rx
  obtain ⟨as, rd⟩ := Dp.reads I d _ _ hd rfl
  have hu := hr.units
  exact str_of_reads rd hs (fun c => by rw [hn] at c; cases c) gA (by omega) (fun _ _ q => q) (fun h' u tk hk => ⟨.str d.shown, H, I.kept hk, ⟨u, rfl⟩, q⟩) hz
end
theorem script_g {P : Program} {w : World} {K : PySem.W.Frag} {mg mb : Str → Option Value} {k : Nat} {fa a : Addr} {fd : FuncData} {x : Str} {sp : Sp} {s : Shared} {vs : List Value} {ns : List Int}
    (inK : K.In s.heap) (hns : s.heap.Ns mainGlobals mg) (hb : s.heap.Ns builtinsNs mb) (hbb : ∀ y : Str, y ≠ "__name__" → mb y = bootBuiltins y) (hlim : s.heap.NoLimit) (hgen : s.gens = #[])
    (ha : s.heap.get? a = some { cls := .type "list", data := .seq vs.toArray }) (hi : IntsAre vs ns) (hl : ns.length ≤ sizeLine) (room : Room k callerA)
    (F : ∀ base : Heap, K.In base → base.Ns mainGlobals mg → FnG P w K mg base CX0 k fa fd [x] sp) (bnd : ∀ (s2 : Shared) (u : Value), BindsTo s2 fd ⟨[u], []⟩ [(x, u)])
    (want : ∀ H : Hp, SqL K H a (ns.map V.int) → sp [.ref a] H (fun v _ => v = .bl true) fun _ _ _ => False) :
    codeAny (model P w) callerA (.call (.ref fa) ⟨[.ref a], []⟩) (fun r s2 => r = .ok (.ret (.bool true)) ∧ OldK s.heap s2.heap ∧ s2.os = s.os ∧ AllBare s2.gens) s := by
  have vls := vals_ints hi
  have many : vs.toArray.size = ns.length := by rw [List.size_toArray]; exact hi.length
  have key : ∀ H : Hp, SqL K H a (ns.map V.int) → HOk P w H s.heap → (∀ b, H b ≠ none → b = a ∧ K.lookup b = none ∧ ∃ xs, H b = some (.frz { cls := .type "list", data := .seq vs.toArray } xs)) →
      codeAny (model P w) callerA (.call (.ref fa) ⟨[.ref a], []⟩) (fun r s2 => r = .ok (.ret (.bool true)) ∧ OldK s.heap s2.heap ∧ s2.os = s.os ∧ AllBare s2.gens) s := by
    intro H lst hok only
    have notl : ∀ {b : Addr} {o : Obj}, s.heap.get? b = some o → (∀ n, o.data ≠ .seq vs.toArray n) → H b = none := by
      intro b o e nd
      by_cases c : H b = none
      · exact c
      · obtain ⟨rfl, _⟩ := only b c
        rw [ha] at e
        cases e
        exact absurd rfl (nd _)
    have names : ∀ {b : Addr} {m : Str → Option Value}, s.heap.Ns b m → (hidT s.heap H).Ns b m := by
      rintro b m ⟨o, es, ep, e, d, r⟩
      exact ⟨o, es, ep, hidT_get e (notl e fun n q => by rw [d] at q; cases q), d, r⟩
    have inB : K.In (hidT s.heap H) := by
      intro b o e
      refine hidT_get (inK b o e) ?_
      by_cases c : H b = none
      · exact c
      · rw [(only b c).2.1] at e; cases e
    obtain ⟨mc, l1, l2⟩ := hlim
    have en : Env0 P w K mg (hidT s.heap H) callerA [] s H :=
      { frames := rfl, mod := ⟨inB, names hns, ⟨mb, names hb, hbb⟩, ⟨mc, names l1, l2⟩⟩, bs := fun b o => of_hidT, bsz := Nat.le_of_eq (hidT_size _ _), funs := trivial, frf := fun b q => (nomatch q), hok := hok, bare := .of_eq hgen }
    refine codeAny_mono ((F _ inB (names hns)).go rfl room en (bnd s (.ref a)) (vs := [.ref a]) (.cons rfl .nil) (want H lst)) ?_
    rintro (e | fl) s2 got
    · exact got.elim
    · cases fl with
      | next => exact got.elim
      | brk => exact got.elim
      | cont => exact got.elim
      | ret u =>
        obtain ⟨v, H2, os, bare, un, hok2, rv, q⟩ := got
        replace q : v = .bl true := q
        subst q
        obtain rfl : u = Value.bool true := rv
        refine ⟨rfl, OldK.of_keep fun b o e => ?_, os, bare⟩
        by_cases c : H b = none
        · exact un.keep b o e c (fun z => nomatch z) (fun z => nomatch z)
        · obtain ⟨_, _, xs, z⟩ := only b c
          have e1 := (hok b _ z).1
          have e2 := (hok2 b _ (un.frzs b _ _ z)).1
          rw [e] at e1
          cases e1
          exact e2
  cases hk : K.lookup a with
  | some o =>
    have e := inK a o hk
    rw [ha] at e
    cases e
    exact key (fun _ => none) (.inr ⟨_, vs.toArray, _, hk, rfl, rfl, rfl, by rw [many]; exact hl, by simpa using vls⟩) (fun b u z => nomatch z) fun b z => absurd rfl z
  | none =>
    refine key (fun b => if b = a then some (.frz { cls := .type "list", data := .seq vs.toArray } (.lst (ns.map V.int))) else none) (.inl (.inr ⟨_, if_pos rfl⟩)) (fun b u z => ?_) fun b z => ?_
    · replace z : (if b = a then some (HO.frz { cls := .type "list", data := .seq vs.toArray } (.lst (ns.map V.int))) else none) = some u := z
      split at z
      · rename_i c
        cases z
        subst c
        exact ⟨ha, by rw [List.length_map]; exact hl, vs, _, vls, ha⟩
      · cases z
    · replace z : (if b = a then some (HO.frz { cls := .type "list", data := .seq vs.toArray } (.lst (ns.map V.int))) else none) ≠ none := z
      split at z
      · rename_i c
        subst c
        exact ⟨rfl, hk, _, if_pos rfl⟩
      · exact absurd rfl z
theorem walk_g {l : PySem.W.OpenLaw} {n k : Nat} {q : Program} {loose : List Str} {XP : (Str → Option Value) → Heap → Prop} {YP : World → Heap → Prop} {d : DefRec} {K : Params → PySem.W.Frag} {sp : World → Sp} {x : Str}
    (hn : l.most = some n) (hn2 : n ≤ sizeLine) (hdf : d.params.defaults = []) (room : Room k callerA) (hY : ∀ (w : World) (h : Heap), YP w h → (K w.params).In h)
    (F : ∀ (w : World) (mg : Str → Option Value) (fa : Addr) (h : Heap), (K w.params).In h → h.Ns mainGlobals mg → mg d.name = some (.ref fa) →
      ∃ fd : FuncData, (∀ (s : Shared) (u : Value), BindsTo s fd ⟨[u], []⟩ [(x, u)]) ∧ ∀ base : Heap, (K w.params).In base → base.Ns mainGlobals mg → FnG l.prog w (K w.params) mg base CX0 k fa fd [x] (sp w))
    (want : ∀ (w : World) (H : Hp) (a : Addr) (ns : List Int), ns.length ≤ n → SqL (K w.params) H a (ns.map V.int) → sp w [.ref a] H (fun v _ => v = .bl true) fun _ _ _ => False) :
    PySem.W.WalkO q loose XP YP l.row.toRowW d [] (fun f vs => PySem.call f vs) := by
  refine Att.attach_call hn hdf fun w s0 s1 mg mb fa o pm cd doc a vs ns G Y _ _ _ hmg obj intz few hg => ?_
  obtain ⟨fd, bnd, hF⟩ := F w mg fa _ (hY w _ Y) G.T.g hmg
  exact script_g (hY w _ Y) G.T.g G.T.b G.T.builtins G.T.nolimit hg obj intz (Nat.le_trans few hn2) room hF bnd fun H hS => want w H a ns few hS
structure ShOk (n z : Nat) (d : D) : Prop where
  pl : d.pl = true
  sh : d.py.showable = true
  nd : d.py.hasDict = false
  dp : d.py.depth ≤ n
  ln : d.py.shown.length ≤ z
def D.sq : D → Bool
  | .lst _ | .tup _ => true
  | _ => false
def vStrQ : List D → (D → Prop) → Prop
  | [x], P => x.sq = true ∧ ShOk 20 sizeLine x ∧ P (.str x.py.shown)
  | _, _ => False
theorem l_strQ {K : PySem.W.Frag} : ClV K (rStrQ K) vStrQ := fun G H xs ds P Q s h f k => by
  unfold vStrQ at f
  split at f
  · rename_i _ x
    obtain ⟨v, rfl, hv⟩ := h.inv1
    obtain ⟨hs, ok, f⟩ := f
    have hp := (hv.deep s).dp ok.pl
    have ha : ∃ a, v = .ref a := by
      cases x with
      | lst ds => rw [D.py] at hp; cases hp; exact ⟨_, rfl⟩
      | tup ds => rw [D.py] at hp; cases hp; exact ⟨_, rfl⟩
      | _ => cases hs
    obtain ⟨a, rfl⟩ := ha
    exact ⟨a, _, rfl, hp, ok.sh, ok.nd, ok.dp, ok.ln, k _ _ _ f (.old (.str _) rfl)⟩
  · exact f.elim
theorem ShOk.le {n m z y : Nat} {d : D} (h : ShOk n z d) (h1 : n ≤ m) (h2 : z ≤ y) : ShOk m y d := ⟨h.pl, h.sh, h.nd, Nat.le_trans h.dp h1, Nat.le_trans h.ln h2⟩
theorem sh_int {i : Int} (h : i.natAbs < 2 ^ 100) : ShOk 0 101 (.int i) := by
  have hl : i.natAbs.log2 < 100 := by
    by_cases c : i.natAbs = 0
    · rw [c]; decide
    · exact (Nat.log2_lt c).mpr h
  refine ⟨rfl, ?_, rfl, Nat.le_refl _, ?_⟩
  · show decide (i.natAbs.log2 < 1920) = true
    exact decide_eq_true (by omega)
  · show (Str.ofString (toString i)).length ≤ 101
    rw [PySem.ofString_length]
    exact int_text_length_le (by decide) hl
theorem sh_str {s : Str} {m : Nat} (hl : s.length ≤ m) (hc : ∀ c ∈ s.cps.toList, c < 16 ^ 8) : ShOk 0 (10 * m + 2) (.str s) := by
  refine ⟨rfl, rfl, rfl, Nat.le_refl _, ?_⟩
  show (reprText s).length ≤ _
  have := StrLaws.reprText_len s hc
  omega
theorem piled_le {z : Nat} : ∀ {ts : List Str}, (∀ t ∈ ts, t.length ≤ z) → piled ts ≤ ts.length * (z + 2)
  | [], _ => Nat.zero_le _
  | t :: ts, h => by
    have h1 := h t List.mem_cons_self
    have h2 := piled_le (ts := ts) fun u hu => h u (List.mem_cons_of_mem _ hu)
    rw [piled_cons, List.length_cons, Nat.succ_mul]
    omega
theorem listText_le (ts : List Str) : (listText ts).length ≤ piled ts + 2 := by
  unfold listText
  rw [strLen_append]
  have e1 : ((("]" : String) : Str)).length = 1 := rfl
  rw [e1]
  cases ts with
  | nil => decide +kernel
  | cons t r =>
    show (textFrom 1 (("[" : Str) ++ (if 0 > 0 then ", " else "" : String) ++ t) r).length + 1 ≤ _
    rw [textFrom_length_pos r 1 _ (by decide), piled_cons, strLen_append, strLen_append]
    have e2 : ((("[" : String) : Str)).length = 1 := rfl
    have e3 : (((if 0 > 0 then ", " else "" : String) : Str)).length = 0 := rfl
    rw [e2, e3]
    omega
theorem shAll {n z : Nat} : ∀ {ds : List D}, (∀ d ∈ ds, ShOk n z d) → D.pls ds = true ∧ PyData.showableAll (D.pys ds) = true ∧ PyData.hasDictAll (D.pys ds) = false ∧ PyData.depthAll (D.pys ds) ≤ n ∧ (PyData.shownAll (D.pys ds)).length = ds.length ∧ ∀ t ∈ PyData.shownAll (D.pys ds), t.length ≤ z
  | [], _ => ⟨rfl, rfl, rfl, Nat.zero_le _, rfl, fun t h => nomatch h⟩
  | d :: ds, h => by
    obtain ⟨h1, h2, h3, h4, h5, h6⟩ := shAll (ds := ds) fun x hx => h x (List.mem_cons_of_mem _ hx)
    have hd := h d List.mem_cons_self
    refine ⟨by rw [D.pls, hd.pl, h1]; rfl, by rw [D.pys, PyData.showableAll, hd.sh, h2]; rfl, by rw [D.pys, PyData.hasDictAll, hd.nd, h3]; rfl, by rw [D.pys, PyData.depthAll]; have := hd.dp; omega, by rw [D.pys, PyData.shownAll, List.length_cons, List.length_cons, h5], fun t ht => ?_⟩
    rw [D.pys, PyData.shownAll] at ht
    rcases List.mem_cons.mp ht with rfl | ht
    · exact hd.ln
    · exact h6 t ht
theorem ShOk.lst {n z k : Nat} {ds : List D} (h : ∀ d ∈ ds, ShOk n z d) (hk : ds.length ≤ k) : ShOk (n + 1) (k * (z + 2) + 2) (.lst ds) := by
  obtain ⟨h1, h2, h3, h4, h5, h6⟩ := shAll h
  refine ⟨by rw [D.pl]; exact h1, by rw [D.py, PyData.showable]; exact h2, by rw [D.py, PyData.hasDict]; exact h3, by rw [D.py, PyData.depth]; omega, ?_⟩
  rw [D.py, PyData.shown]
  have a := listText_le (PyData.shownAll (D.pys ds))
  have b := piled_le h6
  rw [h5] at b
  have c := Nat.mul_le_mul_right (z + 2) hk
  omega
theorem ShOk.tup {n z k : Nat} {ds : List D} (h : ∀ d ∈ ds, ShOk n z d) (hk : ds.length ≤ k) : ShOk (n + 1) (k * (z + 2) + 2) (.tup ds) := by
  obtain ⟨h1, h2, h3, h4, h5, h6⟩ := shAll h
  refine ⟨by rw [D.pl]; exact h1, by rw [D.py, PyData.showable]; exact h2, by rw [D.py, PyData.hasDict]; exact h3, by rw [D.py, PyData.depth]; omega, ?_⟩
  rw [D.py, PyData.shown]
  have a := fmt_text (PyData.shownAll (D.pys ds))
  have b := piled_le h6
  rw [h5] at b
  have c := Nat.mul_le_mul_right (z + 2) hk
  omega
theorem sh_val {k : Kd} {d : D} (h : Val k d) : ShOk 0 402 d := by
  cases k with
  | num =>
    obtain ⟨z, rfl, hz⟩ := h
    exact (sh_int hz).le (by omega) (by omega)
  | txt =>
    obtain ⟨s, rfl, hs⟩ := h
    obtain ⟨ks, rfl, hk, hl⟩ := hs
    refine (sh_str (m := 40) (by rw [txt_len]; exact hk) fun c hc => ?_).le (by omega) (by omega)
    rw [txt_cps] at hc
    obtain ⟨q, hq, rfl⟩ := List.mem_map.mp hc
    exact (by decide +kernel : ∀ q : Fin 94, sg q.val < 16 ^ 8) ⟨q, hl q hq⟩
theorem e_strQ {x : D} {P : D → Prop} (hs : x.sq = true) {n z : Nat} (ok : ShOk n z x) (hn : n ≤ 20) (hz : z ≤ 16777216) (h : P (.str x.py.shown)) : vStrQ [x] P := ⟨hs, ok.le hn (by rw [sizeLine_eq]; exact hz), h⟩
def t_told_so (K : PySem.W.Frag) (s_own_meets_ : Sp) (s_meets_ : Sp) : TS :=
      (tSeq (tAsg (tCall s_own_meets_ [] E0 (tCons (tVar 0) (tCons (tVar 1) tNil))) (gName 2))
      (tSeq (tAsg (tCB (rStrQ K) (tCons (tVar 1) tNil)) (gName 3))
      (tSeq (tFor (iRng1 (tCons (tC (.int 2)) tNil)) (gName 4)
      (tSeq (tAsg (tCall s_meets_ [] E0 (tCons (tVar 0) (tCons (tVar 1) tNil))) (gName 5))
      (tIfS (tOr (tNot (tTru K (tCB (rIsiU K) (tCons (tVar 5) (tCons (tC (.ty "bool")) tNil))))) (tTest (tOp (rNeU K) (tVar 5) (tVar 2))))
      (tRet (tC (.bl false)))
      tNext)))
      (tRet (tOp (rEqU K) (tCB (rStrQ K) (tCons (tVar 1) tNil)) (tVar 3))))))
abbrev N_told_so : List Str := [("_law_cell" : Str), ("_law_test_here" : Str), ("_law_due" : Str), ("_law_kept" : Str), ("_law_turn" : Str), ("_law_told" : Str)]
def v_told_so (K : PySem.W.Frag) (vs_own_meets : VSp) (vs_meets : VSp) : VS :=
      (vSeqS (vAsg (vCall vs_own_meets (vCons (vVar 0) (vCons (vVar 1) vNil))) (vgName 2))
      (vSeqS (vAsg (vCB vStrQ (vCons (vVar 1) vNil)) (vgName 3))
      (vSeqS (vFor [4, 5] (vRng1 (vCons (vC (.int 2)) vNil)) (vgName 4)
      (vSeqS (vAsg (vCall vs_meets (vCons (vVar 0) (vCons (vVar 1) vNil))) (vgName 5))
      (vIf (vOr (vNot (vTru (vCB vIsi (vCons (vVar 5) (vCons (vC (.ty "bool")) vNil))))) (vTest (vOp vNeC (vVar 5) (vVar 2))))
      (vRet (vC (.bl false)))
      vNext)))
      (vRet (vOp vEqC (vCB vStrQ (vCons (vVar 1) vNil)) (vVar 3))))))
theorem sim_told_so {K : PySem.W.Frag} {vs_own_meets : VSp} {vs_meets : VSp} {vsp : VSp} (hv : ∀ ds m P VX, vsp ds m P VX → ds.length = 2 ∧ v_told_so K vs_own_meets vs_meets (vends P) (vstart N_told_so.length ds) m) :
    ∀ us H Q E, spV K .O vsp us H Q E → t_told_so K (spV K .O vs_own_meets) (spV K .O vs_meets) { nx := fun _ H' => Q .non H', rt := Q } (L2.start N_told_so us) H :=
  sim_def (n := 2) (t := .O) (N := N_told_so) (Γn := [.F, .F, .F, .F, .F, .F]) (Γb := []) (Γc := []) (ts := fun E => t_told_so K (spV K .O vs_own_meets) (spV K .O vs_meets)) (vs := fun VX => v_told_so K vs_own_meets vs_meets) (by decide) (fun c W VX hK hx => by
    subst hK
    exact (x_seq (x_asgO (i := 2) (s_callO (g_cons (s_varF (by rfl)) (g_cons (s_varF (by rfl)) g_nil))))
      (x_seq (x_asgO (i := 3) (s_cb l_strQ (a_cons (SF.b (s_varF (by rfl))) a_nil)))
      (x_seq (x_for (Γ' := [.F, .F, .O, .O, .F, .F]) (ws := [4, 5]) (i_rng1 (g_cons (SO.f s_int) g_nil)) (tg_name (is := [4]) (by rfl) (by decide))
      (x_post (Γ1 := [.F, .F, .O, .O, .F, .O]) (Γn := [.F, .F, .O, .O, .F, .F]) (x_seq (x_asgO (i := 5) (s_callO (g_cons (s_varF (by rfl)) (g_cons (s_varF (by rfl)) g_nil))))
      (x_if (Γn := [.F, .F, .O, .O, .F, .O]) (s_or (s_not (s_tru (SO.b (s_cb l_isi (a_cons (s_varB (t := .O) (by rfl)) (a_cons (SO.b s_ty) a_nil)))))) (s_test (SO.b (s_op o_ne (s_varB (t := .O) (by rfl)) (s_varB (t := .O) (by rfl))))))
      (x_retO s_bl)
      x_next))))
      (x_retO (s_op o_eq (SO.b (s_cb l_strQ (a_cons (SF.b (s_varF (by rfl))) a_nil))) (s_varB (t := .O) (by rfl)))))))) hv
def t_law (K : PySem.W.Frag) (s_begin_ : Sp) (s_kind_ : Sp) (s_some_cells_ : Sp) (s_take_ : Sp) (s_test_ : Sp) (s_value_ : Sp) (s_told_so_ : Sp) : TS :=
      (tSeq (tAsg (tCall s_begin_ [] E0 (tCons (tVar 0) tNil)) (gName 1))
      (tSeq (tFor (iRng1 (tCons (tC (.int 6)) tNil)) (gName 2)
      (tSeq (tAsg (tCall s_kind_ [] E0 (tCons (tVar 1) tNil)) (gName 3))
      (tSeq (tAsg (tCall s_some_cells_ [] E0 (tCons (tVar 1) (tCons (tVar 3) (tCons (tCall s_take_ [] E0 (tCons (tVar 1) (tCons (tC (.int 13)) tNil))) tNil)))) (gName 4))
      (tFor (iRng1 (tCons (tC (.int 4)) tNil)) (gName 5)
      (tSeq (tAsg (tCall s_test_ [] E0 (tCons (tVar 1) (tCons (tVar 3) (tCons (tVar 4) tNil)))) (gName 6))
      (tSeq (tIfS (tAnd (tTest (tOp (rEqU K) (tOp (rIxU K) (tVar 6) (tC (.int 0))) (tC (.str ("among" : Str))))) (tTest (tOp (rEqU K) (tCall s_take_ [] E0 (tCons (tVar 1) (tCons (tC (.int 2)) tNil))) (tC (.int 0)))))
      (tAsg (tTup (tCons (tC (.str ("among" : Str))) (tCons (tCB (rTupU K) (tCons (tOp (rIxU K) (tVar 6) (tC (.int 1))) tNil)) tNil))) (gName 6))
      tNext)
      (tFor (iSeqV K (tOp (rAddU K) (tVar 4) (tLst (tCons (tC .non) (tCons (tCall s_value_ [] E0 (tCons (tVar 1) (tCons (tVar 3) (tCons (tVar 4) tNil)))) tNil))))) (gName 7)
      (tIfS (tNot (tTru K (tCall s_told_so_ [] E0 (tCons (tVar 7) (tCons (tVar 6) tNil)))))
      (tRet (tC (.bl false)))
      tNext))))))))
      (tRet (tC (.bl true)))))
abbrev N_law : List Str := [("_law_script" : Str), ("_law_state" : Str), ("_law_turn" : Str), ("_law_kind_here" : Str), ("_law_cells_here" : Str), ("_law_k" : Str), ("_law_test_here" : Str), ("_law_cell" : Str)]
def v_law (K : PySem.W.Frag) (vs_begin : VSp) (vs_kind : VSp) (vs_some_cells : VSp) (vs_take : VSp) (vs_test : VSp) (vs_value : VSp) (vs_told_so : VSp) : VS :=
      (vSeqS (vAsg (vCall vs_begin (vCons (vVar 0) vNil)) (vgName 1))
      (vSeqS (vFor [0, 2, 3, 4, 5, 6, 7] (vRng1 (vCons (vC (.int 6)) vNil)) (vgName 2)
      (vSeqS (vAsg (vCall vs_kind (vCons (vVar 1) vNil)) (vgName 3))
      (vSeqS (vAsg (vCall vs_some_cells (vCons (vVar 1) (vCons (vVar 3) (vCons (vCall vs_take (vCons (vVar 1) (vCons (vC (.int 13)) vNil))) vNil)))) (vgName 4))
      (vFor [0, 2, 5, 6, 7] (vRng1 (vCons (vC (.int 4)) vNil)) (vgName 5)
      (vSeqS (vAsg (vCall vs_test (vCons (vVar 1) (vCons (vVar 3) (vCons (vVar 4) vNil)))) (vgName 6))
      (vSeqS (vIf (vAnd (vTest (vOp vEqC (vOp vIx (vVar 6) (vC (.int 0))) (vC (.str ("among" : Str))))) (vTest (vOp vEqC (vCall vs_take (vCons (vVar 1) (vCons (vC (.int 2)) vNil))) (vC (.int 0)))))
      (vAsg (vTup (vCons (vC (.str ("among" : Str))) (vCons (vCB vTupC (vCons (vOp vIx (vVar 6) (vC (.int 1))) vNil)) vNil))) (vgName 6))
      vNext)
      (vFor [0, 2, 5, 7] (vSeq (vOp vAdd (vVar 4) (vLst (vCons (vC .non) (vCons (vCall vs_value (vCons (vVar 1) (vCons (vVar 3) (vCons (vVar 4) vNil)))) vNil))))) (vgName 7)
      (vIf (vNot (vTru (vCall vs_told_so (vCons (vVar 7) (vCons (vVar 6) vNil)))))
      (vRet (vC (.bl false)))
      vNext))))))))
      (vRet (vC (.bl true)))))
theorem sim_law {K : PySem.W.Frag} {vs_begin : VSp} {vs_kind : VSp} {vs_some_cells : VSp} {vs_take : VSp} {vs_test : VSp} {vs_value : VSp} {vs_told_so : VSp} {vsp : VSp} (hv : ∀ ds m P VX, vsp ds m P VX → ds.length = 1 ∧ v_law K vs_begin vs_kind vs_some_cells vs_take vs_test vs_value vs_told_so (vends P) (vstart N_law.length ds) m) :
    ∀ us H Q E, spV K .O vsp us H Q E → t_law K (spV K .O vs_begin) (spV K .F vs_kind) (spV K .O vs_some_cells) (spV K .O vs_take) (spV K .O vs_test) (spV K .F vs_value) (spV K .O vs_told_so) { nx := fun _ H' => Q .non H', rt := Q } (L2.start N_law us) H :=
  sim_def (n := 1) (t := .O) (N := N_law) (Γn := [.F, .F, .F, .F, .F, .F, .F, .F]) (Γb := []) (Γc := []) (ts := fun E => t_law K (spV K .O vs_begin) (spV K .F vs_kind) (spV K .O vs_some_cells) (spV K .O vs_take) (spV K .O vs_test) (spV K .F vs_value) (spV K .O vs_told_so)) (vs := fun VX => v_law K vs_begin vs_kind vs_some_cells vs_take vs_test vs_value vs_told_so) (by decide) (fun c W VX hK hx => by
    subst hK
    exact (x_seq (x_asgO (i := 1) (s_callO (g_cons (s_varF (by rfl)) g_nil)))
      (x_seq (x_pre (Γ1 := [.F, .F, .F, .F, .F, .F, .F, .F]) (x_for (Γ' := [.F, .F, .F, .F, .F, .F, .F, .F]) (ws := [0, 2, 3, 4, 5, 6, 7]) (i_rng1 (g_cons (SO.f s_int) g_nil)) (tg_name (is := [2]) (by rfl) (by decide))
      (x_seq (x_asgF (i := 3) (s_callF (g_cons (s_varF (by rfl)) g_nil)))
      (x_seq (x_asgO (i := 4) (s_callO (g_cons (s_varF (by rfl)) (g_cons (s_varF (by rfl)) (g_cons (SO.f (s_callO (g_cons (s_varF (by rfl)) (g_cons (SO.f s_int) g_nil)))) g_nil)))))
      (x_pre (Γ1 := [.F, .F, .F, .F, .F, .F, .F, .F]) (x_for (Γ' := [.F, .F, .F, .F, .F, .F, .F, .F]) (ws := [0, 2, 5, 6, 7]) (i_rng1 (g_cons (SO.f s_int) g_nil)) (tg_name (is := [5]) (by rfl) (by decide))
      (x_seq (x_asgO (i := 6) (s_callO (g_cons (s_varF (by rfl)) (g_cons (s_varF (by rfl)) (g_cons (s_varF (by rfl)) g_nil)))))
      (x_seq (x_if (Γn := [.F, .F, .F, .F, .F, .F, .O, .F]) (s_and (s_test (SO.b (s_op o_eq (SF.b (s_opF o_ix (s_varB (t := .O) (by rfl)) (SO.b s_int))) (SO.b s_str)))) (s_test (SO.b (s_op o_eq (SO.b (s_callO (g_cons (s_varF (by rfl)) (g_cons (SO.f s_int) g_nil)))) (SO.b s_int)))))
      (x_asgO (i := 6) (s_tup (g_cons (SO.f s_str) (g_cons (SO.f (s_cb l_tup (a_cons (SF.b (s_opF o_ix (s_varB (t := .O) (by rfl)) (SO.b s_int))) a_nil))) g_nil))))
      x_next)
      (x_pre (Γ1 := [.F, .F, .F, .F, .F, .F, .F, .F]) (x_for (Γ' := [.F, .F, .F, .F, .F, .F, .F, .F]) (ws := [0, 2, 5, 7]) (i_seq (SO.f (s_op o_add (SF.b (s_varF (by rfl))) (SO.b (s_lst (g_cons (SO.f s_non) (g_cons (s_callF (g_cons (s_varF (by rfl)) (g_cons (s_varF (by rfl)) (g_cons (s_varF (by rfl)) g_nil)))) g_nil))))))) (tg_name (is := [7]) (by rfl) (by decide))
      (x_if (Γn := [.F, .F, .F, .F, .F, .F, .F, .F]) (s_not (s_tru (SO.b (s_callO (g_cons (s_varF (by rfl)) (g_cons (s_varF (by rfl)) g_nil))))))
      (x_retO s_bl)
      x_next)))))))))))
      (x_retO s_bl)))) hv
def tsB (b : Bool) : Ts → D
  | .amg vs => .tup [.str "among", if b = true then .tup vs else .lst vs]
  | t => tsD t
theorem tsB_f (t : Ts) : tsB false t = tsD t := by cases t <;> rfl
theorem tsB_n {b : Bool} {t : Ts} (h : ∀ vs, t ≠ .amg vs) : tsB b t = tsD t := by cases t <;> first | rfl | exact absurd rfl (h _)
def wMeetsB : VSp := fun ds m P _ => ∃ (k : Kd) (c : D) (t : Ts) (b : Bool), ds = [c, tsB b t] ∧ CellK k c ∧ OkC k t ∧ P (.bl (mtD c t)) m
theorem p_meetsB {K : PySem.W.Frag} (ds : List D) (m : Mst) (P : D → Mst → Prop) (VX : XV) (h : wMeetsB ds m P VX) : ds.length = 2 ∧ v_meets K wIsSo (vends P) (vstart N_meets.length ds) m := by
  obtain ⟨k, c, t, b, rfl, hc, ht, hP⟩ := h
  cases b with
  | false => rw [tsB_f]; exact p_meets _ m P VX ⟨k, c, t, rfl, hc, ht, hP⟩
  | true =>
    cases t with
    | opn => exact p_meets _ m P VX ⟨k, c, .opn, rfl, hc, ht, hP⟩
    | sg g v => exact p_meets _ m P VX ⟨k, c, .sg g v, rfl, hc, ht, hP⟩
    | amg vs =>
      refine ⟨rfl, ?_⟩
      unfold v_meets
      show (vSeqS _ _ : VS) _ [some c, some (.tup [.str "among", .tup vs])] _
      walk_at "vw"
      refine e_ixT (x := .str "among") rfl ?_
      walk_at "vw"
      rcases hc with rfl | hc
      · refine w_ifT ?_
        walk_at "vv"
        exact hP
      · rw [show mtD c (.amg vs) = (!c.isN && vs.any fun y => eqDD c y) from rfl, val_nn hc] at hP
        rw [val_nn hc]
        refine w_ifF ?_
        walk_at "vw"
        refine e_ixT (x := .str "among") rfl ?_
        walk_at "vw"
        refine e_ixT (x := .tup vs) rfl ?_
        refine e_inT (val_fl hc) (vals_fl ht.2) (any_val hc ht.2) ?_
        rw [any_symm hc ht.2]
        exact hP
theorem p_own_meets2 {K : PySem.W.Frag} (ds : List D) (m : Mst) (P : D → Mst → Prop) (VX : XV) (h : wMeetsB ds m P VX) : ds.length = 2 ∧ v_own_meets K (vends P) (vstart N_own_meets.length ds) m := by
  obtain ⟨k, c, t, b, rfl, hc, ht, hP⟩ := h
  cases b with
  | false => rw [tsB_f]; exact p_own_meets _ m P VX ⟨k, c, t, rfl, hc, by cases t <;> exact ht, hP⟩
  | true =>
    cases t with
    | opn => exact p_own_meets _ m P VX ⟨k, c, .opn, rfl, hc, trivial, hP⟩
    | sg g v => exact p_own_meets _ m P VX ⟨k, c, .sg g v, rfl, hc, ht, hP⟩
    | amg vs =>
      refine ⟨rfl, ?_⟩
      unfold v_own_meets
      show (vSeqS _ _ : VS) _ [some c, some (.tup [.str "among", .tup vs]), none, none] _
      walk_at "vw"
      refine e_ixT (x := .str "among") rfl ?_
      walk_at "vw"
      rcases hc with rfl | hc
      · refine w_ifT ?_
        walk_at "vv"
        exact hP
      · rw [show mtD c (.amg vs) = (!c.isN && vs.any fun y => eqDD c y) from rfl, val_nn hc] at hP
        rw [val_nn hc]
        refine w_ifF ?_
        walk_at "vw"
        refine e_ixT (x := .str "among") rfl ?_
        walk_at "vw"
        refine e_ixT (x := .tup vs) rfl ?_
        refine e_itT ?_
        refine lc_bl (f := fun v => eqDD c v) (by have := ht.1; omega) (fun i v Q hvm hQ => ?_) ?_
        · walk_at "vv"
          exact e_eqV hc (ht.2 v hvm) hQ
        · walk_at "vv"
          refine e_any ?_
          rw [any_map]
          exact hP
theorem sh_word (g : Sg) : ShOk 0 402 (.str (sgS g)) := by
  refine (sh_str (m := 2) ?_ ?_).le (by omega) (by omega)
  · cases g <;> decide +kernel
  · cases g <;> decide +kernel
theorem sh_ts {k : Kd} {t : Ts} {b : Bool} (h : OkC k t) : ShOk 2 11000 (tsB b t) := by
  have two : ∀ {x y : D}, ShOk 1 4852 x → ShOk 1 4852 y → ShOk 2 11000 (.tup [x, y]) := fun {x y} hx hy => (ShOk.tup (k := 2) (z := 4852) (n := 1) (fun d hd => by
    rcases List.mem_cons.mp hd with rfl | hd
    · exact hx
    · rw [List.mem_singleton.mp hd]; exact hy) (Nat.le_refl _)).le (by omega) (by omega)
  have am : ShOk 1 4852 (.str "among") := (sh_str (m := 5) (by decide +kernel) (by decide +kernel)).le (by omega) (by omega)
  cases t with
  | opn =>
    rw [tsB_n (fun vs => by simp)]
    exact (ShOk.tup (k := 1) (z := 402) (n := 0) (ds := [.str "open"]) (fun d hd => by rw [List.mem_singleton.mp hd]; exact (sh_str (m := 5) (by decide +kernel) (by decide +kernel)).le (by omega) (by omega)) (Nat.le_refl _)).le (by omega) (by omega)
  | sg g v =>
    rw [tsB_n (fun vs => by simp)]
    exact two ((sh_word g).le (by omega) (by omega)) ((sh_val h).le (by omega) (by omega))
  | amg vs =>
    have hv : ∀ v ∈ vs, ShOk 0 402 v := fun v hv => sh_val (h.2 v hv)
    cases b with
    | false => exact two am ((ShOk.lst hv h.1).le (by omega) (by omega))
    | true => exact two am ((ShOk.tup hv h.1).le (by omega) (by omega))
theorem tsB_sq (b : Bool) (t : Ts) : (tsB b t).sq = true := by cases t <;> cases b <;> rfl
def wToldSo : VSp := fun ds m P _ => ∃ (k : Kd) (c : D) (t : Ts) (b : Bool), ds = [c, tsB b t] ∧ CellK k c ∧ OkC k t ∧ P (.bl true) m
theorem p_told_so {K : PySem.W.Frag} (ds : List D) (m : Mst) (P : D → Mst → Prop) (VX : XV) (h : wToldSo ds m P VX) : ds.length = 2 ∧ v_told_so K wMeetsB wMeetsB (vends P) (vstart N_told_so.length ds) m := by
  obtain ⟨k, c, t, b, rfl, hc, ht, hP⟩ := h
  refine ⟨rfl, ?_⟩
  have sq := tsB_sq b t
  have ok := sh_ts (b := b) ht
  generalize hx : tsB b t = x at sq ok
  unfold v_told_so
  walk_at "vv"
  refine ⟨k, c, t, b, by rw [hx], hc, ht, ?_⟩
  walk_at "vv"
  refine e_strQ sq ok (by omega) (by omega) ?_
  walk_at "vv"
  refine e_itR (j := 2) (by decide) ?_
  refine for_inv (fun l e m' => e = [some c, some x, some (.bl (mtD c t)), some (.str x.py.shown), none, none] ∧ m' = m) ⟨rfl, rfl⟩ ?_ ?_
  · rintro l e m' d hl ⟨rfl, rfl⟩ ed
    obtain ⟨hl, rfl⟩ := rangeD_at ed
    walk_at "vv"
    refine ⟨k, c, t, b, by rw [hx], hc, ht, ?_⟩
    walk_at "vv"
    rw [decide_eq_true rfl]
    walk_at "vv"
    exact ⟨rfl, rfl⟩
  · rintro e m' ⟨rfl, rfl⟩
    walk_at "vv"
    refine e_strQ sq ok (by omega) (by omega) ?_
    walk_at "vv"
    rw [decide_eq_true rfl]
    exact hP
theorem e_name16 {i : Nat} {d : D} {env : Env} {Z : Env → Prop} (h : Z (env.set i (some d))) : vgName i d env Z := h
theorem p_law {K : PySem.W.Frag} (ds : List D) (m : Mst) (P : D → Mst → Prop) (VX : XV) (h : vLaw ds m P VX) : ds.length = 1 ∧ v_law K vBegin wKind wSomeCells vTake wTest wValue wToldSo (vends P) (vstart N_law.length ds) m := by
  obtain ⟨ns, rfl, hl, rfl, hP⟩ := h
  refine ⟨rfl, ?_⟩
  unfold v_law
  walk_at "vv"
  refine ⟨ns, rfl, hl, rfl, fun x => ?_⟩
  walk_at "vv"
  refine e_itR (j := 6) (by decide) ?_
  refine for_inv (fun i e m' => i ≤ 6 ∧ e = [none, some (.adr x), none, none, none, none, none, none] ∧ ∃ r', m' = (some (x, r'), emp) ∧ 2 ^ 50 ≤ r' + 50000 * i) ⟨by omega, rfl, _, rfl, by omega⟩ ?_ ?_
  · rintro i e m' d hi ⟨_, rfl, r, rfl, hr⟩ ed
    obtain ⟨hi, rfl⟩ := rangeD_at ed
    walk_at "vv"
    refine ⟨x, r, emp, rfl, rfl, by omega, fun kd r1 hr1 => ?_⟩
    walk_at "vv"
    refine e_take (by omega) (by decide) (by decide) fun z1 r2 h1 h2 hr2 => ?_
    walk_at "vv"
    obtain ⟨n, rfl⟩ : ∃ n : Nat, z1 = (n : Int) := ⟨z1.toNat, by omega⟩
    refine ⟨x, r2, emp, n, kd, rfl, by omega, rfl, by omega, fun cs r4 hcl hc hr4 => ?_⟩
    walk_at "vv"
    refine e_itR (j := 4) (by decide) ?_
    refine for_inv (fun j e m' => j ≤ 4 ∧ e = [none, some (.adr x), none, some (kdD kd), some (.lst cs), none, none, none] ∧ ∃ r', m' = (some (x, r'), emp) ∧ r4 ≤ r' + 1000 * j) ⟨by omega, rfl, r4, rfl, by omega⟩ ?_ ?_
    · rintro j e m' d hj ⟨_, rfl, r5, rfl, hr5⟩ ed
      obtain ⟨hj, rfl⟩ := rangeD_at ed
      walk_at "vv"
      refine ⟨x, r5, emp, kd, cs, rfl, by omega, hc, rfl, by omega, fun t r6 ht hr6 => ?_⟩
      obtain ⟨ts, rfl, hts⟩ := isTest_ts ht
      with_reducible refine e_name16 ?_
      dsimp only
      with_reducible refine e_seqO fun N hN => ?_
      have rest : ∀ (b : Bool) (r7 : Nat), r6 ≤ r7 + 1 → N [none, some (.adr x), none, some (kdD kd), some (.lst cs), some (.int (0 + (j : Int))), some (tsB b ts), none] (some (x, r7), emp) := by
        intro b r7 hr7
        refine hN _ _ ?_
        clear hN
        walk_at "vv"
        refine ⟨x, r7, emp, kd, cs, rfl, by omega, hc, rfl, by omega, fun v r8 hv hr8 => ?_⟩
        walk_at "vv"
        refine e_addL (by rw [hcl]; show _ + 2 ≤ _; omega) ?_
        refine e_itL ?_
        have hall : ∀ d ∈ cs ++ [D.non, v], CellK kd d := fun d hd => by
          rcases List.mem_append.mp hd with hd | hd
          · exact hc d hd
          · rcases List.mem_cons.mp hd with rfl | hd
            · exact .inl rfl
            · rw [List.mem_singleton.mp hd]; exact .inr hv
        refine for_inv (fun l e m' => e = [none, some (.adr x), none, some (kdD kd), some (.lst cs), none, some (tsB b ts), none] ∧ m' = (some (x, r8), emp)) ⟨rfl, rfl⟩ ?_ ?_
        · rintro l e m' d hl ⟨rfl, rfl⟩ ed
          walk_at "vv"
          refine ⟨kd, d, ts, b, rfl, hall d (List.mem_of_getElem? ed), by cases ts <;> exact hts, ?_⟩
          walk_at "vw"
          exact ⟨rfl, rfl⟩
        · rintro e m' ⟨rfl, rfl⟩
          walk_at "vv"
          exact ⟨by omega, rfl, r8, rfl, by omega⟩
      cases ts with
      | opn =>
        walk_at "vv"
        refine e_ixT (x := .str "open") rfl ?_
        walk_at "vw"
        exact rest false r6 (by omega)
      | sg g v =>
        walk_at "vv"
        refine e_ixT (x := .str (sgS g)) rfl ?_
        walk_at "vv"
        rw [(sg_words g).2]
        walk_at "vv"
        exact rest false r6 (by omega)
      | amg vs =>
        walk_at "vv"
        refine e_ixT (x := .str "among") rfl ?_
        walk_at "vw"
        refine e_take (by omega) (by decide) (by decide) fun z2 r7 h5 h6 hr7 => ?_
        walk_at "vv"
        refine w_ifd (fun c => ?_) (fun c => ?_)
        · walk_at "vv"
          refine e_ixT (x := .lst vs) rfl ?_
          walk_at "vv"
          exact rest true r7 (by omega)
        · walk_at "vv"
          exact rest false r7 (by omega)
    · rintro e m' ⟨_, rfl, r5, rfl, hr5⟩
      rw [rangeD_len] at hr5
      walk_at "vv"
      exact ⟨by omega, rfl, r5, rfl, by omega⟩
  · rintro e m' ⟨_, rfl, r, rfl, hr⟩
    walk_at "vv"
    exact hP _
end Ps
namespace Ps
open PySem PySem.Spec PyProof.Rows L2
def topS (i : Nat) : Stmt := PySem.Challenge.pw_pillarstore_k16_cells_meet.main.body.getD i (.Pass ⟨0, 0, 0, 0⟩)
section
variable {P : Program} {w : World} {K : PySem.W.Frag} {mg : Str → Option Value} {base : Heap}
abbrev NN_begin : List Str := [("_law_script" : Str), ("_law_cells_here" : Str)]
abbrev sT_begin : Stmt := topS 4
theorem sc_begin : FnScope NN_begin [("_law_script" : Str)] (defScope sT_begin) := ⟨rfl, rfl, rfl, by decide +kernel, rfl, by decide +kernel, by decide +kernel⟩
theorem ok_begin {f : Addr} {fd : FuncData} (F : Fun K ("_law_begin" : Str) ("_law_begin" : Str) sT_begin f fd) (z_list : mg ("list" : Str) = none) {sp : Sp} (hl : ∀ vs H Q E, sp vs H Q E → vs.length = 1)
    (hp : ∀ vs H Q E, sp vs H Q E → t_begin K { nx := fun _ H' => Q .non H', rt := Q } (start NN_begin vs) H) : FnOk P w K mg base CX0 1 f fd [("_law_script" : Str)] sp := by
  refine F.ok (k := 0) sc_begin hl (fun cdv A outer s H vs Q E hr h => ⟨t_begin K, ?_, hp vs H Q E h⟩)
  exact (pss_cons (ps_set (i := 1) sc_begin.nd rfl (by first | exact Or.inl rfl | exact Or.inr rfl) (pe_callTy (call_listU (by rfl)) (by rfl) z_list bt_list (pa_cons (pe_slice sl_u (pv 0) po_none (po_some pe_int)) pa_nil)))
      (pss_cons (ps_if (pt_cmpR (op_eqU hr.units) (pv 1) (pe_lst pa_nil) (nomark _))
      (pss_one (ps_set (i := 1) sc_begin.nd rfl (by first | exact Or.inl rfl | exact Or.inr rfl) (pe_lst (pa_cons pe_int pa_nil))))
      pss_nil)
      (pss_one (ps_ret (pe_disp (pps_cons pe_str (pv 1) (pps_cons pe_str pe_int pps_nil)) (by rfl) (by rfl) (fun z => by cases z) (by decide))))))
abbrev NN_take : List Str := [("_law_state" : Str), ("_law_many" : Str), ("_law_turn" : Str), ("_law_place" : Str), ("_law_cell" : Str), ("_law_digit" : Str), ("_law_mixed" : Str)]
abbrev sT_take : Stmt := topS 5
theorem sc_take : FnScope NN_take [("_law_state" : Str), ("_law_many" : Str)] (defScope sT_take) := ⟨rfl, rfl, rfl, by decide +kernel, rfl, by decide +kernel, by decide +kernel⟩
theorem ok_take {f : Addr} {fd : FuncData} (F : Fun K ("_law_take" : Str) ("_law_take" : Str) sT_take f fd) (z_len : mg ("len" : Str) = none) (z_divmod : mg ("divmod" : Str) = none) {sp : Sp} (hl : ∀ vs H Q E, sp vs H Q E → vs.length = 2)
    (hp : ∀ vs H Q E, sp vs H Q E → t_take K { nx := fun _ H' => Q .non H', rt := Q } (start NN_take vs) H) : FnOk P w K mg base CX0 1 f fd [("_law_state" : Str), ("_law_many" : Str)] sp := by
  refine F.ok (k := 0) sc_take hl (fun cdv A outer s H vs Q E hr h => ⟨t_take K, ?_, hp vs H Q E h⟩)
  exact (pss_cons (ps_set (i := 2) sc_take.nd rfl (by first | exact Or.inl rfl | exact Or.inr rfl) (pe_op op_addU (pe_ix (ix_u (hu_of hr)) (pv 0) pe_str (fun _ _ => rfl)) pe_int))
      (pss_cons (ps_asg (pv 2) (pg_sub (pv 0) pe_str (set_u (hu_of hr))))
      (pss_cons (ps_set (i := 3) sc_take.nd rfl (by first | exact Or.inl rfl | exact Or.inr rfl) (pe_op op_modU (pv 2) (pe_callB call_lenU (by rfl) z_len bt_len (pa_cons (pe_ix (ix_u (hu_of hr)) (pv 0) pe_str (fun _ _ => rfl)) pa_nil))))
      (pss_cons (ps_set (i := 4) sc_take.nd rfl (by first | exact Or.inl rfl | exact Or.inr rfl) (pe_ix (ix_u (hu_of hr)) (pe_ix (ix_u (hu_of hr)) (pv 0) pe_str (fun _ _ => rfl)) (pv 3) (fun _ _ => rfl)))
      (pss_cons (ps_if (pt_cmpR op_geU (pv 4) (pe_op op_powU pe_int pe_int) (nomark _))
      (pss_cons (ps_asg (pe_callB call_divmodU (by rfl) z_divmod bt_divmod (pa_cons (pv 4) (pa_cons (pv 1) pa_nil))) (pg_tup rfl (pgs_cons (pg_sub (pe_ix (ix_u (hu_of hr)) (pv 0) pe_str (fun _ _ => rfl)) (pv 3) (set_u (hu_of hr))) (pgs_cons (pg_name (i := 5) sc_take.nd rfl (by first | exact Or.inl rfl | exact Or.inr rfl)) pgs_nil))))
      (pss_one (ps_ret (pv 5))))
      pss_nil)
      (pss_cons (ps_set (i := 6) sc_take.nd rfl (by first | exact Or.inl rfl | exact Or.inr rfl) (pe_op op_modU (pe_op op_mulU (pe_op op_addU (pe_op op_addU (pe_op op_modU (pv 4) pe_int) (pe_op op_mulU (pe_op op_mulU (pv 2) (pv 2)) pe_int)) pe_int) pe_int) pe_int))
      (pss_cons (ps_set (i := 6) sc_take.nd rfl (by first | exact Or.inl rfl | exact Or.inr rfl) (pe_op op_modU (pe_op op_mulU (pv 6) (pv 6)) pe_int))
      (pss_one (ps_ret (pe_op op_modU (pe_op op_divU (pe_op op_modU (pe_op op_mulU (pe_op op_addU (pv 6) (pe_op op_mulU (pv 2) pe_int)) pe_int) pe_int) pe_int) (pv 1)))))))))))
abbrev NN_kind : List Str := [("_law_state" : Str)]
abbrev sT_kind : Stmt := topS 9
theorem sc_kind : FnScope NN_kind [("_law_state" : Str)] (defScope sT_kind) := ⟨rfl, rfl, rfl, by decide +kernel, rfl, by decide +kernel, by decide +kernel⟩
theorem ok_kind {f : Addr} {fd : FuncData} (F : Fun K ("_law_kind" : Str) ("_law_kind" : Str) sT_kind f fd) {f_take : Addr} {fd_take : FuncData} {s_take_ : Sp} (G_take : FnOk P w K mg base CX0 1 f_take fd_take [("_law_state" : Str), ("_law_many" : Str)] s_take_) (b_take : Binds K fd_take [("_law_state" : Str), ("_law_many" : Str)] []) (m_take : mg ("_law_take" : Str) = some (.ref f_take)) (kp_take : PySem.W.keepIn K (.ref f_take) = true) {sp : Sp} (hl : ∀ vs H Q E, sp vs H Q E → vs.length = 1)
    (hp : ∀ vs H Q E, sp vs H Q E → t_kind K s_take_ { nx := fun _ H' => Q .non H', rt := Q } (start NN_kind vs) H) : FnOk P w K mg base CX0 2 f fd [("_law_state" : Str)] sp := by
  refine F.ok (k := 1) sc_kind hl (fun cdv A outer s H vs Q E hr h => ⟨t_kind K s_take_, ?_, hp vs H Q E h⟩)
  exact (pss_one (ps_ret (pe_ix (ix_u (hu_of hr)) (pe_lst (pa_cons pe_str (pa_cons pe_str pa_nil))) (pe_op op_divU (pe_call G_take (hr.mono (by decide)) (by rfl) m_take kp_take b_take .nil pass0 (pa_cons (pv 0) (pa_cons pe_int pa_nil))) pe_int) (fun _ _ => rfl))))
abbrev NN_text : List Str := [("_law_state" : Str), ("_law_words" : Str), ("_law_signs" : Str), ("_law_turn" : Str)]
abbrev sT_text : Stmt := topS 7
theorem sc_text : FnScope NN_text [("_law_state" : Str)] (defScope sT_text) := ⟨rfl, rfl, rfl, by decide +kernel, rfl, by decide +kernel, by decide +kernel⟩
theorem ok_text {f : Addr} {fd : FuncData} (F : Fun K ("_law_text" : Str) ("_law_text" : Str) sT_text f fd) {f_take : Addr} {fd_take : FuncData} {s_take_ : Sp} (G_take : FnOk P w K mg base CX0 1 f_take fd_take [("_law_state" : Str), ("_law_many" : Str)] s_take_) (b_take : Binds K fd_take [("_law_state" : Str), ("_law_many" : Str)] []) (m_take : mg ("_law_take" : Str) = some (.ref f_take)) (kp_take : PySem.W.keepIn K (.ref f_take) = true) (z_range : mg ("range" : Str) = none) (z_len : mg ("len" : Str) = none) {sp : Sp} (hl : ∀ vs H Q E, sp vs H Q E → vs.length = 1)
    (hp : ∀ vs H Q E, sp vs H Q E → t_text K s_take_ { nx := fun _ H' => Q .non H', rt := Q } (start NN_text vs) H) : FnOk P w K mg base CX0 2 f fd [("_law_state" : Str)] sp := by
  refine F.ok (k := 1) sc_text hl (fun cdv A outer s H vs Q E hr h => ⟨t_text K s_take_, ?_, hp vs H Q E h⟩)
  exact (pss_cons (ps_set (i := 1) sc_text.nd rfl (by first | exact Or.inl rfl | exact Or.inr rfl) (pe_lst (pa_cons pe_str (pa_cons pe_str (pa_cons pe_str (pa_cons pe_str (pa_cons pe_str (pa_cons pe_str (pa_cons pe_str (pa_cons pe_str (pa_cons pe_str (pa_cons pe_str (pa_cons (pe_op op_mulT pe_str pe_int) (pa_cons (pe_slice sl_u pe_str po_none (po_some pe_int)) pa_nil))))))))))))))
      (pss_cons (ps_if (pt_cmpR op_gtV (pe_call G_take (hr.mono (by decide)) (by rfl) m_take kp_take b_take .nil pass0 (pa_cons (pv 0) (pa_cons pe_int pa_nil))) pe_int (nomark _))
      (pss_one (ps_ret (pe_ix (ix_u (hu_of hr)) (pv 1) (pe_call G_take (hr.mono (by decide)) (by rfl) m_take kp_take b_take .nil pass0 (pa_cons (pv 0) (pa_cons pe_int pa_nil))) (fun _ _ => rfl))))
      pss_nil)
      (pss_cons (ps_set (i := 2) sc_text.nd rfl (by first | exact Or.inl rfl | exact Or.inr rfl) pe_str)
      (pss_one (ps_ret (pe_bm PySem.F.plainAttrs_str PySem.F.slot_str_join PySem.F.type_str_join mt_joinS pe_str (pa_cons (pe_lc (own := [(("_law_turn" : Str), 3)]) (g := (gName 3)) (tt := tYes) (te := (tOp (rIxU K) (tVar 2) (tCall s_take_ [] E0 (tCons (tVar 0) (tCons (tCB (rLenU K) (tCons (tVar 2) tNil)) tNil))))) (by rfl) sc_text.nd (pi_range1 rfl z_range (pa_cons (pe_call G_take (hr.mono (by decide)) (by rfl) m_take kp_take b_take .nil pass0 (pa_cons (pv 0) (pa_cons pe_int pa_nil))) pa_nil)) (blkOk_by (own := [(("_law_turn" : Str), 3)]) (N := [("_law_state" : Str), ("_law_words" : Str), ("_law_signs" : Str), ("_law_turn" : Str)]) (sc := defScope sT_text) (by decide +kernel)) (fun _ _ _ _ _ => (pg_name (i := 3) sc_text.nd rfl (by first | exact Or.inl rfl | exact Or.inr rfl))) (fun _ _ _ _ _ => pts_nil) (fun _ _ _ _ _ => (pe_ix (ix_u (hu_of hr)) (pv 2) (pe_call G_take (hr.mono (by decide)) (by rfl) m_take kp_take b_take .nil pass0 (pa_cons (pv 0) (pa_cons (pe_callB call_lenU (by rfl) z_len bt_len (pa_cons (pv 2) pa_nil)) pa_nil))) (fun _ _ => rfl)))) pa_nil)))))))
abbrev NN_number : List Str := [("_law_state" : Str), ("_law_way" : Str), ("_law_number_here" : Str)]
abbrev sT_number : Stmt := topS 6
theorem sc_number : FnScope NN_number [("_law_state" : Str)] (defScope sT_number) := ⟨rfl, rfl, rfl, by decide +kernel, rfl, by decide +kernel, by decide +kernel⟩
theorem ok_number {f : Addr} {fd : FuncData} (F : Fun K ("_law_number" : Str) ("_law_number" : Str) sT_number f fd) {f_take : Addr} {fd_take : FuncData} {s_take_ : Sp} (G_take : FnOk P w K mg base CX0 1 f_take fd_take [("_law_state" : Str), ("_law_many" : Str)] s_take_) (b_take : Binds K fd_take [("_law_state" : Str), ("_law_many" : Str)] []) (m_take : mg ("_law_take" : Str) = some (.ref f_take)) (kp_take : PySem.W.keepIn K (.ref f_take) = true) {sp : Sp} (hl : ∀ vs H Q E, sp vs H Q E → vs.length = 1)
    (hp : ∀ vs H Q E, sp vs H Q E → t_number K s_take_ { nx := fun _ H' => Q .non H', rt := Q } (start NN_number vs) H) : FnOk P w K mg base CX0 2 f fd [("_law_state" : Str)] sp := by
  refine F.ok (k := 1) sc_number hl (fun cdv A outer s H vs Q E hr h => ⟨t_number K s_take_, ?_, hp vs H Q E h⟩)
  exact (pss_cons (ps_set (i := 1) sc_number.nd rfl (by first | exact Or.inl rfl | exact Or.inr rfl) (pe_call G_take (hr.mono (by decide)) (by rfl) m_take kp_take b_take .nil pass0 (pa_cons (pv 0) (pa_cons pe_int pa_nil))))
      (pss_cons (ps_set (i := 2) sc_number.nd rfl (by first | exact Or.inl rfl | exact Or.inr rfl) (pe_call G_take (hr.mono (by decide)) (by rfl) m_take kp_take b_take .nil pass0 (pa_cons (pv 0) (pa_cons pe_int pa_nil))))
      (pss_cons (ps_if (pt_cmpR (op_eqU hr.units) (pv 1) pe_int (nomark _))
      (pss_one (ps_set (i := 2) sc_number.nd rfl (by first | exact Or.inl rfl | exact Or.inr rfl) (pe_ix (ix_u (hu_of hr)) (pe_lst (pa_cons pe_int (pa_cons pe_int (pa_cons pe_int (pa_cons pe_int (pa_cons pe_int (pa_cons pe_int (pa_cons pe_int (pa_cons pe_int (pa_cons (pe_op op_subU (pe_op op_powU pe_int pe_int) pe_int) (pa_cons (pe_op op_powU pe_int pe_int) (pa_cons pe_int (pa_cons pe_int pa_nil))))))))))))) (pv 2) (fun _ _ => rfl))))
      pss_nil)
      (pss_cons (ps_if (pt_cmpR (op_eqU hr.units) (pv 1) pe_int (nomark _))
      (pss_one (ps_set (i := 2) sc_number.nd rfl (by first | exact Or.inl rfl | exact Or.inr rfl) (pe_op op_addU (pe_op op_mulT (pe_call G_take (hr.mono (by decide)) (by rfl) m_take kp_take b_take .nil pass0 (pa_cons (pv 0) (pa_cons (pe_op op_powU pe_int pe_int) pa_nil))) (pe_op op_powU pe_int pe_int)) (pe_call G_take (hr.mono (by decide)) (by rfl) m_take kp_take b_take .nil pass0 (pa_cons (pv 0) (pa_cons (pe_op op_powU pe_int pe_int) pa_nil))))))
      pss_nil)
      (pss_cons (ps_if (pt_cmpR (op_eqU hr.units) (pv 1) pe_int (nomark _))
      (pss_one (ps_set (i := 2) sc_number.nd rfl (by first | exact Or.inl rfl | exact Or.inr rfl) (pe_call G_take (hr.mono (by decide)) (by rfl) m_take kp_take b_take .nil pass0 (pa_cons (pv 0) (pa_cons pe_int pa_nil)))))
      pss_nil)
      (pss_one (ps_ret (pe_op op_mulT (pv 2) (pe_ix (ix_u (hu_of hr)) (pe_lst (pa_cons pe_int (pa_cons (pe_un un_negU pe_int) pa_nil))) (pe_call G_take (hr.mono (by decide)) (by rfl) m_take kp_take b_take .nil pass0 (pa_cons (pv 0) (pa_cons pe_int pa_nil))) (fun _ _ => rfl))))))))))
abbrev NN_cells : List Str := [("_law_state" : Str), ("_law_kind_here" : Str), ("_law_many" : Str), ("_law_way" : Str), ("_law_open_in" : Str), ("_law_turn" : Str), ("_law_some" : Str), ("_law_step" : Str), ("_law_cells_here" : Str), ("_law_place" : Str), ("_law_cell" : Str)]
abbrev sT_cells : Stmt := topS 8
theorem sc_cells : FnScope NN_cells [("_law_state" : Str), ("_law_kind_here" : Str), ("_law_many" : Str)] (defScope sT_cells) := ⟨rfl, rfl, rfl, by decide +kernel, rfl, by decide +kernel, by decide +kernel⟩
theorem ok_cells {f : Addr} {fd : FuncData} (F : Fun K ("_law_cells" : Str) ("_law_cells" : Str) sT_cells f fd) {f_take : Addr} {fd_take : FuncData} {s_take_ : Sp} (G_take : FnOk P w K mg base CX0 1 f_take fd_take [("_law_state" : Str), ("_law_many" : Str)] s_take_) (b_take : Binds K fd_take [("_law_state" : Str), ("_law_many" : Str)] []) (m_take : mg ("_law_take" : Str) = some (.ref f_take)) (kp_take : PySem.W.keepIn K (.ref f_take) = true) {f_text : Addr} {fd_text : FuncData} {s_text_ : Sp} (G_text : FnOk P w K mg base CX0 2 f_text fd_text [("_law_state" : Str)] s_text_) (b_text : Binds K fd_text [("_law_state" : Str)] []) (m_text : mg ("_law_text" : Str) = some (.ref f_text)) (kp_text : PySem.W.keepIn K (.ref f_text) = true) {f_number : Addr} {fd_number : FuncData} {s_number_ : Sp} (G_number : FnOk P w K mg base CX0 2 f_number fd_number [("_law_state" : Str)] s_number_) (b_number : Binds K fd_number [("_law_state" : Str)] []) (m_number : mg ("_law_number" : Str) = some (.ref f_number)) (kp_number : PySem.W.keepIn K (.ref f_number) = true) (z_range : mg ("range" : Str) = none) (z_len : mg ("len" : Str) = none) {sp : Sp} (hl : ∀ vs H Q E, sp vs H Q E → vs.length = 3)
    (hp : ∀ vs H Q E, sp vs H Q E → t_cells K s_take_ s_text_ s_number_ { nx := fun _ H' => Q .non H', rt := Q } (start NN_cells vs) H) : FnOk P w K mg base CX0 3 f fd [("_law_state" : Str), ("_law_kind_here" : Str), ("_law_many" : Str)] sp := by
  refine F.ok (k := 2) sc_cells hl (fun cdv A outer s H vs Q E hr h => ⟨t_cells K s_take_ s_text_ s_number_, ?_, hp vs H Q E h⟩)
  exact (pss_cons (ps_set (i := 3) sc_cells.nd rfl (by first | exact Or.inl rfl | exact Or.inr rfl) (pe_call G_take (hr.mono (by decide)) (by rfl) m_take kp_take b_take .nil pass0 (pa_cons (pv 0) (pa_cons pe_int pa_nil))))
      (pss_cons (ps_set (i := 4) sc_cells.nd rfl (by first | exact Or.inl rfl | exact Or.inr rfl) (pe_ix (ix_u (hu_of hr)) (pe_lst (pa_cons pe_int (pa_cons pe_int (pa_cons pe_int pa_nil)))) (pe_call G_take (hr.mono (by decide)) (by rfl) m_take kp_take b_take .nil pass0 (pa_cons (pv 0) (pa_cons pe_int pa_nil))) (fun _ _ => rfl)))
      (pss_cons (ps_setLc (i := 6) (own := [(("_law_turn" : Str), 5)]) (g := (gName 5)) (tt := tYes) (te := (tIf (tTest (tOp (rEqU K) (tVar 1) (tC (.str ("text" : Str))))) (tCall s_text_ [] E0 (tCons (tVar 0) tNil)) (tCall s_number_ [] E0 (tCons (tVar 0) tNil)))) (by rfl) sc_cells.nd rfl rfl (sw_true rfl rfl rfl (by decide +kernel)) (pi_range1 rfl z_range (pa_cons (pe_op op_addU pe_int (pe_call G_take (hr.mono (by decide)) (by rfl) m_take kp_take b_take .nil pass0 (pa_cons (pv 0) (pa_cons pe_int pa_nil)))) pa_nil)) (blkOk_by (own := [(("_law_turn" : Str), 5)]) (N := [("_law_state" : Str), ("_law_kind_here" : Str), ("_law_many" : Str), ("_law_way" : Str), ("_law_open_in" : Str), ("_law_turn" : Str), ("_law_some" : Str), ("_law_step" : Str), ("_law_cells_here" : Str), ("_law_place" : Str), ("_law_cell" : Str)]) (sc := defScope sT_cells) (by decide +kernel)) (fun _ _ _ _ _ => (pg_name (i := 5) sc_cells.nd rfl (by first | exact Or.inl rfl | exact Or.inr rfl))) (fun _ _ _ _ _ => pts_nil) (fun _ _ _ _ _ => (pe_ifExp (pt_cmpR (op_eqU hr.units) (pv 1) pe_str (nomark _)) (pe_call G_text (hr.mono (by decide)) (by rfl) m_text kp_text b_text .nil pass0 (pa_cons (pv 0) pa_nil)) (pe_call G_number (hr.mono (by decide)) (by rfl) m_number kp_number b_number .nil pass0 (pa_cons (pv 0) pa_nil)))))
      (pss_cons (ps_set (i := 7) sc_cells.nd rfl (by first | exact Or.inl rfl | exact Or.inr rfl) (pe_ix (ix_u (hu_of hr)) (pe_lst (pa_cons (pe_op op_subU (pe_call G_take (hr.mono (by decide)) (by rfl) m_take kp_take b_take .nil pass0 (pa_cons (pv 0) (pa_cons pe_int pa_nil))) pe_int) (pa_cons (pe_call G_take (hr.mono (by decide)) (by rfl) m_take kp_take b_take .nil pass0 (pa_cons (pv 0) (pa_cons (pe_op op_powU pe_int pe_int) pa_nil))) pa_nil))) (pe_call G_take (hr.mono (by decide)) (by rfl) m_take kp_take b_take .nil pass0 (pa_cons (pv 0) (pa_cons pe_int pa_nil))) (fun _ _ => rfl)))
      (pss_cons (ps_set (i := 8) sc_cells.nd rfl (by first | exact Or.inl rfl | exact Or.inr rfl) (pe_lst pa_nil))
      (pss_cons (ps_for PassesOwn.never rfl (pi_range1 rfl z_range (pa_cons (pv 2) pa_nil)) (pg_name (i := 9) sc_cells.nd rfl (by first | exact Or.inl rfl | exact Or.inr rfl))
      (pss_cons (ps_set (i := 10) sc_cells.nd rfl (by first | exact Or.inl rfl | exact Or.inr rfl) (pe_ix (ix_u (hu_of hr)) (pv 6) (pe_call G_take (hr.mono (by decide)) (by rfl) m_take kp_take b_take .nil pass0 (pa_cons (pv 0) (pa_cons (pe_callB call_lenU (by rfl) z_len bt_len (pa_cons (pv 6) pa_nil)) pa_nil))) (fun _ _ => rfl)))
      (pss_cons (ps_if (PW.pt (pw_and (pt_cmpR (op_eqU hr.units) (pv 3) pe_int (nomark _)) (pw_and (pt_cmpR op_gtV (pv 9) pe_int (nomark _)) (pw_and1 (pt_cmpR op_gtV (pe_call G_take (hr.mono (by decide)) (by rfl) m_take kp_take b_take .nil pass0 (pa_cons (pv 0) (pa_cons pe_int pa_nil))) pe_int (nomark _))))))
      (pss_one (ps_set (i := 10) sc_cells.nd rfl (by first | exact Or.inl rfl | exact Or.inr rfl) (pe_ix (ix_u (hu_of hr)) (pv 8) (pe_un un_negU pe_int) (fun _ _ => rfl))))
      (pss_one (ps_if (PW.pt (pw_and (pt_cmpR (op_eqU hr.units) (pv 3) pe_int (nomark _)) (pw_and1 (pt_cmpR (op_eqU hr.units) (pv 1) pe_str (nomark _)))))
      (pss_one (ps_set (i := 10) sc_cells.nd rfl (by first | exact Or.inl rfl | exact Or.inr rfl) (pe_op op_addU (pe_op op_modU (pe_ix (ix_u (hu_of hr)) (pv 6) pe_int (fun _ _ => rfl)) (pe_op op_powU pe_int pe_int)) (pe_op op_mulT (pv 9) (pv 7)))))
      (pss_one (ps_if (PW.pt (pw_and (pt_cmpR (op_eqU hr.units) (pv 3) pe_int (nomark _)) (pw_and1 (pt_cmpR (op_eqU hr.units) (pv 1) pe_str (nomark _)))))
      (pss_one (ps_set (i := 10) sc_cells.nd rfl (by first | exact Or.inl rfl | exact Or.inr rfl) (pe_call G_number (hr.mono (by decide)) (by rfl) m_number kp_number b_number .nil pass0 (pa_cons (pv 0) pa_nil))))
      pss_nil)))))
      (pss_cons (ps_if (PW.pt (pw_and (pt_cmpR op_gtV (pv 4) pe_int (nomark _)) (pw_and (pt_cmpR (op_neU hr.units) (pv 3) pe_int (nomark _)) (pw_and1 (pt_cmpR (op_eqU hr.units) (pe_call G_take (hr.mono (by decide)) (by rfl) m_take kp_take b_take .nil pass0 (pa_cons (pv 0) (pa_cons (pv 4) pa_nil))) pe_int (nomark _))))))
      (pss_one (ps_set (i := 10) sc_cells.nd rfl (by first | exact Or.inl rfl | exact Or.inr rfl) pe_non))
      pss_nil)
      (pss_one (ps_expr (pe_bm PySem.F.plainAttrs_list PySem.F.slot_list_append PySem.F.type_list_append mt_append (pv 8) (pa_cons (pv 10) pa_nil))))))))
      (pss_one (ps_ret (pv 8)))))))))
abbrev NN_near_cells : List Str := [("_law_state" : Str), ("_law_kind_here" : Str), ("_law_many" : Str), ("_law_first" : Str), ("_law_texts" : Str), ("_law_wide" : Str), ("_law_begin_here" : Str), ("_law_open_in" : Str), ("_law_cells_here" : Str), ("_law_k" : Str), ("_law_turn" : Str), ("_law_cell" : Str)]
abbrev sT_near_cells : Stmt := topS 10
theorem sc_near_cells : FnScope NN_near_cells [("_law_state" : Str), ("_law_kind_here" : Str), ("_law_many" : Str)] (defScope sT_near_cells) := ⟨rfl, rfl, rfl, by decide +kernel, rfl, by decide +kernel, by decide +kernel⟩
theorem ok_near_cells {f : Addr} {fd : FuncData} (F : Fun K ("_law_near_cells" : Str) ("_law_near_cells" : Str) sT_near_cells f fd) {f_take : Addr} {fd_take : FuncData} {s_take_ : Sp} (G_take : FnOk P w K mg base CX0 1 f_take fd_take [("_law_state" : Str), ("_law_many" : Str)] s_take_) (b_take : Binds K fd_take [("_law_state" : Str), ("_law_many" : Str)] []) (m_take : mg ("_law_take" : Str) = some (.ref f_take)) (kp_take : PySem.W.keepIn K (.ref f_take) = true) (z_range : mg ("range" : Str) = none) (z_int : mg ("int" : Str) = none) {sp : Sp} (hl : ∀ vs H Q E, sp vs H Q E → vs.length = 3)
    (hp : ∀ vs H Q E, sp vs H Q E → t_near_cells K s_take_ { nx := fun _ H' => Q .non H', rt := Q } (start NN_near_cells vs) H) : FnOk P w K mg base CX0 2 f fd [("_law_state" : Str), ("_law_kind_here" : Str), ("_law_many" : Str)] sp := by
  refine F.ok (k := 1) sc_near_cells hl (fun cdv A outer s H vs Q E hr h => ⟨t_near_cells K s_take_, ?_, hp vs H Q E h⟩)
  exact (pss_cons (ps_set (i := 3) sc_near_cells.nd rfl (by first | exact Or.inl rfl | exact Or.inr rfl) (pe_ix (ix_u (hu_of hr)) (pe_lst (pa_cons (pe_op op_subU (pe_call G_take (hr.mono (by decide)) (by rfl) m_take kp_take b_take .nil pass0 (pa_cons (pv 0) (pa_cons pe_int pa_nil))) pe_int) (pa_cons (pe_op op_subU (pe_op op_powU pe_int pe_int) pe_int) (pa_cons (pe_op op_subU pe_int (pe_op op_powU pe_int pe_int)) (pa_cons pe_int pa_nil))))) (pe_call G_take (hr.mono (by decide)) (by rfl) m_take kp_take b_take .nil pass0 (pa_cons (pv 0) (pa_cons pe_int pa_nil))) (fun _ _ => rfl)))
      (pss_cons (ps_set (i := 4) sc_near_cells.nd rfl (by first | exact Or.inl rfl | exact Or.inr rfl) (pe_lst (pa_cons pe_str (pa_cons pe_str (pa_cons pe_str (pa_cons pe_str (pa_cons pe_str (pa_cons pe_str (pa_cons pe_str (pa_cons pe_str pa_nil))))))))))
      (pss_cons (ps_set (i := 5) sc_near_cells.nd rfl (by first | exact Or.inl rfl | exact Or.inr rfl) (pe_ix (ix_u (hu_of hr)) (pe_lst (pa_cons pe_int (pa_cons pe_int (pa_cons pe_int (pa_cons pe_int (pa_cons pe_int pa_nil)))))) (pe_call G_take (hr.mono (by decide)) (by rfl) m_take kp_take b_take .nil pass0 (pa_cons (pv 0) (pa_cons pe_int pa_nil))) (fun _ _ => rfl)))
      (pss_cons (ps_set (i := 6) sc_near_cells.nd rfl (by first | exact Or.inl rfl | exact Or.inr rfl) (pe_call G_take (hr.mono (by decide)) (by rfl) m_take kp_take b_take .nil pass0 (pa_cons (pv 0) (pa_cons pe_int pa_nil))))
      (pss_cons (ps_set (i := 7) sc_near_cells.nd rfl (by first | exact Or.inl rfl | exact Or.inr rfl) (pe_ix (ix_u (hu_of hr)) (pe_lst (pa_cons pe_int (pa_cons pe_int (pa_cons pe_int (pa_cons pe_int (pa_cons pe_int pa_nil)))))) (pe_call G_take (hr.mono (by decide)) (by rfl) m_take kp_take b_take .nil pass0 (pa_cons (pv 0) (pa_cons pe_int pa_nil))) (fun _ _ => rfl)))
      (pss_cons (ps_set (i := 8) sc_near_cells.nd rfl (by first | exact Or.inl rfl | exact Or.inr rfl) (pe_lst pa_nil))
      (pss_cons (ps_for PassesOwn.never rfl (pi_range1 rfl z_range (pa_cons (pv 2) pa_nil)) (pg_name (i := 9) sc_near_cells.nd rfl (by first | exact Or.inl rfl | exact Or.inr rfl))
      (pss_cons (ps_set (i := 10) sc_near_cells.nd rfl (by first | exact Or.inl rfl | exact Or.inr rfl) (pe_call G_take (hr.mono (by decide)) (by rfl) m_take kp_take b_take .nil pass0 (pa_cons (pv 0) (pa_cons (pv 5) pa_nil))))
      (pss_cons (ps_set (i := 11) sc_near_cells.nd rfl (by first | exact Or.inl rfl | exact Or.inr rfl) (pe_ix (ix_u (hu_of hr)) (pe_lst (pa_cons (pe_op op_addU (pv 3) (pe_op op_modU (pv 10) pe_int)) (pa_cons (pe_ix (ix_u (hu_of hr)) (pv 4) (pe_op op_modU (pe_op op_addU (pv 6) (pv 10)) pe_int) (fun _ _ => rfl)) pa_nil))) (pe_callTy call_intU (by rfl) z_int bt_int (pa_cons (pe_cmpR (op_eqU hr.units) (pv 1) pe_str (nomark _)) pa_nil)) (fun _ _ => rfl)))
      (pss_cons (ps_if (PW.pt (pw_and (pt_cmpR op_gtV (pv 7) pe_int (nomark _)) (pw_and1 (pt_cmpR (op_eqU hr.units) (pe_call G_take (hr.mono (by decide)) (by rfl) m_take kp_take b_take .nil pass0 (pa_cons (pv 0) (pa_cons (pv 7) pa_nil))) pe_int (nomark _)))))
      (pss_one (ps_set (i := 11) sc_near_cells.nd rfl (by first | exact Or.inl rfl | exact Or.inr rfl) pe_non))
      pss_nil)
      (pss_one (ps_expr (pe_bm PySem.F.plainAttrs_list PySem.F.slot_list_append PySem.F.type_list_append mt_append (pv 8) (pa_cons (pv 11) pa_nil))))))))
      (pss_one (ps_ret (pv 8))))))))))
abbrev NN_some_cells : List Str := [("_law_state" : Str), ("_law_kind_here" : Str), ("_law_many" : Str)]
abbrev sT_some_cells : Stmt := topS 11
theorem sc_some_cells : FnScope NN_some_cells [("_law_state" : Str), ("_law_kind_here" : Str), ("_law_many" : Str)] (defScope sT_some_cells) := ⟨rfl, rfl, rfl, by decide +kernel, rfl, by decide +kernel, by decide +kernel⟩
theorem ok_some_cells {f : Addr} {fd : FuncData} (F : Fun K ("_law_some_cells" : Str) ("_law_some_cells" : Str) sT_some_cells f fd) {f_take : Addr} {fd_take : FuncData} {s_take_ : Sp} (G_take : FnOk P w K mg base CX0 1 f_take fd_take [("_law_state" : Str), ("_law_many" : Str)] s_take_) (b_take : Binds K fd_take [("_law_state" : Str), ("_law_many" : Str)] []) (m_take : mg ("_law_take" : Str) = some (.ref f_take)) (kp_take : PySem.W.keepIn K (.ref f_take) = true) {f_cells : Addr} {fd_cells : FuncData} {s_cells_ : Sp} (G_cells : FnOk P w K mg base CX0 3 f_cells fd_cells [("_law_state" : Str), ("_law_kind_here" : Str), ("_law_many" : Str)] s_cells_) (b_cells : Binds K fd_cells [("_law_state" : Str), ("_law_kind_here" : Str), ("_law_many" : Str)] []) (m_cells : mg ("_law_cells" : Str) = some (.ref f_cells)) (kp_cells : PySem.W.keepIn K (.ref f_cells) = true) {f_near_cells : Addr} {fd_near_cells : FuncData} {s_near_cells_ : Sp} (G_near_cells : FnOk P w K mg base CX0 2 f_near_cells fd_near_cells [("_law_state" : Str), ("_law_kind_here" : Str), ("_law_many" : Str)] s_near_cells_) (b_near_cells : Binds K fd_near_cells [("_law_state" : Str), ("_law_kind_here" : Str), ("_law_many" : Str)] []) (m_near_cells : mg ("_law_near_cells" : Str) = some (.ref f_near_cells)) (kp_near_cells : PySem.W.keepIn K (.ref f_near_cells) = true) {sp : Sp} (hl : ∀ vs H Q E, sp vs H Q E → vs.length = 3)
    (hp : ∀ vs H Q E, sp vs H Q E → t_some_cells K s_take_ s_cells_ s_near_cells_ { nx := fun _ H' => Q .non H', rt := Q } (start NN_some_cells vs) H) : FnOk P w K mg base CX0 4 f fd [("_law_state" : Str), ("_law_kind_here" : Str), ("_law_many" : Str)] sp := by
  refine F.ok (k := 3) sc_some_cells hl (fun cdv A outer s H vs Q E hr h => ⟨t_some_cells K s_take_ s_cells_ s_near_cells_, ?_, hp vs H Q E h⟩)
  exact (pss_cons (ps_if (pt_cmpR (op_eqU hr.units) (pe_call G_take (hr.mono (by decide)) (by rfl) m_take kp_take b_take .nil pass0 (pa_cons (pv 0) (pa_cons pe_int pa_nil))) pe_int (nomark _))
      (pss_one (ps_ret (pe_call G_cells (hr.mono (by decide)) (by rfl) m_cells kp_cells b_cells .nil pass0 (pa_cons (pv 0) (pa_cons (pv 1) (pa_cons (pv 2) pa_nil))))))
      pss_nil)
      (pss_one (ps_ret (pe_call G_near_cells (hr.mono (by decide)) (by rfl) m_near_cells kp_near_cells b_near_cells .nil pass0 (pa_cons (pv 0) (pa_cons (pv 1) (pa_cons (pv 2) pa_nil)))))))
abbrev NN_value : List Str := [("_law_state" : Str), ("_law_kind_here" : Str), ("_law_cells_here" : Str), ("_law_cell" : Str), ("_law_known" : Str), ("_law_way" : Str), ("_law_number_here" : Str)]
abbrev sT_value : Stmt := topS 12
theorem sc_value : FnScope NN_value [("_law_state" : Str), ("_law_kind_here" : Str), ("_law_cells_here" : Str)] (defScope sT_value) := ⟨rfl, rfl, rfl, by decide +kernel, rfl, by decide +kernel, by decide +kernel⟩
theorem ok_value {f : Addr} {fd : FuncData} (F : Fun K ("_law_value" : Str) ("_law_value" : Str) sT_value f fd) {f_take : Addr} {fd_take : FuncData} {s_take_ : Sp} (G_take : FnOk P w K mg base CX0 1 f_take fd_take [("_law_state" : Str), ("_law_many" : Str)] s_take_) (b_take : Binds K fd_take [("_law_state" : Str), ("_law_many" : Str)] []) (m_take : mg ("_law_take" : Str) = some (.ref f_take)) (kp_take : PySem.W.keepIn K (.ref f_take) = true) {f_text : Addr} {fd_text : FuncData} {s_text_ : Sp} (G_text : FnOk P w K mg base CX0 2 f_text fd_text [("_law_state" : Str)] s_text_) (b_text : Binds K fd_text [("_law_state" : Str)] []) (m_text : mg ("_law_text" : Str) = some (.ref f_text)) (kp_text : PySem.W.keepIn K (.ref f_text) = true) {f_number : Addr} {fd_number : FuncData} {s_number_ : Sp} (G_number : FnOk P w K mg base CX0 2 f_number fd_number [("_law_state" : Str)] s_number_) (b_number : Binds K fd_number [("_law_state" : Str)] []) (m_number : mg ("_law_number" : Str) = some (.ref f_number)) (kp_number : PySem.W.keepIn K (.ref f_number) = true) (z_len : mg ("len" : Str) = none) (z_min : mg ("min" : Str) = none) (z_max : mg ("max" : Str) = none) {sp : Sp} (hl : ∀ vs H Q E, sp vs H Q E → vs.length = 3)
    (hp : ∀ vs H Q E, sp vs H Q E → t_value K s_take_ s_text_ s_number_ { nx := fun _ H' => Q .non H', rt := Q } (start NN_value vs) H) : FnOk P w K mg base CX0 3 f fd [("_law_state" : Str), ("_law_kind_here" : Str), ("_law_cells_here" : Str)] sp := by
  refine F.ok (k := 2) sc_value hl (fun cdv A outer s H vs Q E hr h => ⟨t_value K s_take_ s_text_ s_number_, ?_, hp vs H Q E h⟩)
  exact (pss_cons (ps_setLc (i := 4) (own := [(("_law_cell" : Str), 3)]) (g := (gName 3)) (tt := (tTest (tOp (rNotN) (tVar 3) (tC .non)))) (te := (tVar 3)) (by rfl) sc_value.nd rfl rfl (sw_true rfl rfl rfl (by decide +kernel)) (pi_seqV (pv 2)) (blkOk_by (own := [(("_law_cell" : Str), 3)]) (N := [("_law_state" : Str), ("_law_kind_here" : Str), ("_law_cells_here" : Str), ("_law_cell" : Str), ("_law_known" : Str), ("_law_way" : Str), ("_law_number_here" : Str)]) (sc := defScope sT_value) (by decide +kernel)) (fun _ _ _ _ _ => (pg_name (i := 3) sc_value.nd rfl (by first | exact Or.inl rfl | exact Or.inr rfl))) (fun _ _ _ _ _ => pts_one (pt_cmpR op_notNU (pv 3) pe_non (nomark _))) (fun _ _ _ _ _ => (pv 3)))
      (pss_cons (ps_set (i := 5) sc_value.nd rfl (by first | exact Or.inl rfl | exact Or.inr rfl) (pe_call G_take (hr.mono (by decide)) (by rfl) m_take kp_take b_take .nil pass0 (pa_cons (pv 0) (pa_cons pe_int pa_nil))))
      (pss_cons (ps_if (pt_cmpR (op_eqU hr.units) (pv 1) pe_str (nomark _))
      (pss_cons (ps_if (PW.pt (pw_and (pt_cmpR op_ltU (pv 5) pe_int (nomark _)) (pw_and1 (pt_cmpR op_gtV (pe_callB call_lenU (by rfl) z_len bt_len (pa_cons (pv 4) pa_nil)) pe_int (nomark _)))))
      (pss_one (ps_ret (pe_slice sl_u (pe_op op_addU (pe_ix (ix_u (hu_of hr)) (pv 4) (pe_call G_take (hr.mono (by decide)) (by rfl) m_take kp_take b_take .nil pass0 (pa_cons (pv 0) (pa_cons (pe_callB call_lenU (by rfl) z_len bt_len (pa_cons (pv 4) pa_nil)) pa_nil))) (fun _ _ => rfl)) (pe_ix (ix_u (hu_of hr)) (pe_lst (pa_cons pe_str (pa_cons pe_str (pa_cons pe_str (pa_cons pe_str pa_nil))))) (pv 5) (fun _ _ => rfl))) po_none (po_some pe_int))))
      pss_nil)
      (pss_one (ps_ret (pe_call G_text (hr.mono (by decide)) (by rfl) m_text kp_text b_text .nil pass0 (pa_cons (pv 0) pa_nil)))))
      pss_nil)
      (pss_cons (ps_if (PW.pt (pw_and (pt_cmpR op_ltU (pv 5) pe_int (nomark _)) (pw_and1 (pt_cmpR op_gtV (pe_callB call_lenU (by rfl) z_len bt_len (pa_cons (pv 4) pa_nil)) pe_int (nomark _)))))
      (pss_cons (ps_set (i := 6) sc_value.nd rfl (by first | exact Or.inl rfl | exact Or.inr rfl) (pe_op op_addU (pe_ix (ix_u (hu_of hr)) (pv 4) (pe_call G_take (hr.mono (by decide)) (by rfl) m_take kp_take b_take .nil pass0 (pa_cons (pv 0) (pa_cons (pe_callB call_lenU (by rfl) z_len bt_len (pa_cons (pv 4) pa_nil)) pa_nil))) (fun _ _ => rfl)) (pe_ix (ix_u (hu_of hr)) (pe_lst (pa_cons pe_int (pa_cons pe_int (pa_cons pe_int (pa_cons (pe_un un_negU pe_int) pa_nil))))) (pv 5) (fun _ _ => rfl))))
      (pss_one (ps_ret (pe_callB (call_min2U (by rfl)) (by rfl) z_min bt_min (pa_cons (pe_op op_subU (pe_op op_powU pe_int pe_int) pe_int) (pa_cons (pe_callB (call_max2U (by rfl)) (by rfl) z_max bt_max (pa_cons (pe_op op_subU pe_int (pe_op op_powU pe_int pe_int)) (pa_cons (pv 6) pa_nil))) pa_nil))))))
      pss_nil)
      (pss_one (ps_ret (pe_call G_number (hr.mono (by decide)) (by rfl) m_number kp_number b_number .nil pass0 (pa_cons (pv 0) pa_nil))))))))
abbrev NN_test : List Str := [("_law_state" : Str), ("_law_kind_here" : Str), ("_law_cells_here" : Str), ("_law_word" : Str), ("_law_many" : Str), ("_law_k" : Str)]
abbrev sT_test : Stmt := topS 13
theorem sc_test : FnScope NN_test [("_law_state" : Str), ("_law_kind_here" : Str), ("_law_cells_here" : Str)] (defScope sT_test) := ⟨rfl, rfl, rfl, by decide +kernel, rfl, by decide +kernel, by decide +kernel⟩
theorem ok_test {f : Addr} {fd : FuncData} (F : Fun K ("_law_test" : Str) ("_law_test" : Str) sT_test f fd) {f_take : Addr} {fd_take : FuncData} {s_take_ : Sp} (G_take : FnOk P w K mg base CX0 1 f_take fd_take [("_law_state" : Str), ("_law_many" : Str)] s_take_) (b_take : Binds K fd_take [("_law_state" : Str), ("_law_many" : Str)] []) (m_take : mg ("_law_take" : Str) = some (.ref f_take)) (kp_take : PySem.W.keepIn K (.ref f_take) = true) {f_value : Addr} {fd_value : FuncData} {s_value_ : Sp} (G_value : FnOk P w K mg base CX0 3 f_value fd_value [("_law_state" : Str), ("_law_kind_here" : Str), ("_law_cells_here" : Str)] s_value_) (b_value : Binds K fd_value [("_law_state" : Str), ("_law_kind_here" : Str), ("_law_cells_here" : Str)] []) (m_value : mg ("_law_value" : Str) = some (.ref f_value)) (kp_value : PySem.W.keepIn K (.ref f_value) = true) (z_range : mg ("range" : Str) = none) {sp : Sp} (hl : ∀ vs H Q E, sp vs H Q E → vs.length = 3)
    (hp : ∀ vs H Q E, sp vs H Q E → t_test K s_take_ s_value_ { nx := fun _ H' => Q .non H', rt := Q } (start NN_test vs) H) : FnOk P w K mg base CX0 4 f fd [("_law_state" : Str), ("_law_kind_here" : Str), ("_law_cells_here" : Str)] sp := by
  refine F.ok (k := 3) sc_test hl (fun cdv A outer s H vs Q E hr h => ⟨t_test K s_take_ s_value_, ?_, hp vs H Q E h⟩)
  exact (pss_cons (ps_set (i := 3) sc_test.nd rfl (by first | exact Or.inl rfl | exact Or.inr rfl) (pe_ix (ix_u (hu_of hr)) (pe_lst (pa_cons pe_str (pa_cons pe_str (pa_cons pe_str (pa_cons pe_str (pa_cons pe_str (pa_cons pe_str (pa_cons pe_str (pa_cons pe_str pa_nil))))))))) (pe_call G_take (hr.mono (by decide)) (by rfl) m_take kp_take b_take .nil pass0 (pa_cons (pv 0) (pa_cons pe_int pa_nil))) (fun _ _ => rfl)))
      (pss_cons (ps_if (pt_cmpR (op_eqU hr.units) (pv 3) pe_str (nomark _))
      (pss_one (ps_ret (pe_tup (pa_cons pe_str pa_nil))))
      pss_nil)
      (pss_cons (ps_if (pt_cmpR (op_eqU hr.units) (pv 3) pe_str (nomark _))
      (pss_cons (ps_set (i := 4) sc_test.nd rfl (by first | exact Or.inl rfl | exact Or.inr rfl) (pe_ix (ix_u (hu_of hr)) (pe_lst (pa_cons pe_int (pa_cons pe_int (pa_cons pe_int (pa_cons pe_int (pa_cons pe_int pa_nil)))))) (pe_call G_take (hr.mono (by decide)) (by rfl) m_take kp_take b_take .nil pass0 (pa_cons (pv 0) (pa_cons pe_int pa_nil))) (fun _ _ => rfl)))
      (pss_one (ps_ret (pe_tup (pa_cons pe_str (pa_cons (pe_lc (own := [(("_law_k" : Str), 5)]) (g := (gName 5)) (tt := tYes) (te := (tCall s_value_ [] E0 (tCons (tVar 0) (tCons (tVar 1) (tCons (tVar 2) tNil))))) (by rfl) sc_test.nd (pi_range1 rfl z_range (pa_cons (pv 4) pa_nil)) (blkOk_by (own := [(("_law_k" : Str), 5)]) (N := [("_law_state" : Str), ("_law_kind_here" : Str), ("_law_cells_here" : Str), ("_law_word" : Str), ("_law_many" : Str), ("_law_k" : Str)]) (sc := defScope sT_test) (by decide +kernel)) (fun _ _ _ _ _ => (pg_name (i := 5) sc_test.nd rfl (by first | exact Or.inl rfl | exact Or.inr rfl))) (fun _ _ _ _ _ => pts_nil) (fun _ _ _ _ _ => (pe_call G_value (hr.mono (by decide)) (by rfl) m_value kp_value b_value .nil pass0 (pa_cons (pv 0) (pa_cons (pv 1) (pa_cons (pv 2) pa_nil)))))) pa_nil))))))
      pss_nil)
      (pss_one (ps_ret (pe_tup (pa_cons (pv 3) (pa_cons (pe_call G_value (hr.mono (by decide)) (by rfl) m_value kp_value b_value .nil pass0 (pa_cons (pv 0) (pa_cons (pv 1) (pa_cons (pv 2) pa_nil)))) pa_nil))))))))
abbrev NN_own_meets : List Str := [("_law_cell" : Str), ("_law_test_here" : Str), ("_law_value_here" : Str), ("_law_order" : Str)]
abbrev sT_own_meets : Stmt := topS 14
theorem sc_own_meets : FnScope NN_own_meets [("_law_cell" : Str), ("_law_test_here" : Str)] (defScope sT_own_meets) := ⟨rfl, rfl, rfl, by decide +kernel, rfl, by decide +kernel, by decide +kernel⟩
theorem ok_own_meets {f : Addr} {fd : FuncData} (F : Fun K ("_law_meets" : Str) ("_law_meets" : Str) sT_own_meets f fd) (z_any : mg ("any" : Str) = none) (z_int : mg ("int" : Str) = none) {sp : Sp} (hl : ∀ vs H Q E, sp vs H Q E → vs.length = 2)
    (hp : ∀ vs H Q E, sp vs H Q E → t_own_meets K { nx := fun _ H' => Q .non H', rt := Q } (start NN_own_meets vs) H) : FnOk P w K mg base CX0 1 f fd [("_law_cell" : Str), ("_law_test_here" : Str)] sp := by
  refine F.ok (k := 0) sc_own_meets hl (fun cdv A outer s H vs Q E hr h => ⟨t_own_meets K, ?_, hp vs H Q E h⟩)
  exact (pss_cons (ps_if (pt_cmpR (op_eqU hr.units) (pe_ix (ix_u (hu_of hr)) (pv 1) pe_int (fun _ _ => rfl)) pe_str (nomark _))
      (pss_one (ps_ret (pe_cmpR op_isNU (pv 0) pe_non (nomark _))))
      pss_nil)
      (pss_cons (ps_if (pt_cmpR op_isNU (pv 0) pe_non (nomark _))
      (pss_one (ps_ret pe_bl))
      pss_nil)
      (pss_cons (ps_if (pt_cmpR (op_eqU hr.units) (pe_ix (ix_u (hu_of hr)) (pv 1) pe_int (fun _ _ => rfl)) pe_str (nomark _))
      (pss_one (ps_ret (pe_callB (cr_any (by rfl)) (by rfl) z_any bt_any (pa_cons (pe_lc (own := [(("_law_value_here" : Str), 2)]) (g := (gName 2)) (tt := tYes) (te := (tOp (rEqU K) (tVar 0) (tVar 2))) (by rfl) sc_own_meets.nd (pi_seqV (pe_ix (ix_u (hu_of hr)) (pv 1) pe_int (fun _ _ => rfl))) (blkOk_by (own := [(("_law_value_here" : Str), 2)]) (N := [("_law_cell" : Str), ("_law_test_here" : Str), ("_law_value_here" : Str), ("_law_order" : Str)]) (sc := defScope sT_own_meets) (by decide +kernel)) (fun _ _ _ _ _ => (pg_name (i := 2) sc_own_meets.nd rfl (by first | exact Or.inl rfl | exact Or.inr rfl))) (fun _ _ _ _ _ => pts_nil) (fun _ _ _ _ _ => (pe_cmpR (op_eqU hr.units) (pv 0) (pv 2) (nomark _)))) pa_nil))))
      pss_nil)
      (pss_cons (ps_set (i := 3) sc_own_meets.nd rfl (by first | exact Or.inl rfl | exact Or.inr rfl) (pe_op op_subU (pe_callTy call_intU (by rfl) z_int bt_int (pa_cons (pe_cmpR op_gtV (pv 0) (pe_ix (ix_u (hu_of hr)) (pv 1) pe_int (fun _ _ => rfl)) (nomark _)) pa_nil)) (pe_callTy call_intU (by rfl) z_int bt_int (pa_cons (pe_cmpR op_ltU (pv 0) (pe_ix (ix_u (hu_of hr)) (pv 1) pe_int (fun _ _ => rfl)) (nomark _)) pa_nil))))
      (pss_one (ps_ret (pe_cmpR (op_inU (hu_of hr)) (pv 3) (pe_ix (ix_u (hu_of hr)) (pe_disp (pps_cons pe_str (pe_lst (pa_cons pe_int pa_nil)) (pps_cons pe_str (pe_lst (pa_cons (pe_un un_negU pe_int) (pa_cons pe_int pa_nil))) (pps_cons pe_str (pe_lst (pa_cons (pe_un un_negU pe_int) pa_nil)) (pps_cons pe_str (pe_lst (pa_cons (pe_un un_negU pe_int) (pa_cons pe_int pa_nil))) (pps_cons pe_str (pe_lst (pa_cons pe_int pa_nil)) (pps_cons pe_str (pe_lst (pa_cons pe_int (pa_cons pe_int pa_nil))) pps_nil)))))) (by rfl) (by rfl) (fun z => by cases z) (by decide)) (pe_ix (ix_u (hu_of hr)) (pv 1) pe_int (fun _ _ => rfl)) (fun _ _ => rfl)) (by rfl))))))))
abbrev NN_is_so : List Str := [("cell" : Str), ("sign" : Str), ("value" : Str)]
abbrev sT_is_so : Stmt := topS 1
theorem sc_is_so : FnScope NN_is_so [("cell" : Str), ("sign" : Str), ("value" : Str)] (defScope sT_is_so) := ⟨rfl, rfl, rfl, by decide +kernel, rfl, by decide +kernel, by decide +kernel⟩
theorem ok_is_so {f : Addr} {fd : FuncData} (F : Fun K ("is_so" : Str) ("is_so" : Str) sT_is_so f fd) {sp : Sp} (hl : ∀ vs H Q E, sp vs H Q E → vs.length = 3)
    (hp : ∀ vs H Q E, sp vs H Q E → t_is_so K { nx := fun _ H' => Q .non H', rt := Q } (start NN_is_so vs) H) : FnOk P w K mg base CX0 1 f fd [("cell" : Str), ("sign" : Str), ("value" : Str)] sp := by
  refine F.ok (k := 0) sc_is_so hl (fun cdv A outer s H vs Q E hr h => ⟨t_is_so K, ?_, hp vs H Q E h⟩)
  exact (pss_cons (ps_if (pt_cmpR (op_eqU hr.units) (pv 1) pe_str (nomark _))
      (pss_one (ps_ret (pe_cmpR (op_eqU hr.units) (pv 0) (pv 2) (nomark _))))
      pss_nil)
      (pss_cons (ps_if (pt_cmpR (op_eqU hr.units) (pv 1) pe_str (nomark _))
      (pss_one (ps_ret (pe_cmpR (op_neU hr.units) (pv 0) (pv 2) (nomark _))))
      pss_nil)
      (pss_cons (ps_if (pt_cmpR (op_eqU hr.units) (pv 1) pe_str (nomark _))
      (pss_one (ps_ret (pe_cmpR op_ltU (pv 0) (pv 2) (nomark _))))
      pss_nil)
      (pss_cons (ps_if (pt_cmpR (op_eqU hr.units) (pv 1) pe_str (nomark _))
      (pss_one (ps_ret (pe_cmpR op_leV (pv 0) (pv 2) (nomark _))))
      pss_nil)
      (pss_cons (ps_if (pt_cmpR (op_eqU hr.units) (pv 1) pe_str (nomark _))
      (pss_one (ps_ret (pe_cmpR op_gtV (pv 0) (pv 2) (nomark _))))
      pss_nil)
      (pss_one (ps_ret (pe_cmpR op_geV (pv 0) (pv 2) (nomark _)))))))))
abbrev NN_meets : List Str := [("cell" : Str), ("test" : Str)]
abbrev sT_meets : Stmt := topS 2
theorem sc_meets : FnScope NN_meets [("cell" : Str), ("test" : Str)] (defScope sT_meets) := ⟨rfl, rfl, rfl, by decide +kernel, rfl, by decide +kernel, by decide +kernel⟩
theorem ok_meets {f : Addr} {fd : FuncData} (F : Fun K ("meets" : Str) ("meets" : Str) sT_meets f fd) {f_is_so : Addr} {fd_is_so : FuncData} {s_is_so_ : Sp} (G_is_so : FnOk P w K mg base CX0 1 f_is_so fd_is_so [("cell" : Str), ("sign" : Str), ("value" : Str)] s_is_so_) (b_is_so : Binds K fd_is_so [("cell" : Str), ("sign" : Str), ("value" : Str)] []) (m_is_so : mg ("is_so" : Str) = some (.ref f_is_so)) (kp_is_so : PySem.W.keepIn K (.ref f_is_so) = true) {sp : Sp} (hl : ∀ vs H Q E, sp vs H Q E → vs.length = 2)
    (hp : ∀ vs H Q E, sp vs H Q E → t_meets K s_is_so_ { nx := fun _ H' => Q .non H', rt := Q } (start NN_meets vs) H) : FnOk P w K mg base CX0 2 f fd [("cell" : Str), ("test" : Str)] sp := by
  refine F.ok (k := 1) sc_meets hl (fun cdv A outer s H vs Q E hr h => ⟨t_meets K s_is_so_, ?_, hp vs H Q E h⟩)
  exact (pss_cons (ps_if (pt_cmpR (op_eqU hr.units) (pe_ix (ix_u (hu_of hr)) (pv 1) pe_int (fun _ _ => rfl)) pe_str (nomark _))
      (pss_one (ps_ret (pe_cmpR op_isNU (pv 0) pe_non (nomark _))))
      pss_nil)
      (pss_cons (ps_if (pt_cmpR op_isNU (pv 0) pe_non (nomark _))
      (pss_one (ps_ret pe_bl))
      pss_nil)
      (pss_cons (ps_if (pt_cmpR (op_eqU hr.units) (pe_ix (ix_u (hu_of hr)) (pv 1) pe_int (fun _ _ => rfl)) pe_str (nomark _))
      (pss_one (ps_ret (pe_cmpR (op_inU (hu_of hr)) (pv 0) (pe_ix (ix_u (hu_of hr)) (pv 1) pe_int (fun _ _ => rfl)) (by rfl))))
      pss_nil)
      (pss_one (ps_ret (pe_call G_is_so (hr.mono (by decide)) (by rfl) m_is_so kp_is_so b_is_so .nil pass0 (pa_cons (pv 0) (pa_cons (pe_ix (ix_u (hu_of hr)) (pv 1) pe_int (fun _ _ => rfl)) (pa_cons (pe_ix (ix_u (hu_of hr)) (pv 1) pe_int (fun _ _ => rfl)) pa_nil)))))))))
abbrev NN_told_so : List Str := [("_law_cell" : Str), ("_law_test_here" : Str), ("_law_due" : Str), ("_law_kept" : Str), ("_law_turn" : Str), ("_law_told" : Str)]
abbrev sT_told_so : Stmt := topS 15
theorem sc_told_so : FnScope NN_told_so [("_law_cell" : Str), ("_law_test_here" : Str)] (defScope sT_told_so) := ⟨rfl, rfl, rfl, by decide +kernel, rfl, by decide +kernel, by decide +kernel⟩
theorem ok_told_so {f : Addr} {fd : FuncData} (F : Fun K ("_law_told_so" : Str) ("_law_told_so" : Str) sT_told_so f fd) {f_own_meets : Addr} {fd_own_meets : FuncData} {s_own_meets_ : Sp} (G_own_meets : FnOk P w K mg base CX0 1 f_own_meets fd_own_meets [("_law_cell" : Str), ("_law_test_here" : Str)] s_own_meets_) (b_own_meets : Binds K fd_own_meets [("_law_cell" : Str), ("_law_test_here" : Str)] []) (m_own_meets : mg ("_law_meets" : Str) = some (.ref f_own_meets)) (kp_own_meets : PySem.W.keepIn K (.ref f_own_meets) = true) {f_meets : Addr} {fd_meets : FuncData} {s_meets_ : Sp} (G_meets : FnOk P w K mg base CX0 2 f_meets fd_meets [("cell" : Str), ("test" : Str)] s_meets_) (b_meets : Binds K fd_meets [("cell" : Str), ("test" : Str)] []) (m_meets : mg ("meets" : Str) = some (.ref f_meets)) (kp_meets : PySem.W.keepIn K (.ref f_meets) = true) (z_str : mg ("str" : Str) = none) (z_range : mg ("range" : Str) = none) (z_isinstance : mg ("isinstance" : Str) = none) (z_bool : mg ("bool" : Str) = none) {sp : Sp} (hl : ∀ vs H Q E, sp vs H Q E → vs.length = 2)
    (hp : ∀ vs H Q E, sp vs H Q E → t_told_so K s_own_meets_ s_meets_ { nx := fun _ H' => Q .non H', rt := Q } (start NN_told_so vs) H) : FnG P w K mg base CX0 3 f fd [("_law_cell" : Str), ("_law_test_here" : Str)] sp := by
  refine fun_okG F (k := 2) sc_told_so hl (fun cdv A outer s H vs Q E gA hr h => ⟨t_told_so K s_own_meets_ s_meets_, ?_, hp vs H Q E h⟩)
  exact (pss_cons (ps_set (i := 2) sc_told_so.nd rfl (by first | exact Or.inl rfl | exact Or.inr rfl) (pe_call G_own_meets (hr.mono (by decide)) (by rfl) m_own_meets kp_own_meets b_own_meets .nil pass0 (pa_cons (pv 0) (pa_cons (pv 1) pa_nil))))
      (pss_cons (ps_set (i := 3) sc_told_so.nd rfl (by first | exact Or.inl rfl | exact Or.inr rfl) (pe_callTy (call_strQ gA hr) (by rfl) z_str bt_str (pa_cons (pv 1) pa_nil)))
      (pss_cons (ps_for PassesOwn.never rfl (pi_range1 rfl z_range (pa_cons pe_int pa_nil)) (pg_name (i := 4) sc_told_so.nd rfl (by first | exact Or.inl rfl | exact Or.inr rfl))
      (pss_cons (ps_set (i := 5) sc_told_so.nd rfl (by first | exact Or.inl rfl | exact Or.inr rfl) (pe_call G_meets (hr.mono (by decide)) (by rfl) m_meets kp_meets b_meets .nil pass0 (pa_cons (pv 0) (pa_cons (pv 1) pa_nil))))
      (pss_one (ps_if (PW.pt (pw_or (pt_not (pt_truU (pe_callB call_isiU (by rfl) z_isinstance bt_isinstance (pa_cons (pv 5) (pa_cons (pe_bltn (by rfl) z_bool bt_bool rfl) pa_nil))) (by intro _; rfl))) (pw_or1 (pt_cmpR (op_neU hr.units) (pv 5) (pv 2) (nomark _)))))
      (pss_one (ps_ret pe_bl))
      pss_nil))))
      (pss_one (ps_ret (pe_cmpR (op_eqU hr.units) (pe_callTy (call_strQ gA hr) (by rfl) z_str bt_str (pa_cons (pv 1) pa_nil)) (pv 3) (nomark _)))))))
abbrev NN_law : List Str := [("_law_script" : Str), ("_law_state" : Str), ("_law_turn" : Str), ("_law_kind_here" : Str), ("_law_cells_here" : Str), ("_law_k" : Str), ("_law_test_here" : Str), ("_law_cell" : Str)]
abbrev sT_law : Stmt := topS 16
theorem sc_law : FnScope NN_law [("_law_script" : Str)] (defScope sT_law) := ⟨rfl, rfl, rfl, by decide +kernel, rfl, by decide +kernel, by decide +kernel⟩
theorem ok_law {f : Addr} {fd : FuncData} (F : Fun K ("law" : Str) ("law" : Str) sT_law f fd) {f_begin : Addr} {fd_begin : FuncData} {s_begin_ : Sp} (G_begin : FnOk P w K mg base CX0 1 f_begin fd_begin [("_law_script" : Str)] s_begin_) (b_begin : Binds K fd_begin [("_law_script" : Str)] []) (m_begin : mg ("_law_begin" : Str) = some (.ref f_begin)) (kp_begin : PySem.W.keepIn K (.ref f_begin) = true) {f_kind : Addr} {fd_kind : FuncData} {s_kind_ : Sp} (G_kind : FnOk P w K mg base CX0 2 f_kind fd_kind [("_law_state" : Str)] s_kind_) (b_kind : Binds K fd_kind [("_law_state" : Str)] []) (m_kind : mg ("_law_kind" : Str) = some (.ref f_kind)) (kp_kind : PySem.W.keepIn K (.ref f_kind) = true) {f_some_cells : Addr} {fd_some_cells : FuncData} {s_some_cells_ : Sp} (G_some_cells : FnOk P w K mg base CX0 4 f_some_cells fd_some_cells [("_law_state" : Str), ("_law_kind_here" : Str), ("_law_many" : Str)] s_some_cells_) (b_some_cells : Binds K fd_some_cells [("_law_state" : Str), ("_law_kind_here" : Str), ("_law_many" : Str)] []) (m_some_cells : mg ("_law_some_cells" : Str) = some (.ref f_some_cells)) (kp_some_cells : PySem.W.keepIn K (.ref f_some_cells) = true) {f_take : Addr} {fd_take : FuncData} {s_take_ : Sp} (G_take : FnOk P w K mg base CX0 1 f_take fd_take [("_law_state" : Str), ("_law_many" : Str)] s_take_) (b_take : Binds K fd_take [("_law_state" : Str), ("_law_many" : Str)] []) (m_take : mg ("_law_take" : Str) = some (.ref f_take)) (kp_take : PySem.W.keepIn K (.ref f_take) = true) {f_test : Addr} {fd_test : FuncData} {s_test_ : Sp} (G_test : FnOk P w K mg base CX0 4 f_test fd_test [("_law_state" : Str), ("_law_kind_here" : Str), ("_law_cells_here" : Str)] s_test_) (b_test : Binds K fd_test [("_law_state" : Str), ("_law_kind_here" : Str), ("_law_cells_here" : Str)] []) (m_test : mg ("_law_test" : Str) = some (.ref f_test)) (kp_test : PySem.W.keepIn K (.ref f_test) = true) {f_value : Addr} {fd_value : FuncData} {s_value_ : Sp} (G_value : FnOk P w K mg base CX0 3 f_value fd_value [("_law_state" : Str), ("_law_kind_here" : Str), ("_law_cells_here" : Str)] s_value_) (b_value : Binds K fd_value [("_law_state" : Str), ("_law_kind_here" : Str), ("_law_cells_here" : Str)] []) (m_value : mg ("_law_value" : Str) = some (.ref f_value)) (kp_value : PySem.W.keepIn K (.ref f_value) = true) {f_told_so : Addr} {fd_told_so : FuncData} {s_told_so_ : Sp} (G_told_so : FnG P w K mg base CX0 3 f_told_so fd_told_so [("_law_cell" : Str), ("_law_test_here" : Str)] s_told_so_) (b_told_so : Binds K fd_told_so [("_law_cell" : Str), ("_law_test_here" : Str)] []) (m_told_so : mg ("_law_told_so" : Str) = some (.ref f_told_so)) (kp_told_so : PySem.W.keepIn K (.ref f_told_so) = true) (z_range : mg ("range" : Str) = none) (z_tuple : mg ("tuple" : Str) = none) {sp : Sp} (hl : ∀ vs H Q E, sp vs H Q E → vs.length = 1)
    (hp : ∀ vs H Q E, sp vs H Q E → t_law K s_begin_ s_kind_ s_some_cells_ s_take_ s_test_ s_value_ s_told_so_ { nx := fun _ H' => Q .non H', rt := Q } (start NN_law vs) H) : FnG P w K mg base CX0 5 f fd [("_law_script" : Str)] sp := by
  refine fun_okG F (k := 4) sc_law hl (fun cdv A outer s H vs Q E gA hr h => ⟨t_law K s_begin_ s_kind_ s_some_cells_ s_take_ s_test_ s_value_ s_told_so_, ?_, hp vs H Q E h⟩)
  exact (pss_cons (ps_set (i := 1) sc_law.nd rfl (by first | exact Or.inl rfl | exact Or.inr rfl) (pe_call G_begin (hr.mono (by decide)) (by rfl) m_begin kp_begin b_begin .nil pass0 (pa_cons (pv 0) pa_nil)))
      (pss_cons (ps_for PassesOwn.never rfl (pi_range1 rfl z_range (pa_cons pe_int pa_nil)) (pg_name (i := 2) sc_law.nd rfl (by first | exact Or.inl rfl | exact Or.inr rfl))
      (pss_cons (ps_set (i := 3) sc_law.nd rfl (by first | exact Or.inl rfl | exact Or.inr rfl) (pe_call G_kind (hr.mono (by decide)) (by rfl) m_kind kp_kind b_kind .nil pass0 (pa_cons (pv 1) pa_nil)))
      (pss_cons (ps_set (i := 4) sc_law.nd rfl (by first | exact Or.inl rfl | exact Or.inr rfl) (pe_call G_some_cells (hr.mono (by decide)) (by rfl) m_some_cells kp_some_cells b_some_cells .nil pass0 (pa_cons (pv 1) (pa_cons (pv 3) (pa_cons (pe_call G_take (hr.mono (by decide)) (by rfl) m_take kp_take b_take .nil pass0 (pa_cons (pv 1) (pa_cons pe_int pa_nil))) pa_nil)))))
      (pss_one (ps_for PassesOwn.never rfl (pi_range1 rfl z_range (pa_cons pe_int pa_nil)) (pg_name (i := 5) sc_law.nd rfl (by first | exact Or.inl rfl | exact Or.inr rfl))
      (pss_cons (ps_set (i := 6) sc_law.nd rfl (by first | exact Or.inl rfl | exact Or.inr rfl) (pe_call G_test (hr.mono (by decide)) (by rfl) m_test kp_test b_test .nil pass0 (pa_cons (pv 1) (pa_cons (pv 3) (pa_cons (pv 4) pa_nil)))))
      (pss_cons (ps_if (PW.pt (pw_and (pt_cmpR (op_eqU hr.units) (pe_ix (ix_u (hu_of hr)) (pv 6) pe_int (fun _ _ => rfl)) pe_str (nomark _)) (pw_and1 (pt_cmpR (op_eqU hr.units) (pe_call G_take (hr.mono (by decide)) (by rfl) m_take kp_take b_take .nil pass0 (pa_cons (pv 1) (pa_cons pe_int pa_nil))) pe_int (nomark _)))))
      (pss_one (ps_set (i := 6) sc_law.nd rfl (by first | exact Or.inl rfl | exact Or.inr rfl) (pe_tup (pa_cons pe_str (pa_cons (pe_callTy call_tupU (by rfl) z_tuple bt_tuple (pa_cons (pe_ix (ix_u (hu_of hr)) (pv 6) pe_int (fun _ _ => rfl)) pa_nil)) pa_nil)))))
      pss_nil)
      (pss_one (ps_for PassesOwn.never rfl (pi_seqV (pe_op op_addU (pv 4) (pe_lst (pa_cons pe_non (pa_cons (pe_call G_value (hr.mono (by decide)) (by rfl) m_value kp_value b_value .nil pass0 (pa_cons (pv 1) (pa_cons (pv 3) (pa_cons (pv 4) pa_nil)))) pa_nil))))) (pg_name (i := 7) sc_law.nd rfl (by first | exact Or.inl rfl | exact Or.inr rfl))
      (pss_one (ps_if (pt_not (pt_truU (pe_callG G_told_so gA (hr.mono (by decide)) (by rfl) m_told_so kp_told_so b_told_so (pa_cons (pv 7) (pa_cons (pv 6) pa_nil))) (by intro _; rfl)))
      (pss_one (ps_ret pe_bl))
      pss_nil)))))))))))
      (pss_one (ps_ret pe_bl))))
end
theorem all_mk {l : PySem.W.OpenLaw} {w : World} {K : PySem.W.Frag} {h : Heap} {mg : Str → Option Value} {fa : Addr} (X : K.In h) (G : h.Ns mainGlobals mg) (hfa : mg "law" = some (.ref fa))
    {f_begin : Addr} {od_begin an_begin : Option Addr} {sl_begin : Array (Option Value)} {oc_begin kV_begin dc_begin pm_begin cd_begin ct_begin : Value} {f_take : Addr} {od_take an_take : Option Addr} {sl_take : Array (Option Value)} {oc_take kV_take dc_take pm_take cd_take ct_take : Value} {f_kind : Addr} {od_kind an_kind : Option Addr} {sl_kind : Array (Option Value)} {oc_kind kV_kind dc_kind pm_kind cd_kind ct_kind : Value} {f_text : Addr} {od_text an_text : Option Addr} {sl_text : Array (Option Value)} {oc_text kV_text dc_text pm_text cd_text ct_text : Value} {f_number : Addr} {od_number an_number : Option Addr} {sl_number : Array (Option Value)} {oc_number kV_number dc_number pm_number cd_number ct_number : Value} {f_cells : Addr} {od_cells an_cells : Option Addr} {sl_cells : Array (Option Value)} {oc_cells kV_cells dc_cells pm_cells cd_cells ct_cells : Value} {f_near_cells : Addr} {od_near_cells an_near_cells : Option Addr} {sl_near_cells : Array (Option Value)} {oc_near_cells kV_near_cells dc_near_cells pm_near_cells cd_near_cells ct_near_cells : Value} {f_some_cells : Addr} {od_some_cells an_some_cells : Option Addr} {sl_some_cells : Array (Option Value)} {oc_some_cells kV_some_cells dc_some_cells pm_some_cells cd_some_cells ct_some_cells : Value} {f_value : Addr} {od_value an_value : Option Addr} {sl_value : Array (Option Value)} {oc_value kV_value dc_value pm_value cd_value ct_value : Value} {f_test : Addr} {od_test an_test : Option Addr} {sl_test : Array (Option Value)} {oc_test kV_test dc_test pm_test cd_test ct_test : Value} {f_own_meets : Addr} {od_own_meets an_own_meets : Option Addr} {sl_own_meets : Array (Option Value)} {oc_own_meets kV_own_meets dc_own_meets pm_own_meets cd_own_meets ct_own_meets : Value} {f_is_so : Addr} {od_is_so an_is_so : Option Addr} {sl_is_so : Array (Option Value)} {oc_is_so kV_is_so dc_is_so pm_is_so cd_is_so ct_is_so : Value} {f_meets : Addr} {od_meets an_meets : Option Addr} {sl_meets : Array (Option Value)} {oc_meets kV_meets dc_meets pm_meets cd_meets ct_meets : Value} {f_told_so : Addr} {od_told_so an_told_so : Option Addr} {sl_told_so : Array (Option Value)} {oc_told_so kV_told_so dc_told_so pm_told_so cd_told_so ct_told_so : Value} {f_law : Addr} {od_law an_law : Option Addr} {sl_law : Array (Option Value)} {oc_law kV_law dc_law pm_law cd_law ct_law : Value}
    (a_begin : PySem.W.nsIn K mainGlobals ("_law_begin" : Str) = some (some (.ref f_begin)))
    (l_begin : K.lookup f_begin = some ⟨oc_begin, od_begin, .func (PySem.W.fnOf ("_law_begin" : Str) ("_law_begin" : Str) (defArgs sT_begin) (defBody sT_begin) (defScope sT_begin) .none kV_begin dc_begin pm_begin an_begin cd_begin ct_begin), sl_begin⟩)
    (c_begin : PySem.W.codeIn K cd_begin ("_law_begin" : Str) = true)
    (kp_begin : PySem.W.keepIn K (.ref f_begin) = true)
    (a_take : PySem.W.nsIn K mainGlobals ("_law_take" : Str) = some (some (.ref f_take)))
    (l_take : K.lookup f_take = some ⟨oc_take, od_take, .func (PySem.W.fnOf ("_law_take" : Str) ("_law_take" : Str) (defArgs sT_take) (defBody sT_take) (defScope sT_take) .none kV_take dc_take pm_take an_take cd_take ct_take), sl_take⟩)
    (c_take : PySem.W.codeIn K cd_take ("_law_take" : Str) = true)
    (kp_take : PySem.W.keepIn K (.ref f_take) = true)
    (a_kind : PySem.W.nsIn K mainGlobals ("_law_kind" : Str) = some (some (.ref f_kind)))
    (l_kind : K.lookup f_kind = some ⟨oc_kind, od_kind, .func (PySem.W.fnOf ("_law_kind" : Str) ("_law_kind" : Str) (defArgs sT_kind) (defBody sT_kind) (defScope sT_kind) .none kV_kind dc_kind pm_kind an_kind cd_kind ct_kind), sl_kind⟩)
    (c_kind : PySem.W.codeIn K cd_kind ("_law_kind" : Str) = true)
    (kp_kind : PySem.W.keepIn K (.ref f_kind) = true)
    (a_text : PySem.W.nsIn K mainGlobals ("_law_text" : Str) = some (some (.ref f_text)))
    (l_text : K.lookup f_text = some ⟨oc_text, od_text, .func (PySem.W.fnOf ("_law_text" : Str) ("_law_text" : Str) (defArgs sT_text) (defBody sT_text) (defScope sT_text) .none kV_text dc_text pm_text an_text cd_text ct_text), sl_text⟩)
    (c_text : PySem.W.codeIn K cd_text ("_law_text" : Str) = true)
    (kp_text : PySem.W.keepIn K (.ref f_text) = true)
    (a_number : PySem.W.nsIn K mainGlobals ("_law_number" : Str) = some (some (.ref f_number)))
    (l_number : K.lookup f_number = some ⟨oc_number, od_number, .func (PySem.W.fnOf ("_law_number" : Str) ("_law_number" : Str) (defArgs sT_number) (defBody sT_number) (defScope sT_number) .none kV_number dc_number pm_number an_number cd_number ct_number), sl_number⟩)
    (c_number : PySem.W.codeIn K cd_number ("_law_number" : Str) = true)
    (kp_number : PySem.W.keepIn K (.ref f_number) = true)
    (a_cells : PySem.W.nsIn K mainGlobals ("_law_cells" : Str) = some (some (.ref f_cells)))
    (l_cells : K.lookup f_cells = some ⟨oc_cells, od_cells, .func (PySem.W.fnOf ("_law_cells" : Str) ("_law_cells" : Str) (defArgs sT_cells) (defBody sT_cells) (defScope sT_cells) .none kV_cells dc_cells pm_cells an_cells cd_cells ct_cells), sl_cells⟩)
    (c_cells : PySem.W.codeIn K cd_cells ("_law_cells" : Str) = true)
    (kp_cells : PySem.W.keepIn K (.ref f_cells) = true)
    (a_near_cells : PySem.W.nsIn K mainGlobals ("_law_near_cells" : Str) = some (some (.ref f_near_cells)))
    (l_near_cells : K.lookup f_near_cells = some ⟨oc_near_cells, od_near_cells, .func (PySem.W.fnOf ("_law_near_cells" : Str) ("_law_near_cells" : Str) (defArgs sT_near_cells) (defBody sT_near_cells) (defScope sT_near_cells) .none kV_near_cells dc_near_cells pm_near_cells an_near_cells cd_near_cells ct_near_cells), sl_near_cells⟩)
    (c_near_cells : PySem.W.codeIn K cd_near_cells ("_law_near_cells" : Str) = true)
    (kp_near_cells : PySem.W.keepIn K (.ref f_near_cells) = true)
    (a_some_cells : PySem.W.nsIn K mainGlobals ("_law_some_cells" : Str) = some (some (.ref f_some_cells)))
    (l_some_cells : K.lookup f_some_cells = some ⟨oc_some_cells, od_some_cells, .func (PySem.W.fnOf ("_law_some_cells" : Str) ("_law_some_cells" : Str) (defArgs sT_some_cells) (defBody sT_some_cells) (defScope sT_some_cells) .none kV_some_cells dc_some_cells pm_some_cells an_some_cells cd_some_cells ct_some_cells), sl_some_cells⟩)
    (c_some_cells : PySem.W.codeIn K cd_some_cells ("_law_some_cells" : Str) = true)
    (kp_some_cells : PySem.W.keepIn K (.ref f_some_cells) = true)
    (a_value : PySem.W.nsIn K mainGlobals ("_law_value" : Str) = some (some (.ref f_value)))
    (l_value : K.lookup f_value = some ⟨oc_value, od_value, .func (PySem.W.fnOf ("_law_value" : Str) ("_law_value" : Str) (defArgs sT_value) (defBody sT_value) (defScope sT_value) .none kV_value dc_value pm_value an_value cd_value ct_value), sl_value⟩)
    (c_value : PySem.W.codeIn K cd_value ("_law_value" : Str) = true)
    (kp_value : PySem.W.keepIn K (.ref f_value) = true)
    (a_test : PySem.W.nsIn K mainGlobals ("_law_test" : Str) = some (some (.ref f_test)))
    (l_test : K.lookup f_test = some ⟨oc_test, od_test, .func (PySem.W.fnOf ("_law_test" : Str) ("_law_test" : Str) (defArgs sT_test) (defBody sT_test) (defScope sT_test) .none kV_test dc_test pm_test an_test cd_test ct_test), sl_test⟩)
    (c_test : PySem.W.codeIn K cd_test ("_law_test" : Str) = true)
    (kp_test : PySem.W.keepIn K (.ref f_test) = true)
    (a_own_meets : PySem.W.nsIn K mainGlobals ("_law_meets" : Str) = some (some (.ref f_own_meets)))
    (l_own_meets : K.lookup f_own_meets = some ⟨oc_own_meets, od_own_meets, .func (PySem.W.fnOf ("_law_meets" : Str) ("_law_meets" : Str) (defArgs sT_own_meets) (defBody sT_own_meets) (defScope sT_own_meets) .none kV_own_meets dc_own_meets pm_own_meets an_own_meets cd_own_meets ct_own_meets), sl_own_meets⟩)
    (c_own_meets : PySem.W.codeIn K cd_own_meets ("_law_meets" : Str) = true)
    (kp_own_meets : PySem.W.keepIn K (.ref f_own_meets) = true)
    (a_is_so : PySem.W.nsIn K mainGlobals ("is_so" : Str) = some (some (.ref f_is_so)))
    (l_is_so : K.lookup f_is_so = some ⟨oc_is_so, od_is_so, .func (PySem.W.fnOf ("is_so" : Str) ("is_so" : Str) (defArgs sT_is_so) (defBody sT_is_so) (defScope sT_is_so) .none kV_is_so dc_is_so pm_is_so an_is_so cd_is_so ct_is_so), sl_is_so⟩)
    (c_is_so : PySem.W.codeIn K cd_is_so ("is_so" : Str) = true)
    (kp_is_so : PySem.W.keepIn K (.ref f_is_so) = true)
    (a_meets : PySem.W.nsIn K mainGlobals ("meets" : Str) = some (some (.ref f_meets)))
    (l_meets : K.lookup f_meets = some ⟨oc_meets, od_meets, .func (PySem.W.fnOf ("meets" : Str) ("meets" : Str) (defArgs sT_meets) (defBody sT_meets) (defScope sT_meets) .none kV_meets dc_meets pm_meets an_meets cd_meets ct_meets), sl_meets⟩)
    (c_meets : PySem.W.codeIn K cd_meets ("meets" : Str) = true)
    (kp_meets : PySem.W.keepIn K (.ref f_meets) = true)
    (a_told_so : PySem.W.nsIn K mainGlobals ("_law_told_so" : Str) = some (some (.ref f_told_so)))
    (l_told_so : K.lookup f_told_so = some ⟨oc_told_so, od_told_so, .func (PySem.W.fnOf ("_law_told_so" : Str) ("_law_told_so" : Str) (defArgs sT_told_so) (defBody sT_told_so) (defScope sT_told_so) .none kV_told_so dc_told_so pm_told_so an_told_so cd_told_so ct_told_so), sl_told_so⟩)
    (c_told_so : PySem.W.codeIn K cd_told_so ("_law_told_so" : Str) = true)
    (kp_told_so : PySem.W.keepIn K (.ref f_told_so) = true)
    (a_law : PySem.W.nsIn K mainGlobals ("law" : Str) = some (some (.ref f_law)))
    (l_law : K.lookup f_law = some ⟨oc_law, od_law, .func (PySem.W.fnOf ("law" : Str) ("law" : Str) (defArgs sT_law) (defBody sT_law) (defScope sT_law) .none kV_law dc_law pm_law an_law cd_law ct_law), sl_law⟩)
    (c_law : PySem.W.codeIn K cd_law ("law" : Str) = true)
    (kp_law : PySem.W.keepIn K (.ref f_law) = true)
    (zz_list : PySem.W.nsIn K mainGlobals ("list" : Str) = some none)
    (zz_len : PySem.W.nsIn K mainGlobals ("len" : Str) = some none)
    (zz_divmod : PySem.W.nsIn K mainGlobals ("divmod" : Str) = some none)
    (zz_range : PySem.W.nsIn K mainGlobals ("range" : Str) = some none)
    (zz_int : PySem.W.nsIn K mainGlobals ("int" : Str) = some none)
    (zz_min : PySem.W.nsIn K mainGlobals ("min" : Str) = some none)
    (zz_max : PySem.W.nsIn K mainGlobals ("max" : Str) = some none)
    (zz_any : PySem.W.nsIn K mainGlobals ("any" : Str) = some none)
    (zz_str : PySem.W.nsIn K mainGlobals ("str" : Str) = some none)
    (zz_isinstance : PySem.W.nsIn K mainGlobals ("isinstance" : Str) = some none)
    (zz_bool : PySem.W.nsIn K mainGlobals ("bool" : Str) = some none)
    (zz_tuple : PySem.W.nsIn K mainGlobals ("tuple" : Str) = some none) :
    ∃ fd : FuncData, (∀ (s : Shared) (v : Value), BindsTo s fd ⟨[v], []⟩ [("_law_script", v)]) ∧ ∀ base : Heap, K.In base → base.Ns mainGlobals mg → FnG l.prog w K mg base CX0 5 fa fd ["_law_script"] (spLaw K) := by
  have e := hfa.symm.trans (PySem.W.mg_of X G a_law)
  cases e
  have F_begin := fun_mk (st := sT_begin) l_begin c_begin kp_begin
  have m_begin := PySem.W.mg_of X G a_begin
  have b_begin := F_begin.binds (ps := [("_law_script" : Str)]) fun _ _ _ _ _ _ us hl => match us, hl with | [_], _ => rfl
  have F_take := fun_mk (st := sT_take) l_take c_take kp_take
  have m_take := PySem.W.mg_of X G a_take
  have b_take := F_take.binds (ps := [("_law_state" : Str), ("_law_many" : Str)]) fun _ _ _ _ _ _ us hl => match us, hl with | [_, _], _ => rfl
  have F_kind := fun_mk (st := sT_kind) l_kind c_kind kp_kind
  have m_kind := PySem.W.mg_of X G a_kind
  have b_kind := F_kind.binds (ps := [("_law_state" : Str)]) fun _ _ _ _ _ _ us hl => match us, hl with | [_], _ => rfl
  have F_text := fun_mk (st := sT_text) l_text c_text kp_text
  have m_text := PySem.W.mg_of X G a_text
  have b_text := F_text.binds (ps := [("_law_state" : Str)]) fun _ _ _ _ _ _ us hl => match us, hl with | [_], _ => rfl
  have F_number := fun_mk (st := sT_number) l_number c_number kp_number
  have m_number := PySem.W.mg_of X G a_number
  have b_number := F_number.binds (ps := [("_law_state" : Str)]) fun _ _ _ _ _ _ us hl => match us, hl with | [_], _ => rfl
  have F_cells := fun_mk (st := sT_cells) l_cells c_cells kp_cells
  have m_cells := PySem.W.mg_of X G a_cells
  have b_cells := F_cells.binds (ps := [("_law_state" : Str), ("_law_kind_here" : Str), ("_law_many" : Str)]) fun _ _ _ _ _ _ us hl => match us, hl with | [_, _, _], _ => rfl
  have F_near_cells := fun_mk (st := sT_near_cells) l_near_cells c_near_cells kp_near_cells
  have m_near_cells := PySem.W.mg_of X G a_near_cells
  have b_near_cells := F_near_cells.binds (ps := [("_law_state" : Str), ("_law_kind_here" : Str), ("_law_many" : Str)]) fun _ _ _ _ _ _ us hl => match us, hl with | [_, _, _], _ => rfl
  have F_some_cells := fun_mk (st := sT_some_cells) l_some_cells c_some_cells kp_some_cells
  have m_some_cells := PySem.W.mg_of X G a_some_cells
  have b_some_cells := F_some_cells.binds (ps := [("_law_state" : Str), ("_law_kind_here" : Str), ("_law_many" : Str)]) fun _ _ _ _ _ _ us hl => match us, hl with | [_, _, _], _ => rfl
  have F_value := fun_mk (st := sT_value) l_value c_value kp_value
  have m_value := PySem.W.mg_of X G a_value
  have b_value := F_value.binds (ps := [("_law_state" : Str), ("_law_kind_here" : Str), ("_law_cells_here" : Str)]) fun _ _ _ _ _ _ us hl => match us, hl with | [_, _, _], _ => rfl
  have F_test := fun_mk (st := sT_test) l_test c_test kp_test
  have m_test := PySem.W.mg_of X G a_test
  have b_test := F_test.binds (ps := [("_law_state" : Str), ("_law_kind_here" : Str), ("_law_cells_here" : Str)]) fun _ _ _ _ _ _ us hl => match us, hl with | [_, _, _], _ => rfl
  have F_own_meets := fun_mk (st := sT_own_meets) l_own_meets c_own_meets kp_own_meets
  have m_own_meets := PySem.W.mg_of X G a_own_meets
  have b_own_meets := F_own_meets.binds (ps := [("_law_cell" : Str), ("_law_test_here" : Str)]) fun _ _ _ _ _ _ us hl => match us, hl with | [_, _], _ => rfl
  have F_is_so := fun_mk (st := sT_is_so) l_is_so c_is_so kp_is_so
  have m_is_so := PySem.W.mg_of X G a_is_so
  have b_is_so := F_is_so.binds (ps := [("cell" : Str), ("sign" : Str), ("value" : Str)]) fun _ _ _ _ _ _ us hl => match us, hl with | [_, _, _], _ => rfl
  have F_meets := fun_mk (st := sT_meets) l_meets c_meets kp_meets
  have m_meets := PySem.W.mg_of X G a_meets
  have b_meets := F_meets.binds (ps := [("cell" : Str), ("test" : Str)]) fun _ _ _ _ _ _ us hl => match us, hl with | [_, _], _ => rfl
  have F_told_so := fun_mk (st := sT_told_so) l_told_so c_told_so kp_told_so
  have m_told_so := PySem.W.mg_of X G a_told_so
  have b_told_so := F_told_so.binds (ps := [("_law_cell" : Str), ("_law_test_here" : Str)]) fun _ _ _ _ _ _ us hl => match us, hl with | [_, _], _ => rfl
  have F_law := fun_mk (st := sT_law) l_law c_law kp_law
  have m_law := PySem.W.mg_of X G a_law
  have b_law := F_law.binds (ps := [("_law_script" : Str)]) fun _ _ _ _ _ _ us hl => match us, hl with | [_], _ => rfl
  have z_list := PySem.W.mg_none_of X G zz_list
  have z_len := PySem.W.mg_none_of X G zz_len
  have z_divmod := PySem.W.mg_none_of X G zz_divmod
  have z_range := PySem.W.mg_none_of X G zz_range
  have z_int := PySem.W.mg_none_of X G zz_int
  have z_min := PySem.W.mg_none_of X G zz_min
  have z_max := PySem.W.mg_none_of X G zz_max
  have z_any := PySem.W.mg_none_of X G zz_any
  have z_str := PySem.W.mg_none_of X G zz_str
  have z_isinstance := PySem.W.mg_none_of X G zz_isinstance
  have z_bool := PySem.W.mg_none_of X G zz_bool
  have z_tuple := PySem.W.mg_none_of X G zz_tuple
  refine ⟨PySem.W.fnOf ("law" : Str) ("law" : Str) (defArgs sT_law) (defBody sT_law) (defScope sT_law) .none kV_law dc_law pm_law an_law cd_law ct_law, fun s v => .of_eq rfl, fun base hb hg => ?_⟩
  have G_begin : FnOk l.prog w K mg base CX0 1 f_begin _ [("_law_script" : Str)] (spV K .O vBegin) := ok_begin (P := l.prog) (w := w) (base := base) F_begin z_list (sp := (spV K .O vBegin)) (fun _ _ _ _ h => spV.len (n := 1) (fun ds m P X ⟨_, e, _⟩ => by rw [e]; rfl) h) (fun vs H Q E h => pure_begin vs H Q E (cv_begin h))
  have G_take : FnOk l.prog w K mg base CX0 1 f_take _ [("_law_state" : Str), ("_law_many" : Str)] (spV K .O vTake) := ok_take (P := l.prog) (w := w) (base := base) F_take z_len z_divmod (sp := (spV K .O vTake)) (fun _ _ _ _ h => spV.len (n := 2) (fun ds m P X ⟨_, _, _, _, e, _⟩ => by rw [e]; rfl) h) (fun vs H Q E h => pure_take vs H Q E (cv_take h))
  have G_kind : FnOk l.prog w K mg base CX0 2 f_kind _ [("_law_state" : Str)] (spV K .F wKind) := ok_kind (P := l.prog) (w := w) (base := base) F_kind G_take b_take m_take kp_take (sp := (spV K .F wKind)) (fun _ _ _ _ h => spV.len (n := 1) (fun ds m P X h => ((p_kind (K := K)) ds m P X h).1) h) (sim_kind (fun ds m P X h => (p_kind (K := K)) ds m P X h))
  have G_text : FnOk l.prog w K mg base CX0 2 f_text _ [("_law_state" : Str)] (spV K .F wText) := ok_text (P := l.prog) (w := w) (base := base) F_text G_take b_take m_take kp_take z_range z_len (sp := (spV K .F wText)) (fun _ _ _ _ h => spV.len (n := 1) (fun ds m P X h => ((p_text (K := K)) ds m P X h).1) h) (sim_text (fun ds m P X h => (p_text (K := K)) ds m P X h))
  have G_number : FnOk l.prog w K mg base CX0 2 f_number _ [("_law_state" : Str)] (spV K .O wNumber) := ok_number (P := l.prog) (w := w) (base := base) F_number G_take b_take m_take kp_take (sp := (spV K .O wNumber)) (fun _ _ _ _ h => spV.len (n := 1) (fun ds m P X h => ((p_number (K := K)) ds m P X h).1) h) (sim_number (fun ds m P X h => (p_number (K := K)) ds m P X h))
  have G_cells : FnOk l.prog w K mg base CX0 3 f_cells _ [("_law_state" : Str), ("_law_kind_here" : Str), ("_law_many" : Str)] (spV K .O wCells) := ok_cells (P := l.prog) (w := w) (base := base) F_cells G_take b_take m_take kp_take G_text b_text m_text kp_text G_number b_number m_number kp_number z_range z_len (sp := (spV K .O wCells)) (fun _ _ _ _ h => spV.len (n := 3) (fun ds m P X h => ((p_cells (K := K)) ds m P X h).1) h) (sim_cells (fun ds m P X h => (p_cells (K := K)) ds m P X h))
  have G_near_cells : FnOk l.prog w K mg base CX0 2 f_near_cells _ [("_law_state" : Str), ("_law_kind_here" : Str), ("_law_many" : Str)] (spV K .O wCells) := ok_near_cells (P := l.prog) (w := w) (base := base) F_near_cells G_take b_take m_take kp_take z_range z_int (sp := (spV K .O wCells)) (fun _ _ _ _ h => spV.len (n := 3) (fun ds m P X h => ((p_near_cells (K := K)) ds m P X h).1) h) (sim_near_cells (fun ds m P X h => (p_near_cells (K := K)) ds m P X h))
  have G_some_cells : FnOk l.prog w K mg base CX0 4 f_some_cells _ [("_law_state" : Str), ("_law_kind_here" : Str), ("_law_many" : Str)] (spV K .O wSomeCells) := ok_some_cells (P := l.prog) (w := w) (base := base) F_some_cells G_take b_take m_take kp_take G_cells b_cells m_cells kp_cells G_near_cells b_near_cells m_near_cells kp_near_cells (sp := (spV K .O wSomeCells)) (fun _ _ _ _ h => spV.len (n := 3) (fun ds m P X h => ((p_some_cells (K := K)) ds m P X h).1) h) (sim_some_cells (fun ds m P X h => (p_some_cells (K := K)) ds m P X h))
  have G_value : FnOk l.prog w K mg base CX0 3 f_value _ [("_law_state" : Str), ("_law_kind_here" : Str), ("_law_cells_here" : Str)] (spV K .F wValue) := ok_value (P := l.prog) (w := w) (base := base) F_value G_take b_take m_take kp_take G_text b_text m_text kp_text G_number b_number m_number kp_number z_len z_min z_max (sp := (spV K .F wValue)) (fun _ _ _ _ h => spV.len (n := 3) (fun ds m P X h => ((p_value (K := K)) ds m P X h).1) h) (sim_value (fun ds m P X h => (p_value (K := K)) ds m P X h))
  have G_test : FnOk l.prog w K mg base CX0 4 f_test _ [("_law_state" : Str), ("_law_kind_here" : Str), ("_law_cells_here" : Str)] (spV K .O wTest) := ok_test (P := l.prog) (w := w) (base := base) F_test G_take b_take m_take kp_take G_value b_value m_value kp_value z_range (sp := (spV K .O wTest)) (fun _ _ _ _ h => spV.len (n := 3) (fun ds m P X h => ((p_test (K := K)) ds m P X h).1) h) (sim_test (fun ds m P X h => (p_test (K := K)) ds m P X h))
  have G_own_meets : FnOk l.prog w K mg base CX0 1 f_own_meets _ [("_law_cell" : Str), ("_law_test_here" : Str)] (spV K .O wMeetsB) := ok_own_meets (P := l.prog) (w := w) (base := base) F_own_meets z_any z_int (sp := (spV K .O wMeetsB)) (fun _ _ _ _ h => spV.len (n := 2) (fun ds m P X h => ((p_own_meets2 (K := K)) ds m P X h).1) h) (sim_own_meets (fun ds m P X h => (p_own_meets2 (K := K)) ds m P X h))
  have G_is_so : FnOk l.prog w K mg base CX0 1 f_is_so _ [("cell" : Str), ("sign" : Str), ("value" : Str)] (spV K .O wIsSo) := ok_is_so (P := l.prog) (w := w) (base := base) F_is_so (sp := (spV K .O wIsSo)) (fun _ _ _ _ h => spV.len (n := 3) (fun ds m P X h => ((p_is_so (K := K)) ds m P X h).1) h) (sim_is_so (fun ds m P X h => (p_is_so (K := K)) ds m P X h))
  have G_meets : FnOk l.prog w K mg base CX0 2 f_meets _ [("cell" : Str), ("test" : Str)] (spV K .O wMeetsB) := ok_meets (P := l.prog) (w := w) (base := base) F_meets G_is_so b_is_so m_is_so kp_is_so (sp := (spV K .O wMeetsB)) (fun _ _ _ _ h => spV.len (n := 2) (fun ds m P X h => ((p_meetsB (K := K)) ds m P X h).1) h) (sim_meets (fun ds m P X h => (p_meetsB (K := K)) ds m P X h))
  have G_told_so : FnG l.prog w K mg base CX0 3 f_told_so _ [("_law_cell" : Str), ("_law_test_here" : Str)] (spV K .O wToldSo) := ok_told_so (P := l.prog) (w := w) (base := base) F_told_so G_own_meets b_own_meets m_own_meets kp_own_meets G_meets b_meets m_meets kp_meets z_str z_range z_isinstance z_bool (sp := (spV K .O wToldSo)) (fun _ _ _ _ h => spV.len (n := 2) (fun ds m P X h => ((p_told_so (K := K)) ds m P X h).1) h) (sim_told_so (fun ds m P X h => (p_told_so (K := K)) ds m P X h))
  exact FnG.imp (ok_law (P := l.prog) (w := w) (base := base) F_law G_begin b_begin m_begin kp_begin G_kind b_kind m_kind kp_kind G_some_cells b_some_cells m_some_cells kp_some_cells G_take b_take m_take kp_take G_test b_test m_test kp_test G_value b_value m_value kp_value G_told_so b_told_so m_told_so kp_told_so z_range z_tuple (sp := (spV K .O vLaw)) (fun _ _ _ _ h => spV.len (n := 1) (fun ds m P X h => ((p_law (K := K)) ds m P X h).1) h) (sim_law (fun ds m P X h => (p_law (K := K)) ds m P X h))) fun _ _ _ _ h => cv_law h
theorem walk {l : PySem.W.OpenLaw} {q : Program} {loose : List Str} {XP : (Str → Option Value) → Heap → Prop} {YP : World → Heap → Prop} {d : DefRec} {K : Params → PySem.W.Frag} (hn : l.most = some 63) (hdf : d.params.defaults = [])
    (hY : ∀ (w : World) (h : Heap), YP w h → (K w.params).In h)
    (F : ∀ (w : World) (mg : Str → Option Value) (fa : Addr) (h : Heap), (K w.params).In h → h.Ns mainGlobals mg → mg d.name = some (.ref fa) →
      ∃ fd : FuncData, (∀ (s : Shared) (u : Value), BindsTo s fd ⟨[u], []⟩ [("_law_script", u)]) ∧ ∀ base : Heap, (K w.params).In base → base.Ns mainGlobals mg → FnG l.prog w (K w.params) mg base CX0 5 fa fd ["_law_script"] (spLaw (K w.params))) :
    PySem.W.WalkO q loose XP YP l.row.toRowW d [] (fun f vs => PySem.call f vs) :=
  walk_g (n := 63) (k := 5) (x := "_law_script") (sp := fun w => spLaw (K w.params)) hn (by decide) hdf ⟨rfl, by decide, by decide⟩ hY F fun _ _ a ns hl hS => ⟨a, ns, rfl, hS, hl, fun _ => rfl⟩
end Ps
open PySem PySem.W PyProof.Rows
set_option maxRecDepth 100000 in
set_option maxHeartbeats 0 in
theorem PySem.Challenge.cw_pillarstore_k16_cells_meet_holds : PySem.Challenge.rw_pillarstore_k16_cells_meet.Holds := by
  w_on; o_law; k_head; (case hw => w_witness2)
  k_fill
  refine Ps.walk (l := PySem.Challenge.rw_pillarstore_k16_cells_meet) rfl rfl (fun w h Y => PySem.W.kIn_of Y) ?F
  case F =>
    intro w mg fa h KX G hmg
    refine' Ps.all_mk KX G hmg ?a_begin ?l_begin ?c_begin ?kp_begin ?a_take ?l_take ?c_take ?kp_take ?a_kind ?l_kind ?c_kind ?kp_kind ?a_text ?l_text ?c_text ?kp_text ?a_number ?l_number ?c_number ?kp_number ?a_cells ?l_cells ?c_cells ?kp_cells ?a_near_cells ?l_near_cells ?c_near_cells ?kp_near_cells ?a_some_cells ?l_some_cells ?c_some_cells ?kp_some_cells ?a_value ?l_value ?c_value ?kp_value ?a_test ?l_test ?c_test ?kp_test ?a_own_meets ?l_own_meets ?c_own_meets ?kp_own_meets ?a_is_so ?l_is_so ?c_is_so ?kp_is_so ?a_meets ?l_meets ?c_meets ?kp_meets ?a_told_so ?l_told_so ?c_told_so ?kp_told_so ?a_law ?l_law ?c_law ?kp_law ?zz_list ?zz_len ?zz_divmod ?zz_range ?zz_int ?zz_min ?zz_max ?zz_any ?zz_str ?zz_isinstance ?zz_bool ?zz_tuple
    (case a_begin => k_is)
    (case l_begin => k_is)
    (case c_begin => k_is)
    (case kp_begin => k_is)
    (case a_take => k_is)
    (case l_take => k_is)
    (case c_take => k_is)
    (case kp_take => k_is)
    (case a_kind => k_is)
    (case l_kind => k_is)
    (case c_kind => k_is)
    (case kp_kind => k_is)
    (case a_text => k_is)
    (case l_text => k_is)
    (case c_text => k_is)
    (case kp_text => k_is)
    (case a_number => k_is)
    (case l_number => k_is)
    (case c_number => k_is)
    (case kp_number => k_is)
    (case a_cells => k_is)
    (case l_cells => k_is)
    (case c_cells => k_is)
    (case kp_cells => k_is)
    (case a_near_cells => k_is)
    (case l_near_cells => k_is)
    (case c_near_cells => k_is)
    (case kp_near_cells => k_is)
    (case a_some_cells => k_is)
    (case l_some_cells => k_is)
    (case c_some_cells => k_is)
    (case kp_some_cells => k_is)
    (case a_value => k_is)
    (case l_value => k_is)
    (case c_value => k_is)
    (case kp_value => k_is)
    (case a_test => k_is)
    (case l_test => k_is)
    (case c_test => k_is)
    (case kp_test => k_is)
    (case a_own_meets => k_is)
    (case l_own_meets => k_is)
    (case c_own_meets => k_is)
    (case kp_own_meets => k_is)
    (case a_is_so => k_is)
    (case l_is_so => k_is)
    (case c_is_so => k_is)
    (case kp_is_so => k_is)
    (case a_meets => k_is)
    (case l_meets => k_is)
    (case c_meets => k_is)
    (case kp_meets => k_is)
    (case a_told_so => k_is)
    (case l_told_so => k_is)
    (case c_told_so => k_is)
    (case kp_told_so => k_is)
    (case a_law => k_is)
    (case l_law => k_is)
    (case c_law => k_is)
    (case kp_law => k_is)
    (case zz_list => k_is)
    (case zz_len => k_is)
    (case zz_divmod => k_is)
    (case zz_range => k_is)
    (case zz_int => k_is)
    (case zz_min => k_is)
    (case zz_max => k_is)
    (case zz_any => k_is)
    (case zz_str => k_is)
    (case zz_isinstance => k_is)
    (case zz_bool => k_is)
    (case zz_tuple => k_is)
#print axioms PySem.Challenge.cw_pillarstore_k16_cells_meet_holds
