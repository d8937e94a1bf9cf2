import PyProof.Rows.All
import Wide.All
import OpenK.AllK
import Wide.FinOn
import HandS.ForMost
import HandS.ForExc
import HandS.IsInst
import HandS.Walk
import HandS.Zip
import HandS.Wide
import HandS.Flow
import HandS.Small
import HandS.Rev
import HandS.More
import HandS.Steps
import HandS.WideBits
import HandS.TupAny
import KE.GoesEnum
import HandS.ExcInit
import HandS.ExcIs
import HandS.ExcField
import HandS.ClsMeth
import KE.KExcIs
import HandS.TryOnly
import KE.RegKIsAll
import PyProof.Rows.ChunkEnd
import HandS.Replace
import HandS.Text
import HandS.ReplaceList
import KE.KDictCopyH
import HandS.Strs
import HandS.SetFor
import HandS.TupLe
import PyProof.Rows.SetFrom
import HandS.ListEq
import KE.SortKeyHeap
import HandS.SortKw
import HandS.Conv
import KE.KMinBuiltin
import KE.KMinKey
import HandS.SortInts
import KE.KDictSum
import HandS.DictEq
import HandS.ExcValue
import KE.KDictZip
import KE.GoesMore
import PyProof.P3Eq
import PySem.Challenge.RW_pillarstore_k77_fallen_disks
set_option Elab.async false
set_option linter.all false
set_option maxRecDepth 100000
set_option maxHeartbeats 4000000
namespace Ps
open PySem PySem.Spec PyProof.Rows L2
theorem opr_or {X : Cx} {f : Value → Value → Sem Value} {r r' : R2} (h : OpR X f r) (h' : OpR X f r') : OpR X f (fun x y H Q => r x y H Q ∨ r' x y H Q) := by
  intro pins s σ H x y v u Q I rx ry q
  rcases q with q | q
  · exact h pins s σ H x y v u Q I rx ry q
  · exact h' pins s σ H x y v u Q I rx ry q
theorem callr_or {X : Cx} {f : Value} {r r' : List V → Hp → VK → Prop} (h : CallR X f r) (h' : CallR X f r') : CallR X f (fun xs H Q => r xs H Q ∨ r' xs H Q) := by
  intro pins s σ H xs us Q I r q
  rcases q with q | q
  · exact h pins s σ H xs us Q I r q
  · exact h' pins s σ H xs us Q I r q
theorem pset_or {X : Cx} {r r' : TSet} (h : PSet X r) (h' : PSet X r') : PSet X (fun o i v H Q => r o i v H Q ∨ r' o i v H Q) := by
  intro pins s σ H o i v ov iv u Q I ro ri rv q
  rcases q with q | q
  · exact h pins s σ H o i v ov iv u Q I ro ri rv q
  · exact h' pins s σ H o i v ov iv u Q I ro ri rv q
def rStrAdd : R2 := fun x y H Q => ∃ i j, x = .str i ∧ y = .str j ∧ i.length + j.length ≤ sizeLine ∧ Q (.str (i ++ j)) H
def rAddU (K : PySem.W.Frag) : R2 := fun x y H Q => (rI0 (fun i j => .int (i + j)) x y H Q ∨ rStrAdd x y H Q) ∨ (rCat x y H Q ∨ rCatA K x y H Q)
def rMulU : R2 := fun x y H Q => (rI CMul (fun i j => .int (i * j)) x y H Q ∨ rI CMulW (fun i j => .int (i * j)) x y H Q) ∨ rRep x y H Q
def rDivU : R2 := fun x y H Q => rI CDiv (fun i j => .int (i / j)) x y H Q ∨ rI CDivW (fun i j => .int (i / j)) x y H Q
def rModU : R2 := rI (fun _ j => 0 < j) fun i j => .int (i % j)
def rPowU : R2 := rI CPow fun i j => .int (i ^ j.toNat)
def rSubU : R2 := rI0 fun i j => .int (i - j)
def rIxD : R2 := fun x y H Q => ∃ a v, x = .ref a ∧ DGet H a y (some v) ∧ Q v H
def rIxU (K : PySem.W.Frag) : R2 := fun x y H Q => (rIxL K x y H Q ∨ rIxT K x y H Q) ∨ (rIxS x y H Q ∨ rIxD x y H Q)
def rEqU (K : PySem.W.Frag) : R2 := fun x y H Q => rEq x y H Q ∨ rEqD K x y H Q
def rNeU (K : PySem.W.Frag) : R2 := fun x y H Q => rNe x y H Q ∨ rNeD K x y H Q
def rLtS : R2 := fun x y H Q => ∃ i j, x = .str i ∧ y = .str j ∧ Q (.bl (decide (i.cps.toList < j.cps.toList))) H
def rLtU (K : PySem.W.Frag) : R2 := fun x y H Q => rI0 (fun i j => .bl (decide (i < j))) x y H Q ∨ rLtS x y H Q
def rLeU : R2 := rI0 fun i j => .bl (decide (i ≤ j))
def rGtU : R2 := rI0 fun i j => .bl (decide (j < i))
def rGeU : R2 := rI0 fun i j => .bl (decide (j ≤ i))
def rInD (neg : Bool) : R2 := fun y x H Q => ∃ a o, x = .ref a ∧ DGet H a y o ∧ Q (.bl (if neg then !o.isSome else o.isSome)) H
def rInS (neg : Bool) : R2 := fun x y H Q => ∃ i j, x = .str i ∧ y = .str j ∧ Q (.bl (if neg then !(!(Builtin.Str.occurrences j i 0 j.length 1).isEmpty) else !(Builtin.Str.occurrences j i 0 j.length 1).isEmpty)) H
def rInU (K : PySem.W.Frag) (neg : Bool) : R2 := fun x y H Q => rIn K neg x y H Q ∨ (rInS neg x y H Q ∨ rInD neg x y H Q)
def rIsN : R2 := fun x y H Q => y = .non ∧ Q (.bl (decide (x = .non))) H
def rNotN : R2 := fun x y H Q => y = .non ∧ Q (.bl (!decide (x = .non))) H
section
variable {X : Cx}
theorem op_addU : OpR X (binaryOp .Add) (rAddU X.K) := opr_or (opr_or op_add op_add_str) (opr_or op_cat op_catA)
theorem op_mulU : OpR X (binaryOp .Mult) rMulU := opr_or (opr_or op_mul op_mulW) op_rep
theorem op_divU : OpR X (binaryOp .FloorDiv) rDivU := opr_or op_fdiv op_fdivW
theorem op_modU : OpR X (binaryOp .Mod) rModU := op_mod
theorem op_powU : OpR X (binaryOp .Pow) rPowU := op_pow
theorem op_subU : OpR X (binaryOp .Sub) rSubU := op_sub
theorem op_eqU (hu : X.A.units + 64 < cLine) : OpR X (compareOp .Eq) (rEqU X.K) := opr_or op_eq (op_eqD hu)
theorem op_neU (hu : X.A.units + 64 < cLine) : OpR X (compareOp .NotEq) (rNeU X.K) := opr_or op_ne (op_neD hu)
theorem op_ltU : OpR X (compareOp .Lt) (rLtU X.K) := opr_or op_lt op_lt_str
theorem op_gtU : OpR X (compareOp .Gt) rGtU := op_gt
theorem op_geU : OpR X (compareOp .GtE) rGeU := op_ge
theorem op_inD (hu : X.A.units + 1 < cLine) : OpR X (compareOp .In) (rInD false) := by
  intro pins s σ H x y v u Q I rx ry h
  obtain ⟨a, o, rfl, g, q⟩ := h
  cases ry
  exact d_in hu I g rx fun s3 I3 => ⟨.bl o.isSome, H, I3, rfl, q⟩
theorem op_niD (hu : X.A.units + 1 < cLine) : OpR X (compareOp .NotIn) (rInD true) := by
  intro pins s σ H x y v u Q I rx ry h
  obtain ⟨a, o, rfl, g, q⟩ := h
  cases ry
  exact d_notIn hu I g rx fun s3 I3 => ⟨.bl (!o.isSome), H, I3, rfl, q⟩
theorem op_inU (hu : X.A.units + 1 < cLine) : OpR X (compareOp .In) (rInU X.K false) := opr_or op_in_seq (opr_or op_in_str (op_inD hu))
theorem op_niU (hu : X.A.units + 1 < cLine) : OpR X (compareOp .NotIn) (rInU X.K true) := opr_or op_notIn_seq (opr_or op_notIn_str (op_niD hu))
theorem op_isNU : OpR X (compareOp .Is) rIsN := op_isN
theorem ix_dict (hu : X.A.units + 1 < cLine) : IxR X rIxD := by
  intro value slice pins s σ H x y v u Q I rx ry h hs
  obtain ⟨a, z, rfl, g, q⟩ := h
  cases rx
  have hT := dict_typeIs I g
  have h2 : wpAny (model X.prog X.w) X.A (getItem (.ref a) u) (EP X pins σ Q) X.xe s := d_getItem hu I g ry fun w' s3 I3 rw' => ⟨z, H, I3, rw', q⟩
  unfold subscriptTail
  refine wpAny_bind ?_
  rw [getitemInPython_of_ne hT.not_modules]
  refine wpAny_bind (wpAny_specialOf hT PySem.F.slot_dict_getitem.lookup ?_)
  have fin : wpAny (model X.prog X.w) X.A (subscripted slice false (.ref a) u) (fun r s₃ => wpAny (model X.prog X.w) X.A (letTemporaryGo value (.ref a) r >>= fun _ => pure r) (EP X pins σ Q) X.xe s₃) X.xe s := by
    rw [hs]
    exact wpAny_operating (wpAny_mono h2 (fun r s₃ h₃ => wpAny_bind (wpAny_letTemporaryGo (wpAny_pure h₃))) fun _ _ x => x)
  first
    | exact wpAny_pure (wpAny_bind fin)
    | exact wpAny_bind (wpAny_pure (wpAny_bind fin))
    | exact wpAny_bind fin
theorem ix_u (hu : X.A.units + 1 < cLine) : IxR X (rIxU X.K) := (ix_list.or ix_tup).or (ix_str.or (ix_dict hu))
end
def rLenU (K : PySem.W.Frag) : List V → Hp → VK → Prop := fun xs H Q => (∃ x n, xs = [x] ∧ LenV K x H n ∧ Q (.int n) H) ∨ ∃ a kvs, xs = [V.ref a] ∧ Rd H a (.dK kvs) ∧ Q (.int kvs.length) H
def rListU (K : PySem.W.Frag) : List V → Hp → VK → Prop := fun xs H Q => (∃ p ys, xs = [.ref p] ∧ (SqL K H p ys ∨ SqT K H p ys) ∧ ∀ l, H l = none → Q (.ref l) (upd H l (.lst ys))) ∨
  ∃ (a : Addr) (kvs : List (Key × V)), xs = [.ref a] ∧ Rd H a (.dK kvs) ∧ ∀ p, H p = none → Q (.ref p) (upd H p (.lst (kvs.map fun kv => kV kv.1)))
def rIntU : List V → Hp → VK → Prop := fun xs H Q => (∃ i, xs = [.int i] ∧ Q (.int i) H) ∨ ∃ k, xs = [.bl k] ∧ Q (.int (if k then 1 else 0)) H
def rDivmod : List V → Hp → VK → Prop := fun xs H Q => ∃ i j, xs = [.int i, .int j] ∧ CDivP i j ∧ ∀ p, H p = none → Q (.ref p) (upd H p (.tup [.int (i / j), .int (i % j)]))
def rMax2 : List V → Hp → VK → Prop := fun xs H Q => ∃ i j, xs = [.int i, .int j] ∧ Q (.int (if j > i then j else i)) H
def rMin2 : List V → Hp → VK → Prop := fun xs H Q => ∃ i j, xs = [.int i, .int j] ∧ Q (.int (if j < i then j else i)) H
def rSetU : TSet := fun o i v H Q => rSetL o i v H Q ∨ rSetD o i v H Q
def rSlU (K : PySem.W.Frag) : V → Option Int → Option Int → Hp → VK → Prop := fun x lo hi H Q => (rSlL K x lo hi H Q ∨ rSlA K x lo hi H Q) ∨ ∃ z, x = .str z ∧ z.length ≤ sizeLine ∧ Q (.str (cutS z lo hi)) H
section
variable {X : Cx}
theorem call_lenDk : CallR X (.builtin "len") (fun xs H Q => ∃ a kvs, xs = [V.ref a] ∧ Rd H a (.dK kvs) ∧ Q (.int kvs.length) H) := by
  intro pins s σ H xs us Q I r h
  obtain ⟨a, kvs, rfl, ha, q⟩ := h
  obtain ⟨u, rfl, ru⟩ := vals1 r
  cases ru
  exact d_len I ha fun t s' I' => ⟨.int kvs.length, H, I', ⟨t, rfl⟩, q⟩
theorem call_lenU : CallR X (.builtin "len") (rLenU X.K) := callr_or call_len call_lenDk
theorem call_listU (hc : X.calm = true) : CallR X (.type "list") (rListU X.K) := callr_or call_list_of (call_listD hc)
theorem call_intU : CallR X (.type "int") rIntU := call_int1
theorem call_divmodU : CallR X (.builtin "divmod") rDivmod := call_divmodW
theorem call_min2U (hc : X.calm = true) : CallR X (.builtin "min") rMin2 := call_min2 hc
theorem set_u (hu : X.A.units + 1 < cLine) : PSet X rSetU := pset_or set_list (set_dict hu)
theorem sl_u : SlR X (rSlU X.K) := (sl_list.or sl_tupA).or sl_str
end
def iSeqV (K : PySem.W.Frag) (tl : TE) : TI := fun σ H R => tl σ H fun x H1 => (∃ a xs, x = .ref a ∧ SqL K H1 a xs ∧ R (Itl K a) H1) ∨ (∃ a xs, x = .ref a ∧ SqT K H1 a xs ∧ R (Itt K a) H1) ∨ ∃ z, x = .str z ∧ R (Its z) H1
section
variable {X : Cx} {tg : Expr}
theorem pi_seqV {l : Expr} {tl : TE} (hl : PE X l tl) : PI X tg l (iSeqV X.K tl) := by
  refine ⟨fun pins s σ H R I h => ?_⟩
  have hA : ∀ (a : Addr) (s1 : Shared) (H1 : Hp), Inv X pins σ H1 s1 → ∀ xs, SqL X.K H1 a xs → R (Itl X.K a) H1 → wpAny (model X.prog X.w) X.A (pyIter (.ref a)) (PIE X pins σ tg R) X.xe s1 := by
    intro a s1 H1 I1 xs hq q
    obtain ⟨its, rv, p, hz⟩ := I1.list hq
    refine wpAny_pyIter_list p.isList ?_
    refine ⟨s1.heap.objs.size, [s1.heap.objs.size], _, _, H1, rfl, I1.kept (t' := s1.toks) fun b o e => Heap.get?_push_of_some _ e, turn_list a _, ⟨_, Heap.get?_push_size _ rfl, rfl, rfl⟩, fun b hb => ?_, q⟩
    have e : b = s1.heap.objs.size := by simpa using hb
    subst e
    exact I1.fpOk (Nat.le_refl _) (I1.hok.fresh (Nat.le_refl _))
  have hB : ∀ (a : Addr) (s1 : Shared) (H1 : Hp), Inv X pins σ H1 s1 → ∀ xs, SqT X.K H1 a xs → R (Itt X.K a) H1 → wpAny (model X.prog X.w) X.A (pyIter (.ref a)) (PIE X pins σ tg R) X.xe s1 := by
    intro a s1 H1 I1 xs hq q
    obtain ⟨its, rv, p, hz⟩ := I1.tuple hq
    refine wpAny_pyIter_tuple (show s1.heap.IsTuple a its.toArray from p) ?_
    refine ⟨s1.heap.objs.size, [s1.heap.objs.size], _, _, H1, rfl, I1.kept (t' := s1.toks) fun b o e => Heap.get?_push_of_some _ e, turn_tuple a _, ⟨_, Heap.get?_push_size _ rfl, rfl, rfl⟩, fun b hb => ?_, q⟩
    have e : b = s1.heap.objs.size := by simpa using hb
    subst e
    exact I1.fpOk (Nat.le_refl _) (I1.hok.fresh (Nat.le_refl _))
  have hC : ∀ (z : Str) (s1 : Shared) (H1 : Hp) (u : Value), Inv X pins σ H1 s1 → RelV (.str z) u → R (Its z) H1 → wpAny (model X.prog X.w) X.A (pyIter u) (PIE X pins σ tg R) X.xe s1 := by
    intro z s1 H1 u I1 ru q
    obtain ⟨t, rfl⟩ := ru
    cases ha : z.cps.all (· < 128)
    · exact wpAny_pyIter_wide ha (pi_one (tk := s1.toks) I1 _ (turn_str _ z t "str_iterator" (.inr rfl)) ⟨_, Heap.get?_push_size _ rfl, rfl, rfl⟩ q)
    · exact wpAny_pyIter_ascii ha (pi_one (tk := s1.toks) I1 _ (turn_str _ z t "str_ascii_iterator" (.inl rfl)) ⟨_, Heap.get?_push_size _ rfl, rfl, rfl⟩ q)
  exact thn (hl.run pins s σ H _ I h) fun v s1 ⟨x, H1, I1, r1, q1⟩ => by
    rcases q1 with ⟨a, xs, e, hq, q⟩ | ⟨a, xs, e, hq, q⟩ | ⟨z, e, q⟩
    · subst e
      cases r1
      exact hA a s1 H1 I1 xs hq q
    · subst e
      cases r1
      exact hB a s1 H1 I1 xs hq q
    · subst e
      exact hC z s1 H1 v I1 r1 q
end
theorem bt_len : bootBuiltins "len" = some (.builtin "len") := by decide +kernel
theorem bt_isinstance : bootBuiltins "isinstance" = some (.builtin "isinstance") := by decide +kernel
theorem bt_all : bootBuiltins "all" = some (.builtin "all") := by decide +kernel
theorem bt_divmod : bootBuiltins "divmod" = some (.builtin "divmod") := by decide +kernel
theorem bt_min : bootBuiltins "min" = some (.builtin "min") := by decide +kernel
theorem bt_sorted : bootBuiltins "sorted" = some (.builtin "sorted") := by decide +kernel
theorem bt_int : bootBuiltins "int" = some (.type "int") := by decide +kernel
theorem bt_bool : bootBuiltins "bool" = some (.type "bool") := by decide +kernel
theorem bt_str : bootBuiltins "str" = some (.type "str") := by decide +kernel
theorem bt_list : bootBuiltins "list" = some (.type "list") := by decide +kernel
theorem bt_tuple : bootBuiltins "tuple" = some (.type "tuple") := by decide +kernel
theorem bt_dict : bootBuiltins "dict" = some (.type "dict") := by decide +kernel
def rIsiU (K : PySem.W.Frag) : List V → Hp → VK → Prop := fun xs H Q => rIsi K xs H Q ∨ rIsiT K xs H Q
def rNeg : V → Hp → VK → Prop := rU fun i => .int (-i)
def ipAddU (K : PySem.W.Frag) : TIp := fun x y H Q => (∃ i j, x = .int i ∧ y = .int j ∧ Q (.int (i + j)) H) ∨ ∃ i j, x = .str i ∧ y = .str j ∧ i.length + j.length ≤ sizeLine ∧ Q (.str (i ++ j)) H
section
variable {X : Cx}
theorem call_isiU : CallR X (.builtin "isinstance") (rIsiU X.K) := callr_or call_isi call_isiT
theorem pt_truU {a : Expr} {ta : TE} (ha : PE X a ta) (he : ∀ whole, isTrue a X.env whole = (do let v ← whole; standAt a.pos; holding [v] (truthy v))) : PT X a (tTru X.K ta) := pt_truth ha he
end
end Ps
namespace Ps
open PySem PySem.Spec PyProof.Rows L2
section
variable {prog : Program} {w : World} {A : Around} {E : Value → Shared → Prop} {s : Shared}
end
section
variable {prog : Program} {w : World} {A : Around} {E : Value → Shared → Prop} {s : Shared}
end
def IteT (K : PySem.W.Frag) (a : Addr) : It :=
  ⟨fun i H => ∃ (xs : List V) (x : V), SqT K H a xs ∧ xs[i]? = some x, fun i H v H' => ∃ T x, v = .ref T ∧ H T = none ∧ H' = upd H T (.tup [.int (i : Nat), x]) ∧ ∀ xs, SqT K H a xs → xs[i]? = some x, fun i H => ∃ xs : List V, SqT K H a xs ∧ xs.length ≤ i⟩
def iEnumU (K : PySem.W.Frag) (ta : TA) : TI := fun σ H R => ta σ H fun vs H1 => ∃ a xs, vs = [.ref a] ∧ ((SqL K H1 a xs ∧ R (Ite K a) H1) ∨ (SqT K H1 a xs ∧ R (IteT K a) H1))
theorem walk_zipT {K : PySem.W.Frag} {a b : Addr} {xs ys : List V} {n : Nat} (hn : n = min xs.length ys.length) : Walk (RZ.ItzT K a b) n (fun H => SqT K H a xs ∧ SqT K H b ys) (YPair (fun i => xs[i]?) (fun i => ys[i]?)) := by
  subst hn
  refine ⟨fun i _ hi q => ?_, fun _ q => ⟨xs, ys, q.1, q.2, by omega⟩, fun i H v H' _ q y => ?_⟩
  · have h1 : i < xs.length := by omega
    have h2 : i < ys.length := by omega
    exact ⟨xs, ys, xs[i], ys[i], q.1, q.2, by simp [h1], by simp [h2]⟩
  · obtain ⟨T, x, z, h1, h2, h3, h4, h5⟩ := y
    exact ⟨T, x, z, h1, h2, h3, h4 xs q.1, h5 ys q.2⟩
end Ps
namespace Ps
open PySem PySem.Spec PyProof.Rows L2
def Wd (S : List (Addr × HO)) (G H : Hp) : Prop := Same G H ∧ (∀ x ∈ S, H x.1 = some x.2 ∧ G x.1 = none) ∧ (S.map Prod.fst).Nodup
structure Grow (H G H' G' : Hp) : Prop where
  gg : Same G G'
  gh : Same G' H'
  hh : Same H H'
  nn : ∀ a, H a ≠ none → G a = none → G' a = none
section
variable {S A B : List (Addr × HO)} {G G' G'' H H' H'' : Hp} {a p l : Addr} {o o' : HO} {x : Addr × HO} {K : PySem.W.Frag} {xs : List V}
theorem same_new (hp : H p = none) : Same H (upd H p o) := fun b u e => by
  rw [upd_ne (ne_of_none e hp)]
  exact e
theorem same_mut (v : Same G H) (h : G l = none) : Same G (upd H l o) := fun b u e => by
  rw [upd_ne (ne_of_none e h)]
  exact v b u e
theorem same_l (e : Same H H') (h : SqL K H a xs) : SqL K H' a xs := e.seq h
theorem same_t (e : Same H H') (h : SqT K H a xs) : SqT K H' a xs := by
  rcases h with (h | ⟨o, h⟩) | h
  · exact .inl (.inl (e _ _ h))
  · exact .inl (.inr ⟨o, e _ _ h⟩)
  · exact .inr h
theorem Grow.refl (v : Same G H) : Grow H G H G := ⟨Same.refl _, v, Same.refl _, fun _ _ h => h⟩
theorem Grow.same (v : Same G H) (s : Same H H') : Grow H G H' G := ⟨Same.refl _, v.trans s, s, fun _ _ h => h⟩
theorem Grow.new (v : Same G H) (hp : H p = none) : Grow H G (upd H p o) (upd G p o) := by
  have gp : G p = none := v.free hp
  refine ⟨same_new gp, fun b u e => ?_, same_new hp, fun b hb hg => ?_⟩
  · by_cases q : b = p
    · subst q; rw [upd_same] at e ⊢; exact e
    · rw [upd_ne q] at e ⊢; exact v b u e
  · have q : b ≠ p := fun z => hb (z ▸ hp)
    rw [upd_ne q]; exact hg
theorem Grow.trans (a : Grow H G H' G') (b : Grow H' G' H'' G'') : Grow H G H'' G'' :=
  ⟨a.gg.trans b.gg, b.gh, a.hh.trans b.hh, fun c hc hg => b.nn c (fun z => hc (a.hh.free z)) (a.nn c hc hg)⟩
theorem Wd.v (w : Wd S G H) : Same G H := w.1
theorem Wd.nil (v : Same G H) : Wd [] G H := ⟨v, fun x h => absurd h (by simp), List.nodup_nil⟩
theorem Wd.mem (w : Wd S G H) (h : (a, o) ∈ S) : H a = some o := (w.2.1 _ h).1
theorem Wd.hd (w : Wd ((a, o) :: S) G H) : H a = some o := w.mem List.mem_cons_self
theorem Wd.sd (w : Wd (x :: (a, o) :: S) G H) : H a = some o := w.mem (List.mem_cons_of_mem _ List.mem_cons_self)
theorem Wd.td {y : Addr × HO} (w : Wd (x :: y :: (a, o) :: S) G H) : H a = some o := w.mem (List.mem_cons_of_mem _ (List.mem_cons_of_mem _ List.mem_cons_self))
theorem Wd.same (w : Wd S G H) (s : Same H H') : Wd S G H' := ⟨w.1.trans s, fun y hy => ⟨s _ _ (w.2.1 y hy).1, (w.2.1 y hy).2⟩, w.2.2⟩
theorem Wd.grow (w : Wd S G H) (g : Grow H G H' G') : Wd S G' H' :=
  ⟨g.gh, fun y hy => ⟨g.hh _ _ (w.2.1 y hy).1, g.nn _ (by rw [(w.2.1 y hy).1]; simp) (w.2.1 y hy).2⟩, w.2.2⟩
theorem Wd.own' (w : Wd S G H) (s : Same H H') (hp : H p = none) (h : H' p = some o) : Wd ((p, o) :: S) G H' := by
  refine ⟨w.1.trans s, fun y hy => ?_, ?_⟩
  · rcases List.mem_cons.mp hy with rfl | hy
    · exact ⟨h, w.1.free hp⟩
    · exact ⟨s _ _ (w.2.1 y hy).1, (w.2.1 y hy).2⟩
  · rw [List.map_cons]
    refine List.nodup_cons.mpr ⟨fun m => ?_, w.2.2⟩
    obtain ⟨y, hy, e⟩ := List.mem_map.mp m
    have q := (w.2.1 y hy).1
    rw [e, hp] at q; cases q
theorem Wd.own (w : Wd S G H) (hp : H p = none) : Wd ((p, o) :: S) G (upd H p o) := w.own' (same_new hp) hp upd_same
theorem Wd.new (w : Wd S G H) (hp : H p = none) : Wd S (upd G p o) (upd H p o) := w.grow (Grow.new w.1 hp)
theorem Wd.perm (w : Wd S G H) (h : B.Perm S) : Wd B G H := ⟨w.1, fun y hy => w.2.1 y (h.mem_iff.mp hy), (h.map _).nodup_iff.mpr w.2.2⟩
theorem Wd.drop (w : Wd (x :: S) G H) : Wd S G H := ⟨w.1, fun y hy => w.2.1 y (List.mem_cons_of_mem _ hy), (List.nodup_cons.mp w.2.2).2⟩
theorem Wd.dropR (w : Wd (A ++ B) G H) : Wd A G H := ⟨w.1, fun y hy => w.2.1 y (List.mem_append_left _ hy), by
  have h := w.2.2
  rw [List.map_append] at h
  exact (List.nodup_append.mp h).1⟩
theorem Wd.put (w : Wd ((l, o) :: S) G H) : Wd ((l, o') :: S) G (upd H l o') := by
  have hl := (w.2.1 _ List.mem_cons_self).2
  have nd := List.nodup_cons.mp w.2.2
  refine ⟨same_mut w.1 hl, fun y hy => ?_, w.2.2⟩
  rcases List.mem_cons.mp hy with rfl | hy
  · exact ⟨upd_same, hl⟩
  · have q : y.1 ≠ l := fun z => nd.1 (List.mem_map.mpr ⟨y, hy, z⟩)
    rw [upd_ne q]
    exact w.2.1 y (List.mem_cons_of_mem _ hy)
theorem Wd.swap {y : Addr × HO} (w : Wd (x :: y :: S) G H) : Wd (y :: x :: S) G H := w.perm (List.Perm.swap _ _ _)
theorem Wd.put2 (w : Wd (x :: (l, o) :: S) G H) : Wd (x :: (l, o') :: S) G (upd H l o') := w.swap.put.swap
theorem Wd.rot3 {y z : Addr × HO} (w : Wd (x :: y :: z :: S) G H) : Wd (z :: x :: y :: S) G H :=
  w.perm ((List.Perm.swap _ _ _).trans (List.Perm.cons _ (List.Perm.swap _ _ _)))
theorem Wd.rot3' {y z : Addr × HO} (w : Wd (z :: x :: y :: S) G H) : Wd (x :: y :: z :: S) G H :=
  w.perm ((List.Perm.cons _ (List.Perm.swap _ _ _)).trans (List.Perm.swap _ _ _))
theorem Wd.put3 {y : Addr × HO} (w : Wd (x :: y :: (l, o) :: S) G H) : Wd (x :: y :: (l, o') :: S) G (upd H l o') := w.rot3.put.rot3'
theorem Wd.share (w : Wd ((p, o) :: S) G H) : Wd S (upd G p o) H := by
  have nd := List.nodup_cons.mp w.2.2
  refine ⟨fun b u e => ?_, fun y hy => ⟨(w.2.1 y (List.mem_cons_of_mem _ hy)).1, ?_⟩, nd.2⟩
  · by_cases q : b = p
    · subst q; rw [upd_same] at e; rw [← e]; exact w.hd
    · rw [upd_ne q] at e; exact w.1 b u e
  · have q : y.1 ≠ p := fun z => nd.1 (List.mem_map.mpr ⟨y, hy, z⟩)
    rw [upd_ne q]
    exact (w.2.1 y (List.mem_cons_of_mem _ hy)).2
theorem Wd.gp (w : Wd ((p, o) :: S) G H) : G p = none := (w.2.1 _ List.mem_cons_self).2
theorem Wd.gsame (w : Wd ((p, o) :: S) G H) (o' : HO) : Same G (upd G p o') := same_new w.gp
theorem Wd.own3 {y : Addr × HO} (w : Wd (x :: y :: S) G H) (s : Same H H') (hp : H p = none) (h : H' p = some o) : Wd (x :: y :: (p, o) :: S) G H' := (w.own' s hp h).rot3'
end
section
variable {K : PySem.W.Frag} {H H' : Hp}
mutual
theorem dp_mono (s : Same H H') : ∀ (d : PyData) (v : V), Dp K H v d → Dp K H' v d
  | _, _, .non => .non
  | _, _, .bl b => .bl b
  | _, _, .int i => .int i
  | _, _, .str x => .str x
  | .list ds, _, .lst hq ha => .lst (same_l s hq) (dpAll_mono s ds _ ha)
  | .tuple ds, _, .tup hq ha => .tup (same_t s hq) (dpAll_mono s ds _ ha)
theorem dpAll_mono (s : Same H H') : ∀ (ds : List PyData) (vs : List V), DpAll K H vs ds → DpAll K H' vs ds
  | [], _, .nil => .nil
  | d :: ds, _, .cons h t => .cons (dp_mono s d _ h) (dpAll_mono s ds _ t)
end
theorem dpAll_len : ∀ {vs : List V} {ds : List PyData}, DpAll K H vs ds → vs.length = ds.length
  | _, _, .nil => rfl
  | _, _, .cons _ t => by rw [List.length_cons, List.length_cons, dpAll_len t]
theorem dpAll_get : ∀ {vs : List V} {ds : List PyData} {i : Nat} {v : V} {d : PyData}, DpAll K H vs ds → vs[i]? = some v → ds[i]? = some d → Dp K H v d
  | _, _, _, _, _, .nil, h, _ => by simp at h
  | _, _, 0, _, _, .cons h _, e, e' => by
    simp at e e'; subst e; subst e'; exact h
  | _, _, i + 1, _, _, .cons _ t, e, e' => dpAll_get (i := i) t (by simpa using e) (by simpa using e')
theorem dpAll_ints : ∀ (ns : List Int), DpAll K H (ns.map V.int) (ns.map PyData.int)
  | [] => .nil
  | _ :: r => .cons (.int _) (dpAll_ints r)
def dI (ns : List Int) : PyData := .list (ns.map PyData.int)
theorem dp_ints {a : Addr} {ns : List Int} (h : H a = some (.lst (ns.map V.int))) : Dp K H (.ref a) (dI ns) := .lst (SqL.of h) (dpAll_ints ns)
end
section
variable {t u : TS} {D : Ends} {σ : L2.St} {H : Hp} {te : TE} {g : TG} {i : Nat} {v x y : V} {K : PySem.W.Frag}
theorem w_seq (h : t ⟨u D, D.rt, D.bk, D.ct⟩ σ H) : tSeq t u D σ H := h
theorem w_asg (h : te σ H fun x H1 => g x σ H1 D.nx) : tAsg te g D σ H := h
theorem w_ret (h : te σ H D.rt) : tRet te D σ H := h
theorem w_retN (h : D.rt .non H) : tRetN D σ H := h
theorem w_drop (h : te σ H fun _ H1 => D.nx σ H1) : tDrop te D σ H := h
theorem w_ifs {c : TT} (h : c σ H fun b H1 => if b = true then t D σ H1 else u D σ H1) : tIfS c t u D σ H := h
theorem w_next (h : D.nx σ H) : tNext D σ H := h
theorem w_brk (h : D.bk σ H) : tBreak D σ H := h
theorem w_cont (h : D.ct σ H) : tCont D σ H := h
theorem w_aug {ti : TIp} (hx : σ[i]? = some (some x)) (h : te σ H fun y H1 => ti x y H1 fun z H2 => D.nx (σ.set i (some z)) H2) : tAug i te ti D σ H := ⟨x, hx, h⟩
theorem w_par {ta : TA} {j : Nat} (h : ta σ H fun vs H1 => ∃ v w, vs = [v, w] ∧ D.nx ((σ.set i (some v)).set j (some w)) H1) : tPar i j ta D σ H := h
theorem w_par2 {j : Nat} {v w : V} (h : D.nx ((σ.set i (some v)).set j (some w)) H) : ∃ v' w', [v, w] = [v', w'] ∧ D.nx ((σ.set i (some v')).set j (some w')) H := ⟨v, w, rfl, h⟩
theorem w_for {wi : TI} {tb : TS} (h : wi σ H fun J H1 => ∃ W : Nat → Nat → L2.St → Hp → Prop, (∃ m, W 0 m σ H1) ∧ ∀ i m σ H, W i m σ H →
    (J.stop i H ∧ D.nx σ H) ∨ (J.go i H ∧ ∃ N : L2.St → Hp → Prop, (∀ σ' H', N σ' H' → ∃ m', m' < m ∧ W (i + 1) m' σ' H') ∧ ∀ x H', J.yld i H x H' → g x σ H' fun σ2 H2 => tb { D with nx := N, ct := N, bk := D.nx } σ2 H2)) : tFor wi g tb D σ H := h
theorem w_gname {Q : L2.St → Hp → Prop} (h : Q (σ.set i (some v)) H) : gName i v σ H Q := h
theorem w_gnil {Q : L2.St → Hp → Prop} (h : Q σ H) : gNil [] σ H Q := ⟨rfl, h⟩
theorem w_gcons {gs : TGs} {r : List V} {Q : L2.St → Hp → Prop} (h : g v σ H fun σ' H' => gs r σ' H' Q) : gCons g gs (v :: r) σ H Q := ⟨v, r, rfl, h⟩
theorem w_gtup {gs : TGs} {n : Nat} {a : Addr} {xs : List V} {Q : L2.St → Hp → Prop} (ht : SqT K H a xs) (hn : xs.length = n) (h : gs xs σ H Q) : gTup K n gs (.ref a) σ H Q := ⟨a, xs, rfl, ht, hn, h⟩
theorem w_gsub {to ti : TE} {s : TSet} {Q : L2.St → Hp → Prop} (h : to σ H fun o H1 => ti σ H1 fun i H2 => s o i v H2 fun H3 => Q σ H3) : gSub to ti s v σ H Q := h
variable {Q : VK} {ta tb tc : TE} {r : R2}
theorem w_var (hx : σ[i]? = some (some v)) (h : Q v H) : tVar i σ H Q := ⟨v, hx, h⟩
theorem w_c (h : Q v H) : tC v σ H Q := h
theorem w_op (h : ta σ H fun x H1 => tb σ H1 fun y H2 => r x y H2 Q) : tOp r ta tb σ H Q := h
theorem w_un {r1 : V → Hp → VK → Prop} (h : ta σ H fun x H1 => r1 x H1 Q) : tUn r1 ta σ H Q := h
theorem w_cb {tl : TA} {rc : List V → Hp → VK → Prop} (h : tl σ H fun vs H1 => rc vs H1 Q) : tCB rc tl σ H Q := h
theorem w_bm {tl : TA} {T : String} {rm : V → List V → Hp → VK → Prop} (h : ta σ H fun x H1 => tyV K T x H1 ∧ tl σ H1 fun xs H2 => rm x xs H2 Q) : tBM K T rm ta tl σ H Q := h
theorem w_bm0 {T : String} {rm : V → List V → Hp → VK → Prop} (h : ta σ H fun x H1 => tyV K T x H1 ∧ rm x [] H1 Q) : tBM0 K T rm ta σ H Q := h
theorem w_lst {tl : TA} (h : tl σ H fun xs H1 => xs.length ≤ sizeLine ∧ ∀ p, H1 p = none → Q (.ref p) (upd H1 p (.lst xs))) : tLst tl σ H Q := h
theorem w_tup {tl : TA} (h : tl σ H fun xs H1 => xs.length ≤ sizeLine ∧ ∀ p, H1 p = none → Q (.ref p) (upd H1 p (.tup xs))) : tTup tl σ H Q := h
theorem w_call {tl : TA} {sp : Sp} {dvs : List V} {E : XK} (h : tl σ H fun vs H1 => sp (vs ++ dvs) H1 Q E) : tCall sp dvs E tl σ H Q := h
theorem w_callS {tl : TA} {sp : Sp} {E : L2.St → XK} (h : tl σ H fun vs H1 => sp vs H1 Q (E σ)) : tCallS sp E tl σ H Q := h
theorem w_sl {tl th : TO} {rs : V → Option Int → Option Int → Hp → VK → Prop} (h : te σ H fun x H1 => tl σ H1 fun l H2 => th σ H2 fun u H3 => rs x l u H3 Q) : tSl rs te tl th σ H Q := h
theorem w_nopart {P : Option Int → Hp → Prop} (h : P none H) : tNoPart σ H P := h
theorem w_part {P : Option Int → Hp → Prop} (h : te σ H fun x H1 => ∃ i, x = .int i ∧ P (some i) H1) : tPart te σ H P := h
theorem w_partI {P : Int → Prop} {i : Int} (h : P i) : ∃ j, V.int i = .int j ∧ P j := ⟨i, rfl, h⟩
theorem w_nil {P : List V → Hp → Prop} (h : P [] H) : tNil σ H P := h
theorem w_cons {tl : TA} {P : List V → Hp → Prop} (h : ta σ H fun x H1 => tl σ H1 fun xs H2 => P (x :: xs) H2) : tCons ta tl σ H P := h
theorem w_tif {c : TT} (h : c σ H fun b H1 => if b = true then ta σ H1 Q else tb σ H1 Q) : tIf c ta tb σ H Q := h
theorem w_andV (h : ta σ H fun x H1 => ∃ c, x = .bl c ∧ if c = true then tb σ H1 Q else Q (.bl false) H1) : tAndV ta tb σ H Q := h
theorem w_orV (h : ta σ H fun x H1 => ∃ c, x = .bl c ∧ if c = true then Q (.bl true) H1 else tb σ H1 Q) : tOrV ta tb σ H Q := h
theorem w_notV (h : ta σ H fun x H1 => ∃ c, x = .bl c ∧ Q (.bl (!c)) H1) : tNotV ta σ H Q := h
theorem w_blE {P : Bool → Prop} {b : Bool} (h : P b) : ∃ c, V.bl b = .bl c ∧ P c := ⟨b, rfl, h⟩
variable {P : Bool → Hp → Prop} {c d : TT}
theorem w_test (h : te σ H fun x H' => ∃ k, x = .bl k ∧ P k H') : tTest te σ H P := h
theorem w_tru (h : te σ H fun x H' => ∃ k, TruV K x H' k ∧ P k H') : tTru K te σ H P := h
theorem w_truB {b : Bool} {P : Bool → Prop} (h : P b) : ∃ k, TruV K (.bl b) H k ∧ P k := ⟨b, rfl, h⟩
theorem w_and (h : c σ H fun b H1 => if b = true then d σ H1 P else P false H1) : tAnd c d σ H P := h
theorem w_or (h : c σ H fun b H1 => if b = true then P true H1 else d σ H1 P) : tOr c d σ H P := h
theorem w_not (h : c σ H fun b H1 => P (!b) H1) : tNot c σ H P := h
theorem w_yes (h : P true H) : tYes σ H P := h
end
section
variable {H : Hp} {Q : VK} {K : PySem.W.Frag} {i j : Int} {a b : Addr} {xs ys : List V} {v : V}
theorem w_addI (h : Q (.int (i + j)) H) : rAddU K (.int i) (.int j) H Q := .inl (.inl ⟨i, j, rfl, rfl, h⟩)
theorem w_addS {x y : Str} (hz : x.length + y.length ≤ sizeLine) (h : Q (.str (x ++ y)) H) : rAddU K (.str x) (.str y) H Q := .inl (.inr ⟨x, y, rfl, rfl, hz, h⟩)
theorem w_addL (ha : H a = some (.lst xs)) (hb : H b = some (.lst ys)) (hz : xs.length + ys.length ≤ sizeLine) (h : ∀ p, H p = none → Q (.ref p) (upd H p (.lst (xs ++ ys)))) : rAddU K (.ref a) (.ref b) H Q :=
  .inr (.inl ⟨a, b, xs, ys, rfl, rfl, ha, hb, hz, h⟩)
theorem w_subI (h : Q (.int (i - j)) H) : rSubU (.int i) (.int j) H Q := ⟨i, j, rfl, rfl, h⟩
theorem w_mulI (hc : CMul i j) (h : Q (.int (i * j)) H) : rMulU (.int i) (.int j) H Q := .inl (.inl ⟨i, j, rfl, rfl, hc, h⟩)
theorem w_divI (hc : CDiv i j) (h : Q (.int (i / j)) H) : rDivU (.int i) (.int j) H Q := .inl ⟨i, j, rfl, rfl, hc, h⟩
theorem w_modI (hc : 0 < j) (h : Q (.int (i % j)) H) : rModU (.int i) (.int j) H Q := ⟨i, j, rfl, rfl, hc, h⟩
theorem w_modF (hc : 0 < j) (h : ∀ z, 0 ≤ z → z < j → Q (.int z) H) : rModU (.int i) (.int j) H Q := w_modI hc (h _ (Int.emod_nonneg _ (by omega)) (Int.emod_lt_of_pos _ hc))
theorem w_powI (hc : CPow i j) (h : Q (.int (i ^ j.toNat)) H) : rPowU (.int i) (.int j) H Q := ⟨i, j, rfl, rfl, hc, h⟩
theorem w_negI (h : Q (.int (-i)) H) : rNeg (.int i) H Q := ⟨i, rfl, h⟩
theorem w_ixL (hl : SqL K H a xs) (hi : atI xs i = some v) (h : Q v H) : rIxU K (.ref a) (.int i) H Q := .inl (.inl ⟨a, xs, i, v, rfl, rfl, hl, hi, h⟩)
theorem w_ixT (hl : SqT K H a xs) (hi : atI xs i = some v) (h : Q v H) : rIxU K (.ref a) (.int i) H Q := .inl (.inr ⟨a, xs, i, v, rfl, rfl, hl, hi, h⟩)
theorem w_ixS {z : Str} {c : Nat} (hz : z.length ≤ sizeLine) (hi : atI z.cps.toList i = some c) (h : Q (.str ⟨#[c]⟩) H) : rIxU K (.str z) (.int i) H Q := .inr (.inl ⟨z, i, c, rfl, rfl, hz, hi, h⟩)
theorem w_ixDs {kvs : List (Key × V)} {x : Str} (hd : H a = some (.dK kvs)) (hv : valV kvs (Sum.inr x) = some v) (h : Q v H) : rIxU K (.ref a) (.str x) H Q :=
  .inr (.inr ⟨a, v, rfl, by have g := DGet.k (k := Sum.inr x) hd; rw [hv] at g; exact g, h⟩)
theorem w_setDs {kvs : List (Key × V)} {x : Str} {P : Hp → Prop} (hd : H a = some (.dK kvs)) (hz : kvs.length < sizeLine) (h : P (upd H a (.dK (putK kvs (Sum.inr x) v)))) : rSetU (.ref a) (.str x) v H P :=
  .inr ⟨a, _, rfl, DPut.k (k := Sum.inr x) hd hz, h⟩
theorem w_setL {P : Hp → Prop} {k : Nat} (hd : H a = some (.lst xs)) (hi : ixN xs.length i = some k) (h : P (upd H a (.lst (xs.set k v)))) : rSetU (.ref a) (.int i) v H P :=
  .inl ⟨a, xs, i, k, rfl, rfl, hd, hi, h⟩
theorem w_eqI (h : Q (.bl (decide (i = j))) H) : rEqU K (.int i) (.int j) H Q := .inl ⟨rfl, by
  have e : decide (V.int i = V.int j) = decide (i = j) := by simp
  rw [e]; exact h⟩
theorem w_neI (h : Q (.bl (!decide (i = j))) H) : rNeU K (.int i) (.int j) H Q := .inl ⟨rfl, by
  have e : decide (V.int i = V.int j) = decide (i = j) := by simp
  rw [e]; exact h⟩
theorem w_eqS {x y : Str} (h : Q (.bl (decide (x = y))) H) : rEqU K (.str x) (.str y) H Q := .inl ⟨rfl, by
  have e : decide (V.str x = V.str y) = decide (x = y) := by simp
  rw [e]; exact h⟩
theorem w_neS {x y : Str} (h : Q (.bl (!decide (x = y))) H) : rNeU K (.str x) (.str y) H Q := .inl ⟨rfl, by
  have e : decide (V.str x = V.str y) = decide (x = y) := by simp
  rw [e]; exact h⟩
theorem w_eqD {x y : V} {d e : PyData} (hd : Dp K H x d) (he : Dp K H y e) (sd : SeqAt.shaped d = true) (se : SeqAt.shaped e = true) (h : Q (.bl (PyData.eqv d e)) H) : rEqU K x y H Q := .inr ⟨d, e, hd, he, sd, se, h⟩
theorem w_ltI (h : Q (.bl (decide (i < j))) H) : rLtU K (.int i) (.int j) H Q := .inl ⟨i, j, rfl, rfl, h⟩
theorem w_leI (h : Q (.bl (decide (i ≤ j))) H) : rLeU (.int i) (.int j) H Q := ⟨i, j, rfl, rfl, h⟩
theorem w_gtI (h : Q (.bl (decide (j < i))) H) : rGtU (.int i) (.int j) H Q := ⟨i, j, rfl, rfl, h⟩
theorem w_geI (h : Q (.bl (decide (j ≤ i))) H) : rGeU (.int i) (.int j) H Q := ⟨i, j, rfl, rfl, h⟩
theorem w_isN {x : V} (h : Q (.bl (decide (x = .non))) H) : rIsN x .non H Q := ⟨rfl, h⟩
theorem w_isNn (h : Q (.bl true) H) : rIsN .non .non H Q := ⟨rfl, by rw [decide_eq_true rfl]; exact h⟩
theorem w_isNi (h : Q (.bl false) H) : rIsN (.int i) .non H Q := ⟨rfl, by rw [decide_eq_false (by simp)]; exact h⟩
theorem w_isNs {z : Str} (h : Q (.bl false) H) : rIsN (.str z) .non H Q := ⟨rfl, by rw [decide_eq_false (by simp)]; exact h⟩
theorem w_isNr (h : Q (.bl false) H) : rIsN (.ref a) .non H Q := ⟨rfl, by rw [decide_eq_false (by simp)]; exact h⟩
theorem w_ntNn (h : Q (.bl false) H) : rNotN .non .non H Q := ⟨rfl, by rw [decide_eq_true rfl]; exact h⟩
theorem w_ntNi (h : Q (.bl true) H) : rNotN (.int i) .non H Q := ⟨rfl, by rw [decide_eq_false (by simp)]; exact h⟩
theorem w_ntNs {z : Str} (h : Q (.bl true) H) : rNotN (.str z) .non H Q := ⟨rfl, by rw [decide_eq_false (by simp)]; exact h⟩
theorem w_ntNr (h : Q (.bl true) H) : rNotN (.ref a) .non H Q := ⟨rfl, by rw [decide_eq_false (by simp)]; exact h⟩
theorem w_neBf {x y : Bool} (e : x = y) (h : Q (.bl false) H) : rNeU K (.bl x) (.bl y) H Q := .inl ⟨rfl, by subst e; rw [decide_eq_true rfl]; exact h⟩
theorem w_notN {x : V} (h : Q (.bl (!decide (x = .non))) H) : rNotN x .non H Q := ⟨rfl, h⟩
theorem w_ipaI (h : Q (.int (i + j)) H) : ipAddU K (.int i) (.int j) H Q := .inl ⟨i, j, rfl, rfl, h⟩
theorem w_ipsI {f : Int → Int → Int} (h : Q (.int (f i j)) H) : ipI f (.int i) (.int j) H Q := ⟨i, j, rfl, rfl, h⟩
theorem w_lenL (hl : SqL K H a xs) (h : Q (.int xs.length) H) : rLenU K [.ref a] H Q := .inl ⟨_, _, rfl, .inl ⟨xs, hl, rfl⟩, h⟩
theorem w_lenT (hl : SqT K H a xs) (h : Q (.int xs.length) H) : rLenU K [.ref a] H Q := .inl ⟨_, _, rfl, .inr ⟨xs, hl, rfl⟩, h⟩
theorem w_lenS {z : Str} (hz : z.length ≤ sizeLine) (h : Q (.int z.length) H) : rLenU K [.str z] H Q := .inl ⟨_, _, rfl, ⟨hz, rfl⟩, h⟩
theorem w_listL (hl : SqL K H a xs) (h : ∀ p, H p = none → Q (.ref p) (upd H p (.lst xs))) : rListU K [.ref a] H Q := .inl ⟨a, xs, rfl, .inl hl, h⟩
theorem w_listT (hl : SqT K H a xs) (h : ∀ p, H p = none → Q (.ref p) (upd H p (.lst xs))) : rListU K [.ref a] H Q := .inl ⟨a, xs, rfl, .inr hl, h⟩
theorem w_intI (h : Q (.int i) H) : rIntU [.int i] H Q := .inl ⟨i, rfl, h⟩
theorem w_intB {k : Bool} (h : Q (.int (if k then 1 else 0)) H) : rIntU [.bl k] H Q := .inr ⟨k, rfl, h⟩
theorem w_divmod (hc : CDivW i j) (h : ∀ p, H p = none → Q (.ref p) (upd H p (.tup [.int (i / j), .int (i % j)]))) : rDivmod [.int i, .int j] H Q := ⟨i, j, rfl, ⟨hc.1, PyProof.noPylong_of_log2 hc.2⟩, h⟩
theorem w_all {bs : List Bool} (hl : SqL K H a (bs.map V.bl)) (h : Q (.bl (bs.all id)) H) : rAll K [.ref a] H Q := ⟨a, bs, rfl, hl, h⟩
theorem w_isi {x : V} {n : String} {t : Value} {k : Bool} (ht : TyX K H x t) (hk : PySem.W.kitOne K t (.type n) = some k) (h : Q (.bl k) H) : rIsiU K [x, .ty n] H Q := .inl ⟨x, .ty n, t, .type n, k, rfl, .ty n, ht, hk, h⟩
theorem ty_l (h : SqL K H a xs) : TyX K H (.ref a) (.type "list") := by
  rcases h with (h | ⟨o, h⟩) | ⟨o, its, n, h, c, _⟩
  · exact .base (.lst h)
  · exact .base (.frz h)
  · exact .kList h c
theorem ty_t (h : SqT K H a xs) : TyX K H (.ref a) (.type "tuple") := by
  rcases h with (h | ⟨o, h⟩) | ⟨o, its, n, h, c, _⟩
  · exact .base (.tup h)
  · exact .fTuple h
  · exact .kTuple h c
theorem w_is_int_dict {i : Int} (h : Q (.bl false) H) : rIsiU K [.int i, .ty "dict"] H Q := w_isi (.base (.int i)) (kit_ty (r := false) (by decide +kernel)) h
theorem w_is_int_list {i : Int} (h : Q (.bl false) H) : rIsiU K [.int i, .ty "list"] H Q := w_isi (.base (.int i)) (kit_ty (r := false) (by decide +kernel)) h
theorem w_is_int_tuple {i : Int} (h : Q (.bl false) H) : rIsiU K [.int i, .ty "tuple"] H Q := w_isi (.base (.int i)) (kit_ty (r := false) (by decide +kernel)) h
theorem w_is_int_str {i : Int} (h : Q (.bl false) H) : rIsiU K [.int i, .ty "str"] H Q := w_isi (.base (.int i)) (kit_ty (r := false) (by decide +kernel)) h
theorem w_is_int_int {i : Int} (h : Q (.bl true) H) : rIsiU K [.int i, .ty "int"] H Q := w_isi (.base (.int i)) (kit_ty (r := true) (by decide +kernel)) h
theorem w_is_int_bool {i : Int} (h : Q (.bl false) H) : rIsiU K [.int i, .ty "bool"] H Q := w_isi (.base (.int i)) (kit_ty (r := false) (by decide +kernel)) h
theorem w_is_bool_dict {kk : Bool} (h : Q (.bl false) H) : rIsiU K [.bl kk, .ty "dict"] H Q := w_isi (.base (.bl kk)) (kit_ty (r := false) (by decide +kernel)) h
theorem w_is_bool_list {kk : Bool} (h : Q (.bl false) H) : rIsiU K [.bl kk, .ty "list"] H Q := w_isi (.base (.bl kk)) (kit_ty (r := false) (by decide +kernel)) h
theorem w_is_bool_tuple {kk : Bool} (h : Q (.bl false) H) : rIsiU K [.bl kk, .ty "tuple"] H Q := w_isi (.base (.bl kk)) (kit_ty (r := false) (by decide +kernel)) h
theorem w_is_bool_str {kk : Bool} (h : Q (.bl false) H) : rIsiU K [.bl kk, .ty "str"] H Q := w_isi (.base (.bl kk)) (kit_ty (r := false) (by decide +kernel)) h
theorem w_is_bool_int {kk : Bool} (h : Q (.bl true) H) : rIsiU K [.bl kk, .ty "int"] H Q := w_isi (.base (.bl kk)) (kit_ty (r := true) (by decide +kernel)) h
theorem w_is_bool_bool {kk : Bool} (h : Q (.bl true) H) : rIsiU K [.bl kk, .ty "bool"] H Q := w_isi (.base (.bl kk)) (kit_ty (r := true) (by decide +kernel)) h
theorem w_is_str_dict {zz : Str} (h : Q (.bl false) H) : rIsiU K [.str zz, .ty "dict"] H Q := w_isi (.base (.str zz)) (kit_ty (r := false) (by decide +kernel)) h
theorem w_is_str_list {zz : Str} (h : Q (.bl false) H) : rIsiU K [.str zz, .ty "list"] H Q := w_isi (.base (.str zz)) (kit_ty (r := false) (by decide +kernel)) h
theorem w_is_str_tuple {zz : Str} (h : Q (.bl false) H) : rIsiU K [.str zz, .ty "tuple"] H Q := w_isi (.base (.str zz)) (kit_ty (r := false) (by decide +kernel)) h
theorem w_is_str_str {zz : Str} (h : Q (.bl true) H) : rIsiU K [.str zz, .ty "str"] H Q := w_isi (.base (.str zz)) (kit_ty (r := true) (by decide +kernel)) h
theorem w_is_str_int {zz : Str} (h : Q (.bl false) H) : rIsiU K [.str zz, .ty "int"] H Q := w_isi (.base (.str zz)) (kit_ty (r := false) (by decide +kernel)) h
theorem w_is_str_bool {zz : Str} (h : Q (.bl false) H) : rIsiU K [.str zz, .ty "bool"] H Q := w_isi (.base (.str zz)) (kit_ty (r := false) (by decide +kernel)) h
theorem w_is_list_dict (hl : SqL K H a xs) (h : Q (.bl false) H) : rIsiU K [.ref a, .ty "dict"] H Q := w_isi (ty_l hl) (kit_ty (r := false) (by decide +kernel)) h
theorem w_is_list_list (hl : SqL K H a xs) (h : Q (.bl true) H) : rIsiU K [.ref a, .ty "list"] H Q := w_isi (ty_l hl) (kit_ty (r := true) (by decide +kernel)) h
theorem w_is_list_tuple (hl : SqL K H a xs) (h : Q (.bl false) H) : rIsiU K [.ref a, .ty "tuple"] H Q := w_isi (ty_l hl) (kit_ty (r := false) (by decide +kernel)) h
theorem w_is_tuple_dict (hl : SqT K H a xs) (h : Q (.bl false) H) : rIsiU K [.ref a, .ty "dict"] H Q := w_isi (ty_t hl) (kit_ty (r := false) (by decide +kernel)) h
theorem w_is_tuple_list (hl : SqT K H a xs) (h : Q (.bl false) H) : rIsiU K [.ref a, .ty "list"] H Q := w_isi (ty_t hl) (kit_ty (r := false) (by decide +kernel)) h
theorem w_is_tuple_tuple (hl : SqT K H a xs) (h : Q (.bl true) H) : rIsiU K [.ref a, .ty "tuple"] H Q := w_isi (ty_t hl) (kit_ty (r := true) (by decide +kernel)) h
theorem w_slL {lo hi : Option Int} (hl : SqL K H a xs) (h : ∀ p, H p = none → Q (.ref p) (upd H p (.lst (cutV xs lo hi)))) : rSlU K (.ref a) lo hi H Q := .inl (.inl ⟨a, xs, rfl, hl, h⟩)
theorem w_ifd {p A B : Prop} [Decidable p] (h1 : p → A) (h2 : ¬ p → B) : if decide p = true then A else B := by
  by_cases h : p
  · rw [if_pos (decide_eq_true h)]; exact h1 h
  · rw [if_neg (by simp [h])]; exact h2 h
theorem w_ifn {p A B : Prop} [Decidable p] (h1 : ¬ p → A) (h2 : p → B) : if (!decide p) = true then A else B := by
  by_cases h : p
  · rw [if_neg (by simp [h])]; exact h2 h
  · rw [if_pos (by simp [h])]; exact h1 h
theorem w_ifNF {A B : Prop} (h : A) : if (!false) = true then A else B := by simpa using h
theorem w_ifNT {A B : Prop} (h : B) : if (!true) = true then A else B := by simpa using h
theorem w_ifT {A B : Prop} (h : A) : if true = true then A else B := by rw [if_pos rfl]; exact h
theorem w_ifF {A B : Prop} (h : B) : if false = true then A else B := by rw [if_neg Bool.false_ne_true]; exact h
end
section
variable {σ : L2.St} {H : Hp} {Q : VK} {K : PySem.W.Frag} {R : It → Hp → Prop} {ta : TA} {te : TE}
theorem w_lc {wi : TI} {g : TG} {tt : TT} {te : TE} {vs : List Nat} (h : wi σ H fun J H1 => ∀ D, H1 D = none → ∃ W : Nat → Nat → Hp → Prop, (∃ m, W 0 m (upd H1 D (.lst []))) ∧ ∀ i m H, W i m H →
  (J.stop i H ∧ Q (.ref D) H) ∨ (J.go i H ∧ ∃ Nx : Hp → Prop, (∀ H', Nx H' → ∃ m', m' < m ∧ W (i + 1) m' H') ∧ ∀ x H', J.yld i H x H' → g x (wipe σ vs) H' fun σ2 H2 => wipe σ2 vs = wipe σ vs ∧ tt σ2 H2 fun b H3 =>
    if b = true then te σ2 H3 fun y H4 => ∃ acc, H4 D = some (.lst acc) ∧ acc.length < sizeLine ∧ Nx (upd H4 D (.lst (acc ++ [y]))) else Nx H3)) : tLc wi g tt te vs σ H Q := h
def ZipK (K : PySem.W.Frag) (R : It → Hp → Prop) (vs : List V) (H1 : Hp) : Prop := ∃ a b xs ys, vs = [.ref a, .ref b] ∧ ((SqL K H1 a xs ∧ SqL K H1 b ys ∧ R (Itz K a b) H1) ∨ (SqT K H1 a xs ∧ SqT K H1 b ys ∧ R (RZ.ItzT K a b) H1))
def SeqK (K : PySem.W.Frag) (R : It → Hp → Prop) (x : V) (H1 : Hp) : Prop := (∃ a xs, x = .ref a ∧ SqL K H1 a xs ∧ R (Itl K a) H1) ∨ (∃ a xs, x = .ref a ∧ SqT K H1 a xs ∧ R (Itt K a) H1) ∨ ∃ z, x = .str z ∧ R (Its z) H1
def Rng1K (R : It → Hp → Prop) (vs : List V) (H1 : Hp) : Prop := ∃ j : Int, vs = [.int j] ∧ -(2 ^ 62) ≤ j ∧ j < 2 ^ 62 ∧ R (Itr 0 j.toNat) H1
def Rng2K (R : It → Hp → Prop) (vs : List V) (H1 : Hp) : Prop := ∃ i j : Int, vs = [.int i, .int j] ∧ (-(2 ^ 62) ≤ i ∧ i < 2 ^ 62 ∧ -(2 ^ 62) ≤ j ∧ j < 2 ^ 62) ∧ R (Itr i (j - i).toNat) H1
def EnumK (K : PySem.W.Frag) (R : It → Hp → Prop) (vs : List V) (H1 : Hp) : Prop := ∃ a xs, vs = [.ref a] ∧ ((SqL K H1 a xs ∧ R (Ite K a) H1) ∨ (SqT K H1 a xs ∧ R (IteT K a) H1))
def RevK (K : PySem.W.Frag) (R : It → Hp → Prop) (v : V) (H1 : Hp) : Prop := ∃ (a : Addr) (xs : List V), v = .ref a ∧ ((SqL K H1 a xs ∧ R (Itv K a xs.length) H1) ∨ (SqT K H1 a xs ∧ R (RT.ItvT K a xs.length) H1))
theorem w_zip (h : ta σ H fun vs H1 => ZipK K R vs H1) : RZ.iZipA K ta σ H R := h
theorem w_seqv (h : te σ H fun x H1 => SeqK K R x H1) : iSeqV K te σ H R := h
theorem w_rng1 (h : ta σ H fun vs H1 => Rng1K R vs H1) : iRng1 ta σ H R := h
theorem w_rng2 (h : ta σ H fun vs H1 => Rng2K R vs H1) : iRng2 ta σ H R := h
theorem w_enum (h : ta σ H fun vs H1 => EnumK K R vs H1) : iEnumU K ta σ H R := h
theorem w_rev (h : te σ H fun v H1 => RevK K R v H1) : RT.iRevA K te σ H R := h
theorem w_itZL {a b : Addr} {xs ys : List V} (ha : SqL K H a xs) (hb : SqL K H b ys) (h : R (Itz K a b) H) : ZipK K R [.ref a, .ref b] H := ⟨a, b, xs, ys, rfl, .inl ⟨ha, hb, h⟩⟩
theorem w_itZT {a b : Addr} {xs ys : List V} (ha : SqT K H a xs) (hb : SqT K H b ys) (h : R (RZ.ItzT K a b) H) : ZipK K R [.ref a, .ref b] H := ⟨a, b, xs, ys, rfl, .inr ⟨ha, hb, h⟩⟩
end
theorem sz_le {n : Nat} (h : n ≤ 16777216) : n ≤ sizeLine := by rw [sizeLine_eq]; exact h
theorem sz_lt {n : Nat} (h : n < 16777216) : n < sizeLine := by rw [sizeLine_eq]; exact h
end Ps
namespace Ps
open PySem PySem.Spec PyProof.Rows L2
def exv (a C : Addr) (d : Option Addr) : HO := .ext fun h => ∃ vs sl, h.get? a = some ({ cls := .ref C, dict := d, data := .fields vs, slots := sl } : Obj)
section
variable {X : Cx} {pins : List (Addr × Obj)} {σ : L2.St} {H : Hp} {s : Shared}
end
section
variable {X : Cx} {x n y : Str} {c : Value} {i j : Nat} {body : List Stmt} {np pos pos' p1 p2 p3 : Pos} {tb : WX → TS} {Wout : WX}
end
end Ps
namespace Ps
open PySem PySem.Spec PyProof.Rows L2
section
variable {X : Cx} {CX : CXT} {k : Nat} {f C : Addr} {fd : FuncData} {ps : List Str} {sp : Sp} {E : L2.St → XK} {x m : Str} {p pos apos : Pos} {e o : Expr} {es : List Expr} {ta : TE} {t : TA}
def tMethQ (C : Addr) (m : Str) (sp : Sp) (E : L2.St → XK) (ta : TE) (t : TA) : TE := fun σ H Q => ta σ H fun x H1 => ∃ a dx fs, x = .ref a ∧ H1 a = some (.ins C dx fs) ∧ fs.lookup m = none ∧ t σ H1 fun vs H2 => sp (x :: vs) H2 Q (E σ)
theorem pe_methQ {pl : Sem Bool} (he : PE X o ta) (c : Cls X.K C) (hm : Meth X.K C m f) (F : FnOk X.prog X.w X.K X.mg X.base CX k f fd ps sp) (hr : Room k X.A) (hb : Binds X.K fd ps []) (hx : ∀ σ, PassesAt CX X σ (E σ)) (ha : PA X (e :: es) t)
    (hst : starEach (e :: es) X.env = (false, eval e X.env) :: starEach es X.env := by rfl) (hpl : (backTo pos (starEach es X.env)).any (·.1) = false := by rfl)
    (ht : eval (.Call (.Attribute o m apos) (e :: es) [] pos) X.env = (do
      let ov ← eval o X.env
      standAt apos.atName
      let (f, first) ← holding [ov] (getMethod ov m pl)
      callWith pos f first (backTo pos (starEach (e :: es) X.env)) (backToKw pos (keywordEach [] X.env))) := by rfl) :
    PE X (.Call (.Attribute o m apos) (e :: es) [] pos) (tMethQ C m sp E ta t) := by
  refine ⟨fun pins s σ H Q I h => ?_⟩
  refine PySem.W.methodCall_KW (pl := pl) (thn (he.run pins s σ H _ I h) fun u s1 ⟨x, H1, I1, rx, a, dx, fs, ex, ea, l, q⟩ => ?_) ht
  subst ex
  obtain rfl : u = Value.ref a := rx
  refine getmeth_ok I1 ea c hm l ?_
  refine PySem.W.callWith_K (first := [.ref a]) (h₀ := X.base) I.ok.mod.kin hm.kp (thn (ha.run pos pins s1 σ H1 _ I1 q) fun us s2 ⟨vs, H2, I2, r, q2⟩ => ⟨I2.kIn, ?_⟩) hst hpl
  exact run_fnS (us := .ref a :: us) (vs := .ref a :: vs) F hr hb (hx σ) I2 (.cons rfl r) q2
theorem pe_methQ0 {pl : Sem Bool} (he : PE X o ta) (c : Cls X.K C) (hm : Meth X.K C m f) (F : FnOk X.prog X.w X.K X.mg X.base CX k f fd ps sp) (hr : Room k X.A) (hb : Binds X.K fd ps []) (hx : ∀ σ, PassesAt CX X σ (E σ))
    (ht : eval (.Call (.Attribute o m apos) [] [] pos) X.env = (do
      let ov ← eval o X.env
      standAt apos.atName
      let (f, first) ← holding [ov] (getMethod ov m pl)
      callWith pos f first (backTo pos (starEach [] X.env)) (backToKw pos (keywordEach [] X.env))) := by rfl) :
    PE X (.Call (.Attribute o m apos) [] [] pos) (tMethQ C m sp E ta tNil) := by
  refine ⟨fun pins s σ H Q I h => ?_⟩
  refine PySem.W.methodCall_KW (pl := pl) (thn (he.run pins s σ H _ I h) fun u s1 ⟨x, H1, I1, rx, a, dx, fs, ex, ea, l, q⟩ => ?_) ht
  subst ex
  obtain rfl : u = Value.ref a := rx
  refine getmeth_ok I1 ea c hm l ?_
  exact PySem.W.callWith_K0 (first := [.ref a]) I1.kIn hm.kp (run_fnS (us := [.ref a]) (vs := [.ref a]) F hr hb (hx σ) I1 (.cons rfl .nil) q)
def tMakeQ (C : Addr) (sp : Sp) (E : L2.St → XK) (t : TA) : TE := fun σ H Q => t σ H fun vs H1 => ∀ x dx, H1 x = none → H1 dx = none → dx ≠ x →
  sp (.ref x :: vs) (upd (upd H1 dx (.own x)) x (.ins C dx [])) (fun v H2 => v = .non ∧ Q (.ref x) H2) (E σ)
theorem run_makeQ {pins : List (Addr × Obj)} {σ : L2.St} {H : Hp} {s : Shared} {Q : VK} {us : List Value} {vs : List V} (M : Mk X.K C f) (F : FnOk X.prog X.w X.K X.mg X.base CX k f fd ps sp) (hr : Room (k + 1) X.A) (hb : Binds X.K fd ps [])
    (hx : PassesAt CX X σ (E σ)) (I : Inv X pins σ H s) (r : Vals vs us)
    (h : ∀ x dx, H x = none → H dx = none → dx ≠ x → sp (.ref x :: vs) (upd (upd H dx (.own x)) x (.ins C dx [])) (fun v H2 => v = .non ∧ Q (.ref x) H2) (E σ)) :
    wpAny (model X.prog X.w) X.A (call (.ref C) us) (EP X pins σ Q) X.xe s := by
  have hq := h (s.heap.objs.size + 1) s.heap.objs.size (I.hok.fresh (Nat.le_succ _)) (I.hok.fresh (Nat.le_refl _)) (Nat.ne_of_lt (Nat.lt_succ_self _))
  have I2 := Inv.made (C := C) I
  have r2 : Vals (V.ref (s.heap.objs.size + 1) :: vs) (Value.ref (s.heap.objs.size + 1) :: us) := .cons rfl r
  have hl : (Value.ref (s.heap.objs.size + 1) :: us).length = ps.length := by
    have e := r2.length
    rw [F.len _ _ _ _ hq] at e
    exact e.symm
  have hb2 := hb _ (Value.ref (s.heap.objs.size + 1) :: us) I2.kIn (by rw [List.append_nil]; exact hl)
  rw [List.append_nil] at hb2
  refine wpAny_call (make_map (f := f) I.kIn M.makes M.init (beq_iff_eq.mp M.fn) (codeAny_mono (F.run _ X.stack _ _ ⟨Value.ref (s.heap.objs.size + 1) :: us, []⟩ (Value.ref (s.heap.objs.size + 1) :: us) _ _ (E σ) (hr.make C us [])
    (I2.env0.make C us []) hb2 r2 hq) fun r s' hq' => ?_))
  cases r with
  | error e => exact hx pins _ _ e s' I2 hq'
  | ok fl =>
    cases fl with
    | ret u =>
      obtain ⟨v, H', I3, rv, ev, q3⟩ := I2.after hq'
      subst ev
      exact ⟨rv, ⟨V.ref (s.heap.objs.size + 1), H', I3, rfl, q3⟩⟩
    | next => exact False.elim hq'
    | brk => exact False.elim hq'
    | cont => exact False.elim hq'
theorem passQ0 (σ : L2.St) : PassesAt CX0 X σ E0 := fun _ _ _ _ _ _ h => h.elim
theorem passQL (σ : L2.St) : PassesAt (L2.CX X.prog X.w) X σ E0 := fun pins H s e s' I h => passL pins σ H s e s' I h
end
end Ps
namespace Ps
open PySem PySem.Spec PyProof.Rows L2
section
variable {X : Cx} {pins : List (Addr × Obj)} {σ : L2.St} {H : Hp} {s : Shared}
end
end Ps
namespace Ps
open PySem PySem.Spec PyProof.Rows L2
def tRz (W : WX) (cls : Value) : TS := fun _ σ H => W cls none σ H
def ClsK (K : PySem.W.Frag) (C : Addr) (fs : List Str) : Prop := Cls K C ∧ ∀ f ∈ fs, NoAttr K C f
section
variable {K : PySem.W.Frag} {H H1 : Hp} {σ : L2.St} {D : Ends} {ta tv : TE} {f m : Str} {Q : VK} {a C dx : Addr} {fs : List (Str × V)} {fl : List Str} {v y : V} {t : TA} {sp : Sp} {E : L2.St → XK}
def FldK (K : PySem.W.Frag) (f : Str) (x : V) (H1 : Hp) (Q : VK) : Prop := ∃ a C dx fs v, x = .ref a ∧ H1 a = some (.ins C dx fs) ∧ Cls K C ∧ NoAttr K C f ∧ fs.lookup f = some v ∧ Q v H1
theorem w_fld (h : ta σ H fun x H1 => FldK K f x H1 Q) : tFld K ta f σ H Q := h
def SFldK (K : PySem.W.Frag) (f : Str) (D : Ends) (σ : L2.St) (y x : V) (H2 : Hp) : Prop := ∃ a C dx fs, x = .ref a ∧ H2 a = some (.ins C dx fs) ∧ Cls K C ∧ NoAttr K C f ∧ fs.length < 1000 ∧ D.nx σ (upd H2 a (.ins C dx (putF f y fs)))
theorem w_sfld (h : tv σ H fun y H1 => ta σ H1 fun x H2 => SFldK K f D σ y x H2) : sFld K ta tv f D σ H := h
def AFldK (K : PySem.W.Frag) (f : Str) (rd : V → V → Hp → VK → Prop) (tv : TE) (D : Ends) (σ : L2.St) (x : V) (H1 : Hp) : Prop := ∃ a C dx fs v, x = .ref a ∧ H1 a = some (.ins C dx fs) ∧ Cls K C ∧ NoAttr K C f ∧ fs.lookup f = some v ∧
  tv σ H1 fun y H2 => rd v y H2 fun z H3 => ∃ dx' fs', H3 a = some (.ins C dx' fs') ∧ fs'.length < 1000 ∧ D.nx σ (upd H3 a (.ins C dx' (putF f z fs')))
theorem w_afld {rd : V → V → Hp → VK → Prop} (h : ta σ H fun x H1 => AFldK K f rd tv D σ x H1) : sFldAug K ta tv rd f D σ H := h
theorem w_rAdd {i j : Int} (h : Q (.int (i + j)) H) : rAdd (.int i) (.int j) H Q := ⟨i, j, rfl, rfl, h⟩
theorem w_rSub {i j : Int} (h : Q (.int (i - j)) H) : rSub (.int i) (.int j) H Q := ⟨i, j, rfl, rfl, h⟩
def MethK (C : Addr) (m : Str) (sp : Sp) (E : XK) (t : TA) (σ : L2.St) (x : V) (H1 : Hp) (Q : VK) : Prop := ∃ a dx fs, x = .ref a ∧ H1 a = some (.ins C dx fs) ∧ fs.lookup m = none ∧ t σ H1 fun vs H2 => sp (x :: vs) H2 Q E
theorem w_meth (h : ta σ H fun x H1 => MethK C m sp (E σ) t σ x H1 Q) : tMethQ C m sp E ta t σ H Q := h
theorem w_make (h : t σ H fun vs H1 => ∀ x dx, H1 x = none → H1 dx = none → dx ≠ x → sp (.ref x :: vs) (upd (upd H1 dx (.own x)) x (.ins C dx [])) (fun v H2 => v = .non ∧ Q (.ref x) H2) (E σ)) : tMakeQ C sp E t σ H Q := h
theorem w_rz {W : WX} {cls : Value} (h : W cls none σ H) : tRz W cls D σ H := h
theorem w_vei {ta : TA} (h : ta σ H fun vs H1 => ∃ (a C : Addr) (ws : List V), vs = .ref a :: ws ∧ ws.length ≤ 1000 ∧ OexC K C ∧ H1 a = some (exo a C none) ∧ Q .non H1) : tVeI K ta σ H Q := h
theorem w_ost {to te : TE} (h : te σ H fun y H1 => to σ H1 fun x H2 => ∃ a C : Addr, x = .ref a ∧ OexC K C ∧ PySem.W.findIn K (.ref C) f = some none ∧
  ((H2 a = some (exo a C none) ∧ ∀ dx, H2 dx = none → dx ≠ a → D.nx σ (upd (upd H2 dx (exd dx [(f, y)])) a (exo a C (some dx)))) ∨
    ∃ (dx : Addr) (fs : List (Str × V)), H2 a = some (exo a C (some dx)) ∧ H2 dx = some (exd dx fs) ∧ fs.length ≤ 900 ∧ D.nx σ (upd H2 dx (exd dx ((f, y) :: fs))))) : tOst K f to te D σ H := h
theorem w_max2 {i j : Int} (h : Q (.int (if j > i then j else i)) H) : rMax2 [.int i, .int j] H Q := ⟨i, j, rfl, h⟩
end
end Ps
namespace Ps
open PySem PySem.Spec PyProof.Rows L2
end Ps
namespace Ps
open PySem PySem.Spec PyProof.Rows L2
local macro_rules | `(tactic| walk_at "s1") => `(tactic| first
  | (with_reducible refine w_seq ?_) | (with_reducible refine w_asg ?_) | (with_reducible refine w_op ?_) | (with_reducible refine w_c ?_)
  | ((with_reducible refine' w_var ?hx ?_); (case hx => exact rfl))
  | (with_reducible refine w_gname ?_) | (with_reducible refine w_cons ?_) | (with_reducible refine w_nil ?_) | (with_reducible refine w_cb ?_) | (with_reducible refine w_call ?_)
  | (with_reducible refine w_ret ?_) | (with_reducible refine w_drop ?_) | (with_reducible refine w_ifs ?_) | (with_reducible refine w_test ?_) | (with_reducible refine w_next ?_)
  | (with_reducible refine w_addI ?_) | (with_reducible refine w_subI ?_) | (with_reducible refine w_negI ?_) | (with_reducible refine w_eqI ?_) | (with_reducible refine w_neI ?_) | (with_reducible refine w_ltI ?_) | (with_reducible refine w_leI ?_)
  | (with_reducible refine w_gtI ?_) | (with_reducible refine w_geI ?_) | (with_reducible refine w_isNn ?_) | (with_reducible refine w_isNi ?_) | (with_reducible refine w_isNs ?_) | (with_reducible refine w_isNr ?_) | (with_reducible refine w_ntNn ?_) | (with_reducible refine w_ntNi ?_) | (with_reducible refine w_ntNs ?_) | (with_reducible refine w_ntNr ?_) | (with_reducible refine w_isN ?_) | (with_reducible refine w_notN ?_) | (with_reducible refine w_ipaI ?_) | (with_reducible refine w_eqS ?_) | (with_reducible refine w_neS ?_)
  | (with_reducible refine w_blE ?_) | (with_reducible refine w_truB ?_) | (with_reducible refine w_intI ?_) | (with_reducible refine w_intB ?_)
  | (with_reducible refine w_bm ?_) | (with_reducible refine w_bm0 ?_) | (with_reducible refine w_lst ?_) | (with_reducible refine w_tup ?_) | (with_reducible refine w_un ?_) | (with_reducible refine w_sl ?_) | (with_reducible refine w_nopart ?_) | (with_reducible refine w_part ?_) | (with_reducible refine w_partI ?_)
  | (with_reducible refine w_gsub ?_) | (with_reducible refine w_gcons ?_) | (with_reducible refine w_gnil ?_) | (with_reducible refine w_and ?_) | (with_reducible refine w_or ?_) | (with_reducible refine w_not ?_) | (with_reducible refine w_tru ?_) | (with_reducible refine w_yes ?_)
  | (with_reducible refine w_andV ?_) | (with_reducible refine w_orV ?_) | (with_reducible refine w_notV ?_) | (with_reducible refine w_tif ?_) | (with_reducible refine w_callS ?_) | (with_reducible refine w_for ?_)
  | (with_reducible refine w_par ?_) | (with_reducible refine w_par2 ?_) | (with_reducible refine w_retN ?_) | (with_reducible refine w_brk ?_) | (with_reducible refine w_cont ?_)
  | ((with_reducible refine' w_aug ?hx ?_); (case hx => exact rfl)) | (with_reducible refine w_ipsI ?_)
  | (with_reducible refine w_is_int_dict ?_) | (with_reducible refine w_is_int_list ?_) | (with_reducible refine w_is_int_tuple ?_) | (with_reducible refine w_is_int_str ?_) | (with_reducible refine w_is_int_int ?_) | (with_reducible refine w_is_int_bool ?_) | (with_reducible refine w_is_bool_dict ?_) | (with_reducible refine w_is_bool_list ?_) | (with_reducible refine w_is_bool_tuple ?_) | (with_reducible refine w_is_bool_str ?_) | (with_reducible refine w_is_bool_int ?_) | (with_reducible refine w_is_bool_bool ?_) | (with_reducible refine w_is_str_dict ?_) | (with_reducible refine w_is_str_list ?_) | (with_reducible refine w_is_str_tuple ?_) | (with_reducible refine w_is_str_str ?_) | (with_reducible refine w_is_str_int ?_) | (with_reducible refine w_is_str_bool ?_)
  | (with_reducible refine w_ifT ?_) | (with_reducible refine w_ifF ?_) | (with_reducible refine w_ifNF ?_) | (with_reducible refine w_ifNT ?_)
  | (with_reducible refine w_tys ?_) | (with_reducible refine w_chain ?_) | (with_reducible refine w_ost ?_) | (with_reducible refine w_vei ?_) | (with_reducible refine w_rzO ?_) | (with_reducible refine w_fld ?_) | (with_reducible refine w_sfld ?_) | (with_reducible refine w_afld ?_) | (with_reducible refine w_meth ?_) | (with_reducible refine w_make ?_) | (with_reducible refine w_rz ?_) | (with_reducible refine w_rAdd ?_) | (with_reducible refine w_rSub ?_) | (with_reducible refine w_max2 ?_) | (with_reducible refine w_lc ?_) | (with_reducible refine w_zip ?_) | (with_reducible refine w_seqv ?_) | (with_reducible refine w_rng1 ?_) | (with_reducible refine w_rng2 ?_) | (with_reducible refine w_rng3 ?_) | (with_reducible refine w_enum ?_) | (with_reducible refine w_rev ?_))
local macro_rules | `(tactic| walk_at "go") => `(tactic| repeat (walk_at "s1"))
def t_begin (K : PySem.W.Frag) : TS :=
      (tSeq (tAsg (tCB (rListU K) (tCons (tSl (rSlU K) (tVar 0) tNoPart (tPart (tC (.int 63)))) tNil)) (gName 1))
      (tSeq (tIfS (tTest (tOp (rEqU K) (tVar 1) (tLst tNil)))
      (tAsg (tLst (tCons (tC (.int 7)) tNil)) (gName 1))
      tNext)
      (tRet (tDisp [((tC (.str ("cells" : Str))), (tVar 1)), ((tC (.str ("turn" : Str))), (tC (.int 0)))]))))
abbrev N_begin : List Str := [("_law_script" : Str), ("_law_cells" : Str)]
def t_take (K : PySem.W.Frag) : TS :=
      (tSeq (tAsg (tOp (rAddU K) (tOp (rIxU K) (tVar 0) (tC (.str ("turn" : Str)))) (tC (.int 1))) (gName 2))
      (tSeq (tAsg (tVar 2) (gSub (tVar 0) (tC (.str ("turn" : Str))) rSetU))
      (tSeq (tAsg (tOp (rModU) (tVar 2) (tCB (rLenU K) (tCons (tOp (rIxU K) (tVar 0) (tC (.str ("cells" : Str)))) tNil))) (gName 3))
      (tSeq (tAsg (tOp (rIxU K) (tOp (rIxU K) (tVar 0) (tC (.str ("cells" : Str)))) (tVar 3)) (gName 4))
      (tSeq (tIfS (tTest (tOp (rGeU) (tVar 4) (tOp (rPowU) (tC (.int 10)) (tC (.int 18)))))
      (tSeq (tAsg (tCB (rDivmod) (tCons (tVar 4) (tCons (tVar 1) tNil))) (gTup K 2 (gCons (gSub (tOp (rIxU K) (tVar 0) (tC (.str ("cells" : Str)))) (tVar 3) rSetU) (gCons (gName 5) gNil))))
      (tRet (tVar 5)))
      tNext)
      (tSeq (tAsg (tOp (rModU) (tOp (rMulU) (tOp (rAddU K) (tOp (rAddU K) (tOp (rModU) (tVar 4) (tC (.int 2147483629))) (tOp (rMulU) (tOp (rMulU) (tVar 2) (tVar 2)) (tC (.int 7919)))) (tC (.int 11))) (tC (.int 48271))) (tC (.int 2147483647))) (gName 6))
      (tSeq (tAsg (tOp (rModU) (tOp (rMulU) (tVar 6) (tVar 6)) (tC (.int 2147483587))) (gName 6))
      (tRet (tOp (rModU) (tOp (rDivU) (tOp (rModU) (tOp (rMulU) (tOp (rAddU K) (tVar 6) (tOp (rMulU) (tVar 2) (tC (.int 104729)))) (tC (.int 69621))) (tC (.int 2147483629))) (tC (.int 7))) (tVar 1))))))))))
abbrev N_take : List Str := [("_law_state" : Str), ("_law_many" : Str), ("_law_turn" : Str), ("_law_place" : Str), ("_law_cell" : Str), ("_law_digit" : Str), ("_law_mixed" : Str)]
def stD (c : Addr) (t : Int) : HO := .dK [(.inr "cells", .ref c), (.inr "turn", .int t)]
def LW (m : Nat) (a : Addr) (R : List (Addr × HO)) (G H : Hp) : Prop := ∃ (c : Addr) (t : Int) (ns : List Int), Wd ((a, stD c t) :: (c, .lst (ns.map V.int)) :: R) G H ∧ 0 < ns.length ∧ 0 ≤ t ∧ t + m ≤ 2 ^ 50
section
variable {m m' : Nat} {a p l : Addr} {R : List (Addr × HO)} {G G' H H' : Hp} {o o' : HO} {x : Addr × HO}
theorem LW.le (h : LW m a R G H) (l : m' ≤ m) : LW m' a R G H := by
  obtain ⟨c, t, ns, w, h1, h2, h3⟩ := h
  exact ⟨c, t, ns, w, h1, h2, by omega⟩
theorem LW.v (h : LW m a R G H) : Same G H := by
  obtain ⟨c, t, ns, w, _⟩ := h
  exact w.v
theorem LW.same (h : LW m a R G H) (s : Same H H') : LW m a R G H' := by
  obtain ⟨c, t, ns, w, r⟩ := h
  exact ⟨c, t, ns, w.same s, r⟩
theorem LW.grow (h : LW m a R G H) (g : Grow H G H' G') : LW m a R G' H' := by
  obtain ⟨c, t, ns, w, r⟩ := h
  exact ⟨c, t, ns, w.grow g, r⟩
theorem LW.own (h : LW m a R G H) (s : Same H H') (hp : H p = none) (e : H' p = some o) : LW m a ((p, o) :: R) G H' := by
  obtain ⟨c, t, ns, w, r⟩ := h
  exact ⟨c, t, ns, w.own3 s hp e, r⟩
theorem LW.new (h : LW m a R G H) (hp : H p = none) : LW m a R (upd G p o) (upd H p o) := h.grow (Grow.new h.v hp)
theorem LW.mk (h : LW m a R G H) (hp : H p = none) : LW m a ((p, o) :: R) G (upd H p o) := h.own (same_new hp) hp upd_same
theorem LW.put (h : LW m a ((l, o) :: R) G H) : LW m a ((l, o') :: R) G (upd H l o') := by
  obtain ⟨c, t, ns, w, r⟩ := h
  exact ⟨c, t, ns, w.put3, r⟩
theorem LW.hd (h : LW m a ((l, o) :: R) G H) : H l = some o := by
  obtain ⟨c, t, ns, w, r⟩ := h
  exact w.td
theorem LW.drop (h : LW m a (x :: R) G H) : LW m a R G H := by
  obtain ⟨c, t, ns, w, r⟩ := h
  exact ⟨c, t, ns, w.rot3.drop, r⟩
theorem LW.share (h : LW m a ((l, o) :: R) G H) : LW m a R (upd G l o) H := by
  obtain ⟨c, t, ns, w, r⟩ := h
  exact ⟨c, t, ns, w.rot3.share, r⟩
theorem LW.gsame (h : LW m a ((l, o) :: R) G H) (o' : HO) : Same G (upd G l o') := by
  obtain ⟨c, t, ns, w, r⟩ := h
  exact w.rot3.gsame o'
end
theorem ne_ct : ¬ (Str.ofString "cells" = Str.ofString "turn") := by decide +kernel
theorem st_turn {c : Addr} {t : Int} : valV [((.inr "cells" : Key), V.ref c), (.inr "turn", V.int t)] (.inr "turn") = some (.int t) := by
  simp [valV, ne_ct]
theorem st_cells {c : Addr} {t : Int} : valV [((.inr "cells" : Key), V.ref c), (.inr "turn", V.int t)] (.inr "cells") = some (.ref c) := by
  simp [valV]
theorem st_len {c : Addr} {t : Int} : [((.inr "cells" : Key), V.ref c), (.inr "turn", V.int t)].length < sizeLine := by
  show 2 < sizeLine
  decide
theorem st_put {c : Addr} {t u : Int} : HO.dK (putK [((.inr "cells" : Key), V.ref c), (.inr "turn", V.int t)] (.inr "turn") (.int u)) = stD c u := by
  simp [putK, stD, ne_ct]
theorem ixN_nat {n j : Nat} (hj : j < n) : ixN n (j : Int) = some j := by
  unfold ixN
  rw [if_pos (by omega), if_pos (by omega)]
  simp
def spTake : Sp := fun vs H Q _ => ∃ (m : Nat) (a : Addr) (n : Int) (R : List (Addr × HO)) (G : Hp), vs = [.ref a, .int n] ∧ LW (m + 1) a R G H ∧ 0 < n ∧ n < 2 ^ 62 ∧
  ∀ (v : Int) (H' : Hp), LW m a R G H' → 0 ≤ v → v < n → Q (.int v) H'
theorem pure_take {K : PySem.W.Frag} (vs : List V) (H : Hp) (Q : VK) (E : XK) (h : spTake vs H Q E) : t_take K { nx := fun _ H' => Q .non H', rt := Q } (start N_take vs) H := by
  obtain ⟨m, a, n, R, G, rfl, ⟨c, t, ns, w, hns, ht0, htm⟩, hn0, hn1, k⟩ := h
  unfold t_take
  walk_at "go"
  refine w_ixDs w.hd st_turn ?_
  walk_at "go"
  refine w_setDs w.hd st_len ?_
  rw [st_put]
  have w1 : Wd ((a, stD c (t + 1)) :: (c, .lst (ns.map V.int)) :: R) G (upd H a (stD c (t + 1))) := w.put
  revert w1
  generalize upd H a (stD c (t + 1)) = H1
  intro w1
  walk_at "go"
  refine w_ixDs w1.hd st_cells ?_
  walk_at "go"
  refine w_lenL (SqL.of w1.sd) ?_
  walk_at "go"
  refine w_modI (by rw [List.length_map]; omega) ?_
  rw [List.length_map]
  obtain ⟨j, hj, ej⟩ : ∃ j : Nat, j < ns.length ∧ (t + 1) % (ns.length : Int) = (j : Int) := ⟨((t + 1) % (ns.length : Int)).toNat, by
    have h1 := Int.emod_nonneg (t + 1) (show (ns.length : Int) ≠ 0 by omega)
    have h2 := Int.emod_lt_of_pos (t + 1) (show (0 : Int) < ns.length by omega)
    omega, by
    have h1 := Int.emod_nonneg (t + 1) (show (ns.length : Int) ≠ 0 by omega)
    omega⟩
  rw [ej]
  walk_at "go"
  refine w_ixDs w1.hd st_cells ?_
  walk_at "go"
  refine w_ixL (v := V.int ns[j]) (SqL.of w1.sd) (atI_nat (by simp [hj])) ?_
  walk_at "go"
  refine w_powI ⟨by decide, by decide, by decide⟩ ?_
  walk_at "go"
  refine w_ifd (fun hc => ?_) (fun hc => ?_)
  · walk_at "go"
    refine w_divmod (wide_div (b := 62) hn0 (by omega) (by decide) (by decide)) fun p hp => ?_
    have w2 := w1.new (o := .tup [.int (ns[j] / n), .int (ns[j] % n)]) hp
    walk_at "go"
    refine w_gtup (SqT.of upd_same) rfl ?_
    walk_at "go"
    refine w_ixDs w2.hd st_cells ?_
    walk_at "go"
    refine w_setL (k := j) w2.sd (by rw [List.length_map]; exact ixN_nat hj) ?_
    have w3 := w2.put2 (o' := .lst ((ns.map V.int).set j (.int (ns[j] / n))))
    walk_at "go"
    have el : (ns.map V.int).set j (.int (ns[j] / n)) = (ns.set j (ns[j] / n)).map V.int := by rw [List.map_set]
    rw [el] at w3 ⊢
    refine k _ _ ?_ (Int.emod_nonneg _ (by omega)) (Int.emod_lt_of_pos _ hn0)
    obtain ⟨v3, o3, n3⟩ := w3
    exact ⟨c, t + 1, ns.set j (ns[j] / n), ⟨(same_new (w1.v.free hp)).trans v3, fun y hy => ⟨(o3 y hy).1, (same_new (w1.v.free hp)).free (o3 y hy).2⟩, n3⟩, by rw [List.length_set]; exact hns, by omega, by omega⟩
  · have ht : -(2 ^ 64) < t + 1 ∧ t + 1 < 2 ^ 64 := by omega
    walk_at "go"
    refine w_modF (by decide) fun z1 h1 h2 => ?_
    walk_at "go"
    refine w_mulI (.inl ht) ?_
    walk_at "go"
    refine w_mulI (.inr ⟨by decide, by decide⟩) ?_
    walk_at "go"
    refine w_mulI (.inr ⟨by decide, by decide⟩) ?_
    walk_at "go"
    refine w_modF (by decide) fun z2 h3 h4 => ?_
    walk_at "go"
    refine w_mulI (.inl ⟨by omega, by omega⟩) ?_
    walk_at "go"
    refine w_modF (by decide) fun z3 h5 h6 => ?_
    walk_at "go"
    refine w_mulI (.inr ⟨by decide, by decide⟩) ?_
    walk_at "go"
    refine w_mulI (.inr ⟨by decide, by decide⟩) ?_
    walk_at "go"
    refine w_modF (by decide) fun z4 h7 h8 => ?_
    walk_at "go"
    refine w_divI ⟨by decide, by decide⟩ ?_
    walk_at "go"
    refine w_modF hn0 fun z5 h9 h10 => ?_
    exact k _ _ ⟨c, t + 1, ns, w1, hns, by omega, by omega⟩ h9 h10
end Ps
namespace Ps
open PySem PySem.Spec PyProof.Rows L2
local macro_rules | `(tactic| walk_at "s1") => `(tactic| first
  | (with_reducible refine w_seq ?_) | (with_reducible refine w_asg ?_) | (with_reducible refine w_op ?_) | (with_reducible refine w_c ?_)
  | ((with_reducible refine' w_var ?hx ?_); (case hx => exact rfl))
  | (with_reducible refine w_gname ?_) | (with_reducible refine w_cons ?_) | (with_reducible refine w_nil ?_) | (with_reducible refine w_cb ?_) | (with_reducible refine w_call ?_)
  | (with_reducible refine w_ret ?_) | (with_reducible refine w_drop ?_) | (with_reducible refine w_ifs ?_) | (with_reducible refine w_test ?_) | (with_reducible refine w_next ?_)
  | (with_reducible refine w_addI ?_) | (with_reducible refine w_subI ?_) | (with_reducible refine w_negI ?_) | (with_reducible refine w_eqI ?_) | (with_reducible refine w_neI ?_) | (with_reducible refine w_ltI ?_) | (with_reducible refine w_leI ?_)
  | (with_reducible refine w_gtI ?_) | (with_reducible refine w_geI ?_) | (with_reducible refine w_isNn ?_) | (with_reducible refine w_isNi ?_) | (with_reducible refine w_isNs ?_) | (with_reducible refine w_isNr ?_) | (with_reducible refine w_ntNn ?_) | (with_reducible refine w_ntNi ?_) | (with_reducible refine w_ntNs ?_) | (with_reducible refine w_ntNr ?_) | (with_reducible refine w_isN ?_) | (with_reducible refine w_notN ?_) | (with_reducible refine w_ipaI ?_) | (with_reducible refine w_eqS ?_) | (with_reducible refine w_neS ?_)
  | (with_reducible refine w_blE ?_) | (with_reducible refine w_truB ?_) | (with_reducible refine w_intI ?_) | (with_reducible refine w_intB ?_)
  | (with_reducible refine w_bm ?_) | (with_reducible refine w_bm0 ?_) | (with_reducible refine w_lst ?_) | (with_reducible refine w_tup ?_) | (with_reducible refine w_un ?_) | (with_reducible refine w_sl ?_) | (with_reducible refine w_nopart ?_) | (with_reducible refine w_part ?_) | (with_reducible refine w_partI ?_)
  | (with_reducible refine w_gsub ?_) | (with_reducible refine w_gcons ?_) | (with_reducible refine w_gnil ?_) | (with_reducible refine w_and ?_) | (with_reducible refine w_or ?_) | (with_reducible refine w_not ?_) | (with_reducible refine w_tru ?_) | (with_reducible refine w_yes ?_)
  | (with_reducible refine w_andV ?_) | (with_reducible refine w_orV ?_) | (with_reducible refine w_notV ?_) | (with_reducible refine w_tif ?_) | (with_reducible refine w_callS ?_) | (with_reducible refine w_for ?_)
  | (with_reducible refine w_par ?_) | (with_reducible refine w_par2 ?_) | (with_reducible refine w_retN ?_) | (with_reducible refine w_brk ?_) | (with_reducible refine w_cont ?_)
  | ((with_reducible refine' w_aug ?hx ?_); (case hx => exact rfl)) | (with_reducible refine w_ipsI ?_)
  | (with_reducible refine w_is_int_dict ?_) | (with_reducible refine w_is_int_list ?_) | (with_reducible refine w_is_int_tuple ?_) | (with_reducible refine w_is_int_str ?_) | (with_reducible refine w_is_int_int ?_) | (with_reducible refine w_is_int_bool ?_) | (with_reducible refine w_is_bool_dict ?_) | (with_reducible refine w_is_bool_list ?_) | (with_reducible refine w_is_bool_tuple ?_) | (with_reducible refine w_is_bool_str ?_) | (with_reducible refine w_is_bool_int ?_) | (with_reducible refine w_is_bool_bool ?_) | (with_reducible refine w_is_str_dict ?_) | (with_reducible refine w_is_str_list ?_) | (with_reducible refine w_is_str_tuple ?_) | (with_reducible refine w_is_str_str ?_) | (with_reducible refine w_is_str_int ?_) | (with_reducible refine w_is_str_bool ?_)
  | (with_reducible refine w_ifT ?_) | (with_reducible refine w_ifF ?_) | (with_reducible refine w_ifNF ?_) | (with_reducible refine w_ifNT ?_)
  | (with_reducible refine w_tys ?_) | (with_reducible refine w_chain ?_) | (with_reducible refine w_ost ?_) | (with_reducible refine w_vei ?_) | (with_reducible refine w_rzO ?_) | (with_reducible refine w_fld ?_) | (with_reducible refine w_sfld ?_) | (with_reducible refine w_afld ?_) | (with_reducible refine w_meth ?_) | (with_reducible refine w_make ?_) | (with_reducible refine w_rz ?_) | (with_reducible refine w_rAdd ?_) | (with_reducible refine w_rSub ?_) | (with_reducible refine w_max2 ?_) | (with_reducible refine w_lc ?_) | (with_reducible refine w_zip ?_) | (with_reducible refine w_seqv ?_) | (with_reducible refine w_rng1 ?_) | (with_reducible refine w_rng2 ?_) | (with_reducible refine w_rng3 ?_) | (with_reducible refine w_enum ?_) | (with_reducible refine w_rev ?_))
local macro_rules | `(tactic| walk_at "go") => `(tactic| repeat (walk_at "s1"))
def t_same (K : PySem.W.Frag) (s_same_ : Sp) : TS :=
      (tSeq (tIfS (tTest (tOp (rIsN) (tVar 1) (tC .non)))
      (tRet (tOp (rIsN) (tVar 0) (tC .non)))
      tNext)
      (tSeq (tIfS (tTru K (tCB (rIsiU K) (tCons (tVar 1) (tCons (tC (.ty "dict")) tNil))))
      (tSeq tNever
      tNever)
      tNext)
      (tSeq (tIfS (tOr (tTru K (tCB (rIsiU K) (tCons (tVar 1) (tCons (tC (.ty "list")) tNil)))) (tTru K (tCB (rIsiU K) (tCons (tVar 1) (tCons (tC (.ty "tuple")) tNil)))))
      (tSeq (tIfS (tTest (tOp (rNeU K) (tCB (rIsiU K) (tCons (tVar 0) (tCons (tC (.ty "list")) tNil))) (tCB (rIsiU K) (tCons (tVar 1) (tCons (tC (.ty "list")) tNil)))))
      (tRet (tC (.bl false)))
      tNext)
      (tSeq (tIfS (tOr (tTest (tOp (rNeU K) (tCB (rIsiU K) (tCons (tVar 0) (tCons (tC (.ty "tuple")) tNil))) (tCB (rIsiU K) (tCons (tVar 1) (tCons (tC (.ty "tuple")) tNil))))) (tTest (tOp (rNeU K) (tCB (rLenU K) (tCons (tVar 0) tNil)) (tCB (rLenU K) (tCons (tVar 1) tNil)))))
      (tRet (tC (.bl false)))
      tNext)
      (tRet (tCB (rAll K) (tCons (tLc (RZ.iZipA K (tCons (tVar 0) (tCons (tVar 1) tNil))) (gTup K 2 (gCons (gName 3) (gCons (gName 4) gNil))) tYes (tCall s_same_ [] E0 (tCons (tVar 3) (tCons (tVar 4) tNil))) [3, 4]) tNil)))))
      tNext)
      (tSeq (tIfS (tTru K (tCB (rIsiU K) (tCons (tVar 1) (tCons (tC (.ty "str")) tNil))))
      (tRet (tAndV (tCB (rIsiU K) (tCons (tVar 0) (tCons (tC (.ty "str")) tNil))) (tOp (rEqU K) (tVar 0) (tVar 1))))
      tNext)
      (tRet (tAndV (tCB (rIsiU K) (tCons (tVar 0) (tCons (tC (.ty "int")) tNil))) (tAndV (tNotV (tCB (rIsiU K) (tCons (tVar 0) (tCons (tC (.ty "bool")) tNil)))) (tOp (rEqU K) (tVar 0) (tVar 1)))))))))
abbrev N_same : List Str := [("_law_found" : Str), ("_law_due" : Str), ("_law_name" : Str), ("_law_one" : Str), ("_law_other" : Str)]
theorem canLayAll_ints : ∀ ns : List Int, PyData.canLayAll0 (ns.map PyData.int) = true
  | [] => rfl
  | n :: r => by
    rw [List.map_cons, PyData.canLayAll0, canLayAll_ints r]
    rfl
theorem depthAll_ints : ∀ ns : List Int, PyData.depthAll (ns.map PyData.int) = 0
  | [] => rfl
  | n :: r => by
    rw [List.map_cons, PyData.depthAll, depthAll_ints r]
    rfl
theorem shaped_dI (ns : List Int) : SeqAt.shaped (dI ns) = true := by
  unfold SeqAt.shaped dI
  rw [PyData.canLay0, PyData.depth, canLayAll_ints, depthAll_ints]
  rfl
theorem eqvAll_ints : ∀ ns ms : List Int, PyData.eqvAll (ns.map PyData.int) (ms.map PyData.int) = decide (ns = ms)
  | [], [] => by simp [PyData.eqvAll]
  | [], _ :: _ => by simp [PyData.eqvAll]
  | _ :: _, [] => by simp [PyData.eqvAll]
  | n :: r, m :: q => by
    rw [List.map_cons, List.map_cons, PyData.eqvAll, eqvAll_ints r q, PyData.eqv]
    by_cases h : n = m
    · subst h; simp
    · simp [h]
theorem eqv_dI (ns ms : List Int) : PyData.eqv (dI ns) (dI ms) = decide (ns = ms) := by
  unfold dI
  rw [PyData.eqv]
  exact eqvAll_ints ns ms
section
variable {H : Hp} {Q : VK} {K : PySem.W.Frag} {σ : L2.St} {a : Addr}
theorem w_eqLI {b : Addr} {ns ms : List Int} (ha : H a = some (.lst (ns.map V.int))) (hb : H b = some (.lst (ms.map V.int))) (h : Q (.bl (decide (ns = ms))) H) : rEqU K (.ref a) (.ref b) H Q :=
  w_eqD (dp_ints ha) (dp_ints hb) (shaped_dI _) (shaped_dI _) (by rw [eqv_dI]; exact h)
theorem w_disp {trs : List (TE × TE)} (h : ∀ p, H p = none → tPairs trs σ (upd H p (.dK [])) fun ps H2 => H2 p = some (.dK []) ∧ ∃ kvs : List (Key × V), ps = kvs.map (fun kv => (kV kv.1, kv.2)) ∧ kvs.length ≤ 15 ∧ Q (.ref p) (upd H2 p (.dK (mergeK [] kvs)))) : tDisp trs σ H Q := h
theorem w_pcons {tk tv : TE} {r : List (TE × TE)} {P : List (V × V) → Hp → Prop} (h : tk σ H fun x H1 => tv σ H1 fun y H2 => tPairs r σ H2 fun ps H3 => P ((x, y) :: ps) H3) : tPairs ((tk, tv) :: r) σ H P := h
theorem w_pnil {P : List (V × V) → Hp → Prop} (h : P [] H) : tPairs [] σ H P := h
theorem cutV_to (xs : List V) (n : Nat) : cutV xs none (some (n : Int)) = xs.take n := by
  unfold cutV
  rw [HT.sIx_none, HT.sIx_nat, List.drop_zero, Nat.sub_zero]
  by_cases h : n ≤ xs.length
  · rw [Nat.min_eq_left h]
  · rw [Nat.min_eq_right (by omega), List.take_of_length_le (Nat.le_refl _), List.take_of_length_le (by omega)]
end
def spBegin (K : PySem.W.Frag) : Sp := fun vs H Q _ => ∃ (s : Addr) (ns : List Int), vs = [.ref s] ∧ SqL K H s (ns.map V.int) ∧ ns.length ≤ 63 ∧ ∀ a H', LW (2 ^ 50) a [] H H' → Q (.ref a) H'
theorem pure_begin {K : PySem.W.Frag} (vs : List V) (H : Hp) (Q : VK) (E : XK) (h : spBegin K vs H Q E) : t_begin K { nx := fun _ H' => Q .non H', rt := Q } (start N_begin vs) H := by
  obtain ⟨s, ns, rfl, hs, hl, k⟩ := h
  unfold t_begin
  walk_at "go"
  refine w_slL hs fun p hp => ?_
  have e1 : cutV (ns.map V.int) none (some 63) = ns.map V.int := by
    have q := cutV_to (ns.map V.int) 63
    rw [List.take_of_length_le (by rw [List.length_map]; exact hl)] at q
    exact q
  rw [e1]
  have s1 : Same H (upd H p (.lst (ns.map V.int))) := same_new hp
  walk_at "go"
  refine w_listL (SqL.of upd_same) fun c hc => ?_
  have s2 := s1.trans (same_new (o := .lst (ns.map V.int)) hc)
  have c2 : upd (upd H p (.lst (ns.map V.int))) c (.lst (ns.map V.int)) c = some (.lst (ns.map V.int)) := upd_same
  have hc0 : H c = none := s1.free hc
  revert c2 s2
  generalize upd (upd H p (.lst (ns.map V.int))) c (.lst (ns.map V.int)) = H2
  intro s2 c2
  walk_at "go"
  refine ⟨Nat.zero_le _, fun q hq => ?_⟩
  have s3 := s2.trans (same_new (o := .lst []) hq)
  have c3 := same_new (o := .lst []) hq _ _ c2
  refine w_eqLI (ns := ns) (ms := []) c3 upd_same ?_
  walk_at "go"
  have fin : ∀ (H3 : Hp) (c' : Addr) (ms : List Int), Same H H3 → H c' = none → H3 c' = some (.lst (ms.map V.int)) → 0 < ms.length → ∀ p, H3 p = none → Q (.ref p) (upd (upd H3 p (.dK [])) p (.dK (mergeK [] [(.inr "cells", .ref c'), (.inr "turn", .int 0)]))) := by
    intro H3 c' ms s3 h1 h2 h3 p hp
    have e : HO.dK (mergeK [] [(.inr "cells", .ref c'), (.inr "turn", .int 0)]) = stD c' 0 := by
      show HO.dK (putK (putK [] (.inr "cells") (.ref c')) (.inr "turn") (.int 0)) = stD c' 0
      simp [putK, stD, ne_ct]
    rw [e, upd_upd]
    have w := ((Wd.nil (Same.refl H)).own' s3 h1 h2).own (p := p) (o := stD c' 0) hp
    exact k p _ ⟨c', 0, ms, w, h3, by decide, by decide⟩
  refine w_ifd (fun he => ?_) (fun he => ?_)
  · walk_at "go"
    refine ⟨by decide, fun r hr => ?_⟩
    walk_at "go"
    refine w_disp fun p hp => ?_
    refine w_pcons ?_
    walk_at "go"
    refine w_pcons ?_
    walk_at "go"
    refine w_pnil ?_
    exact ⟨upd_same, [(.inr "cells", .ref r), (.inr "turn", .int 0)], rfl, by show 2 ≤ 15; decide, fin _ r [7] (s3.trans (same_new hr)) (s3.free hr) upd_same (by decide) p hp⟩
  · walk_at "go"
    refine w_disp fun p hp => ?_
    refine w_pcons ?_
    walk_at "go"
    refine w_pcons ?_
    walk_at "go"
    refine w_pnil ?_
    refine ⟨upd_same, [(.inr "cells", .ref c), (.inr "turn", .int 0)], rfl, by show 2 ≤ 15; decide, fin _ c ns s3 hc0 c3 ?_ p hp⟩
    cases ns with
    | nil => exact absurd rfl he
    | cons _ _ => exact Nat.succ_pos _
def okD : Nat → PyData → Bool
  | 0, _ => false
  | _ + 1, .none => true
  | _ + 1, .int _ => true
  | _ + 1, .str _ => true
  | n + 1, .list ds => decide (ds.length ≤ 16777216) && ds.all (okD n)
  | n + 1, .tuple ds => decide (ds.length ≤ 16777216) && ds.all (okD n)
  | _ + 1, .bool _ => false
  | _ + 1, .dict _ => false
def spSame (K : PySem.W.Frag) (n : Nat) : Sp := fun vs H Q _ => ∃ (x y : V) (d : PyData), vs = [x, y] ∧ Dp K H x d ∧ Dp K H y d ∧ okD n d = true ∧ ∀ H', Same H H' → Q (.bl true) H'
theorem all_rep (n : Nat) : (List.replicate n true).all id = true := by
  induction n with
  | zero => rfl
  | succ n ih => rw [List.replicate_succ, List.all_cons, ih]; rfl
theorem pure_same {K : PySem.W.Frag} {n : Nat} (vs : List V) (H : Hp) (Q : VK) (E : XK) (h : spSame K (n + 1) vs H Q E) : t_same K (spSame K n) { nx := fun _ H' => Q .non H', rt := Q } (start N_same vs) H := by
  obtain ⟨x, y, d, rfl, hx, hy, hd, k⟩ := h
  unfold t_same
  have zip_turn : ∀ (ds : List PyData) (xs ys : List V), DpAll K H xs ds → DpAll K H ys ds → ds.all (okD n) = true → ∀ (σ : L2.St) (i : Nat) (u : V) (D : Addr) (Hi H' : Hp), H D = none → Same H Hi → Hi D = some (.lst (List.replicate i (.bl true))) → i < ds.length → ds.length ≤ 16777216 → σ.length = 5 →
      YPair (fun i => xs[i]?) (fun i => ys[i]?) i Hi u H' → (gTup K 2 (gCons (gName 3) (gCons (gName 4) gNil))) u (wipe σ [3, 4]) H' fun σ2 H2 => wipe σ2 [3, 4] = wipe σ [3, 4] ∧ tYes σ2 H2 fun b H3 =>
        if b = true then (tCall (spSame K n) [] E0 (tCons (tVar 3) (tCons (tVar 4) tNil))) σ2 H3 fun y H4 => ∃ acc, H4 D = some (.lst acc) ∧ acc.length < sizeLine ∧ (Same H (upd H4 D (.lst (acc ++ [y]))) ∧ upd H4 D (.lst (acc ++ [y])) D = some (.lst (List.replicate (i + 1) (.bl true)))) else (Same H H3 ∧ H3 D = some (.lst (List.replicate (i + 1) (.bl true)))) := by
    intro ds xs ys ax ay ok σ i u D Hi H' hD si hi hlt hsz hσ hY
    obtain ⟨T, x1, y1, rfl, hT, rfl, ex, ey⟩ := hY
    have s2 := si.trans (same_new (o := .tup [x1, y1]) hT)
    have d2 := same_new (o := .tup [x1, y1]) hT _ _ hi
    refine w_gtup (SqT.of upd_same) rfl ?_
    obtain ⟨s0, s1, s2', s3, s4, rfl⟩ : ∃ s0 s1 s2' s3 s4, σ = [s0, s1, s2', s3, s4] := by
      match σ, hσ with
      | [s0, s1, s2', s3, s4], _ => exact ⟨s0, s1, s2', s3, s4, rfl⟩
    walk_at "go"
    refine ⟨rfl, ?_⟩
    walk_at "go"
    have hd1 : ds[i]? = some ds[i] := List.getElem?_eq_getElem hlt
    refine ⟨x1, y1, ds[i], rfl, dp_mono s2 _ _ (dpAll_get ax ex hd1), dp_mono s2 _ _ (dpAll_get ay ey hd1), List.all_eq_true.mp ok _ (List.getElem_mem hlt), fun H4 s4 => ?_⟩
    refine ⟨_, s4 _ _ d2, by rw [List.length_replicate]; exact sz_lt (by omega), same_mut (s2.trans s4) hD, ?_⟩
    rw [upd_same, List.replicate_succ']
  cases hx with
  | non =>
    cases hy
    walk_at "go"
    exact k _ (Same.refl _)
  | bl b => exact absurd hd (by simp [okD])
  | int i =>
    cases hy
    walk_at "go"
    rw [decide_eq_true rfl]
    exact k _ (Same.refl _)
  | str z =>
    cases hy
    walk_at "go"
    rw [decide_eq_true rfl]
    exact k _ (Same.refl _)
  | @lst a xs ds ha ax =>
    cases hy with
    | @lst b ys _ hb ay =>
      walk_at "go"
      refine w_is_list_dict hb ?_
      walk_at "go"
      refine w_is_list_list hb ?_
      walk_at "go"
      refine w_is_list_list ha ?_
      walk_at "go"
      refine w_is_list_list hb ?_
      walk_at "go"
      refine w_neBf rfl ?_
      walk_at "go"
      refine w_is_list_tuple ha ?_
      walk_at "go"
      refine w_is_list_tuple hb ?_
      walk_at "go"
      refine w_neBf rfl ?_
      walk_at "go"
      refine w_lenL ha ?_
      walk_at "go"
      refine w_lenL hb ?_
      walk_at "go"
      have lx := dpAll_len ax
      have ly := dpAll_len ay
      refine w_ifn (fun q => absurd (by rw [lx, ly]) q) (fun _ => ?_)
      walk_at "go"
      refine w_itZL ha hb ?_
      intro D hD
      have hz : ds.length ≤ 16777216 ∧ ds.all (okD n) = true := by simpa [okD] using hd
      refine lc_it (walk_zip (xs := xs) (ys := ys) (n := ds.length) (by omega)) (fun i H' => Same H H' ∧ H' D = some (.lst (List.replicate i (.bl true)))) ⟨same_new hD, upd_same⟩ (fun i H' _ p => ⟨same_l p.1 ha, same_l p.1 hb⟩) (fun i u Hi H' hi p y => ?_) (fun H' p => ?_)
      · exact zip_turn ds xs ys ax ay hz.2 _ i u D Hi H' hD p.1 p.2 hi hz.1 rfl y
      · walk_at "go"
        refine w_all (bs := List.replicate ds.length true) (SqL.of (by rw [p.2, List.map_replicate])) ?_
        rw [all_rep]
        exact k _ p.1
  | @tup a xs ds ha ax =>
    cases hy with
    | @tup b ys _ hb ay =>
      walk_at "go"
      refine w_is_tuple_dict hb ?_
      walk_at "go"
      refine w_is_tuple_list hb ?_
      walk_at "go"
      refine w_is_tuple_tuple hb ?_
      walk_at "go"
      refine w_is_tuple_list ha ?_
      walk_at "go"
      refine w_is_tuple_list hb ?_
      walk_at "go"
      refine w_neBf rfl ?_
      walk_at "go"
      refine w_is_tuple_tuple ha ?_
      walk_at "go"
      refine w_is_tuple_tuple hb ?_
      walk_at "go"
      refine w_neBf rfl ?_
      walk_at "go"
      refine w_lenT ha ?_
      walk_at "go"
      refine w_lenT hb ?_
      walk_at "go"
      have lx := dpAll_len ax
      have ly := dpAll_len ay
      refine w_ifn (fun q => absurd (by rw [lx, ly]) q) (fun _ => ?_)
      walk_at "go"
      refine w_itZT ha hb ?_
      intro D hD
      have hz : ds.length ≤ 16777216 ∧ ds.all (okD n) = true := by simpa [okD] using hd
      refine lc_it (walk_zipT (xs := xs) (ys := ys) (n := ds.length) (by omega)) (fun i H' => Same H H' ∧ H' D = some (.lst (List.replicate i (.bl true)))) ⟨same_new hD, upd_same⟩ (fun i H' _ p => ⟨same_t p.1 ha, same_t p.1 hb⟩) (fun i u Hi H' hi p y => ?_) (fun H' p => ?_)
      · exact zip_turn ds xs ys ax ay hz.2 _ i u D Hi H' hD p.1 p.2 hi hz.1 rfl y
      · walk_at "go"
        refine w_all (bs := List.replicate ds.length true) (SqL.of (by rw [p.2, List.map_replicate])) ?_
        rw [all_rep]
        exact k _ p.1
end Ps
namespace Ps
open PySem PySem.Spec PyProof.Rows L2
def Sq (K : PySem.W.Frag) (H : Hp) (a : Addr) (xs : List V) : Prop := SqL K H a xs ∨ SqT K H a xs
section
variable {K : PySem.W.Frag} {H H' Hi H4 : Hp} {a b D p : Addr} {xs ys vs : List V} {R : It → Hp → Prop} {v y : V} {i n : Nat}
theorem Sq.same (s : Same H H') (h : Sq K H a xs) : Sq K H' a xs := h.elim (fun h => .inl (same_l s h)) fun h => .inr (same_t s h)
theorem Sq.l (h : H a = some (.lst xs)) : Sq K H a xs := .inl (SqL.of h)
theorem Sq.t (h : H a = some (.tup xs)) : Sq K H a xs := .inr (SqT.of h)
end
theorem fn_no {P : Program} {w : World} {K : PySem.W.Frag} {mg : Str → Option Value} {base : Heap} {CX : CXT} {k : Nat} {f : Addr} {fd : FuncData} {ps : List Str} {sp : Sp} (h : ∀ vs H Q E, ¬ sp vs H Q E) : FnOk P w K mg base CX k f fd ps sp :=
  ⟨fun vs H Q E q => (h _ _ _ _ q).elim, fun _ _ _ _ _ _ _ _ _ _ _ _ _ q => (h _ _ _ _ q).elim⟩
theorem same_no {K : PySem.W.Frag} (vs : List V) (H : Hp) (Q : VK) (E : XK) : ¬ spSame K 0 vs H Q E := by
  rintro ⟨x, y, d, _, _, _, hd, _⟩
  cases hd
section
variable {m : Nat} {a l : Addr} {R : List (Addr × HO)} {G H : Hp} {o : HO} {n : Int} {Q : VK} {E : XK} {K : PySem.W.Frag}
theorem LW.at (h : LW m a R G H) (q : (l, o) ∈ R) : H l = some o := by
  obtain ⟨c, t, ns, w, r⟩ := h
  exact w.mem (List.mem_cons_of_mem _ (List.mem_cons_of_mem _ q))
theorem LW.sd {x : Addr × HO} (h : LW m a (x :: (l, o) :: R) G H) : H l = some o := h.at (List.mem_cons_of_mem _ List.mem_cons_self)
theorem LW.td {x y : Addr × HO} (h : LW m a (x :: y :: (l, o) :: R) G H) : H l = some o := h.at (List.mem_cons_of_mem _ (List.mem_cons_of_mem _ List.mem_cons_self))
theorem LW.perm {R' : List (Addr × HO)} (h : LW m a R G H) (p : R'.Perm R) : LW m a R' G H := by
  obtain ⟨c, t, ns, w, r⟩ := h
  exact ⟨c, t, ns, w.perm ((p.cons _).cons _), r⟩
end
def spLaw (K : PySem.W.Frag) : Sp := fun vs H Q _ => ∃ (a : Addr) (ns : List Int), vs = [.ref a] ∧ SqL K H a (ns.map V.int) ∧ ns.length ≤ 63 ∧ ∀ H', Q (.bl true) H'
end Ps
namespace Ps
open PySem PySem.Spec PyProof.Rows L2
section
variable {K : PySem.W.Frag} {H H' H1 Hi H4 : Hp} {a b D p : Addr} {xs ys vs : List V} {R : It → Hp → Prop} {v y : V} {i n m : Nat}
end
theorem sIx_none (n d : Nat) : HT.sIx n d none = d := rfl
theorem sIx_nat {n d j : Nat} : HT.sIx n d (some (j : Int)) = min j n := by
  unfold HT.sIx
  simp
  intro h
  omega
def RngCK (R : It → Hp → Prop) (vs : List V) (H1 : Hp) : Prop := ∃ (i j c : Int) (n : Nat), vs = [.int i, .int j, .int c] ∧ RgC i j c n ∧ R (Itc i c n) H1
theorem w_rng3 {ta : TA} {σ : L2.St} {H : Hp} {R : It → Hp → Prop} (h : ta σ H fun vs H1 => RngCK R vs H1) : iRng3 ta σ H R := h
theorem split_at {α : Type} {l : List α} {i : Nat} {x : α} (h : l[i]? = some x) : ∃ A B, l = A ++ x :: B ∧ A.length = i := by
  obtain ⟨h1, h2⟩ := List.getElem?_eq_some_iff.mp h
  refine ⟨l.take i, l.drop (i + 1), ?_, by rw [List.length_take]; omega⟩
  rw [← h2, List.getElem_cons_drop, List.take_append_drop]
theorem set_mid {α : Type} (A B : List α) (x y : α) : (A ++ x :: B).set A.length y = A ++ y :: B := by
  rw [List.set_append_right _ _ (Nat.le_refl _), Nat.sub_self, List.set_cons_zero]
section
variable {m : Nat} {a l p : Addr} {R : List (Addr × HO)} {G H : Hp} {o o' : HO} {i : Nat}
theorem LW.set (h : LW m a R G H) (e : R[i]? = some (l, o)) : LW m a (R.set i (l, o')) G (upd H l o') := by
  obtain ⟨A, B, rfl, rfl⟩ := split_at e
  rw [set_mid]
  have h1 := h.perm (R' := (l, o) :: (A ++ B)) List.perm_middle.symm
  exact (h1.put (o' := o')).perm List.perm_middle
theorem LW.get (h : LW m a R G H) (e : R[i]? = some (l, o)) : H l = some o := h.at (List.mem_of_getElem? e)
end
end Ps
namespace Ps
open PySem PySem.Spec PyProof.Rows L2
section
variable {K : PySem.W.Frag} {H H' : Hp} {a : Addr} {xs : List V} {R : It → Hp → Prop}
theorem sql_at (e : H' a = H a) (h : SqL K H a xs) : SqL K H' a xs := h.imp (fun h => by unfold L2.Rd at h ⊢; rw [e]; exact h) id
theorem sqt_at (e : H' a = H a) (h : SqT K H a xs) : SqT K H' a xs := h.imp (fun h => by unfold L2.Rd at h ⊢; rw [e]; exact h) id
theorem Sq.at (h : Sq K H a xs) (e : H' a = H a) : Sq K H' a xs := h.imp (sql_at e) (sqt_at e)
end
theorem w_chain {r r' : R2} {ta tb tc : TE} {σ : L2.St} {H : Hp} {Q : VK} (h : ta σ H fun x H1 => tb σ H1 fun y H2 => r x y H2 fun z H3 => ∃ k, z = .bl k ∧ (if k = true then tc σ H3 fun w' H4 => r' y w' H4 Q else Q (.bl false) H3)) : tChain r r' ta tb tc σ H Q := h
end Ps
namespace Ps
open PySem PySem.Spec PyProof.Rows L2
section
variable {K : PySem.W.Frag} {H : Hp} {Q : VK} {p : Addr}
theorem w_tys {z : Str} {P : Prop} (h : P) : tyV K "str" (.str z) H ∧ P := ⟨rfl, h⟩
end
end Ps
namespace Ps
open PySem PySem.Spec PyProof.Rows L2
section
variable {prog : Program} {w : World} {A : Around} {E : Value → Shared → Prop} {s : Shared}
end
end Ps
namespace Ps
open PySem PySem.Spec PyProof.Rows L2
inductive D where
  | non
  | bl (b : Bool)
  | int (i : Int)
  | str (s : Str)
  | adr (a : Addr)
  | ty (n : String)
  | scr (ns : List Int)
  | lst (ds : List D)
  | tup (ds : List D)
  | dic (kvs : List (Key × D))
  | obj (C : Addr) (fs : List (Str × D))
  | exc (C : Addr) (fs : List (Str × D))
  | dcl (w : World) (kvs : List (Leaf × D))
  | dct (w : World) (kvs : List (List Leaf × D))
  | lck (u : Obj × List (Key × V)) (kvs : List (Key × D))
def TupAt (K : PySem.W.Frag) (G : Hp) (a : Addr) (vs : List V) : Prop := G a = some (.tup vs) ∨
  ∃ (o : Obj) (its : Array Value) (n : Nat), K.lookup a = some o ∧ o.cls = .type "tuple" ∧ o.data = .seq its n ∧ its.size ≤ sizeLine ∧ Vals vs its.toList
theorem TupAt.sq {K : PySem.W.Frag} {G : Hp} {a : Addr} {vs : List V} (h : TupAt K G a vs) : SqT K G a vs := h.elim (fun h => SqT.of h) fun h => .inr h
theorem TupAt.mono {K : PySem.W.Frag} {G G' : Hp} {a : Addr} {vs : List V} (s : Same G G') (h : TupAt K G a vs) : TupAt K G' a vs := h.elim (fun h => .inl (s _ _ h)) fun h => .inr h
def lfV : Leaf → V
  | .none => .non
  | .num i => .int i
  | .text x => .str x
def noBl : Value → Bool
  | .bool _ => false
  | _ => true
def cellIs (k : Leaf) (v : Value) : Bool := Leaf.isOf k v && noBl v
theorem cellIs_leaf {k : Leaf} {v : Value} (h : cellIs k v = true) : Leaf.isOf k v = true := (Bool.and_eq_true _ _ ▸ h).1
def cellKind (prog : Program) (w : World) : KeyKind prog w Leaf where
  is := cellIs
  hash := (leafKind prog w).hash
  inj := fun v a b ha hb => (leafKind prog w).inj v a b (cellIs_leaf ha) (cellIs_leaf hb)
  byValue := fun k v h => (leafKind prog w).byValue k v (cellIs_leaf h)
  pyHash := fun hv h => (leafKind prog w).pyHash (cellIs_leaf hv) h
  eqBool := fun hu hv h => (leafKind prog w).eqBool (cellIs_leaf hu) (cellIs_leaf hv) h
  «strs» := fun k x t v h => by
    have e := (leafKind prog w).strs k x t v (cellIs_leaf h)
    have e2 : (leafKind prog w).is k v = Leaf.isOf k v := rfl
    unfold cellIs
    rw [← e2, e]
    cases v <;> first | rfl | simp [noBl] | skip
def DictL (w : World) (a : Addr) (kvs : List (Leaf × V)) (h : Heap) : Prop := kvs.length ≤ sizeLine ∧ (a == sysModules) = false ∧ ∃ (P : Program) (vs : List (Leaf × Value)), KV kvs vs ∧ h.DictOf (cellKind P w) a vs
def DL (w : World) (a : Addr) (kvs : List (Leaf × V)) : HO := .ext (DictL w a kvs)
def DictT (w : World) (a : Addr) (kvs : List ((List Leaf × Addr) × V)) (h : Heap) : Prop := kvs.length ≤ sizeLine ∧ (a == sysModules) = false ∧ ∃ (P : Program) (xs : List (List Leaf × Addr × Value)),
  Paired (fun (p : (List Leaf × Addr) × V) (q : List Leaf × Addr × Value) => p.1.1 = q.1 ∧ p.1.2 = q.2.1 ∧ RelV p.2 q.2.2) kvs xs ∧
  ∃ o es ep, h.get? a = some o ∧ o.ExactDict ∧ o.data = .dict es ep ∧ es.toList = xs.map (entryOfKey (tupleKind (cellKind P w))) ∧ (xs.map (·.1)).Nodup
def DT (w : World) (a : Addr) (kvs : List ((List Leaf × Addr) × V)) : HO := .ext (DictT w a kvs)
mutual
inductive Dd (K : PySem.W.Frag) (G : Hp) : V → D → Prop
  | non : Dd K G .non .non
  | bl (b : Bool) : Dd K G (.bl b) (.bl b)
  | int (i : Int) : Dd K G (.int i) (.int i)
  | str (x : Str) : Dd K G (.str x) (.str x)
  | adr (a : Addr) : Dd K G (.ref a) (.adr a)
  | ty (n : String) : Dd K G (.ty n) (.ty n)
  | scr {a : Addr} {ns : List Int} : SqL K G a (ns.map V.int) → Dd K G (.ref a) (.scr ns)
  | lst {a : Addr} {vs : List V} {ds : List D} : G a = some (.lst vs) → DdAll K G vs ds → Dd K G (.ref a) (.lst ds)
  | tup {a : Addr} {vs : List V} {ds : List D} : TupAt K G a vs → DdAll K G vs ds → Dd K G (.ref a) (.tup ds)
  | dic {a : Addr} {kvs : List (Key × V)} {kds : List (Key × D)} {ks : List Key} {vs : List V} {ds : List D} : Rd G a (.dK kvs) → kvs.map Prod.fst = ks → kds.map Prod.fst = ks → kvs.map Prod.snd = vs → kds.map Prod.snd = ds → DdAll K G vs ds → Dd K G (.ref a) (.dic kds)
  | obj {a C dx : Addr} {fs : List (Str × V)} {gs : List (Str × D)} {ks : List Str} {vs : List V} {ds : List D} : G a = some (.ins C dx fs) → G dx = some (.own a) → fs.map Prod.fst = ks → gs.map Prod.fst = ks → fs.map Prod.snd = vs → gs.map Prod.snd = ds → DdAll K G vs ds → Dd K G (.ref a) (.obj C gs)
  | exc0 {a C : Addr} : G a = some (exv a C none) → Dd K G (.ref a) (.exc C [])
  | exc1 {a C b : Addr} {fs : List (Str × V)} {gs : List (Str × D)} {ks : List Str} {vs : List V} {ds : List D} : G a = some (exv a C (some b)) → G b = some (.xd fs) → fs.map Prod.fst = ks → gs.map Prod.fst = ks → fs.map Prod.snd = vs → gs.map Prod.snd = ds → DdAll K G vs ds → Dd K G (.ref a) (.exc C gs)
  | dcl {a : Addr} {w : World} {kvs : List (Leaf × V)} {kds : List (Leaf × D)} {ks : List Leaf} {vs : List V} {ds : List D} : G a = some (DL w a kvs) → kvs.map Prod.fst = ks → kds.map Prod.fst = ks → kvs.map Prod.snd = vs → kds.map Prod.snd = ds → DdAll K G vs ds → Dd K G (.ref a) (.dcl w kds)
  | dct {a : Addr} {w : World} {kvs : List ((List Leaf × Addr) × V)} {kds : List (List Leaf × D)} {ks : List (List Leaf)} {vs : List V} {ds : List D} : G a = some (DT w a kvs) → (kvs.map fun p => p.1.1) = ks → (∀ p ∈ kvs, G p.1.2 = some (.tup (p.1.1.map lfV))) → kds.map Prod.fst = ks → kvs.map Prod.snd = vs → kds.map Prod.snd = ds → DdAll K G vs ds → Dd K G (.ref a) (.dct w kds)
inductive DdAll (K : PySem.W.Frag) (G : Hp) : List V → List D → Prop
  | nil : DdAll K G [] []
  | cons {v : V} {vs : List V} {d : D} {ds : List D} : Dd K G v d → DdAll K G vs ds → DdAll K G (v :: vs) (d :: ds)
end
theorem same_rd {G H : Hp} {a : Addr} {o : HO} (s : Same G H) (h : Rd G a o) : Rd H a o := h.elim (fun h => .inl (s _ _ h)) fun ⟨u, h⟩ => .inr ⟨u, s _ _ h⟩
section
variable {K : PySem.W.Frag} {G G' H H' : Hp}
mutual
theorem Dd.mono (s : Same G G') : ∀ {v : V} {d : D}, Dd K G v d → Dd K G' v d
  | _, _, .non => .non
  | _, _, .bl b => .bl b
  | _, _, .int i => .int i
  | _, _, .str x => .str x
  | _, _, .adr a => .adr a
  | _, _, .ty n => .ty n
  | _, _, .scr h => .scr (same_l s h)
  | _, _, .lst h a => .lst (s _ _ h) (DdAll.mono s a)
  | _, _, .tup h a => .tup (h.mono s) (DdAll.mono s a)
  | _, _, .dic h e1 e2 e3 e4 a => .dic (same_rd s h) e1 e2 e3 e4 (DdAll.mono s a)
  | _, _, .obj h1 h2 e1 e2 e3 e4 a => .obj (s _ _ h1) (s _ _ h2) e1 e2 e3 e4 (DdAll.mono s a)
  | _, _, .dcl h e1 e2 e3 e4 a => .dcl (s _ _ h) e1 e2 e3 e4 (DdAll.mono s a)
  | _, _, .dct h e1 e0 e2 e3 e4 a => .dct (s _ _ h) e1 (fun p hp => s _ _ (e0 p hp)) e2 e3 e4 (DdAll.mono s a)
  | _, _, .exc0 h1 => .exc0 (s _ _ h1)
  | _, _, .exc1 h1 h2 e1 e2 e3 e4 a => .exc1 (s _ _ h1) (s _ _ h2) e1 e2 e3 e4 (DdAll.mono s a)
theorem DdAll.mono (s : Same G G') : ∀ {vs : List V} {ds : List D}, DdAll K G vs ds → DdAll K G' vs ds
  | _, _, .nil => .nil
  | _, _, .cons h t => .cons (Dd.mono s h) (DdAll.mono s t)
end
theorem DdAll.len : ∀ {vs : List V} {ds : List D}, DdAll K G vs ds → vs.length = ds.length
  | _, _, .nil => rfl
  | _, _, .cons _ t => by rw [List.length_cons, List.length_cons, DdAll.len t]
theorem DdAll.get : ∀ {vs : List V} {ds : List D} {i : Nat} {d : D}, DdAll K G vs ds → ds[i]? = some d → ∃ v, vs[i]? = some v ∧ Dd K G v d
  | _, _, _, _, .nil, h => by simp at h
  | _, _, 0, _, .cons h _, e => by simp at e; subst e; exact ⟨_, rfl, h⟩
  | _, _, i + 1, _, .cons _ t, e => by
    obtain ⟨v, h1, h2⟩ := DdAll.get (i := i) t (by simpa using e)
    exact ⟨v, by simpa using h1, h2⟩
theorem DdAll.getV : ∀ {vs : List V} {ds : List D} {i : Nat} {v : V}, DdAll K G vs ds → vs[i]? = some v → ∃ d, ds[i]? = some d ∧ Dd K G v d
  | _, _, _, _, .nil, h => by simp at h
  | _, _, 0, _, .cons h _, e => by simp at e; subst e; exact ⟨_, rfl, h⟩
  | _, _, i + 1, _, .cons _ t, e => by
    obtain ⟨v, h1, h2⟩ := DdAll.getV (i := i) t (by simpa using e)
    exact ⟨v, by simpa using h1, h2⟩
theorem DdAll.app : ∀ {vs ws : List V} {ds es : List D}, DdAll K G vs ds → DdAll K G ws es → DdAll K G (vs ++ ws) (ds ++ es)
  | _, _, _, _, .nil, s => s
  | _, _, _, _, .cons h t, s => .cons h (DdAll.app t s)
theorem DdAll.one {v : V} {d : D} (h : Dd K G v d) : DdAll K G [v] [d] := .cons h .nil
theorem DdAll.set : ∀ {vs : List V} {ds : List D} {v : V} {d : D} (i : Nat), DdAll K G vs ds → Dd K G v d → DdAll K G (vs.set i v) (ds.set i d)
  | _, _, _, _, _, .nil, _ => .nil
  | _, _, _, _, 0, .cons _ t, h => .cons h t
  | _, _, _, _, i + 1, .cons q t, h => .cons q (DdAll.set i t h)
theorem DdAll.take : ∀ {vs : List V} {ds : List D} (n : Nat), DdAll K G vs ds → DdAll K G (vs.take n) (ds.take n)
  | _, _, 0, _ => by simp; exact .nil
  | _, _, _ + 1, .nil => .nil
  | _, _, n + 1, .cons h t => .cons h (DdAll.take n t)
theorem DdAll.drop : ∀ {vs : List V} {ds : List D} (n : Nat), DdAll K G vs ds → DdAll K G (vs.drop n) (ds.drop n)
  | _, _, 0, r => r
  | _, _, _ + 1, .nil => .nil
  | _, _, n + 1, .cons _ t => DdAll.drop n t
inductive OT where
  | F
  | O
  deriving DecidableEq
def OwnTop (K : PySem.W.Frag) (G : Hp) : List (Addr × HO) → V → D → Prop
  | S, v, .lst ds => ∃ a vs, v = .ref a ∧ S = [(a, .lst vs)] ∧ DdAll K G vs ds
  | S, v, .dic kds => ∃ a kvs, v = .ref a ∧ S = [(a, .dK kvs)] ∧ kvs.map Prod.fst = kds.map Prod.fst ∧ DdAll K G (kvs.map Prod.snd) (kds.map Prod.snd)
  | S, v, d => S = [] ∧ Dd K G v d
def Own (K : PySem.W.Frag) (G : Hp) : OT → List (Addr × HO) → V → D → Prop
  | .F, S, v, d => S = [] ∧ Dd K G v d
  | .O, S, v, d => OwnTop K G S v d
theorem OwnTop.mono (s : Same G G') {S : List (Addr × HO)} {v : V} {d : D} (h : OwnTop K G S v d) : OwnTop K G' S v d := by
  cases d with
  | lst ds => obtain ⟨a, vs, e1, e2, h⟩ := h; exact ⟨a, vs, e1, e2, h.mono s⟩
  | dic kds => obtain ⟨a, vs, e1, e2, e3, h⟩ := h; exact ⟨a, vs, e1, e2, e3, h.mono s⟩
  | _ => exact ⟨h.1, h.2.mono s⟩
theorem Own.mono (s : Same G G') {t : OT} {S : List (Addr × HO)} {v : V} {d : D} (h : Own K G t S v d) : Own K G' t S v d := by
  cases t with
  | F => exact ⟨h.1, h.2.mono s⟩
  | O => exact OwnTop.mono s h
theorem Own.freeze {t : OT} {S R : List (Addr × HO)} {v : V} {d : D} (w : Wd (S ++ R) G H) (h : Own K G t S v d) : ∃ G', Same G G' ∧ Wd R G' H ∧ Dd K G' v d := by
  cases t with
  | F =>
    obtain ⟨rfl, h⟩ := h
    exact ⟨G, Same.refl G, w, h⟩
  | O =>
    cases d with
    | lst ds =>
      obtain ⟨a, vs, rfl, rfl, h⟩ := h
      exact ⟨_, w.gsame _, w.share, .lst upd_same (h.mono (w.gsame _))⟩
    | dic kds =>
      obtain ⟨a, kvs, rfl, rfl, e, h⟩ := h
      exact ⟨_, w.gsame _, w.share, .dic (.inl upd_same) e rfl rfl rfl (h.mono (w.gsame _))⟩
    | _ =>
      obtain ⟨rfl, h⟩ := h
      exact ⟨G, Same.refl G, w, h⟩
def Bo (K : PySem.W.Frag) (G : Hp) (S : List (Addr × HO)) (t : OT) (v : V) (d : D) : Prop := ∃ S', (∀ x ∈ S', x ∈ S) ∧ Own K G t S' v d
theorem Bo.mono (s : Same G G') {S S2 : List (Addr × HO)} (hs : ∀ x ∈ S, x ∈ S2) {t : OT} {v : V} {d : D} (h : Bo K G S t v d) : Bo K G' S2 t v d := by
  obtain ⟨S', h1, h2⟩ := h
  exact ⟨S', fun x hx => hs x (h1 x hx), h2.mono s⟩
inductive Tp (K : PySem.W.Frag) (G H : Hp) : V → D → Prop
  | dd {v : V} {d : D} : Dd K G v d → Tp K G H v d
  | lst {a : Addr} {vs : List V} {ds : List D} : H a = some (.lst vs) → DdAll K G vs ds → Tp K G H (.ref a) (.lst ds)
  | dic {a : Addr} {kvs : List (Key × V)} {kds : List (Key × D)} : Rd H a (.dK kvs) → kvs.map Prod.fst = kds.map Prod.fst → DdAll K G (kvs.map Prod.snd) (kds.map Prod.snd) → Tp K G H (.ref a) (.dic kds)
theorem Bo.tp {S R : List (Addr × HO)} {t : OT} {v : V} {d : D} (w : Wd (S ++ R) G H) (h : Bo K G S t v d) : Tp K G H v d := by
  obtain ⟨S', h1, h2⟩ := h
  have hm : ∀ x ∈ S', H x.1 = some x.2 := fun x hx => w.mem (List.mem_append_left _ (h1 x hx))
  cases t with
  | F => exact .dd h2.2
  | O =>
    cases d with
    | lst ds =>
      obtain ⟨a, vs, rfl, rfl, h⟩ := h2
      exact .lst (hm _ List.mem_cons_self) h
    | dic kds =>
      obtain ⟨a, kvs, rfl, rfl, e, h⟩ := h2
      exact .dic (.inl (hm _ List.mem_cons_self)) e h
    | _ => exact .dd h2.2
theorem Tp.deep {v : V} {d : D} (s : Same G H) (h : Tp K G H v d) : Dd K H v d := by
  cases h with
  | dd h => exact h.mono s
  | lst h1 h2 => exact .lst h1 (h2.mono s)
  | dic h1 h2 h3 => exact .dic h1 h2 rfl rfl rfl (h3.mono s)
theorem Tp.l {v : V} {ds : List D} (s : Same G H) (h : Tp K G H v (.lst ds)) : ∃ a vs, v = .ref a ∧ H a = some (.lst vs) ∧ DdAll K G vs ds := by
  cases h with
  | dd h => cases h with | lst h1 h2 => exact ⟨_, _, rfl, s _ _ h1, h2⟩
  | lst h1 h2 => exact ⟨_, _, rfl, h1, h2⟩
theorem Tp.t {v : V} {ds : List D} (s : Same G H) (h : Tp K G H v (.tup ds)) : ∃ a vs, v = .ref a ∧ TupAt K G a vs ∧ SqT K H a vs ∧ DdAll K G vs ds := by
  cases h with
  | dd h => cases h with | tup h1 h2 => exact ⟨_, _, rfl, h1, same_t s h1.sq, h2⟩
theorem Tp.dk {v : V} {kds : List (Key × D)} (s : Same G H) (h : Tp K G H v (.dic kds)) : ∃ a kvs, v = .ref a ∧ Rd H a (.dK kvs) ∧ kvs.map Prod.fst = kds.map Prod.fst ∧ DdAll K G (kvs.map Prod.snd) (kds.map Prod.snd) := by
  cases h with
  | dd h => cases h with | dic h1 e1 e2 e3 e4 h2 => exact ⟨_, _, rfl, same_rd s h1, by rw [e1, e2], by rw [e3, e4]; exact h2⟩
  | dic h1 h2 h3 => exact ⟨_, _, rfl, h1, h2, h3⟩
def D.sc : D → Bool
  | .non | .bl _ | .int _ | .str _ | .ty _ | .adr _ => true
  | _ => false
theorem Tp.s {v : V} {d : D} (h : Tp K G H v d) (e : d.sc = true) : Dd K G v d := by
  cases h with
  | dd h => exact h
  | lst _ _ => cases e
  | dic _ _ _ => cases e
abbrev Env := List (Option D)
inductive Slots (K : PySem.W.Frag) (G : Hp) : List OT → List (Addr × HO) → Env → L2.St → Prop
  | nil : Slots K G [] [] [] []
  | no {t : OT} {Γ : List OT} {S : List (Addr × HO)} {env : Env} {o : Option V} {σ : L2.St} : Slots K G Γ S env σ → Slots K G (t :: Γ) S (none :: env) (o :: σ)
  | yes {t : OT} {Γ : List OT} {S1 S : List (Addr × HO)} {env : Env} {d : D} {v : V} {σ : L2.St} : Own K G t S1 v d → Slots K G Γ S env σ → Slots K G (t :: Γ) (S1 ++ S) (some d :: env) (some v :: σ)
variable {Γ : List OT} {S S1 S2 R : List (Addr × HO)} {env : Env} {σ : L2.St}
theorem Slots.mono (s : Same G G') (h : Slots K G Γ S env σ) : Slots K G' Γ S env σ := by
  induction h with
  | nil => exact .nil
  | no _ ih => exact .no ih
  | yes h _ ih => exact .yes (h.mono s) ih
theorem Slots.len (h : Slots K G Γ S env σ) : σ.length = env.length ∧ Γ.length = env.length := by
  induction h with
  | nil => exact ⟨rfl, rfl⟩
  | no _ ih => exact ⟨by simp [ih.1], by simp [ih.2]⟩
  | yes _ _ ih => exact ⟨by simp [ih.1], by simp [ih.2]⟩
theorem Slots.at (h : Slots K G Γ S env σ) : ∀ {i : Nat} {d : D} {t : OT}, env[i]? = some (some d) → Γ[i]? = some t → ∃ v S1 S2 S3, σ[i]? = some (some v) ∧ S = S1 ++ (S2 ++ S3) ∧ Own K G t S2 v d ∧
    ∀ (G' : Hp) (S2' : List (Addr × HO)) (t' : OT) (o' : Option D) (v' : Option V), Same G G' → ((o' = none ∧ S2' = []) ∨ ∃ d' v'', o' = some d' ∧ v' = some v'' ∧ Own K G' t' S2' v'' d') → Slots K G' (Γ.set i t') (S1 ++ (S2' ++ S3)) (env.set i o') (σ.set i v') := by
  induction h with
  | nil => intro i d t h1 h2; simp at h1
  | @no t0 Γ S env o σ h ih =>
    intro i d t h1 h2
    cases i with
    | zero => simp at h1
    | succ i =>
      obtain ⟨v, S1, S2, S3, e1, e2, e3, e4⟩ := ih (i := i) (by simpa using h1) (by simpa using h2)
      refine ⟨v, S1, S2, S3, by simpa using e1, e2, e3, fun G' S2' t' o' v' s q => ?_⟩
      rw [List.set_cons_succ, List.set_cons_succ, List.set_cons_succ]
      exact .no (e4 G' S2' t' o' v' s q)
  | @yes t0 Γ S1 S env d0 v0 σ h hs ih =>
    intro i d t h1 h2
    cases i with
    | zero =>
      simp at h1 h2
      subst h1; subst h2
      refine ⟨v0, [], S1, S, rfl, rfl, h, fun G' S2' t' o' v' s q => ?_⟩
      rw [List.set_cons_zero, List.set_cons_zero, List.set_cons_zero]
      rcases q with ⟨rfl, rfl⟩ | ⟨d', v'', rfl, rfl, q⟩
      · exact .no (hs.mono s)
      · exact (Slots.yes (S := S) q (hs.mono s))
    | succ i =>
      obtain ⟨v, T1, T2, T3, e1, e2, e3, e4⟩ := ih (i := i) (by simpa using h1) (by simpa using h2)
      refine ⟨v, S1 ++ T1, T2, T3, by simpa using e1, by rw [e2, List.append_assoc], e3, fun G' S2' t' o' v' s q => ?_⟩
      rw [List.set_cons_succ, List.set_cons_succ, List.set_cons_succ, List.append_assoc]
      exact .yes (h.mono s) (e4 G' S2' t' o' v' s q)
theorem Slots.put (h : Slots K G Γ S env σ) : ∀ {i : Nat}, i < env.length → ∃ S1 S2 S3, S = S1 ++ (S2 ++ S3) ∧
    ∀ (G' : Hp) (S2' : List (Addr × HO)) (t' : OT) (o' : Option D) (v' : Option V), Same G G' → ((o' = none ∧ S2' = []) ∨ ∃ d' v'', o' = some d' ∧ v' = some v'' ∧ Own K G' t' S2' v'' d') → Slots K G' (Γ.set i t') (S1 ++ (S2' ++ S3)) (env.set i o') (σ.set i v') := by
  induction h with
  | nil => intro i hi; simp at hi
  | @no t0 Γ S env o σ h ih =>
    intro i hi
    cases i with
    | zero =>
      refine ⟨[], [], S, rfl, fun G' S2' t' o' v' s q => ?_⟩
      rw [List.set_cons_zero, List.set_cons_zero, List.set_cons_zero]
      rcases q with ⟨rfl, rfl⟩ | ⟨d', v'', rfl, rfl, q⟩
      · exact .no (h.mono s)
      · exact (Slots.yes (S := S) q (h.mono s))
    | succ i =>
      obtain ⟨S1, S2, S3, e2, e4⟩ := ih (i := i) (by simpa using hi)
      refine ⟨S1, S2, S3, e2, fun G' S2' t' o' v' s q => ?_⟩
      rw [List.set_cons_succ, List.set_cons_succ, List.set_cons_succ]
      exact .no (e4 G' S2' t' o' v' s q)
  | @yes t0 Γ S1 S env d0 v0 σ h hs ih =>
    intro i hi
    cases i with
    | zero =>
      refine ⟨[], S1, S, rfl, fun G' S2' t' o' v' s q => ?_⟩
      rw [List.set_cons_zero, List.set_cons_zero, List.set_cons_zero]
      rcases q with ⟨rfl, rfl⟩ | ⟨d', v'', rfl, rfl, q⟩
      · exact .no (hs.mono s)
      · exact (Slots.yes (S := S) q (hs.mono s))
    | succ i =>
      obtain ⟨T1, T2, T3, e2, e4⟩ := ih (i := i) (by simpa using hi)
      refine ⟨S1 ++ T1, T2, T3, by rw [e2, List.append_assoc], fun G' S2' t' o' v' s q => ?_⟩
      rw [List.set_cons_succ, List.set_cons_succ, List.set_cons_succ, List.append_assoc]
      exact .yes (h.mono s) (e4 G' S2' t' o' v' s q)
end
abbrev Sto := Addr → Option D
def emp : Sto := fun _ => none
def sput (s : Sto) (a : Addr) (d : D) : Sto := fun b => if b = a then some d else s b
theorem sput_same {s : Sto} {a : Addr} {d : D} : sput s a d a = some d := if_pos rfl
theorem sput_ne {s : Sto} {a b : Addr} {d : D} (h : b ≠ a) : sput s a d b = s b := if_neg h
abbrev Mst := Option (Addr × Nat) × Sto
def AmbD : Option (Addr × Nat) → List (Addr × HO) → Prop
  | none, C => C = []
  | some (a, m), C => ∃ (c : Addr) (t : Int) (ns : List Int), C = [(a, stD c t), (c, .lst (ns.map V.int))] ∧ 0 < ns.length ∧ 0 ≤ t ∧ t + m ≤ 2 ^ 50
def Cell (K : PySem.W.Frag) (G : Hp) (a : Addr) : D → List (Addr × HO) → Prop
  | .lst ds, C => ∃ vs, C = [(a, .lst vs)] ∧ DdAll K G vs ds
  | .dic kds, C => ∃ kvs, C = [(a, .dK kvs)] ∧ kvs.map Prod.fst = kds.map Prod.fst ∧ DdAll K G (kvs.map Prod.snd) (kds.map Prod.snd)
  | .obj Cl gs, C => ∃ dx fs, C = [(a, .ins Cl dx fs), (dx, .own a)] ∧ fs.map Prod.fst = gs.map Prod.fst ∧ DdAll K G (fs.map Prod.snd) (gs.map Prod.snd)
  | .dcl w kds, C => ∃ kvs, C = [(a, DL w a kvs)] ∧ kvs.map Prod.fst = kds.map Prod.fst ∧ DdAll K G (kvs.map Prod.snd) (kds.map Prod.snd)
  | .lck u kds, C => C = [(a, .frz u.1 (.dK u.2))] ∧ u.2.map Prod.fst = kds.map Prod.fst ∧ DdAll K G (u.2.map Prod.snd) (kds.map Prod.snd)
  | .dct w kds, C => ∃ kvs, C = [(a, DT w a kvs)] ∧ (kvs.map fun p => p.1.1) = kds.map Prod.fst ∧ (∀ p ∈ kvs, G p.1.2 = some (.tup (p.1.1.map lfV))) ∧ DdAll K G (kvs.map Prod.snd) (kds.map Prod.snd)
  | _, _ => False
inductive Cells (K : PySem.W.Frag) (G : Hp) : List (Addr × D) → List (Addr × HO) → Prop
  | nil : Cells K G [] []
  | cons {a : Addr} {d : D} {L : List (Addr × D)} {C1 C2 : List (Addr × HO)} : Cell K G a d C1 → Cells K G L C2 → Cells K G ((a, d) :: L) (C1 ++ C2)
def StoC (K : PySem.W.Frag) (G : Hp) (s : Sto) (C : List (Addr × HO)) : Prop := ∃ L : List (Addr × D), (∀ a, s a = L.lookup a) ∧ Cells K G L C
def Amb (K : PySem.W.Frag) (G : Hp) (m : Mst) (C : List (Addr × HO)) : Prop := ∃ C1 C2, C = C1 ++ C2 ∧ AmbD m.1 C1 ∧ StoC K G m.2 C2
theorem Cell.mono {K : PySem.W.Frag} {G G' : Hp} {a : Addr} {d : D} {C : List (Addr × HO)} (s : Same G G') (h : Cell K G a d C) : Cell K G' a d C := by
  cases d with
  | lst ds => obtain ⟨vs, e, q⟩ := h; exact ⟨vs, e, q.mono s⟩
  | dic ds => obtain ⟨vs, e, e2, q⟩ := h; exact ⟨vs, e, e2, q.mono s⟩
  | obj Cl ds => obtain ⟨dx, vs, e, e2, q⟩ := h; exact ⟨dx, vs, e, e2, q.mono s⟩
  | dcl w ds => obtain ⟨vs, e, e2, q⟩ := h; exact ⟨vs, e, e2, q.mono s⟩
  | lck u ds => obtain ⟨e, e2, q⟩ := h; exact ⟨e, e2, q.mono s⟩
  | dct w ds => obtain ⟨vs, e, e2, e3, q⟩ := h; exact ⟨vs, e, e2, fun p hp => s _ _ (e3 p hp), q.mono s⟩
  | _ => exact h.elim
theorem Cells.mono {K : PySem.W.Frag} {G G' : Hp} {L : List (Addr × D)} {C : List (Addr × HO)} (s : Same G G') (h : Cells K G L C) : Cells K G' L C := by
  induction h with
  | nil => exact .nil
  | cons h _ ih => exact .cons (h.mono s) ih
theorem Amb.mono {K : PySem.W.Frag} {G G' : Hp} {m : Mst} {C : List (Addr × HO)} (s : Same G G') (h : Amb K G m C) : Amb K G' m C := by
  obtain ⟨C1, C2, e, a, L, l, c⟩ := h
  exact ⟨C1, C2, e, a, L, l, c.mono s⟩
theorem Amb.none {K : PySem.W.Frag} {G : Hp} : Amb K G (none, emp) [] := ⟨[], [], rfl, rfl, [], fun _ => rfl, .nil⟩
theorem Cells.nil_of {K : PySem.W.Frag} {G : Hp} {L : List (Addr × D)} {C : List (Addr × HO)} (h : Cells K G L C) (e : ∀ a, L.lookup a = Option.none) : L = [] ∧ C = [] := by
  cases h with
  | nil => exact ⟨rfl, rfl⟩
  | @cons a d L C1 C2 _ _ =>
    have q := e a
    rw [List.lookup_cons, beq_self_eq_true] at q
    cases q
theorem Amb.none_inv {K : PySem.W.Frag} {G : Hp} {C : List (Addr × HO)} (h : Amb K G (Option.none, emp) C) : C = [] := by
  obtain ⟨C1, C2, rfl, a, L, l, c⟩ := h
  obtain rfl : C1 = [] := a
  exact (c.nil_of fun a => (l a).symm).2
structure JC where
  K : PySem.W.Frag
  R : List (Addr × HO)
  G0 : Hp
def Stx (c : JC) (Γ : List OT) (G H : Hp) (S1 S : List (Addr × HO)) (env : Env) (σ : L2.St) (m : Mst) : Prop :=
  Same c.G0 G ∧ ∃ C, Wd (S1 ++ (S ++ (C ++ c.R))) G H ∧ Amb c.K G m C ∧ Slots c.K G Γ S env σ
abbrev Stt (c : JC) (Γ : List OT) (G H : Hp) (S : List (Addr × HO)) (env : Env) (σ : L2.St) (m : Mst) : Prop := Stx c Γ G H [] S env σ m
section
variable {c : JC} {Γ : List OT} {G G' H H' : Hp} {S S1 S2 R : List (Addr × HO)} {env : Env} {σ : L2.St} {m : Mst} {t : OT} {d : D} {p : Addr} {o : HO}
theorem Wd.dropL {A B : List (Addr × HO)} (w : Wd (A ++ B) G H) : Wd B G H := ⟨w.1, fun y hy => w.2.1 y (List.mem_append_right _ hy), by
  have h := w.2.2
  rw [List.map_append] at h
  exact (List.nodup_append.mp h).2.1⟩
theorem Wd.dropM {A B C : List (Addr × HO)} (w : Wd (A ++ (B ++ C)) G H) : Wd (A ++ C) G H :=
  (w.perm (B := B ++ (A ++ C)) (by rw [← List.append_assoc, ← List.append_assoc]; exact List.Perm.append_right _ List.perm_append_comm)).dropL
theorem Stx.drop (h : Stx c Γ G H S1 S env σ m) : Stt c Γ G H S env σ m := by
  obtain ⟨s, C, w, a, z⟩ := h
  exact ⟨s, C, w.dropL, a, z⟩
theorem Stx.v (h : Stx c Γ G H S1 S env σ m) : Same G H := by
  obtain ⟨s, C, w, a, z⟩ := h
  exact w.v
theorem Stx.len (h : Stx c Γ G H S1 S env σ m) : σ.length = env.length ∧ Γ.length = env.length := by
  obtain ⟨s, C, w, a, z⟩ := h
  exact z.len
theorem Stx.new (h : Stx c Γ G H S1 S env σ m) (hp : H p = none) : Stx c Γ G (upd H p o) ((p, o) :: S1) S env σ m := by
  obtain ⟨s, C, w, a, z⟩ := h
  exact ⟨s, C, w.own hp, a, z⟩
theorem Stx.newS (h : Stx c Γ G H S1 S env σ m) (hp : H p = none) : Stx c Γ (upd G p o) (upd H p o) S1 S env σ m ∧ Same G (upd G p o) := by
  obtain ⟨s, C, w, a, z⟩ := h
  have g := Grow.new (o := o) w.v hp
  exact ⟨⟨s.trans g.gg, C, w.grow g, a.mono g.gg, z.mono g.gg⟩, g.gg⟩
theorem Stx.freeze {v : V} (h : Stx c Γ G H (S2 ++ S1) S env σ m) (q : Own c.K G t S2 v d) : ∃ G', Same G G' ∧ Stx c Γ G' H S1 S env σ m ∧ Dd c.K G' v d := by
  obtain ⟨s, C, w, a, z⟩ := h
  rw [List.append_assoc] at w
  obtain ⟨G', s', w', q'⟩ := q.freeze w
  exact ⟨G', s', ⟨s.trans s', C, w', a.mono s', z.mono s'⟩, q'⟩
def leO : OT → OT → Bool
  | .O, _ => true
  | .F, .F => true
  | .F, .O => false
theorem Slots.weak {Ga : Hp} (h : Slots c.K Ga Γ S env σ) : ∀ {Γ' : List OT} {R : List (Addr × HO)} {G : Hp}, Same Ga G → Γ'.length = Γ.length → (Γ.zip Γ').all (fun p => leO p.1 p.2) = true → Wd (S ++ R) G H → ∃ G' S', Same G G' ∧ Wd (S' ++ R) G' H ∧ Slots c.K G' Γ' S' env σ := by
  induction h with
  | nil =>
    intro Γ' R G s hl hz w
    cases Γ' with
    | nil => exact ⟨G, [], Same.refl G, w, .nil⟩
    | cons _ _ => simp at hl
  | @no t0 Γ S env o σ h ih =>
    intro Γ' R G s hl hz w
    cases Γ' with
    | nil => simp at hl
    | cons t' Γ' =>
      rw [List.zip_cons_cons, List.all_cons, Bool.and_eq_true] at hz
      obtain ⟨G', S', s, w', q⟩ := ih s (by simpa using hl) hz.2 w
      exact ⟨G', S', s, w', .no q⟩
  | @yes t0 Γ S1 S env d0 v0 σ h hs ih =>
    intro Γ' R G s hl hz w
    cases Γ' with
    | nil => simp at hl
    | cons t' Γ' =>
      rw [List.zip_cons_cons, List.all_cons, Bool.and_eq_true] at hz
      rw [List.append_assoc] at w
      by_cases e : t0 = t'
      · subst e
        have w2 : Wd (S ++ (S1 ++ R)) G H := w.perm (by rw [← List.append_assoc, ← List.append_assoc]; exact List.Perm.append_right _ List.perm_append_comm)
        obtain ⟨G', S', s', w', q⟩ := ih s (by simpa using hl) hz.2 w2
        exact ⟨G', S1 ++ S', s', w'.perm (by rw [← List.append_assoc]; exact List.Perm.append_right _ List.perm_append_comm), .yes (h.mono (s.trans s')) q⟩
      · have et : t' = .F := by
          cases t0 <;> cases t' <;> first | rfl | exact absurd rfl e | cases hz.1
        subst et
        obtain ⟨G1, s1, w1, q1⟩ := (h.mono s).freeze w
        obtain ⟨G', S', s', w', q⟩ := ih (s.trans s1) (by simpa using hl) hz.2 w1
        exact ⟨G', S', s1.trans s', w', .yes (S1 := []) ⟨rfl, q1.mono s'⟩ q⟩
end
end Ps
namespace Ps
open PySem PySem.Spec PyProof.Rows L2
abbrev VE := Env → Mst → (D → Mst → Prop) → Prop
abbrev VT := Env → Mst → (Bool → Mst → Prop) → Prop
abbrev VA := Env → Mst → (List D → Mst → Prop) → Prop
structure VEnds where
  nx : Env → Mst → Prop
  rt : D → Mst → Prop
  bk : Env → Mst → Prop := fun _ _ => False
  ct : Env → Mst → Prop := fun _ _ => False
abbrev VS := VEnds → Env → Mst → Prop
abbrev XV := Addr → List (Str × D) → Mst → Prop
abbrev XW := Addr → List (Str × D) → Env → Mst → Prop
abbrev VSp := List D → Mst → (D → Mst → Prop) → XV → Prop
def ExcAt (K : PySem.W.Frag) (G : Hp) (d : Option Addr) (fs : List (Str × D)) : Prop :=
  (d = none ∧ fs = []) ∨ ∃ b xs, d = some b ∧ G b = some (.xd xs) ∧ xs.map Prod.fst = fs.map Prod.fst ∧ DdAll K G (xs.map Prod.snd) (fs.map Prod.snd)
def spV (K : PySem.W.Frag) (t : OT) (vsp : VSp) : Sp := fun vs H Q E => ∃ (ds : List D) (G : Hp) (R C : List (Addr × HO)) (m : Mst) (P : D → Mst → Prop) (X : XV), Wd (C ++ R) G H ∧ Amb K G m C ∧ DdAll K G vs ds ∧ vsp ds m P X ∧
  (∀ d m' v H' G' S1 C', P d m' → Same G G' → Wd (S1 ++ (C' ++ R)) G' H' → Amb K G' m' C' → Own K G' t S1 v d → Q v H') ∧
  ∀ c fs m' dd H' G' C', X c fs m' → Same G G' → Wd (C' ++ R) G' H' → Amb K G' m' C' → ExcAt K G' dd fs → E (.ref c) dd H'
section
variable (c : JC) (Γ : List OT)
def SF (te : TE) (ve : VE) : Prop := ∀ (T : List (Addr × HO)) (G H : Hp) (S : List (Addr × HO)) (env : Env) (σ : L2.St) (m : Mst) (P : D → Mst → Prop) (Q : VK), Stx c Γ G H T S env σ m → ve env m P →
  (∀ d m' v G' H', P d m' → Same G G' → Stx c Γ G' H' T S env σ m' → Dd c.K G' v d → Q v H') → te σ H Q
def SO (te : TE) (ve : VE) : Prop := ∀ (T : List (Addr × HO)) (G H : Hp) (S : List (Addr × HO)) (env : Env) (σ : L2.St) (m : Mst) (P : D → Mst → Prop) (Q : VK), Stx c Γ G H T S env σ m → ve env m P →
  (∀ d m' v G' H' S1, P d m' → Same G G' → Stx c Γ G' H' (S1 ++ T) S env σ m' → OwnTop c.K G' S1 v d → Q v H') → te σ H Q
def SB (te : TE) (ve : VE) : Prop := ∀ (T : List (Addr × HO)) (G H : Hp) (S : List (Addr × HO)) (env : Env) (σ : L2.St) (m : Mst) (P : D → Mst → Prop) (Q : VK), Stx c Γ G H T S env σ m → ve env m P →
  (∀ d m' v G' H' S1, P d m' → Same G G' → Stx c Γ G' H' (S1 ++ T) S env σ m' → (∃ t, Bo c.K G' (S1 ++ S) t v d) → Q v H') → te σ H Q
def ST (tt : TT) (vt : VT) : Prop := ∀ (T : List (Addr × HO)) (G H : Hp) (S : List (Addr × HO)) (env : Env) (σ : L2.St) (m : Mst) (P : Bool → Mst → Prop) (Q : Bool → Hp → Prop), Stx c Γ G H T S env σ m → vt env m P →
  (∀ b m' G' H' S1, P b m' → Same G G' → Stx c Γ G' H' (S1 ++ T) S env σ m' → Q b H') → tt σ H Q
inductive BoAll (K : PySem.W.Frag) (G : Hp) (S : List (Addr × HO)) : List V → List D → Prop
  | nil : BoAll K G S [] []
  | cons {v : V} {d : D} {vs : List V} {ds : List D} : (∃ t, Bo K G S t v d) → BoAll K G S vs ds → BoAll K G S (v :: vs) (d :: ds)
def SA (ta : TA) (va : VA) : Prop := ∀ (T : List (Addr × HO)) (G H : Hp) (S : List (Addr × HO)) (env : Env) (σ : L2.St) (m : Mst) (P : List D → Mst → Prop) (Q : List V → Hp → Prop), Stx c Γ G H T S env σ m → va env m P →
  (∀ ds m' vs G' H' S1, P ds m' → Same G G' → Stx c Γ G' H' (S1 ++ T) S env σ m' → BoAll c.K G' (S1 ++ S) vs ds → Q vs H') → ta σ H Q
def SG (ta : TA) (va : VA) : Prop := ∀ (T : List (Addr × HO)) (G H : Hp) (S : List (Addr × HO)) (env : Env) (σ : L2.St) (m : Mst) (P : List D → Mst → Prop) (Q : List V → Hp → Prop), Stx c Γ G H T S env σ m → va env m P →
  (∀ ds m' vs G' H', P ds m' → Same G G' → Stx c Γ G' H' T S env σ m' → DdAll c.K G' vs ds → Q vs H') → ta σ H Q
def ExOk (W : WX) (VW : XW) : Prop := ∀ (G H : Hp) (S : List (Addr × HO)) (env : Env) (σ : L2.St) (m : Mst) (C : Addr) (fs : List (Str × D)) (d : Option Addr), Stt c Γ G H S env σ m → ExcAt c.K G d fs → VW C fs env m → W (.ref C) d σ H
end
def vVar (i : Nat) : VE := fun env m P => ∃ d, env[i]? = some (some d) ∧ P d m
def vC (d : D) : VE := fun _ m P => P d m
def vNil : VA := fun _ m P => P [] m
def vCons (ve : VE) (va : VA) : VA := fun env m P => ve env m fun d m1 => va env m1 fun ds m2 => P (d :: ds) m2
def vOp (f : D → D → (D → Prop) → Prop) (va vb : VE) : VE := fun env m P => va env m fun x m1 => vb env m1 fun y m2 => f x y fun z => P z m2
def vCB (f : List D → (D → Prop) → Prop) (va : VA) : VE := fun env m P => va env m fun xs m1 => f xs fun z => P z m1
def vLst (va : VA) : VE := fun env m P => va env m fun xs m1 => xs.length ≤ sizeLine ∧ P (.lst xs) m1
def vTup (va : VA) : VE := fun env m P => va env m fun xs m1 => xs.length ≤ sizeLine ∧ P (.tup xs) m1
def vIfE (vt : VT) (va vb : VE) : VE := fun env m P => vt env m fun b m1 => if b = true then va env m1 P else vb env m1 P
def vTest (ve : VE) : VT := fun env m P => ve env m fun x m1 => ∃ b, x = .bl b ∧ P b m1
def truD : D → (Bool → Mst → Prop) → Mst → Prop
  | .non, P, m1 => P false m1
  | .bl b, P, m1 => P b m1
  | .int i, P, m1 => P (i != 0) m1
  | .str z, P, m1 => z.length ≤ sizeLine ∧ P ((z.length : Int) != 0) m1
  | .lst ds, P, m1 => P (!ds.isEmpty) m1
  | .tup ds, P, m1 => P (!ds.isEmpty) m1
  | _, _, _ => False
def vTru (ve : VE) : VT := fun env m P => ve env m fun x m1 => truD x P m1
def vAnd (a b : VT) : VT := fun env m P => a env m fun x m1 => if x = true then b env m1 P else P false m1
def vOr (a b : VT) : VT := fun env m P => a env m fun x m1 => if x = true then P true m1 else b env m1 P
def vNot (a : VT) : VT := fun env m P => a env m fun x m1 => P (!x) m1
def vYes : VT := fun _ m P => P true m
def vCall (vsp : VSp) (va : VA) : VE := fun env m P => va env m fun ds m1 => vsp ds m1 P fun _ _ _ => False
section
variable {c : JC} {Γ : List OT} {G G' H H' : Hp} {T S S1 S2 R : List (Addr × HO)} {env : Env} {σ : L2.St} {m : Mst} {t : OT} {v : V} {d : D} {p : Addr} {o : HO} {i : Nat}
theorem Stx.dropT (st : Stx c Γ G H (S1 ++ T) S env σ m) : Stx c Γ G H T S env σ m := by
  obtain ⟨s, C, w, a, z⟩ := st
  exact ⟨s, C, by rw [List.append_assoc] at w; exact w.dropL, a, z⟩
theorem bo_sub {K : PySem.W.Frag} {A B : List (Addr × HO)} (s : Same G G') (hs : ∀ x ∈ A, x ∈ B) (h : ∃ t, Bo K G A t v d) : ∃ t, Bo K G' B t v d := h.elim fun t h => ⟨t, h.mono s hs⟩
theorem bo_tp (h : Stx c Γ G H T S env σ m) (b : ∃ t, Bo c.K G (T ++ S) t v d) : Tp c.K G H v d := by
  obtain ⟨s, C, w, a, z⟩ := h
  obtain ⟨t, b⟩ := b
  rw [← List.append_assoc] at w
  exact b.tp w
theorem BoAll.mono {K : PySem.W.Frag} {A B : List (Addr × HO)} (s : Same G G') (hs : ∀ x ∈ A, x ∈ B) {vs : List V} {ds : List D} (h : BoAll K G A vs ds) : BoAll K G' B vs ds := by
  induction h with
  | nil => exact .nil
  | cons h _ ih => exact .cons (bo_sub s hs h) ih
inductive TpAll (K : PySem.W.Frag) (G H : Hp) : List V → List D → Prop
  | nil : TpAll K G H [] []
  | cons {v : V} {d : D} {vs : List V} {ds : List D} : Tp K G H v d → TpAll K G H vs ds → TpAll K G H (v :: vs) (d :: ds)
theorem BoAll.tp (h : Stx c Γ G H T S env σ m) {vs : List V} {ds : List D} (b : BoAll c.K G (T ++ S) vs ds) : TpAll c.K G H vs ds := by
  induction b with
  | nil => exact .nil
  | cons b _ ih => exact .cons (bo_tp h b) ih
theorem SO.f {te : TE} {ve : VE} (h : SO c Γ te ve) : SF c Γ te ve := fun T G H S env σ m P Q st hv k =>
  h T G H S env σ m P Q st hv fun d m' v G' H' S1 p s st' q => by
    obtain ⟨G2, s2, st2, q2⟩ := Stx.freeze (t := .O) st' q
    exact k d m' v G2 H' p (s.trans s2) st2 q2
theorem SF.b {te : TE} {ve : VE} (h : SF c Γ te ve) : SB c Γ te ve := fun T G H S env σ m P Q st hv k =>
  h T G H S env σ m P Q st hv fun d m' v G' H' p s st' q => k d m' v G' H' [] p s st' ⟨.F, [], fun _ h => absurd h (by simp), rfl, q⟩
theorem SO.b {te : TE} {ve : VE} (h : SO c Γ te ve) : SB c Γ te ve := fun T G H S env σ m P Q st hv k =>
  h T G H S env σ m P Q st hv fun d m' v G' H' S1 p s st' q => k d m' v G' H' S1 p s st' ⟨.O, S1, fun _ h => List.mem_append_left _ h, q⟩
theorem s_varF (hi : Γ[i]? = some .F) : SF c Γ (tVar i) (vVar i) := fun T G H S env σ m P Q st hv k => by
  obtain ⟨d, e, p⟩ := hv
  obtain ⟨s, C, w, a, z⟩ := id st
  obtain ⟨v, A1, A2, A3, e1, e2, e3, e4⟩ := z.at e hi
  exact ⟨v, e1, k d m v G H p (Same.refl G) st e3.2⟩
theorem s_varB {t : OT} (hi : Γ[i]? = some t) : SB c Γ (tVar i) (vVar i) := fun T G H S env σ m P Q st hv k => by
  obtain ⟨d, e, p⟩ := hv
  obtain ⟨s, C, w, a, z⟩ := id st
  obtain ⟨v, A1, A2, A3, e1, e2, e3, e4⟩ := z.at e hi
  exact ⟨v, e1, k d m v G H [] p (Same.refl G) st ⟨t, A2, fun x hx => by
    rw [e2, List.nil_append]; exact List.mem_append_right _ (List.mem_append_left _ hx), e3⟩⟩
theorem s_non : SO c Γ (tC .non) (vC .non) := fun T G H S env σ m P Q st hv k => k .non m .non G H [] hv (Same.refl G) st ⟨rfl, .non⟩
theorem s_bl {b : Bool} : SO c Γ (tC (.bl b)) (vC (.bl b)) := fun T G H S env σ m P Q st hv k => k _ m _ G H [] hv (Same.refl G) st ⟨rfl, .bl b⟩
theorem s_int {b : Int} : SO c Γ (tC (.int b)) (vC (.int b)) := fun T G H S env σ m P Q st hv k => k _ m _ G H [] hv (Same.refl G) st ⟨rfl, .int b⟩
theorem s_str {b : Str} : SO c Γ (tC (.str b)) (vC (.str b)) := fun T G H S env σ m P Q st hv k => k _ m _ G H [] hv (Same.refl G) st ⟨rfl, .str b⟩
theorem a_nil : SA c Γ tNil vNil := fun T G H S env σ m P Q st hv k => k [] m [] G H [] hv (Same.refl G) st .nil
theorem a_cons {te : TE} {ve : VE} {ta : TA} {va : VA} (h : SB c Γ te ve) (t : SA c Γ ta va) : SA c Γ (tCons te ta) (vCons ve va) := fun T G H S env σ m P Q st hv k =>
  h T G H S env σ m _ _ st hv fun d m1 v G1 H1 S1 p1 s1 st1 b1 => t (S1 ++ T) G1 H1 S env σ m1 _ _ st1 p1 fun ds m2 vs G2 H2 S2 p2 s2 st2 b2 =>
    k (d :: ds) m2 (v :: vs) G2 H2 (S2 ++ S1) p2 (s1.trans s2) (by rw [List.append_assoc]; exact st2)
      (.cons (bo_sub s2 (fun x hx => by rcases List.mem_append.mp hx with q | q <;> simp [q]) b1) (b2.mono (Same.refl _) fun x hx => by rcases List.mem_append.mp hx with q | q <;> simp [q]))
theorem g_nil : SG c Γ tNil vNil := fun T G H S env σ m P Q st hv k => k [] m [] G H hv (Same.refl G) st .nil
theorem g_cons {te : TE} {ve : VE} {ta : TA} {va : VA} (h : SF c Γ te ve) (t : SG c Γ ta va) : SG c Γ (tCons te ta) (vCons ve va) := fun T G H S env σ m P Q st hv k =>
  h T G H S env σ m _ _ st hv fun d m1 v G1 H1 p1 s1 st1 b1 => t T G1 H1 S env σ m1 _ _ st1 p1 fun ds m2 vs G2 H2 p2 s2 st2 b2 =>
    k (d :: ds) m2 (v :: vs) G2 H2 p2 (s1.trans s2) st2 (.cons (b1.mono s2) b2)
def D.im : D → Bool
  | .lst _ | .dic _ => false
  | _ => true
theorem ownTop_im {K : PySem.W.Frag} (h : Dd K G v d) (e : d.im = true) : OwnTop K G [] v d := by
  cases d <;> first | exact ⟨rfl, h⟩ | cases e
inductive Nw (K : PySem.W.Frag) (G H : Hp) : V → Hp → D → Prop
  | old {v : V} {d : D} : Dd K G v d → d.im = true → Nw K G H v H d
  | lst {p : Addr} {vs : List V} {ds : List D} : H p = none → DdAll K G vs ds → Nw K G H (.ref p) (upd H p (.lst vs)) (.lst ds)
  | tup {p : Addr} {vs : List V} {ds : List D} : H p = none → DdAll K G vs ds → Nw K G H (.ref p) (upd H p (.tup vs)) (.tup ds)
  | dic {p : Addr} {kvs : List (Key × V)} {kds : List (Key × D)} : H p = none → kvs.map Prod.fst = kds.map Prod.fst → DdAll K G (kvs.map Prod.snd) (kds.map Prod.snd) → Nw K G H (.ref p) (upd H p (.dK kvs)) (.dic kds)
theorem Nw.own (st : Stx c Γ G H T S env σ m) (n : Nw c.K G H v H' d) : ∃ G' S1, Same G G' ∧ Stx c Γ G' H' (S1 ++ T) S env σ m ∧ OwnTop c.K G' S1 v d := by
  cases n with
  | old h e => exact ⟨G, [], Same.refl G, st, ownTop_im h e⟩
  | lst hp h => exact ⟨G, [(_, _)], Same.refl G, st.new hp, _, _, rfl, rfl, h⟩
  | tup hp h =>
    obtain ⟨st', s⟩ := st.newS hp
    exact ⟨_, [], s, st', rfl, .tup (.inl upd_same) (h.mono s)⟩
  | dic hp e h => exact ⟨G, [(_, _)], Same.refl G, st.new hp, _, _, rfl, rfl, e, h⟩
theorem Stx.ext (st : Stx c Γ G H T S env σ m) {S1 : List (Addr × HO)} {G' H' : Hp} (st' : Stx c Γ G' H' (S1 ++ T) S env σ m) : Stx c Γ G' H' (S1 ++ T) S env σ m := st'
def OpV (K : PySem.W.Frag) (r : R2) (f : D → D → (D → Prop) → Prop) : Prop := ∀ (G H : Hp) (x y : V) (d e : D) (P : D → Prop) (Q : VK), Same G H → Tp K G H x d → Tp K G H y e → f d e P → (∀ z v H', P z → Nw K G H v H' z → Q v H') → r x y H Q
def OpF (K : PySem.W.Frag) (r : R2) (f : D → D → (D → Prop) → Prop) : Prop := ∀ (G H : Hp) (x y : V) (d e : D) (P : D → Prop) (Q : VK), Same G H → Tp K G H x d → Tp K G H y e → f d e P → (∀ z v, P z → Dd K G v z → Q v H) → r x y H Q
def ClV (K : PySem.W.Frag) (r : List V → Hp → VK → Prop) (f : List D → (D → Prop) → Prop) : Prop := ∀ (G H : Hp) (xs : List V) (ds : List D) (P : D → Prop) (Q : VK), Same G H → TpAll K G H xs ds → f ds P → (∀ z v H', P z → Nw K G H v H' z → Q v H') → r xs H Q
theorem s_op {r : R2} {f : D → D → (D → Prop) → Prop} {ta tb : TE} {va vb : VE} (o : OpV c.K r f) (ha : SB c Γ ta va) (hb : SB c Γ tb vb) : SO c Γ (tOp r ta tb) (vOp f va vb) := fun T G H S env σ m P Q st hv k =>
  ha T G H S env σ m _ _ st hv fun x m1 v G1 H1 S1 p1 s1 st1 b1 => hb (S1 ++ T) G1 H1 S env σ m1 _ _ st1 p1 fun y m2 u G2 H2 S2 p2 s2 st2 b2 => by
    have t1 := bo_tp (T := S2 ++ (S1 ++ T)) st2 (bo_sub s2 (B := S2 ++ (S1 ++ T) ++ S) (fun x hx => by rcases List.mem_append.mp hx with q | q <;> simp [q]) b1)
    have t2 := bo_tp (T := S2 ++ (S1 ++ T)) st2 (bo_sub (Same.refl _) (B := S2 ++ (S1 ++ T) ++ S) (fun x hx => by rcases List.mem_append.mp hx with q | q <;> simp [q]) b2)
    refine o G2 H2 v u x y _ _ st2.v t1 t2 p2 fun z w H' pz n => ?_
    obtain ⟨G3, S3, s3, st3, q3⟩ := Nw.own (T := T) (by
      exact st2.dropT.dropT) n
    exact k z m2 w G3 H' S3 pz (s1.trans (s2.trans s3)) st3 q3
theorem s_opF {r : R2} {f : D → D → (D → Prop) → Prop} {ta tb : TE} {va vb : VE} (o : OpF c.K r f) (ha : SB c Γ ta va) (hb : SB c Γ tb vb) : SF c Γ (tOp r ta tb) (vOp f va vb) := fun T G H S env σ m P Q st hv k =>
  ha T G H S env σ m _ _ st hv fun x m1 v G1 H1 S1 p1 s1 st1 b1 => hb (S1 ++ T) G1 H1 S env σ m1 _ _ st1 p1 fun y m2 u G2 H2 S2 p2 s2 st2 b2 => by
    have t1 := bo_tp (T := S2 ++ (S1 ++ T)) st2 (bo_sub s2 (B := S2 ++ (S1 ++ T) ++ S) (fun x hx => by rcases List.mem_append.mp hx with q | q <;> simp [q]) b1)
    have t2 := bo_tp (T := S2 ++ (S1 ++ T)) st2 (bo_sub (Same.refl _) (B := S2 ++ (S1 ++ T) ++ S) (fun x hx => by rcases List.mem_append.mp hx with q | q <;> simp [q]) b2)
    refine o G2 H2 v u x y _ _ st2.v t1 t2 p2 fun z w pz n => ?_
    exact k z m2 w G2 H2 pz (s1.trans s2) st2.dropT.dropT n
theorem s_cb {r : List V → Hp → VK → Prop} {f : List D → (D → Prop) → Prop} {ta : TA} {va : VA} (o : ClV c.K r f) (ha : SA c Γ ta va) : SO c Γ (tCB r ta) (vCB f va) := fun T G H S env σ m P Q st hv k =>
  ha T G H S env σ m _ _ st hv fun x m1 v G1 H1 S1 p1 s1 st1 b1 => by
    have t1 := BoAll.tp (T := S1 ++ T) st1 (b1.mono (Same.refl _) (B := S1 ++ T ++ S) (fun x hx => by rcases List.mem_append.mp hx with q | q <;> simp [q]))
    refine o G1 H1 v x _ _ st1.v t1 p1 fun z w H' pz n => ?_
    obtain ⟨G3, S3, s3, st3, q3⟩ := Nw.own (T := T) (by
      obtain ⟨s, C, w, a, z⟩ := st1
      exact ⟨s, C, by rw [List.append_assoc] at w; exact w.dropL, a, z⟩) n
    exact k z m1 w G3 H' S3 pz (s1.trans s3) st3 q3
theorem s_lst {ta : TA} {va : VA} (ha : SG c Γ ta va) : SO c Γ (tLst ta) (vLst va) := fun T G H S env σ m P Q st hv k =>
  ha T G H S env σ m _ _ st hv fun ds m1 vs G1 H1 p1 s1 st1 b1 => ⟨by rw [b1.len]; exact p1.1, fun p hp => by
    obtain ⟨G3, S3, s3, st3, q3⟩ := Nw.own st1 (.lst hp b1)
    exact k _ m1 _ G3 _ S3 p1.2 (s1.trans s3) st3 q3⟩
theorem s_tup {ta : TA} {va : VA} (ha : SG c Γ ta va) : SO c Γ (tTup ta) (vTup va) := fun T G H S env σ m P Q st hv k =>
  ha T G H S env σ m _ _ st hv fun ds m1 vs G1 H1 p1 s1 st1 b1 => ⟨by rw [b1.len]; exact p1.1, fun p hp => by
    obtain ⟨G3, S3, s3, st3, q3⟩ := Nw.own st1 (.tup hp b1)
    exact k _ m1 _ G3 _ S3 p1.2 (s1.trans s3) st3 q3⟩
theorem Dd.blInv {K : PySem.W.Frag} {b : Bool} (h : Dd K G v (.bl b)) : v = .bl b := by cases h; rfl
theorem Tp.blInv {K : PySem.W.Frag} {b : Bool} (h : Tp K G H v (.bl b)) : v = .bl b := by cases h with | dd h => exact h.blInv
theorem s_test {ta : TE} {va : VE} (ha : SB c Γ ta va) : ST c Γ (tTest ta) (vTest va) := fun T G H S env σ m P Q st hv k =>
  ha T G H S env σ m _ _ st hv fun x m1 v G1 H1 S1 p1 s1 st1 b1 => by
    obtain ⟨b, rfl, p⟩ := p1
    have t1 := bo_tp (T := S1 ++ T) st1 (bo_sub (Same.refl _) (B := S1 ++ T ++ S) (fun x hx => by rcases List.mem_append.mp hx with q | q <;> simp [q]) b1)
    exact ⟨b, t1.blInv, k b m1 G1 H1 S1 p s1 st1⟩
theorem s_and {a b : TT} {x y : VT} (ha : ST c Γ a x) (hb : ST c Γ b y) : ST c Γ (tAnd a b) (vAnd x y) := fun T G H S env σ m P Q st hv k =>
  ha T G H S env σ m _ _ st hv fun z m1 G1 H1 S1 p1 s1 st1 => by
    cases z with
    | true =>
      rw [if_pos rfl] at p1 ⊢
      exact hb (S1 ++ T) G1 H1 S env σ m1 _ _ st1 p1 fun b m2 G2 H2 S2 p2 s2 st2 => k b m2 G2 H2 (S2 ++ S1) p2 (s1.trans s2) (by rw [List.append_assoc]; exact st2)
    | false =>
      rw [if_neg Bool.false_ne_true] at p1 ⊢
      exact k _ m1 G1 H1 S1 p1 s1 st1
theorem s_or {a b : TT} {x y : VT} (ha : ST c Γ a x) (hb : ST c Γ b y) : ST c Γ (tOr a b) (vOr x y) := fun T G H S env σ m P Q st hv k =>
  ha T G H S env σ m _ _ st hv fun z m1 G1 H1 S1 p1 s1 st1 => by
    cases z with
    | true =>
      rw [if_pos rfl] at p1 ⊢
      exact k _ m1 G1 H1 S1 p1 s1 st1
    | false =>
      rw [if_neg Bool.false_ne_true] at p1 ⊢
      exact hb (S1 ++ T) G1 H1 S env σ m1 _ _ st1 p1 fun b m2 G2 H2 S2 p2 s2 st2 => k b m2 G2 H2 (S2 ++ S1) p2 (s1.trans s2) (by rw [List.append_assoc]; exact st2)
theorem s_not {a : TT} {x : VT} (ha : ST c Γ a x) : ST c Γ (tNot a) (vNot x) := fun T G H S env σ m P Q st hv k =>
  ha T G H S env σ m _ _ st hv fun z m1 G1 H1 S1 p1 s1 st1 => k (!z) m1 G1 H1 S1 p1 s1 st1
theorem s_yes : ST c Γ tYes vYes := fun T G H S env σ m P Q st hv k => k true m G H [] hv (Same.refl G) st
theorem s_tru {ta : TE} {va : VE} (ha : SB c Γ ta va) : ST c Γ (tTru c.K ta) (vTru va) := fun T G H S env σ m P Q st hv k =>
  ha T G H S env σ m _ _ st hv fun x m1 v G1 H1 S1 p1 s1 st1 b1 => by
    have t1 := bo_tp (T := S1 ++ T) st1 (bo_sub (Same.refl _) (B := S1 ++ T ++ S) (fun x hx => by rcases List.mem_append.mp hx with q | q <;> simp [q]) b1)
    have sv := st1.v
    have em : ∀ {vs : List V} {ds : List D} {G : Hp}, DdAll c.K G vs ds → vs.isEmpty = ds.isEmpty := fun h => by cases h <;> rfl
    cases x with
    | non => cases t1 with | dd h => cases h; exact ⟨false, rfl, k _ m1 G1 H1 S1 p1 s1 st1⟩
    | bl b => cases t1 with | dd h => cases h; exact ⟨b, rfl, k _ m1 G1 H1 S1 p1 s1 st1⟩
    | int b => cases t1 with | dd h => cases h; exact ⟨_, rfl, k _ m1 G1 H1 S1 p1 s1 st1⟩
    | str b => cases t1 with | dd h => cases h; exact ⟨_, ⟨p1.1, rfl⟩, k _ m1 G1 H1 S1 p1.2 s1 st1⟩
    | lst ds =>
      obtain ⟨a, vs, rfl, h1, h2⟩ := t1.l sv
      exact ⟨_, .inl ⟨vs, SqL.of h1, rfl⟩, by rw [em h2]; exact k _ m1 G1 H1 S1 p1 s1 st1⟩
    | tup ds =>
      obtain ⟨a, vs, rfl, _, h1, h2⟩ := t1.t sv
      exact ⟨_, .inr (.inl ⟨vs, h1, rfl⟩), by rw [em h2]; exact k _ m1 G1 H1 S1 p1 s1 st1⟩
    | _ => exact p1.elim
end
end Ps
namespace Ps
open PySem PySem.Spec PyProof.Rows L2
abbrev VO := Env → Mst → (Option Int → Mst → Prop) → Prop
def vNoPart : VO := fun _ m P => P none m
def vPart (ve : VE) : VO := fun env m P => ve env m fun x m1 => ∃ i, x = .int i ∧ P (some i) m1
def vSl (f : D → Option Int → Option Int → (D → Prop) → Prop) (ve : VE) (vl vh : VO) : VE := fun env m P => ve env m fun x m1 => vl env m1 fun l m2 => vh env m2 fun h m3 => f x l h fun z => P z m3
def isTy : String → D → Bool
  | "str", .str _ => true
  | "list", .lst _ => true
  | _, _ => false
section
variable {c : JC} {Γ : List OT} {G G' H H' : Hp} {T S S1 S2 R : List (Addr × HO)} {env : Env} {σ : L2.St} {m : Mst} {v : V} {d : D}
theorem SB.tp {te : TE} {ve : VE} (h : SB c Γ te ve) {P : D → Mst → Prop} {Q : VK} (st : Stx c Γ G H T S env σ m) (hv : ve env m P)
    (k : ∀ d m' v G' H' S1, P d m' → Same G G' → Stx c Γ G' H' (S1 ++ T) S env σ m' → Tp c.K G' H' v d → Q v H') : te σ H Q :=
  h T G H S env σ m _ _ st hv fun x m1 v G1 H1 S1 p1 s1 st1 b1 => k x m1 v G1 H1 S1 p1 s1 st1
    (bo_tp (T := S1 ++ T) st1 (bo_sub (Same.refl _) (B := S1 ++ T ++ S) (fun x hx => by rcases List.mem_append.mp hx with q | q <;> simp [q]) b1))
def SP (c : JC) (Γ : List OT) (tl : TO) (vl : VO) : Prop := ∀ (T : List (Addr × HO)) (G H : Hp) (S : List (Addr × HO)) (env : Env) (σ : L2.St) (m : Mst) (P : Option Int → Mst → Prop) (Q : Option Int → Hp → Prop), Stx c Γ G H T S env σ m → vl env m P →
  (∀ x m' G' H' S1, P x m' → Same G G' → Stx c Γ G' H' (S1 ++ T) S env σ m' → Q x H') → tl σ H Q
theorem s_nopart : SP c Γ tNoPart vNoPart := fun T G H S env σ m P Q st hv k => k none m G H [] hv (Same.refl G) st
theorem Tp.intInv {K : PySem.W.Frag} {i : Int} (h : Tp K G H v (.int i)) : v = .int i := by cases h with | dd h => cases h; rfl
theorem Tp.strInv {K : PySem.W.Frag} {i : Str} (h : Tp K G H v (.str i)) : v = .str i := by cases h with | dd h => cases h; rfl
theorem s_part {te : TE} {ve : VE} (he : SB c Γ te ve) : SP c Γ (tPart te) (vPart ve) := fun T G H S env σ m P Q st hv k =>
  he.tp st hv fun x m1 v G1 H1 S1 p1 s1 st1 t1 => by
    obtain ⟨i, rfl, p⟩ := p1
    exact ⟨i, t1.intInv, k _ m1 G1 H1 S1 p s1 st1⟩
def SlV (K : PySem.W.Frag) (r : V → Option Int → Option Int → Hp → VK → Prop) (f : D → Option Int → Option Int → (D → Prop) → Prop) : Prop :=
  ∀ (G H : Hp) (x : V) (d : D) (lo hi : Option Int) (P : D → Prop) (Q : VK), Same G H → Tp K G H x d → f d lo hi P → (∀ z v H', P z → Nw K G H v H' z → Q v H') → r x lo hi H Q
theorem s_sl {r : V → Option Int → Option Int → Hp → VK → Prop} {f : D → Option Int → Option Int → (D → Prop) → Prop} {te : TE} {ve : VE} {tl th : TO} {vl vh : VO} (o : SlV c.K r f) (he : SB c Γ te ve) (hl : SP c Γ tl vl) (hh : SP c Γ th vh) : SO c Γ (tSl r te tl th) (vSl f ve vl vh) := fun T G H S env σ m P Q st hv k =>
  he T G H S env σ m _ _ st hv fun x m1 v G1 H1 S1 p1 s1 st1 b1 => hl (S1 ++ T) G1 H1 S env σ m1 _ _ st1 p1 fun lo m2 G2 H2 S2 p2 s2 st2 => hh (S2 ++ (S1 ++ T)) G2 H2 S env σ m2 _ _ st2 p2 fun hi m3 G3 H3 S3 p3 s3 st3 => by
    have t1 := bo_tp (T := S3 ++ (S2 ++ (S1 ++ T))) st3 (bo_sub (s2.trans s3) (B := S3 ++ (S2 ++ (S1 ++ T)) ++ S) (fun x hx => by rcases List.mem_append.mp hx with q | q <;> simp [q]) b1)
    refine o G3 H3 v x lo hi _ _ st3.v t1 p3 fun z w H' pz n => ?_
    obtain ⟨G4, S4, s4, st4, q4⟩ := Nw.own (T := T) st3.dropT.dropT.dropT n
    exact k z m3 w G4 H' S4 pz (s1.trans (s2.trans (s3.trans s4))) st4 q4
theorem Wd.toC {A B C R : List (Addr × HO)} (w : Wd (A ++ (B ++ (C ++ R))) G H) : Wd (C ++ (A ++ (B ++ R))) G H := w.perm (by
  have h1 : (C ++ (A ++ (B ++ R))).Perm (A ++ (C ++ (B ++ R))) := List.perm_append_comm_assoc C A (B ++ R)
  have h2 : (C ++ (B ++ R)).Perm (B ++ (C ++ R)) := List.perm_append_comm_assoc C B R
  exact h1.trans (h2.append_left A))
theorem Wd.ofC {A B C R : List (Addr × HO)} (w : Wd (C ++ (A ++ (B ++ R))) G H) : Wd (A ++ (B ++ (C ++ R))) G H := w.perm (by
  have h1 : (C ++ (A ++ (B ++ R))).Perm (A ++ (C ++ (B ++ R))) := List.perm_append_comm_assoc C A (B ++ R)
  have h2 : (C ++ (B ++ R)).Perm (B ++ (C ++ R)) := List.perm_append_comm_assoc C B R
  exact (h1.trans (h2.append_left A)).symm)
theorem run_spV {t : OT} {vsp : VSp} {W : XK} {VX : XV} (st : Stx c Γ G H T S env σ m) {vs : List V} {ds : List D} (h : DdAll c.K G vs ds) {P : D → Mst → Prop} {Q : VK} (hv : vsp ds m P VX)
    (k : ∀ d m' v G' H' S1, P d m' → Same G G' → Stx c Γ G' H' (S1 ++ T) S env σ m' → Own c.K G' t S1 v d → Q v H')
    (kx : ∀ C fs m' dd G' H', VX C fs m' → Same G G' → Stx c Γ G' H' T S env σ m' → ExcAt c.K G' dd fs → W (.ref C) dd H') : spV c.K t vsp vs H Q W := by
  obtain ⟨s, C, w, a, z⟩ := st
  refine ⟨ds, G, T ++ (S ++ c.R), C, m, P, VX, w.toC, a, h, hv, fun d m' v H' G' S1 C' p s' w' a' o => ?_, fun cl fs m' dd H' G' C' p s' w' a' o => ?_⟩
  · refine k d m' v G' H' S1 p s' ⟨s.trans s', C', ?_, a', z.mono s'⟩ o
    rw [List.append_assoc]
    refine w'.perm (List.Perm.append_left S1 ?_)
    have h1 : (C' ++ (T ++ (S ++ c.R))).Perm (T ++ (C' ++ (S ++ c.R))) := List.perm_append_comm_assoc C' T (S ++ c.R)
    have h2 : (C' ++ (S ++ c.R)).Perm (S ++ (C' ++ c.R)) := List.perm_append_comm_assoc C' S c.R
    exact (h1.trans (h2.append_left T)).symm
  · exact kx cl fs m' dd G' H' p s' ⟨s.trans s', C', w'.ofC, a', z.mono s'⟩ o
theorem s_callF {vsp : VSp} {E : XK} {ta : TA} {va : VA} (ha : SG c Γ ta va) : SF c Γ (tCall (spV c.K .F vsp) [] E ta) (vCall vsp va) := fun T G H S env σ m P Q st hv k =>
  ha T G H S env σ m _ _ st hv fun ds m1 vs G1 H1 p1 s1 st1 b1 => by
    rw [List.append_nil]
    exact run_spV st1 b1 p1 (fun d m' v G' H' S1 p s st' o => by
      obtain ⟨rfl, o⟩ := o
      exact k d m' v G' H' p (s1.trans s) st' o) fun _ _ _ _ _ _ h => h.elim
theorem s_callO {vsp : VSp} {E : XK} {ta : TA} {va : VA} (ha : SG c Γ ta va) : SO c Γ (tCall (spV c.K .O vsp) [] E ta) (vCall vsp va) := fun T G H S env σ m P Q st hv k =>
  ha T G H S env σ m _ _ st hv fun ds m1 vs G1 H1 p1 s1 st1 b1 => by
    rw [List.append_nil]
    exact run_spV st1 b1 p1 (fun d m' v G' H' S1 p s st' o => k d m' v G' H' S1 p (s1.trans s) st' o) fun _ _ _ _ _ _ h => h.elim
noncomputable def allBut (H : Hp) (C : List (Addr × HO)) : Hp := fun a => open Classical in if a ∈ C.map Prod.fst then none else H a
theorem allBut_of {C : List (Addr × HO)} {a : Addr} (h : a ∉ C.map Prod.fst) : allBut H C a = H a := by unfold allBut; rw [if_neg h]
theorem allBut_in {C : List (Addr × HO)} {a : Addr} (h : a ∈ C.map Prod.fst) : allBut H C a = none := by unfold allBut; rw [if_pos h]
theorem allBut_le (C : List (Addr × HO)) : Same (allBut H C) H := fun a o e => by
  by_cases h : a ∈ C.map Prod.fst
  · rw [allBut_in h] at e; cases e
  · rw [allBut_of h] at e; exact e
theorem allBut_ge {C : List (Addr × HO)} (w : Wd C G H) : Same G (allBut H C) := fun a o e => by
  by_cases h : a ∈ C.map Prod.fst
  · obtain ⟨x, hx, rfl⟩ := List.mem_map.mp h
    rw [(w.2.1 x hx).2] at e; cases e
  · rw [allBut_of h]; exact w.1 _ _ e
theorem allBut_wd {C : List (Addr × HO)} (w : Wd C G H) : Wd C (allBut H C) H := ⟨allBut_le C, fun x hx => ⟨(w.2.1 x hx).1, allBut_in (List.mem_map.mpr ⟨x, hx, rfl⟩)⟩, w.2.2⟩
theorem wd_apart {A B : List (Addr × HO)} (w : Wd (A ++ B) G H) {x : Addr × HO} (hx : x ∈ A) : x.1 ∉ B.map Prod.fst := fun h => by
  have nd := w.2.2
  rw [List.map_append] at nd
  exact (List.nodup_append.mp nd).2.2 x.1 (List.mem_map.mpr ⟨x, hx, rfl⟩) x.1 h rfl
theorem Bo.all {A B : List (Addr × HO)} {t : OT} (w : Wd (A ++ B) G H) {K : PySem.W.Frag} (b : Bo K G A t v d) : Dd K (allBut H B) v d := by
  have hg : Same G (allBut H B) := allBut_ge w.dropL
  obtain ⟨S', h1, h2⟩ := b
  have hm : ∀ x ∈ S', allBut H B x.1 = some x.2 := fun x hx => by
    rw [allBut_of (wd_apart w (h1 x hx))]
    exact w.mem (List.mem_append_left _ (h1 x hx))
  cases t with
  | F => exact h2.2.mono hg
  | O =>
    cases d with
    | lst ds =>
      obtain ⟨a, vs, rfl, rfl, h⟩ := h2
      exact .lst (hm _ List.mem_cons_self) (h.mono hg)
    | dic kds =>
      obtain ⟨a, vs, rfl, rfl, e, h⟩ := h2
      exact .dic (.inl (hm _ List.mem_cons_self)) e rfl rfl rfl (h.mono hg)
    | _ => exact h2.2.mono hg
theorem BoAll.all {A B : List (Addr × HO)} (w : Wd (A ++ B) G H) {K : PySem.W.Frag} {vs : List V} {ds : List D} (b : BoAll K G A vs ds) : DdAll K (allBut H B) vs ds := by
  induction b with
  | nil => exact .nil
  | cons b _ ih => exact .cons (b.elim fun t b => b.all w) ih
inductive D.Im : D → Prop
  | non : D.Im .non
  | bl (b : Bool) : D.Im (.bl b)
  | int (i : Int) : D.Im (.int i)
  | str (s : Str) : D.Im (.str s)
  | ty (n : String) : D.Im (.ty n)
  | adr (a : Addr) : D.Im (.adr a)
  | tup {ds : List D} : (∀ d ∈ ds, D.Im d) → D.Im (.tup ds)
def D.Fr (d : D) : Prop := D.Im d ∨ ∃ ds, d = .lst ds ∧ ∀ x ∈ ds, D.Im x
theorem D.Im.of_sc {d : D} (e : d.sc = true) : D.Im d := by
  cases d <;> first | exact absurd e Bool.false_ne_true | constructor
inductive Chg : HO → Prop
  | lst (vs : List V) : Chg (.lst vs)
  | dK (kvs : List (Key × V)) : Chg (.dK kvs)
  | ins (C dx : Addr) (fs : List (Str × V)) : Chg (.ins C dx fs)
  | own (a : Addr) : Chg (.own a)
  | ext (φ : Heap → Prop) : Chg (.ext φ)
  | frz (o : Obj) (u : HO) : Chg (.frz o u)
def TupS (G G' : Hp) : Prop := ∀ a o, G a = some o → ¬ Chg o → G' a = some o
theorem TupS.tup (s : TupS G G') {a : Addr} {vs : List V} (h : G a = some (.tup vs)) : G' a = some (.tup vs) := s _ _ h (fun z => by cases z)
theorem TupS.xd (s : TupS G G') {a : Addr} {vs : List (Str × V)} (h : G a = some (.xd vs)) : G' a = some (.xd vs) := s _ _ h (fun z => by cases z)
mutual
theorem dd_im {K : PySem.W.Frag} (s : TupS G G') : ∀ {v : V} {d : D}, Dd K G v d → D.Im d → Dd K G' v d
  | _, _, .non, _ => .non
  | _, _, .bl b, _ => .bl b
  | _, _, .int i, _ => .int i
  | _, _, .str x, _ => .str x
  | _, _, .adr a, _ => .adr a
  | _, _, .ty n, _ => .ty n
  | _, _, .tup h a, e => .tup (h.elim (fun h => .inl (s.tup h)) .inr) (dd_ims s a (by cases e with | tup e => exact e))
  | _, _, .scr h, e => by cases e
  | _, _, .lst h a, e => by cases e
  | _, _, .dic h e1 e2 e3 e4 a, e => by cases e
  | _, _, .obj h1 h2 e1 e2 e3 e4 a, e => by cases e
  | _, _, .dcl h1 e1 e2 e3 e4 a, e => by cases e
  | _, _, .dct h1 e0 e1 e2 e3 e4 a, e => by cases e
  | _, _, .exc0 h1, e => by cases e
  | _, _, .exc1 h1 h2 e1 e2 e3 e4 a, e => by cases e
theorem dd_ims {K : PySem.W.Frag} (s : TupS G G') : ∀ {vs : List V} {ds : List D}, DdAll K G vs ds → (∀ d ∈ ds, D.Im d) → DdAll K G' vs ds
  | _, _, .nil, _ => .nil
  | _, _, .cons h t, e => .cons (dd_im s h (e _ List.mem_cons_self)) (dd_ims s t fun d hd => e d (List.mem_cons_of_mem _ hd))
end
def AllChg (S : List (Addr × HO)) : Prop := ∀ x ∈ S, Chg x.2
theorem Slots.chg {K : PySem.W.Frag} (h : Slots K G Γ S env σ) : AllChg S := by
  induction h with
  | nil => exact fun x hx => absurd hx (by simp)
  | no _ ih => exact ih
  | @yes t Γ S1 S env d v σ q _ ih =>
    intro x hx
    rcases List.mem_append.mp hx with h | h
    · cases t with
      | F => obtain ⟨rfl, _⟩ := q; exact absurd h (by simp)
      | O =>
        cases d with
        | lst ds => obtain ⟨a, vs, _, rfl, _⟩ := q; rw [List.mem_singleton] at h; subst h; exact .lst _
        | dic ds => obtain ⟨a, vs, _, rfl, _⟩ := q; rw [List.mem_singleton] at h; subst h; exact .dK _
        | _ => obtain ⟨rfl, _⟩ := q; exact absurd h (by simp)
    · exact ih x h
theorem Cell.chg {K : PySem.W.Frag} {a : Addr} {d : D} {C : List (Addr × HO)} (q : Cell K G a d C) : AllChg C := by
  intro x h
  cases d with
  | lst ds => obtain ⟨vs, rfl, _⟩ := q; rw [List.mem_singleton] at h; subst h; exact .lst _
  | dic ds => obtain ⟨vs, rfl, _⟩ := q; rw [List.mem_singleton] at h; subst h; exact .dK _
  | obj Cl gs =>
    obtain ⟨dx, fs, rfl, _⟩ := q
    rcases List.mem_cons.mp h with rfl | h
    · exact .ins _ _ _
    · rw [List.mem_singleton] at h; subst h; exact .own _
  | dcl w ds => obtain ⟨vs, rfl, _⟩ := q; rw [List.mem_singleton] at h; subst h; exact .ext _
  | dct w ds => obtain ⟨vs, rfl, _⟩ := q; rw [List.mem_singleton] at h; subst h; exact .ext _
  | lck u ds => obtain ⟨rfl, _⟩ := q; rw [List.mem_singleton] at h; subst h; exact .frz _ _
  | _ => exact q.elim
theorem Cells.chg {K : PySem.W.Frag} {L : List (Addr × D)} {C : List (Addr × HO)} (h : Cells K G L C) : AllChg C := by
  induction h with
  | nil => exact fun x hx => absurd hx (by simp)
  | @cons a d L C1 C2 q _ ih =>
    intro x hx
    rcases List.mem_append.mp hx with h | h
    · exact q.chg x h
    · exact ih x h
theorem Amb.chg {K : PySem.W.Frag} {C : List (Addr × HO)} (h : Amb K G m C) : AllChg C := by
  obtain ⟨C1, C2, rfl, a, L, l, c⟩ := h
  intro x hx
  rcases List.mem_append.mp hx with h | h
  · obtain ⟨md, ms⟩ := m
    cases md with
    | none => obtain rfl : C1 = [] := a; exact absurd h (by simp)
    | some p =>
      obtain ⟨c, t, ns, rfl, _⟩ := a
      rcases List.mem_cons.mp h with rfl | h
      · exact .dK _
      · rw [List.mem_singleton] at h; subst h; exact .lst _
  · exact c.chg x h
def D.isLck : D → Bool
  | .lck _ _ => true
  | _ => false
def unl : D → D
  | .lck _ kds => .dic kds
  | d => d
inductive Rs (s : Sto) : D → D → Prop
  | refl (d : D) : Rs s d d
  | lst {ds es : List D} : ds.length = es.length → (∀ (i : Nat) (d e : D), ds[i]? = some d → es[i]? = some e → Rs s d e) → Rs s (.lst ds) (.lst es)
  | tup {ds es : List D} : ds.length = es.length → (∀ (i : Nat) (d e : D), ds[i]? = some d → es[i]? = some e → Rs s d e) → Rs s (.tup ds) (.tup es)
  | ptr {a : Addr} {d e : D} (h : s a = some d) (r : Rs s d e) (hl : d.isLck = false := by rfl) : Rs s (.adr a) e
  | ptrK {a : Addr} {u : Obj × List (Key × V)} {kds : List (Key × D)} {e : D} : s a = some (.lck u kds) → Rs s (.dic kds) e → Rs s (.adr a) e
  | dic {ks : List Key} {ds es : List (Key × D)} : ds.map Prod.fst = ks → es.map Prod.fst = ks → (∀ (i : Nat) (d e : Key × D), ds[i]? = some d → es[i]? = some e → Rs s d.2 e.2) → Rs s (.dic ds) (.dic es)
def RsAll (s : Sto) (ds es : List D) : Prop := ds.length = es.length ∧ ∀ (i : Nat) (d e : D), ds[i]? = some d → es[i]? = some e → Rs s d e
theorem RsAll.refl (s : Sto) (ds : List D) : RsAll s ds ds := ⟨rfl, fun i d e h1 h2 => by rw [h1] at h2; cases h2; exact .refl d⟩
theorem RsAll.nil {s : Sto} : RsAll s [] [] := .refl _ _
theorem RsAll.cons {s : Sto} {d e : D} {ds es : List D} (h : Rs s d e) (t : RsAll s ds es) : RsAll s (d :: ds) (e :: es) :=
  ⟨by rw [List.length_cons, List.length_cons, t.1], fun i x y h1 h2 => by
    cases i with
    | zero => simp at h1 h2; subst h1; subst h2; exact h
    | succ i => exact t.2 i x y (by simpa using h1) (by simpa using h2)⟩
theorem DdAll.of_get {K : PySem.W.Frag} : ∀ {vs : List V} {es : List D}, vs.length = es.length → (∀ (i : Nat) (v : V) (e : D), vs[i]? = some v → es[i]? = some e → Dd K G v e) → DdAll K G vs es
  | [], [], _, _ => .nil
  | [], _ :: _, h, _ => by simp at h
  | _ :: _, [], h, _ => by simp at h
  | v :: vs, e :: es, h, f => .cons (f 0 v e rfl rfl) (DdAll.of_get (by simpa using h) fun i v e h1 h2 => f (i + 1) v e (by simpa using h1) (by simpa using h2))
theorem unl_of {d : D} (h : d.isLck = false) : unl d = d := by cases d <;> first | rfl | cases h
theorem rs_dd {K : PySem.W.Frag} {s : Sto} (hs : ∀ a d, s a = some d → Dd K G (.ref a) (unl d)) {d e : D} (h : Rs s d e) : ∀ {v : V}, Dd K G v d → Dd K G v e := by
  induction h with
  | refl d => exact fun q => q
  | @lst ds es hl _ ih =>
    intro v q
    cases q with
    | lst h1 h2 =>
      refine .lst h1 (DdAll.of_get (by rw [h2.len, hl]) fun i v e h3 h4 => ?_)
      obtain ⟨d, h5, h6⟩ := h2.getV h3
      exact ih i d e h5 h4 h6
  | @tup ds es hl _ ih =>
    intro v q
    cases q with
    | tup h1 h2 =>
      refine .tup h1 (DdAll.of_get (by rw [h2.len, hl]) fun i v e h3 h4 => ?_)
      obtain ⟨d, h5, h6⟩ := h2.getV h3
      exact ih i d e h5 h4 h6
  | ptr e _ hl ih =>
    intro v q
    cases q
    have := hs _ _ e
    rw [unl_of hl] at this
    exact ih this
  | ptrK e _ ih =>
    intro v q
    cases q
    exact ih (hs _ _ e)
  | @dic ks ds es e1 e2 _ ih =>
    intro v q
    cases q with
    | dic h1 k1 k2 k3 k4 h2 =>
      subst k3; subst k4
      have hl : ds.length = es.length := by have := congrArg List.length (e1.trans e2.symm); simpa using this
      refine .dic h1 k1 (by rw [e2, ← k2, e1]) rfl rfl (DdAll.of_get (by rw [h2.len, List.length_map, List.length_map, hl]) fun i v e h3 h4 => ?_)
      obtain ⟨d, h5, h6⟩ := h2.getV h3
      rw [List.getElem?_map] at h5 h4
      obtain ⟨x, hx, rfl⟩ := Option.map_eq_some_iff.mp h5
      obtain ⟨y, hy, rfl⟩ := Option.map_eq_some_iff.mp h4
      exact ih i x y hx hy h6
theorem Cells.at {K : PySem.W.Frag} {L : List (Addr × D)} {C : List (Addr × HO)} (h : Cells K G L C) : ∀ {a : Addr} {d : D}, L.lookup a = some d → ∃ A C1 B, C = A ++ (C1 ++ B) ∧ Cell K G a d C1 ∧
    ∀ (d' : D) (C1' : List (Addr × HO)), Cell K G a d' C1' → ∃ L', (∀ b, L'.lookup b = if b = a then some d' else L.lookup b) ∧ Cells K G L' (A ++ (C1' ++ B)) := by
  induction h with
  | nil => intro a d e; cases e
  | @cons b d0 L C1 C2 q r ih =>
    intro a d e
    rw [List.lookup_cons] at e
    by_cases z : a = b
    · subst z
      rw [beq_self_eq_true] at e
      cases e
      refine ⟨[], C1, C2, rfl, q, fun d' C1' q' => ⟨(a, d') :: L, fun b => ?_, by rw [List.nil_append]; exact .cons q' r⟩⟩
      rw [List.lookup_cons, List.lookup_cons]
      by_cases z : b = a
      · subst z; rw [beq_self_eq_true, if_pos rfl]
      · rw [beq_eq_false_iff_ne.mpr z, if_neg z]
    · rw [beq_eq_false_iff_ne.mpr z] at e
      obtain ⟨A, D1, B, e1, e2, e3⟩ := ih e
      refine ⟨C1 ++ A, D1, B, by rw [e1, List.append_assoc], e2, fun d' C1' q' => ?_⟩
      obtain ⟨L', e4, e5⟩ := e3 d' C1' q'
      refine ⟨(b, d0) :: L', fun x => ?_, by rw [List.append_assoc]; exact .cons q e5⟩
      rw [List.lookup_cons, List.lookup_cons]
      by_cases y : x = b
      · subst y; rw [beq_self_eq_true, if_neg (fun w => z w.symm)]
      · rw [beq_eq_false_iff_ne.mpr y]; exact e4 x
theorem Amb.at {K : PySem.W.Frag} {C : List (Addr × HO)} (h : Amb K G m C) {a : Addr} {d : D} (e : m.2 a = some d) : ∃ A C1 B, C = A ++ (C1 ++ B) ∧ Cell K G a d C1 ∧ ∀ (d' : D) (C1' : List (Addr × HO)), Cell K G a d' C1' → Amb K G (m.1, sput m.2 a d') (A ++ (C1' ++ B)) := by
  obtain ⟨D1, D2, rfl, am, L, l, c⟩ := h
  obtain ⟨A, C1, B, rfl, q, f⟩ := c.at (by rw [← l a]; exact e)
  refine ⟨D1 ++ A, C1, B, by rw [List.append_assoc], q, fun d' C1' q' => ?_⟩
  obtain ⟨L', e4, e5⟩ := f d' C1' q'
  refine ⟨D1, A ++ (C1' ++ B), by rw [List.append_assoc], am, L', fun b => ?_, e5⟩
  show sput m.2 a d' b = _
  unfold sput
  rw [e4 b, l b]
theorem Cell.dd {K : PySem.W.Frag} {G' : Hp} (s : Same G G') {a : Addr} {d : D} {C : List (Addr × HO)} (q : Cell K G a d C) (h : ∀ x ∈ C, G' x.1 = some x.2) : Dd K G' (.ref a) (unl d) := by
  cases d with
  | lck u ds => obtain ⟨rfl, e1, e⟩ := q; exact .dic (.inr ⟨u.1, h _ List.mem_cons_self⟩) e1 rfl rfl rfl (e.mono s)
  | lst ds => obtain ⟨vs, rfl, e⟩ := q; exact .lst (h _ List.mem_cons_self) (e.mono s)
  | dic ds => obtain ⟨vs, rfl, e1, e⟩ := q; exact .dic (.inl (h _ List.mem_cons_self)) e1 rfl rfl rfl (e.mono s)
  | obj Cl gs => obtain ⟨dx, fs, rfl, e1, e⟩ := q; exact .obj (h _ List.mem_cons_self) (h _ (List.mem_cons_of_mem _ List.mem_cons_self)) e1 rfl rfl rfl (e.mono s)
  | dcl w ds => obtain ⟨vs, rfl, e1, e⟩ := q; exact .dcl (h _ List.mem_cons_self) e1 rfl rfl rfl (e.mono s)
  | dct w ds => obtain ⟨vs, rfl, e1, e0, e⟩ := q; exact .dct (h _ List.mem_cons_self) e1 (fun p hp => s _ _ (e0 p hp)) rfl rfl rfl (e.mono s)
  | _ => exact q.elim
theorem wd_allBut {L : List (Addr × HO)} (h : ∀ x ∈ L, H x.1 = some x.2) (nd : (L.map Prod.fst).Nodup) : Wd L (allBut H L) H := ⟨allBut_le L, fun x hx => ⟨h x hx, allBut_in (List.mem_map.mpr ⟨x, hx, rfl⟩)⟩, nd⟩
def frOk : OT → D → Prop
  | .F, d => D.Im d
  | .O, d => D.Fr d
def vCallB (t : OT) (vsp : VSp) (va : VA) : VE := fun env m P => va env m fun ds m1 => ∃ es, RsAll m1.2 ds es ∧ vsp es (none, emp) (fun d _ => frOk t d ∧ P d m1) fun _ _ _ => False
theorem Im.im {d : D} (h : D.Im d) : d.im = true := by cases h <;> rfl
theorem run_look {vsp : VSp} {t : OT} {W : XK} {VX : XV} (st : Stx c Γ G H (S1 ++ T) S env σ m) {vs : List V} {ds es : List D} (b : BoAll c.K G (S1 ++ S) vs ds) (hr : RsAll m.2 ds es) {P : D → Prop} {Q : VK} (hv : vsp es (none, emp) (fun d _ => frOk t d ∧ P d) VX)
    (k : ∀ d v G' H' S2, P d → Same G G' → Stx c Γ G' H' (S2 ++ T) S env σ m → OwnTop c.K G' S2 v d → Q v H')
    (kx : ∀ C fs m' dd G' H', VX C fs m' → (∀ f ∈ fs, D.Im f.2) → Same G G' → Stx c Γ G' H' T S env σ m → ExcAt c.K G' dd fs → W (.ref C) dd H') (hx : ∀ C fs m', VX C fs m' → ∀ f ∈ fs, D.Im f.2) : spV c.K t vsp vs H Q W := by
  obtain ⟨s, C, w, a, z⟩ := st
  have w1 : Wd ((S1 ++ (S ++ C)) ++ (T ++ c.R)) G H := w.perm (by
    have h1 : ((S1 ++ (S ++ C)) ++ (T ++ c.R)).Perm (S1 ++ (T ++ (S ++ (C ++ c.R)))) := by
      rw [List.append_assoc]
      refine List.Perm.append_left S1 ?_
      have : ((S ++ C) ++ (T ++ c.R)).Perm (T ++ ((S ++ C) ++ c.R)) := List.perm_append_comm_assoc _ _ _
      rw [List.append_assoc (as := S) (bs := C) (cs := c.R)] at this
      exact this
    rw [List.append_assoc (as := S1) (bs := T)]
    exact h1)
  -- what the call sees
  have g0 : Same G (allBut H (T ++ c.R)) := allBut_ge w1.dropL
  have inA : ∀ x ∈ S1 ++ (S ++ C), allBut H (T ++ c.R) x.1 = some x.2 := fun x hx => by
    rw [allBut_of (wd_apart w1 hx)]
    exact w1.mem (List.mem_append_left _ hx)
  have hs : ∀ b e, m.2 b = some e → Dd c.K (allBut H (T ++ c.R)) (.ref b) (unl e) := fun b e he => by
    obtain ⟨A, C1, B, rfl, q, _⟩ := a.at he
    exact q.dd g0 fun x hx => inA x (by simp [hx])
  have w2 : Wd ((S1 ++ S) ++ (C ++ (T ++ c.R))) G H := by
    rw [← List.append_assoc, List.append_assoc S1 S C]; exact w1
  have dall : DdAll c.K (allBut H (T ++ c.R)) vs es := by
    have q := b.all w2
    have sm : Same (allBut H (C ++ (T ++ c.R))) (allBut H (T ++ c.R)) := fun x o e => by
      by_cases h : x ∈ (C ++ (T ++ c.R)).map Prod.fst
      · rw [allBut_in h] at e; cases e
      · rw [allBut_of h] at e
        rw [allBut_of fun h' => h (by rw [List.map_append]; exact List.mem_append_right _ h')]; exact e
    have q := q.mono sm
    refine DdAll.of_get (by rw [q.len, hr.1]) fun i v e h1 h2 => ?_
    obtain ⟨d, h3, h4⟩ := q.getV h1
    exact rs_dd hs (hr.2 i d e h3 h2) h4
  have nd : ((T ++ (S ++ (C ++ c.R))).map Prod.fst).Nodup := by
    rw [List.append_assoc] at w
    exact w.dropL.2.2
  have chg : AllChg (S ++ C) := fun x hx => by
    rcases List.mem_append.mp hx with h | h
    · exact z.chg x h
    · exact a.chg x h
  -- what is behind it
  have behind : ∀ {G' H' : Hp} {S2 C' : List (Addr × HO)}, Same (allBut H (T ++ c.R)) G' → Wd (S2 ++ (C' ++ (T ++ c.R))) G' H' → ∃ G2, Same G G2 ∧ Stx c Γ G2 H' (S2 ++ T) S env σ m ∧ TupS G' G2 := by
    intro G' H' S2 C' s' w'
    have w3 : Wd (S2 ++ (T ++ c.R)) G' H' := w'.dropM
    have mem : ∀ x ∈ S2 ++ (T ++ (S ++ (C ++ c.R))), H' x.1 = some x.2 := fun x hx => by
      rcases List.mem_append.mp hx with h | h
      · exact (w3.2.1 x (List.mem_append_left _ h)).1
      · rcases List.mem_append.mp h with h | h
        · exact (w3.2.1 x (by simp [h])).1
        · rw [← List.append_assoc] at h
          rcases List.mem_append.mp h with h | h
          · exact w3.1 _ _ (s' _ _ (inA x (List.mem_append_right _ h)))
          · exact (w3.2.1 x (by simp [h])).1
    have nd2 : ((S2 ++ (T ++ (S ++ (C ++ c.R)))).map Prod.fst).Nodup := by
      rw [List.map_append]
      refine List.nodup_append.mpr ⟨w3.dropR.2.2, nd, fun p hp p' hp' e => ?_⟩
      subst e
      obtain ⟨x, hx, rfl⟩ := List.mem_map.mp hp
      obtain ⟨y, hy, e⟩ := List.mem_map.mp hp'
      have q := (w3.2.1 x (List.mem_append_left _ hx)).2
      have tr : y ∈ T ++ c.R → False := fun h => by
        have nd3 := w3.2.2
        rw [List.map_append] at nd3
        exact (List.nodup_append.mp nd3).2.2 _ (List.mem_map.mpr ⟨x, hx, rfl⟩) _ (List.mem_map.mpr ⟨y, h, rfl⟩) e.symm
      rcases List.mem_append.mp hy with h | h
      · exact tr (List.mem_append_left _ h)
      · rw [← List.append_assoc] at h
        rcases List.mem_append.mp h with h | h
        · have := s' _ _ (inA y (List.mem_append_right _ h))
          rw [e, q] at this; cases this
        · exact tr (List.mem_append_right _ h)
    have notin : ∀ b o, G' b = some o → (∀ x ∈ S ++ C, x.1 ≠ b) → b ∉ (S2 ++ (T ++ (S ++ (C ++ c.R)))).map Prod.fst := fun b o e hn hb => by
      obtain ⟨x, hx, rfl⟩ := List.mem_map.mp hb
      have tr : x ∈ S2 ++ (T ++ c.R) → False := fun h => by rw [(w3.2.1 x h).2] at e; cases e
      rcases List.mem_append.mp hx with h | h
      · exact tr (List.mem_append_left _ h)
      · rcases List.mem_append.mp h with h | h
        · exact tr (by simp [h])
        · rw [← List.append_assoc] at h
          rcases List.mem_append.mp h with h | h
          · exact hn x h rfl
          · exact tr (by simp [h])
    have w4 := wd_allBut mem nd2
    have up : Same G (allBut H' (S2 ++ (T ++ (S ++ (C ++ c.R))))) := fun b o e => by
      have e1 : G' b = some o := s' _ _ (g0 _ _ e)
      rw [allBut_of (notin b o e1 fun x hx q => ?_)]
      · exact w3.1 _ _ e1
      · have := (w1.2.1 x (List.mem_append_left _ (List.mem_append_right _ hx))).2
        rw [q, e] at this; cases this
    refine ⟨_, up, ⟨s.trans up, C, by rw [List.append_assoc]; exact w4, a.mono up, z.mono up⟩, fun b o e hc => ?_⟩
    rw [allBut_of (notin b o e fun x hx q => ?_)]
    · exact w3.1 _ _ e
    · have e2 := w3.1 _ _ (s' _ _ (inA x (List.mem_append_right _ hx)))
      rw [q, w3.1 _ _ e] at e2
      cases e2
      exact hc (chg x hx)
  refine ⟨es, allBut H (T ++ c.R), T ++ c.R, [], (none, emp), _, VX, allBut_wd w1.dropL, Amb.none, dall, hv, fun d m' v H' G' S2 C' p s' w' a' o => ?_, fun cl fs m' dd H' G' C' p s' w' a' o => ?_⟩
  · obtain ⟨G2, s2, st2, tu⟩ := behind s' w'
    refine k d v G2 H' S2 p.2 s2 st2 ?_
    have im : D.Im d → S2 = [] ∧ Dd c.K G' v d → OwnTop c.K G2 S2 v d := fun hd q => by
      obtain ⟨rfl, q⟩ := q
      exact ownTop_im (dd_im tu q hd) (Im.im hd)
    cases t with
    | F => exact im p.1 o
    | O =>
      rcases p.1 with hd | ⟨xs, rfl, hd⟩
      · refine im hd ?_
        cases hd <;> exact o
      · obtain ⟨b, vs, rfl, rfl, q⟩ := o
        exact ⟨b, vs, rfl, rfl, dd_ims tu q hd⟩
  · obtain ⟨G2, s2, st2, tu⟩ := behind (S2 := []) s' w'
    refine kx cl fs m' dd G2 H' p (hx _ _ _ p) s2 st2 ?_
    rcases o with ⟨rfl, rfl⟩ | ⟨b, xs, rfl, e1, e2, q⟩
    · exact .inl ⟨rfl, rfl⟩
    · refine .inr ⟨b, xs, rfl, tu.xd e1, e2, dd_ims tu q fun d hd => ?_⟩
      obtain ⟨f, hf, rfl⟩ := List.mem_map.mp hd
      exact hx _ _ _ p f hf
theorem s_callB {vsp : VSp} {t : OT} {E : XK} {ta : TA} {va : VA} (ha : SA c Γ ta va) : SO c Γ (tCall (spV c.K t vsp) [] E ta) (vCallB t vsp va) := fun T G H S env σ m P Q st hv k =>
  ha T G H S env σ m _ _ st hv fun ds m1 vs G1 H1 S1 p1 s1 st1 b1 => by
    rw [List.append_nil]
    obtain ⟨es, hr, p1⟩ := p1
    exact run_look (P := fun d => P d m1) st1 b1 hr p1 (fun d v G' H' S2 p s st' o => k d m1 v G' H' S2 p (s1.trans s) st' o) (fun _ _ _ _ _ _ h => h.elim) fun _ _ _ h => h.elim
def YD (K : PySem.W.Frag) (G : Hp) (ds : List D) : Nat → Hp → V → Hp → Prop := fun i H x H' => ∃ d, ds[i]? = some d ∧ ((H' = H ∧ Dd K G x d) ∨ ∃ p vs es, d = .tup es ∧ x = .ref p ∧ H p = none ∧ H' = upd H p (.tup vs) ∧ DdAll K G vs es)
def SI (c : JC) (Γ : List OT) (wi : TI) (vi : VA) : Prop := ∀ (T : List (Addr × HO)) (G H : Hp) (S : List (Addr × HO)) (env : Env) (σ : L2.St) (m : Mst) (P : List D → Mst → Prop) (R : It → Hp → Prop), Stx c Γ G H T S env σ m → vi env m P →
  (∀ ds m' J G' H', P ds m' → Same G G' → Stx c Γ G' H' T S env σ m' → Walk J ds.length (Same G') (YD c.K G' ds) → R J H') → wi σ H R
def signsOf (z : Str) : List D := z.cps.toList.map fun c => .str ⟨#[c]⟩
def itSeq : D → (List D → Mst → Prop) → Mst → Prop
  | .lst ds, P, m => P ds m
  | .tup ds, P, m => P ds m
  | .str z, P, m => P (signsOf z) m
  | _, _, _ => False
def vSeq (ve : VE) : VA := fun env m P => ve env m fun x m1 => itSeq x P m1
theorem DdAll.yat {K : PySem.W.Frag} {vs : List V} {ds : List D} (h : DdAll K G vs ds) {i : Nat} {x : V} {H H' : Hp} (y : YAt vs i H x H') : YD K G ds i H x H' := by
  obtain ⟨d, e, q⟩ := h.getV y.2
  exact ⟨d, e, .inl ⟨y.1, q⟩⟩
theorem i_seq {te : TE} {ve : VE} (he : SF c Γ te ve) : SI c Γ (iSeqV c.K te) (vSeq ve) := fun T G H S env σ m P R st hv k =>
  he T G H S env σ m _ _ st hv fun x m1 v G1 H1 p1 s1 st1 q1 => by
    cases q1 with
    | lst h1 h2 =>
      refine .inl ⟨_, _, rfl, SqL.of (st1.v _ _ h1), k _ m1 _ G1 H1 p1 s1 st1 ?_⟩
      rw [← h2.len]
      exact walk_list.mono (fun _ s => SqL.of (s _ _ h1)) fun i H x H' _ _ y => h2.yat y
    | tup h1 h2 =>
      refine .inr (.inl ⟨_, _, rfl, same_t st1.v h1.sq, k _ m1 _ G1 H1 p1 s1 st1 ?_⟩)
      rw [← h2.len]
      exact walk_tup.mono (fun _ s => same_t s h1.sq) fun i H x H' _ _ y => h2.yat y
    | str z =>
      refine .inr (.inr ⟨z, rfl, k _ m1 _ G1 H1 p1 s1 st1 ?_⟩)
      rw [show (signsOf z).length = z.cps.size by unfold signsOf; simp]
      refine walk_str.mono (fun _ _ => trivial) fun i H x H' _ _ y => ?_
      obtain ⟨rfl, c', ec, rfl⟩ := y
      refine ⟨.str ⟨#[c']⟩, ?_, .inl ⟨rfl, .str _⟩⟩
      unfold signsOf
      rw [List.getElem?_map, Array.getElem?_toList, ec]
      rfl
    | _ => exact p1.elim
def rangeD (lo : Int) (n : Nat) : List D := (List.range n).map fun (k : Nat) => .int (lo + (k : Int))
theorem rangeD_get {lo : Int} {n i : Nat} (h : i < n) : (rangeD lo n)[i]? = some (.int (lo + (i : Int))) := by
  unfold rangeD
  rw [List.getElem?_map, List.getElem?_range h]
  rfl
theorem rangeD_len {lo : Int} {n : Nat} : (rangeD lo n).length = n := by unfold rangeD; simp
def itRng : List D → (List D → Mst → Prop) → Mst → Prop
  | [.int j], P, m1 => (-(2 ^ 62) ≤ j ∧ j < 2 ^ 62) ∧ P (rangeD 0 j.toNat) m1
  | [.int i, .int j], P, m1 => (-(2 ^ 62) ≤ i ∧ i < 2 ^ 62 ∧ -(2 ^ 62) ≤ j ∧ j < 2 ^ 62) ∧ P (rangeD i (j - i).toNat) m1
  | _, _, _ => False
def vRng1 (va : VA) : VA := fun env m P => va env m fun xs m1 => ∃ j, xs = [.int j] ∧ itRng xs P m1
theorem BoAll.inv1 {K : PySem.W.Frag} {d : D} {vs : List V} (h : DdAll K G vs [d]) : ∃ v, vs = [v] ∧ Dd K G v d := by
  cases h with | cons h t => cases t; exact ⟨_, rfl, h⟩
theorem BoAll.inv2 {K : PySem.W.Frag} {d e : D} {vs : List V} (h : DdAll K G vs [d, e]) : ∃ v u, vs = [v, u] ∧ Dd K G v d ∧ Dd K G u e := by
  cases h with | cons h t => cases t with | cons h2 t => cases t; exact ⟨_, _, rfl, h, h2⟩
theorem Dd.intInv {K : PySem.W.Frag} {i : Int} (h : Dd K G v (.int i)) : v = .int i := by cases h; rfl
theorem i_rng1 {ta : TA} {va : VA} (ha : SG c Γ ta va) : SI c Γ (iRng1 ta) (vRng1 va) := fun T G H S env σ m P R st hv k =>
  ha T G H S env σ m (fun ds m1 => ∃ j, ds = [.int j] ∧ itRng ds P m1) _ st hv fun ds m1 vs G1 H1 p1 s1 st1 q1 => by
    obtain ⟨j, rfl, p1⟩ := p1
    obtain ⟨v, rfl, h⟩ := BoAll.inv1 q1
    obtain rfl := h.intInv
    have p1 : (-(2 ^ 62) ≤ j ∧ j < 2 ^ 62) ∧ P (rangeD 0 j.toNat) m1 := p1
    refine ⟨j, rfl, p1.1.1, p1.1.2, k _ m1 _ G1 H1 p1.2 s1 st1 ?_⟩
    rw [rangeD_len]
    exact walk_range.mono (fun _ _ => trivial) fun i H x H' hi _ y => ⟨_, rangeD_get hi, .inl ⟨y.1, by rw [y.2]; exact .int _⟩⟩
def zipD (a b : List D) : List D := List.zipWith (fun x y => D.tup [x, y]) a b
def itZip : List D → (List D → Mst → Prop) → Mst → Prop
  | [.lst a, .lst b], P, m1 => P (zipD a b) m1
  | [.tup a, .tup b], P, m1 => P (zipD a b) m1
  | _, _, _ => False
def enumD (a : List D) : List D := zipD (rangeD 0 a.length) a
def itEnum : List D → (List D → Mst → Prop) → Mst → Prop
  | [.lst a], P, m1 => P (enumD a) m1
  | [.tup a], P, m1 => P (enumD a) m1
  | [.str z], P, m1 => P (enumD (signsOf z)) m1
  | _, _, _ => False
def itRev : D → (List D → Mst → Prop) → Mst → Prop
  | .lst a, P, m1 => P a.reverse m1
  | .tup a, P, m1 => P a.reverse m1
  | _, _, _ => False
end
end Ps
namespace Ps
open PySem PySem.Spec PyProof.Rows L2
abbrev VG := D → Env → (Env → Prop) → Prop
abbrev VGs := List D → Env → (Env → Prop) → Prop
def vgName (i : Nat) : VG := fun d env P => P (env.set i (some d))
def vgNil : VGs := fun ds env P => ds = [] ∧ P env
def vgCons (g : VG) (gs : VGs) : VGs := fun ds env P => match ds with
  | d :: r => g d env fun e => gs r e P
  | [] => False
def vgTup (n : Nat) (gs : VGs) : VG := fun d env P => match d with
  | .tup ds => ds.length = n ∧ gs ds env P
  | _ => False
def vgTupU (n : Nat) (gs : VGs) : VG := fun d env P => match d with
  | .tup ds => ds.length = n ∧ gs ds env P
  | .lst ds => ds.length = n ∧ gs ds env P
  | _ => False
def wipeE (env : Env) : List Nat → Env
  | [] => env
  | v :: vs => (wipeE env vs).set v none
def lcD (items : List D) (vg : VG) (vt : VT) (ve : VE) (vs : List Nat) (env : Env) (m1 : Mst) (P : D → Mst → Prop) : Prop := ∃ W : Nat → List D → Mst → Prop, W 0 [] m1 ∧
  (∀ i acc m' d, W i acc m' → items[i]? = some d → vg d (wipeE env vs) fun e1 => vt e1 m' fun b m2 => if b = true then ve e1 m2 fun y m3 => acc.length < sizeLine ∧ W (i + 1) (acc ++ [y]) m3 else W (i + 1) acc m2) ∧
  ∀ acc m', W items.length acc m' → P (.lst acc) m'
def vLc (vi : VA) (vg : VG) (vt : VT) (ve : VE) (vs : List Nat) : VE := fun env m P => vi env m fun items m1 => lcD items vg vt ve vs env m1 P
def vNext : VS := fun V env m => V.nx env m
def vSeqS (a b : VS) : VS := fun V env m => a { V with nx := b V } env m
def vAsg (ve : VE) (vg : VG) : VS := fun V env m => ve env m fun d m1 => vg d env fun e1 => V.nx e1 m1
def vDrop (ve : VE) : VS := fun V env m => ve env m fun _ m1 => V.nx env m1
def vRet (ve : VE) : VS := fun V env m => ve env m V.rt
def vIf (vt : VT) (a b : VS) : VS := fun V env m => vt env m fun x m1 => if x = true then a V env m1 else b V env m1
def forD (ws : List Nat) (items : List D) (vg : VG) (vb : VS) (V : VEnds) (env : Env) (m1 : Mst) : Prop := ∃ W : Nat → Env → Mst → Prop, W 0 (wipeE env ws) m1 ∧
  (∀ i e m' d, W i e m' → items[i]? = some d → vg d e fun e1 => vb { V with nx := fun e2 m2 => W (i + 1) (wipeE e2 ws) m2, ct := fun e2 m2 => W (i + 1) (wipeE e2 ws) m2, bk := fun e2 m2 => V.nx (wipeE e2 ws) m2 } e1 m') ∧ ∀ e m', W items.length e m' → V.nx e m'
def vFor (ws : List Nat) (vi : VA) (vg : VG) (vb : VS) : VS := fun V env m => vi env m fun items m1 => forD ws items vg vb V env m1
def vWhile (ws : List Nat) (vt : VT) (vb : VS) : VS := fun V env m => ∃ W : Nat → Env → Mst → Prop, (∃ n, W n (wipeE env ws) m) ∧
  ∀ n e m', W n e m' → vt e m' fun b m1 => if b = true then vb { V with nx := fun e2 m2 => ∃ n', n' < n ∧ W n' (wipeE e2 ws) m2, ct := fun e2 m2 => ∃ n', n' < n ∧ W n' (wipeE e2 ws) m2, bk := fun e2 m2 => V.nx (wipeE e2 ws) m2 } e m1 else V.nx e m1
def vAug (i : Nat) (f : D → D → (D → Prop) → Prop) (ve : VE) : VS := fun V env m => ∃ x, env[i]? = some (some x) ∧ ve env m fun y m1 => f x y fun z => V.nx (env.set i (some z)) m1
def vPar (i j : Nat) (va : VA) : VS := fun V env m => va env m fun ds m1 => match ds with
  | [d, e] => V.nx ((env.set i (some d)).set j (some e)) m1
  | _ => False
def vMut (i : Nat) (f : List D → List D → (List D → D → Prop) → Prop) (va : VA) : VS := fun V env m => ∃ ds, env[i]? = some (some (.lst ds)) ∧ va env m fun xs m1 => f ds xs fun ds' z => V.nx (env.set i (some (.lst ds'))) m1
def dKey : D → Option Key
  | .int i => some (.inl i)
  | .str s => some (.inr s)
  | _ => none
def dput (kvs : List (Key × D)) (k : Key) (d : D) : List (Key × D) := if (kvs.any fun kv => decide (kv.1 = k)) = true then kvs.map (fun kv => if kv.1 = k then (kv.1, d) else kv) else kvs ++ [(k, d)]
def dget (kvs : List (Key × D)) (k : Key) : Option D := (kvs.find? fun kv => decide (kv.1 = k)).map (·.2)
def vPut (i : Nat) (ve vk : VE) : VS := fun V env m => ve env m fun d m1 => ∃ x, env[i]? = some (some x) ∧ vk env m1 fun y m2 => match x, y with
  | .lst ds, .int k => ∃ j, ixN ds.length k = some j ∧ V.nx (env.set i (some (.lst (ds.set j d)))) m2
  | .dic kds, y => ∃ k, dKey y = some k ∧ kds.length < sizeLine ∧ V.nx (env.set i (some (.dic (dput kds k d)))) m2
  | _, _ => False
def vRaise (VW : XW) (C : Addr) (fs : List (Str × D)) : VS := fun _ env m => VW C fs env m
section
variable {c : JC} {Γ Γ1 Γ2 Γn Γb Γc : List OT} {G G' H H' : Hp} {T S S1 S2 R : List (Addr × HO)} {env : Env} {σ : L2.St} {m : Mst} {v : V} {d : D} {t : OT} {i j : Nat} {is : List Nat}
theorem Slots.setF {K : PySem.W.Frag} (h : Slots K G Γ S env σ) : ∀ {i : Nat} {o : Option D} {o' : Option V}, Γ[i]? = some .F → (o = none ∨ ∃ d v, o = some d ∧ o' = some v ∧ Dd K G v d) → Slots K G Γ S (env.set i o) (σ.set i o') := by
  induction h with
  | nil => intro i o o' h1 h2; simp at h1
  | @no t0 Γ S env o0 σ h ih =>
    intro i o o' h1 h2
    cases i with
    | zero =>
      simp at h1
      subst h1
      rw [List.set_cons_zero, List.set_cons_zero]
      rcases h2 with rfl | ⟨d, v, rfl, rfl, q⟩
      · exact .no h
      · exact .yes (S1 := []) ⟨rfl, q⟩ h
    | succ i =>
      rw [List.set_cons_succ, List.set_cons_succ]
      exact .no (ih (by simpa using h1) h2)
  | @yes t0 Γ S1 S env d0 v0 σ h hs ih =>
    intro i o o' h1 h2
    cases i with
    | zero =>
      simp at h1
      subst h1
      obtain ⟨rfl, h⟩ := h
      rw [List.set_cons_zero, List.set_cons_zero]
      rcases h2 with rfl | ⟨d, v, rfl, rfl, q⟩
      · exact .no hs
      · exact .yes (S1 := []) ⟨rfl, q⟩ hs
    | succ i =>
      rw [List.set_cons_succ, List.set_cons_succ]
      exact .yes h (ih (by simpa using h1) h2)
theorem Slots.wipeF {K : PySem.W.Frag} (h : Slots K G Γ S env σ) : ∀ {vs : List Nat}, (vs.all fun i => decide (Γ[i]? = some .F)) = true → Slots K G Γ S (wipeE env vs) (wipe σ vs)
  | [], _ => h
  | v :: vs, e => by
    rw [List.all_cons, Bool.and_eq_true] at e
    exact (Slots.wipeF h e.2).setF (of_decide_eq_true e.1) (.inl rfl)
theorem wipe_in {σ : L2.St} {i : Nat} : ∀ {vs : List Nat}, i ∈ vs → i < σ.length → (wipe σ vs)[i]? = some none
  | [], h, _ => absurd h (by simp)
  | v :: vs, h, hl => by
    unfold wipe
    by_cases e : v = i
    · subst e
      rw [List.getElem?_set_self (by rw [wipe_length]; exact hl)]
    · rw [List.getElem?_set_ne e]
      exact wipe_in (by rcases List.mem_cons.mp h with q | q; exact absurd q.symm e; exact q) hl
theorem wipe_eq {σ σ' : L2.St} {vs : List Nat} (hl : σ'.length = σ.length) (h : ∀ j, j ∉ vs → σ'[j]? = σ[j]?) : wipe σ' vs = wipe σ vs := by
  refine List.ext_getElem? fun j => ?_
  by_cases e : j ∈ vs
  · by_cases hj : j < σ.length
    · rw [wipe_in e (by omega), wipe_in e hj]
    · rw [List.getElem?_eq_none (by rw [wipe_length]; omega), List.getElem?_eq_none (by rw [wipe_length]; omega)]
  · rw [wipe_out e, wipe_out e, h j e]
theorem wipe_wipe (σ : L2.St) (vs : List Nat) : wipe (wipe σ vs) vs = wipe σ vs := wipe_eq (wipe_length σ vs) fun j h => wipe_out h
def SGt (c : JC) (Γ : List OT) (is : List Nat) (tg : TG) (vg : VG) : Prop := ∀ (G H : Hp) (S : List (Addr × HO)) (env : Env) (σ : L2.St) (v : V) (d : D) (P : Env → Prop) (Q : L2.St → Hp → Prop), Slots c.K G Γ S env σ → Same G H → Dd c.K G v d → vg d env P →
  (∀ env' σ', P env' → Slots c.K G Γ S env' σ' → σ'.length = σ.length → (∀ j, j ∉ is → σ'[j]? = σ[j]?) → Q σ' H) → tg v σ H Q
def SGs (c : JC) (Γ : List OT) (is : List Nat) (tg : TGs) (vg : VGs) : Prop := ∀ (G H : Hp) (S : List (Addr × HO)) (env : Env) (σ : L2.St) (vs : List V) (ds : List D) (P : Env → Prop) (Q : L2.St → Hp → Prop), Slots c.K G Γ S env σ → Same G H → DdAll c.K G vs ds → vg ds env P →
  (∀ env' σ', P env' → Slots c.K G Γ S env' σ' → σ'.length = σ.length → (∀ j, j ∉ is → σ'[j]? = σ[j]?) → Q σ' H) → tg vs σ H Q
theorem tg_name (h : Γ[i]? = some .F) (hi : i ∈ is) : SGt c Γ is (gName i) (vgName i) := fun G H S env σ v d P Q sl sg hd hv k =>
  k _ _ hv (sl.setF h (.inr ⟨d, v, rfl, rfl, hd⟩)) (List.length_set ..) fun j hj => List.getElem?_set_ne (fun e => hj (by rw [← e]; exact hi))
theorem tg_nil : SGs c Γ is gNil vgNil := fun G H S env σ vs ds P Q sl sg hd hv k => by
  obtain ⟨rfl, p⟩ := hv
  cases hd
  exact ⟨rfl, k env σ p sl rfl fun _ _ => rfl⟩
theorem tg_cons {g : TG} {gs : TGs} {vg : VG} {vgs : VGs} (h : SGt c Γ is g vg) (t : SGs c Γ is gs vgs) : SGs c Γ is (gCons g gs) (vgCons vg vgs) := fun G H S env σ vs ds P Q sl sg hd hv k => by
  cases hd with
  | nil => exact hv.elim
  | cons h1 h2 =>
    exact ⟨_, _, rfl, h G H S env σ _ _ _ _ sl sg h1 hv fun e1 σ1 p1 sl1 l1 n1 => t G H S e1 σ1 _ _ _ _ sl1 sg h2 p1 fun e2 σ2 p2 sl2 l2 n2 => k e2 σ2 p2 sl2 (l2.trans l1) fun j hj => (n2 j hj).trans (n1 j hj)⟩
theorem tg_tup {gs : TGs} {vgs : VGs} {n : Nat} (t : SGs c Γ is gs vgs) : SGt c Γ is (gTup c.K n gs) (vgTup n vgs) := fun G H S env σ v d P Q sl sg hd hv k => by
  cases hd with
  | tup h1 h2 => exact ⟨_, _, rfl, same_t sg h1.sq, by rw [h2.len]; exact hv.1, t G H S env σ _ _ _ _ sl sg h2 hv.2 k⟩
  | _ => exact hv.elim
theorem Stx.item (st : Stx c Γ G H T S env σ m) {ds : List D} {G0 : Hp} (s0 : Same G0 G) {x : V} (y : YD c.K G0 ds i H x H') : ∃ d G', ds[i]? = some d ∧ Same G G' ∧ Stx c Γ G' H' T S env σ m ∧ Dd c.K G' x d := by
  obtain ⟨d, e, q⟩ := y
  rcases q with ⟨rfl, q⟩ | ⟨p, vs, es, rfl, rfl, hp, rfl, q⟩
  · exact ⟨d, G, e, Same.refl G, st, q.mono s0⟩
  · obtain ⟨st', s⟩ := st.newS (o := .tup vs) hp
    exact ⟨.tup es, _, e, s, st', .tup (.inl upd_same) (q.mono (s0.trans s))⟩
theorem Stx.push {acc : List V} {D : Addr} {y : V} (st : Stx c Γ G H ((D, .lst acc) :: T) S env σ m) : H D = some (.lst acc) ∧ Stx c Γ G (upd H D (.lst (acc ++ [y]))) ((D, .lst (acc ++ [y])) :: T) S env σ m := by
  obtain ⟨s, C, w, a, z⟩ := st
  exact ⟨w.hd, s, C, w.put, a, z⟩
theorem Stx.slots {env' : Env} {σ' : L2.St} (st : Stx c Γ G H T S env σ m) (z : Slots c.K G Γ S env' σ') : Stx c Γ G H T S env' σ' m := by
  obtain ⟨s, C, w, a, _⟩ := st
  exact ⟨s, C, w, a, z⟩
theorem s_lc {wi : TI} {vi : VA} {tg : TG} {vg : VG} {tt : TT} {vt : VT} {te : TE} {ve : VE} {vs : List Nat} (hi : SI c Γ wi vi) (hF : (vs.all fun i => decide (Γ[i]? = some .F)) = true) (hg : SGt c Γ vs tg vg) (ht : ST c Γ tt vt) (he : SF c Γ te ve) :
    SO c Γ (tLc wi tg tt te vs) (vLc vi vg vt ve vs) := fun T G H S env σ m P Q st hv k =>
  hi T G H S env σ m _ _ st hv fun items m1 J G1 H1 p1 s1 st1 wk => by
    obtain ⟨W, w0, wn, wd⟩ := p1
    intro D hD
    refine lc_it wk (fun i H' => ∃ G2 accV acc m', Same G1 G2 ∧ Stx c Γ G2 H' ((D, .lst accV) :: T) S env σ m' ∧ DdAll c.K G2 accV acc ∧ W i acc m') ⟨G1, [], [], m1, Same.refl _, st1.new hD, .nil, w0⟩ (fun i H' _ p => ?_) (fun i x Hi H' hi p y => ?_) (fun H' p => ?_)
    · obtain ⟨G2, accV, acc, m', s2, st2, _⟩ := p
      exact s2.trans st2.v
    · obtain ⟨G2, accV, acc, m', s2, st2, hacc, hw⟩ := p
      obtain ⟨d, G3, ed, s3, st3, hd⟩ := st2.item s2 y
      obtain ⟨q0, C0, q1, q2, z3⟩ := id st3
      refine hg G3 H' S (wipeE env vs) (wipe σ vs) x d _ _ (z3.wipeF hF) st3.v hd (wn i acc m' d hw ed) fun e1 σ1 pe sl1 l1 n1 => ⟨?_, ?_⟩
      · rw [wipe_eq l1 n1, wipe_wipe]
      · have st4 := st3.slots sl1
        refine ht _ G3 H' S e1 σ1 m' _ _ st4 pe fun b m2 G4 H4 S4 p4 s4 st5 => ?_
        cases b with
        | true =>
          rw [if_pos rfl] at p4 ⊢
          refine he _ G4 H4 S e1 σ1 m2 _ _ st5.dropT p4 fun y m3 u G5 H5 p5 s5 st6 hy => ?_
          have st7 := st6.slots (z3.mono (s4.trans s5))
          refine ⟨accV, st7.push (y := u).1, by rw [hacc.len]; exact p5.1, G5, accV ++ [u], acc ++ [y], m3, s2.trans (s3.trans (s4.trans s5)), st7.push.2, ?_, p5.2⟩
          exact (hacc.mono (s3.trans (s4.trans s5))).app (.one hy)
        | false =>
          rw [if_neg Bool.false_ne_true] at p4 ⊢
          exact ⟨G4, accV, acc, m2, s2.trans (s3.trans s4), st5.dropT.slots (z3.mono s4), hacc.mono (s3.trans s4), p4⟩
    · obtain ⟨G2, accV, acc, m', s2, st2, hacc, hw⟩ := p
      exact k (.lst acc) m' (.ref D) G2 H' [(D, .lst accV)] (wd acc m' hw) (s1.trans s2) st2 ⟨D, accV, rfl, rfl, hacc⟩
structure EndsOk (c : JC) (t : OT) (Γn Γb Γc : List OT) (Gs : Hp) (De : Ends) (Ve : VEnds) : Prop where
  nx : ∀ (G H : Hp) (S : List (Addr × HO)) (env : Env) (σ : L2.St) (m : Mst), Same Gs G → Stt c Γn G H S env σ m → Ve.nx env m → De.nx σ H
  rt : ∀ (G H : Hp) (S1 C : List (Addr × HO)) (m : Mst) (v : V) (d : D), Same Gs G → Same c.G0 G → Wd (S1 ++ (C ++ c.R)) G H → Amb c.K G m C → Own c.K G t S1 v d → Ve.rt d m → De.rt v H
  bk : ∀ (G H : Hp) (S : List (Addr × HO)) (env : Env) (σ : L2.St) (m : Mst), Same Gs G → Stt c Γb G H S env σ m → Ve.bk env m → De.bk σ H
  ct : ∀ (G H : Hp) (S : List (Addr × HO)) (env : Env) (σ : L2.St) (m : Mst), Same Gs G → Stt c Γc G H S env σ m → Ve.ct env m → De.ct σ H
theorem EndsOk.up {Gs G : Hp} {De : Ends} {Ve : VEnds} (s : Same Gs G) (e : EndsOk c t Γn Γb Γc Gs De Ve) : EndsOk c t Γn Γb Γc G De Ve :=
  ⟨fun G H S env σ m q => e.nx G H S env σ m (s.trans q), fun G H S1 C m v d q => e.rt G H S1 C m v d (s.trans q), fun G H S env σ m q => e.bk G H S env σ m (s.trans q), fun G H S env σ m q => e.ct G H S env σ m (s.trans q)⟩
def SS (c : JC) (t : OT) (Γ Γn Γb Γc : List OT) (ts : TS) (vs : VS) : Prop := ∀ (G H : Hp) (S : List (Addr × HO)) (env : Env) (σ : L2.St) (m : Mst) (De : Ends) (Ve : VEnds), EndsOk c t Γn Γb Γc G De Ve → Stt c Γ G H S env σ m → vs Ve env m → ts De σ H
theorem x_next : SS c t Γ Γ Γb Γc tNext vNext := fun G H S env σ m De Ve e st hv => e.nx G H S env σ m (Same.refl _) st hv
theorem x_seq {a b : TS} {x y : VS} (ha : SS c t Γ Γ1 Γb Γc a x) (hb : SS c t Γ1 Γn Γb Γc b y) : SS c t Γ Γn Γb Γc (tSeq a b) (vSeqS x y) := fun G H S env σ m De Ve e st hv =>
  ha G H S env σ m { De with nx := b De } { Ve with nx := y Ve } ⟨fun G H S env σ m s st hv => hb G H S env σ m De Ve (e.up s) st hv, e.rt, e.bk, e.ct⟩ st hv
theorem x_drop {te : TE} {ve : VE} (h : SB c Γ te ve) : SS c t Γ Γ Γb Γc (tDrop te) (vDrop ve) := fun G H S env σ m De Ve e st hv =>
  h [] G H S env σ m _ _ st hv fun d m' v G' H' S1 p s st' _ => e.nx G' H' S env σ m' s st'.drop p
theorem x_retF {te : TE} {ve : VE} (h : SF c Γ te ve) : SS c .F Γ Γn Γb Γc (tRet te) (vRet ve) := fun G H S env σ m De Ve e st hv =>
  h [] G H S env σ m _ _ st hv fun d m' v G' H' p s st' q => by
    obtain ⟨s', C, w, a, z⟩ := st'
    exact e.rt G' H' [] C m' v d s s' w.dropL.dropL a ⟨rfl, q⟩ p
theorem x_retO {te : TE} {ve : VE} (h : SO c Γ te ve) : SS c .O Γ Γn Γb Γc (tRet te) (vRet ve) := fun G H S env σ m De Ve e st hv =>
  h [] G H S env σ m _ _ st hv fun d m' v G' H' S1 p s st' q => by
    obtain ⟨s', C, w, a, z⟩ := st'
    rw [List.append_nil] at w
    exact e.rt G' H' S1 C m' v d s s' w.dropM a q p
theorem x_retV (hi : Γ[i]? = some t) : SS c t Γ Γn Γb Γc (tRet (tVar i)) (vRet (vVar i)) := fun G H S env σ m De Ve e st hv => by
  obtain ⟨d, ed, p⟩ := hv
  obtain ⟨s', C, w, a, z⟩ := st
  obtain ⟨v, A1, A2, A3, e1, rfl, e3, e4⟩ := z.at ed hi
  refine ⟨v, e1, e.rt G H A2 C m v d (Same.refl _) s' ?_ a e3 p⟩
  have w1 : Wd (A1 ++ (A2 ++ (A3 ++ (C ++ c.R)))) G H := by
    rw [List.nil_append, List.append_assoc, List.append_assoc] at w
    exact w
  exact w1.dropL.dropM
theorem own_non {K : PySem.W.Frag} : Own K G t [] .non .non := by cases t <;> exact ⟨rfl, .non⟩
theorem x_if {tt : TT} {vt : VT} {a b : TS} {x y : VS} (ht : ST c Γ tt vt) (ha : SS c t Γ Γn Γb Γc a x) (hb : SS c t Γ Γn Γb Γc b y) : SS c t Γ Γn Γb Γc (tIfS tt a b) (vIf vt x y) := fun G H S env σ m De Ve e st hv =>
  ht [] G H S env σ m _ _ st hv fun q m1 G1 H1 S1 p1 s1 st1 => by
    cases q with
    | true =>
      rw [if_pos rfl] at p1 ⊢
      exact ha G1 H1 S env σ m1 De Ve (e.up s1) st1.drop p1
    | false =>
      rw [if_neg Bool.false_ne_true] at p1 ⊢
      exact hb G1 H1 S env σ m1 De Ve (e.up s1) st1.drop p1
theorem Stt.weak (hl : Γ1.length = Γ.length) (hz : (Γ.zip Γ1).all (fun p => leO p.1 p.2) = true) (st : Stt c Γ G H S env σ m) : ∃ G' S', Same G G' ∧ Stt c Γ1 G' H S' env σ m := by
  obtain ⟨s, C, w, a, z⟩ := st
  obtain ⟨G', S', s', w', z'⟩ := z.weak (Same.refl G) hl hz w
  exact ⟨G', S', s', s.trans s', C, w', a.mono s', z'⟩
theorem x_pre {a : TS} {x : VS} (h : SS c t Γ1 Γn Γb Γc a x) (hl : Γ1.length = Γ.length := by rfl) (hz : (Γ.zip Γ1).all (fun p => leO p.1 p.2) = true := by rfl) : SS c t Γ Γn Γb Γc a x := fun G H S env σ m De Ve e st hv => by
  obtain ⟨G', S', s, st'⟩ := st.weak hl hz
  exact h G' H S' env σ m De Ve (e.up s) st' hv
theorem x_post {a : TS} {x : VS} (h : SS c t Γ Γ1 Γb Γc a x) (hl : Γn.length = Γ1.length := by rfl) (hz : (Γ1.zip Γn).all (fun p => leO p.1 p.2) = true := by rfl) : SS c t Γ Γn Γb Γc a x := fun G H S env σ m De Ve e st hv =>
  h G H S env σ m De Ve ⟨fun G H S env σ m s st hv => by
    obtain ⟨G', S', s', st'⟩ := st.weak hl hz
    exact e.nx G' H S' env σ m (s.trans s') st' hv, e.rt, e.bk, e.ct⟩ st hv
theorem Slots.wipe1 {K : PySem.W.Frag} (h : Slots K G Γ S env σ) {i : Nat} (hi : i < env.length) {t' : OT} (w : Wd (S ++ R) G H) : ∃ S', Wd (S' ++ R) G H ∧ Slots K G (Γ.set i t') S' (env.set i none) σ := by
  obtain ⟨S1, S2, S3, rfl, q⟩ := h.put hi
  refine ⟨S1 ++ ([] ++ S3), ?_, ?_⟩
  · rw [List.append_assoc, List.append_assoc] at w
    rw [List.append_assoc, List.nil_append]
    exact w.dropM
  · have q2 := q G [] t' none (σ[i]'(by rw [h.len.1]; exact hi)) (Same.refl G) (.inl ⟨rfl, rfl⟩)
    rw [List.set_getElem_self] at q2
    exact q2
def wipeΓ (Γ : List OT) : List Nat → List OT
  | [] => Γ
  | v :: vs => (wipeΓ Γ vs).set v .F
theorem wipeE_len (env : Env) : ∀ vs : List Nat, (wipeE env vs).length = env.length
  | [] => rfl
  | v :: vs => by unfold wipeE; rw [List.length_set, wipeE_len env vs]
theorem Slots.wipes {K : PySem.W.Frag} (h : Slots K G Γ S env σ) (w : Wd (S ++ R) G H) : ∀ {vs : List Nat}, (vs.all fun i => decide (i < Γ.length)) = true → ∃ S', Wd (S' ++ R) G H ∧ Slots K G (wipeΓ Γ vs) S' (wipeE env vs) σ
  | [], _ => ⟨S, w, h⟩
  | v :: vs, e => by
    rw [List.all_cons, Bool.and_eq_true] at e
    obtain ⟨S', w', h'⟩ := Slots.wipes h w e.2
    exact h'.wipe1 (by rw [wipeE_len, ← h.len.2]; exact of_decide_eq_true e.1) w'
theorem Stx.wipes (st : Stt c Γ G H S env σ m) {ws : List Nat} (hv : (ws.all fun i => decide (i < Γ.length)) = true) : ∃ S', Stt c (wipeΓ Γ ws) G H S' (wipeE env ws) σ m := by
  obtain ⟨s, C, w, a, z⟩ := st
  obtain ⟨S', w', z'⟩ := z.wipes w hv
  exact ⟨S', s, C, w', a, z'⟩
theorem x_for {Γ' : List OT} {ws : List Nat} {wi : TI} {vi : VA} {tg : TG} {vg : VG} {b : TS} {y : VS} (hi : SI c Γ wi vi) (hg : SGt c Γ' is tg vg) (hb : SS c t Γ' Γ' Γ' Γ' b y) (hw : wipeΓ Γ ws = Γ' := by rfl) (hw' : wipeΓ Γ' ws = Γ' := by rfl)
    (hv : (ws.all fun i => decide (i < Γ.length)) = true := by rfl) (hv' : (ws.all fun i => decide (i < Γ'.length)) = true := by rfl) : SS c t Γ Γ' Γb Γc (tFor wi tg b) (vFor ws vi vg y) := fun G H S env σ m De Ve e st hv0 =>
  hi [] G H S env σ m _ _ st hv0 fun items m1 J G1 H1 p1 s1 st1 wk => by
    obtain ⟨W, w0, wn, wd⟩ := p1
    obtain ⟨S1, st1⟩ := Stx.wipes st1 hv
    rw [hw] at st1
    have wp : ∀ {G H : Hp} {S : List (Addr × HO)} {env : Env} {σ : L2.St} {m : Mst}, Stt c Γ' G H S env σ m → ∃ S', Stt c Γ' G H S' (wipeE env ws) σ m := fun st => by
      have q := Stx.wipes st hv'
      rw [hw'] at q
      exact q
    refine for_it wk (fun i σ H' => ∃ G2 S2 env2 m2, Same G1 G2 ∧ Stt c Γ' G2 H' S2 env2 σ m2 ∧ W i env2 m2) ⟨G1, S1, _, m1, Same.refl _, st1, w0⟩ (fun i σ H' _ p => ?_) (fun i x σ Hi H' hi p y => ?_) (fun σ H' p => ?_)
    · obtain ⟨G2, S2, env2, m2, s2, st2, _⟩ := p
      exact s2.trans st2.v
    · obtain ⟨G2, S2, env2, m2, s2, st2, hw⟩ := p
      obtain ⟨d, G3, ed, s3, st3, hd⟩ := st2.item s2 y
      obtain ⟨q0, C0, q1, q2, z3⟩ := id st3
      refine hg G3 H' S2 env2 σ x d _ _ z3 st3.v hd (wn i env2 m2 d hw ed) fun e1 σ1 pe sl1 _ _ => ?_
      have up : Same G G3 := s1.trans (s2.trans s3)
      exact hb G3 H' S2 e1 σ1 m2 _ { Ve with nx := fun e2 m2 => W (i + 1) (wipeE e2 ws) m2, ct := fun e2 m2 => W (i + 1) (wipeE e2 ws) m2, bk := fun e2 m2 => Ve.nx (wipeE e2 ws) m2 } ⟨fun G H S env σ m s st hv => by
        obtain ⟨S', st'⟩ := wp st
        exact ⟨G, S', _, m, s2.trans (s3.trans s), st', hv⟩, (e.up up).rt, fun G H S env σ m s st hv => by
        obtain ⟨S', st'⟩ := wp st
        exact (e.up up).nx G H S' _ σ m s st' hv, fun G H S env σ m s st hv => by
        obtain ⟨S', st'⟩ := wp st
        exact ⟨G, S', _, m, s2.trans (s3.trans s), st', hv⟩⟩ (st3.slots sl1) pe
    · obtain ⟨G2, S2, env2, m2, s2, st2, hw⟩ := p
      exact e.nx G2 H' S2 env2 σ m2 (s1.trans s2) st2 (wd env2 m2 hw)
theorem Stx.put (st : Stx c Γ G H S1 S env σ m) (hi : i < Γ.length) (q : Own c.K G t S1 v d) : ∃ S', Stt c (Γ.set i t) G H S' (env.set i (some d)) (σ.set i (some v)) m := by
  obtain ⟨s, C, w, a, z⟩ := st
  obtain ⟨A1, A2, A3, rfl, p⟩ := z.put (i := i) (by rw [← z.len.2]; exact hi)
  refine ⟨A1 ++ (S1 ++ A3), s, C, ?_, a, p G S1 t (some d) (some v) (Same.refl G) (.inr ⟨d, v, rfl, rfl, q⟩)⟩
  rw [List.append_assoc, List.append_assoc] at w
  have w2 : Wd (A1 ++ (S1 ++ (A2 ++ (A3 ++ (C ++ c.R))))) G H := w.perm (List.perm_append_comm_assoc A1 S1 _)
  rw [List.nil_append, List.append_assoc, List.append_assoc]
  rw [← List.append_assoc] at w2
  have w3 := w2.dropM
  rw [List.append_assoc] at w3
  exact w3
theorem x_asgF {te : TE} {ve : VE} (h : SF c Γ te ve) (hi : i < Γ.length := by decide) : SS c t Γ (Γ.set i .F) Γb Γc (tAsg te (gName i)) (vAsg ve (vgName i)) := fun G H S env σ m De Ve e st hv =>
  h [] G H S env σ m _ _ st hv fun d m' v G' H' p s st' q => by
    obtain ⟨S', st2⟩ := Stx.put (i := i) (t := .F) st' hi ⟨rfl, q⟩
    exact e.nx G' H' S' _ _ m' s st2 p
theorem x_asgO {te : TE} {ve : VE} (h : SO c Γ te ve) (hi : i < Γ.length := by decide) : SS c t Γ (Γ.set i .O) Γb Γc (tAsg te (gName i)) (vAsg ve (vgName i)) := fun G H S env σ m De Ve e st hv =>
  h [] G H S env σ m _ _ st hv fun d m' v G' H' S1 p s st' q => by
    rw [List.append_nil] at st'
    obtain ⟨S', st2⟩ := Stx.put (i := i) (t := .O) st' hi q
    exact e.nx G' H' S' _ _ m' s st2 p
theorem x_asgT {te : TE} {ve : VE} {tg : TG} {vg : VG} (h : SF c Γ te ve) (hg : SGt c Γ is tg vg) : SS c t Γ Γ Γb Γc (tAsg te tg) (vAsg ve vg) := fun G H S env σ m De Ve e st hv =>
  h [] G H S env σ m _ _ st hv fun d m' v G' H' p s st' q => by
    obtain ⟨q0, C0, q1, q2, z⟩ := id st'
    exact hg G' H' S env σ v d _ _ z st'.v q p fun env' σ' p' z' _ _ => e.nx G' H' S env' σ' m' s (st'.slots z') p'
end
end Ps
namespace Ps
open PySem PySem.Spec PyProof.Rows L2
section
variable {c : JC} {Γ Γ1 Γ2 Γn Γb Γc : List OT} {G G' H H' : Hp} {T S S1 S2 R : List (Addr × HO)} {env : Env} {σ : L2.St} {m : Mst} {v : V} {d : D} {t : OT} {i j : Nat} {is : List Nat}
theorem Wd.putM {A B : List (Addr × HO)} {l : Addr} {o o' : HO} (w : Wd (A ++ ((l, o) :: B)) G H) : Wd (A ++ ((l, o') :: B)) G (upd H l o') :=
  ((w.perm (List.perm_middle.symm)).put (o' := o')).perm List.perm_middle
def MuV (K : PySem.W.Frag) (r : V → List V → Hp → VK → Prop) (f : List D → List D → (List D → D → Prop) → Prop) : Prop := ∀ (G H : Hp) (a : Addr) (vs : List V) (ds : List D) (xs : List V) (es : List D) (P : List D → D → Prop) (Q : VK), Same G H → H a = some (.lst vs) → DdAll K G vs ds → TpAll K G H xs es → f ds es P →
  (∀ ds' z vs' v, P ds' z → DdAll K G vs' ds' → Q v (upd H a (.lst vs'))) → r (.ref a) xs H Q
def vApp (i : Nat) (ve : VE) : VS := fun V env m => ∃ ds, env[i]? = some (some (.lst ds)) ∧ ve env m fun d m1 => ds.length < sizeLine ∧ V.nx (env.set i (some (.lst (ds ++ [d])))) m1
theorem kV_of {K : PySem.W.Frag} {y : D} {u : V} {k : Key} (h : Tp K G H u y) (e : dKey y = some k) : u = kV k := by
  cases y with
  | int i => cases e; exact h.intInv
  | str z => cases e; exact h.strInv
  | _ => cases e
theorem any_fst {α β : Type} (p : Key → Bool) : ∀ {l : List (Key × α)} {r : List (Key × β)}, l.map Prod.fst = r.map Prod.fst → (l.any fun kv => p kv.1) = (r.any fun kv => p kv.1)
  | [], [], _ => rfl
  | [], _ :: _, h => by simp at h
  | _ :: _, [], h => by simp at h
  | x :: l, y :: r, h => by
    rw [List.map_cons, List.map_cons] at h
    obtain ⟨h1, h2⟩ := List.cons.inj h
    rw [List.any_cons, List.any_cons, h1, any_fst p h2]
theorem put_fst {k : Key} {v : V} {d : D} {kvs : List (Key × V)} {kds : List (Key × D)} (e : kvs.map Prod.fst = kds.map Prod.fst) : (putK kvs k v).map Prod.fst = (dput kds k d).map Prod.fst := by
  unfold putK dput
  rw [any_fst (fun x => decide (x = k)) e]
  split
  · rw [List.map_map, List.map_map]
    have h1 : (Prod.fst ∘ fun (kv : Key × V) => if kv.1 = k then (kv.1, v) else kv) = Prod.fst := by funext x; simp only [Function.comp]; split <;> rfl
    have h2 : (Prod.fst ∘ fun (kv : Key × D) => if kv.1 = k then (kv.1, d) else kv) = Prod.fst := by funext x; simp only [Function.comp]; split <;> rfl
    rw [h1, h2, e]
  · rw [List.map_append, List.map_append, e]; rfl
theorem map_put {K : PySem.W.Frag} {k : Key} {v : V} {d : D} (h : Dd K G v d) : ∀ {kvs : List (Key × V)} {kds : List (Key × D)}, kvs.map Prod.fst = kds.map Prod.fst → DdAll K G (kvs.map Prod.snd) (kds.map Prod.snd) →
    DdAll K G ((kvs.map (fun kv => if kv.1 = k then (kv.1, v) else kv)).map Prod.snd) ((kds.map (fun kv => if kv.1 = k then (kv.1, d) else kv)).map Prod.snd)
  | [], [], _, _ => .nil
  | [], _ :: _, e, _ => by simp at e
  | _ :: _, [], e, _ => by simp at e
  | x :: l, y :: r, e, q => by
    rw [List.map_cons, List.map_cons] at e
    obtain ⟨h1, h2⟩ := List.cons.inj e
    rw [List.map_cons, List.map_cons] at q
    cases q with
    | cons q1 q2 =>
      rw [List.map_cons, List.map_cons, List.map_cons, List.map_cons, h1]
      refine .cons ?_ (map_put h h2 q2)
      by_cases z : y.1 = k
      · rw [if_pos z, if_pos z]; exact h
      · rw [if_neg z, if_neg z]; exact q1
theorem put_snd {K : PySem.W.Frag} {k : Key} {v : V} {d : D} (h : Dd K G v d) {kvs : List (Key × V)} {kds : List (Key × D)} (e : kvs.map Prod.fst = kds.map Prod.fst) (q : DdAll K G (kvs.map Prod.snd) (kds.map Prod.snd)) : DdAll K G ((putK kvs k v).map Prod.snd) ((dput kds k d).map Prod.snd) := by
  unfold putK dput
  rw [any_fst (fun x => decide (x = k)) e]
  split
  · exact map_put h e q
  · rw [List.map_append, List.map_append]; exact q.app (.one h)
theorem get_snd {K : PySem.W.Frag} {k : Key} : ∀ {kvs : List (Key × V)} {kds : List (Key × D)}, kvs.map Prod.fst = kds.map Prod.fst → DdAll K G (kvs.map Prod.snd) (kds.map Prod.snd) →
    (valV kvs k = none ∧ dget kds k = none) ∨ ∃ v d, valV kvs k = some v ∧ dget kds k = some d ∧ Dd K G v d
  | [], [], _, _ => .inl ⟨rfl, rfl⟩
  | [], _ :: _, e, _ => by simp at e
  | _ :: _, [], e, _ => by simp at e
  | x :: l, y :: r, e, q => by
    rw [List.map_cons, List.map_cons] at e
    obtain ⟨h1, h2⟩ := List.cons.inj e
    rw [List.map_cons, List.map_cons] at q
    cases q with
    | cons q1 q2 =>
      by_cases z : y.1 = k
      · refine .inr ⟨x.2, y.2, ?_, ?_, q1⟩
        · rw [valV_pos (by rw [h1]; exact z)]
        · unfold dget; rw [List.find?_cons_of_pos (by simp [z])]; rfl
      · rcases get_snd (k := k) h2 q2 with ⟨h3, h4⟩ | ⟨v, d, h3, h4, h5⟩
        · refine .inl ⟨by rw [valV_neg (by rw [h1]; exact z)]; exact h3, ?_⟩
          unfold dget; rw [List.find?_cons_of_neg (by simp [z])]; exact h4
        · refine .inr ⟨v, d, by rw [valV_neg (by rw [h1]; exact z)]; exact h3, ?_, h5⟩
          unfold dget; rw [List.find?_cons_of_neg (by simp [z])]; exact h4
theorem Slots.put2 {u w : V} {x y : D} (st : Stt c Γ G H S env σ m) (hi : Γ[i]? = some .F) (hj : Γ[j]? = some .F) (hx : Dd c.K G u x) (hy : Dd c.K G w y) : Stt c Γ G H S ((env.set i (some x)).set j (some y)) ((σ.set i (some u)).set j (some w)) m := by
  obtain ⟨s, C, w', a, z⟩ := st
  exact ⟨s, C, w', a, (z.setF hi (.inr ⟨x, u, rfl, rfl, hx⟩)).setF hj (.inr ⟨y, w, rfl, rfl, hy⟩)⟩
theorem x_raise0 {W : WX} {VW : XW} {C : Addr} (hx : ExOk c Γ W VW) : SS c t Γ Γn Γb Γc (tRz W (.ref C)) (vRaise VW C []) := fun G H S env σ m De Ve e st hv =>
  hx G H S env σ m C [] none st (.inl ⟨rfl, rfl⟩) hv
def vstart (N : Nat) (ds : List D) : Env := ds.map some ++ List.replicate (N - ds.length) none
theorem slots_nones {K : PySem.W.Frag} : ∀ n : Nat, Slots K G (List.replicate n .F) [] (List.replicate n none) (List.replicate n (none : Option V))
  | 0 => .nil
  | n + 1 => .no (slots_nones n)
theorem slots_args {K : PySem.W.Frag} {r : Nat} : ∀ {vs : List V} {ds : List D}, DdAll K G vs ds → Slots K G (List.replicate (ds.length + r) .F) [] (ds.map some ++ List.replicate r none) (vs.map some ++ List.replicate r none)
  | _, _, .nil => by rw [List.length_nil, Nat.zero_add]; exact slots_nones r
  | _, _, .cons (ds := ds) h t => by
    rw [show (_ :: ds).length + r = (ds.length + r) + 1 by rw [List.length_cons]; omega, List.replicate_succ]
    exact .yes (S1 := []) ⟨rfl, h⟩ (slots_args t)
theorem slots_start {K : PySem.W.Frag} {N : List Str} {vs : List V} {ds : List D} (h : DdAll K G vs ds) (hl : ds.length ≤ N.length) : Slots K G (List.replicate N.length .F) [] (vstart N.length ds) (L2.start N vs) := by
  unfold vstart L2.start
  rw [h.len]
  have q := slots_args (r := N.length - ds.length) h
  rw [show ds.length + (N.length - ds.length) = N.length by omega] at q
  exact q
abbrev vends (P : D → Mst → Prop) : VEnds := { nx := fun _ m => P .non m, rt := P }
theorem sim_def {K : PySem.W.Frag} {t : OT} {N : List Str} {Γn Γb Γc : List OT} {ts : XK → TS} {vs : XV → VS} {n : Nat} (hn : n ≤ N.length)
    (h : ∀ (c : JC) (W : XK) (VX : XV), c.K = K → (∀ Γ, ExOk c Γ (fun cls d _ H => W cls d H) (fun C fs _ m => VX C fs m)) → SS c t (List.replicate N.length .F) Γn Γb Γc (ts W) (vs VX))
    {vsp : VSp} (hv : ∀ ds m P X, vsp ds m P X → ds.length = n ∧ vs X (vends P) (vstart N.length ds) m) :
    ∀ us H Q E, spV K t vsp us H Q E → ts E { nx := fun _ H' => Q .non H', rt := Q } (L2.start N us) H := by
  rintro us H Q E ⟨ds, G, R, C, m, P, X, w, a, q, hs, k, kx⟩
  obtain ⟨hl, hb⟩ := hv ds m P X hs
  have w0 : Wd ([] ++ ([] ++ (C ++ R))) G H := w
  refine h ⟨K, R, G⟩ E X rfl (fun Γ G' H' S env σ m' C' fs d st ex hx => ?_) G H [] (vstart N.length ds) (L2.start N us) m _ (vends P) ⟨?_, ?_, fun _ _ _ _ _ _ _ _ h => h.elim, fun _ _ _ _ _ _ _ _ h => h.elim⟩ ⟨Same.refl G, C, w0, a, slots_start q (by omega)⟩ hb
  · obtain ⟨s, C2, w2, a2, z2⟩ := st
    exact kx C' fs m' d H' G' C2 hx s w2.dropL.dropL a2 ex
  · rintro G' H' S env σ m' s ⟨_, C2, w2, a2, z2⟩ hp
    exact k .non m' .non H' G' [] C2 hp s w2.dropL.dropL a2 own_non
  · intro G' H' S1 C2 m' v d s _ w2 a2 o hp
    exact k d m' v H' G' S1 C2 hp s w2 a2 o
end
end Ps
namespace Ps
open PySem PySem.Spec PyProof.Rows L2
mutual
def D.py : D → PyData
  | .non => .none
  | .bl b => .bool b
  | .int i => .int i
  | .str s => .str s
  | .lst ds => .list (D.pys ds)
  | .tup ds => .tuple (D.pys ds)
  | _ => .dict []
def D.pys : List D → List PyData
  | [] => []
  | d :: ds => d.py :: D.pys ds
end
mutual
/-- data without dicts, instances, classes -/
def D.pl : D → Bool
  | .non | .bl _ | .int _ | .str _ => true
  | .lst ds => D.pls ds
  | .tup ds => D.pls ds
  | _ => false
def D.pls : List D → Bool
  | [] => true
  | d :: ds => d.pl && D.pls ds
end
section
variable {K : PySem.W.Frag} {G H : Hp}
mutual
theorem Dd.dp : ∀ {d : D} {v : V}, Dd K G v d → d.pl = true → Dp K G v d.py
  | .non, _, h, _ => by cases h; exact .non
  | .bl b, _, h, _ => by cases h; exact .bl b
  | .int b, _, h, _ => by cases h; exact .int b
  | .str b, _, h, _ => by cases h; exact .str b
  | .lst ds, _, h, e => by
    cases h with | lst h1 h2 => exact .lst (SqL.of h1) (DdAll.dp h2 (by simpa [D.pl] using e))
  | .tup ds, _, h, e => by
    cases h with | tup h1 h2 => exact .tup h1.sq (DdAll.dp h2 (by simpa [D.pl] using e))
  | .adr _, _, _, e => by simp [D.pl] at e
  | .ty _, _, _, e => by simp [D.pl] at e
  | .scr _, _, _, e => by simp [D.pl] at e
  | .dic _, _, _, e => by simp [D.pl] at e
  | .obj _ _, _, _, e => by simp [D.pl] at e
  | .exc _ _, _, _, e => by simp [D.pl] at e
  | .dcl _ _, _, _, e => by simp [D.pl] at e
  | .dct _ _, _, _, e => by simp [D.pl] at e
  | .lck _ _, _, _, e => by simp [D.pl] at e
theorem DdAll.dp : ∀ {ds : List D} {vs : List V}, DdAll K G vs ds → D.pls ds = true → DpAll K G vs (D.pys ds)
  | [], _, h, _ => by cases h; exact .nil
  | d :: ds, _, h, e => by
    rw [D.pls, Bool.and_eq_true] at e
    cases h with | cons h1 h2 => exact .cons (h1.dp e.1) (h2.dp e.2)
end
def D.fl : D → Bool
  | .non | .bl _ | .int _ | .str _ => true
  | _ => false
theorem fl4 {x : D} (e : x.fl = true) : x = .non ∨ (∃ b, x = .bl b) ∨ (∃ i, x = .int i) ∨ ∃ z, x = .str z := by
  cases x <;> first | exact .inl rfl | exact .inr (.inl ⟨_, rfl⟩) | exact .inr (.inr (.inl ⟨_, rfl⟩)) | exact .inr (.inr (.inr ⟨_, rfl⟩)) | cases e
def flW : D → V
  | .bl b => .bl b
  | .int i => .int i
  | .str z => .str z
  | _ => .non
theorem fl_dd {x : D} {u : V} (e : x.fl = true) (h : Dd K G u x) : u = flW x := by
  cases h <;> first | rfl | cases e
def scD : D → D → Bool
  | .non, .non => true | .non, .int _ => true | .int _, .non => true | .non, .bl _ => true | .bl _, .non => true | .non, .str _ => true | .str _, .non => true
  | .int _, .int _ => true | .bl _, .bl _ => true | .str _, .str _ => true
  | .int _, .str _ => true | .str _, .int _ => true | .bl _, .str _ => true | .str _, .bl _ => true
  | _, _ => false
def eqS : D → D → Bool
  | .non, .non => true
  | .bl a, .bl b => decide (a = b)
  | .int a, .int b => decide (a = b)
  | .str a, .str b => decide (a = b)
  | _, _ => false
theorem scD_z {x y : D} (e : scD x y = true) : x.fl = true ∧ y.fl = true := by
  cases x <;> first | exact absurd e Bool.false_ne_true | (refine ⟨rfl, ?_⟩; cases y <;> first | rfl | exact absurd e Bool.false_ne_true)
theorem scD_v {x y : D} {u v : V} (h : Dd K G u x) (h' : Dd K G v y) (e : scD x y = true) : scal u v = true ∧ decide (u = v) = eqS x y := by
  have z := scD_z e
  rcases fl4 z.1 with rfl | ⟨a, rfl⟩ | ⟨a, rfl⟩ | ⟨a, rfl⟩ <;> rcases fl4 z.2 with rfl | ⟨b, rfl⟩ | ⟨b, rfl⟩ | ⟨b, rfl⟩ <;> first | exact absurd e Bool.false_ne_true | (obtain rfl := fl_dd rfl h; obtain rfl := fl_dd rfl h'; exact ⟨rfl, by simp [flW, eqS]⟩)
def vAdd : D → D → (D → Prop) → Prop
  | .int i, .int j, P => P (.int (i + j))
  | .str a, .str b, P => a.length + b.length ≤ sizeLine ∧ P (.str (a ++ b))
  | .lst a, .lst b, P => a.length + b.length ≤ sizeLine ∧ P (.lst (a ++ b))
  | .tup a, .tup b, P => a.length + b.length ≤ sizeLine ∧ P (.tup (a ++ b))
  | _, _, _ => False
def vSub : D → D → (D → Prop) → Prop
  | .int i, .int j, P => P (.int (i - j))
  | _, _, _ => False
def vMod : D → D → (D → Prop) → Prop
  | .int i, .int j, P => 0 < j ∧ P (.int (i % j))
  | _, _, _ => False
def vEqC : D → D → (D → Prop) → Prop := fun x y P => if scD x y = true then P (.bl (eqS x y)) else (x.pl = true ∧ y.pl = true ∧ SeqAt.shaped x.py = true ∧ SeqAt.shaped y.py = true) ∧ P (.bl (PyData.eqv x.py y.py))
def vLt : D → D → (D → Prop) → Prop
  | .int i, .int j, P => P (.bl (decide (i < j)))
  | .str i, .str j, P => P (.bl (decide (i.cps.toList < j.cps.toList)))
  | _, _, _ => False
def vGt : D → D → (D → Prop) → Prop
  | .int i, .int j, P => P (.bl (decide (j < i)))
  | .str i, .str j, P => P (.bl (decide (j.cps.toList < i.cps.toList)))
  | _, _, _ => False
def D.isN : D → Bool
  | .non => true
  | _ => false
def eqF : D → D → Bool
  | .non, .non => true
  | .bl a, .bl b => a == b
  | .int a, .int b => a == b
  | .str a, .str b => a == b
  | .bl a, .int b => (if a then 1 else 0) == b
  | .int a, .bl b => a == (if b then 1 else 0)
  | _, _ => false
def vIn (neg : Bool) : D → D → (D → Prop) → Prop
  | x, .lst ds, P => (x.fl = true ∧ ds.all D.fl = true) ∧ P (.bl (if neg then !(ds.any fun y => eqF y x) else ds.any fun y => eqF y x))
  | x, .tup ds, P => (x.fl = true ∧ ds.all D.fl = true) ∧ P (.bl (if neg then !(ds.any fun y => eqF y x) else ds.any fun y => eqF y x))
  | .str i, .str j, P => P (.bl (if neg then !(!(Builtin.Str.occurrences j i 0 j.length 1).isEmpty) else !(Builtin.Str.occurrences j i 0 j.length 1).isEmpty))
  | x, .dic kds, P => ∃ k, dKey x = some k ∧ P (.bl (if neg then !(dget kds k).isSome else (dget kds k).isSome))
  | _, _, _ => False
def vIx : D → D → (D → Prop) → Prop
  | .lst ds, .int i, P => ∃ d, atI ds i = some d ∧ P d
  | .tup ds, .int i, P => ∃ d, atI ds i = some d ∧ P d
  | .str z, .int i, P => z.length ≤ sizeLine ∧ ∃ c, atI z.cps.toList i = some c ∧ P (.str ⟨#[c]⟩)
  | .dic kds, y, P => ∃ k d, dKey y = some k ∧ dget kds k = some d ∧ P d
  | _, _, _ => False
theorem o_add : OpV K (rAddU K) vAdd := fun G H x y d e P Q s h h' f k => by
  unfold vAdd at f
  split at f
  · obtain rfl := h.intInv; obtain rfl := h'.intInv
    exact w_addI (k _ _ _ f (.old (.int _) rfl))
  · obtain rfl := h.strInv; obtain rfl := h'.strInv
    exact w_addS f.1 (k _ _ _ f.2 (.old (.str _) rfl))
  · obtain ⟨a, vs, rfl, h1, q1⟩ := h.l s
    obtain ⟨b, ws, rfl, h2, q2⟩ := h'.l s
    exact w_addL h1 h2 (by rw [q1.len, q2.len]; exact f.1) fun p hp => k _ _ _ f.2 (.lst hp (q1.app q2))
  · obtain ⟨a, vs, rfl, g1, h1, q1⟩ := h.t s
    obtain ⟨b, ws, rfl, g2, h2, q2⟩ := h'.t s
    refine .inr (.inr ⟨a, b, vs, ws, rfl, rfl, h1, h2, by rw [q1.len, q2.len]; exact f.1, fun e => ?_, fun _ e => ?_, fun _ _ p hp => k _ _ _ f.2 (.tup hp (q1.app q2))⟩)
    · subst e
      cases q1
      exact k _ _ _ f.2 (.old (.tup g2 q2) rfl)
    · subst e
      cases q2
      rw [List.append_nil] at f
      exact k _ _ _ f.2 (.old (.tup g1 q1) rfl)
  · exact f.elim
theorem o_sub : OpV K rSubU vSub := fun G H x y d e P Q s h h' f k => by
  unfold vSub at f
  split at f
  · obtain rfl := h.intInv; obtain rfl := h'.intInv
    exact w_subI (k _ _ _ f (.old (.int _) rfl))
  · exact f.elim
theorem o_mod : OpV K rModU vMod := fun G H x y d e P Q s h h' f k => by
  unfold vMod at f
  split at f
  · obtain rfl := h.intInv; obtain rfl := h'.intInv
    exact w_modI f.1 (k _ _ _ f.2 (.old (.int _) rfl))
  · exact f.elim
theorem scD_fl {x y : D} (e : scD x y = true) : x.sc = true ∧ y.sc = true :=
  ⟨by rcases fl4 (scD_z e).1 with rfl | ⟨a, rfl⟩ | ⟨a, rfl⟩ | ⟨a, rfl⟩ <;> rfl, by rcases fl4 (scD_z e).2 with rfl | ⟨a, rfl⟩ | ⟨a, rfl⟩ | ⟨a, rfl⟩ <;> rfl⟩
theorem o_eq : OpV K (rEqU K) vEqC := fun G H x y d e P Q s h h' f k => by
  unfold vEqC at f
  split at f
  · rename_i z
    obtain ⟨z1, z2⟩ := scD_v (h.s (scD_fl z).1) (h'.s (scD_fl z).2) z
    exact .inl ⟨z1, by rw [z2]; exact k _ _ _ f (.old (.bl _) rfl)⟩
  · exact .inr ⟨_, _, (h.deep s).dp f.1.1, (h'.deep s).dp f.1.2.1, f.1.2.2.1, f.1.2.2.2, k _ _ _ f.2 (.old (.bl _) rfl)⟩
def rGtV : R2 := fun x y H Q => rGtU x y H Q ∨ ∃ i j, x = .str i ∧ y = .str j ∧ Q (.bl (decide (j.cps.toList < i.cps.toList))) H
theorem op_gtV {X : Cx} : OpR X (compareOp .Gt) rGtV := opr_or op_gtU op_gt_str
theorem o_lt : OpV K (rLtU K) vLt := fun G H x y d e P Q s h h' f k => by
  unfold vLt at f
  split at f
  · obtain rfl := h.intInv; obtain rfl := h'.intInv
    exact w_ltI (k _ _ _ f (.old (.bl _) rfl))
  · obtain rfl := h.strInv; obtain rfl := h'.strInv
    exact .inr ⟨_, _, rfl, rfl, k _ _ _ f (.old (.bl _) rfl)⟩
  · exact f.elim
theorem o_gt : OpV K rGtV vGt := fun G H x y d e P Q s h h' f k => by
  unfold vGt at f
  split at f
  · obtain rfl := h.intInv; obtain rfl := h'.intInv
    exact .inl (w_gtI (k _ _ _ f (.old (.bl _) rfl)))
  · obtain rfl := h.strInv; obtain rfl := h'.strInv
    exact .inr ⟨_, _, rfl, rfl, k _ _ _ f (.old (.bl _) rfl)⟩
  · exact f.elim
theorem Dd.isN {v : V} {d : D} (h : Dd K G v d) : decide (v = V.non) = d.isN := by cases h <;> simp [D.isN]
theorem Tp.isN {v : V} {d : D} (h : Tp K G H v d) : decide (v = V.non) = d.isN := by
  cases h with
  | dd h => exact h.isN
  | lst _ _ => simp [D.isN]
  | dic _ _ _ => simp [D.isN]
theorem fl_v {v : V} {d : D} (h : Dd K G v d) (e : d.fl = true) : flatV v = true := by cases h <;> first | rfl | cases e
theorem eqF_v {u v : V} {x y : D} (h : Dd K G u x) (h' : Dd K G v y) (e : x.fl = true) (e' : y.fl = true) : eqV u v = eqF x y := by
  rcases fl4 e with rfl | ⟨a, rfl⟩ | ⟨a, rfl⟩ | ⟨a, rfl⟩ <;> rcases fl4 e' with rfl | ⟨b, rfl⟩ | ⟨b, rfl⟩ | ⟨b, rfl⟩ <;> (obtain rfl := fl_dd rfl h; obtain rfl := fl_dd rfl h'; rfl)
theorem fls_v {vs : List V} : ∀ {ds : List D}, DdAll K G vs ds → ds.all D.fl = true → vs.all flatV = true := by
  induction vs with
  | nil => intro ds h e; rfl
  | cons v vs ih =>
    intro ds h e
    cases h with
    | cons h1 h2 =>
      rw [List.all_cons, Bool.and_eq_true] at e
      rw [List.all_cons, fl_v h1 e.1, ih h2 e.2]; rfl
theorem any_eqF {u : V} {x : D} (h : Dd K G u x) (e : x.fl = true) {vs : List V} : ∀ {ds : List D}, DdAll K G vs ds → ds.all D.fl = true → inV u vs = ds.any fun y => eqF y x := by
  induction vs with
  | nil => intro ds h e; cases h; rfl
  | cons v vs ih =>
    intro ds h' e'
    cases h' with
    | cons h1 h2 =>
      rw [List.all_cons, Bool.and_eq_true] at e'
      have q := ih h2 e'.2
      unfold inV at q ⊢
      rw [List.any_cons, List.any_cons, q, eqF_v h1 h e'.1 e]
theorem fl_sc {d : D} (e : d.fl = true) : d.sc = true := by cases d <;> first | rfl | cases e
theorem DGet.of {a : Addr} {kvs : List (Key × V)} {k : Key} {r : Option V} (h : Rd H a (.dK kvs)) (e : valV kvs k = r) : DGet H a (kV k) r := by rw [← e]; exact .inl ⟨kvs, k, h, rfl, rfl⟩
theorem o_in (neg : Bool) : OpV K (rInU K neg) (vIn neg) := fun G H x y d e P Q s h h' f k => by
  unfold vIn at f
  split at f
  · obtain ⟨a, vs, rfl, h1, q1⟩ := h'.l s
    have hx := h.s (fl_sc f.1.1)
    refine .inl ⟨a, vs, rfl, .inl (SqL.of h1), fl_v hx f.1.1, fls_v q1 f.1.2, ?_⟩
    rw [any_eqF hx f.1.1 q1 f.1.2]
    exact k _ _ _ f.2 (.old (.bl _) rfl)
  · obtain ⟨a, vs, rfl, g1, h1, q1⟩ := h'.t s
    have hx := h.s (fl_sc f.1.1)
    refine .inl ⟨a, vs, rfl, .inr h1, fl_v hx f.1.1, fls_v q1 f.1.2, ?_⟩
    rw [any_eqF hx f.1.1 q1 f.1.2]
    exact k _ _ _ f.2 (.old (.bl _) rfl)
  · obtain rfl := h.strInv; obtain rfl := h'.strInv
    exact .inr (.inl ⟨_, _, rfl, rfl, k _ _ _ f (.old (.bl _) rfl)⟩)
  · obtain ⟨a, kvs, rfl, h1, e1, q1⟩ := h'.dk s
    obtain ⟨kk, ek, f⟩ := f
    obtain rfl := kV_of h ek
    refine .inr (.inr ?_)
    rcases get_snd (k := kk) e1 q1 with ⟨z1, z2⟩ | ⟨v, d', z1, z2, z3⟩
    · refine ⟨a, none, rfl, DGet.of h1 z1, ?_⟩
      rw [z2] at f
      exact k _ _ _ f (.old (.bl _) rfl)
    · refine ⟨a, some v, rfl, DGet.of h1 z1, ?_⟩
      rw [z2] at f
      exact k _ _ _ f (.old (.bl _) rfl)
  · exact f.elim
theorem DdAll.atI {vs : List V} {ds : List D} (h : DdAll K G vs ds) {i : Int} {d : D} (e : L2.atI ds i = some d) : ∃ v, L2.atI vs i = some v ∧ Dd K G v d := by
  unfold L2.atI at e ⊢
  rw [h.len]
  cases q : ixN ds.length i with
  | none => rw [q] at e; cases e
  | some j =>
    rw [q] at e
    exact h.get e
theorem o_ix : OpF K (rIxU K) vIx := fun G H x y d e P Q s h h' f k => by
  unfold vIx at f
  split at f
  · obtain ⟨z, ez, f⟩ := f
    obtain ⟨a, vs, rfl, h1, q1⟩ := h.l s
    obtain rfl := h'.intInv
    obtain ⟨v, ev, hv⟩ := q1.atI ez
    exact w_ixL (SqL.of h1) ev (k _ _ f hv)
  · obtain ⟨z, ez, f⟩ := f
    obtain ⟨a, vs, rfl, _, h1, q1⟩ := h.t s
    obtain rfl := h'.intInv
    obtain ⟨v, ev, hv⟩ := q1.atI ez
    exact w_ixT h1 ev (k _ _ f hv)
  · obtain ⟨hz, c, ec, f⟩ := f
    obtain rfl := h.strInv; obtain rfl := h'.intInv
    exact w_ixS hz ec (k _ _ f (.str _))
  · obtain ⟨kk, z, ek, ez, f⟩ := f
    obtain ⟨a, kvs, rfl, h1, e1, q1⟩ := h.dk s
    obtain rfl := kV_of h' ek
    rcases get_snd (k := kk) e1 q1 with ⟨z1, z2⟩ | ⟨v, d', z1, z2, z3⟩
    · rw [z2] at ez; cases ez
    · rw [z2] at ez
      cases ez
      exact .inr (.inr ⟨a, v, rfl, DGet.of h1 z1, k _ _ f z3⟩)
  · exact f.elim
def cutD (xs : List D) (lo hi : Option Int) : List D := (xs.drop (HT.sIx xs.length 0 lo)).take (HT.sIx xs.length xs.length hi - HT.sIx xs.length 0 lo)
theorem DdAll.cut {vs : List V} {ds : List D} (h : DdAll K G vs ds) (lo hi : Option Int) : DdAll K G (cutV vs lo hi) (cutD ds lo hi) := by
  unfold cutV cutD
  rw [h.len]
  exact (h.drop _).take _
def vCut : D → Option Int → Option Int → (D → Prop) → Prop
  | .lst ds, lo, hi, P => P (.lst (cutD ds lo hi))
  | .tup ds, lo, hi, P => P (.tup (cutD ds lo hi))
  | .str z, lo, hi, P => z.length ≤ sizeLine ∧ P (.str (cutS z lo hi))
  | _, _, _, _ => False
theorem cut_whole {ds : List D} {lo hi : Option Int} (h : HT.sIx ds.length 0 lo = 0 ∧ HT.sIx ds.length ds.length hi = ds.length) : cutD ds lo hi = ds := by
  unfold cutD
  rw [h.1, h.2, List.drop_zero, Nat.sub_zero, List.take_length]
theorem o_cut : SlV K (rSlU K) vCut := fun G H x d lo hi P Q s h f k => by
  cases d with
  | lst ds =>
    obtain ⟨a, vs, rfl, h1, q1⟩ := h.l s
    exact w_slL (SqL.of h1) fun p hp => k _ _ _ f (.lst hp (q1.cut lo hi))
  | tup ds =>
    obtain ⟨a, vs, rfl, g1, h1, q1⟩ := h.t s
    refine .inl (.inr ⟨a, vs, rfl, h1, fun e => ?_, fun _ p hp => k _ _ _ f (.tup hp (q1.cut lo hi))⟩)
    rw [q1.len] at e
    have f : P (.tup (cutD ds lo hi)) := f
    rw [cut_whole e] at f
    exact k _ _ _ f (.old (.tup g1 q1) rfl)
  | str z =>
    obtain rfl := h.strInv
    exact .inr ⟨z, rfl, f.1, k _ _ _ f.2 (.old (.str _) rfl)⟩
  | _ => exact f.elim
theorem TpAll.inv1 {d : D} {vs : List V} (h : TpAll K G H vs [d]) : ∃ v, vs = [v] ∧ Tp K G H v d := by
  cases h with | cons h t => cases t; exact ⟨_, rfl, h⟩
theorem TpAll.inv2 {d e : D} {vs : List V} (h : TpAll K G H vs [d, e]) : ∃ v u, vs = [v, u] ∧ Tp K G H v d ∧ Tp K G H u e := by
  cases h with | cons h t => cases t with | cons h2 t => cases t; exact ⟨_, _, rfl, h, h2⟩
def vLen : List D → (D → Prop) → Prop
  | [.lst ds], P => P (.int ds.length)
  | [.tup ds], P => P (.int ds.length)
  | [.dic ds], P => P (.int ds.length)
  | [.str z], P => z.length ≤ sizeLine ∧ P (.int z.length)
  | [.scr ns], P => P (.int ns.length)
  | _, _ => False
theorem l_len : ClV K (rLenU K) vLen := fun G H xs ds P Q s h f k => by
  unfold vLen at f
  split at f
  · obtain ⟨v, rfl, hv⟩ := h.inv1
    replace h := hv
    obtain ⟨a, vs, rfl, h1, q1⟩ := h.l s
    exact w_lenL (SqL.of h1) (by rw [q1.len]; exact k _ _ _ f (.old (.int _) rfl))
  · obtain ⟨v, rfl, hv⟩ := h.inv1
    replace h := hv
    obtain ⟨a, vs, rfl, _, h1, q1⟩ := h.t s
    exact w_lenT h1 (by rw [q1.len]; exact k _ _ _ f (.old (.int _) rfl))
  · obtain ⟨v, rfl, hv⟩ := h.inv1
    replace h := hv
    obtain ⟨a, kvs, rfl, h1, e1, q1⟩ := h.dk s
    have el := congrArg List.length e1
    rw [List.length_map, List.length_map] at el
    exact .inr ⟨a, kvs, rfl, h1, by rw [el]; exact k _ _ _ f (.old (.int _) rfl)⟩
  · obtain ⟨v, rfl, hv⟩ := h.inv1
    replace h := hv
    obtain rfl := h.strInv
    exact w_lenS f.1 (k _ _ _ f.2 (.old (.int _) rfl))
  · obtain ⟨v, rfl, hv⟩ := h.inv1
    cases hv with | dd hv => cases hv with | scr h1 => exact w_lenL (same_l s h1) (by rw [List.length_map]; exact k _ _ _ f (.old (.int _) rfl))
  · exact f.elim
def kD : Key → D
  | .inl i => .int i
  | .inr s => .str s
theorem dd_kD {k : Key} : Dd K G (kV k) (kD k) := by cases k; exact .int _; exact .str _
theorem keys_d : ∀ {kvs : List (Key × V)} {kds : List (Key × D)}, kvs.map Prod.fst = kds.map Prod.fst → DdAll K G (kvs.map fun kv => kV kv.1) (kds.map fun kv => kD kv.1)
  | [], [], _ => .nil
  | [], _ :: _, e => by simp at e
  | _ :: _, [], e => by simp at e
  | x :: l, y :: r, e => by
    rw [List.map_cons, List.map_cons] at e
    obtain ⟨h1, h2⟩ := List.cons.inj e
    rw [List.map_cons, List.map_cons, h1]
    exact .cons dd_kD (keys_d h2)
def vList : List D → (D → Prop) → Prop
  | [.lst ds], P => P (.lst ds)
  | [.tup ds], P => P (.lst ds)
  | [.dic kds], P => P (.lst (kds.map fun kv => kD kv.1))
  | _, _ => False
theorem l_list : ClV K (rListU K) vList := fun G H xs ds P Q s h f k => by
  unfold vList at f
  split at f
  · obtain ⟨v, rfl, hv⟩ := h.inv1
    replace h := hv
    obtain ⟨a, vs, rfl, h1, q1⟩ := h.l s
    exact w_listL (SqL.of h1) fun p hp => k _ _ _ f (.lst hp q1)
  · obtain ⟨v, rfl, hv⟩ := h.inv1
    replace h := hv
    obtain ⟨a, vs, rfl, _, h1, q1⟩ := h.t s
    exact w_listT h1 fun p hp => k _ _ _ f (.lst hp q1)
  · obtain ⟨v, rfl, hv⟩ := h.inv1
    replace h := hv
    obtain ⟨a, kvs, rfl, h1, e1, q1⟩ := h.dk s
    exact .inr ⟨a, kvs, rfl, h1, fun p hp => k _ _ _ f (.lst hp (keys_d e1))⟩
  · exact f.elim
def vInt : List D → (D → Prop) → Prop
  | [.int i], P => P (.int i)
  | [.bl b], P => P (.int (if b then 1 else 0))
  | _, _ => False
theorem l_int : ClV K rIntU vInt := fun G H xs ds P Q s h f k => by
  unfold vInt at f
  split at f
  · obtain ⟨v, rfl, hv⟩ := h.inv1
    replace h := hv
    obtain rfl := h.intInv
    exact w_intI (k _ _ _ f (.old (.int _) rfl))
  · obtain ⟨v, rfl, hv⟩ := h.inv1
    replace h := hv
    obtain rfl := h.blInv
    exact w_intB (k _ _ _ f (.old (.int _) rfl))
  · exact f.elim
def vMin2 : List D → (D → Prop) → Prop
  | [.int i, .int j], P => P (.int (if j < i then j else i))
  | _, _ => False
theorem l_min2 : ClV K rMin2 vMin2 := fun G H xs ds P Q s h f k => by
  unfold vMin2 at f
  split at f
  · obtain ⟨v, u, rfl, hv, h'⟩ := h.inv2
    replace h := hv
    obtain rfl := h.intInv; obtain rfl := h'.intInv
    exact ⟨_, _, rfl, k _ _ _ f (.old (.int _) rfl)⟩
  · exact f.elim
theorem ints_v {ns : List Int} : ∀ {vs : List V}, DdAll K G vs (ns.map D.int) → vs = ns.map V.int := by
  induction ns with
  | nil => intro vs h; cases h; rfl
  | cons n ns ih =>
    intro vs h
    cases h with | cons h1 h2 => rw [List.map_cons, h1.intInv, ih h2]
theorem bls_v {ns : List Bool} : ∀ {vs : List V}, DdAll K G vs (ns.map D.bl) → vs = ns.map V.bl := by
  induction ns with
  | nil => intro vs h; cases h; rfl
  | cons n ns ih =>
    intro vs h
    cases h with | cons h1 h2 => rw [List.map_cons, h1.blInv, ih h2]
def vAll : List D → (D → Prop) → Prop
  | [.lst ds], P => ∃ ns : List Bool, ds = ns.map D.bl ∧ P (.bl (ns.all id))
  | _, _ => False
theorem l_all : ClV K (rAll K) vAll := fun G H xs ds P Q s h f k => by
  unfold vAll at f
  split at f
  · obtain ⟨v, rfl, hv⟩ := h.inv1
    replace h := hv
    obtain ⟨ns, rfl, f⟩ := f
    obtain ⟨a, vs, rfl, h1, q1⟩ := h.l s
    rw [bls_v q1] at h1
    exact w_all (SqL.of h1) (k _ _ _ f (.old (.bl _) rfl))
  · exact f.elim
theorem strs_v {ns : List Str} : ∀ {vs : List V}, DdAll K G vs (ns.map D.str) → vs = ns.map V.str := by
  induction ns with
  | nil => intro vs h; cases h; rfl
  | cons n ns ih =>
    intro vs h
    cases h with
    | cons h1 h2 =>
      cases h1
      rw [List.map_cons, ih h2]
def vExtend : List D → List D → (List D → D → Prop) → Prop
  | ds, [.lst es], P => ds.length + es.length ≤ sizeLine ∧ P (ds ++ es) .non
  | _, _, _ => False
theorem u_extend : MuV K rExtend vExtend := fun G H a vs ds xs es P Q s e q h f k => by
  unfold vExtend at f
  split at f
  · obtain ⟨v, rfl, hv⟩ := h.inv1
    replace h := hv
    obtain ⟨b, ws, rfl, h1, q1⟩ := h.l s
    exact ⟨a, b, vs, ws, rfl, rfl, e, h1, by rw [q.len, q1.len]; exact f.1, k _ _ _ _ f.2 (q.app q1)⟩
  · exact f.elim
end
end Ps
namespace Ps
open PySem PySem.Spec PyProof.Rows L2
section
variable {K : PySem.W.Frag} {G G' H H' : Hp} {R S X C : List (Addr × HO)} {m : Nat} {a : Addr}
def vTake : VSp := fun ds m P _ => ∃ (a : Addr) (n : Int) (k : Nat) (s : Sto), ds = [.adr a, .int n] ∧ m = (some (a, k + 1), s) ∧ 0 < n ∧ n < 2 ^ 62 ∧ ∀ v : Int, 0 ≤ v → v < n → P (.int v) (some (a, k), s)
theorem amb_lw {a : Addr} {k : Nat} {s : Sto} (w : Wd (C ++ R) G H) (h : Amb K G (some (a, k), s) C) : ∃ C2, StoC K G s C2 ∧ LW k a (C2 ++ R) G H := by
  obtain ⟨C1, C2, rfl, ⟨c, t, ns, rfl, h1, h2, h3⟩, st⟩ := h
  exact ⟨C2, st, c, t, ns, by rw [List.append_assoc] at w; exact w, h1, h2, h3⟩
theorem lw_amb {a : Addr} {k : Nat} (h : LW k a R G H) : ∃ C, Wd (C ++ R) G H ∧ AmbD (some (a, k)) C := by
  obtain ⟨c, t, ns, w, h1, h2, h3⟩ := h
  exact ⟨[(a, stD c t), (c, .lst (ns.map V.int))], w, c, t, ns, rfl, h1, h2, h3⟩
theorem dd_adr {v : V} {a : Addr} (h : Dd K G v (.adr a)) : v = .ref a := by cases h; rfl
theorem cv_take {vs : List V} {Q : VK} {E : XK} (h : spV K .O vTake vs H Q E) : spTake vs H Q E := by
  obtain ⟨ds, G, R, C, m, P, X, w, am, q, ⟨a, n, k, s, rfl, rfl, h1, h2, h3⟩, hk, _⟩ := h
  obtain ⟨u, v, rfl, q1, q2⟩ := BoAll.inv2 q
  obtain rfl := dd_adr q1
  obtain rfl := q2.intInv
  obtain ⟨C2, st, lw0⟩ := amb_lw w am
  refine ⟨k, a, n, C2 ++ R, G, rfl, lw0, h1, h2, fun v H' lw h4 h5 => ?_⟩
  obtain ⟨C', w', am'⟩ := lw_amb lw
  exact hk _ _ _ _ G [] (C' ++ C2) (h3 v h4 h5) (Same.refl _) (by rw [List.nil_append, List.append_assoc]; exact w') ⟨C', C2, rfl, am', st⟩ ⟨rfl, .int v⟩
theorem Wd.join (w : Wd R G H) (x : Wd X H H') : Wd (X ++ R) G H' := by
  refine ⟨w.1.trans x.1, fun y hy => ?_, ?_⟩
  · rcases List.mem_append.mp hy with h | h
    · exact ⟨(x.2.1 y h).1, w.1.free (x.2.1 y h).2⟩
    · exact ⟨x.1 _ _ (w.2.1 y h).1, (w.2.1 y h).2⟩
  · rw [List.map_append]
    refine List.nodup_append.mpr ⟨x.2.2, w.2.2, fun b hb b' hb' e => ?_⟩
    subst e
    obtain ⟨y, hy, rfl⟩ := List.mem_map.mp hb
    obtain ⟨z, hz, e⟩ := List.mem_map.mp hb'
    have := (w.2.1 z hz).1
    rw [e, (x.2.1 y hy).2] at this
    cases this
def vBegin : VSp := fun ds m P _ => ∃ ns : List Int, ds = [.scr ns] ∧ ns.length ≤ 63 ∧ m = (none, emp) ∧ ∀ a, P (.adr a) (some (a, 2 ^ 50), emp)
theorem cv_begin {vs : List V} {Q : VK} {E : XK} (h : spV K .O vBegin vs H Q E) : spBegin K vs H Q E := by
  obtain ⟨ds, G, R, C, m, P, X, w, am, q, ⟨ns, rfl, hl, rfl, h3⟩, hk, _⟩ := h
  obtain ⟨u, rfl, q1⟩ := BoAll.inv1 q
  obtain rfl := am.none_inv
  cases q1 with
  | scr q1 =>
    refine ⟨_, ns, rfl, same_l w.1 q1, hl, fun a H' lw => ?_⟩
    obtain ⟨C', w', am'⟩ := lw_amb lw
    rw [List.append_nil] at w'
    exact hk _ _ _ _ G [] C' (h3 a) (Same.refl _) (w.join w') ⟨C', [], (List.append_nil _).symm, am', [], fun _ => rfl, .nil⟩ ⟨rfl, .adr a⟩
def vSame (n : Nat) : VSp := fun ds m P _ => ∃ x y : D, ds = [x, y] ∧ x.pl = true ∧ y.pl = true ∧ x.py = y.py ∧ okD n y.py = true ∧ P (.bl true) m
theorem cv_same {n : Nat} {vs : List V} {Q : VK} {E : XK} (h : spV K .O (vSame n) vs H Q E) : spSame K n vs H Q E := by
  obtain ⟨ds, G, R, C, m, P, X, w, am, q, ⟨x, y, rfl, px, py, e, hn, h3⟩, hk, _⟩ := h
  obtain ⟨u, v, rfl, q1, q2⟩ := BoAll.inv2 q
  refine ⟨u, v, y.py, rfl, e ▸ dp_mono w.1 _ _ (q1.dp px), dp_mono w.1 _ _ (q2.dp py), hn, fun H' s => ?_⟩
  exact hk _ _ _ _ G [] C h3 (Same.refl _) (w.same s) am ⟨rfl, .bl true⟩
def vLaw : VSp := fun ds m P _ => ∃ ns : List Int, ds = [.scr ns] ∧ ns.length ≤ 63 ∧ m = (none, emp) ∧ ∀ m', P (.bl true) m'
theorem cv_law {t : OT} {vs : List V} {Q : VK} {E : XK} (h : spLaw K vs H Q E) : spV K t vLaw vs H Q E := by
  obtain ⟨a, ns, rfl, hs, hl, k⟩ := h
  refine ⟨[.scr ns], H, [], [], (none, emp), fun d _ => d = .bl true, fun _ _ _ => False, Wd.nil (Same.refl _), Amb.none, .one (.scr hs), ⟨ns, rfl, hl, rfl, fun _ => rfl⟩, ?_, fun _ _ _ _ _ _ _ h => h.elim⟩
  rintro d m' v H' G' S1 C' rfl s w am o
  have : v = .bl true := by
    cases t with
    | F => exact o.2.blInv
    | O => exact Dd.blInv o.2
  subst this
  exact k H'
theorem spV.imp {t : OT} {a b : VSp} (h : ∀ ds m P X, a ds m P X → b ds m P X) {vs : List V} {Q : VK} {E : XK} (q : spV K t a vs H Q E) : spV K t b vs H Q E := by
  obtain ⟨ds, G, R, C, m, P, X, w, am, q, hs, k⟩ := q
  exact ⟨ds, G, R, C, m, P, X, w, am, q, h _ _ _ _ hs, k⟩
theorem spV.len {t : OT} {a : VSp} {n : Nat} (h : ∀ ds m P X, a ds m P X → ds.length = n) {vs : List V} {Q : VK} {E : XK} (q : spV K t a vs H Q E) : vs.length = n := by
  obtain ⟨ds, G, R, C, m, P, X, w, am, q, hs, k⟩ := q
  rw [q.len]; exact h _ _ _ _ hs
end
end Ps
namespace Ps
open PySem PySem.Spec PyProof.Rows L2
section
variable {c : JC} {K : PySem.W.Frag} {Γ : List OT} {G G' H H' : Hp} {T S S1 S2 R : List (Addr × HO)} {env : Env} {σ : L2.St} {m : Mst} {v : V} {d : D}
theorem exOk_no : ExOk c Γ (fun _ _ _ _ => False) (fun _ _ _ _ => False) := fun _ _ _ _ _ _ _ _ _ _ _ h => h.elim
def vDNew : VE := fun _ m P => P (.dic []) m
theorem s_dnew : SO c Γ tDNewK vDNew := fun T G H S env σ m P Q st hv k p hp => by
  obtain ⟨G3, S3, s3, st3, q3⟩ := Nw.own st (.dic (kvs := []) (kds := []) hp rfl .nil)
  exact k _ m _ G3 _ S3 hv s3 st3 q3
abbrev VP := Env → Mst → (List (D × D) → Mst → Prop) → Prop
def vpNil : VP := fun _ m P => P [] m
def vpCons (a b : VE) (r : VP) : VP := fun env m P => a env m fun x m1 => b env m1 fun y m2 => r env m2 fun ps m3 => P ((x, y) :: ps) m3
inductive DdPairs (K : PySem.W.Frag) (G : Hp) : List (V × V) → List (D × D) → Prop
  | nil : DdPairs K G [] []
  | cons {u v : V} {d e : D} {us : List (V × V)} {ds : List (D × D)} : Dd K G u d → Dd K G v e → DdPairs K G us ds → DdPairs K G ((u, v) :: us) ((d, e) :: ds)
theorem DdPairs.mono (s : Same G G') {us : List (V × V)} {ds : List (D × D)} (h : DdPairs K G us ds) : DdPairs K G' us ds := by
  induction h with
  | nil => exact .nil
  | cons h1 h2 _ ih => exact .cons (h1.mono s) (h2.mono s) ih
def mergeD (kds more : List (Key × D)) : List (Key × D) := more.foldl (fun acc kv => dput acc kv.1 kv.2) kds
theorem lookup_d {f : Str} : ∀ {xs : List (Str × V)} {fs : List (Str × D)} {d : D}, xs.map Prod.fst = fs.map Prod.fst → DdAll K G (xs.map Prod.snd) (fs.map Prod.snd) → fs.lookup f = some d → ∃ v, xs.lookup f = some v ∧ Dd K G v d
  | [], [], _, _, _, h => by cases h
  | [], _ :: _, _, e, _, _ => by simp at e
  | _ :: _, [], _, e, _, _ => by simp at e
  | x :: xs, y :: fs, d, e, q, h => by
    rw [List.map_cons, List.map_cons] at e
    obtain ⟨h1, h2⟩ := List.cons.inj e
    rw [List.map_cons, List.map_cons] at q
    obtain ⟨x1, x2⟩ := x
    obtain ⟨y1, y2⟩ := y
    cases q with
    | cons q1 q2 =>
      obtain rfl : x1 = y1 := h1
      rw [List.lookup_cons] at h ⊢
      by_cases z : (f == x1) = true
      · rw [z] at h ⊢
        cases h
        exact ⟨_, rfl, q1⟩
      · rw [Bool.not_eq_true] at z
        rw [z] at h ⊢
        exact lookup_d h2 q2 h
end
end Ps
namespace Ps
open PySem PySem.Spec PyProof.Rows L2
section
variable {V : VEnds} {env : Env} {m : Mst} {a b : VS} {ve va vb vc : VE} {vl : VA} {vt vu : VT} {vg : VG} {vgs : VGs} {i j : Nat} {d e : D} {ds : List D} {P : D → Mst → Prop} {B : Bool → Mst → Prop} {A : List D → Mst → Prop} {E : Env → Prop} {Z : D → Prop} {n k : Int} {s t : Str}
theorem e_seq (h : a { V with nx := b V } env m) : vSeqS a b V env m := h
theorem e_seqO (h : ∀ N : Env → Mst → Prop, (∀ e m, b V e m → N e m) → a { V with nx := N } env m) : vSeqS a b V env m := h (b V) fun _ _ h => h
theorem e_seqAsg {vi : VE} {g : VG} (h : (vAsg vi g) { V with nx := b V } env m) : vSeqS (vAsg vi g) b V env m := h
theorem e_seqDrop {vi : VE} (h : (vDrop vi) { V with nx := b V } env m) : vSeqS (vDrop vi) b V env m := h
theorem e_seqAug {f : D → D → (D → Prop) → Prop} {vi : VE} (h : (vAug i f vi) { V with nx := b V } env m) : vSeqS (vAug i f vi) b V env m := h
theorem e_seqApp {vi : VE} (h : (vApp i vi) { V with nx := b V } env m) : vSeqS (vApp i vi) b V env m := h
theorem e_seqMut {f : List D → List D → (List D → D → Prop) → Prop} (h : (vMut i f vl) { V with nx := b V } env m) : vSeqS (vMut i f vl) b V env m := h
theorem e_seqPut {vi vk : VE} (h : (vPut i vi vk) { V with nx := b V } env m) : vSeqS (vPut i vi vk) b V env m := h
theorem e_seqPar  (h : (vPar i j vl) { V with nx := b V } env m) : vSeqS (vPar i j vl) b V env m := h
theorem e_seqFor {ws : List Nat} {vi : VA} (h : (vFor ws vi vg a) { V with nx := b V } env m) : vSeqS (vFor ws vi vg a) b V env m := h
theorem e_seqWhile {ws : List Nat} (h : (vWhile ws vt a) { V with nx := b V } env m) : vSeqS (vWhile ws vt a) b V env m := h
theorem e_seqNext  (h : (vNext) { V with nx := b V } env m) : vSeqS (vNext) b V env m := h
theorem e_seqSeq {x y : VS} (h : (vSeqS x y) { V with nx := b V } env m) : vSeqS (vSeqS x y) b V env m := h
theorem e_asg (h : ve env m fun d m1 => vg d env fun e1 => V.nx e1 m1) : vAsg ve vg V env m := h
theorem e_drop (h : ve env m fun _ m1 => V.nx env m1) : vDrop ve V env m := h
theorem e_ret (h : ve env m V.rt) : vRet ve V env m := h
theorem e_if (h : vt env m fun x m1 => if x = true then a V env m1 else b V env m1) : vIf vt a b V env m := h
theorem e_next (h : V.nx env m) : vNext V env m := h
theorem e_gname (h : E (env.set i (some d))) : vgName i d env E := h
theorem e_gtup {n : Nat} (hl : ds.length = n) (h : vgs ds env E) : vgTup n vgs (.tup ds) env E := ⟨hl, h⟩
theorem e_gtupU {n : Nat} (hl : ds.length = n) (h : vgs ds env E) : vgTupU n vgs (.tup ds) env E := ⟨hl, h⟩
theorem e_gtupL {n : Nat} (hl : ds.length = n) (h : vgs ds env E) : vgTupU n vgs (.lst ds) env E := ⟨hl, h⟩
theorem e_gcons (h : vg d env fun e => vgs ds e E) : vgCons vg vgs (d :: ds) env E := h
theorem e_gnil (h : E env) : vgNil [] env E := ⟨rfl, h⟩
theorem e_var (hx : env[i]? = some (some d)) (h : P d m) : vVar i env m P := ⟨d, hx, h⟩
theorem e_c (h : P d m) : vC d env m P := h
theorem e_nil (h : A [] m) : vNil env m A := h
theorem e_cons (h : ve env m fun d m1 => vl env m1 fun ds m2 => A (d :: ds) m2) : vCons ve vl env m A := h
theorem e_op {f : D → D → (D → Prop) → Prop} (h : va env m fun x m1 => vb env m1 fun y m2 => f x y fun z => P z m2) : vOp f va vb env m P := h
theorem e_cb {f : List D → (D → Prop) → Prop} (h : vl env m fun xs m1 => f xs fun z => P z m1) : vCB f vl env m P := h
theorem e_tyS {Q : Prop} (h : Q) : isTy "str" (.str s) = true ∧ Q := ⟨rfl, h⟩
theorem e_tyL {Q : Prop} (h : Q) : isTy "list" (.lst ds) = true ∧ Q := ⟨rfl, h⟩
theorem e_lst (h : vl env m fun xs m1 => xs.length ≤ sizeLine ∧ P (.lst xs) m1) : vLst vl env m P := h
theorem e_tup (h : vl env m fun xs m1 => xs.length ≤ sizeLine ∧ P (.tup xs) m1) : vTup vl env m P := h
theorem e_len (hz : Nat.ble ds.length 16777216 = true) {Q : Prop} (h : Q) : ds.length ≤ sizeLine ∧ Q := ⟨sz_le (Nat.le_of_ble_eq_true hz), h⟩
theorem e_ifE (h : vt env m fun b m1 => if b = true then va env m1 P else vb env m1 P) : vIfE vt va vb env m P := h
theorem e_blE {b : Bool} {Q : Bool → Prop} (h : Q b) : ∃ c, D.bl b = .bl c ∧ Q c := ⟨b, rfl, h⟩
theorem e_test (h : ve env m fun x m1 => ∃ b, x = .bl b ∧ B b m1) : vTest ve env m B := h
theorem e_tru (h : ve env m fun x m1 => truD x B m1) : vTru ve env m B := h
theorem e_truB {b : Bool} (h : B b m) : truD (.bl b) B m := h
theorem e_truN (h : B false m) : truD .non B m := h
theorem e_truI (h : B (n != 0) m) : truD (.int n) B m := h
theorem e_truL (h : B (!ds.isEmpty) m) : truD (.lst ds) B m := h
theorem e_truT (h : B (!ds.isEmpty) m) : truD (.tup ds) B m := h
theorem e_and (h : vt env m fun x m1 => if x = true then vu env m1 B else B false m1) : vAnd vt vu env m B := h
theorem e_or (h : vt env m fun x m1 => if x = true then B true m1 else vu env m1 B) : vOr vt vu env m B := h
theorem e_not (h : vt env m fun x m1 => B (!x) m1) : vNot vt env m B := h
theorem e_yes (h : B true m) : vYes env m B := h
theorem e_call {vsp : VSp} (h : vl env m fun ds m1 => vsp ds m1 P fun _ _ _ => False) : vCall vsp vl env m P := h
theorem e_callB {vsp : VSp} {t : OT} (h : vl env m fun ds m1 => ∃ es, RsAll m1.2 ds es ∧ vsp es (none, emp) (fun d _ => frOk t d ∧ P d m1) fun _ _ _ => False) : vCallB t vsp vl env m P := h
theorem frOk_bl {t : OT} {b : Bool} : frOk t (.bl b) := by cases t; exact .bl b; exact .inl (.bl b)
theorem frOk_int {t : OT} {b : Int} : frOk t (.int b) := by cases t; exact .int b; exact .inl (.int b)
theorem e_frB {t : OT} {b : Bool} {Q : Prop} (h : Q) : frOk t (.bl b) ∧ Q := ⟨frOk_bl, h⟩
theorem e_frI {t : OT} {b : Int} {Q : Prop} (h : Q) : frOk t (.int b) ∧ Q := ⟨frOk_int, h⟩
theorem e_sl {f : D → Option Int → Option Int → (D → Prop) → Prop} {vlo vhi : VO} (h : ve env m fun x m1 => vlo env m1 fun l m2 => vhi env m2 fun h m3 => f x l h fun z => P z m3) : vSl f ve vlo vhi env m P := h
theorem e_nopart {Q : Option Int → Mst → Prop} (h : Q none m) : vNoPart env m Q := h
theorem e_part {Q : Option Int → Mst → Prop} (h : ve env m fun x m1 => ∃ i, x = .int i ∧ Q (some i) m1) : vPart ve env m Q := h
theorem e_intE {Q : Int → Prop} (h : Q n) : ∃ i, D.int n = .int i ∧ Q i := ⟨n, rfl, h⟩
theorem e_dnew (h : P (.dic []) m) : vDNew env m P := h
theorem e_rz0 {VW : XW} {C : Addr} (h : VW C [] env m) : vRaise VW C [] V env m := h
theorem e_addI (h : Z (.int (n + k))) : vAdd (.int n) (.int k) Z := h
theorem e_addL {x y : List D} (hz : x.length + y.length ≤ 16777216) (h : Z (.lst (x ++ y))) : vAdd (.lst x) (.lst y) Z := ⟨sz_le hz, h⟩
theorem e_subI (h : Z (.int (n - k))) : vSub (.int n) (.int k) Z := h
theorem e_modI (hc : 0 < k) (h : Z (.int (n % k))) : vMod (.int n) (.int k) Z := ⟨hc, h⟩
theorem e_eqI (h : Z (.bl (decide (n = k)))) : vEqC (.int n) (.int k) Z := h
theorem e_eqS (h : Z (.bl (decide (s = t)))) : vEqC (.str s) (.str t) Z := h
theorem e_eqB {x y : Bool} (h : Z (.bl (decide (x = y)))) : vEqC (.bl x) (.bl y) Z := h
theorem e_ltI (h : Z (.bl (decide (n < k)))) : vLt (.int n) (.int k) Z := h
theorem e_gtI (h : Z (.bl (decide (k < n)))) : vGt (.int n) (.int k) Z := h
theorem e_ixL {x : D} (he : atI ds n = some x) (h : Z x) : vIx (.lst ds) (.int n) Z := ⟨x, he, h⟩
theorem e_ixT {x : D} (he : atI ds n = some x) (h : Z x) : vIx (.tup ds) (.int n) Z := ⟨x, he, h⟩
theorem e_lenL (h : Z (.int ds.length)) : vLen [.lst ds] Z := h
theorem e_lenT (h : Z (.int ds.length)) : vLen [.tup ds] Z := h
theorem e_lenD {kds : List (Key × D)} (h : Z (.int kds.length)) : vLen [.dic kds] Z := h
theorem e_listL (h : Z (.lst ds)) : vList [.lst ds] Z := h
theorem e_listT (h : Z (.lst ds)) : vList [.tup ds] Z := h
theorem e_intI (h : Z (.int n)) : vInt [.int n] Z := h
theorem e_intB {b : Bool} (h : Z (.int (if b then 1 else 0))) : vInt [.bl b] Z := h
theorem e_min2 (h : Z (.int (if k < n then k else n))) : vMin2 [.int n, .int k] Z := h
theorem e_cutL {lo hi : Option Int} (h : Z (.lst (cutD ds lo hi))) : vCut (.lst ds) lo hi Z := h
theorem e_cutT {lo hi : Option Int} (h : Z (.tup (cutD ds lo hi))) : vCut (.tup ds) lo hi Z := h
theorem e_ext {es : List D} {Y : List D → D → Prop} (hz : ds.length + es.length ≤ 16777216) (h : Y (ds ++ es) .non) : vExtend ds [.lst es] Y := ⟨sz_le hz, h⟩
theorem e_all {ns : List Bool} (h : Z (.bl (ns.all id))) : vAll [.lst (ns.map D.bl)] Z := ⟨ns, rfl, h⟩
theorem e_take {x : Addr} {r : Nat} {s0 : Sto} {VX : XV} (hl : 1 ≤ r) (h0 : 0 < n) (h1 : n < 2 ^ 62) (h : ∀ (v : Int) (r' : Nat), 0 ≤ v → v < n → r ≤ r' + 1 → P (.int v) (some (x, r'), s0)) : vTake [.adr x, .int n] (some (x, r), s0) P VX := ⟨x, n, r - 1, s0, rfl, by rw [Nat.sub_add_cancel (by omega)], h0, h1, fun v q1 q2 => h v _ q1 q2 (by omega)⟩
theorem e_sc {b : Bool} {Q : Prop} (h : Q) : (D.bl b).sc = true ∧ Q := ⟨rfl, h⟩
theorem e_scI {Q : Prop} (h : Q) : (D.int n).sc = true ∧ Q := ⟨rfl, h⟩
theorem e_same {k : Nat} {VX : XV} (hd : d.pl = true) (he : e.pl = true) (hq : d.py = e.py) (hk : okD k e.py = true) (h : P (.bl true) m) : vSame k [d, e] m P VX := ⟨d, e, rfl, hd, he, hq, hk, h⟩
end
section
variable {va : VA} {ve : VE} {env : Env} {m : Mst} {A : List D → Mst → Prop} {ds es : List D} {n k : Int}
theorem e_seqv (h : ve env m fun x m1 => itSeq x A m1) : vSeq ve env m A := h
theorem e_itL (h : A ds m) : itSeq (.lst ds) A m := h
theorem e_itT (h : A ds m) : itSeq (.tup ds) A m := h
theorem e_itS {z : Str} (h : A (signsOf z) m) : itSeq (.str z) A m := h
theorem e_rng1 (h : va env m fun xs m1 => ∃ j, xs = [.int j] ∧ itRng xs A m1) : vRng1 va env m A := h
theorem e_rg1 (h : itRng [.int n] A m) : ∃ j, [D.int n] = [.int j] ∧ itRng [.int n] A m := ⟨n, rfl, h⟩
theorem e_rg2 (h : itRng [.int n, .int k] A m) : ∃ i j, [D.int n, D.int k] = [.int i, .int j] ∧ itRng [.int n, .int k] A m := ⟨n, k, rfl, h⟩
theorem e_itR {j : Nat} (hj : j < 2 ^ 62) (h : A (rangeD 0 j) m) : itRng [.int (j : Int)] A m := ⟨⟨by omega, by omega⟩, by rw [Int.toNat_natCast]; exact h⟩
theorem e_itZL (h : A (zipD ds es) m) : itZip [.lst ds, .lst es] A m := h
theorem e_itZT (h : A (zipD ds es) m) : itZip [.tup ds, .tup es] A m := h
theorem e_itEL (h : A (enumD ds) m) : itEnum [.lst ds] A m := h
theorem e_itES {z : Str} (h : A (enumD (signsOf z)) m) : itEnum [.str z] A m := h
theorem e_itET (h : A (enumD ds) m) : itEnum [.tup ds] A m := h
theorem e_itVL (h : A ds.reverse m) : itRev (.lst ds) A m := h
theorem e_itVT (h : A ds.reverse m) : itRev (.tup ds) A m := h
theorem rangeD_at {lo : Int} {n i : Nat} {d : D} (h : (rangeD lo n)[i]? = some d) : i < n ∧ d = .int (lo + (i : Int)) := by
  have hi : i < n := by
    have := (List.getElem?_eq_some_iff.mp h).1
    rw [rangeD_len] at this
    exact this
  rw [rangeD_get hi] at h
  exact ⟨hi, (Option.some.inj h).symm⟩
end
section
variable {ve : VE} {vt : VT} {vg : VG} {vb : VS} {env : Env} {m : Mst} {V : VEnds} {ws vs : List Nat} {items : List D} {P : D → Mst → Prop}
theorem e_for {vi : VA} (h : vi env m fun items m1 => forD ws items vg vb V env m1) : vFor ws vi vg vb V env m := h
theorem e_lc {vi : VA} (h : vi env m fun items m1 => lcD items vg vt ve vs env m1 P) : vLc vi vg vt ve vs env m P := h
theorem for_inv (W : Nat → Env → Mst → Prop) (h0 : W 0 (wipeE env ws) m) (hs : ∀ i e m' d, i < items.length → W i e m' → items[i]? = some d → vg d e fun e1 => vb { V with nx := fun e2 m2 => W (i + 1) (wipeE e2 ws) m2, ct := fun e2 m2 => W (i + 1) (wipeE e2 ws) m2, bk := fun e2 m2 => V.nx (wipeE e2 ws) m2 } e1 m')
  (hd : ∀ e m', W items.length e m' → V.nx e m') : forD ws items vg vb V env m := ⟨W, h0, fun i e m' d hw ed => hs i e m' d (List.getElem?_eq_some_iff.mp ed).1 hw ed, hd⟩
end
end Ps
namespace Ps
open PySem PySem.Spec PyProof.Rows L2
def lookS (s : Sto) (a : Addr) : D := match s a with
  | some (.lst ds) => .lst ds
  | some (.dic kds) => .dic kds
  | some (.lck _ kds) => .dic kds
  | _ => .adr a
@[reducible] def look (s : Sto) : D → D
  | .adr a => lookS s a
  | d => d
theorem lookS_lst {s : Sto} {a : Addr} {ds : List D} (h : s a = some (.lst ds)) : lookS s a = .lst ds := by unfold lookS; rw [h]
theorem lookS_dic {s : Sto} {a : Addr} {ds : List (Key × D)} (h : s a = some (.dic ds)) : lookS s a = .dic ds := by unfold lookS; rw [h]
theorem lookS_lck {s : Sto} {a : Addr} {u : Obj × List (Key × V)} {ds : List (Key × D)} (h : s a = some (.lck u ds)) : lookS s a = .dic ds := by unfold lookS; rw [h]
section
variable {c : JC} {K : PySem.W.Frag} {Γ Γ1 Γn Γb Γc : List OT} {G G' H H' : Hp} {T S S1 S2 R C : List (Addr × HO)} {env : Env} {σ : L2.St} {m : Mst} {v : V} {d : D} {t : OT} {i j : Nat} {a : Addr} {is : List Nat}
theorem Cell.hd (h : Cell K G a d C) : ∃ x ∈ C, x.1 = a := by
  cases d with
  | lst ds => obtain ⟨vs, rfl, _⟩ := h; exact ⟨_, List.mem_cons_self, rfl⟩
  | dic ds => obtain ⟨vs, rfl, _⟩ := h; exact ⟨_, List.mem_cons_self, rfl⟩
  | obj Cl ds => obtain ⟨dx, vs, rfl, _⟩ := h; exact ⟨_, List.mem_cons_self, rfl⟩
  | dcl w ds => obtain ⟨vs, rfl, _⟩ := h; exact ⟨_, List.mem_cons_self, rfl⟩
  | dct w ds => obtain ⟨vs, rfl, _⟩ := h; exact ⟨_, List.mem_cons_self, rfl⟩
  | lck u ds => obtain ⟨rfl, _⟩ := h; exact ⟨_, List.mem_cons_self, rfl⟩
  | _ => exact h.elim
theorem Stx.stored (st : Stx c Γ G H T S env σ m) (e : m.2 a = some d) : ∃ C1, Cell c.K G a d C1 ∧ ∀ x ∈ C1, H x.1 = some x.2 := by
  obtain ⟨s, C, w, am, z⟩ := st
  obtain ⟨A, C1, B, rfl, q, _⟩ := am.at e
  exact ⟨C1, q, fun x hx => w.mem (o := x.2) (by simp [hx])⟩
theorem Stx.storedL {ds : List D} (st : Stx c Γ G H T S env σ m) (e : m.2 a = some (.lst ds)) : ∃ vs, H a = some (.lst vs) ∧ DdAll c.K G vs ds := by
  obtain ⟨C1, ⟨vs, rfl, q⟩, h⟩ := st.stored e
  exact ⟨vs, h _ List.mem_cons_self, q⟩
theorem Stx.storedD {ds : List (Key × D)} (st : Stx c Γ G H T S env σ m) (e : m.2 a = some (.dic ds)) : ∃ kvs, H a = some (.dK kvs) ∧ kvs.map Prod.fst = ds.map Prod.fst ∧ DdAll c.K G (kvs.map Prod.snd) (ds.map Prod.snd) := by
  obtain ⟨C1, ⟨vs, rfl, e1, q⟩, h⟩ := st.stored e
  exact ⟨vs, h _ List.mem_cons_self, e1, q⟩
theorem Stx.storedK {u : Obj × List (Key × V)} {ds : List (Key × D)} (st : Stx c Γ G H T S env σ m) (e : m.2 a = some (.lck u ds)) : H a = some (.frz u.1 (.dK u.2)) ∧ u.2.map Prod.fst = ds.map Prod.fst ∧ DdAll c.K G (u.2.map Prod.snd) (ds.map Prod.snd) := by
  obtain ⟨C1, ⟨rfl, e1, q⟩, h⟩ := st.stored e
  exact ⟨h _ List.mem_cons_self, e1, q⟩
theorem Stx.storedO {Cl : Addr} {gs : List (Str × D)} (st : Stx c Γ G H T S env σ m) (e : m.2 a = some (.obj Cl gs)) : ∃ dx fs, H a = some (.ins Cl dx fs) ∧ H dx = some (.own a) ∧ fs.map Prod.fst = gs.map Prod.fst ∧ DdAll c.K G (fs.map Prod.snd) (gs.map Prod.snd) := by
  obtain ⟨C1, ⟨dx, vs, rfl, e1, q⟩, h⟩ := st.stored e
  exact ⟨dx, vs, h _ List.mem_cons_self, h _ (List.mem_cons_of_mem _ List.mem_cons_self), e1, q⟩
theorem Stx.setL {ds ds' : List D} {vs' : List V} (st : Stx c Γ G H T S env σ m) (e : m.2 a = some (.lst ds)) (q : DdAll c.K G vs' ds') : Stx c Γ G (upd H a (.lst vs')) T S env σ (m.1, sput m.2 a (.lst ds')) := by
  obtain ⟨s, C, w, am, z⟩ := st
  obtain ⟨A, C1, B, rfl, ⟨vs, rfl, _⟩, f⟩ := am.at e
  have w2 : Wd ((T ++ (S ++ A)) ++ ((a, .lst vs) :: (B ++ c.R))) G H := by simpa [List.append_assoc] using w
  exact ⟨s, A ++ ([(a, .lst vs')] ++ B), by simpa [List.append_assoc] using w2.putM (o' := .lst vs'), f _ _ ⟨vs', rfl, q⟩, z⟩
theorem Stx.setD {ds ds' : List (Key × D)} {vs' : List (Key × V)} (st : Stx c Γ G H T S env σ m) (e : m.2 a = some (.dic ds)) (q0 : vs'.map Prod.fst = ds'.map Prod.fst) (q : DdAll c.K G (vs'.map Prod.snd) (ds'.map Prod.snd)) : Stx c Γ G (upd H a (.dK vs')) T S env σ (m.1, sput m.2 a (.dic ds')) := by
  obtain ⟨s, C, w, am, z⟩ := st
  obtain ⟨A, C1, B, rfl, ⟨vs, rfl, _⟩, f⟩ := am.at e
  have w2 : Wd ((T ++ (S ++ A)) ++ ((a, .dK vs) :: (B ++ c.R))) G H := by simpa [List.append_assoc] using w
  exact ⟨s, A ++ ([(a, .dK vs')] ++ B), by simpa [List.append_assoc] using w2.putM (o' := .dK vs'), f _ _ ⟨vs', rfl, q0, q⟩, z⟩
theorem Stx.setO {Cl dx : Addr} {gs gs' : List (Str × D)} {fs fs' : List (Str × V)} (st : Stx c Γ G H T S env σ m) (e : m.2 a = some (.obj Cl gs)) (hi : H a = some (.ins Cl dx fs)) (q0 : fs'.map Prod.fst = gs'.map Prod.fst) (q : DdAll c.K G (fs'.map Prod.snd) (gs'.map Prod.snd)) : Stx c Γ G (upd H a (.ins Cl dx fs')) T S env σ (m.1, sput m.2 a (.obj Cl gs')) := by
  obtain ⟨s, C, w, am, z⟩ := st
  obtain ⟨A, C1, B, rfl, ⟨dx', vs, rfl, _⟩, f⟩ := am.at e
  have w2 : Wd ((T ++ (S ++ A)) ++ ((a, .ins Cl dx' vs) :: ((dx', .own a) :: (B ++ c.R)))) G H := by simpa [List.append_assoc] using w
  have e3 := w2.mem (a := a) (o := .ins Cl dx' vs) (by simp)
  rw [hi] at e3
  cases e3
  exact ⟨s, A ++ ([(a, .ins Cl dx fs'), (dx, .own a)] ++ B), by simpa [List.append_assoc] using w2.putM (o' := .ins Cl dx fs'), f _ _ ⟨dx, fs', rfl, q0, q⟩, z⟩
theorem Stx.storeN {C1 : List (Addr × HO)} (st : Stx c Γ G H (C1 ++ T) S env σ m) (q : Cell c.K G a d C1) : m.2 a = none ∧ Stx c Γ G H T S env σ (m.1, sput m.2 a d) := by
  obtain ⟨s, C, w, am, z⟩ := st
  have hn : m.2 a = none := by
    cases e : m.2 a with
    | none => rfl
    | some d' =>
      obtain ⟨A, C2, B, rfl, q2, _⟩ := am.at e
      obtain ⟨x, hx, e1⟩ := q.hd
      obtain ⟨y, hy, e2⟩ := q2.hd
      have w2 : Wd (C1 ++ (T ++ (S ++ (A ++ (C2 ++ B) ++ c.R)))) G H := by rw [List.append_assoc] at w; exact w
      exact absurd (List.mem_map.mpr ⟨y, by simp [hy], e2.trans e1.symm⟩) (wd_apart w2 hx)
  refine ⟨hn, ?_⟩
  obtain ⟨D1, D2, rfl, am, L, l, cs⟩ := am
  refine ⟨s, D1 ++ (C1 ++ D2), w.perm ?_, ⟨D1, C1 ++ D2, rfl, am, (a, d) :: L, fun b => ?_, .cons q cs⟩, z⟩
  · have h1 : (C1 ++ (T ++ (S ++ D1 ++ (D2 ++ c.R)))).Perm (T ++ (S ++ D1 ++ (C1 ++ (D2 ++ c.R)))) := by
      refine (List.perm_append_comm_assoc C1 T _).trans (List.Perm.append_left T ?_)
      exact List.perm_append_comm_assoc C1 (S ++ D1) _
    have := h1.symm
    simpa [List.append_assoc] using this
  · show sput m.2 a d b = _
    unfold sput
    rw [List.lookup_cons]
    by_cases z : b = a
    · subst z; rw [if_pos rfl, beq_self_eq_true]
    · rw [if_neg z, beq_eq_false_iff_ne.mpr z]; exact l b
def boxD : D → Mst → (D → Mst → Prop) → Prop
  | .lst ds, m, P => ∀ y, m.2 y = none → P (.adr y) (m.1, sput m.2 y (.lst ds))
  | .dic kds, m, P => ∀ y, m.2 y = none → P (.adr y) (m.1, sput m.2 y (.dic kds))
  | d, m, P => P d m
def vBox (ve : VE) : VE := fun env m P => ve env m fun d m1 => boxD d m1 P
theorem s_box {te : TE} {ve : VE} (h : SO c Γ te ve) : SF c Γ te (vBox ve) := fun T G H S env σ m P Q st hv k =>
  h T G H S env σ m _ _ st hv fun d m' v G' H' S1 p s st' q => by
    cases d with
    | lst ds =>
      obtain ⟨a, vs, rfl, rfl, q⟩ := q
      obtain ⟨hn, st2⟩ := Stx.storeN (d := .lst ds) st' ⟨vs, rfl, q⟩
      exact k _ _ _ G' H' (p a hn) s st2 (.adr a)
    | dic ds =>
      obtain ⟨a, vs, rfl, rfl, e, q⟩ := q
      obtain ⟨hn, st2⟩ := Stx.storeN (d := .dic ds) st' ⟨vs, rfl, e, q⟩
      exact k _ _ _ G' H' (p a hn) s st2 (.adr a)
    | _ => obtain ⟨rfl, q⟩ := q; exact k _ _ _ G' H' p s st' q
theorem tp_look (st : Stx c Γ G H T S env σ m) (h : Tp c.K G H v d) : Tp c.K G H v (look m.2 d) := by
  cases d with
  | adr a =>
    obtain rfl : v = .ref a := by cases h with | dd h => exact dd_adr h
    show Tp c.K G H (.ref a) (lookS m.2 a)
    unfold lookS
    split
    · rename_i ds e; obtain ⟨vs, h1, h2⟩ := st.storedL e; exact .lst h1 h2
    · rename_i ds e; obtain ⟨vs, h1, h2, h3⟩ := st.storedD e; exact .dic (.inl h1) h2 h3
    · rename_i u ds e; obtain ⟨h1, h2, h3⟩ := st.storedK e; exact .dic (.inr ⟨u.1, h1⟩) h2 h3
    · exact h
  | _ => exact h
theorem tps_look (st : Stx c Γ G H T S env σ m) {vs : List V} {ds : List D} (h : TpAll c.K G H vs ds) : TpAll c.K G H vs (ds.map (look m.2)) := by
  induction h with
  | nil => exact .nil
  | cons h _ ih => exact .cons (tp_look st h) ih
def vOpL (f : D → D → (D → Prop) → Prop) (va vb : VE) : VE := fun env m P => va env m fun x m1 => vb env m1 fun y m2 => f (look m2.2 x) (look m2.2 y) fun z => P z m2
def vCBL (f : List D → (D → Prop) → Prop) (va : VA) : VE := fun env m P => va env m fun xs m1 => f (xs.map (look m1.2)) fun z => P z m1
def vSlL (f : D → Option Int → Option Int → (D → Prop) → Prop) (ve : VE) (vl vh : VO) : VE := fun env m P => ve env m fun x m1 => vl env m1 fun l m2 => vh env m2 fun h m3 => f (look m3.2 x) l h fun z => P z m3
theorem s_opL {r : R2} {f : D → D → (D → Prop) → Prop} {ta tb : TE} {va vb : VE} (o : OpV c.K r f) (ha : SB c Γ ta va) (hb : SB c Γ tb vb) : SO c Γ (tOp r ta tb) (vOpL f va vb) := fun T G H S env σ m P Q st hv k =>
  ha T G H S env σ m _ _ st hv fun x m1 v G1 H1 S1 p1 s1 st1 b1 => hb (S1 ++ T) G1 H1 S env σ m1 _ _ st1 p1 fun y m2 u G2 H2 S2 p2 s2 st2 b2 => by
    have t1 := tp_look st2 (bo_tp (T := S2 ++ (S1 ++ T)) st2 (bo_sub s2 (B := S2 ++ (S1 ++ T) ++ S) (fun x hx => by rcases List.mem_append.mp hx with q | q <;> simp [q]) b1))
    have t2 := tp_look st2 (bo_tp (T := S2 ++ (S1 ++ T)) st2 (bo_sub (Same.refl _) (B := S2 ++ (S1 ++ T) ++ S) (fun x hx => by rcases List.mem_append.mp hx with q | q <;> simp [q]) b2))
    refine o G2 H2 v u _ _ _ _ st2.v t1 t2 p2 fun z w H' pz n => ?_
    obtain ⟨G3, S3, s3, st3, q3⟩ := Nw.own (T := T) (by exact st2.dropT.dropT) n
    exact k z m2 w G3 H' S3 pz (s1.trans (s2.trans s3)) st3 q3
theorem s_opFL {r : R2} {f : D → D → (D → Prop) → Prop} {ta tb : TE} {va vb : VE} (o : OpF c.K r f) (ha : SB c Γ ta va) (hb : SB c Γ tb vb) : SF c Γ (tOp r ta tb) (vOpL f va vb) := fun T G H S env σ m P Q st hv k =>
  ha T G H S env σ m _ _ st hv fun x m1 v G1 H1 S1 p1 s1 st1 b1 => hb (S1 ++ T) G1 H1 S env σ m1 _ _ st1 p1 fun y m2 u G2 H2 S2 p2 s2 st2 b2 => by
    have t1 := tp_look st2 (bo_tp (T := S2 ++ (S1 ++ T)) st2 (bo_sub s2 (B := S2 ++ (S1 ++ T) ++ S) (fun x hx => by rcases List.mem_append.mp hx with q | q <;> simp [q]) b1))
    have t2 := tp_look st2 (bo_tp (T := S2 ++ (S1 ++ T)) st2 (bo_sub (Same.refl _) (B := S2 ++ (S1 ++ T) ++ S) (fun x hx => by rcases List.mem_append.mp hx with q | q <;> simp [q]) b2))
    refine o G2 H2 v u _ _ _ _ st2.v t1 t2 p2 fun z w pz n => ?_
    exact k z m2 w G2 H2 pz (s1.trans s2) st2.dropT.dropT n
theorem s_cbL {r : List V → Hp → VK → Prop} {f : List D → (D → Prop) → Prop} {ta : TA} {va : VA} (o : ClV c.K r f) (ha : SA c Γ ta va) : SO c Γ (tCB r ta) (vCBL f va) := fun T G H S env σ m P Q st hv k =>
  ha T G H S env σ m _ _ st hv fun x m1 v G1 H1 S1 p1 s1 st1 b1 => by
    have t1 := tps_look st1 (BoAll.tp (T := S1 ++ T) st1 (b1.mono (Same.refl _) (B := S1 ++ T ++ S) (fun x hx => by rcases List.mem_append.mp hx with q | q <;> simp [q])))
    refine o G1 H1 v _ _ _ st1.v t1 p1 fun z w H' pz n => ?_
    obtain ⟨G3, S3, s3, st3, q3⟩ := Nw.own (T := T) st1.dropT n
    exact k z m1 w G3 H' S3 pz (s1.trans s3) st3 q3
theorem s_slL {r : V → Option Int → Option Int → Hp → VK → Prop} {f : D → Option Int → Option Int → (D → Prop) → Prop} {te : TE} {ve : VE} {tl th : TO} {vl vh : VO} (o : SlV c.K r f) (he : SB c Γ te ve) (hl : SP c Γ tl vl) (hh : SP c Γ th vh) : SO c Γ (tSl r te tl th) (vSlL f ve vl vh) := fun T G H S env σ m P Q st hv k =>
  he T G H S env σ m _ _ st hv fun x m1 v G1 H1 S1 p1 s1 st1 b1 => hl (S1 ++ T) G1 H1 S env σ m1 _ _ st1 p1 fun lo m2 G2 H2 S2 p2 s2 st2 => hh (S2 ++ (S1 ++ T)) G2 H2 S env σ m2 _ _ st2 p2 fun hi m3 G3 H3 S3 p3 s3 st3 => by
    have t1 := tp_look st3 (bo_tp (T := S3 ++ (S2 ++ (S1 ++ T))) st3 (bo_sub (s2.trans s3) (B := S3 ++ (S2 ++ (S1 ++ T)) ++ S) (fun x hx => by rcases List.mem_append.mp hx with q | q <;> simp [q]) b1))
    refine o G3 H3 v _ lo hi _ _ st3.v t1 p3 fun z w H' pz n => ?_
    obtain ⟨G4, S4, s4, st4, q4⟩ := Nw.own (T := T) st3.dropT.dropT.dropT n
    exact k z m3 w G4 H' S4 pz (s1.trans (s2.trans (s3.trans s4))) st4 q4
def vFld (C : Addr) (f : Str) (ve : VE) : VE := fun env m P => ve env m fun x m1 => ∃ a fs d, x = .adr a ∧ m1.2 a = some (.obj C fs) ∧ fs.lookup f = some d ∧ P d m1
theorem s_fld {C : Addr} {f : Str} {fl : List Str} {te : TE} {ve : VE} (k : ClsK c.K C fl) (hf : f ∈ fl) (he : SF c Γ te ve) : SF c Γ (tFld c.K te f) (vFld C f ve) := fun T G H S env σ m P Q st hv kk =>
  he T G H S env σ m _ _ st hv fun x m1 v G1 H1 p1 s1 st1 q1 => by
    obtain ⟨a, gs, d, rfl, e, hl, p⟩ := p1
    obtain rfl := dd_adr q1
    obtain ⟨dx, fs, h1, h2, e1, q⟩ := st1.storedO e
    obtain ⟨u, hu, hd⟩ := lookup_d e1 q hl
    exact ⟨a, C, dx, fs, u, rfl, h1, k.1, k.2 f hf, hu, kk d m1 u G1 H1 p s1 st1 hd⟩
def dputF (f : Str) (d : D) : List (Str × D) → List (Str × D)
  | [] => [(f, d)]
  | (g, e) :: r => if g = f then (g, d) :: r else (g, e) :: dputF f d r
theorem putF_fst {f : Str} {v : V} {d : D} : ∀ {fs : List (Str × V)} {gs : List (Str × D)}, fs.map Prod.fst = gs.map Prod.fst → (putF f v fs).map Prod.fst = (dputF f d gs).map Prod.fst
  | [], [], _ => rfl
  | [], _ :: _, h => by simp at h
  | _ :: _, [], h => by simp at h
  | (x, y) :: fs, (x', y') :: gs, h => by
    rw [List.map_cons, List.map_cons] at h
    obtain ⟨h1, h2⟩ := List.cons.inj h
    have h1 : x = x' := h1
    subst h1
    unfold putF dputF
    by_cases z : x = f
    · rw [if_pos z, if_pos z, List.map_cons, List.map_cons, h2]
    · rw [if_neg z, if_neg z, List.map_cons, List.map_cons, putF_fst h2]
theorem putF_snd {f : Str} {v : V} {d : D} (hd : Dd K G v d) : ∀ {fs : List (Str × V)} {gs : List (Str × D)}, fs.map Prod.fst = gs.map Prod.fst → DdAll K G (fs.map Prod.snd) (gs.map Prod.snd) → DdAll K G ((putF f v fs).map Prod.snd) ((dputF f d gs).map Prod.snd)
  | [], [], _, _ => .one hd
  | [], _ :: _, h, _ => by simp at h
  | _ :: _, [], h, _ => by simp at h
  | (x, y) :: fs, (x', y') :: gs, h, q => by
    rw [List.map_cons, List.map_cons] at h q
    obtain ⟨h1, h2⟩ := List.cons.inj h
    have h1 : x = x' := h1
    subst h1
    cases q with
    | cons q1 q2 =>
      unfold putF dputF
      by_cases z : x = f
      · rw [if_pos z, if_pos z, List.map_cons, List.map_cons]; exact .cons hd q2
      · rw [if_neg z, if_neg z, List.map_cons, List.map_cons]; exact .cons q1 (putF_snd hd h2 q2)
def vSetF (C : Addr) (f : Str) (vo ve : VE) : VS := fun V env m => ve env m fun d m1 => vo env m1 fun x m2 => ∃ a fs, x = .adr a ∧ m2.2 a = some (.obj C fs) ∧ fs.length < 1000 ∧ V.nx env (m2.1, sput m2.2 a (.obj C (dputF f d fs)))
theorem x_setF {C : Addr} {f : Str} {fl : List Str} {to te : TE} {vo ve : VE} (k : ClsK c.K C fl) (hf : f ∈ fl) (ho : SF c Γ to vo) (he : SF c Γ te ve) : SS c t Γ Γ Γb Γc (sFld c.K to te f) (vSetF C f vo ve) := fun G H S env σ m De Ve e st hv =>
  he [] G H S env σ m _ _ st hv fun d m1 u G1 H1 p1 s1 st1 q1 => ho [] G1 H1 S env σ m1 _ _ st1 p1 fun x m2 v G2 H2 p2 s2 st2 q2 => by
    obtain ⟨a, gs, rfl, ea, hz, p⟩ := p2
    obtain rfl := dd_adr q2
    obtain ⟨dx, fs, h1, h2, e1, q⟩ := st2.storedO ea
    have el : fs.length = gs.length := by simpa using congrArg List.length e1
    exact ⟨a, C, dx, fs, rfl, h1, k.1, k.2 f hf, by rw [el]; exact hz, e.nx G2 _ S env σ _ (s1.trans s2) (st2.setO ea h1 (putF_fst e1) (putF_snd (q1.mono s2) e1 q)) p⟩
def vAugF (C : Addr) (f : Str) (g : D → D → (D → Prop) → Prop) (vo ve : VE) : VS := fun V env m => vo env m fun x m1 => ∃ a fs x0, x = .adr a ∧ m1.2 a = some (.obj C fs) ∧ fs.lookup f = some x0 ∧ ve env m1 fun y m2 => g x0 y fun z => ∃ fs', m2.2 a = some (.obj C fs') ∧ fs'.length < 1000 ∧ V.nx env (m2.1, sput m2.2 a (.obj C (dputF f z fs')))
def vMeth (C : Addr) (mn : Str) (vsp : VSp) (VW : XW) (ve : VE) (va : VA) : VE := fun env m P => ve env m fun x m1 => ∃ a fs, x = .adr a ∧ m1.2 a = some (.obj C fs) ∧ fs.lookup mn = none ∧ va env m1 fun ds m2 => vsp (.adr a :: ds) m2 P fun Cx fx m3 => VW Cx fx env m3
theorem lookup_no {f : Str} : ∀ {xs : List (Str × V)} {fs : List (Str × D)}, xs.map Prod.fst = fs.map Prod.fst → fs.lookup f = none → xs.lookup f = none
  | [], [], _, _ => rfl
  | [], _ :: _, e, _ => by simp at e
  | _ :: _, [], e, _ => by simp at e
  | (x1, x2) :: xs, (y1, y2) :: fs, e, h => by
    rw [List.map_cons, List.map_cons] at e
    obtain ⟨h1, h2⟩ := List.cons.inj e
    obtain rfl : x1 = y1 := h1
    rw [List.lookup_cons] at h ⊢
    by_cases z : (f == x1) = true
    · rw [z] at h; cases h
    · rw [Bool.not_eq_true] at z
      rw [z] at h ⊢
      exact lookup_no h2 h
theorem s_methF {C : Addr} {mn : Str} {vsp : VSp} {W : WX} {VW : XW} {te : TE} {ve : VE} {ta : TA} {va : VA} (hx : ExOk c Γ W VW) (he : SF c Γ te ve) (ha : SG c Γ ta va) : SF c Γ (tMethQ C mn (spV c.K .F vsp) (WE W) te ta) (vMeth C mn vsp VW ve va) := fun T G H S env σ m P Q st hv k =>
  he T G H S env σ m _ _ st hv fun x m1 v G1 H1 p1 s1 st1 q1 => by
    obtain ⟨a, gs, rfl, ea, hl, p⟩ := p1
    obtain rfl := dd_adr q1
    obtain ⟨dx, fs, h1, h2, e1, q⟩ := st1.storedO ea
    refine ⟨a, dx, fs, rfl, h1, lookup_no e1 hl, ha T G1 H1 S env σ m1 _ _ st1 p fun ds m2 vs G2 H2 p2 s2 st2 b2 => ?_⟩
    exact run_spV st2 (.cons (.adr a) b2) p2 (fun d m' v G' H' S1 p s st' o => by
      obtain ⟨rfl, o⟩ := o
      exact k d m' v G' H' p (s1.trans (s2.trans s)) st' o) fun C fs m' dd G' H' h s st' o => hx G' H' S env σ m' C fs dd st'.drop o h
theorem s_methO {C : Addr} {mn : Str} {vsp : VSp} {W : WX} {VW : XW} {te : TE} {ve : VE} {ta : TA} {va : VA} (hx : ExOk c Γ W VW) (he : SF c Γ te ve) (ha : SG c Γ ta va) : SO c Γ (tMethQ C mn (spV c.K .O vsp) (WE W) te ta) (vMeth C mn vsp VW ve va) := fun T G H S env σ m P Q st hv k =>
  he T G H S env σ m _ _ st hv fun x m1 v G1 H1 p1 s1 st1 q1 => by
    obtain ⟨a, gs, rfl, ea, hl, p⟩ := p1
    obtain rfl := dd_adr q1
    obtain ⟨dx, fs, h1, h2, e1, q⟩ := st1.storedO ea
    refine ⟨a, dx, fs, rfl, h1, lookup_no e1 hl, ha T G1 H1 S env σ m1 _ _ st1 p fun ds m2 vs G2 H2 p2 s2 st2 b2 => ?_⟩
    exact run_spV st2 (.cons (.adr a) b2) p2 (fun d m' v G' H' S1 p s st' o => k d m' v G' H' S1 p (s1.trans (s2.trans s)) st' o) fun C fs m' dd G' H' h s st' o => hx G' H' S env σ m' C fs dd st'.drop o h
def vMake (C : Addr) (vsp : VSp) (VW : XW) (va : VA) : VE := fun env m P => va env m fun ds m1 => ∀ y, m1.2 y = none → vsp (.adr y :: ds) (m1.1, sput m1.2 y (.obj C [])) (fun d m2 => d = .non ∧ P (.adr y) m2) fun Cx fx m3 => VW Cx fx env m3
theorem s_make {C : Addr} {vsp : VSp} {t : OT} {W : WX} {VW : XW} {ta : TA} {va : VA} (hx : ExOk c Γ W VW) (ha : SG c Γ ta va) : SF c Γ (tMakeQ C (spV c.K t vsp) (WE W) ta) (vMake C vsp VW va) := fun T G H S env σ m P Q st hv k =>
  ha T G H S env σ m _ _ st hv fun ds m1 vs G1 H1 p1 s1 st1 b1 => fun x dx hx0 hd0 ne => by
    have st2 : Stx c Γ G1 (upd H1 dx (.own x)) ((dx, .own x) :: T) S env σ m1 := st1.new hd0
    have st3 : Stx c Γ G1 (upd (upd H1 dx (.own x)) x (.ins C dx [])) ((x, .ins C dx []) :: (dx, .own x) :: T) S env σ m1 := st2.new (by rw [upd_ne (Ne.symm ne)]; exact hx0)
    obtain ⟨hn, st4⟩ := Stx.storeN (C1 := [(x, .ins C dx []), (dx, .own x)]) (d := .obj C []) (T := T) st3 ⟨dx, [], rfl, rfl, .nil⟩
    refine run_spV st4 (.cons (.adr x) b1) (p1 x hn) (fun d m' v G' H' S1 p s st' o => ?_) fun C fs m' dd G' H' h s st' o => hx G' H' S env σ m' C fs dd st'.drop o h
    obtain ⟨rfl, p⟩ := p
    have hv : v = .non := by
      cases t with
      | F => obtain ⟨_, o⟩ := o; cases o; rfl
      | O => obtain ⟨_, o⟩ := o; cases o; rfl
    exact ⟨hv, k _ m' _ G' H' p (s1.trans s) st'.dropT (.adr x)⟩
def vMutS (f : List D → List D → (List D → D → Prop) → Prop) (ve : VE) (va : VA) : VS := fun V env m => ve env m fun x m1 => ∃ a ds0, x = .adr a ∧ m1.2 a = some (.lst ds0) ∧ va env m1 fun xs m2 => ∃ ds, m2.2 a = some (.lst ds) ∧ f ds (xs.map (look m2.2)) fun ds' z => V.nx env (m2.1, sput m2.2 a (.lst ds'))
theorem x_mutS {r : V → List V → Hp → VK → Prop} {f : List D → List D → (List D → D → Prop) → Prop} {te : TE} {ve : VE} {ta : TA} {va : VA} (o : MuV c.K r f) (he : SF c Γ te ve) (ha : SA c Γ ta va) : SS c t Γ Γ Γb Γc (tDrop (tBM c.K "list" r te ta)) (vMutS f ve va) := fun G H S env σ m De Ve e st hv =>
  he [] G H S env σ m _ _ st hv fun x m1 v G1 H1 p1 s1 st1 q1 => by
    obtain ⟨a, ds0, rfl, ea, p⟩ := p1
    obtain rfl := dd_adr q1
    obtain ⟨vs0, h0, _⟩ := st1.storedL ea
    refine ⟨.inl ⟨rfl, vs0, SqL.of h0⟩, ha [] G1 H1 S env σ m1 _ _ st1 p fun xs m2 us G2 H2 S2 p2 s2 st2 b2 => ?_⟩
    obtain ⟨ds, ea2, p2⟩ := p2
    obtain ⟨vs, h1, q⟩ := st2.storedL ea2
    have t2 := tps_look st2 (BoAll.tp (T := S2 ++ []) st2 (b2.mono (Same.refl _) (B := S2 ++ [] ++ S) (fun x hx => by rcases List.mem_append.mp hx with q | q <;> simp [q])))
    refine o G2 H2 a vs ds us _ _ _ st2.v h1 q t2 p2 fun ds' z vs2 u pz q2 => ?_
    exact e.nx G2 _ S env σ _ (s1.trans s2) (st2.drop.setL ea2 q2) pz
def vAppS (ve vx : VE) : VS := fun V env m => ve env m fun x m1 => ∃ a ds0, x = .adr a ∧ m1.2 a = some (.lst ds0) ∧ vx env m1 fun d m2 => ∃ ds, m2.2 a = some (.lst ds) ∧ ds.length < sizeLine ∧ V.nx env (m2.1, sput m2.2 a (.lst (ds ++ [d])))
theorem x_appS {te tx : TE} {ve vx : VE} (he : SF c Γ te ve) (hx : SF c Γ tx vx) : SS c t Γ Γ Γb Γc (tDrop (tBM c.K "list" rAppend te (tCons tx tNil))) (vAppS ve vx) := fun G H S env σ m De Ve e st hv =>
  he [] G H S env σ m _ _ st hv fun x m1 v G1 H1 p1 s1 st1 q1 => by
    obtain ⟨a, ds0, rfl, ea, p⟩ := p1
    obtain rfl := dd_adr q1
    obtain ⟨vs0, h0, _⟩ := st1.storedL ea
    refine ⟨.inl ⟨rfl, vs0, SqL.of h0⟩, hx [] G1 H1 S env σ m1 _ _ st1 p fun d m2 u G2 H2 p2 s2 st2 q2 => ?_⟩
    obtain ⟨ds, ea2, hz, p2⟩ := p2
    obtain ⟨vs, h1, q⟩ := st2.storedL ea2
    exact ⟨a, vs, u, rfl, rfl, h1, by rw [q.len]; exact hz, e.nx G2 _ S env σ _ (s1.trans s2) (st2.setL ea2 (q.app (.one q2))) p2⟩
def vPutS (vo ve vk : VE) : VS := fun V env m => ve env m fun d m1 => vo env m1 fun x m2 => ∃ a, x = .adr a ∧ vk env m2 fun y m3 => (∃ ds k j, m3.2 a = some (.lst ds) ∧ y = .int k ∧ ixN ds.length k = some j ∧ V.nx env (m3.1, sput m3.2 a (.lst (ds.set j d)))) ∨
  ∃ kds k, m3.2 a = some (.dic kds) ∧ dKey y = some k ∧ kds.length < sizeLine ∧ V.nx env (m3.1, sput m3.2 a (.dic (dput kds k d)))
theorem x_putS {to te tk : TE} {vo ve vk : VE} (ho : SF c Γ to vo) (h : SF c Γ te ve) (hk : SF c Γ tk vk) : SS c t Γ Γ Γb Γc (tAsg te (gSub to tk rSetU)) (vPutS vo ve vk) := fun G H S env σ m De Ve e st hv =>
  h [] G H S env σ m _ _ st hv fun d m1 u G1 H1 p1 s1 st1 q1 => ho [] G1 H1 S env σ m1 _ _ st1 p1 fun x m2 v G2 H2 p2 s2 st2 q2 => by
    obtain ⟨a, rfl, p⟩ := p2
    obtain rfl := dd_adr q2
    refine hk [] G2 H2 S env σ m2 _ _ st2 p fun y m3 w G3 H3 p3 s3 st3 q3 => ?_
    have q1' := q1.mono (s2.trans s3)
    rcases p3 with ⟨ds, k, j, ea, rfl, hj, p3⟩ | ⟨kds, k, ea, ek, hz, p3⟩
    · obtain ⟨vs, h1, q⟩ := st3.storedL ea
      obtain rfl := q3.intInv
      exact .inl ⟨a, vs, k, j, rfl, rfl, h1, by rw [q.len]; exact hj, e.nx G3 _ S env σ _ (s1.trans (s2.trans s3)) (st3.setL ea (q.set j q1')) p3⟩
    · obtain ⟨kvs, h1, e1, q⟩ := st3.storedD ea
      obtain rfl := kV_of (.dd q3 : Tp c.K G3 H3 w y) ek
      have el : kvs.length = kds.length := by simpa using congrArg List.length e1
      exact .inr ⟨a, _, rfl, DPut.k (k := k) h1 (by rw [el]; exact hz), e.nx G3 _ S env σ _ (s1.trans (s2.trans s3)) (st3.setD ea (put_fst e1) (put_snd q1' e1 q)) p3⟩
end
end Ps
namespace Ps
open PySem PySem.Spec PyProof.Rows L2
abbrev VAB := Env → Mst → (List D → List (Addr × D) → Mst → Prop) → Prop
def LiveI (K : PySem.W.Frag) (G0 : Hp) (bs : List (Addr × D)) (H : Hp) : Prop := ∃ G, Same G0 G ∧ Same G H ∧ ∀ p ∈ bs, Tp K G H (.ref p.1) p.2
def LiveY (K : PySem.W.Frag) (G0 : Hp) (bs : List (Addr × D)) (ds : List D) : Nat → Hp → V → Hp → Prop := fun i H x H' => ∀ G, Same G0 G → Same G H → (∀ p ∈ bs, Tp K G H (.ref p.1) p.2) → YD K G ds i H x H'
def SIB (c : JC) (Γ : List OT) (wi : TI) (vi : VAB) : Prop := ∀ (T : List (Addr × HO)) (G H : Hp) (S : List (Addr × HO)) (env : Env) (σ : L2.St) (m : Mst) (P : List D → List (Addr × D) → Mst → Prop) (R : It → Hp → Prop), Stx c Γ G H T S env σ m → vi env m P →
  (∀ ds bs m' J G' H', P ds bs m' → Same G G' → Stx c Γ G' H' T S env σ m' → Walk J ds.length (LiveI c.K G' bs) (LiveY c.K G' bs ds) → R J H') → wi σ H R
section
variable {c : JC} {K : PySem.W.Frag} {Γ Γ1 Γn Γb Γc : List OT} {G G0 G' H H' : Hp} {T S S1 S2 R C : List (Addr × HO)} {env : Env} {σ : L2.St} {m : Mst} {v : V} {d : D} {t : OT} {i j : Nat} {a b : Addr} {is : List Nat} {bs cs : List (Addr × D)} {ds es : List D}
def HasL (K : PySem.W.Frag) (G0 : Hp) (bs : List (Addr × D)) (a : Addr) (ds : List D) : Prop := ∀ G H, Same G0 G → Same G H → (∀ p ∈ bs, Tp K G H (.ref p.1) p.2) → Tp K G H (.ref a) (.lst ds)
theorem HasL.live (h : HasL K G0 bs a ds) (l : LiveI K G0 bs H) : ∃ vs G, H a = some (.lst vs) ∧ DdAll K G vs ds := by
  obtain ⟨G, s1, s2, q⟩ := l
  obtain ⟨a', vs, e, h1, h2⟩ := (h G H s1 s2 q).l s2
  cases e
  exact ⟨vs, G, h1, h2⟩
theorem HasL.at {vs : List V} (h : HasL K G0 bs a ds) (s1 : Same G0 G) (s2 : Same G H) (q : ∀ p ∈ bs, Tp K G H (.ref p.1) p.2) (e : H a = some (.lst vs)) : DdAll K G vs ds := by
  obtain ⟨a', vs', e', h1, h2⟩ := (h G H s1 s2 q).l s2
  cases e'
  rw [e] at h1; cases h1
  exact h2
theorem HasL.frz (h : G0 a = some (.lst vs)) (q : DdAll K G0 vs ds) : HasL K G0 [] a ds := fun G H s1 s2 _ => .dd (.lst (s1 _ _ h) (q.mono s1))
theorem HasL.box : HasL K G0 [(a, .lst ds)] a ds := fun G H s1 s2 q => q _ List.mem_cons_self
theorem HasL.l (h : HasL K G0 bs a ds) : HasL K G0 (bs ++ cs) a ds := fun G H s1 s2 q => h G H s1 s2 fun p hp => q p (List.mem_append_left _ hp)
theorem HasL.r (h : HasL K G0 cs a ds) : HasL K G0 (bs ++ cs) a ds := fun G H s1 s2 q => h G H s1 s2 fun p hp => q p (List.mem_append_right _ hp)
theorem walk_l (h : HasL K G0 bs a ds) : Walk (Itl K a) ds.length (LiveI K G0 bs) (LiveY K G0 bs ds) := by
  refine ⟨fun i H hi l => ?_, fun H l => ?_, fun i H x H' hi l y G s1 s2 q => ?_⟩
  · obtain ⟨vs, G, e, q⟩ := h.live l
    exact ⟨vs, vs[i]'(by rw [q.len]; exact hi), SqL.of e, by simp [q.len, hi]⟩
  · obtain ⟨vs, G, e, q⟩ := h.live l
    exact ⟨vs, SqL.of e, by rw [q.len]; exact Nat.le_refl _⟩
  · obtain ⟨vs, G1, e, _⟩ := h.live l
    have q1 := h.at s1 s2 q e
    obtain ⟨d, e1, e2⟩ := q1.getV (y.2 vs (SqL.of e))
    exact ⟨d, e1, .inl ⟨y.1, e2⟩⟩
def itSeqB : D → (List D → List (Addr × D) → Mst → Prop) → Mst → Prop
  | .adr a, P, m => ∃ ds, m.2 a = some (.lst ds) ∧ P ds [(a, .lst ds)] m
  | .lst ds, P, m => P ds [] m
  | .tup ds, P, m => P ds [] m
  | _, _, _ => False
def itLstB : D → (List D → List (Addr × D) → Mst → Prop) → Mst → Prop
  | .adr a, P, m => ∃ ds, m.2 a = some (.lst ds) ∧ P ds [(a, .lst ds)] m
  | .lst ds, P, m => P ds [] m
  | _, _, _ => False
def vSeqB (ve : VE) : VAB := fun env m P => ve env m fun x m1 => itSeqB x P m1
theorem hasL_of {x : D} {P : List D → List (Addr × D) → Mst → Prop} (st : Stx c Γ G H T S env σ m) (q : Dd c.K G v x) (p : itLstB x P m) : ∃ a ds bs vs, v = .ref a ∧ HasL c.K G bs a ds ∧ H a = some (.lst vs) ∧ vs.length = ds.length ∧ P ds bs m := by
  cases x with
  | adr a =>
    obtain ⟨ds, e, p⟩ := p
    obtain rfl := dd_adr q
    obtain ⟨vs, h1, h2⟩ := st.storedL e
    exact ⟨a, ds, _, vs, rfl, HasL.box, h1, h2.len, p⟩
  | lst ds =>
    cases q with
    | lst h1 h2 => exact ⟨_, ds, _, _, rfl, HasL.frz h1 h2, st.v _ _ h1, h2.len, p⟩
  | _ => exact p.elim
theorem ib_seq {te : TE} {ve : VE} (he : SF c Γ te ve) : SIB c Γ (iSeqV c.K te) (vSeqB ve) := fun T G H S env σ m P R st hv k =>
  he T G H S env σ m _ _ st hv fun x m1 v G1 H1 p1 s1 st1 q1 => by
    have go : itLstB x P m1 → _ := fun p => hasL_of st1 q1 p
    cases x with
    | adr a =>
      obtain ⟨a, ds, bs, vs, rfl, h1, h2, h3, p⟩ := go p1
      exact .inl ⟨_, vs, rfl, SqL.of h2, k _ _ m1 _ G1 H1 p s1 st1 (walk_l h1)⟩
    | lst ds =>
      obtain ⟨a, ds, bs, vs, rfl, h1, h2, h3, p⟩ := go p1
      exact .inl ⟨_, vs, rfl, SqL.of h2, k _ _ m1 _ G1 H1 p s1 st1 (walk_l h1)⟩
    | tup ds =>
      cases q1 with
      | tup h1 h2 =>
        refine .inr (.inl ⟨_, _, rfl, same_t st1.v h1.sq, k _ _ m1 _ G1 H1 p1 s1 st1 ?_⟩)
        rw [← h2.len]
        exact walk_tup.mono (fun H l => by obtain ⟨G, s1, s2, _⟩ := l; exact same_t (s1.trans s2) h1.sq) fun i H x H' _ _ y G s1 s2 _ => (h2.mono s1).yat y
    | _ => exact p1.elim
theorem boxes_live (st : Stx c Γ G H T S env σ m) (s : Same G0 G) (hb : ∀ p ∈ bs, m.2 p.1 = some p.2 ∧ ∃ ds, p.2 = .lst ds) : (∀ p ∈ bs, Tp c.K G H (.ref p.1) p.2) ∧ LiveI c.K G0 bs H := by
  have q : ∀ p ∈ bs, Tp c.K G H (.ref p.1) p.2 := fun p hp => by
    obtain ⟨e, ds, e2⟩ := hb p hp
    rw [e2] at e ⊢
    obtain ⟨vs, h1, h2⟩ := st.storedL e
    exact .lst h1 h2
  exact ⟨q, G, s, st.v, q⟩
def Stand (bs : List (Addr × D)) (s : Sto) : Prop := ∀ p ∈ bs, s p.1 = some p.2 ∧ ∃ ds, p.2 = .lst ds
def lcDB (items : List D) (bs : List (Addr × D)) (vg : VG) (vt : VT) (ve : VE) (vs : List Nat) (env : Env) (m1 : Mst) (P : D → Mst → Prop) : Prop := ∃ W : Nat → List D → Mst → Prop, W 0 [] m1 ∧ (∀ i acc m', W i acc m' → Stand bs m'.2) ∧
  (∀ i acc m' d, W i acc m' → items[i]? = some d → vg d (wipeE env vs) fun e1 => vt e1 m' fun b m2 => if b = true then ve e1 m2 fun y m3 => acc.length < sizeLine ∧ W (i + 1) (acc ++ [y]) m3 else W (i + 1) acc m2) ∧
  ∀ acc m', W items.length acc m' → P (.lst acc) m'
def vLcB (vi : VAB) (vg : VG) (vt : VT) (ve : VE) (vs : List Nat) : VE := fun env m P => vi env m fun items bs m1 => lcDB items bs vg vt ve vs env m1 P
theorem s_lcB {wi : TI} {vi : VAB} {tg : TG} {vg : VG} {tt : TT} {vt : VT} {te : TE} {ve : VE} {vs : List Nat} (hi : SIB c Γ wi vi) (hF : (vs.all fun i => decide (Γ[i]? = some .F)) = true) (hg : SGt c Γ vs tg vg) (ht : ST c Γ tt vt) (he : SF c Γ te ve) :
    SO c Γ (tLc wi tg tt te vs) (vLcB vi vg vt ve vs) := fun T G H S env σ m P Q st hv k =>
  hi T G H S env σ m _ _ st hv fun items bs m1 J G1 H1 p1 s1 st1 wk => by
    obtain ⟨W, w0, wb, wn, wd⟩ := p1
    intro D hD
    refine lc_it wk (fun i H' => ∃ G2 accV acc m', Same G1 G2 ∧ Stx c Γ G2 H' ((D, .lst accV) :: T) S env σ m' ∧ DdAll c.K G2 accV acc ∧ W i acc m') ⟨G1, [], [], m1, Same.refl _, st1.new hD, .nil, w0⟩ (fun i H' _ p => ?_) (fun i x Hi H' hi p y => ?_) (fun H' p => ?_)
    · obtain ⟨G2, accV, acc, m', s2, st2, _, hw⟩ := p
      exact (boxes_live st2 s2 (wb _ _ _ hw)).2
    · obtain ⟨G2, accV, acc, m', s2, st2, hacc, hw⟩ := p
      obtain ⟨d, G3, ed, s3, st3, hd⟩ := st2.item (Same.refl _) (y G2 s2 st2.v (boxes_live st2 s2 (wb _ _ _ hw)).1)
      obtain ⟨q0, C0, q1, q2, z3⟩ := id st3
      refine hg G3 H' S (wipeE env vs) (wipe σ vs) x d _ _ (z3.wipeF hF) st3.v hd (wn i acc m' d hw ed) fun e1 σ1 pe sl1 l1 n1 => ⟨?_, ?_⟩
      · rw [wipe_eq l1 n1, wipe_wipe]
      · have st4 := st3.slots sl1
        refine ht _ G3 H' S e1 σ1 m' _ _ st4 pe fun b m2 G4 H4 S4 p4 s4 st5 => ?_
        cases b with
        | true =>
          rw [if_pos rfl] at p4 ⊢
          refine he _ G4 H4 S e1 σ1 m2 _ _ st5.dropT p4 fun y m3 u G5 H5 p5 s5 st6 hy => ?_
          have st7 := st6.slots (z3.mono (s4.trans s5))
          refine ⟨accV, st7.push (y := u).1, by rw [hacc.len]; exact p5.1, G5, accV ++ [u], acc ++ [y], m3, s2.trans (s3.trans (s4.trans s5)), st7.push.2, ?_, p5.2⟩
          exact (hacc.mono (s3.trans (s4.trans s5))).app (.one hy)
        | false =>
          rw [if_neg Bool.false_ne_true] at p4 ⊢
          exact ⟨G4, accV, acc, m2, s2.trans (s3.trans s4), st5.dropT.slots (z3.mono s4), hacc.mono (s3.trans s4), p4⟩
    · obtain ⟨G2, accV, acc, m', s2, st2, hacc, hw⟩ := p
      exact k (.lst acc) m' (.ref D) G2 H' [(D, .lst accV)] (wd acc m' hw) (s1.trans s2) st2 ⟨D, accV, rfl, rfl, hacc⟩
def forDB (ws : List Nat) (items : List D) (bs : List (Addr × D)) (vg : VG) (vb : VS) (V : VEnds) (env : Env) (m1 : Mst) : Prop := ∃ W : Nat → Env → Mst → Prop, W 0 (wipeE env ws) m1 ∧ (∀ i e m', W i e m' → Stand bs m'.2) ∧
  (∀ i e m' d, W i e m' → items[i]? = some d → vg d e fun e1 => vb { V with nx := fun e2 m2 => W (i + 1) (wipeE e2 ws) m2, ct := fun e2 m2 => W (i + 1) (wipeE e2 ws) m2, bk := fun e2 m2 => V.nx (wipeE e2 ws) m2 } e1 m') ∧ ∀ e m', W items.length e m' → V.nx e m'
def vForB (ws : List Nat) (vi : VAB) (vg : VG) (vb : VS) : VS := fun V env m => vi env m fun items bs m1 => forDB ws items bs vg vb V env m1
theorem x_forB {Γ' : List OT} {ws : List Nat} {wi : TI} {vi : VAB} {tg : TG} {vg : VG} {b : TS} {y : VS} (hi : SIB c Γ wi vi) (hg : SGt c Γ' is tg vg) (hb : SS c t Γ' Γ' Γ' Γ' b y) (hw : wipeΓ Γ ws = Γ' := by rfl) (hw' : wipeΓ Γ' ws = Γ' := by rfl)
    (hv : (ws.all fun i => decide (i < Γ.length)) = true := by rfl) (hv' : (ws.all fun i => decide (i < Γ'.length)) = true := by rfl) : SS c t Γ Γ' Γb Γc (tFor wi tg b) (vForB ws vi vg y) := fun G H S env σ m De Ve e st hv0 =>
  hi [] G H S env σ m _ _ st hv0 fun items bs m1 J G1 H1 p1 s1 st1 wk => by
    obtain ⟨W, w0, wb, wn, wd⟩ := p1
    obtain ⟨S1, st1⟩ := Stx.wipes st1 hv
    rw [hw] at st1
    have wp : ∀ {G H : Hp} {S : List (Addr × HO)} {env : Env} {σ : L2.St} {m : Mst}, Stt c Γ' G H S env σ m → ∃ S', Stt c Γ' G H S' (wipeE env ws) σ m := fun st => by
      have q := Stx.wipes st hv'
      rw [hw'] at q
      exact q
    refine for_it wk (fun i σ H' => ∃ G2 S2 env2 m2, Same G1 G2 ∧ Stt c Γ' G2 H' S2 env2 σ m2 ∧ W i env2 m2) ⟨G1, S1, _, m1, Same.refl _, st1, w0⟩ (fun i σ H' _ p => ?_) (fun i x σ Hi H' hi p y => ?_) (fun σ H' p => ?_)
    · obtain ⟨G2, S2, env2, m2, s2, st2, hw⟩ := p
      exact (boxes_live st2 s2 (wb _ _ _ hw)).2
    · obtain ⟨G2, S2, env2, m2, s2, st2, hw⟩ := p
      obtain ⟨d, G3, ed, s3, st3, hd⟩ := st2.item (Same.refl _) (y G2 s2 st2.v (boxes_live st2 s2 (wb _ _ _ hw)).1)
      obtain ⟨q0, C0, q1, q2, z3⟩ := id st3
      refine hg G3 H' S2 env2 σ x d _ _ z3 st3.v hd (wn i env2 m2 d hw ed) fun e1 σ1 pe sl1 _ _ => ?_
      have up : Same G G3 := s1.trans (s2.trans s3)
      exact hb G3 H' S2 e1 σ1 m2 _ { Ve with nx := fun e2 m2 => W (i + 1) (wipeE e2 ws) m2, ct := fun e2 m2 => W (i + 1) (wipeE e2 ws) m2, bk := fun e2 m2 => Ve.nx (wipeE e2 ws) m2 } ⟨fun G H S env σ m s st hv => by
        obtain ⟨S', st'⟩ := wp st
        exact ⟨G, S', _, m, s2.trans (s3.trans s), st', hv⟩, (e.up up).rt, fun G H S env σ m s st hv => by
        obtain ⟨S', st'⟩ := wp st
        exact (e.up up).nx G H S' _ σ m s st' hv, fun G H S env σ m s st hv => by
        obtain ⟨S', st'⟩ := wp st
        exact ⟨G, S', _, m, s2.trans (s3.trans s), st', hv⟩⟩ (st3.slots sl1) pe
    · obtain ⟨G2, S2, env2, m2, s2, st2, hw⟩ := p
      exact e.nx G2 H' S2 env2 σ m2 (s1.trans s2) st2 (wd env2 m2 hw)
theorem DdAll.dropLast : ∀ {vs : List V} {ds : List D}, DdAll K G vs ds → DdAll K G vs.dropLast ds.dropLast
  | _, _, .nil => .nil
  | _, _, .cons _ .nil => .nil
  | _, _, .cons h (.cons h2 t) => .cons h (DdAll.dropLast (.cons h2 t))
theorem DdAll.ins {v : V} {d : D} (h : Dd K G v d) : ∀ {vs : List V} {ds : List D} (k : Nat), DdAll K G vs ds → DdAll K G (vs.take k ++ v :: vs.drop k) (ds.take k ++ d :: ds.drop k) := fun k q => (q.take k).app (.cons h (q.drop k))
def ddrop (kds : List (Key × D)) (k : Key) : List (Key × D) := kds.filter fun kv => !decide (kv.1 = k)
theorem drop_fst {k : Key} : ∀ {kvs : List (Key × V)} {kds : List (Key × D)}, kvs.map Prod.fst = kds.map Prod.fst → DdAll K G (kvs.map Prod.snd) (kds.map Prod.snd) → ((kvs.filter fun kv => !decide (kv.1 = k)).map Prod.fst = (ddrop kds k).map Prod.fst ∧ DdAll K G ((kvs.filter fun kv => !decide (kv.1 = k)).map Prod.snd) ((ddrop kds k).map Prod.snd))
  | [], [], _, _ => ⟨rfl, .nil⟩
  | [], _ :: _, e, _ => by simp at e
  | _ :: _, [], e, _ => by simp at e
  | x :: l, y :: r, e, q => by
    rw [List.map_cons, List.map_cons] at e
    obtain ⟨h1, h2⟩ := List.cons.inj e
    rw [List.map_cons, List.map_cons] at q
    cases q with
    | cons q1 q2 =>
      obtain ⟨i1, i2⟩ := drop_fst (k := k) h2 q2
      unfold ddrop
      rw [List.filter_cons, List.filter_cons, h1]
      by_cases z : y.1 = k
      · simp only [z, decide_true, Bool.not_true, Bool.false_eq_true, if_false]; exact ⟨i1, i2⟩
      · simp only [z, decide_false, Bool.not_false, if_true]
        exact ⟨by rw [List.map_cons, List.map_cons, h1, i1]; rfl, by rw [List.map_cons, List.map_cons]; exact .cons q1 i2⟩
end
end Ps
namespace Ps
open PySem PySem.Spec PyProof.Rows L2
section
variable {X : Cx} {CX : CXT} {k : Nat} {f C : Addr} {fd : FuncData} {ps : List Str} {sp : Sp} {E : L2.St → XK} {x m : Str} {p pos apos : Pos}
theorem pe_makeQ0 (M : Mk X.K C f) (F : FnOk X.prog X.w X.K X.mg X.base CX k f fd ps sp) (hr : Room (k + 1) X.A) (hg : Gl X x) (hm : X.mg x = some (.ref C)) (hb : Binds X.K fd ps []) (hx : ∀ σ, PassesAt CX X σ (E σ))
    (hdb : (x == ("__debug__" : Str)) = false := by decide) : PE X (.Call (.Name x p) [] [] pos) (tMakeQ C sp E tNil) := by
  refine ⟨fun pins s σ H Q I h => ?_⟩
  refine wpAny_Call_Name_kw (ld_glob I hg hm ?_ hdb)
  exact PySem.W.callWith_K0 I.kIn M.kp (run_makeQ (us := []) M F hr hb (hx σ) I .nil h)
end
section
variable {c : JC} {K : PySem.W.Frag} {Γ Γ1 Γn Γb Γc : List OT} {G G0 G' H H' : Hp} {T S S1 S2 R C : List (Addr × HO)} {env : Env} {σ : L2.St} {m : Mst} {v : V} {d : D} {t : OT} {i j : Nat} {a b : Addr}
theorem dget_of {kvs : List (Key × V)} {kds : List (Key × D)} {k : Key} (h1 : kvs.map Prod.fst = kds.map Prod.fst) (h2 : DdAll K G (kvs.map Prod.snd) (kds.map Prod.snd)) (e : Rd H a (.dK kvs)) : (dget kds k = none ∧ DGet H a (kV k) none) ∨ ∃ v d, dget kds k = some d ∧ DGet H a (kV k) (some v) ∧ Dd K G v d := by
  rcases get_snd (k := k) h1 h2 with ⟨q1, q2⟩ | ⟨v, d, q1, q2, q3⟩
  · exact .inl ⟨q2, DGet.of e q1⟩
  · exact .inr ⟨v, d, q2, DGet.of e q1, q3⟩
def vGet2 (ve vk vx : VE) : VE := fun env m P => ve env m fun x m1 => (∃ kds, look m1.2 x = .dic kds) ∧ vk env m1 fun y m2 => vx env m2 fun z m3 => ∃ kds k, look m3.2 x = .dic kds ∧ dKey y = some k ∧ P ((dget kds k).getD z) m3
theorem s_get2 {te tk tx : TE} {ve vk vx : VE} (he : SB c Γ te ve) (hk : SF c Γ tk vk) (hx : SF c Γ tx vx) : SF c Γ (tDGet2 te tk tx) (vGet2 ve vk vx) := fun T G H S env σ m P Q st hv kk =>
  he T G H S env σ m _ _ st hv fun x m1 v G1 H1 S1 p1 s1 st1 b1 => by
    obtain ⟨⟨kds0, e0⟩, p1⟩ := p1
    have t0 := tp_look st1 (bo_tp (T := S1 ++ T) st1 (bo_sub (Same.refl _) (B := S1 ++ T ++ S) (fun x hx => by rcases List.mem_append.mp hx with q | q <;> simp [q]) b1))
    rw [e0] at t0
    obtain ⟨a, kvs0, rfl, h0, _, _⟩ := t0.dk st1.v
    refine ⟨a, rfl, .inl ⟨kvs0, h0⟩, hk (S1 ++ T) G1 H1 S env σ m1 _ _ st1 p1 fun y m2 w G2 H2 p2 s2 st2 q2 => hx (S1 ++ T) G2 H2 S env σ m2 _ _ st2 p2 fun z m3 u G3 H3 p3 s3 st3 q3 => ?_⟩
    obtain ⟨kds, k, e3, ek, p3⟩ := p3
    have t3 := tp_look st3 (bo_tp (T := S1 ++ T) st3 (bo_sub (s2.trans s3) (B := S1 ++ T ++ S) (fun x hx => by rcases List.mem_append.mp hx with q | q <;> simp [q]) b1))
    rw [e3] at t3
    obtain ⟨a', kvs, e4, h1, h2, h4⟩ := t3.dk st3.v
    cases e4
    obtain rfl := kV_of (.dd q2 : Tp c.K G2 H2 w y) ek
    rcases dget_of (k := k) h2 h4 h1 with ⟨g1, g2⟩ | ⟨v, d, g1, g2, g3⟩
    · rw [g1] at p3
      exact ⟨_, g2, kk z m3 u G3 H3 p3 (s1.trans (s2.trans s3)) st3.dropT q3⟩
    · rw [g1] at p3
      exact ⟨_, g2, kk d m3 v G3 H3 p3 (s1.trans (s2.trans s3)) st3.dropT g3⟩
theorem dropK_eq (kvs : List (Key × V)) (k : Key) : dropK kvs k = kvs.filter fun kv => !decide (kv.1 = k) := by
  unfold dropK
  refine List.filter_congr fun x _ => ?_
  by_cases h : x.1 = k <;> simp [h]
def vDPopS (ve vk : VE) : VE := fun env m P => ve env m fun x m1 => ∃ a kds0, x = .adr a ∧ m1.2 a = some (.dic kds0) ∧ vk env m1 fun y m2 => ∃ kds k d, m2.2 a = some (.dic kds) ∧ dKey y = some k ∧ dget kds k = some d ∧ P d (m2.1, sput m2.2 a (.dic (ddrop kds k)))
theorem s_dpopS {te tk : TE} {ve vk : VE} (he : SF c Γ te ve) (hk : SF c Γ tk vk) : SF c Γ (tDPop1 te tk) (vDPopS ve vk) := fun T G H S env σ m P Q st hv kk =>
  he T G H S env σ m _ _ st hv fun x m1 v G1 H1 p1 s1 st1 q1 => by
    obtain ⟨a, kds0, rfl, e, p⟩ := p1
    obtain rfl := dd_adr q1
    obtain ⟨vs0, h0, _, _⟩ := st1.storedD e
    refine ⟨a, rfl, .inl ⟨vs0, .inl h0⟩, hk T G1 H1 S env σ m1 _ _ st1 p fun y m2 w G2 H2 p2 s2 st2 q2 => ?_⟩
    obtain ⟨kds, k, d, e2, ek, eg, p⟩ := p2
    obtain ⟨kvs, h1, e3, q⟩ := st2.storedD e2
    obtain rfl := kV_of (.dd q2 : Tp c.K G2 H2 w y) ek
    rcases get_snd (k := k) e3 q with ⟨_, g2⟩ | ⟨v, d', g1, g2, g3⟩
    · rw [g2] at eg; cases eg
    · rw [g2] at eg; cases eg
      obtain ⟨i1, i2⟩ := drop_fst (k := k) e3 q
      exact ⟨kvs, k, v, h1, rfl, g1, by rw [dropK_eq]; exact kk d _ v G2 _ p (s1.trans s2) (st2.setD e2 i1 i2) g3⟩
def vAugS (f : D → D → (D → Prop) → Prop) (vo vk ve : VE) : VS := fun V env m => vo env m fun x m1 => ∃ a, x = .adr a ∧ vk env m1 fun y m2 => ∃ ds k d, m2.2 a = some (.lst ds) ∧ y = .int k ∧ atI ds k = some d ∧ ve env m2 fun z m3 => f d z fun w => ∃ ds' j, m3.2 a = some (.lst ds') ∧ ixN ds'.length k = some j ∧ V.nx env (m3.1, sput m3.2 a (.lst (ds'.set j w)))
end
section
variable {V : VEnds} {env : Env} {m : Mst} {ve va vb vo vk vx : VE} {vl : VA} {P : D → Mst → Prop} {B : Bool → Mst → Prop} {Z : D → Prop} {ds es : List D} {a C : Addr} {fs : List (Str × D)} {f : Str} {d : D} {s : Sto} {A : List D → List (Addr × D) → Mst → Prop}
theorem e_opL {f : D → D → (D → Prop) → Prop} (h : va env m fun x m1 => vb env m1 fun y m2 => f (look m2.2 x) (look m2.2 y) fun z => P z m2) : vOpL f va vb env m P := h
theorem e_cbL {f : List D → (D → Prop) → Prop} (h : vl env m fun xs m1 => f (xs.map (look m1.2)) fun z => P z m1) : vCBL f vl env m P := h
theorem e_slL {f : D → Option Int → Option Int → (D → Prop) → Prop} {vlo vhi : VO} (h : ve env m fun x m1 => vlo env m1 fun l m2 => vhi env m2 fun h m3 => f (look m3.2 x) l h fun z => P z m3) : vSlL f ve vlo vhi env m P := h
theorem e_fld (h : ve env m fun x m1 => ∃ a fs d, x = .adr a ∧ m1.2 a = some (.obj C fs) ∧ fs.lookup f = some d ∧ P d m1) : vFld C f ve env m P := h
theorem e_setF (h : ve env m fun d m1 => vo env m1 fun x m2 => ∃ a fs, x = .adr a ∧ m2.2 a = some (.obj C fs) ∧ fs.length < 1000 ∧ V.nx env (m2.1, sput m2.2 a (.obj C (dputF f d fs)))) : vSetF C f vo ve V env m := h
theorem e_setFA (e : m.2 a = some (.obj C fs)) (hl : Nat.blt fs.length 1000 = true) (h : V.nx env (m.1, sput m.2 a (.obj C (dputF f d fs)))) : ∃ a' fs, D.adr a = .adr a' ∧ m.2 a' = some (.obj C fs) ∧ fs.length < 1000 ∧ V.nx env (m.1, sput m.2 a' (.obj C (dputF f d fs))) := ⟨a, fs, rfl, e, Nat.le_of_ble_eq_true hl, h⟩
theorem e_meth {mn : Str} {vsp : VSp} {VW : XW} (h : ve env m fun x m1 => ∃ a fs, x = .adr a ∧ m1.2 a = some (.obj C fs) ∧ fs.lookup mn = none ∧ vl env m1 fun ds m2 => vsp (.adr a :: ds) m2 P fun Cx fx m3 => VW Cx fx env m3) : vMeth C mn vsp VW ve vl env m P := h
theorem e_make {vsp : VSp} {VW : XW} (h : vl env m fun ds m1 => ∀ y, m1.2 y = none → vsp (.adr y :: ds) (m1.1, sput m1.2 y (.obj C [])) (fun d m2 => d = .non ∧ P (.adr y) m2) fun Cx fx m3 => VW Cx fx env m3) : vMake C vsp VW vl env m P := h
theorem e_appS (h : ve env m fun x m1 => ∃ a ds0, x = .adr a ∧ m1.2 a = some (.lst ds0) ∧ vx env m1 fun d m2 => ∃ ds, m2.2 a = some (.lst ds) ∧ ds.length < sizeLine ∧ V.nx env (m2.1, sput m2.2 a (.lst (ds ++ [d])))) : vAppS ve vx V env m := h
theorem e_mutS {f : List D → List D → (List D → D → Prop) → Prop} (h : ve env m fun x m1 => ∃ a ds0, x = .adr a ∧ m1.2 a = some (.lst ds0) ∧ vl env m1 fun xs m2 => ∃ ds, m2.2 a = some (.lst ds) ∧ f ds (xs.map (look m2.2)) fun ds' z => V.nx env (m2.1, sput m2.2 a (.lst ds'))) : vMutS f ve vl V env m := h
theorem e_putS (h : ve env m fun d m1 => vo env m1 fun x m2 => ∃ a, x = .adr a ∧ vk env m2 fun y m3 => (∃ ds k j, m3.2 a = some (.lst ds) ∧ y = .int k ∧ ixN ds.length k = some j ∧ V.nx env (m3.1, sput m3.2 a (.lst (ds.set j d)))) ∨
  ∃ kds k, m3.2 a = some (.dic kds) ∧ dKey y = some k ∧ kds.length < sizeLine ∧ V.nx env (m3.1, sput m3.2 a (.dic (dput kds k d)))) : vPutS vo ve vk V env m := h
theorem e_putSD {kds : List (Key × D)} {y : D} {k : Key} {Q : Prop} (e : m.2 a = some (.dic kds)) (hk : dKey y = some k) (hl : kds.length < 16777216) (h : V.nx env (m.1, sput m.2 a (.dic (dput kds k d)))) : Q ∨ ∃ kds k, m.2 a = some (.dic kds) ∧ dKey y = some k ∧ kds.length < sizeLine ∧ V.nx env (m.1, sput m.2 a (.dic (dput kds k d))) := .inr ⟨kds, k, e, hk, sz_lt hl, h⟩
theorem e_box (h : ve env m fun d m1 => boxD d m1 P) : vBox ve env m P := h
theorem e_boxL (h : ∀ y, m.2 y = none → P (.adr y) (m.1, sput m.2 y (.lst ds))) : boxD (.lst ds) m P := h
theorem e_boxDi {kds : List (Key × D)} (h : ∀ y, m.2 y = none → P (.adr y) (m.1, sput m.2 y (.dic kds))) : boxD (.dic kds) m P := h
theorem e_seqB (h : ve env m fun x m1 => itSeqB x A m1) : vSeqB ve env m A := h
theorem e_itSB (e : m.2 a = some (.lst ds)) (h : A ds [(a, .lst ds)] m) : itSeqB (.adr a) A m := ⟨ds, e, h⟩
theorem e_lcB {vi : VAB} {vg : VG} {vt : VT} {vs : List Nat} (h : vi env m fun items bs m1 => lcDB items bs vg vt ve vs env m1 P) : vLcB vi vg vt ve vs env m P := h
theorem e_forB {vi : VAB} {vg : VG} {vb : VS} {ws : List Nat} (h : vi env m fun items bs m1 => forDB ws items bs vg vb V env m1) : vForB ws vi vg vb V env m := h
theorem e_dpopS (h : ve env m fun x m1 => ∃ a kds0, x = .adr a ∧ m1.2 a = some (.dic kds0) ∧ vk env m1 fun y m2 => ∃ kds k d, m2.2 a = some (.dic kds) ∧ dKey y = some k ∧ dget kds k = some d ∧ P d (m2.1, sput m2.2 a (.dic (ddrop kds k)))) : vDPopS ve vk env m P := h
theorem e_get2 (h : ve env m fun x m1 => (∃ kds, look m1.2 x = .dic kds) ∧ vk env m1 fun y m2 => vx env m2 fun z m3 => ∃ kds k, look m3.2 x = .dic kds ∧ dKey y = some k ∧ P ((dget kds k).getD z) m3) : vGet2 ve vk vx env m P := h
theorem e_seqSetF {b : VS} (h : (vSetF C f vo ve) { V with nx := b V } env m) : vSeqS (vSetF C f vo ve) b V env m := h
theorem e_seqAugF {b : VS} {g : D → D → (D → Prop) → Prop} (h : (vAugF C f g vo ve) { V with nx := b V } env m) : vSeqS (vAugF C f g vo ve) b V env m := h
theorem e_seqAppS {b : VS} (h : (vAppS ve vx) { V with nx := b V } env m) : vSeqS (vAppS ve vx) b V env m := h
theorem e_seqMutS {b : VS} {f : List D → List D → (List D → D → Prop) → Prop} (h : (vMutS f ve vl) { V with nx := b V } env m) : vSeqS (vMutS f ve vl) b V env m := h
theorem e_seqPutS {b : VS} (h : (vPutS vo ve vk) { V with nx := b V } env m) : vSeqS (vPutS vo ve vk) b V env m := h
theorem e_seqAugS {b : VS} {f : D → D → (D → Prop) → Prop} (h : (vAugS f vo vk ve) { V with nx := b V } env m) : vSeqS (vAugS f vo vk ve) b V env m := h
theorem e_seqForB {b a : VS} {vg : VG} {ws : List Nat} {vi : VAB} (h : (vForB ws vi vg a) { V with nx := b V } env m) : vSeqS (vForB ws vi vg a) b V env m := h
theorem forB_inv {vg : VG} {vb : VS} {ws : List Nat} {items : List D} {bs : List (Addr × D)} (W : Nat → Env → Mst → Prop) (h0 : W 0 (wipeE env ws) m) (hb : ∀ i e m', W i e m' → Stand bs m'.2)
    (hs : ∀ i e m' d, i < items.length → W i e m' → items[i]? = some d → vg d e fun e1 => vb { V with nx := fun e2 m2 => W (i + 1) (wipeE e2 ws) m2, ct := fun e2 m2 => W (i + 1) (wipeE e2 ws) m2, bk := fun e2 m2 => V.nx (wipeE e2 ws) m2 } e1 m')
    (hd : ∀ e m', W items.length e m' → V.nx e m') : forDB ws items bs vg vb V env m :=
  ⟨W, h0, hb, fun i e m' d w ed => hs i e m' d (List.getElem?_eq_some_iff.mp ed).1 w ed, hd⟩
end
end Ps
namespace Ps
open PySem PySem.Spec PyProof.Rows L2
section
variable {c : JC} {Γ Γ1 Γ2 Γn Γb Γc : List OT} {G G' H H' : Hp} {T S S1 S2 R : List (Addr × HO)} {env : Env} {σ : L2.St} {m : Mst} {v : V} {d : D} {t : OT} {i j : Nat} {is : List Nat}
def vUpd (i : Nat) (ve : VE) : VS := fun V env m => ∃ kds, env[i]? = some (some (.dic kds)) ∧ ve env m fun x m1 => ∃ more, x = .dic more ∧ kds.length + more.length ≤ 16777216 ∧ V.nx (env.set i (some (.dic (mergeD kds more)))) m1
theorem e_pcons {a b : VE} {r : VP} {P : List (D × D) → Mst → Prop} (h : a env m fun x m1 => b env m1 fun y m2 => r env m2 fun ps m3 => P ((x, y) :: ps) m3) : vpCons a b r env m P := h
theorem e_pnil {P : List (D × D) → Mst → Prop} (h : P [] m) : vpNil env m P := h
theorem e_seqUpd {ve : VE} {b : VS} {V : VEnds} (h : (vUpd i ve) { V with nx := b V } env m) : vSeqS (vUpd i ve) b V env m := h
end
end Ps
namespace Ps
open PySem PySem.Spec PyProof.Rows L2
section
variable {P : Program} {w : World} {A : Around} {E : Value → Shared → Prop} {s : Shared}
end
section
variable {c : JC} {Γ : List OT} {env : Env} {m : Mst}
theorem e_lenScr {ns : List Int} {Z : D → Prop} (h : Z (.int ns.length)) : vLen [.scr ns] Z := h
end
end Ps
namespace Ps
open PySem PySem.Spec PyProof.Rows L2
section
variable {prog : Program} {w : World}
end
section
variable {c : JC} {K : PySem.W.Frag} {Γ : List OT} {G G' H H' : Hp} {T S S1 R C : List (Addr × HO)} {env : Env} {σ : L2.St} {m : Mst} {v : V} {d : D}
theorem Cells.out {L : List (Addr × D)} (h : Cells K G L C) {y : Addr} : L.lookup y = some d → ∃ A C1 B L', C = A ++ (C1 ++ B) ∧ Cell K G y d C1 ∧ Cells K G L' (A ++ B) ∧ ∀ b, b ≠ y → L'.lookup b = L.lookup b := by
  induction h with
  | nil => intro e; cases e
  | @cons a d0 L C1 C2 q cs ih =>
    intro e
    by_cases z : y = a
    · subst z
      rw [List.lookup_cons, beq_self_eq_true] at e
      cases e
      exact ⟨[], C1, C2, L, rfl, q, cs, fun b hb => by rw [List.lookup_cons, beq_eq_false_iff_ne.mpr hb]⟩
    · rw [List.lookup_cons, beq_eq_false_iff_ne.mpr z] at e
      obtain ⟨A, D1, B, L', rfl, q2, cs2, f⟩ := ih e
      refine ⟨C1 ++ A, D1, B, (a, d0) :: L', by rw [List.append_assoc], q2, by rw [List.append_assoc]; exact .cons q cs2, fun b hb => ?_⟩
      rw [List.lookup_cons, List.lookup_cons, f b hb]
end
end Ps
namespace PySem.W
open PySem PySem.Calls PyProof.Rows
section
variable {prog : Program} {w : World} {A : Around} {E : Value → Shared → Prop} {s : Shared} {a kS : Addr} {b : Bool} {vs : List Value} {keys : Array Value} {e e1 : Nat} {P : PySem.Fin → Shared → Prop}
end
end PySem.W
namespace Ps
open PySem PySem.Spec PyProof.Rows L2
section
variable {X : Cx} {pins : List (Addr × Obj)} {σ : L2.St} {k : Nat} {f : Addr} {fd : FuncData} {p : Str} {sp : Sp} {H : Hp} {s : Shared}
end
section
variable {c : JC} {Γ : List OT} {env : Env} {m : Mst}
end
end Ps
namespace Ps
open PySem PySem.Spec PyProof.Rows L2
section
variable {X : Cx} {pins : List (Addr × Obj)} {σ : L2.St} {H : Hp} {s : Shared} {a : Addr} {kvs : List (Leaf × V)} {k : Leaf} {v : V} {u r : Value} {A : Around} {E : Value → Shared → Prop}
end
def lfKey : D → Option Leaf
  | .non => some .none
  | .int i => some (.num i)
  | .str s => some (.text s)
  | _ => none
section
variable {κ : Type} [DecidableEq κ] {K : PySem.W.Frag} {G : Hp}
def dputG (kds : List (κ × D)) (k : κ) (d : D) : List (κ × D) := if (kds.any fun kv => decide (kv.1 = k)) = true then kds.map (fun kv => if kv.1 = k then (kv.1, d) else kv) else kds ++ [(k, d)]
end
section
variable {c : JC} {Γ Γ1 Γn Γb Γc : List OT} {G G' H H' : Hp} {T S S1 S2 R C : List (Addr × HO)} {env : Env} {σ : L2.St} {m : Mst} {v : V} {d : D} {t : OT} {i j : Nat} {a : Addr} {w : World}
def vPutC (w : World) (vo ve vk : VE) : VS := fun V env m => ve env m fun d m1 => vo env m1 fun x m2 => ∃ a, x = .adr a ∧ vk env m2 fun y m3 => ∃ kds k, m3.2 a = some (.dcl w kds) ∧ lfKey y = some k ∧ kds.length < 16777216 ∧ V.nx env (m3.1, sput m3.2 a (.dcl w (dputG kds k d)))
theorem e_seqPutC {vo ve vk : VE} {b : VS} {V : VEnds} (h : (vPutC w vo ve vk) { V with nx := b V } env m) : vSeqS (vPutC w vo ve vk) b V env m := h
def SubS (s' s : Sto) : Prop := ∀ a d, s' a = some d → s a = some d
theorem SubS.refl (s : Sto) : SubS s s := fun _ _ h => h
theorem SubS.new {s : Sto} {y : Addr} {d : D} (h : s y = none) : SubS s (sput s y d) := fun a e h2 => by
  have : a ≠ y := fun z => by subst z; rw [h] at h2; cases h2
  rw [sput_ne this]; exact h2
theorem SubS.put {s s' : Sto} {y : Addr} {d : D} (h : SubS s s') (hy : s y = none) : SubS s (sput s' y d) := fun a e h2 => by
  have : a ≠ y := fun z => by subst z; rw [hy] at h2; cases h2
  rw [sput_ne this]; exact h a e h2
end
end Ps
namespace PyProof.Rows
open PySem
section
variable {prog : Program} {w : World} {A : Around} {E : Value → Shared → Prop} {s : Shared} {h₀ : Heap} {l I S : Addr} {kid : String} {vs : List Value} {R : Result → Shared → Prop} {Q : Value → Shared → Prop}
end
end PyProof.Rows
namespace Ps
open PySem PySem.Spec PyProof.Rows L2
section
variable {X : Cx} {e : Expr} {p p2 pos kpos : Pos} {t : TA}
end
section
variable {c : JC} {Γ : List OT} {env : Env} {m : Mst}
end
end Ps
namespace Ps
open PySem PySem.Spec PyProof.Rows L2
local macro_rules | `(tactic| walk_at "s1") => `(tactic| first
  | (with_reducible refine w_seq ?_) | (with_reducible refine w_asg ?_) | (with_reducible refine w_op ?_) | (with_reducible refine w_c ?_)
  | ((with_reducible refine' w_var ?hx ?_); (case hx => exact rfl))
  | (with_reducible refine w_gname ?_) | (with_reducible refine w_cons ?_) | (with_reducible refine w_nil ?_) | (with_reducible refine w_cb ?_) | (with_reducible refine w_call ?_)
  | (with_reducible refine w_ret ?_) | (with_reducible refine w_drop ?_) | (with_reducible refine w_ifs ?_) | (with_reducible refine w_test ?_) | (with_reducible refine w_next ?_)
  | (with_reducible refine w_addI ?_) | (with_reducible refine w_subI ?_) | (with_reducible refine w_negI ?_) | (with_reducible refine w_eqI ?_) | (with_reducible refine w_neI ?_) | (with_reducible refine w_ltI ?_) | (with_reducible refine w_leI ?_)
  | (with_reducible refine w_gtI ?_) | (with_reducible refine w_geI ?_) | (with_reducible refine w_isNn ?_) | (with_reducible refine w_isNi ?_) | (with_reducible refine w_isNs ?_) | (with_reducible refine w_isNr ?_) | (with_reducible refine w_ntNn ?_) | (with_reducible refine w_ntNi ?_) | (with_reducible refine w_ntNs ?_) | (with_reducible refine w_ntNr ?_) | (with_reducible refine w_isN ?_) | (with_reducible refine w_notN ?_) | (with_reducible refine w_ipaI ?_) | (with_reducible refine w_eqS ?_) | (with_reducible refine w_neS ?_)
  | (with_reducible refine w_blE ?_) | (with_reducible refine w_truB ?_) | (with_reducible refine w_intI ?_) | (with_reducible refine w_intB ?_)
  | (with_reducible refine w_bm ?_) | (with_reducible refine w_bm0 ?_) | (with_reducible refine w_lst ?_) | (with_reducible refine w_tup ?_) | (with_reducible refine w_un ?_) | (with_reducible refine w_sl ?_) | (with_reducible refine w_nopart ?_) | (with_reducible refine w_part ?_) | (with_reducible refine w_partI ?_)
  | (with_reducible refine w_gsub ?_) | (with_reducible refine w_gcons ?_) | (with_reducible refine w_gnil ?_) | (with_reducible refine w_and ?_) | (with_reducible refine w_or ?_) | (with_reducible refine w_not ?_) | (with_reducible refine w_tru ?_) | (with_reducible refine w_yes ?_)
  | (with_reducible refine w_andV ?_) | (with_reducible refine w_orV ?_) | (with_reducible refine w_notV ?_) | (with_reducible refine w_tif ?_) | (with_reducible refine w_callS ?_) | (with_reducible refine w_for ?_)
  | (with_reducible refine w_par ?_) | (with_reducible refine w_par2 ?_) | (with_reducible refine w_retN ?_) | (with_reducible refine w_brk ?_) | (with_reducible refine w_cont ?_)
  | ((with_reducible refine' w_aug ?hx ?_); (case hx => exact rfl)) | (with_reducible refine w_ipsI ?_)
  | (with_reducible refine w_is_int_dict ?_) | (with_reducible refine w_is_int_list ?_) | (with_reducible refine w_is_int_tuple ?_) | (with_reducible refine w_is_int_str ?_) | (with_reducible refine w_is_int_int ?_) | (with_reducible refine w_is_int_bool ?_) | (with_reducible refine w_is_bool_dict ?_) | (with_reducible refine w_is_bool_list ?_) | (with_reducible refine w_is_bool_tuple ?_) | (with_reducible refine w_is_bool_str ?_) | (with_reducible refine w_is_bool_int ?_) | (with_reducible refine w_is_bool_bool ?_) | (with_reducible refine w_is_str_dict ?_) | (with_reducible refine w_is_str_list ?_) | (with_reducible refine w_is_str_tuple ?_) | (with_reducible refine w_is_str_str ?_) | (with_reducible refine w_is_str_int ?_) | (with_reducible refine w_is_str_bool ?_)
  | (with_reducible refine w_ifT ?_) | (with_reducible refine w_ifF ?_) | (with_reducible refine w_ifNF ?_) | (with_reducible refine w_ifNT ?_)
  | (with_reducible refine w_tys ?_) | (with_reducible refine w_chain ?_) | (with_reducible refine w_ost ?_) | (with_reducible refine w_vei ?_) | (with_reducible refine w_rzO ?_) | (with_reducible refine w_fld ?_) | (with_reducible refine w_sfld ?_) | (with_reducible refine w_afld ?_) | (with_reducible refine w_meth ?_) | (with_reducible refine w_make ?_) | (with_reducible refine w_rz ?_) | (with_reducible refine w_rAdd ?_) | (with_reducible refine w_rSub ?_) | (with_reducible refine w_max2 ?_) | (with_reducible refine w_lc ?_) | (with_reducible refine w_zip ?_) | (with_reducible refine w_seqv ?_) | (with_reducible refine w_rng1 ?_) | (with_reducible refine w_rng2 ?_) | (with_reducible refine w_rng3 ?_) | (with_reducible refine w_enum ?_) | (with_reducible refine w_rev ?_))
local macro_rules | `(tactic| walk_at "go") => `(tactic| repeat (walk_at "s1"))
end Ps
namespace Ps
open PySem PySem.Spec PyProof.Rows L2
section
variable {X : Cx} {CX : CXT} {k : Nat} {f : Addr} {fd : FuncData} {ps : List Str} {sp : Sp} {dvs : List V} {ds : List Value} {E : XK} {fe : Expr} {p pos : Pos} {e : Expr} {es : List Expr} {t : TA} {te : TE} {L : List (Addr × TE)}
end
section
variable {c : JC} {Γ : List OT} {G G' H H' : Hp} {T S : List (Addr × HO)} {env : Env} {σ : L2.St} {m : Mst} {v : V} {d : D}
inductive Cls2 (c : JC) (Γ : List OT) : List (Addr × TE) → List (Addr × VE) → Prop where
  | nil : Cls2 c Γ [] []
  | cons {f : Addr} {tc : TE} {vc : VE} {L : List (Addr × TE)} {M : List (Addr × VE)} (h : SF c Γ tc vc) (r : Cls2 c Γ L M) : Cls2 c Γ ((f, tc) :: L) ((f, vc) :: M)
theorem Cls2.at {L : List (Addr × TE)} {M : List (Addr × VE)} (h : Cls2 c Γ L M) : ∀ q ∈ M, ∃ p ∈ L, p.1 = q.1 ∧ SF c Γ p.2 q.2 := by
  induction h with
  | nil => exact fun q hq => absurd hq (by simp)
  | cons h r ih =>
    intro q hq
    rcases List.mem_cons.mp hq with rfl | hq
    · exact ⟨_, List.mem_cons_self, rfl, h⟩
    · obtain ⟨p, hp, z⟩ := ih q hq
      exact ⟨p, List.mem_cons_of_mem _ hp, z⟩
end
section
variable {c : JC} {Γ : List OT}
end
section
variable {ve : VE} {env : Env} {m : Mst} {P : D → Mst → Prop} {K : PySem.W.Frag}
end
section
variable {ve : VE} {env : Env} {m : Mst} {P : D → Mst → Prop} {M : List (Addr × VE)}
end
end Ps
namespace Ps
open PySem PySem.Spec PyProof.Rows L2
open PySem
section
variable {prog : Program} {w : World} {A : Around} {s : Shared} {I S l : Addr} {vs : List Value} {kw : List (Str × Value)} {R : Result → Shared → Prop}
end
end Ps
namespace Ps
open PySem PySem.Spec PyProof.Rows L2
def svS : Value → Str
  | .str z _ => z
  | _ => Str.empty
def ltSv (v u : Value) : Bool := decide ((svS v).cps.toList < (svS u).cps.toList)
theorem swo_str : SrtO.Swo ltSv := by
  refine ⟨fun x y h => ?_, fun x y z h1 h2 => ?_⟩
  · have a := of_decide_eq_true (p := (svS x).cps.toList < (svS y).cps.toList) h
    exact decide_eq_false (p := (svS y).cps.toList < (svS x).cps.toList) fun b => List.lt_irrefl _ (List.lt_trans a b)
  · have a := of_decide_eq_false (p := (svS y).cps.toList < (svS x).cps.toList) h1
    have b := of_decide_eq_false (p := (svS z).cps.toList < (svS y).cps.toList) h2
    exact decide_eq_false (p := (svS z).cps.toList < (svS x).cps.toList) fun c => by
      have a' := List.not_lt.mp a
      have b' := List.not_lt.mp b
      exact List.not_lt.mpr (List.le_trans a' b') c
theorem strs_mem : ∀ {vs : List Value} {ns : List Str}, StrsAre vs ns → ∀ v ∈ vs, ∃ i t, v = Value.str i t
  | _, _, .nil, v, h => absurd h (by simp)
  | _, _, .cons n t r, v, h => by
    rcases List.mem_cons.mp h with e | h
    · exact ⟨n, t, e⟩
    · exact strs_mem r v h
theorem strs_sv : ∀ {vs : List Value} {ns : List Str}, StrsAre vs ns → vs.map svS = ns
  | _, _, .nil => rfl
  | _, _, .cons n t r => congrArg (n :: ·) (strs_sv r)
theorem vals_svS : ∀ {vs : List Value}, (∀ v ∈ vs, ∃ i t, v = Value.str i t) → Vals ((vs.map svS).map V.str) vs
  | [], _ => .nil
  | v :: vs, h => by
    obtain ⟨i, t, e⟩ := h v List.mem_cons_self
    subst e
    exact .cons ⟨t, rfl⟩ (vals_svS fun u hu => h u (List.mem_cons_of_mem _ hu))
section
variable {prog : Program} {w : World} {A : Around} {E : Value → Shared → Prop} {s : Shared}
theorem str_cmp {vs : List Value} {ns : List Str} (hI : StrsAre vs ns) : SrtO.Cmp prog w A s oneType' (fun p => p.1 ∈ vs) (SrtO.lt2 ltSv) := by
  intro p q hm hm'
  obtain ⟨a, t, e⟩ := strs_mem hI _ hm
  obtain ⟨b, u, e'⟩ := strs_mem hI _ hm'
  show wpAny (model prog w) A (keyLt' oneType' p.1 q.1) (fun r s' => s' = s ∧ r = ltSv p.1 q.1) (fun _ _ => False) s
  rw [e, e', keyLt'_oneType]
  exact oneLt_str ⟨rfl, rfl⟩
theorem strs_sortable {a : Addr} {vs : List Value} {ns : List Str} (hI : StrsAre vs ns) (h2 : 2 ≤ vs.length) : SrtO.SortableO prog w A s a vs ltSv := by
  intro h' _
  refine ⟨oneType', fun Q E hq => ?_, str_cmp hI⟩
  match vs, hI, h2 with
  | v1 :: v2 :: rest, hI, _ =>
    rw [keyKind_strs hI]
    exact wpAny_pure hq
  | [], _, h => exact absurd h (by decide)
  | [v], _, h => exact absurd h (by simp)
end
def rSortedT (K : PySem.W.Frag) : List V → Hp → VK → Prop := fun vs H Q => ∃ (a : Addr) (ns : List Str), vs = [V.ref a] ∧ SqL K H a (ns.map V.str) ∧
  ∀ (ns' : List Str) (p : Addr), ns'.Perm ns → ns'.Pairwise (fun x y => ¬ y.cps.toList < x.cps.toList) → H p = none → Q (.ref p) (upd H p (.lst (ns'.map V.str)))
theorem cr_sortedT2 {X : Cx} : CallR X (.builtin "sorted") (rSortedT X.K) := by
  intro pins s σ H vs us Q I r h
  obtain ⟨a, ns, rfl, hs, q⟩ := h
  obtain ⟨its, rv, hl, hz⟩ := I.list hs
  rw [Vals.ref1 r]
  have hi := rv.strs
  refine SrtO.sorted_ord swo_str hl.isList (by rw [← rv.length]; exact hz) (fun h2 h₁ a' _ _ => strs_sortable hi h2) fun out h1 h2 => ?_
  have hall : ∀ v ∈ out, ∃ i t, v = Value.str i t := fun v hv => strs_mem hi v (h2.perm.mem_iff.mp hv)
  have k2 : (out.map svS).Perm ns := by
    have q := h2.perm.map svS
    rw [strs_sv hi] at q
    exact q
  have k3 : (out.map svS).Pairwise (fun x y => ¬ y.cps.toList < x.cps.toList) := List.pairwise_map.mpr (h1.imp fun {x y} h => of_decide_eq_false (p := (svS y).cps.toList < (svS x).cps.toList) h)
  obtain ⟨ep, he'⟩ := PyProof.Rows.sortedAll_at s.heap its out.toArray
  have hlen : ((out.map svS).map V.str).length ≤ sizeLine := by
    rw [List.length_map, k2.length_eq]
    rw [List.length_map] at hz
    exact hz
  exact ⟨.ref _, upd H (s.heap.objs.size + 1) (.lst ((out.map svS).map V.str)), I.laid (t' := s.toks) (fun _ _ => PyProof.Rows.sortedAll_old) (Nat.le_succ _) ⟨hlen, out, ep, vals_svS hall, he'⟩, rfl, q _ _ k2 k3 (I.hok.fresh (Nat.le_succ _))⟩
def rSortIT (K : PySem.W.Frag) : List V → Hp → VK → Prop := fun vs H Q => rSortedI K vs H Q ∨ rSortedT K vs H Q
theorem cr_sortIT {X : Cx} : CallR X (.builtin "sorted") (rSortIT X.K) := callr_or cr_sortedI cr_sortedT2
section
variable {prog : Program} {w : World} {A : Around} {vs : List Value}
end
section
variable {c : JC} {Γ : List OT}
end
section
variable {K : PySem.W.Frag} {G H H' : Hp}
def vSorted : List D → (D → Prop) → Prop
  | [.lst ds], P => (∃ ns : List Int, ds = ns.map D.int ∧ ∀ ns' : List Int, ns'.Perm ns → ns'.Pairwise (· ≤ ·) → P (.lst (ns'.map D.int))) ∨
      ∃ ns : List Str, ds = ns.map D.str ∧ ∀ ns' : List Str, ns'.Perm ns → ns'.Pairwise (fun x y => ¬ y.cps.toList < x.cps.toList) → P (.lst (ns'.map D.str))
  | _, _ => False
theorem ints_dd : ∀ {ns : List Int}, DdAll K G (ns.map V.int) (ns.map D.int)
  | [] => .nil
  | n :: ns => .cons (.int n) ints_dd
theorem strs_dd : ∀ {ns : List Str}, DdAll K G (ns.map V.str) (ns.map D.str)
  | [] => .nil
  | n :: ns => .cons (.str n) strs_dd
theorem l_sorted : ClV K (rSortIT K) vSorted := fun G H xs ds P Q s h f k => by
  unfold vSorted at f
  split at f
  · obtain ⟨v, rfl, hv⟩ := h.inv1
    obtain ⟨a, vs, rfl, h1, q1⟩ := hv.l s
    rcases f with ⟨ns, rfl, f⟩ | ⟨ns, rfl, f⟩
    · rw [ints_v q1] at h1
      refine .inl ⟨a, ns, rfl, SqL.of h1, fun ns' p hp h3 h4 => k _ _ _ (f ns' hp h3) (.lst h4 ?_)⟩
      exact ints_dd
    · rw [strs_v q1] at h1
      refine .inr ⟨a, ns, rfl, SqL.of h1, fun ns' p hp h3 h4 => k _ _ _ (f ns' hp h3) (.lst h4 ?_)⟩
      exact strs_dd
  · exact f.elim
end
end Ps
namespace Ps
open PySem PySem.Spec PyProof.Rows L2
open PySem
section
variable {prog : Program} {w : World} {A : Around} {s : Shared} {I S l : Addr} {vs : List Value} {kw : List (Str × Value)} {R : Result → Shared → Prop}
end
end Ps
namespace Ps
open PySem PySem.Spec PyProof.Rows L2
section
variable {c : JC} {Γ : List OT} {env : Env} {m : Mst}
end
end Ps
namespace Ps
open PySem PySem.Spec PyProof.Rows L2
section
variable {c : JC} {K : PySem.W.Frag} {Γ Γ1 Γn Γb Γc : List OT} {G G0 G' H H' : Hp} {T S S1 S2 R C : List (Addr × HO)} {env : Env} {σ : L2.St} {m : Mst} {v : V} {d : D} {t : OT} {i j : Nat} {a b : Addr} {is : List Nat} {ds es : List D}
def lckM (a : Addr) (u : Obj × List (Key × V)) (kds : List (Key × D)) (m : Mst) : Mst := (m.1, sput m.2 a (.lck u kds))
def unlM (a : Addr) (kds : List (Key × D)) (m : Mst) : Mst := (m.1, sput m.2 a (.dic kds))
theorem Stx.lockD {kds : List (Key × D)} (st : Stx c Γ G H T S env σ m) (e : m.2 a = some (.dic kds)) : ∃ kvs, H a = some (.dK kvs) ∧ kvs.map Prod.fst = kds.map Prod.fst ∧ ∀ od, Stx c Γ G (upd H a (.frz od (.dK kvs))) T S env σ (lckM a (od, kvs) kds m) := by
  obtain ⟨s, C, w, am, z⟩ := st
  obtain ⟨A, C1, B, rfl, ⟨kvs, rfl, e1, q⟩, f⟩ := am.at e
  have w2 : Wd ((T ++ (S ++ A)) ++ ((a, .dK kvs) :: (B ++ c.R))) G H := by simpa [List.append_assoc] using w
  exact ⟨kvs, w2.mem (by simp), e1, fun od => ⟨s, A ++ ([(a, .frz od (.dK kvs))] ++ B), by simpa [List.append_assoc] using w2.putM (o' := .frz od (.dK kvs)), f _ _ ⟨rfl, e1, q⟩, z⟩⟩
theorem unlock_at {u : Obj × List (Key × V)} {kds : List (Key × D)} (w : Wd (S1 ++ (C ++ R)) G H) (am : Amb K G m C) (e : m.2 a = some (.lck u kds)) : H a = some (.frz u.1 (.dK u.2)) ∧ ∃ C', Wd (S1 ++ (C' ++ R)) G (upd H a (.dK u.2)) ∧ Amb K G (unlM a kds m) C' := by
  obtain ⟨A, C1, B, rfl, ⟨rfl, e1, q⟩, f⟩ := am.at e
  have w2 : Wd ((S1 ++ A) ++ ((a, .frz u.1 (.dK u.2)) :: (B ++ R))) G H := by simpa [List.append_assoc] using w
  exact ⟨w2.mem (by simp), A ++ ([(a, .dK u.2)] ++ B), by simpa [List.append_assoc] using w2.putM (o' := .dK u.2), f _ _ ⟨u.2, rfl, e1, q⟩⟩
theorem Stx.unlockD {u : Obj × List (Key × V)} {kds : List (Key × D)} (st : Stx c Γ G H T S env σ m) (e : m.2 a = some (.lck u kds)) : H a = some (.frz u.1 (.dK u.2)) ∧ Stx c Γ G (upd H a (.dK u.2)) T S env σ (unlM a kds m) := by
  obtain ⟨s, C, w, am, z⟩ := st
  have w2 : Wd ((T ++ S) ++ (C ++ c.R)) G H := by rw [List.append_assoc]; exact w
  obtain ⟨h, C', w3, am'⟩ := unlock_at w2 am e
  exact ⟨h, s, C', by rw [List.append_assoc] at w3; exact w3, am', z⟩
theorem key_at {kvs : List (Key × V)} {kds : List (Key × D)} (e1 : kvs.map Prod.fst = kds.map Prod.fst) {k : Key} {w : V} (h : kvs[i]? = some (k, w)) : ∃ p, kds[i]? = some p ∧ p.1 = k := by
  have e2 := congrArg (fun l => l[i]?) e1
  simp only [List.getElem?_map, h, Option.map_some] at e2
  cases z : kds[i]? with
  | none => rw [z] at e2; cases e2
  | some p => rw [z] at e2; exact ⟨p, rfl, (Option.some.inj e2).symm⟩
def lcK (a : Addr) (u : Obj × List (Key × V)) (kds : List (Key × D)) (vg : VG) (vt : VT) (ve : VE) (vs : List Nat) (env : Env) (m1 : Mst) (P : D → Mst → Prop) : Prop := ∃ W : Nat → List D → Mst → Prop, W 0 [] m1 ∧ (∀ i acc m', W i acc m' → m'.2 a = some (.lck u kds)) ∧
  (∀ i acc m' p, W i acc m' → kds[i]? = some p → vg (kD p.1) (wipeE env vs) fun e1 => vt e1 m' fun b m2 => if b = true then ve e1 m2 fun y m3 => acc.length < sizeLine ∧ W (i + 1) (acc ++ [y]) m3 else W (i + 1) acc m2) ∧
  ∀ acc m', W kds.length acc m' → P (.lst acc) (unlM a kds m')
def vLcK (vi : VE) (vg : VG) (vt : VT) (ve : VE) (vs : List Nat) : VE := fun env m P => ∃ a kds, m.2 a = some (.dic kds) ∧ ∀ u, vi env (lckM a u kds m) fun x m1 => x = .adr a ∧ m1.2 a = some (.lck u kds) ∧ lcK a u kds vg vt ve vs env m1 P
theorem s_lcK {ti : TE} {vi : VE} {tg : TG} {vg : VG} {tt : TT} {vt : VT} {te : TE} {ve : VE} {vs : List Nat} (hi : SF c Γ ti vi) (hF : (vs.all fun i => decide (Γ[i]? = some .F)) = true) (hg : SGt c Γ vs tg vg) (ht : ST c Γ tt vt) (he : SF c Γ te ve) :
    SO c Γ (tLockE (tLc (iKeys ti) tg tt te vs)) (vLcK vi vg vt ve vs) := fun T G H S env σ m P Q st hv k => by
  obtain ⟨a, kds, e0, h0⟩ := hv
  obtain ⟨kvs, h1, e1, lk⟩ := st.lockD e0
  refine ⟨a, .dK kvs, h1, trivial, fun od => ?_⟩
  refine hi T G _ S env σ _ _ _ (lk od) (h0 (od, kvs)) fun x m1 v G1 H1 p1 s1 st1 q1 => ?_
  obtain ⟨rfl, e2, W, w0, wb, wn, wd⟩ := p1
  obtain rfl := dd_adr q1
  have h2 := (st1.storedK e2).1
  have hl : kvs.length = kds.length := by simpa using congrArg List.length e1
  refine ⟨a, od, rfl, .inl ⟨kvs, h2, ?_⟩⟩
  intro D hD
  refine lc_it walk_keys (fun i H' => ∃ G2 accV acc m', Same G1 G2 ∧ Stx c Γ G2 H' ((D, .lst accV) :: T) S env σ m' ∧ DdAll c.K G2 accV acc ∧ W i acc m') ⟨G1, [], [], m1, Same.refl _, st1.new hD, .nil, w0⟩ (fun i H' _ p => ?_) (fun i x Hi H' hi p y => ?_) (fun H' p => ?_)
  · obtain ⟨G2, accV, acc, m', s2, st2, _, hw⟩ := p
    exact (st2.storedK (wb _ _ _ hw)).1
  · obtain ⟨G2, accV, acc, m', s2, st2, hacc, hw⟩ := p
    obtain ⟨rfl, k, w, hk, rfl⟩ := y
    obtain ⟨p, hp, rfl⟩ := key_at e1 hk
    obtain ⟨q0, C0, q1, q2, z3⟩ := id st2
    refine hg G2 _ S (wipeE env vs) (wipe σ vs) _ (kD p.1) _ _ (z3.wipeF hF) st2.v dd_kD (wn i acc m' p hw hp) fun e1 σ1 pe sl1 l1 n1 => ⟨?_, ?_⟩
    · rw [wipe_eq l1 n1, wipe_wipe]
    · have st4 := st2.slots sl1
      refine ht _ G2 _ S e1 σ1 m' _ _ st4 pe fun b m2 G4 H4 S4 p4 s4 st5 => ?_
      cases b with
      | true =>
        rw [if_pos rfl] at p4 ⊢
        refine he _ G4 H4 S e1 σ1 m2 _ _ st5.dropT p4 fun y m3 u G5 H5 p5 s5 st6 hy => ?_
        have st7 := st6.slots (z3.mono (s4.trans s5))
        refine ⟨accV, st7.push (y := u).1, by rw [hacc.len]; exact p5.1, G5, accV ++ [u], acc ++ [y], m3, s2.trans (s4.trans s5), st7.push.2, ?_, p5.2⟩
        exact (hacc.mono (s4.trans s5)).app (.one hy)
      | false =>
        rw [if_neg Bool.false_ne_true] at p4 ⊢
        exact ⟨G4, accV, acc, m2, s2.trans s4, st5.dropT.slots (z3.mono s4), hacc.mono s4, p4⟩
  · obtain ⟨G2, accV, acc, m', s2, st2, hacc, hw⟩ := p
    rw [hl] at hw
    obtain ⟨k1, k2⟩ := st2.unlockD (wb _ _ _ hw)
    exact ⟨k1, k (.lst acc) _ (.ref D) G2 _ [(D, .lst accV)] (wd acc m' hw) (s1.trans s2) k2 ⟨D, accV, rfl, rfl, hacc⟩⟩
section
variable {Vn : VEnds} {vg : VG} {vb : VS} {vt : VT} {ve : VE} {ws vs : List Nat} {P : D → Mst → Prop} {u : Obj × List (Key × V)} {kds : List (Key × D)}
theorem e_lcKV (he : env[i]? = some (some (.adr a))) (hd : m.2 a = some (.dic kds)) (h : ∀ u, lcK a u kds vg vt ve vs env (lckM a u kds m) P) : vLcK (vVar i) vg vt ve vs env m P :=
  ⟨a, kds, hd, fun u => ⟨.adr a, he, rfl, sput_same, h u⟩⟩
theorem unl_lck {m : Mst} (h : m.2 a = some (.dic kds)) : unlM a kds (lckM a u kds m) = m := by
  obtain ⟨x, s⟩ := m
  show (x, sput (sput s a _) a (.dic kds)) = (x, s)
  congr 1
  funext b
  by_cases c : b = a
  · subst c; rw [sput_same]; exact h.symm
  · rw [sput_ne c, sput_ne c]
end
end
end Ps
namespace Ps
open PySem PySem.Spec PyProof.Rows L2
section
variable {prog : Program} {w : World} {K : Type} [DecidableEq K] {knd : KeyKind prog w K} {A : Around} {E : Value → Shared → Prop} {s : Shared}
open PySem.W PySem.Calls in
theorem rcP_dictsNe {a b : Addr} {ka kb : List (K × Value)} {r : Bool} (ha : (a == sysModules) = false) (hb : (b == sysModules) = false)
    (da : s.heap.DictOf knd a ka) (db : s.heap.DictOf knd b kb) (hu : A.units < cLine) (hits : ka.length = kb.length → KeqHitsP prog w A.in1 s kb ka r) (E Q : Value → Shared → Prop) (h : Q (.bool (!(ka.length == kb.length && r))) s) : wpAny (model prog w) A (richCompare .NotEq (.ref a) (.ref b)) Q E s := by
  refine wpAny_richCompare_same_room (op := .NotEq) da.typeIs db.typeIs PySem.F.slot_dict_ne (wpAny_call_entry PySem.F.slot_dict_ne da.typeIs PySem.F.entry_dict_ne ?_ (PySem.F.args_dict_ne_2 _ _)) hu
  show wpAny _ _ (Builtin.Dict.dictSlotArgs "__ne__" ⟨[.ref a, .ref b], []⟩ >>= _) _ _ s
  refine wpAny_bind ?_
  unfold Builtin.Dict.dictSlotArgs
  refine wpAny_bind (wpAny_notOrdered_dict da.typeIs ?_)
  show wpAny _ _ (pure (Value.ref a, Value.ref b)) _ _ s
  refine wpAny_pure ?_
  refine wpAny_bind (wpAny_isInstance (T := "dict") db.typeIs PySem.F.sub_dict_dict ?_)
  simp only [Bool.not_true, Bool.false_eq_true, if_false]
  refine wpAny_bind (wpAny_pure (wpAny_bind (wpAny_pure ?_)))
  refine wpAny_bind (samePairsP ha hb da db hits ?_)
  refine wpAny_pure ⟨_, rfl, ?_, ?_⟩
  · exact fun x => nomatch x
  · cases e : (ka.length == kb.length && r) <;> rw [e] at h <;> exact h
end
def rEqNilD (neg : Bool) (K : PySem.W.Frag) : R2 := fun x y H Q => ∃ (a b : Addr) (kvs : List (Key × V)), x = .ref a ∧ y = .ref b ∧ Rd H a (.dK kvs) ∧ Rd H b (.dK []) ∧ Q (.bl (neg != kvs.isEmpty)) H
theorem op_neNilD {X : Cx} (hu : X.A.units + 64 < cLine) : OpR X (compareOp .NotEq) (rEqNilD true X.K) := by
  intro pins s σ H x y v u Q I rx ry h
  obtain ⟨a, b, kvs, rfl, rfl, ha, hb, q⟩ := h
  cases rx; cases ry
  obtain ⟨z, lo, vs, rel, dd⟩ := dk_rd I.hok ha
  obtain ⟨z2, lo2, vs2, rel2, dd2⟩ := dk_rd I.hok hb
  cases rel2
  show wpAny (model X.prog X.w) X.A (richCompare .NotEq (.ref a) (.ref b)) _ _ _
  refine rcP_dictsNe (r := true) lo lo2 dd dd2 (by omega) (fun e => ?_) _ _ ⟨_, H, I, ?_, q⟩
  · obtain rfl : vs = [] := List.length_eq_zero_iff.mp e
    exact .nil
  · cases rel <;> rfl
def vEqNilD (neg : Bool) : D → D → (D → Prop) → Prop
  | .dic kds, .dic [], P => P (.bl (neg != kds.isEmpty))
  | _, _, _ => False
theorem o_eqNilD {neg : Bool} {K : PySem.W.Frag} : OpV K (rEqNilD neg K) (vEqNilD neg) := fun G H x y d e P Q s h h' f k => by
  unfold vEqNilD at f
  split at f
  · obtain ⟨a, kvs, rfl, h1, e1, q1⟩ := h.dk s
    obtain ⟨b, ws, rfl, h2, e2, q2⟩ := h'.dk s
    obtain rfl : ws = [] := by simpa using e2
    refine ⟨a, b, kvs, rfl, rfl, h1, h2, ?_⟩
    rename_i _ _ kds
    have : kvs.isEmpty = kds.isEmpty := by
      have := congrArg List.length e1
      rw [List.length_map, List.length_map] at this
      cases kvs <;> cases kds <;> first | rfl | simp at this
    rw [this]
    exact k _ _ _ f (.old (.bl _) rfl)
  · exact f.elim
theorem e_eqNilD {neg : Bool} {kds : List (Key × D)} {Z : D → Prop} (h : Z (.bl (neg != kds.isEmpty))) : vEqNilD neg (.dic kds) (.dic []) Z := h
section
variable {prog : Program} {w : World} {A : Around} {E : Value → Shared → Prop} {s : Shared}
open PySem.W PySem.Calls PyProof.Rows SrtO in
theorem sorted_dk {K : Type} [DecidableEq K] {knd : KeyKind prog w K} {a : Addr} {kvs : List (K × Value)} {ep : Nat} (lo : (a == sysModules) = false) (hh : A.handled = none) (hat : s.heap.DictAt knd a kvs ep) (hn : kvs.length ≤ sizeLine) {ltv : Value → Value → Bool} {Q : Value → Shared → Prop} (O : Swo ltv)
    (hS : ∀ (vs : List Value) (s1 : Shared) (b : Addr), vs.length = kvs.length → (∀ (j : Nat) (v : Value), vs[j]? = some v → ∃ k x, kvs[j]? = some (k, x) ∧ knd.is k v = true) → 2 ≤ vs.length → SortableO prog w A.in1.in1 s1 b vs ltv)
    (h : ∀ (vs out : List Value) (h' : Heap) (tk D c : Nat), vs.length = kvs.length → (∀ (j : Nat) (v : Value), vs[j]? = some v → ∃ k x, kvs[j]? = some (k, x) ∧ knd.is k v = true) → Srtd ltv out → Stb ltv out vs →
      (∀ b o, s.heap.get? b = some o → h'.get? b = some o) → s.heap.get? D = none → h'.get? D = some (seqObj "list" out.toArray c) → Q (.ref D) { s with heap := h', toks := tk }) :
    wpAny (model prog w) A (call (.builtin "sorted") [.ref a]) Q E s := by
  refine call_function_entry kind_sorted plain_sorted entry_sorted (args_sorted1 _) ?_
  unfold Builtin.«sorted»
  refine wpAny_bind (m := checkCount "sorted" 1 1 _) (wpAny_pure ?_)
  refine wpAny_bind (kdu_collect (A := A.in1) (kdl_dict (knd := knd) (kvs := kvs) (ep := ep) lo) hh hat hn fun h' tk acc hk hacc => ?_)
  have hl : acc.toList.length = kvs.length := by rw [Array.length_toList]; exact hacc.1
  have hv : ∀ (j : Nat) (v : Value), acc.toList[j]? = some v → ∃ k x, kvs[j]? = some (k, x) ∧ knd.is k v = true := fun j v e => hacc.2 j v (by rw [← Array.getElem?_toList]; exact e)
  refine wpAny_bind (wpAny_newList ?_ (by rw [hl]; exact hn))
  have hoL : (h'.push (seqObj "list" acc.toList.toArray 0)).get? h'.objs.size = some (seqObj "list" acc.toList.toArray 0) := Heap.get?_push_size _ rfl
  have hle : s.heap.get? h'.objs.size = none := by
    cases e : s.heap.get? h'.objs.size with
    | none => rfl
    | some o => exact absurd (Heap.lt_size (hk _ _ e)) (Nat.lt_irrefl _)
  show wpAny _ _ _ _ _ { s with heap := h'.push (seqObj "list" acc.toList.toArray 0), toks := tk }
  refine wpAny_bind (wpAny_holding (wpAny_call_entry slot_list_sort ⟨_, hoL, rfl⟩ entry_list_sort (list_sort_ord O hoL (by rw [hl]; exact hn) (fun h2 => ?_) fun out hs hb => ⟨_, rfl, ?_⟩) (args_list_sort _)))
  · exact hS _ _ _ hl hv h2
  · obtain ⟨c, hc⟩ := sortedHeap_at (vs := acc.toList) (out := out.toArray) hoL
    refine wpAny_pure ⟨_, rfl, h acc.toList out _ _ _ c hl hv hs hb (fun b o e => ?_) hle hc⟩
    have hb' := hk b o e
    have hlt : b < h'.objs.size := Heap.lt_size hb'
    rw [sortedHeap_old (Nat.ne_of_lt hlt) (by rw [Heap.size_push]; exact Nat.lt_succ_of_lt hlt)]
    exact Heap.get?_push_of_some _ hb'
end
theorem objOk_there {P : Program} {w : World} {H : Hp} {h : Heap} {a : Addr} {o : HO} (x : ObjOk P w H h a o) : ∃ u, h.get? a = some u := by
  cases o with
  | lst xs => obtain ⟨_, _, _, _, e⟩ := x; exact ⟨_, e⟩
  | tup xs => obtain ⟨_, _, _, p⟩ := x; obtain ⟨u, e, _⟩ := p; exact ⟨u, e⟩
  | dK kvs => obtain ⟨_, _, _, _, o, _, _, e, _⟩ := x; exact ⟨_, e⟩
  | dT kvs => obtain ⟨_, _, _, _, o, _, _, e, _⟩ := x; exact ⟨_, e⟩
  | set S n => obtain ⟨o, _, _, _, e, _⟩ := x; exact ⟨_, e⟩
  | ins C dx fs => obtain ⟨_, _, _, e, _⟩ := x; exact ⟨_, e⟩
  | own y => obtain ⟨_, e⟩ := x; exact ⟨_, e⟩
  | xd fs => obtain ⟨_, ⟨_, _, _, e, _⟩, _⟩ := x; exact ⟨_, e⟩
  | rng lo hi => obtain ⟨_, _, _, e⟩ := x; exact ⟨_, e⟩
  | frz ob u => obtain ⟨e, _⟩ := x; exact ⟨_, e⟩
  | tbl ps => exact ⟨_, x⟩
  | met f y => exact ⟨_, x⟩
  | ext φ => obtain ⟨_, e, _⟩ := x; exact e
def rSortD (K : PySem.W.Frag) : List V → Hp → VK → Prop := fun vs H Q => ∃ (a : Addr) (kvs : List (Key × V)), vs = [V.ref a] ∧ Rd H a (.dK kvs) ∧
  ((∃ ns : List Int, kvs.map Prod.fst = ns.map Sum.inl ∧ ∀ (ns' : List Int) (p : Addr), ns'.Perm ns → ns'.Pairwise (· ≤ ·) → H p = none → Q (.ref p) (upd H p (.lst (ns'.map V.int)))) ∨
   (∃ ns : List Str, kvs.map Prod.fst = ns.map Sum.inr ∧ ∀ (ns' : List Str) (p : Addr), ns'.Perm ns → ns'.Pairwise (fun x y => ¬ y.cps.toList < x.cps.toList) → H p = none → Q (.ref p) (upd H p (.lst (ns'.map V.str)))))
theorem cr_sortD {X : Cx} (hc : X.calm = true) : CallR X (.builtin "sorted") (rSortD X.K) := by
  intro pins s σ H xs us Q I r h
  obtain ⟨a, kvs, ex, hd, q⟩ := h
  subst ex
  obtain ⟨u, eu, rx⟩ := vals1 r
  subst eu
  cases rx
  obtain ⟨z, lo, vs, rel, dd⟩ := dk_rd I.hok hd
  obtain ⟨ep, hat⟩ := dd.dictAt
  have hfr : ∀ D, s.heap.get? D = none → H D = none := fun D e => by
    cases e2 : H D with
    | none => rfl
    | some o =>
      obtain ⟨u, hu⟩ := objOk_there (I.hok D o e2)
      rw [e] at hu; cases hu
  have hn : vs.length ≤ sizeLine := by rw [← rel.length]; exact z
  have ek : kvs.map Prod.fst = vs.map Prod.fst := rel.keys
  have hkv : ∀ us : List Value, us.length = vs.length → (∀ (j : Nat) (v : Value), us[j]? = some v → ∃ k x, vs[j]? = some (k, x) ∧ (mixKind X.prog X.w).is k v = true) → Vals ((kvs.map Prod.fst).map kV) us := fun us hl hv => by
    have := keys_at (vs := vs) hl fun j v e => hv j v e
    rw [ek, List.map_map]; exact this
  rcases q with ⟨ns, hks, q⟩ | ⟨ns, hks, q⟩
  · have hI : ∀ us : List Value, us.length = vs.length → (∀ (j : Nat) (v : Value), us[j]? = some v → ∃ k x, vs[j]? = some (k, x) ∧ (mixKind X.prog X.w).is k v = true) → IntsAre us ns := fun us hl hv => by
      have q := hkv us hl hv
      rw [hks, List.map_map] at q
      exact Vals.ints (ns := ns) q
    refine sorted_dk (knd := mixKind X.prog X.w) (kvs := vs) lo (I.ok.hd hc) hat hn SrtO.swo_int (fun us s1 b hl hv h2 => SrtO.ints_sortable (hI us hl hv) h2) fun us out h' tk D c hl hv hs hb hk hD hc => ?_
    obtain ⟨k1, k2, k3⟩ := SrtO.ints_out (hI us hl hv) hs hb
    generalize out.map SrtO.iv = ns' at *
    have hlen : (ns'.map V.int).length ≤ sizeLine := by
      rw [List.length_map, k2.length_eq]
      have := congrArg List.length hks
      rw [List.length_map, List.length_map] at this
      omega
    exact ⟨.ref D, upd H D (.lst (ns'.map V.int)), I.laidN hk hD (hfr D hD) (show ObjOk X.prog X.w _ _ _ (.lst (ns'.map V.int)) from ⟨hlen, out, c, vals_of_ints k1, hc⟩), rfl, q _ _ k2 k3 (hfr D hD)⟩
  · have hI : ∀ us : List Value, us.length = vs.length → (∀ (j : Nat) (v : Value), us[j]? = some v → ∃ k x, vs[j]? = some (k, x) ∧ (mixKind X.prog X.w).is k v = true) → StrsAre us ns := fun us hl hv => by
      have q := hkv us hl hv
      rw [hks, List.map_map] at q
      exact Vals.strs (xs := ns) q
    refine sorted_dk (knd := mixKind X.prog X.w) (kvs := vs) lo (I.ok.hd hc) hat hn swo_str (fun us s1 b hl hv h2 => strs_sortable (hI us hl hv) h2) fun us out h' tk D c hl hv h1 h2 hk hD hc => ?_
    have hi := hI us hl hv
    have hall : ∀ v ∈ out, ∃ i t, v = Value.str i t := fun v hv => strs_mem hi v (h2.perm.mem_iff.mp hv)
    have k2 : (out.map svS).Perm ns := by
      have q := h2.perm.map svS
      rw [strs_sv hi] at q
      exact q
    have k3 : (out.map svS).Pairwise (fun x y => ¬ y.cps.toList < x.cps.toList) := List.pairwise_map.mpr (h1.imp fun {x y} h => of_decide_eq_false (p := (svS y).cps.toList < (svS x).cps.toList) h)
    have hlen : ((out.map svS).map V.str).length ≤ sizeLine := by
      rw [List.length_map, k2.length_eq]
      have := congrArg List.length hks
      rw [List.length_map, List.length_map] at this
      omega
    exact ⟨.ref D, upd H D (.lst ((out.map svS).map V.str)), I.laidN hk hD (hfr D hD) (show ObjOk X.prog X.w _ _ _ (.lst ((out.map svS).map V.str)) from ⟨hlen, out, c, vals_svS hall, hc⟩), rfl, q _ _ k2 k3 (hfr D hD)⟩
def vSortD : List D → (D → Prop) → Prop
  | [.dic kds], P => (∃ ns : List Int, kds.map Prod.fst = ns.map Sum.inl ∧ ∀ ns' : List Int, ns'.Perm ns → ns'.Pairwise (· ≤ ·) → P (.lst (ns'.map D.int))) ∨
      ∃ ns : List Str, kds.map Prod.fst = ns.map Sum.inr ∧ ∀ ns' : List Str, ns'.Perm ns → ns'.Pairwise (fun x y => ¬ y.cps.toList < x.cps.toList) → P (.lst (ns'.map D.str))
  | _, _ => False
theorem l_sortD {K : PySem.W.Frag} : ClV K (rSortD K) vSortD := fun G H xs ds P Q s h f k => by
  unfold vSortD at f
  split at f
  · obtain ⟨v, rfl, hv⟩ := h.inv1
    obtain ⟨a, kvs, rfl, h1, e1, q1⟩ := hv.dk s
    refine ⟨a, kvs, rfl, h1, ?_⟩
    rcases f with ⟨ns, e, f⟩ | ⟨ns, e, f⟩
    · exact .inl ⟨ns, by rw [e1, e], fun ns' p hp h3 h4 => k _ _ _ (f ns' hp h3) (.lst h4 ints_dd)⟩
    · exact .inr ⟨ns, by rw [e1, e], fun ns' p hp h3 h4 => k _ _ _ (f ns' hp h3) (.lst h4 strs_dd)⟩
  · exact f.elim
end Ps
namespace Ps
open PySem PySem.Spec PyProof.Rows L2
structure Frm {α : Type} (fp : α → List Addr) (Ok : Sto → α → Prop) : Prop where
  som : ∀ (s : Sto) (p : α), Ok s p → ∀ a ∈ fp p, s a ≠ none
  agr : ∀ (s s' : Sto) (p : α), Ok s p → (∀ a ∈ fp p, s' a = s a) → Ok s' p
structure AllG {α : Type} (fp : α → List Addr) (Ok : Sto → α → Prop) (s : Sto) (ps : List α) : Prop where
  ok : ∀ p ∈ ps, Ok s p
  ap : ∀ (i j : Nat) (p q : α), i ≠ j → ps[i]? = some p → ps[j]? = some q → ∀ a ∈ fp p, a ∉ fp q
section
variable {α β : Type} {fp : α → List Addr} {Ok Ok' : Sto → α → Prop} {s s' : Sto} {ps : List α} {k : Nat} {p p' : α}
theorem AllG.nil : AllG fp Ok s [] := ⟨(fun p hp => nomatch hp), (fun i j p q hij hp => nomatch hp)⟩
theorem AllG.imp (h : AllG fp Ok s ps) (f : ∀ p ∈ ps, Ok s p → Ok' s p) : AllG fp Ok' s ps := ⟨fun p hp => f p hp (h.ok p hp), h.ap⟩
theorem AllG.map {gp : β → List Addr} {Og : Sto → β → Prop} (h : AllG fp Ok s ps) (f : α → β) (hf : ∀ p ∈ ps, Ok s p → Og s (f p)) (hg : ∀ p ∈ ps, ∀ a ∈ gp (f p), a ∈ fp p) : AllG gp Og s (ps.map f) := by
  refine ⟨fun q hq => ?_, fun i j p q hij hp hq a ha hb => ?_⟩
  · obtain ⟨p, hp, rfl⟩ := List.mem_map.mp hq
    exact hf p hp (h.ok p hp)
  · rw [List.getElem?_map] at hp hq
    obtain ⟨p', ep, rfl⟩ := Option.map_eq_some_iff.mp hp
    obtain ⟨q', eq, rfl⟩ := Option.map_eq_some_iff.mp hq
    exact h.ap i j p' q' hij ep eq a (hg _ (List.mem_of_getElem? ep) a ha) (hg _ (List.mem_of_getElem? eq) a hb)
theorem AllG.agree (F : Frm fp Ok) (h : AllG fp Ok s ps) (e : ∀ a, s a ≠ none → s' a = s a) : AllG fp Ok s' ps :=
  ⟨fun p hp => F.agr s s' p (h.ok p hp) fun a ha => e a (F.som s p (h.ok p hp) a ha), h.ap⟩
theorem AllG.step (F : Frm fp Ok) (h : AllG fp Ok s ps) (hk : ps[k]? = some p) (ok : Ok s' p') (fr : ∀ a, s a ≠ none → a ∉ fp p → s' a = s a) (nw : ∀ a ∈ fp p', a ∈ fp p ∨ s a = none) : AllG fp Ok s' (ps.set k p') := by
  have oth : ∀ (i : Nat) (q : α), i ≠ k → ps[i]? = some q → ∀ a ∈ fp q, s' a = s a := fun i q hi hq a ha =>
    fr a (F.som _ _ (h.ok q (List.mem_of_getElem? hq)) a ha) (h.ap i k q p hi hq hk a ha)
  have hkl := (List.getElem?_eq_some_iff.mp hk).1
  refine ⟨fun q hq => ?_, fun i j q r hij hq hr a ha => ?_⟩
  · obtain ⟨i, e⟩ := List.mem_iff_getElem?.mp hq
    by_cases c : i = k
    · subst c
      rw [List.getElem?_set_self hkl] at e
      cases e
      exact ok
    · rw [List.getElem?_set_ne (Ne.symm c)] at e
      exact F.agr _ _ _ (h.ok q (List.mem_of_getElem? e)) (oth i q c e)
  · by_cases ci : i = k
    · subst ci
      rw [List.getElem?_set_self hkl] at hq
      cases hq
      rw [List.getElem?_set_ne hij] at hr
      rcases nw a ha with h1 | h1
      · exact h.ap i j p r hij hk hr a h1
      · exact fun hb => F.som _ _ (h.ok r (List.mem_of_getElem? hr)) a hb h1
    · rw [List.getElem?_set_ne (Ne.symm ci)] at hq
      by_cases cj : j = k
      · subst cj
        rw [List.getElem?_set_self hkl] at hr
        cases hr
        intro hb
        rcases nw a hb with h1 | h1
        · exact h.ap i j q p hij hq hk a ha h1
        · exact F.som _ _ (h.ok q (List.mem_of_getElem? hq)) a ha h1
      · rw [List.getElem?_set_ne (Ne.symm cj)] at hr
        exact h.ap i j q r hij hq hr a ha
theorem AllG.snoc (F : Frm fp Ok) (h : AllG fp Ok s ps) (ok : Ok s' p) (fr : ∀ a, s a ≠ none → s' a = s a) (nw : ∀ a ∈ fp p, s a = none) : AllG fp Ok s' (ps ++ [p]) := by
  have h' := h.agree F fr
  have at_ : ∀ (i : Nat) (q : α), (ps ++ [p])[i]? = some q → (i < ps.length ∧ ps[i]? = some q) ∨ (i = ps.length ∧ q = p) := fun i q e => by
    by_cases c : i < ps.length
    · rw [List.getElem?_append_left c] at e; exact .inl ⟨c, e⟩
    · rw [List.getElem?_append_right (by omega)] at e
      have hl := (List.getElem?_eq_some_iff.mp e).1
      simp only [List.length_singleton] at hl
      have hi : i - ps.length = 0 := by omega
      rw [hi] at e
      simp at e
      exact .inr ⟨by omega, e.symm⟩
  refine ⟨fun q hq => ?_, fun i j q r hij hq hr a ha hb => ?_⟩
  · rcases List.mem_append.mp hq with hq | hq
    · exact h'.ok q hq
    · rw [List.mem_singleton.mp hq]; exact ok
  · rcases at_ i q hq with ⟨hi, eq⟩ | ⟨hi, rfl⟩ <;> rcases at_ j r hr with ⟨hj, er⟩ | ⟨hj, rfl⟩
    · exact h.ap i j q r hij eq er a ha hb
    · exact F.som _ _ (h.ok q (List.mem_of_getElem? eq)) a ha (nw a hb)
    · exact F.som _ _ (h.ok r (List.mem_of_getElem? er)) a hb (nw a ha)
    · exact hij (by omega)
end
theorem lc_Q {items : List D} {vg : VG} {ve : VE} {vs : List Nat} {env : Env} {m : Mst} {P : D → Mst → Prop} (W : Nat → List D → Mst → Prop) (hz : items.length ≤ 16777216) (h0 : W 0 [] m)
    (hs : ∀ (i : Nat) (acc : List D) (m' : Mst) (d : D) (Q : D → Mst → Prop), i < items.length → acc.length = i → W i acc m' → items[i]? = some d → (∀ y m3, W (i + 1) (acc ++ [y]) m3 → Q y m3) → vg d (wipeE env vs) fun e1 => ve e1 m' Q)
    (k : ∀ acc m', acc.length = items.length → W items.length acc m' → P (.lst acc) m') : lcD items vg vYes ve vs env m P := by
  refine ⟨fun i acc m' => acc.length = i ∧ W i acc m', ⟨rfl, h0⟩, ?_, fun acc m' h => k acc m' h.1 h.2⟩
  rintro i acc m' d ⟨hl, hw⟩ e
  have hi := (List.getElem?_eq_some_iff.mp e).1
  exact hs i acc m' d (fun y m3 => acc.length < sizeLine ∧ (acc ++ [y]).length = i + 1 ∧ W (i + 1) (acc ++ [y]) m3) hi hl hw e fun y m3 h => ⟨sz_lt (by omega), by rw [List.length_append, hl]; rfl, h⟩
theorem e_orJ {p : Prop} [Decidable p] {vt : VT} {env : Env} {m : Mst} {T : Bool → Mst → Prop} (q : Bool) (hq : ∀ B : Bool → Mst → Prop, B q m → vt env m B) (h : T (decide p || q) m) : if decide p = true then T true m else vt env m T := by
  by_cases c : p
  · rw [decide_eq_true c, Bool.true_or] at h
    rw [if_pos (decide_eq_true c)]; exact h
  · rw [decide_eq_false c, Bool.false_or] at h
    rw [if_neg (by rw [decide_eq_false c]; exact Bool.false_ne_true)]; exact hq T h
theorem lcK_Q {a : Addr} {u : Obj × List (Key × V)} {kds : List (Key × D)} {vg : VG} {ve : VE} {vs : List Nat} {env : Env} {m : Mst} {P : D → Mst → Prop} (W : Nat → List D → Mst → Prop) (hz : kds.length ≤ 16777216) (h0 : W 0 [] m) (hk : ∀ i acc m', W i acc m' → m'.2 a = some (.lck u kds))
    (hs : ∀ (i : Nat) (acc : List D) (m' : Mst) (p : Key × D) (Q : D → Mst → Prop), i < kds.length → acc.length = i → W i acc m' → kds[i]? = some p → (∀ y m3, W (i + 1) (acc ++ [y]) m3 → Q y m3) → vg (kD p.1) (wipeE env vs) fun e1 => ve e1 m' Q)
    (k : ∀ acc m', acc.length = kds.length → W kds.length acc m' → P (.lst acc) (unlM a kds m')) : lcK a u kds vg vYes ve vs env m P := by
  refine ⟨fun i acc m' => acc.length = i ∧ W i acc m', ⟨rfl, h0⟩, fun i acc m' h => hk i acc m' h.2, ?_, fun acc m' h => k acc m' h.1 h.2⟩
  rintro i acc m' p ⟨hl, hw⟩ e
  have hi := (List.getElem?_eq_some_iff.mp e).1
  exact hs i acc m' p (fun y m3 => acc.length < sizeLine ∧ (acc ++ [y]).length = i + 1 ∧ W (i + 1) (acc ++ [y]) m3) hi hl hw e fun y m3 h => ⟨sz_lt (by omega), by rw [List.length_append, hl]; rfl, h⟩
end Ps
namespace Ps
open PySem PySem.Spec PyProof.Rows L2
section
variable {α β : Type}
def nkD (f : α → D) (l : List (Str × α)) : List (Key × D) := l.map fun p => (.inr p.1, f p.2)
def nget (l : List (Str × α)) (n : Str) : Option α := (l.find? fun p => decide (p.1 = n)).map (·.2)
def nput (l : List (Str × α)) (n : Str) (v : α) : List (Str × α) := if (l.any fun p => decide (p.1 = n)) = true then l.map (fun p => if p.1 = n then (p.1, v) else p) else l ++ [(n, v)]
def ndrop (l : List (Str × α)) (n : Str) : List (Str × α) := l.filter fun p => !decide (p.1 = n)
def nmap (g : α → β) (l : List (Str × α)) : List (Str × β) := l.map fun p => (p.1, g p.2)
theorem inr_dec (a n : Str) : decide ((.inr a : Key) = .inr n) = decide (a = n) := decide_eq_decide.mpr ⟨fun e => Sum.inr.inj e, fun e => by rw [e]⟩
theorem nkD_len (f : α → D) (l : List (Str × α)) : (nkD f l).length = l.length := List.length_map ..
theorem nk_get (f : α → D) (l : List (Str × α)) (n : Str) : dget (nkD f l) (.inr n) = (nget l n).map f := by
  unfold dget nget nkD
  induction l with
  | nil => rfl
  | cons p l ih =>
    rw [List.map_cons, List.find?_cons, List.find?_cons]
    show Option.map _ (match decide ((.inr p.1 : Key) = .inr n) with | true => _ | false => _) = _
    rw [inr_dec]
    cases decide (p.1 = n) with
    | true => rfl
    | false => exact ih
theorem nk_any (f : α → D) (l : List (Str × α)) (n : Str) : ((nkD f l).any fun kv => decide (kv.1 = .inr n)) = l.any fun p => decide (p.1 = n) := by
  unfold nkD
  rw [List.any_map]
  congr 1
  funext p
  exact inr_dec p.1 n
theorem nk_put (f : α → D) (l : List (Str × α)) (n : Str) (v : α) : dput (nkD f l) (.inr n) (f v) = nkD f (nput l n v) := by
  unfold dput nput
  rw [nk_any]
  split
  · unfold nkD
    rw [List.map_map, List.map_map]
    refine List.map_congr_left fun p _ => ?_
    show (if (.inr p.1 : Key) = .inr n then _ else _) = ((.inr (if p.1 = n then _ else _ : Str × α).1 : Key), f (if p.1 = n then _ else _ : Str × α).2)
    by_cases c : p.1 = n
    · rw [if_pos (by rw [c]), if_pos c]
    · rw [if_neg fun e => c (Sum.inr.inj e), if_neg c]
  · unfold nkD
    rw [List.map_append]; rfl
theorem nk_drop (f : α → D) (l : List (Str × α)) (n : Str) : ddrop (nkD f l) (.inr n) = nkD f (ndrop l n) := by
  unfold ddrop nkD ndrop
  rw [List.filter_map]
  congr 1
  refine List.filter_congr fun p _ => ?_
  show (!decide ((.inr p.1 : Key) = .inr n)) = _
  rw [inr_dec]
theorem nget_map (g : α → β) (l : List (Str × α)) (n : Str) : nget (nmap g l) n = (nget l n).map g := by
  unfold nget nmap
  induction l with
  | nil => rfl
  | cons p l ih =>
    rw [List.map_cons, List.find?_cons, List.find?_cons]
    cases decide (p.1 = n) with
    | true => rfl
    | false => exact ih
theorem nput_map (g : α → β) (l : List (Str × α)) (n : Str) (v : α) : nput (nmap g l) n (g v) = nmap g (nput l n v) := by
  unfold nput nmap
  rw [List.any_map]
  show (if (l.any fun p => decide (p.1 = n)) = true then _ else _) = _
  split
  · rw [List.map_map, List.map_map]
    refine List.map_congr_left fun p _ => ?_
    show (if p.1 = n then _ else _) = ((if p.1 = n then _ else _ : Str × α).1, g (if p.1 = n then _ else _ : Str × α).2)
    split <;> rfl
  · rw [List.map_append]; rfl
theorem ndrop_map (g : α → β) (l : List (Str × α)) (n : Str) : ndrop (nmap g l) n = nmap g (ndrop l n) := by
  unfold ndrop nmap; rw [List.filter_map]; rfl
theorem nget_some_mem {l : List (Str × α)} {n : Str} {v : α} (h : nget l n = some v) : (n, v) ∈ l := by
  unfold nget at h
  obtain ⟨p, hp, rfl⟩ := Option.map_eq_some_iff.mp h
  have := List.find?_some hp
  rw [← of_decide_eq_true this]
  exact List.mem_of_find?_eq_some hp
theorem nget_mem {l : List (Str × α)} (hn : (l.map (·.1)).Nodup) {n : Str} {v : α} (h : (n, v) ∈ l) : nget l n = some v := by
  induction l with
  | nil => cases h
  | cons p l ih =>
    rw [List.map_cons, List.nodup_cons] at hn
    unfold nget
    rw [List.find?_cons]
    rcases List.mem_cons.mp h with rfl | h'
    · rw [decide_eq_true rfl]; rfl
    · have : decide (p.1 = n) = false := decide_eq_false fun e => hn.1 (by rw [e]; exact List.mem_map_of_mem h')
      rw [this]; exact ih hn.2 h'
theorem nany_iff {l : List (Str × α)} {n : Str} : (l.any fun p => decide (p.1 = n)) = true ↔ n ∈ l.map (·.1) := by
  rw [List.any_eq_true]
  constructor
  · rintro ⟨p, hp, e⟩
    rw [← of_decide_eq_true e]; exact List.mem_map_of_mem hp
  · intro h
    obtain ⟨p, hp, e⟩ := List.mem_map.mp h
    exact ⟨p, hp, decide_eq_true e⟩
theorem nput_names {l : List (Str × α)} {n : Str} {v : α} : (nput l n v).map (·.1) = if n ∈ l.map (·.1) then l.map (·.1) else l.map (·.1) ++ [n] := by
  unfold nput
  by_cases c : n ∈ l.map (·.1)
  · rw [if_pos (nany_iff.mpr c), if_pos c, List.map_map]
    refine List.map_congr_left fun p _ => ?_
    show (if p.1 = n then _ else _ : Str × α).1 = p.1
    split <;> rfl
  · rw [if_neg (fun e => c (nany_iff.mp e)), if_neg c, List.map_append]; rfl
theorem nput_nodup {l : List (Str × α)} {n : Str} {v : α} (h : (l.map (·.1)).Nodup) : ((nput l n v).map (·.1)).Nodup := by
  rw [nput_names]
  split
  · exact h
  · rename_i c
    refine List.nodup_append.mpr ⟨h, by simp, fun a ha b hb e => ?_⟩
    rw [List.mem_singleton] at hb
    subst hb; subst e; exact c ha
theorem nput_len {l : List (Str × α)} {n : Str} {v : α} : (nput l n v).length ≤ l.length + 1 := by
  unfold nput
  split
  · rw [List.length_map]; omega
  · rw [List.length_append]; simp
theorem ndrop_sub (l : List (Str × α)) (n : Str) : (ndrop l n).Sublist l := List.filter_sublist
theorem nput_mem {l : List (Str × α)} {n : Str} {v : α} {p : Str × α} (h : p ∈ nput l n v) : p = (n, v) ∨ (p ∈ l ∧ p.1 ≠ n) := by
  unfold nput at h
  split at h
  · obtain ⟨q, hq, rfl⟩ := List.mem_map.mp h
    split
    · rename_i c; rw [c]; exact .inl rfl
    · rename_i c; exact .inr ⟨hq, c⟩
  · rename_i c
    rcases List.mem_append.mp h with h | h
    · exact .inr ⟨h, fun e => c (nany_iff.mpr (by rw [← e]; exact List.mem_map_of_mem h))⟩
    · exact .inl (List.mem_singleton.mp h)
end
abbrev FRow := Str × Addr × List D
abbrev fkD (F : List FRow) : List (Key × D) := nkD (fun q : Addr × List D => .adr q.1) F
def flatF (F : List FRow) : List (Str × List D) := nmap (fun q : Addr × List D => q.2) F
structure FilesAt (s : Sto) (y : Addr) (F : List FRow) : Prop where
  dc : s y = some (.dic (fkD F))
  row : ∀ p ∈ F, s p.2.1 = some (.lst p.2.2)
  nd : (y :: F.map (·.2.1)).Nodup
  nk : (F.map (·.1)).Nodup
theorem FilesAt.agree {s s' : Sto} {y : Addr} {F : List FRow} (h : FilesAt s y F) (e : ∀ a ∈ y :: F.map (·.2.1), s' a = s a) : FilesAt s' y F :=
  ⟨by rw [e y List.mem_cons_self]; exact h.dc, fun x hx => by rw [e x.2.1 (List.mem_cons_of_mem _ (List.mem_map_of_mem hx))]; exact h.row x hx, h.nd, h.nk⟩
theorem FilesAt.som {s : Sto} {y : Addr} {F : List FRow} (h : FilesAt s y F) : ∀ a ∈ y :: F.map (·.2.1), s a ≠ none := by
  intro a ha e
  rcases List.mem_cons.mp ha with rfl | ha
  · rw [h.dc] at e; cases e
  · obtain ⟨r, hr, rfl⟩ := List.mem_map.mp ha
    rw [h.row r hr] at e; cases e
theorem FilesAt.get {s : Sto} {y : Addr} {F : List FRow} (h : FilesAt s y F) {n : Str} {bs : List D} (e : nget (flatF F) n = some bs) : ∃ a, nget F n = some (a, bs) ∧ dget (fkD F) (.inr n) = some (.adr a) ∧ s a = some (.lst bs) ∧ a ∈ F.map (·.2.1) := by
  unfold flatF at e
  rw [nget_map] at e
  obtain ⟨⟨a, b⟩, h1, h2⟩ := Option.map_eq_some_iff.mp e
  obtain rfl : b = bs := h2
  have hm := nget_some_mem h1
  exact ⟨a, h1, by rw [nk_get, h1]; rfl, h.row _ hm, List.mem_map_of_mem (f := (·.2.1)) hm⟩
theorem FilesAt.no {F : List FRow} {n : Str} (e : nget (flatF F) n = none) : dget (fkD F) (.inr n) = none := by
  unfold flatF at e
  rw [nget_map, Option.map_eq_none_iff] at e
  rw [nk_get, e]; rfl
theorem FilesAt.put {s : Sto} {y a : Addr} {F : List FRow} (n : Str) (bs : List D) (h : FilesAt s y F) (ha : s a = none) : FilesAt (sput (sput s a (.lst bs)) y (.dic (dput (fkD F) (.inr n) (.adr a)))) y (nput F n (a, bs)) := by
  have hay : y ≠ a := fun e => h.som a (by rw [← e]; exact List.mem_cons_self) ha
  have haF : ∀ p ∈ F, p.2.1 ≠ a := fun p hp e => h.som a (by rw [← e]; exact List.mem_cons_of_mem _ (List.mem_map_of_mem hp)) ha
  have hnd := List.nodup_cons.mp h.nd
  refine ⟨?_, fun p hp => ?_, ?_, nput_nodup h.nk⟩
  · rw [sput_same]
    exact congrArg (fun l => some (D.dic l)) (nk_put (fun q : Addr × List D => D.adr q.1) F n (a, bs))
  · rcases nput_mem hp with rfl | ⟨hp, _⟩
    · rw [sput_ne hay.symm, sput_same]
    · rw [sput_ne fun e => hnd.1 (by rw [← e]; exact List.mem_map_of_mem hp), sput_ne (haF p hp)]
      exact h.row p hp
  · have hsub : ∀ b ∈ (nput F n (a, bs)).map (·.2.1), b = a ∨ b ∈ F.map (·.2.1) := fun b hb => by
      obtain ⟨p, hp, rfl⟩ := List.mem_map.mp hb
      rcases nput_mem hp with rfl | ⟨hp, _⟩
      · exact .inl rfl
      · exact .inr (List.mem_map_of_mem hp)
    refine List.nodup_cons.mpr ⟨fun hy => ?_, ?_⟩
    · rcases hsub y hy with e | hy
      · exact hay e
      · exact hnd.1 hy
    · unfold nput
      split
      · rw [List.map_map]
        have key : ∀ L : List FRow, (L.map (·.1)).Nodup → (L.map (·.2.1)).Nodup → (∀ p ∈ L, p.2.1 ≠ a) → (L.map ((fun q : FRow => q.2.1) ∘ fun p => if p.1 = n then (p.1, (a, bs)) else p)).Nodup := by
          intro L
          induction L with
          | nil => intro _ _ _; exact List.nodup_nil
          | cons q L ih =>
            intro h1 h2 h3
            rw [List.map_cons, List.nodup_cons] at h1 h2 ⊢
            refine ⟨fun hm => ?_, ih h1.2 h2.2 fun p hp => h3 p (List.mem_cons_of_mem _ hp)⟩
            obtain ⟨r, hr, e⟩ := List.mem_map.mp hm
            simp only [Function.comp] at e
            by_cases c : q.1 = n
            · rw [if_pos c] at e
              by_cases c2 : r.1 = n
              · exact h1.1 (by rw [c, ← c2]; exact List.mem_map_of_mem hr)
              · rw [if_neg c2] at e
                exact h3 r (List.mem_cons_of_mem _ hr) e
            · rw [if_neg c] at e
              by_cases c2 : r.1 = n
              · rw [if_pos c2] at e
                exact h3 q List.mem_cons_self e.symm
              · rw [if_neg c2] at e
                exact h2.1 (by rw [← e]; exact List.mem_map_of_mem hr)
        exact key F h.nk hnd.2 haF
      · rw [List.map_append]
        refine List.nodup_append.mpr ⟨hnd.2, by simp, fun b hb c hc e => ?_⟩
        have : c = a := by simpa using hc
        subst this; subst e
        obtain ⟨p, hp, e⟩ := List.mem_map.mp hb
        exact haF p hp e
theorem flatF_put (F : List FRow) (n : Str) (a : Addr) (bs : List D) : flatF (nput F n (a, bs)) = nput (flatF F) n bs := (nput_map (fun q : Addr × List D => q.2) F n (a, bs)).symm
theorem flatF_drop (F : List FRow) (n : Str) : flatF (ndrop F n) = ndrop (flatF F) n := (ndrop_map _ F n).symm
def setF (n : Str) (bs : List D) (F : List FRow) : List FRow := F.map fun p => if p.1 = n then (p.1, p.2.1, bs) else p
theorem FilesAt.set {s : Sto} {y a : Addr} {F : List FRow} {n : Str} {b0 : List D} (bs : List D) (h : FilesAt s y F) (e : nget F n = some (a, b0)) : FilesAt (sput s a (.lst bs)) y (setF n bs F) ∧ flatF (setF n bs F) = nput (flatF F) n bs ∧ (setF n bs F).map (·.2.1) = F.map (·.2.1) := by
  have hm := nget_some_mem e
  have hnd := List.nodup_cons.mp h.nd
  have hn : (setF n bs F).map (·.1) = F.map (·.1) := by
    unfold setF; rw [List.map_map]; exact List.map_congr_left fun p _ => by show (if p.1 = n then _ else _ : FRow).1 = p.1; split <;> rfl
  have hA : (setF n bs F).map (·.2.1) = F.map (·.2.1) := by
    unfold setF; rw [List.map_map]; exact List.map_congr_left fun p _ => by show (if p.1 = n then _ else _ : FRow).2.1 = p.2.1; split <;> rfl
  have hk : fkD (setF n bs F) = fkD F := by
    unfold fkD nkD setF; rw [List.map_map]; exact List.map_congr_left fun p _ => by
      show ((.inr (if p.1 = n then _ else _ : FRow).1 : Key), D.adr (if p.1 = n then _ else _ : FRow).2.1) = _
      split <;> rfl
  have hya : y ≠ a := fun e => hnd.1 (by rw [e]; exact List.mem_map_of_mem (f := (·.2.1)) hm)
  refine ⟨⟨by rw [sput_ne hya, hk]; exact h.dc, fun p hp => ?_, by rw [hA]; exact h.nd, by rw [hn]; exact h.nk⟩, ?_, hA⟩
  · obtain ⟨q, hq, rfl⟩ := List.mem_map.mp hp
    by_cases c : q.1 = n
    · have := nget_mem h.nk (n := q.1) (v := q.2) hq
      rw [c, e] at this
      have e2 : q.2 = (a, b0) := (Option.some.inj this).symm
      rw [if_pos c, e2]
      exact sput_same
    · rw [if_neg c, sput_ne]
      · exact h.row q hq
      · intro e3
        have : ∀ L : List FRow, (L.map (·.2.1)).Nodup → q ∈ L → (n, a, b0) ∈ L → q.2.1 = a → q = (n, a, b0) := by
          intro L
          induction L with
          | nil => intro _ h; cases h
          | cons r L ih =>
            intro h1 h2 h3 h4
            rw [List.map_cons, List.nodup_cons] at h1
            rcases List.mem_cons.mp h2 with rfl | h2 <;> rcases List.mem_cons.mp h3 with e5 | h3
            · exact e5.symm
            · exact absurd (by rw [h4]; exact List.mem_map_of_mem (f := (·.2.1)) h3) h1.1
            · exact absurd (by rw [← e5, ← h4]; exact List.mem_map_of_mem (f := (·.2.1)) h2) h1.1
            · exact ih h1.2 h2 h3 h4
        exact c (by rw [this F hnd.2 hq hm e3])
  · have : (flatF F).any (fun p => decide (p.1 = n)) = true := nany_iff.mpr (by
      show n ∈ (nmap _ F).map (·.1)
      unfold nmap; rw [List.map_map]
      exact List.mem_map_of_mem (f := fun p : FRow => p.1) hm)
    unfold nput
    rw [if_pos this]
    unfold flatF nmap setF
    rw [List.map_map, List.map_map]
    refine List.map_congr_left fun p _ => ?_
    show ((if p.1 = n then _ else _ : FRow).1, (if p.1 = n then _ else _ : FRow).2.2) = if p.1 = n then _ else _
    split <;> rfl
theorem FilesAt.dropped {s : Sto} {y : Addr} {F : List FRow} (n : Str) (h : FilesAt s y F) : FilesAt (sput s y (.dic (ddrop (fkD F) (.inr n)))) y (ndrop F n) := by
  have hnd := List.nodup_cons.mp h.nd
  have hs := ndrop_sub F n
  refine ⟨by rw [sput_same]; exact congrArg (fun l => some (D.dic l)) (nk_drop (fun q : Addr × List D => D.adr q.1) F n), fun x hx => ?_, ?_, h.nk.sublist (hs.map _)⟩
  · have hx' := hs.subset hx
    rw [sput_ne fun e => hnd.1 (by rw [← e]; exact List.mem_map_of_mem hx')]
    exact h.row x hx'
  · exact List.nodup_cons.mpr ⟨fun hy => hnd.1 ((hs.map _).subset hy), hnd.2.sublist (hs.map _)⟩
theorem FilesAt.len {F : List FRow} : (flatF F).length = F.length := List.length_map ..
end Ps
namespace Ps
open PySem PySem.Spec PyProof.Rows L2
section
variable {X : Cx}
end
section
variable {c : JC} {Γ : List OT} {G G' H H' : Hp} {T S S1 S2 R : List (Addr × HO)} {env : Env} {σ : L2.St} {m : Mst} {v : V} {d : D}
end
section
variable {env : Env} {m : Mst} {va : VA} {P : D → Mst → Prop}
end
end Ps
namespace Ps
open PySem PySem.Spec PyProof.Rows L2
section
variable {c : JC} {Γ : List OT} {G G' H H' : Hp} {T S S1 S2 R : List (Addr × HO)} {env : Env} {σ : L2.St} {m : Mst} {v : V} {d : D}
end
section
variable {env : Env} {m : Mst} {vl : VA} {P : D → Mst → Prop} {t : OT} {vsp : VSp} {VW : XW}
end
end Ps
namespace Ps
open PySem PySem.Spec PyProof.Rows L2
section
variable {c : JC} {Γ : List OT} {G G' H H' : Hp} {T S S1 S2 R : List (Addr × HO)} {env : Env} {σ : L2.St} {m : Mst} {v : V} {d : D}
end
section
variable {env : Env} {m : Mst} {va ve : VA} {P : D → Mst → Prop}
end
end Ps
namespace Ps
open PySem PySem.Spec PyProof.Rows L2
section
variable {α : Type} [DecidableEq α]
end
section
variable {prog : Program} {w : World} {K : Type} [DecidableEq K] {knd : PySem.KeyKind prog w K} {A : Around} {R : Result → Shared → Prop} {I : Addr} {fp wr : List Addr} {G : Array GenState → Array GenState → Prop} {n : Nat} {P : Nat → Value → Prop} {St : Nat → Shared → Prop}
end
section
variable {prog : Program} {w : World} {K : Type} [DecidableEq K] {knd : PySem.KeyKind prog w K} {A : Around} {E : Value → Shared → Prop} {s : Shared}
end
section
variable {X : Cx}
end
section
variable {K : PySem.W.Frag}
end
end Ps
namespace Ps
open PySem PySem.Spec PyProof.Rows L2
section
variable {prog : Program} {w : World} {A : Around} {E : Value → Shared → Prop} {s : Shared} {z TI TO T i1 i2 i3 : Addr} {fp1 fp2 fp3 : List Addr} {n1 n2 n3 i : Nat} {P1 P2 P3 : Nat → Value → Prop} {St1 St2 St3 : Nat → Heap → Prop} {f : Bool} {oT : Obj}
end
end Ps
namespace Ps
open PySem PySem.Spec PyProof.Rows L2
section
variable {prog : Program} {w : World} {A : Around} {z TI TO i1 i2 i3 : Addr} {fp1 fp2 fp3 : List Addr} {n N : Nat} {P1 P2 P3 : Nat → Value → Prop} {St1 St2 St3 : Nat → Heap → Prop}
end
end Ps
namespace Ps
open PySem PySem.Spec PyProof.Rows L2
section
variable {prog : Program} {w : World} {A : Around} {z TI TO i1 i2 i3 : Addr} {fp1 fp2 fp3 : List Addr} {n : Nat} {P1 P2 P3 : Nat → Value → Prop} {St1 St2 St3 : Nat → Heap → Prop}
theorem Draws.push {it : Addr} {fp : List Addr} {P : Nat → Value → Prop} {St : Nat → Heap → Prop} (D : Draws prog w A it fp n P St) {i : Nat} {h : Heap} (o : Obj) (st : St i h) : St i (h.push o) := D.frame _ _ _ st fun b _ o e => Heap.get?_push_of_some _ e
end
end Ps
namespace Ps
open PySem PySem.Spec PyProof.Rows L2
section
variable {X : Cx} {pins : List (Addr × Obj)} {σ : L2.St} {H H' : Hp} {s : Shared} {h' : Heap}
end
section
variable {c : JC} {Γ : List OT} {G G' H H' : Hp} {T S S1 S2 R : List (Addr × HO)} {env : Env} {σ : L2.St} {m : Mst} {v : V} {d : D}
end
section
variable {env : Env} {m : Mst} {va : VA} {P : D → Mst → Prop}
end
end Ps
namespace Ps
open PySem PySem.Spec PyProof.Rows L2
section
variable {c : JC} {Γ Γb Γc : List OT} {t : OT} {i : Nat}
def vMutL (i : Nat) (f : List D → List D → (List D → D → Prop) → Prop) (va : VA) : VS := fun V env m => ∃ ds, env[i]? = some (some (.lst ds)) ∧ va env m fun xs m1 => f ds (xs.map (look m1.2)) fun ds' z => V.nx (env.set i (some (.lst ds'))) m1
end
section
variable {V : VEnds} {i : Nat} {env : Env} {m : Mst} {vl : VA} {ds : List D}
theorem e_seqMutL {b : VS} {f : List D → List D → (List D → D → Prop) → Prop} (h : (vMutL i f vl) { V with nx := b V } env m) : vSeqS (vMutL i f vl) b V env m := h
end
end Ps
namespace Ps
open PySem PySem.Spec PyProof.Rows L2
def sev (r : Nat) : List Int := if r < 128 then [(r : Int)] else ((r % 128 + 128 : Nat) : Int) :: sev (r / 128)
termination_by r
decreasing_by omega
def zz (n : Int) : Nat := if n < 0 then (-2 * n - 1).toNat else (2 * n).toNat
def nb (n : Int) : List Int := sev (zz n)
inductive Rd (α : Type) where
  | got (x : α) (j : Nat)
  | bad (w : Str)
end Ps
namespace Ps
open PySem PySem.Spec PyProof.Rows L2
def signs : Str := (" !\"#$&'()*+,-./0123456789:;<=>?@ABCDEFGHIJKLMNOPQRSTUVWXYZ[\\]^_`abcdefghijklmnopqrstuvwxyz{|}~" : Str)
def sg (k : Nat) : Nat := signs.cps.toList.getD k 0
def txt (ks : List Nat) : Str := ⟨(ks.map sg).toArray⟩
end Ps
namespace Ps
open PySem PySem.Spec PyProof.Rows L2
def num (b : Nat) : List Nat → Nat
  | [] => 0
  | x :: r => x + b * num b r
def dig (b : Nat) : Nat → Nat → List Nat
  | 0, _ => []
  | k + 1, r => r % b :: dig b k (r / b)
def bcn (n w : Nat) : Nat := (n * w + 7) / 8
def pk (xs : List Nat) (w : Nat) : List Nat := dig 256 (bcn xs.length w) (num (2 ^ w) xs)
def bl (n : Nat) : Nat := if n = 0 then 0 else Nat.log2 n + 1
def ins (xs : List Nat) : List Int := xs.map fun x : Nat => (x : Int)
end Ps
namespace Ps
open PySem PySem.Spec PyProof.Rows L2
inductive Cel where
  | non
  | num (z : Int)
  | txt (ks : List Nat)
  deriving DecidableEq
def tb (ks : List Nat) : List Int := nb ks.length ++ ins ks
def cb : Cel → List Int
  | .non => [0]
  | .num z => 1 :: nb z
  | .txt ks => 2 :: tb ks
end Ps
namespace Ps
open PySem PySem.Spec PyProof.Rows L2
local macro_rules | `(tactic| walk_at "v1") => `(tactic| first
  | ((with_reducible refine' e_modI ?hx ?_); (case hx => decide))
  | fail)
local macro_rules | `(tactic| walk_at "v1") => `(tactic| first
  | ((with_reducible refine' e_gtupU ?hx ?_); (case hx => exact rfl))
  | ((with_reducible refine' e_gtupL ?hx ?_); (case hx => exact rfl))
  | fail)
local macro_rules | `(tactic| walk_at "v1") => `(tactic| first
  | ((with_reducible refine' e_len ?hx ?_); (case hx => exact rfl))
  | ((with_reducible refine' e_gtup ?hx ?_); (case hx => exact rfl))
  | fail)
local macro_rules | `(tactic| walk_at "v1") => `(tactic| with_reducible first
  | refine w_ifF ?_
  | refine w_ifNF ?_
  | refine w_ifNT ?_)
local macro_rules | `(tactic| walk_at "v1") => `(tactic| with_reducible first
  | refine e_for ?_
  | refine e_lc ?_
  | refine w_ifT ?_)
local macro_rules | `(tactic| walk_at "v1") => `(tactic| with_reducible first
  | refine e_rng1 ?_)
local macro_rules | `(tactic| walk_at "v1") => `(tactic| with_reducible first
  | refine e_truT ?_)
local macro_rules | `(tactic| walk_at "v1") => `(tactic| with_reducible first
  | refine e_truB ?_
  | refine e_truN ?_
  | refine e_truI ?_
  | refine e_truL ?_)
local macro_rules | `(tactic| walk_at "v1") => `(tactic| with_reducible first
  | refine e_itES ?_
  | refine e_itVL ?_
  | refine e_itVT ?_
  | refine e_tru ?_)
local macro_rules | `(tactic| walk_at "v1") => `(tactic| with_reducible first
  | refine e_itZL ?_
  | refine e_itZT ?_
  | refine e_itEL ?_
  | refine e_itET ?_)
local macro_rules | `(tactic| walk_at "v1") => `(tactic| with_reducible first
  | refine e_itT ?_
  | refine e_itS ?_
  | refine e_rg1 ?_
  | refine e_rg2 ?_)
local macro_rules | `(tactic| walk_at "v1") => `(tactic| with_reducible first
  | refine e_gcons ?_
  | refine e_gnil ?_
  | refine e_seqv ?_
  | refine e_itL ?_)
local macro_rules | `(tactic| walk_at "v1") => `(tactic| with_reducible first
  | refine e_cutL ?_
  | refine e_cutT ?_)
local macro_rules | `(tactic| walk_at "v1") => `(tactic| with_reducible first
  | refine e_intI ?_
  | refine e_intB ?_)
local macro_rules | `(tactic| walk_at "v1") => `(tactic| with_reducible first
  | refine e_lenD ?_
  | refine e_listL ?_
  | refine e_listT ?_)
local macro_rules | `(tactic| walk_at "v1") => `(tactic| with_reducible first
  | refine e_lenL ?_
  | refine e_lenT ?_)
local macro_rules | `(tactic| walk_at "v1") => `(tactic| with_reducible first
  | refine e_ltI ?_
  | refine e_gtI ?_)
local macro_rules | `(tactic| walk_at "v1") => `(tactic| with_reducible first
  | refine e_eqS ?_
  | refine e_eqB ?_)
local macro_rules | `(tactic| walk_at "v1") => `(tactic| with_reducible first
  | refine e_addI ?_
  | refine e_subI ?_
  | refine e_eqI ?_)
local macro_rules | `(tactic| walk_at "v1") => `(tactic| with_reducible first
  | refine e_rz0 ?_)
local macro_rules | `(tactic| walk_at "v1") => `(tactic| with_reducible first
  | refine e_nopart ?_
  | refine e_part ?_
  | refine e_intE ?_
  | refine e_dnew ?_)
local macro_rules | `(tactic| walk_at "v1") => `(tactic| with_reducible first
  | refine e_sc ?_
  | refine e_scI ?_
  | refine e_sl ?_)
local macro_rules | `(tactic| walk_at "v1") => `(tactic| with_reducible first
  | refine e_dpopS ?_
  | refine e_get2 ?_)
local macro_rules | `(tactic| walk_at "v1") => `(tactic| with_reducible first
  | refine e_lcB ?_
  | refine e_forB ?_)
local macro_rules | `(tactic| walk_at "v1") => `(tactic| with_reducible first
  | refine e_boxL ?_
  | refine e_boxDi ?_
  | refine e_seqB ?_)
local macro_rules | `(tactic| walk_at "v1") => `(tactic| with_reducible first
  | refine e_appS ?_
  | refine e_mutS ?_
  | refine e_putS ?_
  | refine e_box ?_)
local macro_rules | `(tactic| walk_at "v1") => `(tactic| with_reducible first
  | refine e_setF ?_
  | refine e_meth ?_
  | refine e_make ?_)
local macro_rules | `(tactic| walk_at "v1") => `(tactic| with_reducible first
  | refine e_slL ?_
  | refine e_fld ?_)
local macro_rules | `(tactic| walk_at "v1") => `(tactic| with_reducible first
  | refine e_opL ?_
  | refine e_cbL ?_)
local macro_rules | `(tactic| walk_at "v1") => `(tactic| with_reducible first
  | refine e_callB ?_
  | refine e_frB ?_
  | refine e_frI ?_)
local macro_rules | `(tactic| walk_at "v1") => `(tactic| with_reducible first
  | refine e_not ?_
  | refine e_yes ?_
  | refine e_call ?_)
local macro_rules | `(tactic| walk_at "v1") => `(tactic| with_reducible first
  | refine e_test ?_
  | refine e_and ?_
  | refine e_or ?_)
local macro_rules | `(tactic| walk_at "v1") => `(tactic| with_reducible first
  | refine e_blE ?_)
local macro_rules | `(tactic| walk_at "v1") => `(tactic| with_reducible first
  | refine e_tyS ?_
  | refine e_tyL ?_
  | refine e_lst ?_
  | refine e_tup ?_)
local macro_rules | `(tactic| walk_at "v1") => `(tactic| with_reducible first
  | refine e_cb ?_)
local macro_rules | `(tactic| walk_at "v1") => `(tactic| with_reducible first
  | refine e_c ?_
  | refine e_nil ?_
  | refine e_cons ?_
  | refine e_op ?_)
local macro_rules | `(tactic| walk_at "v1") => `(tactic| with_reducible first
  | refine e_next ?_
  | refine e_gname ?_)
local macro_rules | `(tactic| walk_at "v1") => `(tactic| with_reducible first
  | refine e_drop ?_
  | refine e_ret ?_
  | refine e_if ?_)
local macro_rules | `(tactic| walk_at "v1") => `(tactic| with_reducible first
  | refine e_seqForB ?_
  | refine e_seqAugS ?_
  | refine e_seqSeq ?_
  | refine e_asg ?_)
local macro_rules | `(tactic| walk_at "v1") => `(tactic| with_reducible first
  | refine e_seqAugF ?_
  | refine e_seqAppS ?_
  | refine e_seqMutS ?_
  | refine e_seqPutS ?_)
local macro_rules | `(tactic| walk_at "v1") => `(tactic| with_reducible first
  | refine e_seqFor ?_
  | refine e_seqWhile ?_
  | refine e_seqNext ?_
  | refine e_seqSetF ?_)
local macro_rules | `(tactic| walk_at "v1") => `(tactic| with_reducible first
  | refine e_seqApp ?_
  | refine e_seqMut ?_
  | refine e_seqPut ?_
  | refine e_seqPar ?_)
local macro_rules | `(tactic| walk_at "v1") => `(tactic| first
  | ((with_reducible refine' e_var ?hx ?_); (case hx => exact rfl))
  | (with_reducible refine e_seqAsg ?_)
  | (with_reducible refine e_seqDrop ?_)
  | (with_reducible refine e_seqAug ?_)
  | fail)
local macro_rules | `(tactic| walk_at "vv") => `(tactic| repeat (walk_at "v1"))
local macro_rules | `(tactic| walk_at "vi") => `(tactic| ((with_reducible refine e_seq ?_); repeat (walk_at "v1")))
local macro_rules | `(tactic| walk_at "ve") => `(tactic| ((with_reducible refine e_ifE ?_); repeat (walk_at "v1")))
abbrev dL (ns : List Int) : D := .lst (ns.map D.int)
def cvD : Cel → D
  | .non => .non
  | .num z => .int z
  | .txt ks => .str (txt ks)
abbrev bad (X : XV) (C : Addr) (w : Str) (m : Mst) : Prop := X C [("why", .str w)] m
theorem at_litS (l : List Str) {v : Int} (h0 : 0 ≤ v) (h1 : v < l.length) : ∃ z, z ∈ l ∧ L2.atI (l.map D.str) v = some (.str z) := by
  obtain ⟨j, rfl⟩ : ∃ j : Nat, v = (j : Int) := ⟨v.toNat, by omega⟩
  have hj : j < l.length := by omega
  exact ⟨l[j], List.getElem_mem hj, atI_nat (by rw [List.getElem?_map, List.getElem?_eq_getElem hj]; rfl)⟩
theorem cutD_to (xs : List D) (n : Nat) : cutD xs none (some (n : Int)) = xs.take n := by
  unfold cutD
  rw [HT.sIx_none, HT.sIx_nat, List.drop_zero, Nat.sub_zero]
  by_cases h : n ≤ xs.length
  · rw [Nat.min_eq_left h]
  · rw [Nat.min_eq_right (by omega), List.take_of_length_le (Nat.le_refl _), List.take_of_length_le (by omega)]
section
variable {P : D → Mst → Prop} {m : Mst} {VX : XV} {k : Nat} {Z : D → Prop}
end
def Gd : Nat → D → Prop
  | 0, _ => False
  | _ + 1, .non => True
  | _ + 1, .int _ => True
  | _ + 1, .str s => PyData.strOk s = true
  | n + 1, .lst ds => ds.length ≤ 16777216 ∧ ∀ d ∈ ds, Gd n d
  | n + 1, .tup ds => ds.length ≤ 16777216 ∧ ∀ d ∈ ds, Gd n d
  | _ + 1, _ => False
theorem Gd.up : ∀ {n : Nat} {d : D}, Gd n d → Gd (n + 1) d
  | 0, _, h => h.elim
  | n + 1, d, h => by
    cases d with
    | lst ds => exact ⟨h.1, fun x hx => Gd.up (h.2 x hx)⟩
    | tup ds => exact ⟨h.1, fun x hx => Gd.up (h.2 x hx)⟩
    | non => exact h
    | int i => exact h
    | str s => exact h
    | _ => exact h.elim
theorem Gd.le {n k : Nat} {d : D} (hk : n ≤ k) (h : Gd n d) : Gd k d := by
  induction hk with
  | refl => exact h
  | step _ ih => exact ih.up
theorem pls_of : ∀ {ds : List D}, (∀ d ∈ ds, d.pl = true) → D.pls ds = true
  | [], _ => rfl
  | d :: ds, h => by rw [D.pls, h d List.mem_cons_self, pls_of fun x hx => h x (List.mem_cons_of_mem _ hx)]; rfl
theorem lays_of : ∀ {ds : List D}, (∀ d ∈ ds, PyData.canLay0 d.py = true) → PyData.canLayAll0 (D.pys ds) = true
  | [], _ => rfl
  | d :: ds, h => by rw [D.pys, PyData.canLayAll0, h d List.mem_cons_self, lays_of fun x hx => h x (List.mem_cons_of_mem _ hx)]; rfl
theorem depths_of {n : Nat} : ∀ {ds : List D}, (∀ d ∈ ds, PyData.depth d.py ≤ n) → PyData.depthAll (D.pys ds) ≤ n
  | [], _ => by rw [D.pys, PyData.depthAll]; exact Nat.zero_le _
  | d :: ds, h => by
    rw [D.pys, PyData.depthAll]
    exact Nat.max_le.mpr ⟨h d List.mem_cons_self, depths_of fun x hx => h x (List.mem_cons_of_mem _ hx)⟩
theorem pys_len : ∀ ds : List D, (D.pys ds).length = ds.length
  | [] => rfl
  | d :: ds => by rw [D.pys, List.length_cons, List.length_cons, pys_len ds]
theorem okDs_of {n : Nat} : ∀ {ds : List D}, (∀ d ∈ ds, okD n d.py = true) → (D.pys ds).all (okD n) = true
  | [], _ => rfl
  | d :: ds, h => by rw [D.pys, List.all_cons, h d List.mem_cons_self, okDs_of fun x hx => h x (List.mem_cons_of_mem _ hx)]; rfl
theorem Gd.pl : ∀ {n : Nat} {d : D}, Gd n d → d.pl = true
  | 0, _, h => h.elim
  | n + 1, d, h => by
    cases d with
    | lst ds => rw [D.pl]; exact pls_of fun x hx => Gd.pl (h.2 x hx)
    | tup ds => rw [D.pl]; exact pls_of fun x hx => Gd.pl (h.2 x hx)
    | non => rfl
    | int i => rfl
    | str s => rfl
    | _ => exact h.elim
theorem Gd.lay : ∀ {n : Nat} {d : D}, Gd n d → PyData.canLay0 d.py = true ∧ PyData.depth d.py ≤ n
  | 0, _, h => h.elim
  | n + 1, d, h => by
    cases d with
    | lst ds =>
      rw [D.py, PyData.canLay0, PyData.depth]
      exact ⟨lays_of fun x hx => (Gd.lay (h.2 x hx)).1, Nat.succ_le_succ (depths_of fun x hx => (Gd.lay (h.2 x hx)).2)⟩
    | tup ds =>
      rw [D.py, PyData.canLay0, PyData.depth]
      exact ⟨lays_of fun x hx => (Gd.lay (h.2 x hx)).1, Nat.succ_le_succ (depths_of fun x hx => (Gd.lay (h.2 x hx)).2)⟩
    | non => exact ⟨rfl, by rw [D.py, PyData.depth]; omega⟩
    | int i => exact ⟨rfl, by rw [D.py, PyData.depth]; omega⟩
    | str s => exact ⟨by rw [D.py, PyData.canLay0]; exact h, by rw [D.py, PyData.depth]; omega⟩
    | _ => exact h.elim
theorem Gd.okD : ∀ {n : Nat} {d : D}, Gd n d → Ps.okD n d.py = true
  | 0, _, h => h.elim
  | n + 1, d, h => by
    cases d with
    | lst ds => rw [D.py, Ps.okD, pys_len, decide_eq_true h.1, okDs_of fun x hx => Gd.okD (h.2 x hx)]; rfl
    | tup ds => rw [D.py, Ps.okD, pys_len, decide_eq_true h.1, okDs_of fun x hx => Gd.okD (h.2 x hx)]; rfl
    | non => rfl
    | int i => rfl
    | str s => rfl
    | _ => exact h.elim
theorem Gd.shaped {n : Nat} {d : D} (hn : n ≤ 64) (h : Gd n d) : SeqAt.shaped d.py = true := by
  unfold SeqAt.shaped
  rw [h.lay.1, decide_eq_true (Nat.le_trans h.lay.2 hn)]; rfl
section
variable {d e : D} {n k : Nat} {P : D → Mst → Prop} {m : Mst} {VX : XV} {Z : D → Prop}
theorem e_sameG (h : Gd k d) (q : P (.bl true) m) : vSame k [d, d] m P VX := e_same h.pl h.pl rfl h.okD q
end
theorem gd_int {i : Int} {k : Nat} (hk : 1 ≤ k) : Gd k (.int i) := by
  obtain ⟨k, rfl⟩ : ∃ j, k = j + 1 := ⟨k - 1, by omega⟩
  trivial
theorem gd_lst {ds : List D} {k : Nat} (hl : ds.length ≤ 16777216) (h : ∀ d ∈ ds, Gd k d) : Gd (k + 1) (.lst ds) := ⟨hl, h⟩
inductive Kd where
  | num
  | txt
def Kd.isT : Kd → Bool
  | .num => false
  | .txt => true
def kdD : Kd → D
  | .num => .str "number"
  | .txt => .str "text"
def ltD : D → D → Bool
  | .int i, .int j => decide (i < j)
  | .str s, .str t => decide (s.cps.toList < t.cps.toList)
  | _, _ => false
section
variable {k : Kd} {x y z : D}
variable {Z : D → Prop}
theorem e_kT (h : Z (.bl k.isT)) : vEqC (kdD k) (.str "text") Z := by
  cases k with
  | num => exact e_eqS (by rw [decide_eq_false (by decide +kernel)]; exact h)
  | txt => exact e_eqS (by rw [decide_eq_true rfl]; exact h)
theorem e_kN (h : Z (.bl (!k.isT))) : vEqC (kdD k) (.str "number") Z := by
  cases k with
  | num => exact e_eqS (by rw [decide_eq_true rfl]; exact h)
  | txt => exact e_eqS (by rw [decide_eq_false (by decide +kernel)]; exact h)
end
def lessD (a b : D) : D := if ltD b a = true then b else a
def moreD (a b : D) : D := if ltD a b = true then b else a
def minC : List D → D
  | [] => .non
  | x :: r => r.foldl lessD x
def maxC : List D → D
  | [] => .non
  | x :: r => r.foldl moreD x
section
variable {k : Kd} {l : List D} {Z : D → Prop}
end
local macro_rules | `(tactic| walk_at "v1") => `(tactic| with_reducible first
  | refine e_min2 ?_)
local macro_rules | `(tactic| walk_at "v1") => `(tactic| with_reducible first
  | refine e_kT ?_
  | refine e_kN ?_)
def known (cs : List D) : List D := cs.filter fun c => !c.isN
theorem w_ifTd {p A B : Prop} [Decidable p] (h : p) (a : A) : if decide p = true then A else B := by rw [decide_eq_true h, if_pos rfl]; exact a
theorem w_ifFd {p A B : Prop} [Decidable p] (h : ¬ p) (b : B) : if decide p = true then A else B := by rw [decide_eq_false h, if_neg Bool.false_ne_true]; exact b
local macro_rules | `(tactic| walk_at "lit") => `(tactic| first | refine w_ifFd (by decide +kernel) ?_ | refine w_ifTd (by decide +kernel) ?_)
local macro_rules | `(tactic| walk_at "vw") => `(tactic| repeat (first | walk_at "v1" | (with_reducible refine e_seq ?_) | walk_at "lit"))
section
variable {Z : D → Prop} {x y : D} {ds : List D} {env : Env} {m : Mst} {P : D → Mst → Prop} {va vb : VE} {k : Kd}
end
theorem any_map {f : D → Bool} : ∀ vs : List D, (vs.map f).any id = vs.any f
  | [] => rfl
  | v :: vs => by rw [List.map_cons, List.any_cons, List.any_cons, any_map vs]; rfl
def noteD (many opened : Nat) (a b : D) : D := .tup [.int many, .int opened, a, b]
def opens (cs : List D) : Nat := cs.length - (known cs).length
def noteOf (cs : List D) : D := noteD cs.length (opens cs) (minC (known cs)) (maxC (known cs))
local macro_rules | `(tactic| walk_at "v1") => `(tactic| with_reducible first
  | refine e_seqUpd ?_)
local macro_rules | `(tactic| walk_at "v1") => `(tactic| with_reducible first
  | refine e_pcons ?_
  | refine e_pnil ?_)
local macro_rules | `(tactic| walk_at "lit") => `(tactic| first | refine w_ifFd (by decide +kernel) ?_ | refine w_ifTd (by decide +kernel) ?_)
local macro_rules | `(tactic| walk_at "vw") => `(tactic| repeat (first | walk_at "v1" | (with_reducible refine e_seq ?_) | walk_at "lit"))
local macro_rules | `(tactic| walk_at "v1") => `(tactic| with_reducible first
  | refine e_lenScr ?_)
def stepR (rs : List (Cel × Nat)) (c : Cel) : List (Cel × Nat) := match rs.getLast? with
  | some p => if p.1 = c then rs.dropLast ++ [(c, p.2 + 1)] else rs ++ [(c, 1)]
  | none => [(c, 1)]
def runsC (l : List Cel) : List (Cel × Nat) := l.foldl stepR []
def allC (l : List Cel) : List Int := l.flatMap cb
def rbC (rs : List (Cel × Nat)) : List Int := nb rs.length ++ rs.flatMap fun p => cb p.1 ++ nb p.2
local macro_rules | `(tactic| walk_at "v1") => `(tactic| with_reducible first
  | refine e_seqPutC ?_)
theorem sput_sput {s : Sto} {y : Addr} {d e : D} : sput (sput s y d) y e = sput s y e := by
  funext b; unfold sput; split <;> rfl
def ckD : Cel → D
  | .non => .tup [.int 0, .int 0, .str ""]
  | .num z => .tup [.int 1, .int z, .str ""]
  | .txt ks => .tup [.int 2, .int 0, .str (txt ks)]
def leC (a b : Cel) : Bool := PySem.W.dataLe false (fun c => (ckD c).py) a b
def sortC (l : List Cel) : List Cel := l.mergeSort leC
def stepF (acc : List Cel) (c : Cel) : List Cel := if c ∈ acc then acc else acc ++ [c]
def firsts (l : List Cel) : List Cel := l.foldl stepF []
def bookC (l : List Cel) : List Cel := sortC (firsts l)
def bkC (l : List Cel) : List Int := nb ((bookC l).length : Int) ++ allC (bookC l) ++ ins (pk (l.map (bookC l).idxOf) (bl ((bookC l).length - 1)))
def mnI : List Int → Int
  | [] => 0
  | [x] => x
  | x :: y :: r => min x (mnI (y :: r))
def mxN : List Nat → Nat
  | [] => 0
  | x :: r => max x (mxN r)
def smallC (xs : List Nat) : List Int := (bl (mxN xs) : Int) :: ins (pk xs (bl (mxN xs)))
def offs (xs : List Int) : List Nat := xs.map fun x => (x - mnI xs).toNat
def baseC (xs : List Int) : List Int := nb (mnI xs) ++ smallC (offs xs)
def stepsI (xs : List Int) : List Int := List.zipWith (fun a b => b - a) xs xs.tail
def stpC (xs : List Int) : List Int := nb (xs.headD 0) ++ nb (mnI (stepsI xs)) ++ smallC (offs (stepsI xs))
def numsOf : List Cel → Option (List Int)
  | [] => some []
  | .num z :: r => (numsOf r).map (z :: ·)
  | _ :: _ => none
def headC (way : Nat) (l : List Cel) : List Int := (way : Int) :: nb (l.length : Int)
def prA (way : Nat) (l : List Cel) : Option (List Int) :=
  if way = 0 then some (headC way l ++ allC l) else if way = 1 then some (headC way l ++ rbC (runsC l)) else if way = 2 then some (headC way l ++ bkC l) else
    (numsOf l).map fun xs => headC way l ++ if way = 3 then baseC xs else stpC xs
theorem e_extL {ds es : List D} {Y : List D → D → Prop} (hz : ds.length + es.length ≤ 16777216) (h : Y (ds ++ es) .non) : vExtend ds [.lst es] Y := e_ext hz h
def GC (k : Kd) (c : Cel) : Prop := c = .non ∨ (k = .num ∧ ∃ z, c = .num z ∧ z.natAbs < 10 ^ 18) ∨ (k = .txt ∧ ∃ ks, c = .txt ks ∧ ks.length ≤ 20 ∧ ∀ k ∈ ks, k < 94)
def rowsC (l : List Cel) (i : Nat) : List (List Int) := (List.range i).filterMap fun w => prA w l
def shrt : List Int → List (List Int) → List Int
  | r, [] => r
  | r, x :: xs => shrt (if x.length < r.length then x else r) xs
def pressC (l : List Cel) : List Int := match rowsC l 5 with
  | [] => []
  | r :: rs => shrt r rs
def chN (long n : Nat) : Nat := (n + long - 1) / long
def chk {α : Type} (long : Nat) (l : List α) (i : Nat) : List α := (l.drop (i * long)).take long
def chks {α : Type} (long : Nat) (l : List α) : List (List α) := (List.range (chN long l.length)).map (chk long l)
structure Pil (s : Sto) (C p yr yn : Addr) (long : Nat) (k : Kd) (l : List Cel) : Prop where
  ob : s p = some (.obj C [("each", .int long), ("so_many", .int l.length), ("own_rows", .adr yr), ("own_notes", .adr yn)])
  rw : s yr = some (.lst ((chks long l).map fun c => dL (pressC c)))
  nt : s yn = some (.lst ((chks long l).map fun c => noteOf (c.map cvD)))
  l1 : 1 ≤ long
  l2 : long ≤ 64
  lz : l.length ≤ 10000
  gc : ∀ c ∈ l, GC k c
def SubX (p : Addr) (s s' : Sto) : Prop := ∀ a d, a ≠ p → s a = some d → s' a = some d
theorem Pil.put {s : Sto} {C p yr yn y : Addr} {d : D} {long : Nat} {k : Kd} {l : List Cel} (h : Pil s C p yr yn long k l) (h1 : y ≠ p) (h2 : y ≠ yr) (h3 : y ≠ yn) : Pil (sput s y d) C p yr yn long k l :=
  ⟨(sput_ne h1.symm).trans h.ob, (sput_ne h2.symm).trans h.rw, (sput_ne h3.symm).trans h.nt, h.l1, h.l2, h.lz, h.gc⟩
theorem SubX.put {p : Addr} {s s' : Sto} {d : D} (h : SubX p s s') : SubX p s (sput s' p d) := fun a e n q => by rw [sput_ne n]; exact h a e n q
theorem SubX.refl (p : Addr) (s : Sto) : SubX p s s := fun _ _ _ h => h
theorem SubX.old {p y : Addr} {s s' : Sto} (h : SubX p s s') (hy : s' y = none) (n : y ≠ p) : s y = none := by
  cases e : s y with
  | none => rfl
  | some d => rw [h y d n e] at hy; cases hy
theorem SubX.new {p y : Addr} {s s' : Sto} {d : D} (h : SubX p s s') (hy : s' y = none) : SubX p s (sput s' y d) := fun a e n q => by
  have : a ≠ y := fun z => by subst z; rw [h a e n q] at hy; cases hy
  rw [sput_ne this]
  exact h a e n q
theorem SubX.own {p y : Addr} {s s' : Sto} {d : D} (h : SubX p s s') (hy : s y = none) : SubX p s (sput s' y d) := fun a e n q => by
  have : a ≠ y := fun z => by subst z; rw [q] at hy; cases hy
  rw [sput_ne this]
  exact h a e n q
theorem ne_of_at {s : Sto} {a b : Addr} {d : D} (h : s a = some d) (h2 : s b = none) : a ≠ b := fun e => by subst e; rw [h] at h2; cases h2
local macro_rules | `(tactic| walk_at "v1") => `(tactic| with_reducible first
  | refine e_seqMutL ?_)
local macro_rules | `(tactic| walk_at "v1") => `(tactic| with_reducible first
  | refine e_eqNilD ?_)
def t_deed_steps (K : PySem.W.Frag) : TS :=
      (tSeq (tIfS (tTest (tOp (rEqU K) (tOp (rIxU K) (tVar 0) (tC (.int 0))) (tC (.str ("add" : Str)))))
      (tRet (tCB (rLenU K) (tCons (tOp (rIxU K) (tVar 0) (tC (.int 2))) tNil)))
      tNext)
      (tRet (tC (.int 1))))
abbrev N_deed_steps : List Str := [("deed" : Str)]
def v_deed_steps (K : PySem.W.Frag) : VS :=
      (vSeqS (vIf (vTest (vOp vEqC (vOp vIx (vVar 0) (vC (.int 0))) (vC (.str ("add" : Str)))))
      (vRet (vCB vLen (vCons (vOp vIx (vVar 0) (vC (.int 2))) vNil)))
      vNext)
      (vRet (vC (.int 1))))
theorem sim_deed_steps {K : PySem.W.Frag} {vsp : VSp} (hv : ∀ ds m P VX, vsp ds m P VX → ds.length = 1 ∧ v_deed_steps K (vends P) (vstart N_deed_steps.length ds) m) :
    ∀ us H Q E, spV K .O vsp us H Q E → t_deed_steps K { nx := fun _ H' => Q .non H', rt := Q } (L2.start N_deed_steps us) H :=
  sim_def (n := 1) (t := .O) (N := N_deed_steps) (Γn := [.F]) (Γb := []) (Γc := []) (ts := fun E => t_deed_steps K) (vs := fun VX => v_deed_steps K) (by decide) (fun c W VX hK hx => by
    subst hK
    exact (x_seq (x_if (Γn := [.F]) (s_test (SO.b (s_op o_eq (SF.b (s_opF o_ix (SF.b (s_varF (by rfl))) (SO.b s_int))) (SO.b s_str))))
      (x_retO (s_cb l_len (a_cons (SF.b (s_opF o_ix (SF.b (s_varF (by rfl))) (SO.b s_int))) a_nil)))
      x_next)
      (x_retO s_int))) hv
def t_done_with (K : PySem.W.Frag) : TS :=
      (tSeq (tAsg (tVar 1) (gTup K 3 (gCons (gName 2) (gCons (gName 3) (gCons (gName 4) gNil)))))
      (tIfS (tTest (tOp (rEqU K) (tVar 2) (tC (.str ("make" : Str)))))
      (tAsg (tLst tNil) (gSub (tVar 0) (tVar 3) rSetU))
      (tIfS (tTest (tOp (rEqU K) (tVar 2) (tC (.str ("add" : Str)))))
      (tDrop (tBM K "list" (rExtend) (tOp (rIxU K) (tVar 0) (tVar 3)) (tCons (tVar 4) tNil)))
      (tIfS (tTest (tOp (rEqU K) (tVar 2) (tC (.str ("cut" : Str)))))
      (tAsg (tSl (rSlU K) (tOp (rIxU K) (tVar 0) (tVar 3)) tNoPart (tPart (tVar 4))) (gSub (tVar 0) (tVar 3) rSetU))
      (tDrop (tDPop1 (tVar 0) (tVar 3)))))))
abbrev N_done_with : List Str := [("files" : Str), ("deed" : Str), ("word" : Str), ("name" : Str), ("more" : Str)]
def v_done_with (K : PySem.W.Frag) : VS :=
      (vSeqS (vAsg (vVar 1) (vgTup 3 (vgCons (vgName 2) (vgCons (vgName 3) (vgCons (vgName 4) vgNil)))))
      (vIf (vTest (vOp vEqC (vVar 2) (vC (.str ("make" : Str)))))
      (vPutS (vVar 0) (vBox (vLst vNil)) (vVar 3))
      (vIf (vTest (vOp vEqC (vVar 2) (vC (.str ("add" : Str)))))
      (vMutS vExtend (vOpL vIx (vVar 0) (vVar 3)) (vCons (vVar 4) vNil))
      (vIf (vTest (vOp vEqC (vVar 2) (vC (.str ("cut" : Str)))))
      (vPutS (vVar 0) (vBox (vSlL vCut (vOpL vIx (vVar 0) (vVar 3)) vNoPart (vPart (vVar 4)))) (vVar 3))
      (vDrop (vDPopS (vVar 0) (vVar 3)))))))
theorem sim_done_with {K : PySem.W.Frag} {vsp : VSp} (hv : ∀ ds m P VX, vsp ds m P VX → ds.length = 2 ∧ v_done_with K (vends P) (vstart N_done_with.length ds) m) :
    ∀ us H Q E, spV K .O vsp us H Q E → t_done_with K { nx := fun _ H' => Q .non H', rt := Q } (L2.start N_done_with us) H :=
  sim_def (n := 2) (t := .O) (N := N_done_with) (Γn := [.F, .F, .F, .F, .F]) (Γb := []) (Γc := []) (ts := fun E => t_done_with K) (vs := fun VX => v_done_with K) (by decide) (fun c W VX hK hx => by
    subst hK
    exact (x_seq (x_asgT (s_varF (by rfl)) (tg_tup (tg_cons (tg_name (is := [2, 3, 4]) (by rfl) (by decide)) (tg_cons (tg_name (is := [2, 3, 4]) (by rfl) (by decide)) (tg_cons (tg_name (is := [2, 3, 4]) (by rfl) (by decide)) tg_nil)))))
      (x_if (Γn := [.F, .F, .F, .F, .F]) (s_test (SO.b (s_op o_eq (SF.b (s_varF (by rfl))) (SO.b s_str))))
      (x_putS (s_varF (by rfl)) (s_box (s_lst g_nil)) (s_varF (by rfl)))
      (x_if (Γn := [.F, .F, .F, .F, .F]) (s_test (SO.b (s_op o_eq (SF.b (s_varF (by rfl))) (SO.b s_str))))
      (x_mutS u_extend (s_opFL o_ix (SF.b (s_varF (by rfl))) (SF.b (s_varF (by rfl)))) (a_cons (SF.b (s_varF (by rfl))) a_nil))
      (x_if (Γn := [.F, .F, .F, .F, .F]) (s_test (SO.b (s_op o_eq (SF.b (s_varF (by rfl))) (SO.b s_str))))
      (x_putS (s_varF (by rfl)) (s_box (s_slL o_cut (SF.b (s_opFL o_ix (SF.b (s_varF (by rfl))) (SF.b (s_varF (by rfl))))) s_nopart (s_part (SF.b (s_varF (by rfl)))))) (s_varF (by rfl)))
      (x_drop (SF.b (s_dpopS (s_varF (by rfl)) (s_varF (by rfl)))))))))) hv
def t_Disk_init (K : PySem.W.Frag) : TS :=
      (tSeq (sFld K (tVar 0) tDNewK ("own_files" : Str))
      (tSeq (sFld K (tVar 0) (tLst tNil) ("own_log" : Str))
      (sFld K (tVar 0) (tC (.int 0)) ("so_many" : Str))))
abbrev N_Disk_init : List Str := [("self" : Str)]
def v_Disk_init (K : PySem.W.Frag) (c_Disk : Addr) : VS :=
      (vSeqS (vSetF c_Disk ("own_files" : Str) (vVar 0) (vBox vDNew))
      (vSeqS (vSetF c_Disk ("own_log" : Str) (vVar 0) (vBox (vLst vNil)))
      (vSetF c_Disk ("so_many" : Str) (vVar 0) (vC (.int 0)))))
theorem sim_Disk_init {K : PySem.W.Frag} {c_Disk : Addr} (kx_Disk : ClsK K c_Disk [("own_files" : Str), ("own_log" : Str), ("so_many" : Str)]) {vsp : VSp} (hv : ∀ ds m P VX, vsp ds m P VX → ds.length = 1 ∧ v_Disk_init K c_Disk (vends P) (vstart N_Disk_init.length ds) m) :
    ∀ us H Q E, spV K .O vsp us H Q E → t_Disk_init K { nx := fun _ H' => Q .non H', rt := Q } (L2.start N_Disk_init us) H :=
  sim_def (n := 1) (t := .O) (N := N_Disk_init) (Γn := [.F]) (Γb := []) (Γc := []) (ts := fun E => t_Disk_init K) (vs := fun VX => v_Disk_init K c_Disk) (by decide) (fun c W VX hK hx => by
    subst hK
    exact (x_seq (x_setF kx_Disk (by decide) (s_varF (by rfl)) (s_box s_dnew))
      (x_seq (x_setF kx_Disk (by decide) (s_varF (by rfl)) (s_box (s_lst g_nil)))
      (x_setF kx_Disk (by decide) (s_varF (by rfl)) (SO.f s_int))))) hv
def t_Disk_keep_deed (K : PySem.W.Frag) (s_deed_steps_ : Sp) (s_done_with_ : Sp) : TS :=
      (tIfS (tTest (tOp (rGtV) (tCall s_deed_steps_ [] E0 (tCons (tVar 1) tNil)) (tC (.int 0))))
      (tSeq (tDrop (tCall s_done_with_ [] E0 (tCons (tFld K (tVar 0) ("own_files" : Str)) (tCons (tVar 1) tNil))))
      (tSeq (tDrop (tBM K "list" (rAppend) (tFld K (tVar 0) ("own_log" : Str)) (tCons (tVar 1) tNil)))
      (sFld K (tVar 0) (tOp (rAddU K) (tFld K (tVar 0) ("so_many" : Str)) (tCall s_deed_steps_ [] E0 (tCons (tVar 1) tNil))) ("so_many" : Str))))
      tNext)
abbrev N_Disk_keep_deed : List Str := [("self" : Str), ("deed" : Str)]
def v_Disk_keep_deed (K : PySem.W.Frag) (vs_deed_steps : VSp) (vs_done_with : VSp) (c_Disk : Addr) : VS :=
      (vIf (vTest (vOp vGt (vCall vs_deed_steps (vCons (vVar 1) vNil)) (vC (.int 0))))
      (vSeqS (vDrop (vCall vs_done_with (vCons (vFld c_Disk ("own_files" : Str) (vVar 0)) (vCons (vVar 1) vNil))))
      (vSeqS (vAppS (vFld c_Disk ("own_log" : Str) (vVar 0)) (vVar 1))
      (vSetF c_Disk ("so_many" : Str) (vVar 0) (vOp vAdd (vFld c_Disk ("so_many" : Str) (vVar 0)) (vCall vs_deed_steps (vCons (vVar 1) vNil))))))
      vNext)
theorem sim_Disk_keep_deed {K : PySem.W.Frag} {vs_deed_steps : VSp} {vs_done_with : VSp} {c_Disk : Addr} (kx_Disk : ClsK K c_Disk [("own_files" : Str), ("own_log" : Str), ("so_many" : Str)]) {vsp : VSp} (hv : ∀ ds m P VX, vsp ds m P VX → ds.length = 2 ∧ v_Disk_keep_deed K vs_deed_steps vs_done_with c_Disk (vends P) (vstart N_Disk_keep_deed.length ds) m) :
    ∀ us H Q E, spV K .O vsp us H Q E → t_Disk_keep_deed K (spV K .O vs_deed_steps) (spV K .O vs_done_with) { nx := fun _ H' => Q .non H', rt := Q } (L2.start N_Disk_keep_deed us) H :=
  sim_def (n := 2) (t := .O) (N := N_Disk_keep_deed) (Γn := [.F, .F]) (Γb := []) (Γc := []) (ts := fun E => t_Disk_keep_deed K (spV K .O vs_deed_steps) (spV K .O vs_done_with)) (vs := fun VX => v_Disk_keep_deed K vs_deed_steps vs_done_with c_Disk) (by decide) (fun c W VX hK hx => by
    subst hK
    exact (x_if (Γn := [.F, .F]) (s_test (SO.b (s_op o_gt (SO.b (s_callO (g_cons (s_varF (by rfl)) g_nil))) (SO.b s_int))))
      (x_seq (x_drop (SO.b (s_callO (g_cons (s_fld kx_Disk (by decide) (s_varF (by rfl))) (g_cons (s_varF (by rfl)) g_nil)))))
      (x_seq (x_appS (s_fld kx_Disk (by decide) (s_varF (by rfl))) (s_varF (by rfl)))
      (x_setF kx_Disk (by decide) (s_varF (by rfl)) (SO.f (s_op o_add (SF.b (s_fld kx_Disk (by decide) (s_varF (by rfl)))) (SO.b (s_callO (g_cons (s_varF (by rfl)) g_nil))))))))
      x_next)) hv
def t_Disk_look_file (K : PySem.W.Frag) (c_NoFile : Addr) (E : XK) : TS :=
      (tIfS (tTest (tOp (rInU K true) (tVar 1) (tFld K (tVar 0) ("own_files" : Str))))
      (tRz (fun c d _ H => E c d H) (.ref c_NoFile))
      tNext)
abbrev N_Disk_look_file : List Str := [("self" : Str), ("name" : Str)]
def v_Disk_look_file (K : PySem.W.Frag) (c_Disk : Addr) (c_NoFile : Addr) (VX : XV) : VS :=
      (vIf (vTest (vOpL (vIn true) (vVar 1) (vFld c_Disk ("own_files" : Str) (vVar 0))))
      (vRaise (fun C fs _ m => VX C fs m) c_NoFile [])
      vNext)
theorem sim_Disk_look_file {K : PySem.W.Frag} {c_Disk : Addr} {c_NoFile : Addr} (kx_Disk : ClsK K c_Disk [("own_files" : Str), ("own_log" : Str), ("so_many" : Str)]) {vsp : VSp} (hv : ∀ ds m P VX, vsp ds m P VX → ds.length = 2 ∧ v_Disk_look_file K c_Disk c_NoFile VX (vends P) (vstart N_Disk_look_file.length ds) m) :
    ∀ us H Q E, spV K .O vsp us H Q E → t_Disk_look_file K c_NoFile E { nx := fun _ H' => Q .non H', rt := Q } (L2.start N_Disk_look_file us) H :=
  sim_def (n := 2) (t := .O) (N := N_Disk_look_file) (Γn := [.F, .F]) (Γb := []) (Γc := []) (ts := fun E => t_Disk_look_file K c_NoFile E) (vs := fun VX => v_Disk_look_file K c_Disk c_NoFile VX) (by decide) (fun c W VX hK hx => by
    subst hK
    exact (x_if (Γn := [.F, .F]) (s_test (SO.b (s_opL (o_in true) (SF.b (s_varF (by rfl))) (SF.b (s_fld kx_Disk (by decide) (s_varF (by rfl)))))))
      (x_raise0 (hx _))
      x_next)) hv
def t_Disk_make (K : PySem.W.Frag) (s_Disk_keep_deed_ : Sp) (c_Disk : Addr) : TS :=
      (tDrop (tMethQ c_Disk ("keep_deed" : Str) s_Disk_keep_deed_ (fun _ => E0) (tVar 0) (tCons (tTup (tCons (tC (.str ("make" : Str))) (tCons (tVar 1) (tCons (tC .non) tNil)))) tNil)))
abbrev N_Disk_make : List Str := [("self" : Str), ("name" : Str)]
def v_Disk_make (K : PySem.W.Frag) (vs_Disk_keep_deed : VSp) (c_Disk : Addr) : VS :=
      (vDrop (vMeth c_Disk ("keep_deed" : Str) vs_Disk_keep_deed (fun _ _ _ _ => False) (vVar 0) (vCons (vTup (vCons (vC (.str ("make" : Str))) (vCons (vVar 1) (vCons (vC .non) vNil)))) vNil)))
theorem sim_Disk_make {K : PySem.W.Frag} {vs_Disk_keep_deed : VSp} {c_Disk : Addr} {vsp : VSp} (hv : ∀ ds m P VX, vsp ds m P VX → ds.length = 2 ∧ v_Disk_make K vs_Disk_keep_deed c_Disk (vends P) (vstart N_Disk_make.length ds) m) :
    ∀ us H Q E, spV K .O vsp us H Q E → t_Disk_make K (spV K .O vs_Disk_keep_deed) c_Disk { nx := fun _ H' => Q .non H', rt := Q } (L2.start N_Disk_make us) H :=
  sim_def (n := 2) (t := .O) (N := N_Disk_make) (Γn := [.F, .F]) (Γb := []) (Γc := []) (ts := fun E => t_Disk_make K (spV K .O vs_Disk_keep_deed) c_Disk) (vs := fun VX => v_Disk_make K vs_Disk_keep_deed c_Disk) (by decide) (fun c W VX hK hx => by
    subst hK
    exact (x_drop (SO.b (s_methO (W := (fun _ _ _ _ => False)) (VW := (fun _ _ _ _ => False)) exOk_no (s_varF (by rfl)) (g_cons (SO.f (s_tup (g_cons (SO.f s_str) (g_cons (s_varF (by rfl)) (g_cons (SO.f s_non) g_nil))))) g_nil))))) hv
def t_Disk_add (K : PySem.W.Frag) (s_Disk_look_file_ : Sp) (s_Disk_keep_deed_ : Sp) (c_Disk : Addr) (E : XK) : TS :=
      (tSeq (tDrop (tMethQ c_Disk ("look_file" : Str) s_Disk_look_file_ (WE (fun c d _ H => E c d H)) (tVar 0) (tCons (tVar 1) tNil)))
      (tDrop (tMethQ c_Disk ("keep_deed" : Str) s_Disk_keep_deed_ (fun _ => E0) (tVar 0) (tCons (tTup (tCons (tC (.str ("add" : Str))) (tCons (tVar 1) (tCons (tCB (rListU K) (tCons (tVar 2) tNil)) tNil)))) tNil))))
abbrev N_Disk_add : List Str := [("self" : Str), ("name" : Str), ("row" : Str)]
def v_Disk_add (K : PySem.W.Frag) (vs_Disk_look_file : VSp) (vs_Disk_keep_deed : VSp) (c_Disk : Addr) (VX : XV) : VS :=
      (vSeqS (vDrop (vMeth c_Disk ("look_file" : Str) vs_Disk_look_file (fun C fs _ m => VX C fs m) (vVar 0) (vCons (vVar 1) vNil)))
      (vDrop (vMeth c_Disk ("keep_deed" : Str) vs_Disk_keep_deed (fun _ _ _ _ => False) (vVar 0) (vCons (vTup (vCons (vC (.str ("add" : Str))) (vCons (vVar 1) (vCons (vCBL vList (vCons (vVar 2) vNil)) vNil)))) vNil))))
theorem sim_Disk_add {K : PySem.W.Frag} {vs_Disk_look_file : VSp} {vs_Disk_keep_deed : VSp} {c_Disk : Addr} {vsp : VSp} (hv : ∀ ds m P VX, vsp ds m P VX → ds.length = 3 ∧ v_Disk_add K vs_Disk_look_file vs_Disk_keep_deed c_Disk VX (vends P) (vstart N_Disk_add.length ds) m) :
    ∀ us H Q E, spV K .O vsp us H Q E → t_Disk_add K (spV K .O vs_Disk_look_file) (spV K .O vs_Disk_keep_deed) c_Disk E { nx := fun _ H' => Q .non H', rt := Q } (L2.start N_Disk_add us) H :=
  sim_def (n := 3) (t := .O) (N := N_Disk_add) (Γn := [.F, .F, .F]) (Γb := []) (Γc := []) (ts := fun E => t_Disk_add K (spV K .O vs_Disk_look_file) (spV K .O vs_Disk_keep_deed) c_Disk E) (vs := fun VX => v_Disk_add K vs_Disk_look_file vs_Disk_keep_deed c_Disk VX) (by decide) (fun c W VX hK hx => by
    subst hK
    exact (x_seq (x_drop (SO.b (s_methO (VW := (fun C fs _ m => VX C fs m)) (hx _) (s_varF (by rfl)) (g_cons (s_varF (by rfl)) g_nil))))
      (x_drop (SO.b (s_methO (W := (fun _ _ _ _ => False)) (VW := (fun _ _ _ _ => False)) exOk_no (s_varF (by rfl)) (g_cons (SO.f (s_tup (g_cons (SO.f s_str) (g_cons (s_varF (by rfl)) (g_cons (SO.f (s_cbL l_list (a_cons (SF.b (s_varF (by rfl))) a_nil))) g_nil))))) g_nil)))))) hv
def t_Disk_cut (K : PySem.W.Frag) (s_Disk_look_file_ : Sp) (s_Disk_keep_deed_ : Sp) (c_Disk : Addr) (E : XK) : TS :=
      (tSeq (tDrop (tMethQ c_Disk ("look_file" : Str) s_Disk_look_file_ (WE (fun c d _ H => E c d H)) (tVar 0) (tCons (tVar 1) tNil)))
      (tDrop (tMethQ c_Disk ("keep_deed" : Str) s_Disk_keep_deed_ (fun _ => E0) (tVar 0) (tCons (tTup (tCons (tC (.str ("cut" : Str))) (tCons (tVar 1) (tCons (tVar 2) tNil)))) tNil))))
abbrev N_Disk_cut : List Str := [("self" : Str), ("name" : Str), ("many" : Str)]
def v_Disk_cut (K : PySem.W.Frag) (vs_Disk_look_file : VSp) (vs_Disk_keep_deed : VSp) (c_Disk : Addr) (VX : XV) : VS :=
      (vSeqS (vDrop (vMeth c_Disk ("look_file" : Str) vs_Disk_look_file (fun C fs _ m => VX C fs m) (vVar 0) (vCons (vVar 1) vNil)))
      (vDrop (vMeth c_Disk ("keep_deed" : Str) vs_Disk_keep_deed (fun _ _ _ _ => False) (vVar 0) (vCons (vTup (vCons (vC (.str ("cut" : Str))) (vCons (vVar 1) (vCons (vVar 2) vNil)))) vNil))))
theorem sim_Disk_cut {K : PySem.W.Frag} {vs_Disk_look_file : VSp} {vs_Disk_keep_deed : VSp} {c_Disk : Addr} {vsp : VSp} (hv : ∀ ds m P VX, vsp ds m P VX → ds.length = 3 ∧ v_Disk_cut K vs_Disk_look_file vs_Disk_keep_deed c_Disk VX (vends P) (vstart N_Disk_cut.length ds) m) :
    ∀ us H Q E, spV K .O vsp us H Q E → t_Disk_cut K (spV K .O vs_Disk_look_file) (spV K .O vs_Disk_keep_deed) c_Disk E { nx := fun _ H' => Q .non H', rt := Q } (L2.start N_Disk_cut us) H :=
  sim_def (n := 3) (t := .O) (N := N_Disk_cut) (Γn := [.F, .F, .F]) (Γb := []) (Γc := []) (ts := fun E => t_Disk_cut K (spV K .O vs_Disk_look_file) (spV K .O vs_Disk_keep_deed) c_Disk E) (vs := fun VX => v_Disk_cut K vs_Disk_look_file vs_Disk_keep_deed c_Disk VX) (by decide) (fun c W VX hK hx => by
    subst hK
    exact (x_seq (x_drop (SO.b (s_methO (VW := (fun C fs _ m => VX C fs m)) (hx _) (s_varF (by rfl)) (g_cons (s_varF (by rfl)) g_nil))))
      (x_drop (SO.b (s_methO (W := (fun _ _ _ _ => False)) (VW := (fun _ _ _ _ => False)) exOk_no (s_varF (by rfl)) (g_cons (SO.f (s_tup (g_cons (SO.f s_str) (g_cons (s_varF (by rfl)) (g_cons (s_varF (by rfl)) g_nil))))) g_nil)))))) hv
def t_Disk_drop (K : PySem.W.Frag) (s_Disk_look_file_ : Sp) (s_Disk_keep_deed_ : Sp) (c_Disk : Addr) (E : XK) : TS :=
      (tSeq (tDrop (tMethQ c_Disk ("look_file" : Str) s_Disk_look_file_ (WE (fun c d _ H => E c d H)) (tVar 0) (tCons (tVar 1) tNil)))
      (tDrop (tMethQ c_Disk ("keep_deed" : Str) s_Disk_keep_deed_ (fun _ => E0) (tVar 0) (tCons (tTup (tCons (tC (.str ("drop" : Str))) (tCons (tVar 1) (tCons (tC .non) tNil)))) tNil))))
abbrev N_Disk_drop : List Str := [("self" : Str), ("name" : Str)]
def v_Disk_drop (K : PySem.W.Frag) (vs_Disk_look_file : VSp) (vs_Disk_keep_deed : VSp) (c_Disk : Addr) (VX : XV) : VS :=
      (vSeqS (vDrop (vMeth c_Disk ("look_file" : Str) vs_Disk_look_file (fun C fs _ m => VX C fs m) (vVar 0) (vCons (vVar 1) vNil)))
      (vDrop (vMeth c_Disk ("keep_deed" : Str) vs_Disk_keep_deed (fun _ _ _ _ => False) (vVar 0) (vCons (vTup (vCons (vC (.str ("drop" : Str))) (vCons (vVar 1) (vCons (vC .non) vNil)))) vNil))))
theorem sim_Disk_drop {K : PySem.W.Frag} {vs_Disk_look_file : VSp} {vs_Disk_keep_deed : VSp} {c_Disk : Addr} {vsp : VSp} (hv : ∀ ds m P VX, vsp ds m P VX → ds.length = 2 ∧ v_Disk_drop K vs_Disk_look_file vs_Disk_keep_deed c_Disk VX (vends P) (vstart N_Disk_drop.length ds) m) :
    ∀ us H Q E, spV K .O vsp us H Q E → t_Disk_drop K (spV K .O vs_Disk_look_file) (spV K .O vs_Disk_keep_deed) c_Disk E { nx := fun _ H' => Q .non H', rt := Q } (L2.start N_Disk_drop us) H :=
  sim_def (n := 2) (t := .O) (N := N_Disk_drop) (Γn := [.F, .F]) (Γb := []) (Γc := []) (ts := fun E => t_Disk_drop K (spV K .O vs_Disk_look_file) (spV K .O vs_Disk_keep_deed) c_Disk E) (vs := fun VX => v_Disk_drop K vs_Disk_look_file vs_Disk_keep_deed c_Disk VX) (by decide) (fun c W VX hK hx => by
    subst hK
    exact (x_seq (x_drop (SO.b (s_methO (VW := (fun C fs _ m => VX C fs m)) (hx _) (s_varF (by rfl)) (g_cons (s_varF (by rfl)) g_nil))))
      (x_drop (SO.b (s_methO (W := (fun _ _ _ _ => False)) (VW := (fun _ _ _ _ => False)) exOk_no (s_varF (by rfl)) (g_cons (SO.f (s_tup (g_cons (SO.f s_str) (g_cons (s_varF (by rfl)) (g_cons (SO.f s_non) g_nil))))) g_nil)))))) hv
def t_Disk_read (K : PySem.W.Frag) (s_Disk_look_file_ : Sp) (c_Disk : Addr) (E : XK) : TS :=
      (tSeq (tDrop (tMethQ c_Disk ("look_file" : Str) s_Disk_look_file_ (WE (fun c d _ H => E c d H)) (tVar 0) (tCons (tVar 1) tNil)))
      (tRet (tCB (rListU K) (tCons (tOp (rIxU K) (tFld K (tVar 0) ("own_files" : Str)) (tVar 1)) tNil))))
abbrev N_Disk_read : List Str := [("self" : Str), ("name" : Str)]
def v_Disk_read (K : PySem.W.Frag) (vs_Disk_look_file : VSp) (c_Disk : Addr) (VX : XV) : VS :=
      (vSeqS (vDrop (vMeth c_Disk ("look_file" : Str) vs_Disk_look_file (fun C fs _ m => VX C fs m) (vVar 0) (vCons (vVar 1) vNil)))
      (vRet (vCBL vList (vCons (vOpL vIx (vFld c_Disk ("own_files" : Str) (vVar 0)) (vVar 1)) vNil))))
theorem sim_Disk_read {K : PySem.W.Frag} {vs_Disk_look_file : VSp} {c_Disk : Addr} (kx_Disk : ClsK K c_Disk [("own_files" : Str), ("own_log" : Str), ("so_many" : Str)]) {vsp : VSp} (hv : ∀ ds m P VX, vsp ds m P VX → ds.length = 2 ∧ v_Disk_read K vs_Disk_look_file c_Disk VX (vends P) (vstart N_Disk_read.length ds) m) :
    ∀ us H Q E, spV K .O vsp us H Q E → t_Disk_read K (spV K .O vs_Disk_look_file) c_Disk E { nx := fun _ H' => Q .non H', rt := Q } (L2.start N_Disk_read us) H :=
  sim_def (n := 2) (t := .O) (N := N_Disk_read) (Γn := [.F, .F]) (Γb := []) (Γc := []) (ts := fun E => t_Disk_read K (spV K .O vs_Disk_look_file) c_Disk E) (vs := fun VX => v_Disk_read K vs_Disk_look_file c_Disk VX) (by decide) (fun c W VX hK hx => by
    subst hK
    exact (x_seq (x_drop (SO.b (s_methO (VW := (fun C fs _ m => VX C fs m)) (hx _) (s_varF (by rfl)) (g_cons (s_varF (by rfl)) g_nil))))
      (x_retO (s_cbL l_list (a_cons (SF.b (s_opFL o_ix (SF.b (s_fld kx_Disk (by decide) (s_varF (by rfl)))) (SF.b (s_varF (by rfl))))) a_nil))))) hv
def t_Disk_names (K : PySem.W.Frag) : TS :=
      (tRet (tCB (rSortIT K) (tCons (tCB (rListU K) (tCons (tFld K (tVar 0) ("own_files" : Str)) tNil)) tNil)))
abbrev N_Disk_names : List Str := [("self" : Str)]
def v_Disk_names (K : PySem.W.Frag) (c_Disk : Addr) : VS :=
      (vRet (vCB vSorted (vCons (vCBL vList (vCons (vFld c_Disk ("own_files" : Str) (vVar 0)) vNil)) vNil)))
theorem sim_Disk_names {K : PySem.W.Frag} {c_Disk : Addr} (kx_Disk : ClsK K c_Disk [("own_files" : Str), ("own_log" : Str), ("so_many" : Str)]) {vsp : VSp} (hv : ∀ ds m P VX, vsp ds m P VX → ds.length = 1 ∧ v_Disk_names K c_Disk (vends P) (vstart N_Disk_names.length ds) m) :
    ∀ us H Q E, spV K .O vsp us H Q E → t_Disk_names K { nx := fun _ H' => Q .non H', rt := Q } (L2.start N_Disk_names us) H :=
  sim_def (n := 1) (t := .O) (N := N_Disk_names) (Γn := [.F]) (Γb := []) (Γc := []) (ts := fun E => t_Disk_names K) (vs := fun VX => v_Disk_names K c_Disk) (by decide) (fun c W VX hK hx => by
    subst hK
    exact (x_retO (s_cb l_sorted (a_cons (SO.b (s_cbL l_list (a_cons (SF.b (s_fld kx_Disk (by decide) (s_varF (by rfl)))) a_nil))) a_nil)))) hv
def t_Disk_steps (K : PySem.W.Frag) : TS :=
      (tRet (tFld K (tVar 0) ("so_many" : Str)))
abbrev N_Disk_steps : List Str := [("self" : Str)]
def v_Disk_steps (K : PySem.W.Frag) (c_Disk : Addr) : VS :=
      (vRet (vFld c_Disk ("so_many" : Str) (vVar 0)))
theorem sim_Disk_steps {K : PySem.W.Frag} {c_Disk : Addr} (kx_Disk : ClsK K c_Disk [("own_files" : Str), ("own_log" : Str), ("so_many" : Str)]) {vsp : VSp} (hv : ∀ ds m P VX, vsp ds m P VX → ds.length = 1 ∧ v_Disk_steps K c_Disk (vends P) (vstart N_Disk_steps.length ds) m) :
    ∀ us H Q E, spV K .F vsp us H Q E → t_Disk_steps K { nx := fun _ H' => Q .non H', rt := Q } (L2.start N_Disk_steps us) H :=
  sim_def (n := 1) (t := .F) (N := N_Disk_steps) (Γn := [.F]) (Γb := []) (Γc := []) (ts := fun E => t_Disk_steps K) (vs := fun VX => v_Disk_steps K c_Disk) (by decide) (fun c W VX hK hx => by
    subst hK
    exact (x_retF (s_fld kx_Disk (by decide) (s_varF (by rfl))))) hv
inductive DkD where
  | mk (n : Str)
  | ad (n : Str) (bs : List D)
  | ct (n : Str) (k : Nat)
  | dr (n : Str)
def DkD.nm : DkD → Str
  | .mk n => n
  | .ad n _ => n
  | .ct n _ => n
  | .dr n => n
def DkD.d : DkD → D
  | .mk n => .tup [.str "make", .str n, .non]
  | .ad n bs => .tup [.str "add", .str n, .lst bs]
  | .ct n k => .tup [.str "cut", .str n, .int (k : Int)]
  | .dr n => .tup [.str "drop", .str n, .non]
def DkD.steps : DkD → Nat
  | .ad _ bs => bs.length
  | _ => 1
def DkD.on : DkD → List (Str × List D) → List (Str × List D)
  | .mk n, G => nput G n []
  | .ad n bs, G => nput G n ((nget G n).getD [] ++ bs)
  | .ct n k, G => nput G n (cutD ((nget G n).getD []) none (some (k : Int)))
  | .dr n, G => ndrop G n
def DkD.fits (q : DkD) (G : List (Str × List D)) : Prop := match q with
  | .mk _ => True
  | q => ∃ bs, nget G q.nm = some bs
theorem nput_same {l : List (Str × List D)} (h : (l.map (·.1)).Nodup) {n : Str} {v : List D} (e : nget l n = some v) : nput l n v = l := by
  have hm := nget_some_mem e
  unfold nput
  rw [if_pos (nany_iff.mpr (List.mem_map_of_mem (f := (·.1)) hm))]
  refine (List.map_congr_left fun p hp => ?_).trans (List.map_id l)
  show (if p.1 = n then _ else _) = p
  split
  · rename_i c
    have := nget_mem h (n := p.1) (v := p.2) hp
    rw [c, e] at this
    rw [Option.some.inj this]
  · rfl
theorem flat_nodup {F : List FRow} (h : (F.map (·.1)).Nodup) : ((flatF F).map (·.1)).Nodup := by
  unfold flatF nmap; rw [List.map_map]; exact h
structure DiskAt (s : Sto) (C x y z : Addr) (F : List FRow) (E : List DkD) (n : Nat) : Prop where
  ob : s x = some (.obj C [("own_files", .adr y), ("own_log", .adr z), ("so_many", .int (n : Int))])
  fl : FilesAt s y F
  lg : s z = some (.lst (E.map DkD.d))
  nd : (x :: z :: y :: F.map (·.2.1)).Nodup
structure DkFr (s s' : Sto) (ps : List Addr) (F F' : List FRow) : Prop where
  fr : ∀ b, s b ≠ none → b ∉ ps → b ∉ F.map (·.2.1) → s' b = s b
  nw : ∀ b ∈ F'.map (·.2.1), b ∈ F.map (·.2.1) ∨ s b = none
def keepE (q : DkD) (E : List DkD) : List DkD := if q.steps = 0 then E else E ++ [q]
structure DkB (F : List FRow) (E : List DkD) (q : DkD) : Prop where
  lF : F.length ≤ 1000
  lE : E.length ≤ 100000
  lb : ∀ p ∈ flatF F, p.2.length ≤ 1000000
  lq : q.steps ≤ 1000000
theorem DiskAt.ne {s : Sto} {C x y z : Addr} {F : List FRow} {E : List DkD} {n : Nat} (h : DiskAt s C x y z F E n) : x ≠ z ∧ x ≠ y ∧ z ≠ y ∧ (∀ a ∈ F.map (·.2.1), a ≠ x) ∧ (∀ a ∈ F.map (·.2.1), a ≠ z) ∧ ∀ a ∈ F.map (·.2.1), a ≠ y := by
  have h1 := List.nodup_cons.mp h.nd
  have h2 := List.nodup_cons.mp h1.2
  have h3 := List.nodup_cons.mp h2.2
  exact ⟨fun e => h1.1 (by rw [e]; simp), fun e => h1.1 (by rw [e]; simp), fun e => h2.1 (by rw [e]; simp), fun a ha e => h1.1 (by rw [← e]; exact List.mem_cons_of_mem _ (List.mem_cons_of_mem _ ha)), fun a ha e => h2.1 (by rw [← e]; exact List.mem_cons_of_mem _ ha), fun a ha e => h3.1 (by rw [← e]; exact ha)⟩
theorem DiskAt.som {s : Sto} {C x y z : Addr} {F : List FRow} {E : List DkD} {n : Nat} (h : DiskAt s C x y z F E n) : ∀ a ∈ x :: z :: y :: F.map (·.2.1), s a ≠ none := by
  intro a ha e
  simp only [List.mem_cons] at ha
  rcases ha with rfl | rfl | ha
  · rw [h.ob] at e; cases e
  · rw [h.lg] at e; cases e
  · exact h.fl.som a (List.mem_cons.mpr ha) e
theorem DiskAt.agree {s s' : Sto} {C x y z : Addr} {F : List FRow} {E : List DkD} {n : Nat} (h : DiskAt s C x y z F E n) (e : ∀ a ∈ x :: z :: y :: F.map (·.2.1), s' a = s a) : DiskAt s' C x y z F E n :=
  ⟨by rw [e x (by simp)]; exact h.ob, h.fl.agree fun a ha => e a (List.mem_cons_of_mem _ (List.mem_cons_of_mem _ ha)), by rw [e z (by simp)]; exact h.lg, h.nd⟩
def wDeedSteps : VSp := fun ds m P _ => ∃ q : DkD, ds = [q.d] ∧ P (.int (q.steps : Nat)) m
theorem p_deed_steps {K : PySem.W.Frag} (ds : List D) (m : Mst) (P : D → Mst → Prop) (VX : XV) (h : wDeedSteps ds m P VX) : ds.length = 1 ∧ v_deed_steps K (vends P) (vstart N_deed_steps.length ds) m := by
  obtain ⟨q, rfl, hP⟩ := h
  refine ⟨rfl, ?_⟩
  unfold v_deed_steps
  cases q with
  | mk n =>
    unfold DkD.d
    walk_at "vw"
    refine e_ixT (x := .str "make") (atI_nat (j := 0) rfl) ?_
    walk_at "vw"
    exact hP
  | ad n bs =>
    unfold DkD.d
    walk_at "vw"
    refine e_ixT (x := .str "add") (atI_nat (j := 0) rfl) ?_
    walk_at "vw"
    refine e_ixT (x := .lst bs) (atI_nat (j := 2) rfl) ?_
    walk_at "vw"
    exact hP
  | ct n k =>
    unfold DkD.d
    walk_at "vw"
    refine e_ixT (x := .str "cut") (atI_nat (j := 0) rfl) ?_
    walk_at "vw"
    exact hP
  | dr n =>
    unfold DkD.d
    walk_at "vw"
    refine e_ixT (x := .str "drop") (atI_nat (j := 0) rfl) ?_
    walk_at "vw"
    exact hP
def wDoneWith : VSp := fun ds m P _ => ∃ (y : Addr) (F : List FRow) (E : List DkD) (q : DkD), ds = [.adr y, q.d] ∧ FilesAt m.2 y F ∧ q.fits (flatF F) ∧ DkB F E q ∧ ∀ F' s', flatF F' = q.on (flatF F) → FilesAt s' y F' → DkFr m.2 s' [y] F F' → P .non (m.1, s')
theorem p_done_with {K : PySem.W.Frag} (ds : List D) (m : Mst) (P : D → Mst → Prop) (VX : XV) (h : wDoneWith ds m P VX) : ds.length = 2 ∧ v_done_with K (vends P) (vstart N_done_with.length ds) m := by
  obtain ⟨y, F, E, q, rfl, hf, hq, hB, hP⟩ := h
  obtain ⟨q0, s0⟩ := m
  refine ⟨rfl, ?_⟩
  dsimp only at hf hP
  unfold v_done_with
  have hFl := hB.lF
  have new : ∀ (n : Str) (bs : List D) (a : Addr), s0 a = none → flatF (nput F n (a, bs)) = q.on (flatF F) → P .non (q0, sput (sput s0 a (.lst bs)) y (.dic (dput (fkD F) (.inr n) (.adr a)))) := fun n bs a ha e => by
    refine hP _ _ e (hf.put n bs ha) ⟨fun b h1 h2 h3 => ?_, fun b hb => ?_⟩
    · exact (sput_ne fun e => h2 (by rw [e]; exact List.mem_singleton.mpr rfl)).trans (sput_ne fun e => h1 (by rw [e]; exact ha))
    · obtain ⟨p, hp, rfl⟩ := List.mem_map.mp hb
      rcases nput_mem hp with rfl | ⟨hp, _⟩
      · exact .inr ha
      · exact .inl (List.mem_map_of_mem (f := fun q : FRow => q.2.1) hp)
  cases q with
  | mk n =>
    unfold DkD.d
    walk_at "vw"
    intro a ha
    dsimp only at ha
    have nya : y ≠ a := fun e => hf.som a (by rw [← e]; exact List.mem_cons_self) ha
    walk_at "vw"
    refine ⟨y, rfl, ?_⟩
    walk_at "vw"
    refine e_putSD (k := .inr n) (kds := fkD F) ?_ rfl (by rw [nkD_len]; omega) ?_
    · exact (sput_ne nya).trans hf.dc
    walk_at "vw"
    exact new n [] a ha (flatF_put F n a [])
  | ad n bs =>
    obtain ⟨b0, hb0⟩ := hq
    obtain ⟨a, h1, h2, h3, h4⟩ := hf.get (n := n) hb0
    unfold DkD.d
    walk_at "vw"
    show vIx (lookS s0 y) (.str n) _
    rw [lookS_dic hf.dc]
    refine ⟨.inr n, _, rfl, h2, ?_⟩
    refine ⟨a, b0, rfl, h3, ?_⟩
    walk_at "vw"
    refine ⟨b0, h3, ?_⟩
    have hl0 : b0.length ≤ 1000000 := hB.lb _ (nget_some_mem hb0)
    have hlq : bs.length ≤ 1000000 := hB.lq
    refine e_extL (by omega) ?_
    walk_at "vw"
    obtain ⟨g1, g2, g3⟩ := hf.set (b0 ++ bs) h1
    refine hP _ _ ?_ g1 ⟨fun b e1 e2 e3 => sput_ne fun e => e3 (by rw [e]; exact h4), fun b hb => .inl (by rw [g3] at hb; exact hb)⟩
    rw [g2]
    show _ = nput _ n ((nget (flatF F) n).getD [] ++ bs)
    rw [show nget (flatF F) n = some b0 from hb0]; rfl
  | ct n k =>
    obtain ⟨b0, hb0⟩ := hq
    obtain ⟨a, h1, h2, h3, h4⟩ := hf.get (n := n) hb0
    unfold DkD.d
    walk_at "vw"
    show vIx (lookS s0 y) (.str n) _
    rw [lookS_dic hf.dc]
    refine ⟨.inr n, _, rfl, h2, ?_⟩
    walk_at "vw"
    show vCut (lookS s0 a) _ _ _
    rw [lookS_lst h3]
    walk_at "vw"
    intro c hc
    dsimp only at hc
    have nyc : y ≠ c := fun e => hf.som c (by rw [← e]; exact List.mem_cons_self) hc
    walk_at "vw"
    refine ⟨y, rfl, ?_⟩
    walk_at "vw"
    refine e_putSD (k := .inr n) (kds := fkD F) ?_ rfl (by rw [nkD_len]; omega) ?_
    · exact (sput_ne nyc).trans hf.dc
    walk_at "vw"
    refine new n _ c hc ((flatF_put F n c _).trans ?_)
    show _ = nput _ n (cutD ((nget (flatF F) n).getD []) none (some (k : Int)))
    rw [show nget (flatF F) n = some b0 from hb0]; rfl
  | dr n =>
    obtain ⟨b0, hb0⟩ := hq
    obtain ⟨a, h1, h2, h3, h4⟩ := hf.get (n := n) hb0
    unfold DkD.d
    walk_at "vw"
    refine ⟨y, _, rfl, hf.dc, ?_⟩
    walk_at "vw"
    refine ⟨_, .inr n, _, hf.dc, rfl, h2, ?_⟩
    walk_at "vw"
    refine hP _ _ (flatF_drop F n) (hf.dropped n) ⟨fun b e1 e2 e3 => sput_ne fun e => e2 (by rw [e]; exact List.mem_singleton.mpr rfl), fun b hb => .inl (((ndrop_sub F n).map _).subset hb)⟩
theorem e_listDk {kds : List (Key × D)} {Z : D → Prop} (h : Z (.lst (kds.map fun kv => kD kv.1))) : vList [.dic kds] Z := h
def wDkInit (C : Addr) : VSp := fun ds m P _ => ∃ x, ds = [.adr x] ∧ m.2 x = some (.obj C []) ∧ ∀ y z s', m.2 y = none → m.2 z = none → DiskAt s' C x y z [] [] 0 → (∀ b, m.2 b ≠ none → b ≠ x → s' b = m.2 b) → P .non (m.1, s')
theorem p_Disk_init {K : PySem.W.Frag} {C : Addr} (ds : List D) (m : Mst) (P : D → Mst → Prop) (VX : XV) (h : wDkInit C ds m P VX) : ds.length = 1 ∧ v_Disk_init K C (vends P) (vstart N_Disk_init.length ds) m := by
  obtain ⟨x, rfl, hx, hP⟩ := h
  obtain ⟨q0, s0⟩ := m
  refine ⟨rfl, ?_⟩
  dsimp only at hx hP
  unfold v_Disk_init
  walk_at "vw"
  intro y hy
  dsimp only at hy
  have nxy : x ≠ y := ne_of_at hx hy
  walk_at "vw"
  refine e_setFA ((sput_ne nxy).trans hx) rfl ?_
  walk_at "vw"
  intro z hz
  dsimp only at hz
  have nxz : x ≠ z := ne_of_at sput_same hz
  rw [sput_ne nxz.symm] at hz
  have nyz : y ≠ z := ne_of_at sput_same hz
  rw [sput_ne nyz.symm] at hz
  walk_at "vw"
  refine e_setFA ((sput_ne nxz).trans sput_same) rfl ?_
  walk_at "vw"
  refine e_setFA sput_same rfl ?_
  rw [sput_sput]
  dsimp only
  refine hP y z _ hy hz ⟨sput_same, ⟨?_, (fun r hr => nomatch hr), by simp, by simp⟩, ?_, by simp [nxz, nxy, Ne.symm nyz]⟩ fun b hb hx => ?_
  · rw [sput_ne nxy.symm, sput_ne nyz, sput_ne nxy.symm, sput_same]; rfl
  · rw [sput_ne nxz.symm, sput_same]; rfl
  · rw [sput_ne hx, sput_ne fun e => hb (by rw [e]; exact hz), sput_ne hx, sput_ne fun e => hb (by rw [e]; exact hy)]
def DkK (C : Addr) (m : Mst) (P : D → Mst → Prop) (x y z : Addr) (F : List FRow) (E : List DkD) (n : Nat) (q : DkD) : Prop :=
  ∀ F' s', flatF F' = q.on (flatF F) → DiskAt s' C x y z F' (keepE q E) (n + q.steps) → DkFr m.2 s' [x, z, y] F F' → P .non (m.1, s')
def wKeepDeed (C : Addr) : VSp := fun ds m P _ => ∃ (x y z : Addr) (F : List FRow) (E : List DkD) (n : Nat) (q : DkD), ds = [.adr x, q.d] ∧ DiskAt m.2 C x y z F E n ∧ q.fits (flatF F) ∧ DkB F E q ∧ DkK C m P x y z F E n q
theorem p_Disk_keep_deed {K : PySem.W.Frag} {C : Addr} (ds : List D) (m : Mst) (P : D → Mst → Prop) (VX : XV) (h : wKeepDeed C ds m P VX) : ds.length = 2 ∧ v_Disk_keep_deed K wDeedSteps wDoneWith C (vends P) (vstart N_Disk_keep_deed.length ds) m := by
  obtain ⟨x, y, z, F, E, n, q, rfl, hd, hq, hB, hP⟩ := h
  obtain ⟨q0, s0⟩ := m
  refine ⟨rfl, ?_⟩
  unfold DkK at hP
  dsimp only at hd hP
  obtain ⟨nxz, nxy, nzy, nLx, nLz, nLy⟩ := hd.ne
  unfold v_Disk_keep_deed
  walk_at "vw"
  refine ⟨q, rfl, ?_⟩
  walk_at "vw"
  refine w_ifd (fun c => ?_) (fun c => ?_)
  · walk_at "vw"
    refine ⟨x, _, _, rfl, hd.ob, rfl, ?_⟩
    walk_at "vw"
    refine ⟨y, F, E, q, rfl, hd.fl, hq, hB, fun F' s1 e1 hf1 hfr => ?_⟩
    have out : ∀ b, b ≠ y → b ∉ F.map (·.2.1) → s0 b ≠ none → s1 b = s0 b := fun b h1 h2 h3 => hfr.fr b h3 (by simpa using h1) h2
    have ex : s1 x = _ := (out x nxy (fun h => nLx x h rfl) (by rw [hd.ob]; exact fun h => nomatch h)).trans hd.ob
    have ez : s1 z = _ := (out z nzy (fun h => nLz z h rfl) (by rw [hd.lg]; exact fun h => nomatch h)).trans hd.lg
    have nF' : ∀ a ∈ F'.map (·.2.1), a ≠ x ∧ a ≠ z := fun a ha => by
      rcases hfr.nw a ha with h | h
      · exact ⟨nLx a h, nLz a h⟩
      · exact ⟨fun e => (by dsimp only at h; rw [e, hd.ob] at h; cases h), fun e => (by dsimp only at h; rw [e, hd.lg] at h; cases h)⟩
    walk_at "vw"
    refine ⟨x, _, _, rfl, ex, rfl, ?_⟩
    refine ⟨z, _, rfl, ez, ?_⟩
    walk_at "vw"
    refine ⟨_, ez, sz_lt (by rw [List.length_map]; have := hB.lE; omega), ?_⟩
    walk_at "vw"
    refine ⟨x, _, _, rfl, (sput_ne nxz).trans ex, rfl, ?_⟩
    walk_at "vw"
    refine ⟨q, rfl, ?_⟩
    walk_at "vw"
    refine e_setFA ((sput_ne nxz).trans ex) rfl ?_
    walk_at "vw"
    refine hP F' _ e1 ⟨?_, hf1.agree fun a ha => ?_, ?_, ?_⟩ ⟨fun b h1 h2 h3 => ?_, hfr.nw⟩
    · rw [sput_same]
      show some (D.obj C [_, _, ("so_many", .int ((n : Int) + (q.steps : Nat)))]) = _
      rw [← Int.natCast_add]
    · rcases List.mem_cons.mp ha with rfl | ha
      · exact (sput_ne nxy.symm).trans (sput_ne nzy.symm)
      · exact (sput_ne (nF' a ha).1).trans (sput_ne (nF' a ha).2)
    · refine (sput_ne nxz.symm).trans (sput_same.trans ?_)
      unfold keepE
      rw [if_neg (by omega), List.map_append]; rfl
    · have h4 := List.nodup_cons.mp hf1.nd
      refine List.nodup_cons.mpr ⟨fun h => ?_, List.nodup_cons.mpr ⟨fun h => ?_, hf1.nd⟩⟩
      · simp only [List.mem_cons] at h
        rcases h with h | h | h
        · exact nxz h
        · exact nxy h
        · exact (nF' x h).1 rfl
      · simp only [List.mem_cons] at h
        rcases h with h | h
        · exact nzy h
        · exact (nF' z h).2 rfl
    · simp only [List.mem_cons, List.not_mem_nil, or_false, not_or] at h2
      exact (sput_ne h2.1).trans ((sput_ne h2.2.1).trans (out b h2.2.2 h3 h1))
  · walk_at "vw"
    have hz : q.steps = 0 := by omega
    have hk : keepE q E = E := by unfold keepE; rw [if_pos hz]
    refine hP F s0 ?_ (by rw [hk, hz]; exact hd) ⟨fun b _ _ _ => rfl, fun b hb => .inl hb⟩
    cases q with
    | ad nm bs =>
      obtain ⟨b0, hb0⟩ := hq
      obtain rfl : bs = [] := List.length_eq_zero_iff.mp hz
      show flatF F = nput (flatF F) nm ((nget (flatF F) nm).getD [] ++ [])
      rw [show nget (flatF F) nm = some b0 from hb0]
      exact (nput_same (flat_nodup hd.fl.nk) (by rw [List.append_nil]; exact hb0)).symm
    | _ => exact absurd hz (by simp [DkD.steps])
def wLookFile (C N : Addr) : VSp := fun ds m P VX => ∃ (x y z : Addr) (F : List FRow) (E : List DkD) (n : Nat) (nm : Str), ds = [.adr x, .str nm] ∧ DiskAt m.2 C x y z F E n ∧ ((nget (flatF F) nm ≠ none ∧ P .non m) ∨ (nget (flatF F) nm = none ∧ VX N [] m))
theorem p_Disk_look_file {K : PySem.W.Frag} {C N : Addr} (ds : List D) (m : Mst) (P : D → Mst → Prop) (VX : XV) (h : wLookFile C N ds m P VX) : ds.length = 2 ∧ v_Disk_look_file K C N VX (vends P) (vstart N_Disk_look_file.length ds) m := by
  obtain ⟨x, y, z, F, E, n, nm, rfl, hd, hP⟩ := h
  obtain ⟨q0, s0⟩ := m
  refine ⟨rfl, ?_⟩
  dsimp only at hd hP
  unfold v_Disk_look_file
  walk_at "vw"
  refine ⟨x, _, _, rfl, hd.ob, rfl, ?_⟩
  walk_at "vw"
  show vIn true (.str nm) (lookS s0 y) _
  rw [lookS_dic hd.fl.dc]
  refine ⟨.inr nm, rfl, ?_⟩
  rcases hP with ⟨h1, hP⟩ | ⟨h1, hX⟩
  · obtain ⟨bs, h1⟩ := Option.ne_none_iff_exists'.mp h1
    obtain ⟨a, _, h2, _⟩ := hd.fl.get h1
    rw [h2]
    refine ⟨false, rfl, ?_⟩
    rw [if_neg Bool.false_ne_true]
    exact hP
  · rw [FilesAt.no h1]
    refine ⟨true, rfl, ?_⟩
    rw [if_pos rfl]
    exact hX
def DkA (C N : Addr) (m : Mst) (P : D → Mst → Prop) (VX : XV) (x y z : Addr) (F : List FRow) (E : List DkD) (n : Nat) (q : DkD) : Prop :=
  ((∃ bs, nget (flatF F) q.nm = some bs) ∧ DkB F E q ∧ DkK C m P x y z F E n q) ∨ (nget (flatF F) q.nm = none ∧ VX N [] m)
def wDkMake (C : Addr) : VSp := fun ds m P _ => ∃ (x y z : Addr) (F : List FRow) (E : List DkD) (n : Nat) (nm : Str), ds = [.adr x, .str nm] ∧ DiskAt m.2 C x y z F E n ∧ DkB F E (.mk nm) ∧ DkK C m P x y z F E n (.mk nm)
theorem p_Disk_make {K : PySem.W.Frag} {C : Addr} (ds : List D) (m : Mst) (P : D → Mst → Prop) (VX : XV) (h : wDkMake C ds m P VX) : ds.length = 2 ∧ v_Disk_make K (wKeepDeed C) C (vends P) (vstart N_Disk_make.length ds) m := by
  obtain ⟨x, y, z, F, E, n, nm, rfl, hd, hB, hP⟩ := h
  refine ⟨rfl, ?_⟩
  unfold v_Disk_make
  walk_at "vw"
  refine ⟨x, _, rfl, hd.ob, by kernel_rfl, ?_⟩
  walk_at "vw"
  exact ⟨x, y, z, F, E, n, .mk nm, rfl, hd, True.intro, hB, hP⟩
def wDkAdd (C N : Addr) : VSp := fun ds m P VX => ∃ (x y z : Addr) (F : List FRow) (E : List DkD) (n : Nat) (nm : Str) (row : D) (bs : List D), ds = [.adr x, .str nm, row] ∧ look m.2 row = .lst bs ∧ DiskAt m.2 C x y z F E n ∧ DkA C N m P VX x y z F E n (.ad nm bs)
theorem p_Disk_add {K : PySem.W.Frag} {C N : Addr} (ds : List D) (m : Mst) (P : D → Mst → Prop) (VX : XV) (h : wDkAdd C N ds m P VX) : ds.length = 3 ∧ v_Disk_add K (wLookFile C N) (wKeepDeed C) C VX (vends P) (vstart N_Disk_add.length ds) m := by
  obtain ⟨x, y, z, F, E, n, nm, row, bs, rfl, hrow, hd, hP⟩ := h
  refine ⟨rfl, ?_⟩
  unfold v_Disk_add
  walk_at "vw"
  refine ⟨x, _, rfl, hd.ob, by kernel_rfl, ?_⟩
  walk_at "vw"
  refine ⟨x, y, z, F, E, n, nm, rfl, hd, ?_⟩
  rcases hP with ⟨⟨b0, h1⟩, hB, hP⟩ | ⟨h1, hX⟩
  · refine .inl ⟨by rw [show nget (flatF F) nm = some b0 from h1]; simp, ?_⟩
    walk_at "vw"
    refine ⟨x, _, rfl, hd.ob, by kernel_rfl, ?_⟩
    walk_at "vw"
    show vList [look m.2 row] _
    rw [hrow]
    walk_at "vw"
    exact ⟨x, y, z, F, E, n, .ad nm bs, rfl, hd, ⟨b0, h1⟩, hB, hP⟩
  · exact .inr ⟨h1, hX⟩
def wDkCut (C N : Addr) : VSp := fun ds m P VX => ∃ (x y z : Addr) (F : List FRow) (E : List DkD) (n : Nat) (nm : Str) (k : Nat), ds = [.adr x, .str nm, .int (k : Int)] ∧ DiskAt m.2 C x y z F E n ∧ DkA C N m P VX x y z F E n (.ct nm k)
theorem p_Disk_cut {K : PySem.W.Frag} {C N : Addr} (ds : List D) (m : Mst) (P : D → Mst → Prop) (VX : XV) (h : wDkCut C N ds m P VX) : ds.length = 3 ∧ v_Disk_cut K (wLookFile C N) (wKeepDeed C) C VX (vends P) (vstart N_Disk_cut.length ds) m := by
  obtain ⟨x, y, z, F, E, n, nm, k, rfl, hd, hP⟩ := h
  refine ⟨rfl, ?_⟩
  unfold v_Disk_cut
  walk_at "vw"
  refine ⟨x, _, rfl, hd.ob, by kernel_rfl, ?_⟩
  walk_at "vw"
  refine ⟨x, y, z, F, E, n, nm, rfl, hd, ?_⟩
  rcases hP with ⟨⟨b0, h1⟩, hB, hP⟩ | ⟨h1, hX⟩
  · refine .inl ⟨by rw [show nget (flatF F) nm = some b0 from h1]; simp, ?_⟩
    walk_at "vw"
    refine ⟨x, _, rfl, hd.ob, by kernel_rfl, ?_⟩
    walk_at "vw"
    exact ⟨x, y, z, F, E, n, .ct nm k, rfl, hd, ⟨b0, h1⟩, hB, hP⟩
  · exact .inr ⟨h1, hX⟩
def wDkDrop (C N : Addr) : VSp := fun ds m P VX => ∃ (x y z : Addr) (F : List FRow) (E : List DkD) (n : Nat) (nm : Str), ds = [.adr x, .str nm] ∧ DiskAt m.2 C x y z F E n ∧ DkA C N m P VX x y z F E n (.dr nm)
theorem p_Disk_drop {K : PySem.W.Frag} {C N : Addr} (ds : List D) (m : Mst) (P : D → Mst → Prop) (VX : XV) (h : wDkDrop C N ds m P VX) : ds.length = 2 ∧ v_Disk_drop K (wLookFile C N) (wKeepDeed C) C VX (vends P) (vstart N_Disk_drop.length ds) m := by
  obtain ⟨x, y, z, F, E, n, nm, rfl, hd, hP⟩ := h
  refine ⟨rfl, ?_⟩
  unfold v_Disk_drop
  walk_at "vw"
  refine ⟨x, _, rfl, hd.ob, by kernel_rfl, ?_⟩
  walk_at "vw"
  refine ⟨x, y, z, F, E, n, nm, rfl, hd, ?_⟩
  rcases hP with ⟨⟨b0, h1⟩, hB, hP⟩ | ⟨h1, hX⟩
  · refine .inl ⟨by rw [show nget (flatF F) nm = some b0 from h1]; simp, ?_⟩
    walk_at "vw"
    refine ⟨x, _, rfl, hd.ob, by kernel_rfl, ?_⟩
    walk_at "vw"
    exact ⟨x, y, z, F, E, n, .dr nm, rfl, hd, ⟨b0, h1⟩, hB, hP⟩
  · exact .inr ⟨h1, hX⟩
def wDkRead (C N : Addr) : VSp := fun ds m P VX => ∃ (x y z : Addr) (F : List FRow) (E : List DkD) (n : Nat) (nm : Str), ds = [.adr x, .str nm] ∧ DiskAt m.2 C x y z F E n ∧ ((∃ bs, nget (flatF F) nm = some bs ∧ P (.lst bs) m) ∨ (nget (flatF F) nm = none ∧ VX N [] m))
theorem p_Disk_read {K : PySem.W.Frag} {C N : Addr} (ds : List D) (m : Mst) (P : D → Mst → Prop) (VX : XV) (h : wDkRead C N ds m P VX) : ds.length = 2 ∧ v_Disk_read K (wLookFile C N) C VX (vends P) (vstart N_Disk_read.length ds) m := by
  obtain ⟨x, y, z, F, E, n, nm, rfl, hd, hP⟩ := h
  obtain ⟨q0, s0⟩ := m
  refine ⟨rfl, ?_⟩
  dsimp only at hd hP
  unfold v_Disk_read
  walk_at "vw"
  refine ⟨x, _, rfl, hd.ob, by kernel_rfl, ?_⟩
  walk_at "vw"
  refine ⟨x, y, z, F, E, n, nm, rfl, hd, ?_⟩
  rcases hP with ⟨bs, h1, hP⟩ | ⟨h1, hX⟩
  · refine .inl ⟨by rw [h1]; simp, ?_⟩
    walk_at "vw"
    refine ⟨x, _, _, rfl, hd.ob, rfl, ?_⟩
    walk_at "vw"
    obtain ⟨a, _, h2, h3, _⟩ := hd.fl.get h1
    show vIx (lookS s0 y) (.str nm) _
    rw [lookS_dic hd.fl.dc]
    refine ⟨.inr nm, _, rfl, h2, ?_⟩
    walk_at "vw"
    show vList [lookS s0 a] _
    rw [lookS_lst h3]
    walk_at "vw"
    exact hP
  · exact .inr ⟨h1, hX⟩
def SortedS (ns' ns : List Str) : Prop := ns'.Perm ns ∧ ns'.Pairwise (fun x y => ¬ y.cps.toList < x.cps.toList)
def wDkNames (C : Addr) : VSp := fun ds m P _ => ∃ (x y z : Addr) (F : List FRow) (E : List DkD) (n : Nat), ds = [.adr x] ∧ DiskAt m.2 C x y z F E n ∧ ∀ ns', SortedS ns' ((flatF F).map (·.1)) → P (.lst (ns'.map D.str)) m
theorem p_Disk_names {K : PySem.W.Frag} {C : Addr} (ds : List D) (m : Mst) (P : D → Mst → Prop) (VX : XV) (h : wDkNames C ds m P VX) : ds.length = 1 ∧ v_Disk_names K C (vends P) (vstart N_Disk_names.length ds) m := by
  obtain ⟨x, y, z, F, E, n, rfl, hd, hP⟩ := h
  obtain ⟨q0, s0⟩ := m
  refine ⟨rfl, ?_⟩
  dsimp only at hd hP
  unfold v_Disk_names
  walk_at "vw"
  refine ⟨x, _, _, rfl, hd.ob, rfl, ?_⟩
  show vList [lookS s0 y] _
  rw [lookS_dic hd.fl.dc]
  refine e_listDk ?_
  walk_at "vv"
  have e : ((fkD F).map fun kv => kD kv.1) = ((flatF F).map (·.1)).map D.str := by
    unfold fkD nkD flatF nmap
    rw [List.map_map, List.map_map, List.map_map]; rfl
  rw [e]
  exact .inr ⟨_, rfl, fun ns' p s => hP ns' ⟨p, s⟩⟩
def wDkSteps (C : Addr) : VSp := fun ds m P _ => ∃ (x y z : Addr) (F : List FRow) (E : List DkD) (n : Nat), ds = [.adr x] ∧ DiskAt m.2 C x y z F E n ∧ P (.int (n : Int)) m
theorem p_Disk_steps {K : PySem.W.Frag} {C : Addr} (ds : List D) (m : Mst) (P : D → Mst → Prop) (VX : XV) (h : wDkSteps C ds m P VX) : ds.length = 1 ∧ v_Disk_steps K C (vends P) (vstart N_Disk_steps.length ds) m := by
  obtain ⟨x, y, z, F, E, n, rfl, hd, hP⟩ := h
  refine ⟨rfl, ?_⟩
  unfold v_Disk_steps
  walk_at "vw"
  exact ⟨x, _, _, rfl, hd.ob, rfl, hP⟩
def t_disk_deed (K : PySem.W.Frag) (s_take_ : Sp) : TS :=
      (tSeq (tAsg (tLst (tCons (tC (.str ("book" : Str))) (tCons (tC (.str ("h0" : Str))) (tCons (tC (.str ("h1" : Str))) (tCons (tC (.str ("h10" : Str))) (tCons (tC (.str ("h2" : Str))) (tCons (tC (.str ("" : Str))) (tCons (tC (.str ("a" : Str))) (tCons (tC (.str ("aa" : Str))) (tCons (tC (.str ("B" : Str))) (tCons (tC (.str (" x" : Str))) (tCons (tC (.str ("zz" : Str))) (tCons (tC (.str ("h" : Str))) tNil))))))))))))) (gName 2))
      (tSeq (tAsg (tOp (rIxU K) (tVar 2) (tCall s_take_ [] E0 (tCons (tVar 0) (tCons (tC (.int 12)) tNil)))) (gName 3))
      (tSeq (tAsg (tCall s_take_ [] E0 (tCons (tVar 0) (tCons (tC (.int 8)) tNil))) (gName 4))
      (tSeq (tIfS (tAnd (tTest (tOp (rGtV) (tVar 4) (tC (.int 2)))) (tTest (tOp ((rEqNilD true K)) (tVar 1) tDNewK)))
      (tAsg (tOp (rIxU K) (tCB (rSortD K) (tCons (tVar 1) tNil)) (tCall s_take_ [] E0 (tCons (tVar 0) (tCons (tCB (rLenU K) (tCons (tVar 1) tNil)) tNil)))) (gName 3))
      tNext)
      (tSeq (tIfS (tTest (tOp (rLtU K) (tVar 4) (tC (.int 3))))
      (tRet (tTup (tCons (tC (.str ("make" : Str))) (tCons (tVar 3) (tCons (tC .non) tNil)))))
      tNext)
      (tSeq (tIfS (tTest (tOp (rLtU K) (tVar 4) (tC (.int 6))))
      (tSeq (tAsg (tOp (rIxU K) (tLst (tCons (tCall s_take_ [] E0 (tCons (tVar 0) (tCons (tC (.int 4)) tNil))) (tCons (tCall s_take_ [] E0 (tCons (tVar 0) (tCons (tC (.int 12)) tNil))) tNil))) (tCB (rIntU) (tCons (tOp (rEqU K) (tCall s_take_ [] E0 (tCons (tVar 0) (tCons (tC (.int 4)) tNil))) (tC (.int 0))) tNil))) (gName 5))
      (tRet (tTup (tCons (tC (.str ("add" : Str))) (tCons (tVar 3) (tCons (tLc (iRng1 (tCons (tVar 5) tNil)) (gName 6) tYes (tCall s_take_ [] E0 (tCons (tVar 0) (tCons (tC (.int 256)) tNil))) [6]) tNil))))))
      tNext)
      (tSeq (tIfS (tTest (tOp (rEqU K) (tVar 4) (tC (.int 6))))
      (tRet (tTup (tCons (tC (.str ("cut" : Str))) (tCons (tVar 3) (tCons (tCall s_take_ [] E0 (tCons (tVar 0) (tCons (tOp (rAddU K) (tC (.int 3)) (tCB (rLenU K) (tCons (tDGet2 (tVar 1) (tVar 3) (tLst tNil)) tNil))) tNil))) tNil)))))
      tNext)
      (tRet (tTup (tCons (tC (.str ("drop" : Str))) (tCons (tVar 3) (tCons (tC .non) tNil))))))))))))
abbrev N_disk_deed : List Str := [("_law_state" : Str), ("_law_files" : Str), ("_law_some" : Str), ("_law_name" : Str), ("_law_way" : Str), ("_law_many" : Str), ("_law_turn_here" : Str)]
def v_disk_deed (K : PySem.W.Frag) (vs_take : VSp) : VS :=
      (vSeqS (vAsg (vLst (vCons (vC (.str ("book" : Str))) (vCons (vC (.str ("h0" : Str))) (vCons (vC (.str ("h1" : Str))) (vCons (vC (.str ("h10" : Str))) (vCons (vC (.str ("h2" : Str))) (vCons (vC (.str ("" : Str))) (vCons (vC (.str ("a" : Str))) (vCons (vC (.str ("aa" : Str))) (vCons (vC (.str ("B" : Str))) (vCons (vC (.str (" x" : Str))) (vCons (vC (.str ("zz" : Str))) (vCons (vC (.str ("h" : Str))) vNil))))))))))))) (vgName 2))
      (vSeqS (vAsg (vOp vIx (vVar 2) (vCall vs_take (vCons (vVar 0) (vCons (vC (.int 12)) vNil)))) (vgName 3))
      (vSeqS (vAsg (vCall vs_take (vCons (vVar 0) (vCons (vC (.int 8)) vNil))) (vgName 4))
      (vSeqS (vIf (vAnd (vTest (vOp vGt (vVar 4) (vC (.int 2)))) (vTest (vOpL (vEqNilD true) (vVar 1) vDNew)))
      (vAsg (vOp vIx (vCBL vSortD (vCons (vVar 1) vNil)) (vCall vs_take (vCons (vVar 0) (vCons (vCBL vLen (vCons (vVar 1) vNil)) vNil)))) (vgName 3))
      vNext)
      (vSeqS (vIf (vTest (vOp vLt (vVar 4) (vC (.int 3))))
      (vRet (vTup (vCons (vC (.str ("make" : Str))) (vCons (vVar 3) (vCons (vC .non) vNil)))))
      vNext)
      (vSeqS (vIf (vTest (vOp vLt (vVar 4) (vC (.int 6))))
      (vSeqS (vAsg (vOp vIx (vLst (vCons (vCall vs_take (vCons (vVar 0) (vCons (vC (.int 4)) vNil))) (vCons (vCall vs_take (vCons (vVar 0) (vCons (vC (.int 12)) vNil))) vNil))) (vCB vInt (vCons (vOp vEqC (vCall vs_take (vCons (vVar 0) (vCons (vC (.int 4)) vNil))) (vC (.int 0))) vNil))) (vgName 5))
      (vRet (vTup (vCons (vC (.str ("add" : Str))) (vCons (vVar 3) (vCons (vBox (vLc (vRng1 (vCons (vVar 5) vNil)) (vgName 6) vYes (vCall vs_take (vCons (vVar 0) (vCons (vC (.int 256)) vNil))) [6])) vNil))))))
      vNext)
      (vSeqS (vIf (vTest (vOp vEqC (vVar 4) (vC (.int 6))))
      (vRet (vTup (vCons (vC (.str ("cut" : Str))) (vCons (vVar 3) (vCons (vCall vs_take (vCons (vVar 0) (vCons (vOp vAdd (vC (.int 3)) (vCB vLen (vCons (vGet2 (vVar 1) (vVar 3) (vLst vNil)) vNil))) vNil))) vNil)))))
      vNext)
      (vRet (vTup (vCons (vC (.str ("drop" : Str))) (vCons (vVar 3) (vCons (vC .non) vNil))))))))))))
theorem sim_disk_deed {K : PySem.W.Frag} {vs_take : VSp} {vsp : VSp} (hv : ∀ ds m P VX, vsp ds m P VX → ds.length = 2 ∧ v_disk_deed K vs_take (vends P) (vstart N_disk_deed.length ds) m) :
    ∀ us H Q E, spV K .O vsp us H Q E → t_disk_deed K (spV K .O vs_take) { nx := fun _ H' => Q .non H', rt := Q } (L2.start N_disk_deed us) H :=
  sim_def (n := 2) (t := .O) (N := N_disk_deed) (Γn := [.F, .F, .F, .F, .F, .F, .F]) (Γb := []) (Γc := []) (ts := fun E => t_disk_deed K (spV K .O vs_take)) (vs := fun VX => v_disk_deed K vs_take) (by decide) (fun c W VX hK hx => by
    subst hK
    exact (x_seq (x_asgO (i := 2) (s_lst (g_cons (SO.f s_str) (g_cons (SO.f s_str) (g_cons (SO.f s_str) (g_cons (SO.f s_str) (g_cons (SO.f s_str) (g_cons (SO.f s_str) (g_cons (SO.f s_str) (g_cons (SO.f s_str) (g_cons (SO.f s_str) (g_cons (SO.f s_str) (g_cons (SO.f s_str) (g_cons (SO.f s_str) g_nil))))))))))))))
      (x_seq (x_asgF (i := 3) (s_opF o_ix (s_varB (t := .O) (by rfl)) (SO.b (s_callO (g_cons (s_varF (by rfl)) (g_cons (SO.f s_int) g_nil))))))
      (x_seq (x_asgO (i := 4) (s_callO (g_cons (s_varF (by rfl)) (g_cons (SO.f s_int) g_nil))))
      (x_seq (x_if (Γn := [.F, .F, .O, .F, .O, .F, .F]) (s_and (s_test (SO.b (s_op o_gt (s_varB (t := .O) (by rfl)) (SO.b s_int)))) (s_test (SO.b (s_opL o_eqNilD (SF.b (s_varF (by rfl))) (SO.b s_dnew)))))
      (x_asgF (i := 3) (s_opF o_ix (SO.b (s_cbL l_sortD (a_cons (SF.b (s_varF (by rfl))) a_nil))) (SO.b (s_callO (g_cons (s_varF (by rfl)) (g_cons (SO.f (s_cbL l_len (a_cons (SF.b (s_varF (by rfl))) a_nil))) g_nil))))))
      x_next)
      (x_seq (x_if (Γn := [.F, .F, .O, .F, .O, .F, .F]) (s_test (SO.b (s_op o_lt (s_varB (t := .O) (by rfl)) (SO.b s_int))))
      (x_retO (s_tup (g_cons (SO.f s_str) (g_cons (s_varF (by rfl)) (g_cons (SO.f s_non) g_nil)))))
      x_next)
      (x_seq (x_if (Γn := [.F, .F, .O, .F, .O, .F, .F]) (s_test (SO.b (s_op o_lt (s_varB (t := .O) (by rfl)) (SO.b s_int))))
      (x_seq (x_asgF (i := 5) (s_opF o_ix (SO.b (s_lst (g_cons (SO.f (s_callO (g_cons (s_varF (by rfl)) (g_cons (SO.f s_int) g_nil)))) (g_cons (SO.f (s_callO (g_cons (s_varF (by rfl)) (g_cons (SO.f s_int) g_nil)))) g_nil)))) (SO.b (s_cb l_int (a_cons (SO.b (s_op o_eq (SO.b (s_callO (g_cons (s_varF (by rfl)) (g_cons (SO.f s_int) g_nil)))) (SO.b s_int))) a_nil)))))
      (x_retO (s_tup (g_cons (SO.f s_str) (g_cons (s_varF (by rfl)) (g_cons (s_box (s_lc (vs := [6]) (i_rng1 (g_cons (s_varF (by rfl)) g_nil)) (by rfl) (tg_name (is := [6]) (by rfl) (by decide)) s_yes (SO.f (s_callO (g_cons (s_varF (by rfl)) (g_cons (SO.f s_int) g_nil)))))) g_nil))))))
      x_next)
      (x_seq (x_if (Γn := [.F, .F, .O, .F, .O, .F, .F]) (s_test (SO.b (s_op o_eq (s_varB (t := .O) (by rfl)) (SO.b s_int))))
      (x_retO (s_tup (g_cons (SO.f s_str) (g_cons (s_varF (by rfl)) (g_cons (SO.f (s_callO (g_cons (s_varF (by rfl)) (g_cons (SO.f (s_op o_add (SO.b s_int) (SO.b (s_cb l_len (a_cons (SF.b (s_get2 (SF.b (s_varF (by rfl))) (s_varF (by rfl)) (SO.f (s_lst g_nil)))) a_nil))))) g_nil)))) g_nil)))))
      x_next)
      (x_retO (s_tup (g_cons (SO.f s_str) (g_cons (s_varF (by rfl)) (g_cons (SO.f s_non) g_nil))))))))))))) hv
def t_done_on (K : PySem.W.Frag) (s_Disk_make_ : Sp) (s_Disk_add_ : Sp) (s_Disk_cut_ : Sp) (s_Disk_drop_ : Sp) (c_Disk : Addr) (E : XK) : TS :=
      (tSeq (tAsg (tVar 1) (gTup K 3 (gCons (gName 2) (gCons (gName 3) (gCons (gName 4) gNil)))))
      (tIfS (tTest (tOp (rEqU K) (tVar 2) (tC (.str ("make" : Str)))))
      (tDrop (tMethQ c_Disk ("make" : Str) s_Disk_make_ (fun _ => E0) (tVar 0) (tCons (tVar 3) tNil)))
      (tIfS (tTest (tOp (rEqU K) (tVar 2) (tC (.str ("add" : Str)))))
      (tDrop (tMethQ c_Disk ("add" : Str) s_Disk_add_ (WE (fun c d _ H => E c d H)) (tVar 0) (tCons (tVar 3) (tCons (tVar 4) tNil))))
      (tIfS (tTest (tOp (rEqU K) (tVar 2) (tC (.str ("cut" : Str)))))
      (tDrop (tMethQ c_Disk ("cut" : Str) s_Disk_cut_ (WE (fun c d _ H => E c d H)) (tVar 0) (tCons (tVar 3) (tCons (tVar 4) tNil))))
      (tDrop (tMethQ c_Disk ("drop" : Str) s_Disk_drop_ (WE (fun c d _ H => E c d H)) (tVar 0) (tCons (tVar 3) tNil)))))))
abbrev N_done_on : List Str := [("_law_disk" : Str), ("_law_deed" : Str), ("_law_word_here" : Str), ("_law_name" : Str), ("_law_more" : Str)]
def v_done_on (K : PySem.W.Frag) (vs_Disk_make : VSp) (vs_Disk_add : VSp) (vs_Disk_cut : VSp) (vs_Disk_drop : VSp) (c_Disk : Addr) (VX : XV) : VS :=
      (vSeqS (vAsg (vVar 1) (vgTup 3 (vgCons (vgName 2) (vgCons (vgName 3) (vgCons (vgName 4) vgNil)))))
      (vIf (vTest (vOp vEqC (vVar 2) (vC (.str ("make" : Str)))))
      (vDrop (vMeth c_Disk ("make" : Str) vs_Disk_make (fun _ _ _ _ => False) (vVar 0) (vCons (vVar 3) vNil)))
      (vIf (vTest (vOp vEqC (vVar 2) (vC (.str ("add" : Str)))))
      (vDrop (vMeth c_Disk ("add" : Str) vs_Disk_add (fun C fs _ m => VX C fs m) (vVar 0) (vCons (vVar 3) (vCons (vVar 4) vNil))))
      (vIf (vTest (vOp vEqC (vVar 2) (vC (.str ("cut" : Str)))))
      (vDrop (vMeth c_Disk ("cut" : Str) vs_Disk_cut (fun C fs _ m => VX C fs m) (vVar 0) (vCons (vVar 3) (vCons (vVar 4) vNil))))
      (vDrop (vMeth c_Disk ("drop" : Str) vs_Disk_drop (fun C fs _ m => VX C fs m) (vVar 0) (vCons (vVar 3) vNil)))))))
theorem sim_done_on {K : PySem.W.Frag} {vs_Disk_make : VSp} {vs_Disk_add : VSp} {vs_Disk_cut : VSp} {vs_Disk_drop : VSp} {c_Disk : Addr} {vsp : VSp} (hv : ∀ ds m P VX, vsp ds m P VX → ds.length = 2 ∧ v_done_on K vs_Disk_make vs_Disk_add vs_Disk_cut vs_Disk_drop c_Disk VX (vends P) (vstart N_done_on.length ds) m) :
    ∀ us H Q E, spV K .O vsp us H Q E → t_done_on K (spV K .O vs_Disk_make) (spV K .O vs_Disk_add) (spV K .O vs_Disk_cut) (spV K .O vs_Disk_drop) c_Disk E { nx := fun _ H' => Q .non H', rt := Q } (L2.start N_done_on us) H :=
  sim_def (n := 2) (t := .O) (N := N_done_on) (Γn := [.F, .F, .F, .F, .F]) (Γb := []) (Γc := []) (ts := fun E => t_done_on K (spV K .O vs_Disk_make) (spV K .O vs_Disk_add) (spV K .O vs_Disk_cut) (spV K .O vs_Disk_drop) c_Disk E) (vs := fun VX => v_done_on K vs_Disk_make vs_Disk_add vs_Disk_cut vs_Disk_drop c_Disk VX) (by decide) (fun c W VX hK hx => by
    subst hK
    exact (x_seq (x_asgT (s_varF (by rfl)) (tg_tup (tg_cons (tg_name (is := [2, 3, 4]) (by rfl) (by decide)) (tg_cons (tg_name (is := [2, 3, 4]) (by rfl) (by decide)) (tg_cons (tg_name (is := [2, 3, 4]) (by rfl) (by decide)) tg_nil)))))
      (x_if (Γn := [.F, .F, .F, .F, .F]) (s_test (SO.b (s_op o_eq (SF.b (s_varF (by rfl))) (SO.b s_str))))
      (x_drop (SO.b (s_methO (W := (fun _ _ _ _ => False)) (VW := (fun _ _ _ _ => False)) exOk_no (s_varF (by rfl)) (g_cons (s_varF (by rfl)) g_nil))))
      (x_if (Γn := [.F, .F, .F, .F, .F]) (s_test (SO.b (s_op o_eq (SF.b (s_varF (by rfl))) (SO.b s_str))))
      (x_drop (SO.b (s_methO (VW := (fun C fs _ m => VX C fs m)) (hx _) (s_varF (by rfl)) (g_cons (s_varF (by rfl)) (g_cons (s_varF (by rfl)) g_nil)))))
      (x_if (Γn := [.F, .F, .F, .F, .F]) (s_test (SO.b (s_op o_eq (SF.b (s_varF (by rfl))) (SO.b s_str))))
      (x_drop (SO.b (s_methO (VW := (fun C fs _ m => VX C fs m)) (hx _) (s_varF (by rfl)) (g_cons (s_varF (by rfl)) (g_cons (s_varF (by rfl)) g_nil)))))
      (x_drop (SO.b (s_methO (VW := (fun C fs _ m => VX C fs m)) (hx _) (s_varF (by rfl)) (g_cons (s_varF (by rfl)) g_nil))))))))) hv
def lD (s : Sto) (d : D) : DkD → Prop
  | .ad n bs => ∃ b, d = .tup [.str "add", .str n, .adr b] ∧ s b = some (.lst bs)
  | q => d = q.d
def DkD.isMk : DkD → Bool
  | .mk _ => true
  | _ => false
def wDoneOn (C N : Addr) : VSp := fun ds m P VX => ∃ (x y z : Addr) (F : List FRow) (E : List DkD) (n : Nat) (q : DkD) (d : D), ds = [.adr x, d] ∧ lD m.2 d q ∧ DiskAt m.2 C x y z F E n ∧
  ((q.fits (flatF F) ∧ DkB F E q ∧ DkK C m P x y z F E n q) ∨ (q.isMk = false ∧ nget (flatF F) q.nm = none ∧ VX N [] m))
theorem p_done_on {K : PySem.W.Frag} {C N : Addr} (ds : List D) (m : Mst) (P : D → Mst → Prop) (VX : XV) (h : wDoneOn C N ds m P VX) : ds.length = 2 ∧ v_done_on K (wDkMake C) (wDkAdd C N) (wDkCut C N) (wDkDrop C N) C VX (vends P) (vstart N_done_on.length ds) m := by
  obtain ⟨x, y, z, F, E, n, q, d, rfl, hl, hd, hP⟩ := h
  refine ⟨rfl, ?_⟩
  unfold v_done_on
  cases q with
  | mk nm =>
    obtain rfl := hl
    unfold DkD.d
    walk_at "vw"
    refine ⟨x, _, rfl, hd.ob, by kernel_rfl, ?_⟩
    walk_at "vw"
    rcases hP with ⟨h1, hB, hP⟩ | ⟨h0, _⟩
    · exact ⟨x, y, z, F, E, n, nm, rfl, hd, hB, hP⟩
    · cases h0
  | ad nm bs =>
    obtain ⟨b, rfl, hb⟩ := hl
    walk_at "vw"
    refine ⟨x, _, rfl, hd.ob, by kernel_rfl, ?_⟩
    walk_at "vw"
    refine ⟨x, y, z, F, E, n, nm, _, bs, rfl, lookS_lst hb, hd, ?_⟩
    rcases hP with ⟨h1, hB, hP⟩ | ⟨_, h1, hX⟩
    · exact .inl ⟨h1, hB, hP⟩
    · exact .inr ⟨h1, hX⟩
  | ct nm k =>
    obtain rfl := hl
    unfold DkD.d
    walk_at "vw"
    refine ⟨x, _, rfl, hd.ob, by kernel_rfl, ?_⟩
    walk_at "vw"
    refine ⟨x, y, z, F, E, n, nm, k, rfl, hd, ?_⟩
    rcases hP with ⟨h1, hB, hP⟩ | ⟨_, h1, hX⟩
    · exact .inl ⟨h1, hB, hP⟩
    · exact .inr ⟨h1, hX⟩
  | dr nm =>
    obtain rfl := hl
    unfold DkD.d
    walk_at "vw"
    refine ⟨x, _, rfl, hd.ob, by kernel_rfl, ?_⟩
    walk_at "vw"
    refine ⟨x, y, z, F, E, n, nm, rfl, hd, ?_⟩
    rcases hP with ⟨h1, hB, hP⟩ | ⟨_, h1, hX⟩
    · exact .inl ⟨h1, hB, hP⟩
    · exact .inr ⟨h1, hX⟩
def names12 : List Str := ["book", "h0", "h1", "h10", "h2", "", "a", "aa", "B", " x", "zz", "h"]
theorem names12_ok : ∀ n ∈ names12, PyData.strOk n = true := by
  have : names12.all PyData.strOk = true := by decide +kernel
  exact List.all_eq_true.mp this
theorem str_cps {x y : Str} (h : x.cps.toList = y.cps.toList) : x = y := by
  cases x; cases y; simp only [Str.mk.injEq]; exact Array.ext' h
theorem sortedS_eq {a b n : List Str} (h1 : SortedS a n) (h2 : SortedS b n) : a = b := by
  refine List.Perm.eq_of_pairwise (le := fun x y : Str => ¬ y.cps.toList < x.cps.toList) (fun x y _ _ h h' => str_cps (List.le_antisymm (by exact h) (by exact h'))) h1.2 h2.2 (h1.1.trans h2.1.symm)
def DkD.isAd : DkD → Bool
  | .ad _ _ => true
  | _ => false
theorem lD_shape {s : Sto} {d : D} {q : DkD} (h : lD s d q) : ∃ wd x, d = .tup [.str wd, .str q.nm, x] ∧ decide (wd = "make") = q.isMk ∧ decide (wd = "add") = q.isAd := by
  cases q with
  | mk n => obtain rfl := h; exact ⟨_, _, rfl, (by show decide _ = true; decide +kernel), (by show decide _ = false; decide +kernel)⟩
  | ad n bs => obtain ⟨b, rfl, _⟩ := h; exact ⟨_, _, rfl, (by show decide _ = false; decide +kernel), (by show decide _ = true; decide +kernel)⟩
  | ct n k => obtain rfl := h; exact ⟨_, _, rfl, (by show decide _ = false; decide +kernel), (by show decide _ = false; decide +kernel)⟩
  | dr n => obtain rfl := h; exact ⟨_, _, rfl, (by show decide _ = false; decide +kernel), (by show decide _ = false; decide +kernel)⟩
def lNew (s0 : Sto) (d : D) : DkD → Prop
  | .ad n bs => ∃ b, d = .tup [.str "add", .str n, .adr b] ∧ s0 b = none
  | _ => True
def lInts (m : Nat) : DkD → Prop
  | .ad _ bs => bs.length ≤ m ∧ ∃ ns : List Int, bs = ns.map D.int
  | _ => True
def wDiskDeed : VSp := fun ds m P _ => ∃ (w : Addr) (r : Nat) (s0 : Sto) (y : Addr) (G : List (Str × List D)), ds = [.adr w, .adr y] ∧ m = (some (w, r), s0) ∧ s0 y = some (.dic (nkD D.lst G)) ∧ (∀ p ∈ G, p.1 ∈ names12) ∧ G.length ≤ 1000 ∧ (∀ p ∈ G, p.2.length ≤ 1000000) ∧ 30 ≤ r ∧
  ∀ q d s' r', lD s' d q → q.nm ∈ names12 → lInts 11 q → lNew s0 d q → (∀ a, s0 a ≠ none → s' a = s0 a) → r ≤ r' + 30 → P d (some (w, r'), s')
theorem p_disk_deed {K : PySem.W.Frag} (ds : List D) (m : Mst) (P : D → Mst → Prop) (VX : XV) (h : wDiskDeed ds m P VX) : ds.length = 2 ∧ v_disk_deed K vTake (vends P) (vstart N_disk_deed.length ds) m := by
  obtain ⟨w, r, s0, y, G, rfl, rfl, hy, hG, hGl, hGb, hr, hP⟩ := h
  refine ⟨rfl, ?_⟩
  unfold v_disk_deed
  walk_at "vv"
  refine e_take (by omega) (by decide) (by decide) fun v r1 h1 h2 hr1 => ?_
  obtain ⟨nm, hnm, enm⟩ := at_litS names12 h1 h2
  refine e_ixL (show L2.atI (names12.map D.str) v = _ from enm) ?_
  walk_at "vv"
  refine e_take (by omega) (by decide) (by decide) fun way r2 h3 h4 hr2 => ?_
  walk_at "vv"
  with_reducible refine e_seqO fun N1 hN1 => ?_
  have f1 : ∀ (nm : Str) (r' : Nat), nm ∈ names12 → r ≤ r' + 4 → N1 [some (.adr w), some (.adr y), some (.lst (names12.map D.str)), some (.str nm), some (.int way), none, none] (some (w, r'), s0) := by
    intro nm r3 hnm hr3
    refine hN1 _ _ ?_
    walk_at "vw"
    refine w_ifd (fun c => ?_) (fun c => ?_)
    · walk_at "vw"
      exact hP (.mk nm) _ s0 r3 rfl hnm True.intro True.intro (fun _ _ => rfl) (by omega)
    walk_at "vw"
    refine w_ifd (fun c1 => ?_) (fun c1 => ?_)
    · walk_at "vw"
      refine e_take (by omega) (by decide) (by decide) fun z1 r4 g1 g2 hr4 => ?_
      walk_at "vw"
      refine e_take (by omega) (by decide) (by decide) fun z2 r5 g3 g4 hr5 => ?_
      walk_at "vw"
      refine e_take (by omega) (by decide) (by decide) fun z3 r6 g5 g6 hr6 => ?_
      walk_at "vw"
      obtain ⟨k, hk, ek⟩ : ∃ k : Nat, k ≤ 11 ∧ L2.atI [D.int z1, D.int z2] (if decide (z3 = 0) = true then 1 else 0) = some (.int (k : Int)) := by
        by_cases c : z3 = 0
        · rw [if_pos (decide_eq_true c)]
          exact ⟨z2.toNat, by omega, by rw [Int.toNat_of_nonneg g3]; rfl⟩
        · rw [if_neg (by simpa using c)]
          exact ⟨z1.toNat, by omega, by rw [Int.toNat_of_nonneg g1]; rfl⟩
      refine e_ixL ek ?_
      walk_at "vw"
      refine e_itR (j := k) (by omega) ?_
      refine lc_Q (fun i acc m' => ∃ (ns : List Int) (r' : Nat), ns.length = i ∧ acc = ns.map D.int ∧ m' = (some (w, r'), s0) ∧ r6 ≤ r' + i) (by rw [rangeD_len]; omega) ⟨[], r6, rfl, rfl, rfl, by omega⟩ ?_ ?_
      · rintro i acc m' d Q hi _ ⟨ns, r', rfl, rfl, rfl, hr'⟩ ed hQ
        rw [rangeD_len] at hi
        walk_at "vw"
        refine e_take (by omega) (by decide) (by decide) fun z4 r7 g7 g8 hr7 => ?_
        exact hQ _ _ ⟨ns ++ [z4], r7, by rw [List.length_append]; rfl, by rw [List.map_append]; rfl, rfl, by omega⟩
      rintro acc m' _ ⟨ns, r7, hl, rfl, rfl, hr7⟩
      rw [rangeD_len] at hl hr7
      walk_at "vw"
      intro b hb
      dsimp only at hb
      walk_at "vw"
      exact hP (.ad nm (ns.map D.int)) _ _ r7 ⟨b, rfl, sput_same⟩ hnm ⟨by rw [List.length_map]; omega, ns, rfl⟩ ⟨b, rfl, hb⟩ (fun a ha => sput_ne fun e => ha (by rw [e]; exact hb)) (by omega)
    walk_at "vw"
    refine w_ifd (fun c2 => ?_) (fun c2 => ?_)
    · walk_at "vw"
      refine ⟨⟨_, lookS_dic hy⟩, ?_⟩
      walk_at "vw"
      refine ⟨_, .inr nm, lookS_dic hy, rfl, ?_⟩
      rw [nk_get]
      obtain ⟨bs, hbs, ebs⟩ : ∃ bs : List D, bs.length ≤ 1000000 ∧ ((nget G nm).map D.lst).getD (.lst []) = .lst bs := by
        cases e : nget G nm with
        | none => exact ⟨[], by simp, rfl⟩
        | some b => exact ⟨b, hGb _ (nget_some_mem e), rfl⟩
      rw [ebs]
      walk_at "vw"
      refine e_take (by omega) (by omega) (by omega) fun z1 r4 g1 g2 hr4 => ?_
      obtain ⟨k, rfl⟩ : ∃ k : Nat, z1 = (k : Int) := ⟨z1.toNat, by omega⟩
      walk_at "vw"
      exact hP (.ct nm k) _ s0 r4 rfl hnm True.intro True.intro (fun _ _ => rfl) (by omega)
    · walk_at "vw"
      exact hP (.dr nm) _ s0 r3 rfl hnm True.intro True.intro (fun _ _ => rfl) (by omega)
  walk_at "vv"
  refine w_ifd (fun c => ?_) (fun c => ?_)
  · walk_at "vv"
    show vEqNilD true (lookS s0 y) (.dic []) _
    rw [lookS_dic hy]
    refine e_eqNilD ?_
    refine ⟨_, rfl, ?_⟩
    cases e : G with
    | nil =>
      rw [if_neg (by simp [nkD])]
      walk_at "vv"
      exact f1 nm r2 hnm (by omega)
    | cons p0 G0 =>
      rw [if_pos (by simp [nkD])]
      have hGp : 0 < G.length := by rw [e]; exact Nat.succ_pos _
      walk_at "vv"
      show vSortD [lookS s0 y] _
      rw [lookS_dic hy]
      refine .inr ⟨G.map (·.1), by unfold nkD; rw [List.map_map, List.map_map]; rfl, fun ns' hp hs => ?_⟩
      walk_at "vv"
      show vLen [lookS s0 y] _
      rw [lookS_dic hy]
      walk_at "vv"
      rw [nkD_len]
      refine e_take (by omega) (by omega) (by omega) fun z r3 g1 g2 hr3 => ?_
      obtain ⟨i, rfl⟩ : ∃ i : Nat, z = (i : Int) := ⟨z.toNat, by omega⟩
      have hl : ns'.length = G.length := by rw [hp.length_eq, List.length_map]
      refine e_ixL (x := .str (ns'[i]'(by omega))) (atI_nat (by rw [List.getElem?_map, List.getElem?_eq_getElem (by omega)]; rfl)) ?_
      walk_at "vv"
      refine f1 _ r3 ?_ (by omega)
      have : ns'[i]'(by omega) ∈ G.map (·.1) := hp.mem_iff.mp (List.getElem_mem _)
      obtain ⟨p, hp, e⟩ := List.mem_map.mp this
      rw [← e]; exact hG p hp
  · walk_at "vv"
    exact f1 nm r2 hnm (by omega)
structure DkR where
  x : Addr
  y : Addr
  z : Addr
  o : Addr
  F : List FRow
  E : List DkD
  n : Nat
def DkR.fp (r : DkR) : List Addr := r.o :: r.x :: r.z :: r.y :: r.F.map (·.2.1)
structure DkOk (C : Addr) (b : Nat) (s : Sto) (r : DkR) : Prop where
  dk : DiskAt s C r.x r.y r.z r.F r.E r.n
  ow : s r.o = some (.dic (nkD D.lst (flatF r.F)))
  nm : ∀ p ∈ flatF r.F, p.1 ∈ names12
  bs : ∀ p ∈ flatF r.F, p.2.length ≤ 700 * b ∧ ∃ ns : List Int, p.2 = ns.map D.int
  lF : r.F.length ≤ b
  lE : r.E.length ≤ b
  ap : r.o ∉ r.x :: r.z :: r.y :: r.F.map (·.2.1)
theorem DkOk.mono {C : Addr} {b b' : Nat} {s : Sto} {r : DkR} (hb : b ≤ b') (h : DkOk C b s r) : DkOk C b' s r := ⟨h.dk, h.ow, h.nm, fun p hp => ⟨Nat.le_trans (h.bs p hp).1 (Nat.mul_le_mul_left _ hb), (h.bs p hp).2⟩, Nat.le_trans h.lF hb, Nat.le_trans h.lE hb, h.ap⟩
def singles : DkD → List DkD
  | .ad n bs => bs.map fun b => .ad n [b]
  | q => [q]
theorem singles_len (q : DkD) : (singles q).length = q.steps := by
  cases q with
  | ad n bs => exact List.length_map ..
  | _ => rfl
abbrev Fls := List (Str × List D)
def onG (G : Fls) (T : List DkD) : Fls := T.foldl (fun G q => q.on G) G
def runG (T : List DkD) : Fls := onG [] T
theorem runG_app (A B : List DkD) : runG (A ++ B) = onG (runG A) B := List.foldl_append ..
theorem runG_snoc (A : List DkD) (q : DkD) : runG (A ++ [q]) = q.on (runG A) := runG_app A [q]
theorem on_nodup {q : DkD} {G : Fls} (h : (G.map (·.1)).Nodup) : ((q.on G).map (·.1)).Nodup := by
  cases q with
  | mk n => exact nput_nodup h
  | ad n bs => exact nput_nodup h
  | ct n k => exact nput_nodup h
  | dr n => exact h.sublist ((ndrop_sub G n).map _)
theorem onG_nodup : ∀ {T : List DkD} {G : Fls}, (G.map (·.1)).Nodup → ((onG G T).map (·.1)).Nodup
  | [], _, h => h
  | q :: T, G, h => onG_nodup (T := T) (G := q.on G) (on_nodup h)
theorem run_nodup (T : List DkD) : ((runG T).map (·.1)).Nodup := onG_nodup List.nodup_nil
theorem nget_put {α : Type} {l : List (Str × α)} {n : Str} {v : α} : nget (nput l n v) n = some v := by
  unfold nput nget
  by_cases h : (l.any fun p => decide (p.1 = n)) = true
  · rw [if_pos h]
    induction l with
    | nil => cases h
    | cons p l ih =>
      rw [List.map_cons, List.find?_cons]
      by_cases c : p.1 = n
      · rw [if_pos c, show decide ((p.1, v).1 = n) = true from decide_eq_true c]; rfl
      · rw [if_neg c, show decide (p.1 = n) = false from decide_eq_false c]
        refine ih ?_
        rw [List.any_cons, decide_eq_false c, Bool.false_or] at h
        exact h
  · rw [if_neg h]
    have : ∀ p ∈ l, decide (p.1 = n) = false := fun p hp => by
      cases e : decide (p.1 = n) with
      | false => rfl
      | true => exact absurd (List.any_eq_true.mpr ⟨p, hp, e⟩) h
    rw [List.find?_append, List.find?_eq_none.mpr fun p hp => by rw [this p hp]; exact Bool.false_ne_true]
    rw [Option.none_or, List.find?_cons, show decide ((n, v).1 = n) = true from decide_eq_true rfl]; rfl
theorem nput_put {α : Type} {l : List (Str × α)} {n : Str} {v u : α} : nput (nput l n v) n u = nput l n u := by
  have hm : ((nput l n v).any fun p => decide (p.1 = n)) = true := nany_iff.mpr (by
    have := nget_some_mem (nget_put (l := l) (n := n) (v := v))
    exact List.mem_map_of_mem (f := (·.1)) this)
  unfold nput at hm ⊢
  rw [if_pos hm]
  by_cases c : (l.any fun p => decide (p.1 = n)) = true
  · rw [if_pos c, if_pos c, List.map_map]
    refine List.map_congr_left fun p _ => ?_
    show (if (if p.1 = n then (p.1, v) else p).1 = n then ((if p.1 = n then (p.1, v) else p).1, u) else (if p.1 = n then (p.1, v) else p)) = _
    by_cases d : p.1 = n
    · rw [if_pos d, if_pos d, if_pos d]
    · rw [if_neg d, if_neg d]
  · rw [if_neg c, if_neg c, List.map_append]
    congr 1
    · refine (List.map_congr_left fun p hp => ?_).trans (List.map_id l)
      have : ¬ p.1 = n := fun e => c (List.any_eq_true.mpr ⟨p, hp, decide_eq_true e⟩)
      show (if p.1 = n then _ else p) = p
      rw [if_neg this]
    · show [if (n, v).1 = n then ((n, v).1, u) else (n, v)] = _
      rw [if_pos rfl]
def StepOk (N : List Str) (G : Fls) (q : DkD) : Prop := q.fits G ∧ q.steps = 1 ∧ q.nm ∈ N ∧ lInts 1 q
def Valid (N : List Str) (T : List DkD) : Prop := ∀ i q, T[i]? = some q → StepOk N (runG (T.take i)) q
theorem Valid.nil {N : List Str} : Valid N [] := fun i q h => by simp at h
theorem Valid.mono {N M : List Str} (h : ∀ n ∈ N, n ∈ M) {T : List DkD} (v : Valid N T) : Valid M T := fun i q e => ⟨(v i q e).1, (v i q e).2.1, h _ (v i q e).2.2.1, (v i q e).2.2.2⟩
theorem Valid.take {N : List Str} {T : List DkD} (v : Valid N T) (k : Nat) : Valid N (T.take k) := fun i q e => by
  have hi : i < k := by have := (List.getElem?_eq_some_iff.mp e).1; rw [List.length_take] at this; omega
  rw [List.getElem?_take_of_lt hi] at e
  rw [List.take_take, Nat.min_eq_left (Nat.le_of_lt hi)]
  exact v i q e
theorem Valid.snoc {N : List Str} {T : List DkD} {q : DkD} (v : Valid N T) (h : StepOk N (runG T) q) : Valid N (T ++ [q]) := fun i p e => by
  by_cases c : i < T.length
  · rw [List.getElem?_append_left c] at e
    rw [List.take_append_of_le_length (Nat.le_of_lt c)]
    exact v i p e
  · have hl := (List.getElem?_eq_some_iff.mp e).1
    rw [List.length_append, List.length_singleton] at hl
    have : i = T.length := by omega
    subst this
    rw [List.getElem?_append_right (Nat.le_refl _), Nat.sub_self] at e
    cases e
    rw [List.take_append_of_le_length (Nat.le_refl _), List.take_length]
    exact h
theorem Valid.sing {N : List Str} {T : List DkD} {q : DkD} (v : Valid N T) (hf : q.fits (runG T)) (hn : q.nm ∈ N) (hi : lInts 1000000 q) : Valid N (T ++ singles q) ∧ runG (T ++ singles q) = q.on (runG T) := by
  have one : q.steps = 1 → lInts 1 q → singles q = [q] → Valid N (T ++ Ps.singles q) ∧ runG (T ++ Ps.singles q) = q.on (runG T) := fun h1 h2 h3 => by
    rw [h3]; exact ⟨v.snoc ⟨hf, h1, hn, h2⟩, runG_snoc T q⟩
  cases q with
  | mk n => exact one rfl True.intro rfl
  | ct n k => exact one rfl True.intro rfl
  | dr n => exact one rfl True.intro rfl
  | ad n bs =>
    obtain ⟨b0, hb0⟩ := hf
    obtain ⟨_, ns, rfl⟩ := hi
    have hb0 : nget (runG T) n = some b0 := hb0
    have key : ∀ (ns : List Int) (T : List DkD) (b0 : List D), Valid N T → nget (runG T) n = some b0 → Valid N (T ++ ((ns.map D.int).map fun b => DkD.ad n [b])) ∧ runG (T ++ ((ns.map D.int).map fun b => DkD.ad n [b])) = nput (runG T) n (b0 ++ ns.map D.int) := by
      intro ns
      induction ns with
      | nil =>
        intro T b0 v e
        refine ⟨by simpa using v, ?_⟩
        simp only [List.map_nil, List.append_nil]
        exact (nput_same (run_nodup T) e).symm
      | cons i ns ih =>
        intro T b0 v e
        have v2 : Valid N (T ++ [DkD.ad n [D.int i]]) := v.snoc ⟨⟨b0, e⟩, rfl, hn, Nat.le_refl _, [i], rfl⟩
        have r2 : runG (T ++ [DkD.ad n [D.int i]]) = nput (runG T) n (b0 ++ [D.int i]) := by
          rw [runG_snoc]
          show nput _ n ((nget (runG T) n).getD [] ++ [D.int i]) = _
          rw [e]; rfl
        obtain ⟨a1, a2⟩ := ih (T ++ [DkD.ad n [D.int i]]) (b0 ++ [D.int i]) v2 (by rw [r2]; exact nget_put)
        rw [r2, nput_put, List.append_assoc, List.append_assoc] at a2
        rw [List.append_assoc] at a1
        exact ⟨a1, a2⟩
    obtain ⟨a1, a2⟩ := key ns T b0 v hb0
    refine ⟨a1, a2.trans ?_⟩
    show _ = nput _ n ((nget (runG T) n).getD [] ++ _)
    rw [hb0]; rfl
theorem run_bound {N : List Str} {T : List DkD} (v : Valid N T) : ∀ k, k ≤ T.length → (runG (T.take k)).length ≤ k ∧ ∀ p ∈ runG (T.take k), p.1 ∈ N ∧ p.2.length ≤ k ∧ ∃ ns : List Int, p.2 = ns.map D.int
  | 0, _ => by rw [List.take_zero]; exact ⟨Nat.le_refl _, fun p hp => nomatch hp⟩
  | k + 1, hk => by
    obtain ⟨h1, h2⟩ := run_bound v k (Nat.le_of_succ_le hk)
    obtain ⟨q, eq⟩ : ∃ q, T[k]? = some q := ⟨T[k]'hk, List.getElem?_eq_getElem hk⟩
    have hq := v k q eq
    have e : T.take (k + 1) = T.take k ++ [q] := by rw [List.take_succ, eq]; rfl
    rw [e, runG_snoc]
    refine ⟨?_, fun p hp => ?_⟩
    · cases q with
      | mk n => exact Nat.le_trans nput_len (by omega)
      | ad n bs => exact Nat.le_trans nput_len (by omega)
      | ct n k => exact Nat.le_trans nput_len (by omega)
      | dr n => exact Nat.le_trans (ndrop_sub _ n).length_le (by omega)
    · have old : ∀ p ∈ runG (T.take k), p.1 ∈ N ∧ p.2.length ≤ k + 1 ∧ ∃ ns : List Int, p.2 = ns.map D.int := fun p hp => ⟨(h2 p hp).1, Nat.le_succ_of_le (h2 p hp).2.1, (h2 p hp).2.2⟩
      have get : ∀ n, ((nget (runG (T.take k)) n).getD []).length ≤ k ∧ ∃ ns : List Int, (nget (runG (T.take k)) n).getD [] = ns.map D.int := fun n => by
        cases e : nget (runG (T.take k)) n with
        | none => exact ⟨Nat.zero_le _, [], rfl⟩
        | some b => exact (h2 _ (nget_some_mem e)).2
      obtain ⟨_, hst, hnm, hin⟩ := hq
      cases q with
      | mk n =>
        rcases nput_mem hp with rfl | ⟨hp, _⟩
        · exact ⟨hnm, Nat.zero_le _, [], rfl⟩
        · exact old p hp
      | ad n bs =>
        rcases nput_mem hp with rfl | ⟨hp, _⟩
        · obtain ⟨g1, ns1, g2⟩ := get n
          obtain ⟨g3, ns2, g4⟩ := hin
          exact ⟨hnm, by show (_ ++ _ : List D).length ≤ _; rw [List.length_append]; omega, ns1 ++ ns2, by show _ ++ _ = _; rw [g2, g4, List.map_append]⟩
        · exact old p hp
      | ct n j =>
        rcases nput_mem hp with rfl | ⟨hp, _⟩
        · obtain ⟨g1, ns1, g2⟩ := get n
          refine ⟨hnm, ?_, ns1.take j, ?_⟩
          · show (cutD _ none (some (j : Int))).length ≤ _
            rw [cutD_to, List.length_take]; omega
          · show cutD _ none (some (j : Int)) = _
            rw [cutD_to, g2, List.map_take]
        · exact old p hp
      | dr n => exact old p ((ndrop_sub _ n).subset hp)
theorem Valid.bound {N : List Str} {T : List DkD} (v : Valid N T) : (runG T).length ≤ T.length ∧ ∀ p ∈ runG T, p.1 ∈ N ∧ p.2.length ≤ T.length ∧ ∃ ns : List Int, p.2 = ns.map D.int := by
  have := run_bound v T.length (Nat.le_refl _)
  rwa [List.take_length] at this
def DkD.part : DkD → Nat → DkD
  | .ad n bs, k => .ad n (bs.take k)
  | q, _ => q
theorem part_singles {q : DkD} {k : Nat} (h1 : 0 < k) (h2 : k ≤ q.steps) : singles (q.part k) = (singles q).take k := by
  cases q with
  | ad n bs => show (bs.take k).map _ = _; rw [List.map_take]; rfl
  | mk n =>
    have h2 : k ≤ 1 := h2
    have : k = 1 := by omega
    subst this; rfl
  | ct n j =>
    have h2 : k ≤ 1 := h2
    have : k = 1 := by omega
    subst this; rfl
  | dr n =>
    have h2 : k ≤ 1 := h2
    have : k = 1 := by omega
    subst this; rfl
theorem part_steps {q : DkD} {k : Nat} (h1 : 0 < k) (h2 : k ≤ q.steps) : (q.part k).steps = k := by
  rw [← singles_len, part_singles h1 h2, List.length_take, singles_len]; omega
theorem part_nm (q : DkD) (k : Nat) : (q.part k).nm = q.nm := by cases q <;> rfl
theorem part_fits {q : DkD} {G : Fls} (k : Nat) (h : q.fits G) : (q.part k).fits G := by cases q <;> exact h
theorem part_ints {q : DkD} {m : Nat} (k : Nat) (h : lInts m q) : lInts m (q.part k) := by
  cases q with
  | ad n bs =>
    obtain ⟨h1, ns, rfl⟩ := h
    exact ⟨by show ((ns.map D.int).take k).length ≤ _; rw [List.length_take]; omega, ns.take k, by rw [List.map_take]⟩
  | _ => exact True.intro
def LogV (N : List Str) (E : List DkD) : Prop := ∀ i q, E[i]? = some q → 0 < q.steps ∧ q.fits (runG ((E.take i).flatMap singles)) ∧ q.nm ∈ N ∧ lInts 1000000 q
theorem LogV.nil {N : List Str} : LogV N [] := fun i q h => by simp at h
theorem LogV.snoc {N : List Str} {E : List DkD} {q : DkD} (v : LogV N E) (h : 0 < q.steps ∧ q.fits (runG (E.flatMap singles)) ∧ q.nm ∈ N ∧ lInts 1000000 q) : LogV N (E ++ [q]) := fun i p e => by
  by_cases c : i < E.length
  · rw [List.getElem?_append_left c] at e
    rw [List.take_append_of_le_length (Nat.le_of_lt c)]
    exact v i p e
  · have hl := (List.getElem?_eq_some_iff.mp e).1
    rw [List.length_append, List.length_singleton] at hl
    have : i = E.length := by omega
    subst this
    rw [List.getElem?_append_right (Nat.le_refl _), Nat.sub_self] at e
    cases e
    rw [List.take_append_of_le_length (Nat.le_refl _), List.take_length]
    exact h
theorem LogV.len {N : List Str} {E : List DkD} (v : LogV N E) : E.length ≤ (E.flatMap singles).length := by
  have key : ∀ k, k ≤ E.length → k ≤ ((E.take k).flatMap singles).length := by
    intro k
    induction k with
    | zero => intro _; exact Nat.zero_le _
    | succ k ih =>
      intro hk
      obtain ⟨q, eq⟩ : ∃ q, E[k]? = some q := ⟨E[k]'hk, List.getElem?_eq_getElem hk⟩
      have := (v k q eq).1
      rw [List.take_succ, eq, List.flatMap_append, List.length_append]
      show _ ≤ _ + ((singles q) ++ []).length
      rw [List.append_nil, singles_len]
      have := ih (Nat.le_of_succ_le hk)
      omega
  have := key E.length (Nat.le_refl _)
  rwa [List.take_length] at this
theorem LogV.mono {N M : List Str} (h : ∀ n ∈ N, n ∈ M) {E : List DkD} (v : LogV N E) : LogV M E := fun i q e => ⟨(v i q e).1, (v i q e).2.1, h _ (v i q e).2.2.1, (v i q e).2.2.2⟩
def t_deed_part (K : PySem.W.Frag) : TS :=
      (tSeq (tIfS (tTest (tOp (rEqU K) (tOp (rIxU K) (tVar 0) (tC (.int 0))) (tC (.str ("add" : Str)))))
      (tRet (tTup (tCons (tOp (rIxU K) (tVar 0) (tC (.int 0))) (tCons (tOp (rIxU K) (tVar 0) (tC (.int 1))) (tCons (tSl (rSlU K) (tOp (rIxU K) (tVar 0) (tC (.int 2))) tNoPart (tPart (tVar 1))) tNil)))))
      tNext)
      (tRet (tVar 0)))
abbrev N_deed_part : List Str := [("deed" : Str), ("many" : Str)]
def v_deed_part (K : PySem.W.Frag) : VS :=
      (vSeqS (vIf (vTest (vOp vEqC (vOp vIx (vVar 0) (vC (.int 0))) (vC (.str ("add" : Str)))))
      (vRet (vTup (vCons (vOp vIx (vVar 0) (vC (.int 0))) (vCons (vOp vIx (vVar 0) (vC (.int 1))) (vCons (vSl vCut (vOp vIx (vVar 0) (vC (.int 2))) vNoPart (vPart (vVar 1))) vNil)))))
      vNext)
      (vRet (vVar 0)))
theorem sim_deed_part {K : PySem.W.Frag} {vsp : VSp} (hv : ∀ ds m P VX, vsp ds m P VX → ds.length = 2 ∧ v_deed_part K (vends P) (vstart N_deed_part.length ds) m) :
    ∀ us H Q E, spV K .F vsp us H Q E → t_deed_part K { nx := fun _ H' => Q .non H', rt := Q } (L2.start N_deed_part us) H :=
  sim_def (n := 2) (t := .F) (N := N_deed_part) (Γn := [.F, .F]) (Γb := []) (Γc := []) (ts := fun E => t_deed_part K) (vs := fun VX => v_deed_part K) (by decide) (fun c W VX hK hx => by
    subst hK
    exact (x_seq (x_if (Γn := [.F, .F]) (s_test (SO.b (s_op o_eq (SF.b (s_opF o_ix (SF.b (s_varF (by rfl))) (SO.b s_int))) (SO.b s_str))))
      (x_retF (SO.f (s_tup (g_cons (s_opF o_ix (SF.b (s_varF (by rfl))) (SO.b s_int)) (g_cons (s_opF o_ix (SF.b (s_varF (by rfl))) (SO.b s_int)) (g_cons (SO.f (s_sl o_cut (SF.b (s_opF o_ix (SF.b (s_varF (by rfl))) (SO.b s_int))) s_nopart (s_part (SF.b (s_varF (by rfl)))))) g_nil))))))
      x_next)
      (x_retV (by rfl)))) hv
def t_Disk_fallen (K : PySem.W.Frag) (s_deed_steps_ : Sp) (s_deed_part_ : Sp) (s_Disk_keep_deed_ : Sp) (s_Disk_init_ : Sp) (c_Disk : Addr) : TS :=
      (tSeq (tAsg (tMakeQ c_Disk s_Disk_init_ (fun _ => E0) tNil) (gName 2))
      (tSeq (tAsg (tVar 1) (gName 3))
      (tSeq (tFor (iSeqV K (tFld K (tVar 0) ("own_log" : Str))) (gName 4)
      (tSeq (tAsg (tCB (rMin2) (tCons (tVar 3) (tCons (tCall s_deed_steps_ [] E0 (tCons (tVar 4) tNil)) tNil))) (gName 5))
      (tSeq (tIfS (tTest (tOp (rGtV) (tVar 5) (tC (.int 0))))
      (tDrop (tMethQ c_Disk ("keep_deed" : Str) s_Disk_keep_deed_ (fun _ => E0) (tVar 2) (tCons (tCall s_deed_part_ [] E0 (tCons (tVar 4) (tCons (tVar 5) tNil))) tNil)))
      tNext)
      (tAsg (tOp (rSubU) (tVar 3) (tVar 5)) (gName 3)))))
      (tRet (tVar 2)))))
abbrev N_Disk_fallen : List Str := [("self" : Str), ("k" : Str), ("disk" : Str), ("left" : Str), ("deed" : Str), ("many" : Str)]
def v_Disk_fallen (K : PySem.W.Frag) (vs_deed_steps : VSp) (vs_deed_part : VSp) (vs_Disk_keep_deed : VSp) (vs_Disk_init : VSp) (c_Disk : Addr) : VS :=
      (vSeqS (vAsg (vMake c_Disk vs_Disk_init (fun _ _ _ _ => False) vNil) (vgName 2))
      (vSeqS (vAsg (vVar 1) (vgName 3))
      (vSeqS (vForB [0, 1, 4, 5] (vSeqB (vFld c_Disk ("own_log" : Str) (vVar 0))) (vgName 4)
      (vSeqS (vAsg (vCB vMin2 (vCons (vVar 3) (vCons (vCall vs_deed_steps (vCons (vVar 4) vNil)) vNil))) (vgName 5))
      (vSeqS (vIf (vTest (vOp vGt (vVar 5) (vC (.int 0))))
      (vDrop (vMeth c_Disk ("keep_deed" : Str) vs_Disk_keep_deed (fun _ _ _ _ => False) (vVar 2) (vCons (vCall vs_deed_part (vCons (vVar 4) (vCons (vVar 5) vNil))) vNil)))
      vNext)
      (vAsg (vOp vSub (vVar 3) (vVar 5)) (vgName 3)))))
      (vRet (vVar 2)))))
theorem sim_Disk_fallen {K : PySem.W.Frag} {vs_deed_steps : VSp} {vs_deed_part : VSp} {vs_Disk_keep_deed : VSp} {vs_Disk_init : VSp} {c_Disk : Addr} (kx_Disk : ClsK K c_Disk [("own_files" : Str), ("own_log" : Str), ("so_many" : Str)]) {vsp : VSp} (hv : ∀ ds m P VX, vsp ds m P VX → ds.length = 2 ∧ v_Disk_fallen K vs_deed_steps vs_deed_part vs_Disk_keep_deed vs_Disk_init c_Disk (vends P) (vstart N_Disk_fallen.length ds) m) :
    ∀ us H Q E, spV K .F vsp us H Q E → t_Disk_fallen K (spV K .O vs_deed_steps) (spV K .F vs_deed_part) (spV K .O vs_Disk_keep_deed) (spV K .O vs_Disk_init) c_Disk { nx := fun _ H' => Q .non H', rt := Q } (L2.start N_Disk_fallen us) H :=
  sim_def (n := 2) (t := .F) (N := N_Disk_fallen) (Γn := [.F, .F, .F, .F, .F, .F]) (Γb := []) (Γc := []) (ts := fun E => t_Disk_fallen K (spV K .O vs_deed_steps) (spV K .F vs_deed_part) (spV K .O vs_Disk_keep_deed) (spV K .O vs_Disk_init) c_Disk) (vs := fun VX => v_Disk_fallen K vs_deed_steps vs_deed_part vs_Disk_keep_deed vs_Disk_init c_Disk) (by decide) (fun c W VX hK hx => by
    subst hK
    exact (x_seq (x_asgF (i := 2) (s_make (t := .O) (W := (fun _ _ _ _ => False)) (VW := (fun _ _ _ _ => False)) exOk_no g_nil))
      (x_seq (x_asgF (i := 3) (s_varF (by rfl)))
      (x_seq (x_forB (Γ' := [.F, .F, .F, .F, .F, .F]) (ws := [0, 1, 4, 5]) (ib_seq (s_fld kx_Disk (by decide) (s_varF (by rfl)))) (tg_name (is := [4]) (by rfl) (by decide))
      (x_post (Γ1 := [.F, .F, .F, .O, .F, .F]) (Γn := [.F, .F, .F, .F, .F, .F]) (x_seq (x_asgO (i := 5) (s_cb l_min2 (a_cons (SF.b (s_varF (by rfl))) (a_cons (SO.b (s_callO (g_cons (s_varF (by rfl)) g_nil))) a_nil))))
      (x_seq (x_if (Γn := [.F, .F, .F, .F, .F, .F]) (s_test (SO.b (s_op o_gt (s_varB (t := .O) (by rfl)) (SO.b s_int))))
      (x_pre (Γ1 := [.F, .F, .F, .F, .F, .F]) (x_drop (SO.b (s_methO (W := (fun _ _ _ _ => False)) (VW := (fun _ _ _ _ => False)) exOk_no (s_varF (by rfl)) (g_cons (s_callF (g_cons (s_varF (by rfl)) (g_cons (s_varF (by rfl)) g_nil))) g_nil)))))
      (x_post (Γ1 := [.F, .F, .F, .F, .F, .O]) (Γn := [.F, .F, .F, .F, .F, .F]) x_next))
      (x_asgO (i := 3) (s_op o_sub (SF.b (s_varF (by rfl))) (SF.b (s_varF (by rfl)))))))))
      (x_retV (by rfl)))))) hv
def t_single_steps (K : PySem.W.Frag) : TS :=
      (tSeq (tAsg (tVar 0) (gTup K 3 (gCons (gName 1) (gCons (gName 2) (gCons (gName 3) gNil)))))
      (tSeq (tIfS (tTest (tOp (rEqU K) (tVar 1) (tC (.str ("add" : Str)))))
      (tRet (tLc (iSeqV K (tVar 3)) (gName 4) tYes (tTup (tCons (tC (.str ("byte" : Str))) (tCons (tVar 2) (tCons (tVar 4) tNil)))) [4]))
      tNext)
      (tRet (tLst (tCons (tVar 0) tNil)))))
abbrev N_single_steps : List Str := [("_law_deed" : Str), ("_law_word" : Str), ("_law_name" : Str), ("_law_more" : Str), ("_law_byte" : Str)]
def v_single_steps (K : PySem.W.Frag) : VS :=
      (vSeqS (vAsg (vVar 0) (vgTup 3 (vgCons (vgName 1) (vgCons (vgName 2) (vgCons (vgName 3) vgNil)))))
      (vSeqS (vIf (vTest (vOp vEqC (vVar 1) (vC (.str ("add" : Str)))))
      (vRet (vLcB (vSeqB (vVar 3)) (vgName 4) vYes (vTup (vCons (vC (.str ("byte" : Str))) (vCons (vVar 2) (vCons (vVar 4) vNil)))) [4]))
      vNext)
      (vRet (vLst (vCons (vVar 0) vNil)))))
theorem sim_single_steps {K : PySem.W.Frag} {vsp : VSp} (hv : ∀ ds m P VX, vsp ds m P VX → ds.length = 1 ∧ v_single_steps K (vends P) (vstart N_single_steps.length ds) m) :
    ∀ us H Q E, spV K .O vsp us H Q E → t_single_steps K { nx := fun _ H' => Q .non H', rt := Q } (L2.start N_single_steps us) H :=
  sim_def (n := 1) (t := .O) (N := N_single_steps) (Γn := [.F, .F, .F, .F, .F]) (Γb := []) (Γc := []) (ts := fun E => t_single_steps K) (vs := fun VX => v_single_steps K) (by decide) (fun c W VX hK hx => by
    subst hK
    exact (x_seq (x_asgT (s_varF (by rfl)) (tg_tup (tg_cons (tg_name (is := [1, 2, 3]) (by rfl) (by decide)) (tg_cons (tg_name (is := [1, 2, 3]) (by rfl) (by decide)) (tg_cons (tg_name (is := [1, 2, 3]) (by rfl) (by decide)) tg_nil)))))
      (x_seq (x_if (Γn := [.F, .F, .F, .F, .F]) (s_test (SO.b (s_op o_eq (SF.b (s_varF (by rfl))) (SO.b s_str))))
      (x_retO (s_lcB (vs := [4]) (ib_seq (s_varF (by rfl))) (by rfl) (tg_name (is := [4]) (by rfl) (by decide)) s_yes (SO.f (s_tup (g_cons (SO.f s_str) (g_cons (s_varF (by rfl)) (g_cons (s_varF (by rfl)) g_nil)))))))
      x_next)
      (x_retO (s_lst (g_cons (s_varF (by rfl)) g_nil)))))) hv
def t_files_by (K : PySem.W.Frag) : TS :=
      (tSeq (tAsg tDNewK (gName 1))
      (tSeq (tFor (iSeqV K (tVar 0)) (gTup K 3 (gCons (gName 2) (gCons (gName 3) (gCons (gName 4) gNil))))
      (tIfS (tTest (tOp (rEqU K) (tVar 2) (tC (.str ("make" : Str)))))
      (tAsg (tLst tNil) (gSub (tVar 1) (tVar 3) rSetU))
      (tIfS (tTest (tOp (rEqU K) (tVar 2) (tC (.str ("byte" : Str)))))
      (tAsg (tOp (rAddU K) (tOp (rIxU K) (tVar 1) (tVar 3)) (tLst (tCons (tVar 4) tNil))) (gSub (tVar 1) (tVar 3) rSetU))
      (tIfS (tTest (tOp (rEqU K) (tVar 2) (tC (.str ("cut" : Str)))))
      (tAsg (tSl (rSlU K) (tOp (rIxU K) (tVar 1) (tVar 3)) tNoPart (tPart (tVar 4))) (gSub (tVar 1) (tVar 3) rSetU))
      (tDrop (tDPop1 (tVar 1) (tVar 3)))))))
      (tRet (tVar 1))))
abbrev N_files_by : List Str := [("_law_steps" : Str), ("_law_files" : Str), ("_law_word" : Str), ("_law_name" : Str), ("_law_more" : Str)]
def v_files_by (K : PySem.W.Frag) : VS :=
      (vSeqS (vAsg (vBox vDNew) (vgName 1))
      (vSeqS (vFor [0, 2, 3, 4] (vSeq (vVar 0)) (vgTup 3 (vgCons (vgName 2) (vgCons (vgName 3) (vgCons (vgName 4) vgNil))))
      (vIf (vTest (vOp vEqC (vVar 2) (vC (.str ("make" : Str)))))
      (vPutS (vVar 1) (vLst vNil) (vVar 3))
      (vIf (vTest (vOp vEqC (vVar 2) (vC (.str ("byte" : Str)))))
      (vPutS (vVar 1) (vOp vAdd (vOpL vIx (vVar 1) (vVar 3)) (vLst (vCons (vVar 4) vNil))) (vVar 3))
      (vIf (vTest (vOp vEqC (vVar 2) (vC (.str ("cut" : Str)))))
      (vPutS (vVar 1) (vSl vCut (vOpL vIx (vVar 1) (vVar 3)) vNoPart (vPart (vVar 4))) (vVar 3))
      (vDrop (vDPopS (vVar 1) (vVar 3)))))))
      (vRet (vVar 1))))
theorem sim_files_by {K : PySem.W.Frag} {vsp : VSp} (hv : ∀ ds m P VX, vsp ds m P VX → ds.length = 1 ∧ v_files_by K (vends P) (vstart N_files_by.length ds) m) :
    ∀ us H Q E, spV K .F vsp us H Q E → t_files_by K { nx := fun _ H' => Q .non H', rt := Q } (L2.start N_files_by us) H :=
  sim_def (n := 1) (t := .F) (N := N_files_by) (Γn := [.F, .F, .F, .F, .F]) (Γb := []) (Γc := []) (ts := fun E => t_files_by K) (vs := fun VX => v_files_by K) (by decide) (fun c W VX hK hx => by
    subst hK
    exact (x_seq (x_asgF (i := 1) (s_box s_dnew))
      (x_seq (x_for (Γ' := [.F, .F, .F, .F, .F]) (ws := [0, 2, 3, 4]) (i_seq (s_varF (by rfl))) (tg_tup (tg_cons (tg_name (is := [2, 3, 4]) (by rfl) (by decide)) (tg_cons (tg_name (is := [2, 3, 4]) (by rfl) (by decide)) (tg_cons (tg_name (is := [2, 3, 4]) (by rfl) (by decide)) tg_nil))))
      (x_if (Γn := [.F, .F, .F, .F, .F]) (s_test (SO.b (s_op o_eq (SF.b (s_varF (by rfl))) (SO.b s_str))))
      (x_putS (s_varF (by rfl)) (SO.f (s_lst g_nil)) (s_varF (by rfl)))
      (x_if (Γn := [.F, .F, .F, .F, .F]) (s_test (SO.b (s_op o_eq (SF.b (s_varF (by rfl))) (SO.b s_str))))
      (x_putS (s_varF (by rfl)) (SO.f (s_op o_add (SF.b (s_opFL o_ix (SF.b (s_varF (by rfl))) (SF.b (s_varF (by rfl))))) (SO.b (s_lst (g_cons (s_varF (by rfl)) g_nil))))) (s_varF (by rfl)))
      (x_if (Γn := [.F, .F, .F, .F, .F]) (s_test (SO.b (s_op o_eq (SF.b (s_varF (by rfl))) (SO.b s_str))))
      (x_putS (s_varF (by rfl)) (SO.f (s_sl o_cut (SF.b (s_opFL o_ix (SF.b (s_varF (by rfl))) (SF.b (s_varF (by rfl))))) s_nopart (s_part (SF.b (s_varF (by rfl)))))) (s_varF (by rfl)))
      (x_drop (SF.b (s_dpopS (s_varF (by rfl)) (s_varF (by rfl)))))))))
      (x_retV (by rfl))))) hv
def t_disk_is (K : PySem.W.Frag) (s_same_ : Sp) (s_Disk_names_ : Sp) (s_Disk_steps_ : Sp) (s_Disk_read_ : Sp) (c_Disk : Addr) : TS :=
      (tSeq (tIfS (tOr (tNot (tTru K (tCall s_same_ [] E0 (tCons (tMethQ c_Disk ("names" : Str) s_Disk_names_ (fun _ => E0) (tVar 0) tNil) (tCons (tCB (rSortD K) (tCons (tVar 1) tNil)) tNil))))) (tNot (tTru K (tCall s_same_ [] E0 (tCons (tMethQ c_Disk ("steps" : Str) s_Disk_steps_ (fun _ => E0) (tVar 0) tNil) (tCons (tVar 2) tNil))))))
      (tRet (tC (.bl false)))
      tNext)
      (tRet (tCB (rAll K) (tCons (tLockE (tLc (iKeys (tVar 1)) (gName 3) tYes (tCall s_same_ [] E0 (tCons (tMethQ c_Disk ("read" : Str) s_Disk_read_ (fun _ => E0) (tVar 0) (tCons (tVar 3) tNil)) (tCons (tOp (rIxU K) (tVar 1) (tVar 3)) tNil))) [3])) tNil))))
abbrev N_disk_is : List Str := [("_law_disk" : Str), ("_law_files" : Str), ("_law_many" : Str), ("_law_name" : Str)]
def v_disk_is (K : PySem.W.Frag) (vs_same : VSp) (vs_Disk_names : VSp) (vs_Disk_steps : VSp) (vs_Disk_read : VSp) (c_Disk : Addr) : VS :=
      (vSeqS (vIf (vOr (vNot (vTru (vCallB .O vs_same (vCons (vMeth c_Disk ("names" : Str) vs_Disk_names (fun _ _ _ _ => False) (vVar 0) vNil) (vCons (vCBL vSortD (vCons (vVar 1) vNil)) vNil))))) (vNot (vTru (vCallB .O vs_same (vCons (vMeth c_Disk ("steps" : Str) vs_Disk_steps (fun _ _ _ _ => False) (vVar 0) vNil) (vCons (vVar 2) vNil))))))
      (vRet (vC (.bl false)))
      vNext)
      (vRet (vCB vAll (vCons (vLcK (vVar 1) (vgName 3) vYes (vCallB .O vs_same (vCons (vMeth c_Disk ("read" : Str) vs_Disk_read (fun _ _ _ _ => False) (vVar 0) (vCons (vVar 3) vNil)) (vCons (vOpL vIx (vVar 1) (vVar 3)) vNil))) [3]) vNil))))
theorem sim_disk_is {K : PySem.W.Frag} {vs_same : VSp} {vs_Disk_names : VSp} {vs_Disk_steps : VSp} {vs_Disk_read : VSp} {c_Disk : Addr} {vsp : VSp} (hv : ∀ ds m P VX, vsp ds m P VX → ds.length = 3 ∧ v_disk_is K vs_same vs_Disk_names vs_Disk_steps vs_Disk_read c_Disk (vends P) (vstart N_disk_is.length ds) m) :
    ∀ us H Q E, spV K .O vsp us H Q E → t_disk_is K (spV K .O vs_same) (spV K .O vs_Disk_names) (spV K .F vs_Disk_steps) (spV K .O vs_Disk_read) c_Disk { nx := fun _ H' => Q .non H', rt := Q } (L2.start N_disk_is us) H :=
  sim_def (n := 3) (t := .O) (N := N_disk_is) (Γn := [.F, .F, .F, .F]) (Γb := []) (Γc := []) (ts := fun E => t_disk_is K (spV K .O vs_same) (spV K .O vs_Disk_names) (spV K .F vs_Disk_steps) (spV K .O vs_Disk_read) c_Disk) (vs := fun VX => v_disk_is K vs_same vs_Disk_names vs_Disk_steps vs_Disk_read c_Disk) (by decide) (fun c W VX hK hx => by
    subst hK
    exact (x_seq (x_if (Γn := [.F, .F, .F, .F]) (s_or (s_not (s_tru (SO.b (s_callB (a_cons (SO.b (s_methO (W := (fun _ _ _ _ => False)) (VW := (fun _ _ _ _ => False)) exOk_no (s_varF (by rfl)) g_nil)) (a_cons (SO.b (s_cbL l_sortD (a_cons (SF.b (s_varF (by rfl))) a_nil))) a_nil)))))) (s_not (s_tru (SO.b (s_callB (a_cons (SF.b (s_methF (W := (fun _ _ _ _ => False)) (VW := (fun _ _ _ _ => False)) exOk_no (s_varF (by rfl)) g_nil)) (a_cons (SF.b (s_varF (by rfl))) a_nil)))))))
      (x_retO s_bl)
      x_next)
      (x_retO (s_cb l_all (a_cons (SO.b (s_lcK (vs := [3]) (s_varF (by rfl)) (by rfl) (tg_name (is := [3]) (by rfl) (by decide)) s_yes (SO.f (s_callB (a_cons (SO.b (s_methO (W := (fun _ _ _ _ => False)) (VW := (fun _ _ _ _ => False)) exOk_no (s_varF (by rfl)) (g_cons (s_varF (by rfl)) g_nil))) (a_cons (SF.b (s_opFL o_ix (SF.b (s_varF (by rfl))) (SF.b (s_varF (by rfl))))) a_nil)))))) a_nil))))) hv
structure VD where
  x : Addr
  y : Addr
  z : Addr
  F : List FRow
  E : List DkD
  T : List DkD
def VD.fp (v : VD) : List Addr := v.x :: v.z :: v.y :: v.F.map (·.2.1)
structure VOk (C : Addr) (N : List Str) (s : Sto) (v : VD) : Prop where
  dk : DiskAt s C v.x v.y v.z v.F v.E v.T.length
  fl : flatF v.F = runG v.T
  tt : v.E.flatMap singles = v.T
  va : Valid N v.T
  lg : LogV N v.E
theorem v_frm (C : Addr) (N : List Str) : Frm VD.fp (VOk C N) := ⟨fun s p h a ha => h.dk.som a ha, fun s s' p h e => ⟨h.dk.agree e, h.fl, h.tt, h.va, h.lg⟩⟩
theorem VOk.agree {C : Addr} {N : List Str} {s s' : Sto} {v : VD} (h : VOk C N s v) (e : ∀ a, s a ≠ none → s' a = s a) : VOk C N s' v := (v_frm C N).agr s s' v h fun a ha => e a ((v_frm C N).som s v h a ha)
theorem VOk.mono {C : Addr} {N M : List Str} (hm : ∀ n ∈ N, n ∈ M) {s : Sto} {v : VD} (h : VOk C N s v) : VOk C M s v := ⟨h.dk, h.fl, h.tt, h.va.mono hm, h.lg.mono hm⟩
theorem VOk.dkb {C : Addr} {N : List Str} {s : Sto} {v : VD} {q : DkD} (h : VOk C N s v) (hl : v.T.length ≤ 1000) (hq : q.steps ≤ 1000000) : DkB v.F v.E q := by
  obtain ⟨b1, b2⟩ := h.va.bound
  refine ⟨?_, ?_, fun p hp => ?_, hq⟩
  · rw [← FilesAt.len, h.fl]; omega
  · have := h.lg.len; rw [h.tt] at this; omega
  · rw [h.fl] at hp; have := (b2 p hp).2.1; omega
theorem VOk.go {C : Addr} {N : List Str} {s s' : Sto} {v : VD} {q : DkD} {F' : List FRow} (h : VOk C N s v) (hf : q.fits (flatF v.F)) (hn : q.nm ∈ N) (hi : lInts 1000000 q) (e : flatF F' = q.on (flatF v.F)) (hd : DiskAt s' C v.x v.y v.z F' (keepE q v.E) (v.T.length + q.steps)) :
    VOk C N s' ⟨v.x, v.y, v.z, F', keepE q v.E, v.T ++ singles q⟩ := by
  rw [h.fl] at hf e
  obtain ⟨a1, a2⟩ := h.va.sing hf hn hi
  refine ⟨?_, e.trans a2.symm, ?_, a1, ?_⟩
  · show DiskAt s' C v.x v.y v.z F' (keepE q v.E) (v.T ++ singles q).length
    rw [List.length_append, singles_len]; exact hd
  · show (keepE q v.E).flatMap singles = v.T ++ singles q
    unfold keepE
    split
    · rename_i h0
      have : singles q = [] := List.length_eq_zero_iff.mp (by rw [singles_len]; exact h0)
      rw [this, List.append_nil]; exact h.tt
    · rw [List.flatMap_append, h.tt]; show _ ++ (singles q ++ []) = _; rw [List.append_nil]
  · show LogV N (keepE q v.E)
    unfold keepE
    split
    · exact h.lg
    · exact h.lg.snoc ⟨by omega, by rw [h.tt]; exact hf, hn, hi⟩
def wDeedPart : VSp := fun ds m P _ => ∃ (q : DkD) (k : Nat), ds = [q.d, .int (k : Int)] ∧ 0 < k ∧ k ≤ q.steps ∧ P (q.part k).d m
theorem p_deed_part {K : PySem.W.Frag} (ds : List D) (m : Mst) (P : D → Mst → Prop) (VX : XV) (h : wDeedPart ds m P VX) : ds.length = 2 ∧ v_deed_part K (vends P) (vstart N_deed_part.length ds) m := by
  obtain ⟨q, k, rfl, h0, h1, hP⟩ := h
  refine ⟨rfl, ?_⟩
  unfold v_deed_part
  cases q with
  | mk n =>
    unfold DkD.d
    walk_at "vw"
    refine e_ixT (x := .str "make") (atI_nat (j := 0) rfl) ?_
    walk_at "vw"
    exact hP
  | ad n bs =>
    unfold DkD.d
    walk_at "vw"
    refine e_ixT (x := .str "add") (atI_nat (j := 0) rfl) ?_
    walk_at "vw"
    refine e_ixT (x := .str "add") (atI_nat (j := 0) rfl) ?_
    walk_at "vw"
    refine e_ixT (x := .str n) (atI_nat (j := 1) rfl) ?_
    walk_at "vw"
    refine e_ixT (x := .lst bs) (atI_nat (j := 2) rfl) ?_
    walk_at "vw"
    rw [cutD_to]
    exact hP
  | ct n j =>
    unfold DkD.d
    walk_at "vw"
    refine e_ixT (x := .str "cut") (atI_nat (j := 0) rfl) ?_
    walk_at "vw"
    exact hP
  | dr n =>
    unfold DkD.d
    walk_at "vw"
    refine e_ixT (x := .str "drop") (atI_nat (j := 0) rfl) ?_
    walk_at "vw"
    exact hP
theorem flatMap_snoc {E : List DkD} {i : Nat} {q : DkD} (e : E[i]? = some q) : (E.take (i + 1)).flatMap singles = (E.take i).flatMap singles ++ singles q := by
  rw [List.take_succ, e, List.flatMap_append]; show _ ++ (singles q ++ []) = _; rw [List.append_nil]
def wFallen (C : Addr) : VSp := fun ds m P _ => ∃ (N : List Str) (v : VD) (k : Nat), ds = [.adr v.x, .int (k : Int)] ∧ VOk C N m.2 v ∧ v.T.length ≤ 1000 ∧
  ∀ (v' : VD) (s' : Sto), VOk C N s' v' → v'.T = v.T.take k → (∀ a ∈ v'.fp, m.2 a = none) → (∀ a, m.2 a ≠ none → s' a = m.2 a) → P (.adr v'.x) (m.1, s')
theorem p_Disk_fallen {K : PySem.W.Frag} {C : Addr} (ds : List D) (m : Mst) (P : D → Mst → Prop) (VX : XV) (h : wFallen C ds m P VX) : ds.length = 2 ∧ v_Disk_fallen K wDeedSteps wDeedPart (wKeepDeed C) (wDkInit C) C (vends P) (vstart N_Disk_fallen.length ds) m := by
  obtain ⟨N, v, k, rfl, hv, hl, hP⟩ := h
  obtain ⟨q0, s0⟩ := m
  refine ⟨rfl, ?_⟩
  dsimp only at hv hP
  have hd := hv.dk
  unfold v_Disk_fallen
  walk_at "vw"
  intro x hx
  refine ⟨x, rfl, sput_same, fun y z s1 hy hz hd1 hfr => ⟨rfl, ?_⟩⟩
  dsimp only at hx hy hz hd1 hfr
  have nyx : y ≠ x := fun e => by rw [e, sput_same] at hy; cases hy
  have nzx : z ≠ x := fun e => by rw [e, sput_same] at hz; cases hz
  rw [sput_ne nyx] at hy
  rw [sput_ne nzx] at hz
  have fr1 : ∀ a, s0 a ≠ none → s1 a = s0 a := fun a h => by
    have nax : a ≠ x := fun e => h (by rw [e]; exact hx)
    exact (hfr a (by rw [sput_ne nax]; exact h) nax).trans (sput_ne nax)
  have hv1 := hv.agree fr1
  have hd2 := hv1.dk
  walk_at "vw"
  refine ⟨v.x, _, _, rfl, hd2.ob, rfl, ?_⟩
  refine e_itSB hd2.lg ?_
  have hEl : v.E.length ≤ 1000 := by have := hv.lg.len; rw [hv.tt] at this; omega
  refine forB_inv (fun i e m' => ∃ (v' : VD) (s' : Sto), m' = (q0, s') ∧ VOk C N s' v' ∧ v'.T = ((v.E.take i).flatMap singles).take k ∧ v'.x = x ∧ (∀ a ∈ v'.fp, s0 a = none) ∧ (∀ a, s0 a ≠ none → s' a = s0 a) ∧ e = [none, none, some (.adr x), some (.int ((k - ((v.E.take i).flatMap singles).length : Nat) : Int)), none, none])
    ⟨⟨x, y, z, [], [], []⟩, s1, rfl, ⟨hd1, rfl, rfl, Valid.nil, LogV.nil⟩, by simp, rfl, fun a ha => ?_, fr1, by simp; rfl⟩ ?_ ?_ ?_
  · simp only [VD.fp, List.mem_cons, List.map_nil, List.not_mem_nil, or_false] at ha
    rcases ha with rfl | rfl | rfl
    · exact hx
    · exact hz
    · exact hy
  · rintro i e m' ⟨v', s', rfl, _, _, _, _, fr, _⟩ p hp
    rw [List.mem_singleton.mp hp]
    exact ⟨(fr v.z (by rw [hd.lg]; exact fun h => nomatch h)).trans hd.lg, _, rfl⟩
  · rintro i e m' d hi ⟨v', s', rfl, hv', hT, hx', hn', fr, rfl⟩ ed
    rw [List.getElem?_map] at ed
    obtain ⟨q, eq, rfl⟩ := Option.map_eq_some_iff.mp ed
    obtain ⟨hs0, hfit, hnm, hint⟩ := hv.lg i q eq
    have hsn := flatMap_snoc eq
    have hlen : ((v.E.take (i + 1)).flatMap singles).length = ((v.E.take i).flatMap singles).length + q.steps := by rw [hsn, List.length_append, singles_len]
    have hTl : ((v.E.take i).flatMap singles).length ≤ v.T.length := by
      rw [← hv.tt]
      have : v.E.flatMap singles = (v.E.take i).flatMap singles ++ (v.E.drop i).flatMap singles := by rw [← List.flatMap_append, List.take_append_drop]
      rw [this, List.length_append]; omega
    rw [hsn]
    generalize ((v.E.take i).flatMap singles) = Ti at *
    have hdv := hv'.dk
    have hT1 : v'.T.length ≤ 1000 := by
      rw [hT, List.length_take]; omega
    have hql : q.steps ≤ 1000000 := by
      cases q with
      | ad n bs => exact hint.1
      | _ => exact (by decide : (1 : Nat) ≤ 1000000)
    walk_at "vw"
    refine ⟨q, rfl, ?_⟩
    walk_at "vw"
    have emin : (if (q.steps : Int) < ((k - Ti.length : Nat) : Int) then (q.steps : Int) else ((k - Ti.length : Nat) : Int)) = ((min q.steps (k - Ti.length) : Nat) : Int) := by split <;> omega
    rw [emin]
    have eleft : ((k - Ti.length : Nat) : Int) - ((min q.steps (k - Ti.length) : Nat) : Int) = ((k - (Ti ++ singles q).length : Nat) : Int) := by rw [List.length_append, singles_len]; omega
    refine w_ifd (fun c => ?_) (fun c => ?_)
    · have hTe : v'.T = Ti := by rw [hT]; exact List.take_of_length_le (by omega)
      have hmn : min q.steps (k - Ti.length) ≤ q.steps := Nat.min_le_left _ _
      have hm0 : 0 < min q.steps (k - Ti.length) := by omega
      have hTt : Ti ++ singles (q.part (min q.steps (k - Ti.length))) = (Ti ++ singles q).take k := by
        rw [part_singles hm0 hmn, List.take_append, List.take_of_length_le (show Ti.length ≤ k by omega)]
        congr 1
        by_cases c2 : q.steps ≤ k - Ti.length
        · rw [Nat.min_eq_left c2, List.take_of_length_le (Nat.le_of_eq (singles_len q)), List.take_of_length_le (by rw [singles_len]; exact c2)]
        · rw [Nat.min_eq_right (by omega)]
      have hps := part_steps hm0 hmn
      have hpn := part_nm q (min q.steps (k - Ti.length))
      have hpi := part_ints (min q.steps (k - Ti.length)) hint
      have hpf : (q.part (min q.steps (k - Ti.length))).fits (flatF v'.F) := by rw [hv'.fl, hTe]; exact part_fits _ hfit
      walk_at "vw"
      refine ⟨x, _, rfl, by rw [← hx']; exact hdv.ob, by kernel_rfl, ?_⟩
      walk_at "vw"
      refine ⟨q, min q.steps (k - Ti.length), rfl, hm0, hmn, ?_⟩
      walk_at "vw"
      generalize q.part (min q.steps (k - Ti.length)) = p at *
      refine ⟨v'.x, v'.y, v'.z, v'.F, v'.E, v'.T.length, p, by rw [hx'], hdv, hpf, hv'.dkb hT1 (by omega), fun F' s2 e1 hd2 hf2 => ?_⟩
      have hvo := hv'.go hpf (by rw [hpn]; exact hnm) hpi e1 hd2
      walk_at "vw"
      rw [eleft]
      have nA : ∀ a ∈ v'.F.map (·.2.1), s0 a = none := fun a ha => hn' a (List.mem_cons_of_mem _ (List.mem_cons_of_mem _ (List.mem_cons_of_mem _ ha)))
      refine ⟨⟨v'.x, v'.y, v'.z, F', keepE p v'.E, v'.T ++ singles p⟩, s2, rfl, hvo, by show v'.T ++ singles p = _; rw [hTe]; exact hTt, hx', fun a ha => ?_, fun a ha => ?_, rfl⟩
      · simp only [VD.fp, List.mem_cons] at ha
        rcases ha with rfl | rfl | rfl | ha
        · exact hn' _ (by simp [VD.fp])
        · exact hn' _ (by simp [VD.fp])
        · exact hn' _ (by simp [VD.fp])
        · rcases hf2.nw a ha with h | h
          · exact nA a h
          · cases e : s0 a with
            | none => rfl
            | some u =>
              have := fr a (by rw [e]; exact fun h => nomatch h)
              dsimp only at h
              rw [this, e] at h; cases h
      · refine (hf2.fr a (by dsimp only; rw [fr a ha]; exact ha) ?_ fun h => ha (nA a h)).trans (fr a ha)
        simp only [List.mem_cons, List.not_mem_nil, or_false, not_or]
        exact ⟨fun e => ha (by rw [e]; exact hn' _ (by simp [VD.fp])), fun e => ha (by rw [e]; exact hn' _ (by simp [VD.fp])), fun e => ha (by rw [e]; exact hn' _ (by simp [VD.fp]))⟩
    · walk_at "vw"
      rw [eleft]
      refine ⟨v', s', rfl, hv', ?_, hx', hn', fr, rfl⟩
      rw [hT, List.take_append_of_le_length (by omega)]
  · rintro e m' ⟨v', s', rfl, hv', hT, hx', hn', fr, rfl⟩
    rw [List.length_map, List.take_length, hv.tt] at hT
    walk_at "vw"
    rw [← hx']
    exact hP v' s' hv' hT hn' fr
def sgD : DkD → D
  | .mk n => .tup [.str "make", .str n, .non]
  | .ad n bs => .tup [.str "byte", .str n, bs.headD .non]
  | .ct n k => .tup [.str "cut", .str n, .int (k : Int)]
  | .dr n => .tup [.str "drop", .str n, .non]
theorem lcB_mapL2 {xs : List D} {h : D → D} {bs : List (Addr × D)} {vg : VG} {ve : VE} {vs : List Nat} {env : Env} {m : Mst} {P : D → Mst → Prop} (hz : xs.length ≤ 16777216) (hst : Stand bs m.2) (hs : ∀ (i : Nat) (x : D) (Q : D → Mst → Prop), xs[i]? = some x → Q (h x) m → vg x (wipeE env vs) fun e1 => ve e1 m Q)
  (k : P (.lst (xs.map h)) m) : lcDB xs bs vg vYes ve vs env m P := by
  refine ⟨fun i acc m' => acc = (xs.take i).map h ∧ m' = m, ⟨by rw [List.take_zero]; rfl, rfl⟩, ?_, ?_, ?_⟩
  · rintro i acc m' ⟨_, rfl⟩
    exact hst
  · rintro i acc m' d ⟨rfl, rfl⟩ e
    have hi := (List.getElem?_eq_some_iff.mp e).1
    refine hs i d _ e ⟨by rw [List.length_map, List.length_take]; exact sz_lt (by omega), ?_, rfl⟩
    rw [List.take_succ, e, List.map_append]; rfl
  · rintro acc m' ⟨rfl, rfl⟩
    rw [List.take_length]
    exact k
def wSingle : VSp := fun ds m P _ => ∃ (q : DkD) (d : D), ds = [d] ∧ lD m.2 d q ∧ q.steps ≤ 1000 ∧ P (.lst ((singles q).map sgD)) m
theorem p_single_steps {K : PySem.W.Frag} (ds : List D) (m : Mst) (P : D → Mst → Prop) (VX : XV) (h : wSingle ds m P VX) : ds.length = 1 ∧ v_single_steps K (vends P) (vstart N_single_steps.length ds) m := by
  obtain ⟨q, d, rfl, hl, hs, hP⟩ := h
  refine ⟨rfl, ?_⟩
  unfold v_single_steps
  cases q with
  | mk n =>
    obtain rfl := hl
    unfold DkD.d
    walk_at "vw"
    exact hP
  | ad n bs =>
    obtain ⟨b, rfl, hb⟩ := hl
    walk_at "vw"
    refine e_itSB hb ?_
    have hlb : bs.length ≤ 1000 := hs
    refine lcB_mapL2 (h := fun b => sgD (.ad n [b])) (by omega) (fun q hq => by rw [List.mem_singleton.mp hq]; exact ⟨hb, _, rfl⟩) (fun i d Q ed hQ => ?_) ?_
    · walk_at "vw"
      exact hQ
    · walk_at "vw"
      rw [show singles (.ad n bs) = bs.map (fun b => DkD.ad n [b]) from rfl, List.map_map] at hP
      exact hP
  | ct n j =>
    obtain rfl := hl
    unfold DkD.d
    walk_at "vw"
    exact hP
  | dr n =>
    obtain rfl := hl
    unfold DkD.d
    walk_at "vw"
    exact hP
def wFilesBy : VSp := fun ds m P _ => ∃ (N : List Str) (T : List DkD), ds = [.lst (T.map sgD)] ∧ Valid N T ∧ T.length ≤ 1000 ∧ ∀ y s', m.2 y = none → s' y = some (.dic (nkD D.lst (runG T))) → (∀ a, m.2 a ≠ none → s' a = m.2 a) → P (.adr y) (m.1, s')
theorem p_files_by {K : PySem.W.Frag} (ds : List D) (m : Mst) (P : D → Mst → Prop) (VX : XV) (h : wFilesBy ds m P VX) : ds.length = 1 ∧ v_files_by K (vends P) (vstart N_files_by.length ds) m := by
  obtain ⟨N, T, rfl, hv, hl, hP⟩ := h
  obtain ⟨q0, s0⟩ := m
  refine ⟨rfl, ?_⟩
  dsimp only at hP
  unfold v_files_by
  walk_at "vw"
  intro y hy
  dsimp only at hy
  walk_at "vw"
  refine for_inv (fun i e m' => ∃ s', m' = (q0, s') ∧ s' y = some (.dic (nkD D.lst (runG (T.take i)))) ∧ (∀ a, s0 a ≠ none → s' a = s0 a) ∧ e = [none, some (.adr y), none, none, none]) ⟨_, rfl, by rw [sput_same, List.take_zero]; rfl, fun a h => sput_ne fun e => h (by rw [e]; exact hy), rfl⟩ ?_ ?_
  · rintro i e m' d hi ⟨s', rfl, hy', fr, rfl⟩ ed
    rw [List.getElem?_map] at ed
    obtain ⟨q, eq, rfl⟩ := Option.map_eq_some_iff.mp ed
    rw [List.length_map] at hi
    obtain ⟨hf, hs1, hnm, hint⟩ := hv i q eq
    have eT : runG (T.take (i + 1)) = q.on (runG (T.take i)) := by rw [List.take_succ, eq]; exact runG_snoc _ q
    obtain ⟨hb1, hb2⟩ := (hv.take i).bound
    have hti : (T.take i).length ≤ 1000 := by rw [List.length_take]; omega
    have fin : ∀ s2, s2 y = some (.dic (nkD D.lst (q.on (runG (T.take i))))) → (∀ a, a ≠ y → s2 a = s' a) → ∃ s'', ((q0, s2) : Mst) = (q0, s'') ∧ s'' y = some (.dic (nkD D.lst (runG (T.take (i + 1))))) ∧ (∀ a, s0 a ≠ none → s'' a = s0 a) ∧ ([none, some (.adr y), none, none, none] : Env) = [none, some (.adr y), none, none, none] := fun s2 h1 h2 =>
      ⟨s2, rfl, by rw [eT]; exact h1, fun a h => (h2 a fun e => h (by rw [e]; exact hy)).trans (fr a h), rfl⟩
    generalize runG (T.take i) = G at *
    cases q with
    | mk n =>
      unfold sgD
      walk_at "vw"
      refine ⟨y, rfl, ?_⟩
      walk_at "vw"
      refine e_putSD (k := .inr n) (kds := nkD D.lst G) hy' rfl (by rw [nkD_len]; omega) ?_
      rw [nk_put D.lst G n []]
      walk_at "vw"
      exact fin _ sput_same fun a h => sput_ne h
    | ad n bs =>
      obtain ⟨b0, hb0⟩ := hf
      obtain ⟨b, rfl⟩ : ∃ b, bs = [b] := List.length_eq_one_iff.mp hs1
      replace hb0 : nget G n = some b0 := hb0
      have hlb := (hb2 _ (nget_some_mem hb0)).2.1
      rw [show sgD (.ad n [b]) = .tup [.str "byte", .str n, b] from rfl]
      walk_at "vw"
      show vIx (lookS s' y) (.str n) _
      rw [lookS_dic hy']
      refine ⟨.inr n, _, rfl, by rw [nk_get, hb0]; rfl, ?_⟩
      walk_at "vw"
      refine e_addL (by rw [List.length_singleton]; dsimp only at hlb; omega) ?_
      walk_at "vw"
      refine ⟨y, rfl, ?_⟩
      walk_at "vw"
      refine e_putSD (k := .inr n) (kds := nkD D.lst G) hy' rfl (by rw [nkD_len]; omega) ?_
      rw [nk_put D.lst G n (b0 ++ [b])]
      have e : nput G n (b0 ++ [b]) = (DkD.ad n [b]).on G := by
        show _ = nput G n ((nget G n).getD [] ++ [b])
        rw [hb0]; rfl
      rw [e]
      walk_at "vw"
      exact fin _ sput_same fun a h => sput_ne h
    | ct n k =>
      obtain ⟨b0, hb0⟩ := hf
      have hb0 : nget G n = some b0 := hb0
      unfold sgD
      walk_at "vw"
      show vIx (lookS s' y) (.str n) _
      rw [lookS_dic hy']
      refine ⟨.inr n, _, rfl, by rw [nk_get, hb0]; rfl, ?_⟩
      walk_at "vw"
      refine ⟨y, rfl, ?_⟩
      walk_at "vw"
      refine e_putSD (k := .inr n) (kds := nkD D.lst G) hy' rfl (by rw [nkD_len]; omega) ?_
      rw [nk_put D.lst G n (cutD b0 none (some (k : Int)))]
      have e : nput G n (cutD b0 none (some (k : Int))) = (DkD.ct n k).on G := by
        show _ = nput G n (cutD ((nget G n).getD []) none (some (k : Int)))
        rw [hb0]; rfl
      rw [e]
      walk_at "vw"
      exact fin _ sput_same fun a h => sput_ne h
    | dr n =>
      obtain ⟨b0, hb0⟩ := hf
      have hb0 : nget G n = some b0 := hb0
      unfold sgD
      walk_at "vw"
      refine ⟨y, _, rfl, hy', ?_⟩
      walk_at "vw"
      refine ⟨_, .inr n, .lst b0, hy', rfl, by rw [nk_get, hb0]; rfl, ?_⟩
      rw [nk_drop]
      walk_at "vw"
      exact fin _ sput_same fun a h => sput_ne h
  · rintro e m' ⟨s', rfl, hy', fr, rfl⟩
    rw [List.length_map, List.take_length] at hy'
    walk_at "vw"
    exact hP y s' hy hy' fr
def wDiskIs (C : Addr) : VSp := fun ds m P _ => ∃ (N : List Str) (v : VD) (y : Addr), ds = [.adr v.x, .adr y, .int (v.T.length : Int)] ∧ VOk C N m.2 v ∧ (∀ n ∈ N, PyData.strOk n = true) ∧ v.T.length ≤ 1000 ∧ m.2 y = some (.dic (nkD D.lst (runG v.T))) ∧ y ∉ v.fp ∧ P (.bl true) m
theorem p_disk_is {K : PySem.W.Frag} {C M : Addr} (ds : List D) (m : Mst) (P : D → Mst → Prop) (VX : XV) (h : wDiskIs C ds m P VX) :
    ds.length = 3 ∧ v_disk_is K (vSame 6) (wDkNames C) (wDkSteps C) (wDkRead C M) C (vends P) (vstart N_disk_is.length ds) m := by
  obtain ⟨N, v, y, rfl, hv, hN, hl, hy, hyf, hP⟩ := h
  obtain ⟨q0, s0⟩ := m
  refine ⟨rfl, ?_⟩
  dsimp only at hv hy hP
  have hd := hv.dk
  obtain ⟨hb1, hb2⟩ := hv.va.bound
  unfold v_disk_is
  walk_at "vw"
  refine ⟨v.x, _, rfl, hd.ob, by kernel_rfl, ?_⟩
  walk_at "vw"
  refine ⟨v.x, v.y, v.z, v.F, v.E, v.T.length, rfl, hd, fun ns' hs => ?_⟩
  rw [hv.fl] at hs
  walk_at "vw"
  show vSortD [lookS s0 y] _
  rw [lookS_dic hy]
  refine .inr ⟨(runG v.T).map (·.1), by unfold nkD; rw [List.map_map, List.map_map]; rfl, fun ns2 hp2 hs2 => ?_⟩
  obtain rfl := sortedS_eq hs ⟨hp2, hs2⟩
  have hl : ns'.length ≤ 1000 := by rw [hp2.length_eq, List.length_map]; omega
  walk_at "vw"
  refine ⟨[.lst (ns'.map D.str), .lst (ns'.map D.str)], RsAll.refl _ _, e_sameG ((gd_lst (k := 1) (by rw [List.length_map]; omega) fun d hd => ?_).le (by decide)) ?_⟩
  · obtain ⟨n, hn, rfl⟩ := List.mem_map.mp hd
    have hn2 := hp2.mem_iff.mp hn
    obtain ⟨p, hp, rfl⟩ := List.mem_map.mp hn2
    exact hN _ (hb2 p hp).1
  walk_at "vw"
  refine ⟨v.x, _, rfl, hd.ob, by kernel_rfl, ?_⟩
  walk_at "vw"
  refine ⟨v.x, v.y, v.z, v.F, v.E, v.T.length, rfl, hd, ?_⟩
  walk_at "vw"
  refine ⟨_, RsAll.refl _ _, e_sameG (gd_int (k := 6) (by decide)) ?_⟩
  walk_at "vw"
  refine e_lcKV rfl hy fun u => ?_
  have hlck : ∀ a ∈ v.fp, (lckM y u (nkD D.lst (runG v.T)) (q0, s0)).2 a = s0 a := fun a ha => sput_ne fun e => hyf (by rw [← e]; exact ha)
  have hpk : DiskAt (lckM y u (nkD D.lst (runG v.T)) (q0, s0)).2 C v.x v.y v.z v.F v.E v.T.length := hd.agree hlck
  refine lcK_Q (fun i acc m' => m' = lckM y u (nkD D.lst (runG v.T)) (q0, s0) ∧ acc = List.replicate i (.bl true)) (by rw [nkD_len]; omega) ⟨rfl, rfl⟩ (fun i acc m' h => by rw [h.1]; exact sput_same) ?_ ?_
  · rintro i acc m' p Q hi _ ⟨rfl, rfl⟩ hpe hQ
    rw [nkD_len] at hi
    obtain ⟨g, hg⟩ : ∃ g, (runG v.T)[i]? = some g := ⟨(runG v.T)[i], List.getElem?_eq_getElem hi⟩
    obtain rfl : p = (.inr g.1, .lst g.2) := by
      unfold nkD at hpe
      rw [List.getElem?_map, hg] at hpe
      exact (Option.some.inj hpe).symm
    have hm := List.mem_of_getElem? hg
    have hget : nget (runG v.T) g.1 = some g.2 := nget_mem (run_nodup v.T) hm
    have hy2 : (lckM y u (nkD D.lst (runG v.T)) (q0, s0)).2 y = some (.lck u (nkD D.lst (runG v.T))) := sput_same
    obtain ⟨_, hgl, ns, hns⟩ := hb2 g hm
    have hQ' := hQ (.bl true) (lckM y u (nkD D.lst (runG v.T)) (q0, s0)) ⟨rfl, by rw [List.replicate_succ']⟩
    generalize lckM y u (nkD D.lst (runG v.T)) (q0, s0) = mm at *
    walk_at "vw"
    refine ⟨v.x, _, rfl, hpk.ob, by kernel_rfl, ?_⟩
    walk_at "vw"
    refine ⟨v.x, v.y, v.z, v.F, v.E, v.T.length, g.1, rfl, hpk, .inl ⟨g.2, by rw [hv.fl]; exact hget, ?_⟩⟩
    walk_at "vw"
    show vIx (lookS mm.2 y) (.str g.1) _
    rw [lookS_lck hy2]
    refine ⟨.inr g.1, _, rfl, by rw [nk_get, hget]; rfl, ?_⟩
    walk_at "vw"
    have hz : g.2.length ≤ 1000000 := by omega
    refine ⟨[.lst g.2, .lst g.2], RsAll.refl _ _, e_sameG ((gd_lst (k := 1) (by omega) fun d hd => ?_).le (by decide)) ?_⟩
    · rw [hns] at hd
      obtain ⟨i, hi, rfl⟩ := List.mem_map.mp hd
      exact gd_int (by decide)
    exact ⟨.inl (D.Im.of_sc rfl), hQ'⟩
  · rintro acc m' _ ⟨rfl, rfl⟩
    walk_at "vw"
    rw [unl_lck hy, ← List.map_replicate]
    refine e_all ?_
    rw [show (List.replicate (nkD D.lst (runG v.T)).length true).all id = true by simp]
    exact hP
def t_drawn (K : PySem.W.Frag) (s_take_ : Sp) (s_files_by_ : Sp) (s_disk_deed_ : Sp) (s_done_on_ : Sp) (s_single_steps_ : Sp) (s_Disk_init_ : Sp) (c_Disk : Addr) : TS :=
      (tSeq (tAsg (tMakeQ c_Disk s_Disk_init_ (fun _ => E0) tNil) (gName 1))
      (tSeq (tAsg (tLst tNil) (gName 2))
      (tSeq (tAsg (tOp (rAddU K) (tC (.int 6)) (tCall s_take_ [] E0 (tCons (tVar 0) (tCons (tC (.int 7)) tNil)))) (gName 3))
      (tSeq (tIfS (tTest (tOp (rEqU K) (tCall s_take_ [] E0 (tCons (tVar 0) (tCons (tC (.int 4)) tNil))) (tC (.int 0))))
      (tAsg (tOp (rAddU K) (tC (.int 13)) (tCall s_take_ [] E0 (tCons (tVar 0) (tCons (tC (.int 12)) tNil)))) (gName 3))
      tNext)
      (tSeq (tFor (iRng1 (tCons (tVar 3) tNil)) (gName 4)
      (tSeq (tAsg (tCall s_files_by_ [] E0 (tCons (tVar 2) tNil)) (gName 5))
      (tSeq (tAsg (tCall s_disk_deed_ [] E0 (tCons (tVar 0) (tCons (tVar 5) tNil))) (gName 6))
      (tIfS (tOr (tTest (tOp (rEqU K) (tOp (rIxU K) (tVar 6) (tC (.int 0))) (tC (.str ("make" : Str))))) (tTest (tOp (rInU K false) (tOp (rIxU K) (tVar 6) (tC (.int 1))) (tVar 5))))
      (tSeq (tDrop (tCall s_done_on_ [] E0 (tCons (tVar 1) (tCons (tVar 6) tNil))))
      (tAsg (tOp (rAddU K) (tVar 2) (tCall s_single_steps_ [] E0 (tCons (tVar 6) tNil))) (gName 2)))
      tNext))))
      (tRet (tTup (tCons (tVar 1) (tCons (tVar 2) tNil)))))))))
abbrev N_drawn : List Str := [("_law_state" : Str), ("_law_disk" : Str), ("_law_steps" : Str), ("_law_many" : Str), ("_law_turn" : Str), ("_law_files" : Str), ("_law_deed" : Str)]
def v_drawn (K : PySem.W.Frag) (vs_take : VSp) (vs_files_by : VSp) (vs_disk_deed : VSp) (vs_done_on : VSp) (vs_single_steps : VSp) (vs_Disk_init : VSp) (c_Disk : Addr) : VS :=
      (vSeqS (vAsg (vMake c_Disk vs_Disk_init (fun _ _ _ _ => False) vNil) (vgName 1))
      (vSeqS (vAsg (vLst vNil) (vgName 2))
      (vSeqS (vAsg (vOp vAdd (vC (.int 6)) (vCall vs_take (vCons (vVar 0) (vCons (vC (.int 7)) vNil)))) (vgName 3))
      (vSeqS (vIf (vTest (vOp vEqC (vCall vs_take (vCons (vVar 0) (vCons (vC (.int 4)) vNil))) (vC (.int 0))))
      (vAsg (vOp vAdd (vC (.int 13)) (vCall vs_take (vCons (vVar 0) (vCons (vC (.int 12)) vNil)))) (vgName 3))
      vNext)
      (vSeqS (vFor [3, 4, 5, 6] (vRng1 (vCons (vVar 3) vNil)) (vgName 4)
      (vSeqS (vAsg (vCall vs_files_by (vCons (vVar 2) vNil)) (vgName 5))
      (vSeqS (vAsg (vCall vs_disk_deed (vCons (vVar 0) (vCons (vVar 5) vNil))) (vgName 6))
      (vIf (vOr (vTest (vOp vEqC (vOp vIx (vVar 6) (vC (.int 0))) (vC (.str ("make" : Str))))) (vTest (vOpL (vIn false) (vOp vIx (vVar 6) (vC (.int 1))) (vVar 5))))
      (vSeqS (vDrop (vCall vs_done_on (vCons (vVar 1) (vCons (vVar 6) vNil))))
      (vAsg (vOp vAdd (vVar 2) (vCall vs_single_steps (vCons (vVar 6) vNil))) (vgName 2)))
      vNext))))
      (vRet (vTup (vCons (vVar 1) (vCons (vVar 2) vNil)))))))))
theorem sim_drawn {K : PySem.W.Frag} {vs_take : VSp} {vs_files_by : VSp} {vs_disk_deed : VSp} {vs_done_on : VSp} {vs_single_steps : VSp} {vs_Disk_init : VSp} {c_Disk : Addr} {vsp : VSp} (hv : ∀ ds m P VX, vsp ds m P VX → ds.length = 1 ∧ v_drawn K vs_take vs_files_by vs_disk_deed vs_done_on vs_single_steps vs_Disk_init c_Disk (vends P) (vstart N_drawn.length ds) m) :
    ∀ us H Q E, spV K .O vsp us H Q E → t_drawn K (spV K .O vs_take) (spV K .F vs_files_by) (spV K .O vs_disk_deed) (spV K .O vs_done_on) (spV K .O vs_single_steps) (spV K .O vs_Disk_init) c_Disk { nx := fun _ H' => Q .non H', rt := Q } (L2.start N_drawn us) H :=
  sim_def (n := 1) (t := .O) (N := N_drawn) (Γn := [.F, .F, .F, .F, .F, .F, .F]) (Γb := []) (Γc := []) (ts := fun E => t_drawn K (spV K .O vs_take) (spV K .F vs_files_by) (spV K .O vs_disk_deed) (spV K .O vs_done_on) (spV K .O vs_single_steps) (spV K .O vs_Disk_init) c_Disk) (vs := fun VX => v_drawn K vs_take vs_files_by vs_disk_deed vs_done_on vs_single_steps vs_Disk_init c_Disk) (by decide) (fun c W VX hK hx => by
    subst hK
    exact (x_seq (x_asgF (i := 1) (s_make (t := .O) (W := (fun _ _ _ _ => False)) (VW := (fun _ _ _ _ => False)) exOk_no g_nil))
      (x_seq (x_asgO (i := 2) (s_lst g_nil))
      (x_seq (x_asgO (i := 3) (s_op o_add (SO.b s_int) (SO.b (s_callO (g_cons (s_varF (by rfl)) (g_cons (SO.f s_int) g_nil))))))
      (x_seq (x_if (Γn := [.F, .F, .O, .O, .F, .F, .F]) (s_test (SO.b (s_op o_eq (SO.b (s_callO (g_cons (s_varF (by rfl)) (g_cons (SO.f s_int) g_nil)))) (SO.b s_int))))
      (x_asgO (i := 3) (s_op o_add (SO.b s_int) (SO.b (s_callO (g_cons (s_varF (by rfl)) (g_cons (SO.f s_int) g_nil))))))
      x_next)
      (x_seq (x_pre (Γ1 := [.F, .F, .O, .F, .F, .F, .F]) (x_pre (Γ1 := [.F, .F, .F, .F, .F, .F, .F]) (x_for (Γ' := [.F, .F, .F, .F, .F, .F, .F]) (ws := [3, 4, 5, 6]) (i_rng1 (g_cons (s_varF (by rfl)) g_nil)) (tg_name (is := [4]) (by rfl) (by decide))
      (x_seq (x_asgF (i := 5) (s_callF (g_cons (s_varF (by rfl)) g_nil)))
      (x_seq (x_asgO (i := 6) (s_callO (g_cons (s_varF (by rfl)) (g_cons (s_varF (by rfl)) g_nil))))
      (x_if (Γn := [.F, .F, .F, .F, .F, .F, .F]) (s_or (s_test (SO.b (s_op o_eq (SF.b (s_opF o_ix (s_varB (t := .O) (by rfl)) (SO.b s_int))) (SO.b s_str)))) (s_test (SO.b (s_opL (o_in false) (SF.b (s_opF o_ix (s_varB (t := .O) (by rfl)) (SO.b s_int))) (SF.b (s_varF (by rfl)))))))
      (x_post (Γ1 := [.F, .F, .O, .F, .F, .F, .F]) (Γn := [.F, .F, .F, .F, .F, .F, .F]) (x_seq (x_pre (Γ1 := [.F, .F, .F, .F, .F, .F, .F]) (x_drop (SO.b (s_callO (g_cons (s_varF (by rfl)) (g_cons (s_varF (by rfl)) g_nil))))))
      (x_asgO (i := 2) (s_op o_add (SF.b (s_varF (by rfl))) (SO.b (s_callO (g_cons (s_varF (by rfl)) g_nil)))))))
      (x_post (Γ1 := [.F, .F, .F, .F, .F, .F, .O]) (Γn := [.F, .F, .F, .F, .F, .F, .F]) x_next)))))))
      (x_retO (s_tup (g_cons (s_varF (by rfl)) (g_cons (s_varF (by rfl)) g_nil)))))))))) hv
def t_fall_right (K : PySem.W.Frag) (s_disk_is_ : Sp) (s_files_by_ : Sp) (s_take_ : Sp) (s_Disk_fallen_ : Sp) (s_Disk_make_ : Sp) (s_Disk_add_ : Sp) (c_Disk : Addr) : TS :=
      (tSeq (tAsg (tMethQ c_Disk ("fallen" : Str) s_Disk_fallen_ (fun _ => E0) (tVar 1) (tCons (tVar 3) tNil)) (gName 4))
      (tSeq (tIfS (tNot (tTru K (tCall s_disk_is_ [] E0 (tCons (tVar 4) (tCons (tCall s_files_by_ [] E0 (tCons (tSl (rSlU K) (tVar 2) tNoPart (tPart (tVar 3))) tNil)) (tCons (tVar 3) tNil))))))
      (tRet (tC (.bl false)))
      tNext)
      (tSeq (tAsg (tCall s_take_ [] E0 (tCons (tVar 0) (tCons (tOp (rAddU K) (tVar 3) (tC (.int 1))) tNil))) (gName 5))
      (tSeq (tIfS (tNot (tTru K (tCall s_disk_is_ [] E0 (tCons (tMethQ c_Disk ("fallen" : Str) s_Disk_fallen_ (fun _ => E0) (tVar 4) (tCons (tVar 5) tNil)) (tCons (tCall s_files_by_ [] E0 (tCons (tSl (rSlU K) (tVar 2) tNoPart (tPart (tVar 5))) tNil)) (tCons (tVar 5) tNil))))))
      (tRet (tC (.bl false)))
      tNext)
      (tSeq (tAsg (tLst (tCons (tTup (tCons (tC (.str ("make" : Str))) (tCons (tC (.str ("new one" : Str))) (tCons (tC .non) tNil)))) (tCons (tTup (tCons (tC (.str ("byte" : Str))) (tCons (tC (.str ("new one" : Str))) (tCons (tC (.int 5)) tNil)))) (tCons (tTup (tCons (tC (.str ("byte" : Str))) (tCons (tC (.str ("new one" : Str))) (tCons (tC (.int 250)) tNil)))) tNil)))) (gName 6))
      (tSeq (tDrop (tMethQ c_Disk ("make" : Str) s_Disk_make_ (fun _ => E0) (tVar 4) (tCons (tC (.str ("new one" : Str))) tNil)))
      (tSeq (tDrop (tMethQ c_Disk ("add" : Str) s_Disk_add_ (fun _ => E0) (tVar 4) (tCons (tC (.str ("new one" : Str))) (tCons (tLst (tCons (tC (.int 5)) (tCons (tC (.int 250)) tNil))) tNil))))
      (tSeq (tIfS (tNot (tTru K (tCall s_disk_is_ [] E0 (tCons (tVar 4) (tCons (tCall s_files_by_ [] E0 (tCons (tOp (rAddU K) (tSl (rSlU K) (tVar 2) tNoPart (tPart (tVar 3))) (tVar 6)) tNil)) (tCons (tOp (rAddU K) (tVar 3) (tC (.int 3))) tNil))))))
      (tRet (tC (.bl false)))
      tNext)
      (tRet (tCall s_disk_is_ [] E0 (tCons (tMethQ c_Disk ("fallen" : Str) s_Disk_fallen_ (fun _ => E0) (tVar 4) (tCons (tOp (rAddU K) (tVar 3) (tC (.int 2))) tNil)) (tCons (tCall s_files_by_ [] E0 (tCons (tOp (rAddU K) (tSl (rSlU K) (tVar 2) tNoPart (tPart (tVar 3))) (tSl (rSlU K) (tVar 6) tNoPart (tPart (tC (.int 2))))) tNil)) (tCons (tOp (rAddU K) (tVar 3) (tC (.int 2))) tNil)))))))))))))
abbrev N_fall_right : List Str := [("_law_state" : Str), ("_law_disk" : Str), ("_law_steps" : Str), ("_law_k" : Str), ("_law_other" : Str), ("_law_less" : Str), ("_law_more" : Str)]
def v_fall_right (K : PySem.W.Frag) (vs_disk_is : VSp) (vs_files_by : VSp) (vs_take : VSp) (vs_Disk_fallen : VSp) (vs_Disk_make : VSp) (vs_Disk_add : VSp) (c_Disk : Addr) : VS :=
      (vSeqS (vAsg (vMeth c_Disk ("fallen" : Str) vs_Disk_fallen (fun _ _ _ _ => False) (vVar 1) (vCons (vVar 3) vNil)) (vgName 4))
      (vSeqS (vIf (vNot (vTru (vCall vs_disk_is (vCons (vVar 4) (vCons (vCall vs_files_by (vCons (vSl vCut (vVar 2) vNoPart (vPart (vVar 3))) vNil)) (vCons (vVar 3) vNil))))))
      (vRet (vC (.bl false)))
      vNext)
      (vSeqS (vAsg (vCall vs_take (vCons (vVar 0) (vCons (vOp vAdd (vVar 3) (vC (.int 1))) vNil))) (vgName 5))
      (vSeqS (vIf (vNot (vTru (vCall vs_disk_is (vCons (vMeth c_Disk ("fallen" : Str) vs_Disk_fallen (fun _ _ _ _ => False) (vVar 4) (vCons (vVar 5) vNil)) (vCons (vCall vs_files_by (vCons (vSl vCut (vVar 2) vNoPart (vPart (vVar 5))) vNil)) (vCons (vVar 5) vNil))))))
      (vRet (vC (.bl false)))
      vNext)
      (vSeqS (vAsg (vLst (vCons (vTup (vCons (vC (.str ("make" : Str))) (vCons (vC (.str ("new one" : Str))) (vCons (vC .non) vNil)))) (vCons (vTup (vCons (vC (.str ("byte" : Str))) (vCons (vC (.str ("new one" : Str))) (vCons (vC (.int 5)) vNil)))) (vCons (vTup (vCons (vC (.str ("byte" : Str))) (vCons (vC (.str ("new one" : Str))) (vCons (vC (.int 250)) vNil)))) vNil)))) (vgName 6))
      (vSeqS (vDrop (vMeth c_Disk ("make" : Str) vs_Disk_make (fun _ _ _ _ => False) (vVar 4) (vCons (vC (.str ("new one" : Str))) vNil)))
      (vSeqS (vDrop (vMeth c_Disk ("add" : Str) vs_Disk_add (fun _ _ _ _ => False) (vVar 4) (vCons (vC (.str ("new one" : Str))) (vCons (vLst (vCons (vC (.int 5)) (vCons (vC (.int 250)) vNil))) vNil))))
      (vSeqS (vIf (vNot (vTru (vCall vs_disk_is (vCons (vVar 4) (vCons (vCall vs_files_by (vCons (vOp vAdd (vSl vCut (vVar 2) vNoPart (vPart (vVar 3))) (vVar 6)) vNil)) (vCons (vOp vAdd (vVar 3) (vC (.int 3))) vNil))))))
      (vRet (vC (.bl false)))
      vNext)
      (vRet (vCall vs_disk_is (vCons (vMeth c_Disk ("fallen" : Str) vs_Disk_fallen (fun _ _ _ _ => False) (vVar 4) (vCons (vOp vAdd (vVar 3) (vC (.int 2))) vNil)) (vCons (vCall vs_files_by (vCons (vOp vAdd (vSl vCut (vVar 2) vNoPart (vPart (vVar 3))) (vSl vCut (vVar 6) vNoPart (vPart (vC (.int 2))))) vNil)) (vCons (vOp vAdd (vVar 3) (vC (.int 2))) vNil)))))))))))))
theorem sim_fall_right {K : PySem.W.Frag} {vs_disk_is : VSp} {vs_files_by : VSp} {vs_take : VSp} {vs_Disk_fallen : VSp} {vs_Disk_make : VSp} {vs_Disk_add : VSp} {c_Disk : Addr} {vsp : VSp} (hv : ∀ ds m P VX, vsp ds m P VX → ds.length = 4 ∧ v_fall_right K vs_disk_is vs_files_by vs_take vs_Disk_fallen vs_Disk_make vs_Disk_add c_Disk (vends P) (vstart N_fall_right.length ds) m) :
    ∀ us H Q E, spV K .O vsp us H Q E → t_fall_right K (spV K .O vs_disk_is) (spV K .F vs_files_by) (spV K .O vs_take) (spV K .F vs_Disk_fallen) (spV K .O vs_Disk_make) (spV K .O vs_Disk_add) c_Disk { nx := fun _ H' => Q .non H', rt := Q } (L2.start N_fall_right us) H :=
  sim_def (n := 4) (t := .O) (N := N_fall_right) (Γn := [.F, .F, .F, .F, .F, .F, .F]) (Γb := []) (Γc := []) (ts := fun E => t_fall_right K (spV K .O vs_disk_is) (spV K .F vs_files_by) (spV K .O vs_take) (spV K .F vs_Disk_fallen) (spV K .O vs_Disk_make) (spV K .O vs_Disk_add) c_Disk) (vs := fun VX => v_fall_right K vs_disk_is vs_files_by vs_take vs_Disk_fallen vs_Disk_make vs_Disk_add c_Disk) (by decide) (fun c W VX hK hx => by
    subst hK
    exact (x_seq (x_asgF (i := 4) (s_methF (W := (fun _ _ _ _ => False)) (VW := (fun _ _ _ _ => False)) exOk_no (s_varF (by rfl)) (g_cons (s_varF (by rfl)) g_nil)))
      (x_seq (x_if (Γn := [.F, .F, .F, .F, .F, .F, .F]) (s_not (s_tru (SO.b (s_callO (g_cons (s_varF (by rfl)) (g_cons (s_callF (g_cons (SO.f (s_sl o_cut (SF.b (s_varF (by rfl))) s_nopart (s_part (SF.b (s_varF (by rfl)))))) g_nil)) (g_cons (s_varF (by rfl)) g_nil)))))))
      (x_retO s_bl)
      x_next)
      (x_seq (x_asgO (i := 5) (s_callO (g_cons (s_varF (by rfl)) (g_cons (SO.f (s_op o_add (SF.b (s_varF (by rfl))) (SO.b s_int))) g_nil))))
      (x_seq (x_pre (Γ1 := [.F, .F, .F, .F, .F, .F, .F]) (x_if (Γn := [.F, .F, .F, .F, .F, .F, .F]) (s_not (s_tru (SO.b (s_callO (g_cons (s_methF (W := (fun _ _ _ _ => False)) (VW := (fun _ _ _ _ => False)) exOk_no (s_varF (by rfl)) (g_cons (s_varF (by rfl)) g_nil)) (g_cons (s_callF (g_cons (SO.f (s_sl o_cut (SF.b (s_varF (by rfl))) s_nopart (s_part (SF.b (s_varF (by rfl)))))) g_nil)) (g_cons (s_varF (by rfl)) g_nil)))))))
      (x_retO s_bl)
      x_next))
      (x_seq (x_asgO (i := 6) (s_lst (g_cons (SO.f (s_tup (g_cons (SO.f s_str) (g_cons (SO.f s_str) (g_cons (SO.f s_non) g_nil))))) (g_cons (SO.f (s_tup (g_cons (SO.f s_str) (g_cons (SO.f s_str) (g_cons (SO.f s_int) g_nil))))) (g_cons (SO.f (s_tup (g_cons (SO.f s_str) (g_cons (SO.f s_str) (g_cons (SO.f s_int) g_nil))))) g_nil)))))
      (x_seq (x_drop (SO.b (s_methO (W := (fun _ _ _ _ => False)) (VW := (fun _ _ _ _ => False)) exOk_no (s_varF (by rfl)) (g_cons (SO.f s_str) g_nil))))
      (x_seq (x_drop (SO.b (s_methO (W := (fun _ _ _ _ => False)) (VW := (fun _ _ _ _ => False)) exOk_no (s_varF (by rfl)) (g_cons (SO.f s_str) (g_cons (SO.f (s_lst (g_cons (SO.f s_int) (g_cons (SO.f s_int) g_nil)))) g_nil)))))
      (x_seq (x_if (Γn := [.F, .F, .F, .F, .F, .F, .O]) (s_not (s_tru (SO.b (s_callO (g_cons (s_varF (by rfl)) (g_cons (s_callF (g_cons (SO.f (s_op o_add (SO.b (s_sl o_cut (SF.b (s_varF (by rfl))) s_nopart (s_part (SF.b (s_varF (by rfl)))))) (s_varB (t := .O) (by rfl)))) g_nil)) (g_cons (SO.f (s_op o_add (SF.b (s_varF (by rfl))) (SO.b s_int))) g_nil)))))))
      (x_retO s_bl)
      x_next)
      (x_retO (s_callO (g_cons (s_methF (W := (fun _ _ _ _ => False)) (VW := (fun _ _ _ _ => False)) exOk_no (s_varF (by rfl)) (g_cons (SO.f (s_op o_add (SF.b (s_varF (by rfl))) (SO.b s_int))) g_nil)) (g_cons (s_callF (g_cons (SO.f (s_op o_add (SO.b (s_sl o_cut (SF.b (s_varF (by rfl))) s_nopart (s_part (SF.b (s_varF (by rfl)))))) (SO.b (s_sl o_cut (s_varB (t := .O) (by rfl)) s_nopart (s_part (SO.b s_int)))))) g_nil)) (g_cons (SO.f (s_op o_add (SF.b (s_varF (by rfl))) (SO.b s_int))) g_nil)))))))))))))) hv
theorem lInts_le {m n : Nat} {q : DkD} (h : m ≤ n) (k : lInts m q) : lInts n q := by
  cases q with
  | ad nm bs => exact ⟨Nat.le_trans k.1 h, k.2⟩
  | _ => exact True.intro
def wDrawn (C : Addr) : VSp := fun ds m P _ => ∃ (w : Addr) (k : Nat), ds = [.adr w] ∧ m = (some (w, k), emp) ∧ 2000 ≤ k ∧
  ∀ (v : VD) (s' : Sto) (k' : Nat), VOk C names12 s' v → v.T.length ≤ 300 → k ≤ k' + 2000 → P (.tup [.adr v.x, .lst (v.T.map sgD)]) (some (w, k'), s')
theorem p_drawn {K : PySem.W.Frag} {C N : Addr} (ds : List D) (m : Mst) (P : D → Mst → Prop) (VX : XV) (h : wDrawn C ds m P VX) :
    ds.length = 1 ∧ v_drawn K vTake wFilesBy wDiskDeed (wDoneOn C N) wSingle (wDkInit C) C (vends P) (vstart N_drawn.length ds) m := by
  obtain ⟨w, k, rfl, rfl, hk, hP⟩ := h
  refine ⟨rfl, ?_⟩
  unfold v_drawn
  walk_at "vv"
  intro x hx
  refine ⟨x, rfl, sput_same, fun y z s1 hy hz hd hfr => ⟨rfl, ?_⟩⟩
  clear hx hy hz hfr
  walk_at "vv"
  refine e_take (by omega) (by decide) (by decide) fun z1 k1 h1 h2 hk1 => ?_
  walk_at "vv"
  with_reducible refine e_seqO fun N1 hN1 => ?_
  have f1 : ∀ (n : Nat) (k' : Nat), n ≤ 24 → k ≤ k' + 10 → N1 [some (.adr w), some (.adr x), some (.lst []), some (.int (n : Int)), none, none, none] (some (w, k'), s1) := by
    intro n k2 hn hk2
    refine hN1 _ _ ?_
    walk_at "vw"
    refine e_itR (j := n) (by omega) ?_
    refine for_inv (fun i e m' => ∃ (v : VD) (s' : Sto) (k' : Nat), m' = (some (w, k'), s') ∧ VOk C names12 s' v ∧ v.x = x ∧ v.T.length ≤ 11 * i ∧ k2 ≤ k' + 40 * i ∧ e = [some (.adr w), some (.adr x), some (.lst (v.T.map sgD)), none, none, none, none]) ⟨⟨x, y, z, [], [], []⟩, s1, k2, rfl, ⟨hd, rfl, rfl, Valid.nil, LogV.nil⟩, rfl, Nat.zero_le _, by omega, rfl⟩ ?_ ?_
    · rintro i e m' d hi ⟨v, s', k3, rfl, hv, rfl, hT, hk3, rfl⟩ ed
      rw [rangeD_len] at hi
      obtain ⟨hb1, hb2⟩ := hv.va.bound
      walk_at "vw"
      refine ⟨names12, v.T, rfl, hv.va, by omega, fun yf s2 hyf hyf2 hfr2 => ?_⟩
      have hv2 := hv.agree hfr2
      walk_at "vw"
      refine ⟨w, k3, s2, yf, runG v.T, rfl, rfl, hyf2, fun p hp => (hb2 p hp).1, by omega, fun p hp => by have := (hb2 p hp).2.1; omega, by omega, fun q d s3 k4 hl hnm hi11 hnew hfr3 hk4 => ?_⟩
      have hv3 := hv2.agree hfr3
      have hyf3 : s3 yf = some (.dic (nkD D.lst (runG v.T))) := (hfr3 yf (by rw [hyf2]; exact fun h => nomatch h)).trans hyf2
      obtain ⟨wd, xd, rfl, hmk, had⟩ := lD_shape hl
      have hqs : q.steps ≤ 11 := by
        cases q with
        | ad n bs => exact hi11.1
        | _ => exact (by decide : (1 : Nat) ≤ 11)
      have doit : q.fits (flatF v.F) → ∀ (s4 : Sto) (F' : List FRow), flatF F' = q.on (flatF v.F) → DiskAt s4 C v.x v.y v.z F' (keepE q v.E) (v.T.length + q.steps) → VOk C names12 s4 ⟨v.x, v.y, v.z, F', keepE q v.E, v.T ++ singles q⟩ := fun hf s4 F' e1 hd4 => hv.go hf hnm (lInts_le (by decide) hi11) e1 hd4
      walk_at "vw"
      refine e_ixT (x := .str wd) (atI_nat (j := 0) rfl) ?_
      walk_at "vw"
      refine e_orJ (nget (runG v.T) q.nm).isSome (fun B hB => ?_) ?_
      · walk_at "vw"
        refine e_ixT (x := .str q.nm) (atI_nat (j := 1) rfl) ?_
        walk_at "vw"
        show vIn false (.str q.nm) (lookS s3 yf) _
        rw [lookS_dic hyf3]
        refine ⟨.inr q.nm, rfl, ?_⟩
        rw [nk_get]
        refine ⟨_, rfl, ?_⟩
        cases e : nget (runG v.T) q.nm with
        | none => rw [e] at hB; exact hB
        | some b => rw [e] at hB; exact hB
      dsimp only
      rw [hmk]
      by_cases c : (q.isMk || (nget (runG v.T) q.nm).isSome) = true
      · rw [if_pos c]
        have hf : q.fits (flatF v.F) := by
          rw [hv.fl]
          cases q with
          | mk n => exact True.intro
          | ad n bs => exact Option.isSome_iff_exists.mp c
          | ct n j => exact Option.isSome_iff_exists.mp c
          | dr n => exact Option.isSome_iff_exists.mp c
        walk_at "vw"
        refine ⟨v.x, v.y, v.z, v.F, v.E, v.T.length, q, _, rfl, hl, hv3.dk, .inl ⟨hf, hv.dkb (by omega) (by omega), fun F' s4 e1 hd4 hf4 => ?_⟩⟩
        replace hf4 : DkFr s3 s4 [v.x, v.z, v.y] v.F F' := hf4
        have hl4 : lD s4 (.tup [.str wd, .str q.nm, xd]) q := by
          cases q with
          | ad n bs =>
            obtain ⟨b, eb, hb⟩ := hl
            obtain ⟨b2, eb2, hnb⟩ := hnew
            have e3 : b2 = b := by
              rw [eb] at eb2
              have := congrArg (fun d => match d with | D.tup [_, _, .adr x] => x | _ => b) eb2; exact this.symm
            subst e3
            have nb := (v_frm C names12).som s2 v hv2
            refine ⟨b2, eb, (hf4.fr b2 (by rw [hb]; exact fun h => nomatch h) ?_ fun h => nb b2 (List.mem_cons_of_mem _ (List.mem_cons_of_mem _ (List.mem_cons_of_mem _ h))) hnb).trans hb⟩
            simp only [List.mem_cons, List.not_mem_nil, or_false, not_or]
            exact ⟨fun e => nb v.x (by simp [VD.fp]) (by rw [← e]; exact hnb), fun e => nb v.z (by simp [VD.fp]) (by rw [← e]; exact hnb), fun e => nb v.y (by simp [VD.fp]) (by rw [← e]; exact hnb)⟩
          | mk n => exact hl
          | ct n j => exact hl
          | dr n => exact hl
        walk_at "vw"
        refine ⟨q, _, rfl, hl4, by omega, ?_⟩
        have hsl := singles_len q
        refine e_addL (by rw [List.length_map, List.length_map]; omega) ?_
        rw [← List.map_append]
        walk_at "vw"
        refine ⟨⟨v.x, v.y, v.z, F', keepE q v.E, v.T ++ singles q⟩, s4, k4, rfl, doit hf s4 F' e1 hd4, rfl, ?_, by omega, rfl⟩
        show (v.T ++ singles q).length ≤ _
        rw [List.length_append]; omega
      · rw [if_neg c]
        walk_at "vw"
        exact ⟨v, s3, k4, rfl, hv3, rfl, by omega, by omega, rfl⟩
    · rintro e m' ⟨v, s', k3, rfl, hv, rfl, hT, hk3, rfl⟩
      rw [rangeD_len] at hT hk3
      walk_at "vw"
      exact hP v s' k3 hv (by omega) (by omega)
  walk_at "vv"
  refine e_take (by omega) (by decide) (by decide) fun z2 k2 h3 h4 hk2 => ?_
  walk_at "vv"
  refine w_ifd (fun c => ?_) (fun c => ?_)
  · walk_at "vv"
    refine e_take (by omega) (by decide) (by decide) fun z3 k3 h5 h6 hk3 => ?_
    walk_at "vv"
    obtain ⟨n, hn⟩ : ∃ n : Nat, 13 + z3 = (n : Int) := ⟨(13 + z3).toNat, by omega⟩
    rw [hn]
    exact f1 n k3 (by omega) (by omega)
  · walk_at "vv"
    obtain ⟨n, hn⟩ : ∃ n : Nat, 6 + z1 = (n : Int) := ⟨(6 + z1).toNat, by omega⟩
    rw [hn]
    exact f1 n k2 (by omega) (by omega)
def names14 : List Str := names12 ++ [("new one" : Str), ("late" : Str)]
theorem names14_ok : ∀ n ∈ names14, PyData.strOk n = true := by
  have : names14.all PyData.strOk = true := by decide +kernel
  exact List.all_eq_true.mp this
theorem names12_14 : ∀ n ∈ names12, n ∈ names14 := fun n h => List.mem_append_left _ h
def moreT : List DkD := [.mk "new one", .ad "new one" [.int 5], .ad "new one" [.int 250]]
theorem frm_new {s0 s s' : Sto} {v : VD} {F' : List FRow} (hn : ∀ a ∈ v.fp, s0 a = none) (fr : ∀ a, s0 a ≠ none → s a = s0 a) (hf : DkFr s s' [v.x, v.z, v.y] v.F F') : (∀ a, s0 a ≠ none → s' a = s0 a) ∧ ∀ a ∈ F'.map (·.2.1), s0 a = none := by
  refine ⟨fun a ha => (hf.fr a (by rw [fr a ha]; exact ha) ?_ fun h => ha (hn a (List.mem_cons_of_mem _ (List.mem_cons_of_mem _ (List.mem_cons_of_mem _ h))))).trans (fr a ha), fun a ha => ?_⟩
  · simp only [List.mem_cons, List.not_mem_nil, or_false, not_or]
    exact ⟨fun e => ha (by rw [e]; exact hn _ (by simp [VD.fp])), fun e => ha (by rw [e]; exact hn _ (by simp [VD.fp])), fun e => ha (by rw [e]; exact hn _ (by simp [VD.fp]))⟩
  · rcases hf.nw a ha with h | h
    · exact hn a (List.mem_cons_of_mem _ (List.mem_cons_of_mem _ (List.mem_cons_of_mem _ h)))
    · cases e : s0 a with
      | none => rfl
      | some u => rw [fr a (by rw [e]; exact fun h => nomatch h), e] at h; cases h
def wFallRight (C : Addr) : VSp := fun ds m P _ => ∃ (w : Addr) (k : Nat) (s0 : Sto) (v : VD) (j : Nat), ds = [.adr w, .adr v.x, .lst (v.T.map sgD), .int (j : Int)] ∧ m = (some (w, k), s0) ∧ VOk C names12 s0 v ∧ v.T.length ≤ 300 ∧ j ≤ v.T.length ∧ 10 ≤ k ∧
  ∀ (s' : Sto) (k' : Nat), (∀ a, s0 a ≠ none → s' a = s0 a) → k ≤ k' + 10 → P (.bl true) (some (w, k'), s')
theorem p_fall_right {K : PySem.W.Frag} {C N : Addr} (ds : List D) (m : Mst) (P : D → Mst → Prop) (VX : XV) (h : wFallRight C ds m P VX) :
    ds.length = 4 ∧ v_fall_right K (wDiskIs C) wFilesBy vTake (wFallen C) (wDkMake C) (wDkAdd C N) C (vends P) (vstart N_fall_right.length ds) m := by
  obtain ⟨w, k, s0, v, j, rfl, rfl, hv, hl, hj, hk, hP⟩ := h
  refine ⟨rfl, ?_⟩
  have hd := hv.dk
  have hv14 := hv.mono names12_14
  unfold v_fall_right
  walk_at "vw"
  refine ⟨v.x, _, rfl, hd.ob, by kernel_rfl, ?_⟩
  walk_at "vw"
  refine ⟨names14, v, j, rfl, hv14, by omega, fun v1 s1 hv1 hT1 hn1 hfr1 => ?_⟩
  have hvT1 : v1.T.length = j := by rw [hT1, List.length_take]; omega
  dsimp only at hn1 hfr1
  walk_at "vw"
  rw [cutD_to, ← List.map_take]
  refine ⟨names14, v.T.take j, rfl, hv14.va.take j, by rw [List.length_take]; omega, fun y1 s2 hy1 hy2 hfr2 => ?_⟩
  dsimp only at hy1 hfr2
  have hv2 := hv1.agree hfr2
  have ny1 : ∀ (p : VD), VOk C names14 s1 p → y1 ∉ p.fp := fun p hp h => (v_frm C names14).som s1 p hp y1 h hy1
  walk_at "vw"
  refine ⟨names14, v1, y1, by rw [hvT1], hv2, names14_ok, by omega, by rw [hT1]; exact hy2, ny1 v1 hv1, ?_⟩
  walk_at "vw"
  refine e_take (by omega) (by omega) (by omega) fun z1 k1 h1 h2 hk1 => ?_
  obtain ⟨i, rfl⟩ : ∃ i : Nat, z1 = (i : Int) := ⟨z1.toNat, by omega⟩
  walk_at "vw"
  refine ⟨v1.x, _, rfl, hv2.dk.ob, by kernel_rfl, ?_⟩
  walk_at "vw"
  refine ⟨names14, v1, i, rfl, hv2, by omega, fun v3 s3 hv3 hT3 hn3 hfr3 => ?_⟩
  dsimp only at hn3 hfr3
  have hvT3 : v3.T = v.T.take i := by rw [hT3, hT1, List.take_take, Nat.min_eq_left (by omega)]
  have hvl3 : v3.T.length = i := by rw [hvT3, List.length_take]; omega
  walk_at "vw"
  rw [cutD_to, ← List.map_take]
  refine ⟨names14, v.T.take i, rfl, hv14.va.take i, by rw [List.length_take]; omega, fun y3 s4 hy3 hy4 hfr4 => ?_⟩
  dsimp only at hy3 hfr4
  have hv4 := hv3.agree hfr4
  walk_at "vw"
  refine ⟨names14, v3, y3, by rw [hvl3], hv4, names14_ok, by omega, by rw [hvT3]; exact hy4, fun h => (v_frm C names14).som s3 v3 hv3 y3 h hy3, ?_⟩
  have hv14s : VOk C names14 s4 v1 := (hv2.agree hfr3).agree hfr4
  walk_at "vw"
  have fr4 : ∀ a, s0 a ≠ none → s4 a = s0 a := fun a h => by
    have e1 := hfr1 a h
    have e2 := (hfr2 a (by rw [e1]; exact h)).trans e1
    have e3 := (hfr3 a (by rw [e2]; exact h)).trans e2
    exact (hfr4 a (by rw [e3]; exact h)).trans e3
  refine ⟨v1.x, _, rfl, hv14s.dk.ob, by kernel_rfl, ?_⟩
  walk_at "vw"
  refine ⟨v1.x, v1.y, v1.z, v1.F, v1.E, v1.T.length, "new one", rfl, hv14s.dk, hv14s.dkb (by omega) (by decide), fun F5 s5 e5 hd5 hf5 => ?_⟩
  have hv5 := hv14s.go (q := .mk "new one") True.intro (by decide +kernel) True.intro e5 hd5
  obtain ⟨fr5, hn5⟩ := frm_new hn1 fr4 hf5
  have hv5l : (v1.T ++ singles (.mk "new one")).length = j + 1 := by rw [List.length_append, hvT1]; rfl
  walk_at "vw"
  refine ⟨v1.x, _, rfl, hv5.dk.ob, by kernel_rfl, ?_⟩
  walk_at "vw"
  have g5 : nget (flatF F5) "new one" = some [] := by rw [e5]; exact nget_put
  refine ⟨v1.x, v1.y, v1.z, F5, keepE (.mk "new one") v1.E, (v1.T ++ singles (.mk "new one")).length, "new one", _, [.int 5, .int 250], rfl, rfl, hv5.dk, .inl ⟨⟨[], g5⟩, hv5.dkb (by show (v1.T ++ singles (.mk "new one")).length ≤ _; omega) (by decide), fun F6 s6 e6 hd6 hf6 => ?_⟩⟩
  have hv6 := hv5.go (q := .ad "new one" [.int 5, .int 250]) ⟨[], g5⟩ (by decide +kernel) ⟨by decide, [5, 250], rfl⟩ e6 hd6
  obtain ⟨fr6, hn6⟩ := frm_new (v := ⟨v1.x, v1.y, v1.z, F5, keepE (.mk "new one") v1.E, v1.T ++ singles (.mk "new one")⟩) (fun a ha => by
    simp only [VD.fp, List.mem_cons] at ha
    rcases ha with rfl | rfl | rfl | h
    · exact hn1 _ (by simp [VD.fp])
    · exact hn1 _ (by simp [VD.fp])
    · exact hn1 _ (by simp [VD.fp])
    · exact hn5 a h) fr5 hf6
  have eT6 : v1.T ++ singles (.mk "new one") ++ singles (.ad "new one" [.int 5, .int 250]) = v.T.take j ++ moreT := by rw [hT1, List.append_assoc]; rfl
  have hl6 : (v.T.take j ++ moreT).length = j + 3 := by rw [List.length_append, List.length_take]; show _ + 3 = _; omega
  generalize hV6 : (⟨v1.x, v1.y, v1.z, F6, keepE (.ad "new one" [.int 5, .int 250]) (keepE (.mk "new one") v1.E), v1.T ++ singles (.mk "new one") ++ singles (.ad "new one" [.int 5, .int 250])⟩ : VD) = v6 at hv6
  have ex6 : v6.x = v1.x := by rw [← hV6]
  have et6 : v6.T = v.T.take j ++ moreT := by rw [← hV6]; exact eT6
  have hfp6 : ∀ a ∈ v6.fp, s0 a = none := fun a ha => by
    rw [← hV6] at ha
    simp only [VD.fp, List.mem_cons] at ha
    rcases ha with rfl | rfl | rfl | h
    · exact hn1 _ (by simp [VD.fp])
    · exact hn1 _ (by simp [VD.fp])
    · exact hn1 _ (by simp [VD.fp])
    · exact hn6 a h
  have va6 := hv6.va
  rw [et6] at va6
  walk_at "vw"
  rw [cutD_to, ← List.map_take]
  refine e_addL (by rw [List.length_map, List.length_take]; show _ + 3 ≤ _; omega) ?_
  walk_at "vw"
  refine ⟨names14, v.T.take j ++ moreT, by rw [List.map_append]; rfl, va6, by omega, fun y5 s7 hy5 hy7 hfr7 => ?_⟩
  dsimp only at hy5 hfr7
  have hv7 := hv6.agree hfr7
  walk_at "vw"
  refine ⟨names14, v6, y5, by rw [et6, hl6, ex6, Int.natCast_add]; rfl, hv7, names14_ok, by rw [et6]; omega, by rw [et6]; exact hy7, fun h => (v_frm C names14).som s6 v6 hv6 y5 h hy5, ?_⟩
  walk_at "vw"
  refine ⟨v1.x, _, rfl, by rw [← ex6]; exact hv7.dk.ob, by kernel_rfl, ?_⟩
  walk_at "vw"
  refine ⟨names14, v6, j + 2, by rw [ex6, Int.natCast_add]; rfl, hv7, by rw [et6]; omega, fun v8 s8 hv8 hT8 hn8 hfr8 => ?_⟩
  dsimp only at hn8 hfr8
  have eT8 : v8.T = v.T.take j ++ moreT.take 2 := by
    rw [hT8, et6, List.take_append, List.take_of_length_le (by rw [List.length_take]; omega)]
    congr 1
    rw [List.length_take, Nat.min_eq_left hj, show j + 2 - j = 2 by omega]
  have hl8 : v8.T.length = j + 2 := by rw [eT8, List.length_append, List.length_take]; show _ + 2 = _; omega
  have va8 := hv8.va
  rw [eT8] at va8
  walk_at "vw"
  rw [cutD_to, ← List.map_take]
  have e2 : ∀ l : List D, cutD l none (some 2) = l.take 2 := fun l => cutD_to l 2
  rw [e2]
  refine e_addL (by rw [List.length_map, List.length_take]; show _ + 2 ≤ _; omega) ?_
  walk_at "vw"
  refine ⟨names14, v.T.take j ++ moreT.take 2, by rw [List.map_append]; rfl, va8, by rw [← eT8, hl8]; omega, fun y9 s9 hy9 hy10 hfr9 => ?_⟩
  dsimp only at hy9 hfr9
  have hv9 := hv8.agree hfr9
  walk_at "vw"
  refine ⟨names14, v8, y9, by rw [hl8, Int.natCast_add]; rfl, hv9, names14_ok, by omega, by rw [eT8]; exact hy10, fun h => (v_frm C names14).som s8 v8 hv8 y9 h hy9, ?_⟩
  refine hP s9 k1 (fun a h => ?_) (by omega)
  have e6 := fr6 a h
  have e7 := (hfr7 a (by rw [e6]; exact h)).trans e6
  have e8 := (hfr8 a (by rw [e7]; exact h)).trans e7
  exact (hfr9 a (by rw [e8]; exact h)).trans e8
def t_law (K : PySem.W.Frag) (s_begin_ : Sp) (s_drawn_ : Sp) (s_fall_right_ : Sp) (s_disk_is_ : Sp) (s_files_by_ : Sp) (s_Disk_fallen_ : Sp) (s_Disk_make_ : Sp) (c_Disk : Addr) : TS :=
      (tSeq (tAsg (tCall s_begin_ [] E0 (tCons (tVar 0) tNil)) (gName 1))
      (tSeq (tAsg (tCall s_drawn_ [] E0 (tCons (tVar 1) tNil)) (gTup K 2 (gCons (gName 2) (gCons (gName 3) gNil))))
      (tSeq (tFor (iRng1 (tCons (tOp (rAddU K) (tCB (rLenU K) (tCons (tVar 3) tNil)) (tC (.int 1))) tNil)) (gName 4)
      (tIfS (tOr (tTest (tOp (rLtU K) (tCB (rLenU K) (tCons (tVar 3) tNil)) (tC (.int 30)))) (tOr (tTest (tOp (rEqU K) (tOp (rModU) (tVar 4) (tC (.int 3))) (tC (.int 0)))) (tTest (tOp (rEqU K) (tVar 4) (tCB (rLenU K) (tCons (tVar 3) tNil))))))
      (tIfS (tNot (tTru K (tCall s_fall_right_ [] E0 (tCons (tVar 1) (tCons (tVar 2) (tCons (tVar 3) (tCons (tVar 4) tNil)))))))
      (tRet (tC (.bl false)))
      tNext)
      tNext))
      (tSeq (tIfS (tNot (tTru K (tCall s_disk_is_ [] E0 (tCons (tVar 2) (tCons (tCall s_files_by_ [] E0 (tCons (tVar 3) tNil)) (tCons (tCB (rLenU K) (tCons (tVar 3) tNil)) tNil))))))
      (tRet (tC (.bl false)))
      tNext)
      (tSeq (tAsg (tMethQ c_Disk ("fallen" : Str) s_Disk_fallen_ (fun _ => E0) (tVar 2) (tCons (tCB (rLenU K) (tCons (tVar 3) tNil)) tNil)) (gName 5))
      (tSeq (tDrop (tMethQ c_Disk ("make" : Str) s_Disk_make_ (fun _ => E0) (tVar 2) (tCons (tC (.str ("late" : Str))) tNil)))
      (tRet (tCall s_disk_is_ [] E0 (tCons (tVar 5) (tCons (tCall s_files_by_ [] E0 (tCons (tVar 3) tNil)) (tCons (tCB (rLenU K) (tCons (tVar 3) tNil)) tNil)))))))))))
abbrev N_law : List Str := [("_law_script" : Str), ("_law_state" : Str), ("_law_disk" : Str), ("_law_steps" : Str), ("_law_k" : Str), ("_law_other" : Str)]
def v_law (K : PySem.W.Frag) (vs_begin : VSp) (vs_drawn : VSp) (vs_fall_right : VSp) (vs_disk_is : VSp) (vs_files_by : VSp) (vs_Disk_fallen : VSp) (vs_Disk_make : VSp) (c_Disk : Addr) : VS :=
      (vSeqS (vAsg (vCall vs_begin (vCons (vVar 0) vNil)) (vgName 1))
      (vSeqS (vAsg (vCall vs_drawn (vCons (vVar 1) vNil)) (vgTup 2 (vgCons (vgName 2) (vgCons (vgName 3) vgNil))))
      (vSeqS (vFor [0, 4, 5] (vRng1 (vCons (vOp vAdd (vCB vLen (vCons (vVar 3) vNil)) (vC (.int 1))) vNil)) (vgName 4)
      (vIf (vOr (vTest (vOp vLt (vCB vLen (vCons (vVar 3) vNil)) (vC (.int 30)))) (vOr (vTest (vOp vEqC (vOp vMod (vVar 4) (vC (.int 3))) (vC (.int 0)))) (vTest (vOp vEqC (vVar 4) (vCB vLen (vCons (vVar 3) vNil))))))
      (vIf (vNot (vTru (vCall vs_fall_right (vCons (vVar 1) (vCons (vVar 2) (vCons (vVar 3) (vCons (vVar 4) vNil)))))))
      (vRet (vC (.bl false)))
      vNext)
      vNext))
      (vSeqS (vIf (vNot (vTru (vCall vs_disk_is (vCons (vVar 2) (vCons (vCall vs_files_by (vCons (vVar 3) vNil)) (vCons (vCB vLen (vCons (vVar 3) vNil)) vNil))))))
      (vRet (vC (.bl false)))
      vNext)
      (vSeqS (vAsg (vMeth c_Disk ("fallen" : Str) vs_Disk_fallen (fun _ _ _ _ => False) (vVar 2) (vCons (vCB vLen (vCons (vVar 3) vNil)) vNil)) (vgName 5))
      (vSeqS (vDrop (vMeth c_Disk ("make" : Str) vs_Disk_make (fun _ _ _ _ => False) (vVar 2) (vCons (vC (.str ("late" : Str))) vNil)))
      (vRet (vCall vs_disk_is (vCons (vVar 5) (vCons (vCall vs_files_by (vCons (vVar 3) vNil)) (vCons (vCB vLen (vCons (vVar 3) vNil)) vNil)))))))))))
theorem sim_law {K : PySem.W.Frag} {vs_begin : VSp} {vs_drawn : VSp} {vs_fall_right : VSp} {vs_disk_is : VSp} {vs_files_by : VSp} {vs_Disk_fallen : VSp} {vs_Disk_make : VSp} {c_Disk : Addr} {vsp : VSp} (hv : ∀ ds m P VX, vsp ds m P VX → ds.length = 1 ∧ v_law K vs_begin vs_drawn vs_fall_right vs_disk_is vs_files_by vs_Disk_fallen vs_Disk_make c_Disk (vends P) (vstart N_law.length ds) m) :
    ∀ us H Q E, spV K .O vsp us H Q E → t_law K (spV K .O vs_begin) (spV K .O vs_drawn) (spV K .O vs_fall_right) (spV K .O vs_disk_is) (spV K .F vs_files_by) (spV K .F vs_Disk_fallen) (spV K .O vs_Disk_make) c_Disk { nx := fun _ H' => Q .non H', rt := Q } (L2.start N_law us) H :=
  sim_def (n := 1) (t := .O) (N := N_law) (Γn := [.F, .F, .F, .F, .F, .F]) (Γb := []) (Γc := []) (ts := fun E => t_law K (spV K .O vs_begin) (spV K .O vs_drawn) (spV K .O vs_fall_right) (spV K .O vs_disk_is) (spV K .F vs_files_by) (spV K .F vs_Disk_fallen) (spV K .O vs_Disk_make) c_Disk) (vs := fun VX => v_law K vs_begin vs_drawn vs_fall_right vs_disk_is vs_files_by vs_Disk_fallen vs_Disk_make c_Disk) (by decide) (fun c W VX hK hx => by
    subst hK
    exact (x_seq (x_asgO (i := 1) (s_callO (g_cons (s_varF (by rfl)) g_nil)))
      (x_seq (x_pre (Γ1 := [.F, .F, .F, .F, .F, .F]) (x_asgT (SO.f (s_callO (g_cons (s_varF (by rfl)) g_nil))) (tg_tup (tg_cons (tg_name (is := [2, 3]) (by rfl) (by decide)) (tg_cons (tg_name (is := [2, 3]) (by rfl) (by decide)) tg_nil)))))
      (x_seq (x_for (Γ' := [.F, .F, .F, .F, .F, .F]) (ws := [0, 4, 5]) (i_rng1 (g_cons (SO.f (s_op o_add (SO.b (s_cb l_len (a_cons (SF.b (s_varF (by rfl))) a_nil))) (SO.b s_int))) g_nil)) (tg_name (is := [4]) (by rfl) (by decide))
      (x_if (Γn := [.F, .F, .F, .F, .F, .F]) (s_or (s_test (SO.b (s_op o_lt (SO.b (s_cb l_len (a_cons (SF.b (s_varF (by rfl))) a_nil))) (SO.b s_int)))) (s_or (s_test (SO.b (s_op o_eq (SO.b (s_op o_mod (SF.b (s_varF (by rfl))) (SO.b s_int))) (SO.b s_int)))) (s_test (SO.b (s_op o_eq (SF.b (s_varF (by rfl))) (SO.b (s_cb l_len (a_cons (SF.b (s_varF (by rfl))) a_nil))))))))
      (x_if (Γn := [.F, .F, .F, .F, .F, .F]) (s_not (s_tru (SO.b (s_callO (g_cons (s_varF (by rfl)) (g_cons (s_varF (by rfl)) (g_cons (s_varF (by rfl)) (g_cons (s_varF (by rfl)) g_nil))))))))
      (x_retO s_bl)
      x_next)
      x_next))
      (x_seq (x_if (Γn := [.F, .F, .F, .F, .F, .F]) (s_not (s_tru (SO.b (s_callO (g_cons (s_varF (by rfl)) (g_cons (s_callF (g_cons (s_varF (by rfl)) g_nil)) (g_cons (SO.f (s_cb l_len (a_cons (SF.b (s_varF (by rfl))) a_nil))) g_nil)))))))
      (x_retO s_bl)
      x_next)
      (x_seq (x_asgF (i := 5) (s_methF (W := (fun _ _ _ _ => False)) (VW := (fun _ _ _ _ => False)) exOk_no (s_varF (by rfl)) (g_cons (SO.f (s_cb l_len (a_cons (SF.b (s_varF (by rfl))) a_nil))) g_nil)))
      (x_seq (x_drop (SO.b (s_methO (W := (fun _ _ _ _ => False)) (VW := (fun _ _ _ _ => False)) exOk_no (s_varF (by rfl)) (g_cons (SO.f s_str) g_nil))))
      (x_retO (s_callO (g_cons (s_varF (by rfl)) (g_cons (s_callF (g_cons (s_varF (by rfl)) g_nil)) (g_cons (SO.f (s_cb l_len (a_cons (SF.b (s_varF (by rfl))) a_nil))) g_nil)))))))))))) hv
theorem p_law {K : PySem.W.Frag} {C : Addr} (ds : List D) (m : Mst) (P : D → Mst → Prop) (VX : XV) (h : vLaw ds m P VX) : ds.length = 1 ∧ v_law K vBegin (wDrawn C) (wFallRight C) (wDiskIs C) wFilesBy (wFallen C) (wDkMake C) C (vends P) (vstart N_law.length ds) m := by
  obtain ⟨ns, rfl, hns, rfl, hP⟩ := h
  refine ⟨rfl, ?_⟩
  unfold v_law
  walk_at "vw"
  refine ⟨ns, rfl, hns, rfl, fun w => ?_⟩
  walk_at "vw"
  refine ⟨w, 2 ^ 50, rfl, rfl, by decide, fun v s0 k0 hv hl hk0 => ?_⟩
  walk_at "vw"
  have eln : (((v.T.map sgD).length : Nat) : Int) + 1 = ((v.T.length + 1 : Nat) : Int) := by rw [List.length_map, Int.natCast_add]; rfl
  rw [eln]
  refine e_itR (j := v.T.length + 1) (by omega) ?_
  refine for_inv (fun i e m' => ∃ (s' : Sto) (k' : Nat), m' = (some (w, k'), s') ∧ VOk C names12 s' v ∧ k0 ≤ k' + 10 * i ∧ e = [none, some (.adr w), some (.adr v.x), some (.lst (v.T.map sgD)), none, none]) ⟨s0, k0, rfl, hv, by omega, rfl⟩ ?_ ?_
  · rintro i e m' d hi ⟨s', k', rfl, hv', hk', rfl⟩ ed
    obtain ⟨hi, rfl⟩ := rangeD_at ed
    rw [Int.zero_add]
    walk_at "vw"
    refine e_orJ (decide ((i : Int) % 3 = 0) || decide ((i : Int) = ((v.T.map sgD).length : Nat))) (fun B hB => ?_) ?_
    · walk_at "vw"
      refine e_orJ (decide ((i : Int) = ((v.T.map sgD).length : Nat))) (fun B2 hB2 => ?_) hB
      walk_at "vw"
      exact hB2
    dsimp only
    split
    · walk_at "vw"
      refine ⟨w, k', s', v, i, rfl, rfl, hv', hl, by omega, by omega, fun s2 k2 hfr hk2 => ?_⟩
      walk_at "vw"
      exact ⟨s2, k2, rfl, hv'.agree hfr, by omega, rfl⟩
    · walk_at "vw"
      exact ⟨s', k', rfl, hv', by omega, rfl⟩
  · rintro e m' ⟨s1, k1, rfl, hv1, hk1, rfl⟩
    walk_at "vw"
    refine ⟨names12, v.T, rfl, hv1.va, by omega, fun y1 s2 hy1 hy2 hfr2 => ?_⟩
    dsimp only at hy1 hfr2
    have hv2 := hv1.agree hfr2
    walk_at "vw"
    rw [List.length_map]
    refine ⟨names12, v, y1, rfl, hv2, names12_ok, by omega, hy2, fun h => (v_frm C names12).som s1 v hv1 y1 h hy1, ?_⟩
    walk_at "vw"
    refine ⟨v.x, _, rfl, hv2.dk.ob, by kernel_rfl, ?_⟩
    walk_at "vw"
    rw [List.length_map]
    refine ⟨names12, v, v.T.length, rfl, hv2, by omega, fun v3 s3 hv3 hT3 hn3 hfr3 => ?_⟩
    dsimp only at hn3 hfr3
    rw [List.take_length] at hT3
    have hv2' := hv2.agree hfr3
    walk_at "vw"
    refine ⟨v.x, _, rfl, hv2'.dk.ob, by kernel_rfl, ?_⟩
    walk_at "vw"
    refine ⟨v.x, v.y, v.z, v.F, v.E, v.T.length, "late", rfl, hv2'.dk, hv2'.dkb (by omega) (by decide), fun F5 s5 e5 hd5 hf5 => ?_⟩
    replace hf5 : DkFr s3 s5 [v.x, v.z, v.y] v.F F5 := hf5
    have som2 := (v_frm C names12).som s2 v hv2
    have hv5 : VOk C names12 s5 v3 := (v_frm C names12).agr s3 s5 v3 hv3 fun a ha => hf5.fr a ((v_frm C names12).som s3 v3 hv3 a ha) (fun h => som2 a (by
      simp only [List.mem_cons, List.not_mem_nil, or_false] at h
      rcases h with rfl | rfl | rfl <;> simp [VD.fp]) (hn3 a ha)) fun h => som2 a (List.mem_cons_of_mem _ (List.mem_cons_of_mem _ (List.mem_cons_of_mem _ h))) (hn3 a ha)
    walk_at "vw"
    refine ⟨names12, v.T, rfl, hv1.va, by omega, fun y6 s6 hy6 hy7 hfr6 => ?_⟩
    dsimp only at hy6 hfr6
    have hv6 := hv5.agree hfr6
    walk_at "vw"
    rw [List.length_map]
    exact ⟨names12, v3, y6, by rw [hT3], hv6, names12_ok, by rw [hT3]; omega, by rw [hT3]; exact hy7, fun h => (v_frm C names12).som s5 v3 hv5 y6 h hy6, hP _⟩
end Ps
namespace Ps
open PySem PySem.Spec PyProof.Rows L2
def topS (i : Nat) : Stmt := PySem.Challenge.pw_pillarstore_k77_fallen_disks.main.body.getD i (.Pass ⟨0, 0, 0, 0⟩)
section
variable {P : Program} {w : World} {K : PySem.W.Frag} {mg : Str → Option Value} {base : Heap}
abbrev NN_begin : List Str := [("_law_script" : Str), ("_law_cells" : Str)]
abbrev sT_begin : Stmt := topS 9
theorem sc_begin : FnScope NN_begin [("_law_script" : Str)] (defScope sT_begin) := ⟨rfl, rfl, rfl, by decide +kernel, rfl, by decide +kernel, by decide +kernel⟩
theorem ok_begin {f : Addr} {fd : FuncData} (F : Fun K ("_law_begin" : Str) ("_law_begin" : Str) sT_begin f fd) (z_list : mg ("list" : Str) = none) {sp : Sp} (hl : ∀ vs H Q E, sp vs H Q E → vs.length = 1)
    (hp : ∀ vs H Q E, sp vs H Q E → t_begin K { nx := fun _ H' => Q .non H', rt := Q } (start NN_begin vs) H) : FnOk P w K mg base CX0 1 f fd [("_law_script" : Str)] sp := by
  refine F.ok (k := 0) sc_begin hl (fun cdv A outer s H vs Q E hr h => ⟨t_begin K, ?_, hp vs H Q E h⟩)
  exact (pss_cons (ps_set (i := 1) sc_begin.nd rfl (by first | exact Or.inl rfl | exact Or.inr rfl) (pe_callTy (call_listU (by rfl)) (by rfl) z_list bt_list (pa_cons (pe_slice sl_u (pv 0) po_none (po_some pe_int)) pa_nil)))
      (pss_cons (ps_if (pt_cmpR (op_eqU hr.units) (pv 1) (pe_lst pa_nil) (nomark _))
      (pss_one (ps_set (i := 1) sc_begin.nd rfl (by first | exact Or.inl rfl | exact Or.inr rfl) (pe_lst (pa_cons pe_int pa_nil))))
      pss_nil)
      (pss_one (ps_ret (pe_disp (pps_cons pe_str (pv 1) (pps_cons pe_str pe_int pps_nil)) (by rfl) (by rfl) (fun z => by cases z) (by decide))))))
abbrev NN_take : List Str := [("_law_state" : Str), ("_law_many" : Str), ("_law_turn" : Str), ("_law_place" : Str), ("_law_cell" : Str), ("_law_digit" : Str), ("_law_mixed" : Str)]
abbrev sT_take : Stmt := topS 10
theorem sc_take : FnScope NN_take [("_law_state" : Str), ("_law_many" : Str)] (defScope sT_take) := ⟨rfl, rfl, rfl, by decide +kernel, rfl, by decide +kernel, by decide +kernel⟩
theorem ok_take {f : Addr} {fd : FuncData} (F : Fun K ("_law_take" : Str) ("_law_take" : Str) sT_take f fd) (z_len : mg ("len" : Str) = none) (z_divmod : mg ("divmod" : Str) = none) {sp : Sp} (hl : ∀ vs H Q E, sp vs H Q E → vs.length = 2)
    (hp : ∀ vs H Q E, sp vs H Q E → t_take K { nx := fun _ H' => Q .non H', rt := Q } (start NN_take vs) H) : FnOk P w K mg base CX0 1 f fd [("_law_state" : Str), ("_law_many" : Str)] sp := by
  refine F.ok (k := 0) sc_take hl (fun cdv A outer s H vs Q E hr h => ⟨t_take K, ?_, hp vs H Q E h⟩)
  exact (pss_cons (ps_set (i := 2) sc_take.nd rfl (by first | exact Or.inl rfl | exact Or.inr rfl) (pe_op op_addU (pe_ix (ix_u (hu_of hr)) (pv 0) pe_str (fun _ _ => rfl)) pe_int))
      (pss_cons (ps_asg (pv 2) (pg_sub (pv 0) pe_str (set_u (hu_of hr))))
      (pss_cons (ps_set (i := 3) sc_take.nd rfl (by first | exact Or.inl rfl | exact Or.inr rfl) (pe_op op_modU (pv 2) (pe_callB call_lenU (by rfl) z_len bt_len (pa_cons (pe_ix (ix_u (hu_of hr)) (pv 0) pe_str (fun _ _ => rfl)) pa_nil))))
      (pss_cons (ps_set (i := 4) sc_take.nd rfl (by first | exact Or.inl rfl | exact Or.inr rfl) (pe_ix (ix_u (hu_of hr)) (pe_ix (ix_u (hu_of hr)) (pv 0) pe_str (fun _ _ => rfl)) (pv 3) (fun _ _ => rfl)))
      (pss_cons (ps_if (pt_cmpR op_geU (pv 4) (pe_op op_powU pe_int pe_int) (nomark _))
      (pss_cons (ps_asg (pe_callB call_divmodU (by rfl) z_divmod bt_divmod (pa_cons (pv 4) (pa_cons (pv 1) pa_nil))) (pg_tup rfl (pgs_cons (pg_sub (pe_ix (ix_u (hu_of hr)) (pv 0) pe_str (fun _ _ => rfl)) (pv 3) (set_u (hu_of hr))) (pgs_cons (pg_name (i := 5) sc_take.nd rfl (by first | exact Or.inl rfl | exact Or.inr rfl)) pgs_nil))))
      (pss_one (ps_ret (pv 5))))
      pss_nil)
      (pss_cons (ps_set (i := 6) sc_take.nd rfl (by first | exact Or.inl rfl | exact Or.inr rfl) (pe_op op_modU (pe_op op_mulU (pe_op op_addU (pe_op op_addU (pe_op op_modU (pv 4) pe_int) (pe_op op_mulU (pe_op op_mulU (pv 2) (pv 2)) pe_int)) pe_int) pe_int) pe_int))
      (pss_cons (ps_set (i := 6) sc_take.nd rfl (by first | exact Or.inl rfl | exact Or.inr rfl) (pe_op op_modU (pe_op op_mulU (pv 6) (pv 6)) pe_int))
      (pss_one (ps_ret (pe_op op_modU (pe_op op_divU (pe_op op_modU (pe_op op_mulU (pe_op op_addU (pv 6) (pe_op op_mulU (pv 2) pe_int)) pe_int) pe_int) pe_int) (pv 1)))))))))))
abbrev NN_files_by : List Str := [("_law_steps" : Str), ("_law_files" : Str), ("_law_word" : Str), ("_law_name" : Str), ("_law_more" : Str)]
abbrev sT_files_by : Stmt := topS 15
theorem sc_files_by : FnScope NN_files_by [("_law_steps" : Str)] (defScope sT_files_by) := ⟨rfl, rfl, rfl, by decide +kernel, rfl, by decide +kernel, by decide +kernel⟩
theorem ok_files_by {f : Addr} {fd : FuncData} (F : Fun K ("_law_files_by" : Str) ("_law_files_by" : Str) sT_files_by f fd) {sp : Sp} (hl : ∀ vs H Q E, sp vs H Q E → vs.length = 1)
    (hp : ∀ vs H Q E, sp vs H Q E → t_files_by K { nx := fun _ H' => Q .non H', rt := Q } (start NN_files_by vs) H) : FnOk P w K mg base CX0 1 f fd [("_law_steps" : Str)] sp := by
  refine F.ok (k := 0) sc_files_by hl (fun cdv A outer s H vs Q E hr h => ⟨t_files_by K, ?_, hp vs H Q E h⟩)
  exact (pss_cons (ps_set (i := 1) sc_files_by.nd rfl (by first | exact Or.inl rfl | exact Or.inr rfl) pe_dnewK)
      (pss_cons (ps_for PassesOwn.never rfl (pi_seqV (pv 0)) (pg_tup rfl (pgs_cons (pg_name (i := 2) sc_files_by.nd rfl (by first | exact Or.inl rfl | exact Or.inr rfl)) (pgs_cons (pg_name (i := 3) sc_files_by.nd rfl (by first | exact Or.inl rfl | exact Or.inr rfl)) (pgs_cons (pg_name (i := 4) sc_files_by.nd rfl (by first | exact Or.inl rfl | exact Or.inr rfl)) pgs_nil))))
      (pss_one (ps_if (pt_cmpR (op_eqU hr.units) (pv 2) pe_str (nomark _))
      (pss_one (ps_asg (pe_lst pa_nil) (pg_sub (pv 1) (pv 3) (set_u (hu_of hr)))))
      (pss_one (ps_if (pt_cmpR (op_eqU hr.units) (pv 2) pe_str (nomark _))
      (pss_one (ps_asg (pe_op op_addU (pe_ix (ix_u (hu_of hr)) (pv 1) (pv 3) (fun _ _ => rfl)) (pe_lst (pa_cons (pv 4) pa_nil))) (pg_sub (pv 1) (pv 3) (set_u (hu_of hr)))))
      (pss_one (ps_if (pt_cmpR (op_eqU hr.units) (pv 2) pe_str (nomark _))
      (pss_one (ps_asg (pe_slice sl_u (pe_ix (ix_u (hu_of hr)) (pv 1) (pv 3) (fun _ _ => rfl)) po_none (po_some (pv 4))) (pg_sub (pv 1) (pv 3) (set_u (hu_of hr)))))
      (pss_one (ps_expr (pe_dpop1 (pv 1) (pv 3) ⟨by rfl, by rfl, by rfl, by rfl⟩))))))))))
      (pss_one (ps_ret (pv 1)))))
abbrev NN_disk_deed : List Str := [("_law_state" : Str), ("_law_files" : Str), ("_law_some" : Str), ("_law_name" : Str), ("_law_way" : Str), ("_law_many" : Str), ("_law_turn" : Str)]
abbrev sT_disk_deed : Stmt := topS 12
theorem sc_disk_deed : FnScope NN_disk_deed [("_law_state" : Str), ("_law_files" : Str)] (defScope sT_disk_deed) := ⟨rfl, rfl, rfl, by decide +kernel, rfl, by decide +kernel, by decide +kernel⟩
theorem ok_disk_deed {f : Addr} {fd : FuncData} (F : Fun K ("_law_disk_deed" : Str) ("_law_disk_deed" : Str) sT_disk_deed f fd) {f_take : Addr} {fd_take : FuncData} {s_take_ : Sp} (G_take : FnOk P w K mg base CX0 1 f_take fd_take [("_law_state" : Str), ("_law_many" : Str)] s_take_) (b_take : Binds K fd_take [("_law_state" : Str), ("_law_many" : Str)] []) (m_take : mg ("_law_take" : Str) = some (.ref f_take)) (kp_take : PySem.W.keepIn K (.ref f_take) = true) (z_sorted : mg ("sorted" : Str) = none) (z_len : mg ("len" : Str) = none) (z_int : mg ("int" : Str) = none) (z_range : mg ("range" : Str) = none) {sp : Sp} (hl : ∀ vs H Q E, sp vs H Q E → vs.length = 2)
    (hp : ∀ vs H Q E, sp vs H Q E → t_disk_deed K s_take_ { nx := fun _ H' => Q .non H', rt := Q } (start NN_disk_deed vs) H) : FnOk P w K mg base CX0 2 f fd [("_law_state" : Str), ("_law_files" : Str)] sp := by
  refine F.ok (k := 1) sc_disk_deed hl (fun cdv A outer s H vs Q E hr h => ⟨t_disk_deed K s_take_, ?_, hp vs H Q E h⟩)
  exact (pss_cons (ps_set (i := 2) sc_disk_deed.nd rfl (by first | exact Or.inl rfl | exact Or.inr rfl) (pe_lst (pa_cons pe_str (pa_cons pe_str (pa_cons pe_str (pa_cons pe_str (pa_cons pe_str (pa_cons pe_str (pa_cons pe_str (pa_cons pe_str (pa_cons pe_str (pa_cons pe_str (pa_cons pe_str (pa_cons pe_str pa_nil))))))))))))))
      (pss_cons (ps_set (i := 3) sc_disk_deed.nd rfl (by first | exact Or.inl rfl | exact Or.inr rfl) (pe_ix (ix_u (hu_of hr)) (pv 2) (pe_call G_take (hr.mono (by decide)) (by rfl) m_take kp_take b_take .nil pass0 (pa_cons (pv 0) (pa_cons pe_int pa_nil))) (fun _ _ => rfl)))
      (pss_cons (ps_set (i := 4) sc_disk_deed.nd rfl (by first | exact Or.inl rfl | exact Or.inr rfl) (pe_call G_take (hr.mono (by decide)) (by rfl) m_take kp_take b_take .nil pass0 (pa_cons (pv 0) (pa_cons pe_int pa_nil))))
      (pss_cons (ps_if (PW.pt (pw_and (pt_cmpR op_gtV (pv 4) pe_int (nomark _)) (pw_and1 (pt_cmpR (op_neNilD hr.units) (pv 1) pe_dnewK (nomark _)))))
      (pss_one (ps_set (i := 3) sc_disk_deed.nd rfl (by first | exact Or.inl rfl | exact Or.inr rfl) (pe_ix (ix_u (hu_of hr)) (pe_callB (cr_sortD (by rfl)) (by rfl) z_sorted bt_sorted (pa_cons (pv 1) pa_nil)) (pe_call G_take (hr.mono (by decide)) (by rfl) m_take kp_take b_take .nil pass0 (pa_cons (pv 0) (pa_cons (pe_callB call_lenU (by rfl) z_len bt_len (pa_cons (pv 1) pa_nil)) pa_nil))) (fun _ _ => rfl))))
      pss_nil)
      (pss_cons (ps_if (pt_cmpR op_ltU (pv 4) pe_int (nomark _))
      (pss_one (ps_ret (pe_tup (pa_cons pe_str (pa_cons (pv 3) (pa_cons pe_non pa_nil))))))
      pss_nil)
      (pss_cons (ps_if (pt_cmpR op_ltU (pv 4) pe_int (nomark _))
      (pss_cons (ps_set (i := 5) sc_disk_deed.nd rfl (by first | exact Or.inl rfl | exact Or.inr rfl) (pe_ix (ix_u (hu_of hr)) (pe_lst (pa_cons (pe_call G_take (hr.mono (by decide)) (by rfl) m_take kp_take b_take .nil pass0 (pa_cons (pv 0) (pa_cons pe_int pa_nil))) (pa_cons (pe_call G_take (hr.mono (by decide)) (by rfl) m_take kp_take b_take .nil pass0 (pa_cons (pv 0) (pa_cons pe_int pa_nil))) pa_nil))) (pe_callTy call_intU (by rfl) z_int bt_int (pa_cons (pe_cmpR (op_eqU hr.units) (pe_call G_take (hr.mono (by decide)) (by rfl) m_take kp_take b_take .nil pass0 (pa_cons (pv 0) (pa_cons pe_int pa_nil))) pe_int (nomark _)) pa_nil)) (fun _ _ => rfl)))
      (pss_one (ps_ret (pe_tup (pa_cons pe_str (pa_cons (pv 3) (pa_cons (pe_lc (own := [(("_law_turn" : Str), 6)]) (g := (gName 6)) (tt := tYes) (te := (tCall s_take_ [] E0 (tCons (tVar 0) (tCons (tC (.int 256)) tNil)))) (by rfl) sc_disk_deed.nd (pi_range1 rfl z_range (pa_cons (pv 5) pa_nil)) (blkOk_by (own := [(("_law_turn" : Str), 6)]) (N := [("_law_state" : Str), ("_law_files" : Str), ("_law_some" : Str), ("_law_name" : Str), ("_law_way" : Str), ("_law_many" : Str), ("_law_turn" : Str)]) (sc := defScope sT_disk_deed) (by decide +kernel)) (fun _ _ _ _ _ => (pg_name (i := 6) sc_disk_deed.nd rfl (by first | exact Or.inl rfl | exact Or.inr rfl))) (fun _ _ _ _ _ => pts_nil) (fun _ _ _ _ _ => (pe_call G_take (hr.mono (by decide)) (by rfl) m_take kp_take b_take .nil pass0 (pa_cons (pv 0) (pa_cons pe_int pa_nil))))) pa_nil)))))))
      pss_nil)
      (pss_cons (ps_if (pt_cmpR (op_eqU hr.units) (pv 4) pe_int (nomark _))
      (pss_one (ps_ret (pe_tup (pa_cons pe_str (pa_cons (pv 3) (pa_cons (pe_call G_take (hr.mono (by decide)) (by rfl) m_take kp_take b_take .nil pass0 (pa_cons (pv 0) (pa_cons (pe_op op_addU pe_int (pe_callB call_lenU (by rfl) z_len bt_len (pa_cons (pe_dget2 (hu_of hr) (pv 1) (pv 3) (pe_lst pa_nil) ⟨by rfl, by rfl, by rfl, by rfl⟩) pa_nil))) pa_nil))) pa_nil))))))
      pss_nil)
      (pss_one (ps_ret (pe_tup (pa_cons pe_str (pa_cons (pv 3) (pa_cons pe_non pa_nil)))))))))))))
abbrev NN_deed_steps : List Str := [("deed" : Str)]
abbrev sT_deed_steps : Stmt := topS 4
theorem sc_deed_steps : FnScope NN_deed_steps [("deed" : Str)] (defScope sT_deed_steps) := ⟨rfl, rfl, rfl, by decide +kernel, rfl, by decide +kernel, by decide +kernel⟩
theorem ok_deed_steps {f : Addr} {fd : FuncData} (F : Fun K ("deed_steps" : Str) ("deed_steps" : Str) sT_deed_steps f fd) (z_len : mg ("len" : Str) = none) {sp : Sp} (hl : ∀ vs H Q E, sp vs H Q E → vs.length = 1)
    (hp : ∀ vs H Q E, sp vs H Q E → t_deed_steps K { nx := fun _ H' => Q .non H', rt := Q } (start NN_deed_steps vs) H) : FnOk P w K mg base CX0 1 f fd [("deed" : Str)] sp := by
  refine F.ok (k := 0) sc_deed_steps hl (fun cdv A outer s H vs Q E hr h => ⟨t_deed_steps K, ?_, hp vs H Q E h⟩)
  exact (pss_cons (ps_if (pt_cmpR (op_eqU hr.units) (pe_ix (ix_u (hu_of hr)) (pv 0) pe_int (fun _ _ => rfl)) pe_str (nomark _))
      (pss_one (ps_ret (pe_callB call_lenU (by rfl) z_len bt_len (pa_cons (pe_ix (ix_u (hu_of hr)) (pv 0) pe_int (fun _ _ => rfl)) pa_nil))))
      pss_nil)
      (pss_one (ps_ret pe_int)))
abbrev NN_done_with : List Str := [("files" : Str), ("deed" : Str), ("word" : Str), ("name" : Str), ("more" : Str)]
abbrev sT_done_with : Stmt := topS 6
theorem sc_done_with : FnScope NN_done_with [("files" : Str), ("deed" : Str)] (defScope sT_done_with) := ⟨rfl, rfl, rfl, by decide +kernel, rfl, by decide +kernel, by decide +kernel⟩
theorem ok_done_with {f : Addr} {fd : FuncData} (F : Fun K ("done_with" : Str) ("done_with" : Str) sT_done_with f fd) {sp : Sp} (hl : ∀ vs H Q E, sp vs H Q E → vs.length = 2)
    (hp : ∀ vs H Q E, sp vs H Q E → t_done_with K { nx := fun _ H' => Q .non H', rt := Q } (start NN_done_with vs) H) : FnOk P w K mg base CX0 1 f fd [("files" : Str), ("deed" : Str)] sp := by
  refine F.ok (k := 0) sc_done_with hl (fun cdv A outer s H vs Q E hr h => ⟨t_done_with K, ?_, hp vs H Q E h⟩)
  exact (pss_cons (ps_asg (pv 1) (pg_tup rfl (pgs_cons (pg_name (i := 2) sc_done_with.nd rfl (by first | exact Or.inl rfl | exact Or.inr rfl)) (pgs_cons (pg_name (i := 3) sc_done_with.nd rfl (by first | exact Or.inl rfl | exact Or.inr rfl)) (pgs_cons (pg_name (i := 4) sc_done_with.nd rfl (by first | exact Or.inl rfl | exact Or.inr rfl)) pgs_nil)))))
      (pss_one (ps_if (pt_cmpR (op_eqU hr.units) (pv 2) pe_str (nomark _))
      (pss_one (ps_asg (pe_lst pa_nil) (pg_sub (pv 0) (pv 3) (set_u (hu_of hr)))))
      (pss_one (ps_if (pt_cmpR (op_eqU hr.units) (pv 2) pe_str (nomark _))
      (pss_one (ps_expr (pe_bm PySem.F.plainAttrs_list PySem.F.slot_list_extend PySem.F.type_list_extend mt_extend (pe_ix (ix_u (hu_of hr)) (pv 0) (pv 3) (fun _ _ => rfl)) (pa_cons (pv 4) pa_nil))))
      (pss_one (ps_if (pt_cmpR (op_eqU hr.units) (pv 2) pe_str (nomark _))
      (pss_one (ps_asg (pe_slice sl_u (pe_ix (ix_u (hu_of hr)) (pv 0) (pv 3) (fun _ _ => rfl)) po_none (po_some (pv 4))) (pg_sub (pv 0) (pv 3) (set_u (hu_of hr)))))
      (pss_one (ps_expr (pe_dpop1 (pv 0) (pv 3) ⟨by rfl, by rfl, by rfl, by rfl⟩))))))))))
abbrev NN_Disk_keep_deed : List Str := [("self" : Str), ("deed" : Str)]
abbrev sT_Disk_keep_deed : Stmt := inClass (topS 7) 1
theorem sc_Disk_keep_deed : FnScope NN_Disk_keep_deed [("self" : Str), ("deed" : Str)] (defScope sT_Disk_keep_deed) := ⟨rfl, rfl, rfl, by decide +kernel, rfl, by decide +kernel, by decide +kernel⟩
theorem ok_Disk_keep_deed {f : Addr} {fd : FuncData} (F : Fun K ("keep_deed" : Str) ("Disk.keep_deed" : Str) sT_Disk_keep_deed f fd) {f_deed_steps : Addr} {fd_deed_steps : FuncData} {s_deed_steps_ : Sp} (G_deed_steps : FnOk P w K mg base CX0 1 f_deed_steps fd_deed_steps [("deed" : Str)] s_deed_steps_) (b_deed_steps : Binds K fd_deed_steps [("deed" : Str)] []) (m_deed_steps : mg ("deed_steps" : Str) = some (.ref f_deed_steps)) (kp_deed_steps : PySem.W.keepIn K (.ref f_deed_steps) = true) {f_done_with : Addr} {fd_done_with : FuncData} {s_done_with_ : Sp} (G_done_with : FnOk P w K mg base CX0 1 f_done_with fd_done_with [("files" : Str), ("deed" : Str)] s_done_with_) (b_done_with : Binds K fd_done_with [("files" : Str), ("deed" : Str)] []) (m_done_with : mg ("done_with" : Str) = some (.ref f_done_with)) (kp_done_with : PySem.W.keepIn K (.ref f_done_with) = true) {c_Disk : Addr} (m_Disk : mg ("Disk" : Str) = some (.ref c_Disk)) {sp : Sp} (hl : ∀ vs H Q E, sp vs H Q E → vs.length = 2)
    (hp : ∀ vs H Q E, sp vs H Q E → t_Disk_keep_deed K s_deed_steps_ s_done_with_ { nx := fun _ H' => Q .non H', rt := Q } (start NN_Disk_keep_deed vs) H) : FnOk P w K mg base CX0 2 f fd [("self" : Str), ("deed" : Str)] sp := by
  refine F.ok (k := 1) sc_Disk_keep_deed hl (fun cdv A outer s H vs Q E hr h => ⟨t_Disk_keep_deed K s_deed_steps_ s_done_with_, ?_, hp vs H Q E h⟩)
  exact (pss_one (ps_if (pt_cmpR op_gtV (pe_call G_deed_steps (hr.mono (by decide)) (by rfl) m_deed_steps kp_deed_steps b_deed_steps .nil pass0 (pa_cons (pv 1) pa_nil)) pe_int (nomark _))
      (pss_cons (ps_expr (pe_call G_done_with (hr.mono (by decide)) (by rfl) m_done_with kp_done_with b_done_with .nil pass0 (pa_cons (pe_fld (pv 0) rfl) (pa_cons (pv 1) pa_nil))))
      (pss_cons (ps_expr (pe_bm PySem.F.plainAttrs_list PySem.F.slot_list_append PySem.F.type_list_append mt_append (pe_fld (pv 0) rfl) (pa_cons (pv 1) pa_nil)))
      (pss_one (ps_fld (pv 0) (pe_op op_addU (pe_fld (pv 0) rfl) (pe_call G_deed_steps (hr.mono (by decide)) (by rfl) m_deed_steps kp_deed_steps b_deed_steps .nil pass0 (pa_cons (pv 1) pa_nil))) rfl))))
      pss_nil))
abbrev NN_Disk_make : List Str := [("self" : Str), ("name" : Str)]
abbrev sT_Disk_make : Stmt := inClass (topS 7) 3
theorem sc_Disk_make : FnScope NN_Disk_make [("self" : Str), ("name" : Str)] (defScope sT_Disk_make) := ⟨rfl, rfl, rfl, by decide +kernel, rfl, by decide +kernel, by decide +kernel⟩
theorem ok_Disk_make {f : Addr} {fd : FuncData} (F : Fun K ("make" : Str) ("Disk.make" : Str) sT_Disk_make f fd) {f_Disk_keep_deed : Addr} {fd_Disk_keep_deed : FuncData} {s_Disk_keep_deed_ : Sp} (G_Disk_keep_deed : FnOk P w K mg base CX0 2 f_Disk_keep_deed fd_Disk_keep_deed [("self" : Str), ("deed" : Str)] s_Disk_keep_deed_) (b_Disk_keep_deed : Binds K fd_Disk_keep_deed [("self" : Str), ("deed" : Str)] []) {c_Disk : Addr} (cl_Disk : Cls K c_Disk) (me_Disk_keep_deed : Meth K c_Disk ("keep_deed" : Str) f_Disk_keep_deed) {sp : Sp} (hl : ∀ vs H Q E, sp vs H Q E → vs.length = 2)
    (hp : ∀ vs H Q E, sp vs H Q E → t_Disk_make K s_Disk_keep_deed_ c_Disk { nx := fun _ H' => Q .non H', rt := Q } (start NN_Disk_make vs) H) : FnOk P w K mg base CX0 3 f fd [("self" : Str), ("name" : Str)] sp := by
  refine F.ok (k := 2) sc_Disk_make hl (fun cdv A outer s H vs Q E hr h => ⟨t_Disk_make K s_Disk_keep_deed_ c_Disk, ?_, hp vs H Q E h⟩)
  exact (pss_one (ps_expr (pe_methQ (pv 0) cl_Disk me_Disk_keep_deed G_Disk_keep_deed (hr.mono (by decide)) b_Disk_keep_deed passQ0 (pa_cons (pe_tup (pa_cons pe_str (pa_cons (pv 1) (pa_cons pe_non pa_nil)))) pa_nil))))
abbrev NN_Disk_look_file : List Str := [("self" : Str), ("name" : Str)]
abbrev sT_Disk_look_file : Stmt := inClass (topS 7) 2
theorem sc_Disk_look_file : FnScope NN_Disk_look_file [("self" : Str), ("name" : Str)] (defScope sT_Disk_look_file) := ⟨rfl, rfl, rfl, by decide +kernel, rfl, by decide +kernel, by decide +kernel⟩
theorem ok_Disk_look_file {f : Addr} {fd : FuncData} (F : Fun K ("look_file" : Str) ("Disk.look_file" : Str) sT_Disk_look_file f fd) {c_NoFile : Addr} (x_NoFile : PySem.W.excIn K c_NoFile [.type "ValueError", .type "Exception", .type "BaseException", .type "object"] "ValueError.__new__" = true) (kc_NoFile : PySem.W.keepIn K (.ref c_NoFile) = true) (bs_NoFile : PySem.W.subIn K (.ref c_NoFile) (.type "BaseException") = some true) (ty_NoFile : PySem.W.typeIn K (.ref c_NoFile) = some (.type "type")) {c_Disk : Addr} (m_Disk : mg ("Disk" : Str) = some (.ref c_Disk)) (m_NoFile : mg ("NoFile" : Str) = some (.ref c_NoFile)) {sp : Sp} (hl : ∀ vs H Q E, sp vs H Q E → vs.length = 2)
    (hp : ∀ vs H Q E, sp vs H Q E → t_Disk_look_file K c_NoFile E { nx := fun _ H' => Q .non H', rt := Q } (start NN_Disk_look_file vs) H) : FnOk P w K mg base (L2.CX P w) 1 f fd [("self" : Str), ("name" : Str)] sp := by
  refine F.okX (k := 0) sc_Disk_look_file hl (fun cdv A outer s H vs Q E hr h => ⟨t_Disk_look_file K c_NoFile E, ?_, hp vs H Q E h⟩)
  exact (pss_one (ps_if (pt_cmpR (op_niU (hu_of hr)) (pv 1) (pe_fld (pv 0) rfl) (by rfl))
      (pss_one (ps_raise rfl (takes_of rfl rfl rfl rfl) (pmk_own PySem.F.excBase_ValueError x_NoFile m_NoFile kc_NoFile (raises_own bs_NoFile ty_NoFile) (by exact rfl))))
      pss_nil))
abbrev NN_Disk_add : List Str := [("self" : Str), ("name" : Str), ("row" : Str)]
abbrev sT_Disk_add : Stmt := inClass (topS 7) 4
theorem sc_Disk_add : FnScope NN_Disk_add [("self" : Str), ("name" : Str), ("row" : Str)] (defScope sT_Disk_add) := ⟨rfl, rfl, rfl, by decide +kernel, rfl, by decide +kernel, by decide +kernel⟩
theorem ok_Disk_add {f : Addr} {fd : FuncData} (F : Fun K ("add" : Str) ("Disk.add" : Str) sT_Disk_add f fd) {f_Disk_look_file : Addr} {fd_Disk_look_file : FuncData} {s_Disk_look_file_ : Sp} (G_Disk_look_file : FnOk P w K mg base (L2.CX P w) 1 f_Disk_look_file fd_Disk_look_file [("self" : Str), ("name" : Str)] s_Disk_look_file_) (b_Disk_look_file : Binds K fd_Disk_look_file [("self" : Str), ("name" : Str)] []) {c_Disk : Addr} (cl_Disk : Cls K c_Disk) (me_Disk_look_file : Meth K c_Disk ("look_file" : Str) f_Disk_look_file) {f_Disk_keep_deed : Addr} {fd_Disk_keep_deed : FuncData} {s_Disk_keep_deed_ : Sp} (G_Disk_keep_deed : FnOk P w K mg base CX0 2 f_Disk_keep_deed fd_Disk_keep_deed [("self" : Str), ("deed" : Str)] s_Disk_keep_deed_) (b_Disk_keep_deed : Binds K fd_Disk_keep_deed [("self" : Str), ("deed" : Str)] []) (me_Disk_keep_deed : Meth K c_Disk ("keep_deed" : Str) f_Disk_keep_deed) (z_list : mg ("list" : Str) = none) {sp : Sp} (hl : ∀ vs H Q E, sp vs H Q E → vs.length = 3)
    (hp : ∀ vs H Q E, sp vs H Q E → t_Disk_add K s_Disk_look_file_ s_Disk_keep_deed_ c_Disk E { nx := fun _ H' => Q .non H', rt := Q } (start NN_Disk_add vs) H) : FnOk P w K mg base (L2.CX P w) 3 f fd [("self" : Str), ("name" : Str), ("row" : Str)] sp := by
  refine F.okX (k := 2) sc_Disk_add hl (fun cdv A outer s H vs Q E hr h => ⟨t_Disk_add K s_Disk_look_file_ s_Disk_keep_deed_ c_Disk E, ?_, hp vs H Q E h⟩)
  exact (pss_cons (ps_expr (pe_methQ (pv 0) cl_Disk me_Disk_look_file G_Disk_look_file (hr.mono (by decide)) b_Disk_look_file (fun σ => passAt (takes_of rfl rfl rfl rfl) σ) (pa_cons (pv 1) pa_nil)))
      (pss_one (ps_expr (pe_methQ (pv 0) cl_Disk me_Disk_keep_deed G_Disk_keep_deed (hr.mono (by decide)) b_Disk_keep_deed passQ0 (pa_cons (pe_tup (pa_cons pe_str (pa_cons (pv 1) (pa_cons (pe_callTy (call_listU (by rfl)) (by rfl) z_list bt_list (pa_cons (pv 2) pa_nil)) pa_nil)))) pa_nil)))))
abbrev NN_Disk_cut : List Str := [("self" : Str), ("name" : Str), ("many" : Str)]
abbrev sT_Disk_cut : Stmt := inClass (topS 7) 5
theorem sc_Disk_cut : FnScope NN_Disk_cut [("self" : Str), ("name" : Str), ("many" : Str)] (defScope sT_Disk_cut) := ⟨rfl, rfl, rfl, by decide +kernel, rfl, by decide +kernel, by decide +kernel⟩
theorem ok_Disk_cut {f : Addr} {fd : FuncData} (F : Fun K ("cut" : Str) ("Disk.cut" : Str) sT_Disk_cut f fd) {f_Disk_look_file : Addr} {fd_Disk_look_file : FuncData} {s_Disk_look_file_ : Sp} (G_Disk_look_file : FnOk P w K mg base (L2.CX P w) 1 f_Disk_look_file fd_Disk_look_file [("self" : Str), ("name" : Str)] s_Disk_look_file_) (b_Disk_look_file : Binds K fd_Disk_look_file [("self" : Str), ("name" : Str)] []) {c_Disk : Addr} (cl_Disk : Cls K c_Disk) (me_Disk_look_file : Meth K c_Disk ("look_file" : Str) f_Disk_look_file) {f_Disk_keep_deed : Addr} {fd_Disk_keep_deed : FuncData} {s_Disk_keep_deed_ : Sp} (G_Disk_keep_deed : FnOk P w K mg base CX0 2 f_Disk_keep_deed fd_Disk_keep_deed [("self" : Str), ("deed" : Str)] s_Disk_keep_deed_) (b_Disk_keep_deed : Binds K fd_Disk_keep_deed [("self" : Str), ("deed" : Str)] []) (me_Disk_keep_deed : Meth K c_Disk ("keep_deed" : Str) f_Disk_keep_deed) {sp : Sp} (hl : ∀ vs H Q E, sp vs H Q E → vs.length = 3)
    (hp : ∀ vs H Q E, sp vs H Q E → t_Disk_cut K s_Disk_look_file_ s_Disk_keep_deed_ c_Disk E { nx := fun _ H' => Q .non H', rt := Q } (start NN_Disk_cut vs) H) : FnOk P w K mg base (L2.CX P w) 3 f fd [("self" : Str), ("name" : Str), ("many" : Str)] sp := by
  refine F.okX (k := 2) sc_Disk_cut hl (fun cdv A outer s H vs Q E hr h => ⟨t_Disk_cut K s_Disk_look_file_ s_Disk_keep_deed_ c_Disk E, ?_, hp vs H Q E h⟩)
  exact (pss_cons (ps_expr (pe_methQ (pv 0) cl_Disk me_Disk_look_file G_Disk_look_file (hr.mono (by decide)) b_Disk_look_file (fun σ => passAt (takes_of rfl rfl rfl rfl) σ) (pa_cons (pv 1) pa_nil)))
      (pss_one (ps_expr (pe_methQ (pv 0) cl_Disk me_Disk_keep_deed G_Disk_keep_deed (hr.mono (by decide)) b_Disk_keep_deed passQ0 (pa_cons (pe_tup (pa_cons pe_str (pa_cons (pv 1) (pa_cons (pv 2) pa_nil)))) pa_nil)))))
abbrev NN_Disk_drop : List Str := [("self" : Str), ("name" : Str)]
abbrev sT_Disk_drop : Stmt := inClass (topS 7) 6
theorem sc_Disk_drop : FnScope NN_Disk_drop [("self" : Str), ("name" : Str)] (defScope sT_Disk_drop) := ⟨rfl, rfl, rfl, by decide +kernel, rfl, by decide +kernel, by decide +kernel⟩
theorem ok_Disk_drop {f : Addr} {fd : FuncData} (F : Fun K ("drop" : Str) ("Disk.drop" : Str) sT_Disk_drop f fd) {f_Disk_look_file : Addr} {fd_Disk_look_file : FuncData} {s_Disk_look_file_ : Sp} (G_Disk_look_file : FnOk P w K mg base (L2.CX P w) 1 f_Disk_look_file fd_Disk_look_file [("self" : Str), ("name" : Str)] s_Disk_look_file_) (b_Disk_look_file : Binds K fd_Disk_look_file [("self" : Str), ("name" : Str)] []) {c_Disk : Addr} (cl_Disk : Cls K c_Disk) (me_Disk_look_file : Meth K c_Disk ("look_file" : Str) f_Disk_look_file) {f_Disk_keep_deed : Addr} {fd_Disk_keep_deed : FuncData} {s_Disk_keep_deed_ : Sp} (G_Disk_keep_deed : FnOk P w K mg base CX0 2 f_Disk_keep_deed fd_Disk_keep_deed [("self" : Str), ("deed" : Str)] s_Disk_keep_deed_) (b_Disk_keep_deed : Binds K fd_Disk_keep_deed [("self" : Str), ("deed" : Str)] []) (me_Disk_keep_deed : Meth K c_Disk ("keep_deed" : Str) f_Disk_keep_deed) {sp : Sp} (hl : ∀ vs H Q E, sp vs H Q E → vs.length = 2)
    (hp : ∀ vs H Q E, sp vs H Q E → t_Disk_drop K s_Disk_look_file_ s_Disk_keep_deed_ c_Disk E { nx := fun _ H' => Q .non H', rt := Q } (start NN_Disk_drop vs) H) : FnOk P w K mg base (L2.CX P w) 3 f fd [("self" : Str), ("name" : Str)] sp := by
  refine F.okX (k := 2) sc_Disk_drop hl (fun cdv A outer s H vs Q E hr h => ⟨t_Disk_drop K s_Disk_look_file_ s_Disk_keep_deed_ c_Disk E, ?_, hp vs H Q E h⟩)
  exact (pss_cons (ps_expr (pe_methQ (pv 0) cl_Disk me_Disk_look_file G_Disk_look_file (hr.mono (by decide)) b_Disk_look_file (fun σ => passAt (takes_of rfl rfl rfl rfl) σ) (pa_cons (pv 1) pa_nil)))
      (pss_one (ps_expr (pe_methQ (pv 0) cl_Disk me_Disk_keep_deed G_Disk_keep_deed (hr.mono (by decide)) b_Disk_keep_deed passQ0 (pa_cons (pe_tup (pa_cons pe_str (pa_cons (pv 1) (pa_cons pe_non pa_nil)))) pa_nil)))))
abbrev NN_done_on : List Str := [("_law_disk" : Str), ("_law_deed" : Str), ("_law_word" : Str), ("_law_name" : Str), ("_law_more" : Str)]
abbrev sT_done_on : Stmt := topS 13
theorem sc_done_on : FnScope NN_done_on [("_law_disk" : Str), ("_law_deed" : Str)] (defScope sT_done_on) := ⟨rfl, rfl, rfl, by decide +kernel, rfl, by decide +kernel, by decide +kernel⟩
theorem ok_done_on {f : Addr} {fd : FuncData} (F : Fun K ("_law_done_on" : Str) ("_law_done_on" : Str) sT_done_on f fd) {f_Disk_make : Addr} {fd_Disk_make : FuncData} {s_Disk_make_ : Sp} (G_Disk_make : FnOk P w K mg base CX0 3 f_Disk_make fd_Disk_make [("self" : Str), ("name" : Str)] s_Disk_make_) (b_Disk_make : Binds K fd_Disk_make [("self" : Str), ("name" : Str)] []) {c_Disk : Addr} (cl_Disk : Cls K c_Disk) (me_Disk_make : Meth K c_Disk ("make" : Str) f_Disk_make) {f_Disk_add : Addr} {fd_Disk_add : FuncData} {s_Disk_add_ : Sp} (G_Disk_add : FnOk P w K mg base (L2.CX P w) 3 f_Disk_add fd_Disk_add [("self" : Str), ("name" : Str), ("row" : Str)] s_Disk_add_) (b_Disk_add : Binds K fd_Disk_add [("self" : Str), ("name" : Str), ("row" : Str)] []) (me_Disk_add : Meth K c_Disk ("add" : Str) f_Disk_add) {f_Disk_cut : Addr} {fd_Disk_cut : FuncData} {s_Disk_cut_ : Sp} (G_Disk_cut : FnOk P w K mg base (L2.CX P w) 3 f_Disk_cut fd_Disk_cut [("self" : Str), ("name" : Str), ("many" : Str)] s_Disk_cut_) (b_Disk_cut : Binds K fd_Disk_cut [("self" : Str), ("name" : Str), ("many" : Str)] []) (me_Disk_cut : Meth K c_Disk ("cut" : Str) f_Disk_cut) {f_Disk_drop : Addr} {fd_Disk_drop : FuncData} {s_Disk_drop_ : Sp} (G_Disk_drop : FnOk P w K mg base (L2.CX P w) 3 f_Disk_drop fd_Disk_drop [("self" : Str), ("name" : Str)] s_Disk_drop_) (b_Disk_drop : Binds K fd_Disk_drop [("self" : Str), ("name" : Str)] []) (me_Disk_drop : Meth K c_Disk ("drop" : Str) f_Disk_drop) {sp : Sp} (hl : ∀ vs H Q E, sp vs H Q E → vs.length = 2)
    (hp : ∀ vs H Q E, sp vs H Q E → t_done_on K s_Disk_make_ s_Disk_add_ s_Disk_cut_ s_Disk_drop_ c_Disk E { nx := fun _ H' => Q .non H', rt := Q } (start NN_done_on vs) H) : FnOk P w K mg base (L2.CX P w) 4 f fd [("_law_disk" : Str), ("_law_deed" : Str)] sp := by
  refine F.okX (k := 3) sc_done_on hl (fun cdv A outer s H vs Q E hr h => ⟨t_done_on K s_Disk_make_ s_Disk_add_ s_Disk_cut_ s_Disk_drop_ c_Disk E, ?_, hp vs H Q E h⟩)
  exact (pss_cons (ps_asg (pv 1) (pg_tup rfl (pgs_cons (pg_name (i := 2) sc_done_on.nd rfl (by first | exact Or.inl rfl | exact Or.inr rfl)) (pgs_cons (pg_name (i := 3) sc_done_on.nd rfl (by first | exact Or.inl rfl | exact Or.inr rfl)) (pgs_cons (pg_name (i := 4) sc_done_on.nd rfl (by first | exact Or.inl rfl | exact Or.inr rfl)) pgs_nil)))))
      (pss_one (ps_if (pt_cmpR (op_eqU hr.units) (pv 2) pe_str (nomark _))
      (pss_one (ps_expr (pe_methQ (pv 0) cl_Disk me_Disk_make G_Disk_make (hr.mono (by decide)) b_Disk_make passQ0 (pa_cons (pv 3) pa_nil))))
      (pss_one (ps_if (pt_cmpR (op_eqU hr.units) (pv 2) pe_str (nomark _))
      (pss_one (ps_expr (pe_methQ (pv 0) cl_Disk me_Disk_add G_Disk_add (hr.mono (by decide)) b_Disk_add (fun σ => passAt (takes_of rfl rfl rfl rfl) σ) (pa_cons (pv 3) (pa_cons (pv 4) pa_nil)))))
      (pss_one (ps_if (pt_cmpR (op_eqU hr.units) (pv 2) pe_str (nomark _))
      (pss_one (ps_expr (pe_methQ (pv 0) cl_Disk me_Disk_cut G_Disk_cut (hr.mono (by decide)) b_Disk_cut (fun σ => passAt (takes_of rfl rfl rfl rfl) σ) (pa_cons (pv 3) (pa_cons (pv 4) pa_nil)))))
      (pss_one (ps_expr (pe_methQ (pv 0) cl_Disk me_Disk_drop G_Disk_drop (hr.mono (by decide)) b_Disk_drop (fun σ => passAt (takes_of rfl rfl rfl rfl) σ) (pa_cons (pv 3) pa_nil)))))))))))
abbrev NN_single_steps : List Str := [("_law_deed" : Str), ("_law_word" : Str), ("_law_name" : Str), ("_law_more" : Str), ("_law_byte" : Str)]
abbrev sT_single_steps : Stmt := topS 14
theorem sc_single_steps : FnScope NN_single_steps [("_law_deed" : Str)] (defScope sT_single_steps) := ⟨rfl, rfl, rfl, by decide +kernel, rfl, by decide +kernel, by decide +kernel⟩
theorem ok_single_steps {f : Addr} {fd : FuncData} (F : Fun K ("_law_single_steps" : Str) ("_law_single_steps" : Str) sT_single_steps f fd) {sp : Sp} (hl : ∀ vs H Q E, sp vs H Q E → vs.length = 1)
    (hp : ∀ vs H Q E, sp vs H Q E → t_single_steps K { nx := fun _ H' => Q .non H', rt := Q } (start NN_single_steps vs) H) : FnOk P w K mg base CX0 1 f fd [("_law_deed" : Str)] sp := by
  refine F.ok (k := 0) sc_single_steps hl (fun cdv A outer s H vs Q E hr h => ⟨t_single_steps K, ?_, hp vs H Q E h⟩)
  exact (pss_cons (ps_asg (pv 0) (pg_tup rfl (pgs_cons (pg_name (i := 1) sc_single_steps.nd rfl (by first | exact Or.inl rfl | exact Or.inr rfl)) (pgs_cons (pg_name (i := 2) sc_single_steps.nd rfl (by first | exact Or.inl rfl | exact Or.inr rfl)) (pgs_cons (pg_name (i := 3) sc_single_steps.nd rfl (by first | exact Or.inl rfl | exact Or.inr rfl)) pgs_nil)))))
      (pss_cons (ps_if (pt_cmpR (op_eqU hr.units) (pv 1) pe_str (nomark _))
      (pss_one (ps_ret (pe_lc (own := [(("_law_byte" : Str), 4)]) (g := (gName 4)) (tt := tYes) (te := (tTup (tCons (tC (.str ("byte" : Str))) (tCons (tVar 2) (tCons (tVar 4) tNil))))) (by rfl) sc_single_steps.nd (pi_seqV (pv 3)) (blkOk_by (own := [(("_law_byte" : Str), 4)]) (N := [("_law_deed" : Str), ("_law_word" : Str), ("_law_name" : Str), ("_law_more" : Str), ("_law_byte" : Str)]) (sc := defScope sT_single_steps) (by decide +kernel)) (fun _ _ _ _ _ => (pg_name (i := 4) sc_single_steps.nd rfl (by first | exact Or.inl rfl | exact Or.inr rfl))) (fun _ _ _ _ _ => pts_nil) (fun _ _ _ _ _ => (pe_tup (pa_cons pe_str (pa_cons (pv 2) (pa_cons (pv 4) pa_nil))))))))
      pss_nil)
      (pss_one (ps_ret (pe_lst (pa_cons (pv 0) pa_nil))))))
abbrev NN_Disk_init : List Str := [("self" : Str)]
abbrev sT_Disk_init : Stmt := inClass (topS 7) 0
theorem sc_Disk_init : FnScope NN_Disk_init [("self" : Str)] (defScope sT_Disk_init) := ⟨rfl, rfl, rfl, by decide +kernel, rfl, by decide +kernel, by decide +kernel⟩
theorem ok_Disk_init {f : Addr} {fd : FuncData} (F : Fun K ("__init__" : Str) ("Disk.__init__" : Str) sT_Disk_init f fd) {c_Disk : Addr} (m_Disk : mg ("Disk" : Str) = some (.ref c_Disk)) {sp : Sp} (hl : ∀ vs H Q E, sp vs H Q E → vs.length = 1)
    (hp : ∀ vs H Q E, sp vs H Q E → t_Disk_init K { nx := fun _ H' => Q .non H', rt := Q } (start NN_Disk_init vs) H) : FnOk P w K mg base CX0 1 f fd [("self" : Str)] sp := by
  refine F.ok (k := 0) sc_Disk_init hl (fun cdv A outer s H vs Q E hr h => ⟨t_Disk_init K, ?_, hp vs H Q E h⟩)
  exact (pss_cons (ps_fld (pv 0) pe_dnewK rfl)
      (pss_cons (ps_fld (pv 0) (pe_lst pa_nil) rfl)
      (pss_one (ps_fld (pv 0) pe_int rfl))))
abbrev NN_drawn : List Str := [("_law_state" : Str), ("_law_disk" : Str), ("_law_steps" : Str), ("_law_many" : Str), ("_law_turn" : Str), ("_law_files" : Str), ("_law_deed" : Str)]
abbrev sT_drawn : Stmt := topS 17
theorem sc_drawn : FnScope NN_drawn [("_law_state" : Str)] (defScope sT_drawn) := ⟨rfl, rfl, rfl, by decide +kernel, rfl, by decide +kernel, by decide +kernel⟩
theorem ok_drawn {f : Addr} {fd : FuncData} (F : Fun K ("_law_drawn" : Str) ("_law_drawn" : Str) sT_drawn f fd) {f_take : Addr} {fd_take : FuncData} {s_take_ : Sp} (G_take : FnOk P w K mg base CX0 1 f_take fd_take [("_law_state" : Str), ("_law_many" : Str)] s_take_) (b_take : Binds K fd_take [("_law_state" : Str), ("_law_many" : Str)] []) (m_take : mg ("_law_take" : Str) = some (.ref f_take)) (kp_take : PySem.W.keepIn K (.ref f_take) = true) {f_files_by : Addr} {fd_files_by : FuncData} {s_files_by_ : Sp} (G_files_by : FnOk P w K mg base CX0 1 f_files_by fd_files_by [("_law_steps" : Str)] s_files_by_) (b_files_by : Binds K fd_files_by [("_law_steps" : Str)] []) (m_files_by : mg ("_law_files_by" : Str) = some (.ref f_files_by)) (kp_files_by : PySem.W.keepIn K (.ref f_files_by) = true) {f_disk_deed : Addr} {fd_disk_deed : FuncData} {s_disk_deed_ : Sp} (G_disk_deed : FnOk P w K mg base CX0 2 f_disk_deed fd_disk_deed [("_law_state" : Str), ("_law_files" : Str)] s_disk_deed_) (b_disk_deed : Binds K fd_disk_deed [("_law_state" : Str), ("_law_files" : Str)] []) (m_disk_deed : mg ("_law_disk_deed" : Str) = some (.ref f_disk_deed)) (kp_disk_deed : PySem.W.keepIn K (.ref f_disk_deed) = true) {f_done_on : Addr} {fd_done_on : FuncData} {s_done_on_ : Sp} (G_done_on : FnOk P w K mg base (L2.CX P w) 4 f_done_on fd_done_on [("_law_disk" : Str), ("_law_deed" : Str)] s_done_on_) (b_done_on : Binds K fd_done_on [("_law_disk" : Str), ("_law_deed" : Str)] []) (m_done_on : mg ("_law_done_on" : Str) = some (.ref f_done_on)) (kp_done_on : PySem.W.keepIn K (.ref f_done_on) = true) {f_single_steps : Addr} {fd_single_steps : FuncData} {s_single_steps_ : Sp} (G_single_steps : FnOk P w K mg base CX0 1 f_single_steps fd_single_steps [("_law_deed" : Str)] s_single_steps_) (b_single_steps : Binds K fd_single_steps [("_law_deed" : Str)] []) (m_single_steps : mg ("_law_single_steps" : Str) = some (.ref f_single_steps)) (kp_single_steps : PySem.W.keepIn K (.ref f_single_steps) = true) {f_Disk_init : Addr} {fd_Disk_init : FuncData} {s_Disk_init_ : Sp} (G_Disk_init : FnOk P w K mg base CX0 1 f_Disk_init fd_Disk_init [("self" : Str)] s_Disk_init_) (b_Disk_init : Binds K fd_Disk_init [("self" : Str)] []) {c_Disk : Addr} (mk_Disk : Mk K c_Disk f_Disk_init) (z_range : mg ("range" : Str) = none) (m_Disk : mg ("Disk" : Str) = some (.ref c_Disk)) {sp : Sp} (hl : ∀ vs H Q E, sp vs H Q E → vs.length = 1)
    (hp : ∀ vs H Q E, sp vs H Q E → t_drawn K s_take_ s_files_by_ s_disk_deed_ s_done_on_ s_single_steps_ s_Disk_init_ c_Disk { nx := fun _ H' => Q .non H', rt := Q } (start NN_drawn vs) H) : FnOk P w K mg base CX0 5 f fd [("_law_state" : Str)] sp := by
  refine F.ok (k := 4) sc_drawn hl (fun cdv A outer s H vs Q E hr h => ⟨t_drawn K s_take_ s_files_by_ s_disk_deed_ s_done_on_ s_single_steps_ s_Disk_init_ c_Disk, ?_, hp vs H Q E h⟩)
  exact (pss_cons (ps_set (i := 1) sc_drawn.nd rfl (by first | exact Or.inl rfl | exact Or.inr rfl) (pe_makeQ0 mk_Disk G_Disk_init (hr.mono (by decide)) (by rfl) m_Disk b_Disk_init passQ0))
      (pss_cons (ps_set (i := 2) sc_drawn.nd rfl (by first | exact Or.inl rfl | exact Or.inr rfl) (pe_lst pa_nil))
      (pss_cons (ps_set (i := 3) sc_drawn.nd rfl (by first | exact Or.inl rfl | exact Or.inr rfl) (pe_op op_addU pe_int (pe_call G_take (hr.mono (by decide)) (by rfl) m_take kp_take b_take .nil pass0 (pa_cons (pv 0) (pa_cons pe_int pa_nil)))))
      (pss_cons (ps_if (pt_cmpR (op_eqU hr.units) (pe_call G_take (hr.mono (by decide)) (by rfl) m_take kp_take b_take .nil pass0 (pa_cons (pv 0) (pa_cons pe_int pa_nil))) pe_int (nomark _))
      (pss_one (ps_set (i := 3) sc_drawn.nd rfl (by first | exact Or.inl rfl | exact Or.inr rfl) (pe_op op_addU pe_int (pe_call G_take (hr.mono (by decide)) (by rfl) m_take kp_take b_take .nil pass0 (pa_cons (pv 0) (pa_cons pe_int pa_nil))))))
      pss_nil)
      (pss_cons (ps_for PassesOwn.never rfl (pi_range1 rfl z_range (pa_cons (pv 3) pa_nil)) (pg_name (i := 4) sc_drawn.nd rfl (by first | exact Or.inl rfl | exact Or.inr rfl))
      (pss_cons (ps_set (i := 5) sc_drawn.nd rfl (by first | exact Or.inl rfl | exact Or.inr rfl) (pe_call G_files_by (hr.mono (by decide)) (by rfl) m_files_by kp_files_by b_files_by .nil pass0 (pa_cons (pv 2) pa_nil)))
      (pss_cons (ps_set (i := 6) sc_drawn.nd rfl (by first | exact Or.inl rfl | exact Or.inr rfl) (pe_call G_disk_deed (hr.mono (by decide)) (by rfl) m_disk_deed kp_disk_deed b_disk_deed .nil pass0 (pa_cons (pv 0) (pa_cons (pv 5) pa_nil))))
      (pss_one (ps_if (PW.pt (pw_or (pt_cmpR (op_eqU hr.units) (pe_ix (ix_u (hu_of hr)) (pv 6) pe_int (fun _ _ => rfl)) pe_str (nomark _)) (pw_or1 (pt_cmpR (op_inU (hu_of hr)) (pe_ix (ix_u (hu_of hr)) (pv 6) pe_int (fun _ _ => rfl)) (pv 5) (by rfl)))))
      (pss_cons (ps_expr (pe_call G_done_on (hr.mono (by decide)) (by rfl) m_done_on kp_done_on b_done_on .nil passL (pa_cons (pv 1) (pa_cons (pv 6) pa_nil))))
      (pss_one (ps_set (i := 2) sc_drawn.nd rfl (by first | exact Or.inl rfl | exact Or.inr rfl) (pe_op op_addU (pv 2) (pe_call G_single_steps (hr.mono (by decide)) (by rfl) m_single_steps kp_single_steps b_single_steps .nil pass0 (pa_cons (pv 6) pa_nil))))))
      pss_nil)))))
      (pss_one (ps_ret (pe_tup (pa_cons (pv 1) (pa_cons (pv 2) pa_nil))))))))))
abbrev NN_same : List Str := [("_law_found" : Str), ("_law_due" : Str), ("_law_name" : Str), ("_law_one" : Str), ("_law_other" : Str)]
abbrev sT_same : Stmt := topS 11
theorem sc_same : FnScope NN_same [("_law_found" : Str), ("_law_due" : Str)] (defScope sT_same) := ⟨rfl, rfl, rfl, by decide +kernel, rfl, by decide +kernel, by decide +kernel⟩
theorem ok_same {k : Nat} {f : Addr} {fd : FuncData} (F : Fun K ("_law_same" : Str) ("_law_same" : Str) sT_same f fd) {f_same : Addr} {fd_same : FuncData} {s_same_ : Sp} (G_same : FnOk P w K mg base CX0 k f_same fd_same [("_law_found" : Str), ("_law_due" : Str)] s_same_) (b_same : Binds K fd_same [("_law_found" : Str), ("_law_due" : Str)] []) (m_same : mg ("_law_same" : Str) = some (.ref f_same)) (kp_same : PySem.W.keepIn K (.ref f_same) = true) (z_isinstance : mg ("isinstance" : Str) = none) (z_dict : mg ("dict" : Str) = none) (z_list : mg ("list" : Str) = none) (z_tuple : mg ("tuple" : Str) = none) (z_len : mg ("len" : Str) = none) (z_all : mg ("all" : Str) = none) (z_zip : mg ("zip" : Str) = none) (z_str : mg ("str" : Str) = none) (z_int : mg ("int" : Str) = none) (z_bool : mg ("bool" : Str) = none) {sp : Sp} (hl : ∀ vs H Q E, sp vs H Q E → vs.length = 2)
    (hp : ∀ vs H Q E, sp vs H Q E → t_same K s_same_ { nx := fun _ H' => Q .non H', rt := Q } (start NN_same vs) H) : FnOk P w K mg base CX0 (k + 1) f fd [("_law_found" : Str), ("_law_due" : Str)] sp := by
  refine F.ok (k := k) sc_same hl (fun cdv A outer s H vs Q E hr h => ⟨t_same K s_same_, ?_, hp vs H Q E h⟩)
  exact (pss_cons (ps_if (pt_cmpR op_isNU (pv 1) pe_non (nomark _))
      (pss_one (ps_ret (pe_cmpR op_isNU (pv 0) pe_non (nomark _))))
      pss_nil)
      (pss_cons (ps_if (pt_truU (pe_callB call_isiU (by rfl) z_isinstance bt_isinstance (pa_cons (pv 1) (pa_cons (pe_bltn (by rfl) z_dict bt_dict rfl) pa_nil))) (by intro _; rfl))
      (pss_cons ps_never
      (pss_one ps_never))
      pss_nil)
      (pss_cons (ps_if (PW.pt (pw_or (pt_truU (pe_callB call_isiU (by rfl) z_isinstance bt_isinstance (pa_cons (pv 1) (pa_cons (pe_bltn (by rfl) z_list bt_list rfl) pa_nil))) (by intro _; rfl)) (pw_or1 (pt_truU (pe_callB call_isiU (by rfl) z_isinstance bt_isinstance (pa_cons (pv 1) (pa_cons (pe_bltn (by rfl) z_tuple bt_tuple rfl) pa_nil))) (by intro _; rfl)))))
      (pss_cons (ps_if (pt_cmpR (op_neU hr.units) (pe_callB call_isiU (by rfl) z_isinstance bt_isinstance (pa_cons (pv 0) (pa_cons (pe_bltn (by rfl) z_list bt_list rfl) pa_nil))) (pe_callB call_isiU (by rfl) z_isinstance bt_isinstance (pa_cons (pv 1) (pa_cons (pe_bltn (by rfl) z_list bt_list rfl) pa_nil))) (nomark _))
      (pss_one (ps_ret pe_bl))
      pss_nil)
      (pss_cons (ps_if (PW.pt (pw_or (pt_cmpR (op_neU hr.units) (pe_callB call_isiU (by rfl) z_isinstance bt_isinstance (pa_cons (pv 0) (pa_cons (pe_bltn (by rfl) z_tuple bt_tuple rfl) pa_nil))) (pe_callB call_isiU (by rfl) z_isinstance bt_isinstance (pa_cons (pv 1) (pa_cons (pe_bltn (by rfl) z_tuple bt_tuple rfl) pa_nil))) (nomark _)) (pw_or1 (pt_cmpR (op_neU hr.units) (pe_callB call_lenU (by rfl) z_len bt_len (pa_cons (pv 0) pa_nil)) (pe_callB call_lenU (by rfl) z_len bt_len (pa_cons (pv 1) pa_nil)) (nomark _)))))
      (pss_one (ps_ret pe_bl))
      pss_nil)
      (pss_one (ps_ret (pe_callB (cr_all (by rfl)) (by rfl) z_all bt_all (pa_cons (pe_lc (own := [(("_law_one" : Str), 3), (("_law_other" : Str), 4)]) (g := (gTup K 2 (gCons (gName 3) (gCons (gName 4) gNil)))) (tt := tYes) (te := (tCall s_same_ [] E0 (tCons (tVar 3) (tCons (tVar 4) tNil)))) (by rfl) sc_same.nd (RZ.pi_zipA (by rfl) z_zip (pa_cons (pv 0) (pa_cons (pv 1) pa_nil))) (blkOk_by (own := [(("_law_one" : Str), 3), (("_law_other" : Str), 4)]) (N := [("_law_found" : Str), ("_law_due" : Str), ("_law_name" : Str), ("_law_one" : Str), ("_law_other" : Str)]) (sc := defScope sT_same) (by decide +kernel)) (fun _ _ _ _ _ => (pg_tup rfl (pgs_cons (pg_name (i := 3) sc_same.nd rfl (by first | exact Or.inl rfl | exact Or.inr rfl)) (pgs_cons (pg_name (i := 4) sc_same.nd rfl (by first | exact Or.inl rfl | exact Or.inr rfl)) pgs_nil)))) (fun _ _ _ _ _ => pts_nil) (fun _ _ _ _ _ => (pe_call G_same (hr.mono (by exact Nat.le_refl _)) (by rfl) m_same kp_same b_same .nil pass0 (pa_cons (pv 3) (pa_cons (pv 4) pa_nil))))) pa_nil))))))
      pss_nil)
      (pss_cons (ps_if (pt_truU (pe_callB call_isiU (by rfl) z_isinstance bt_isinstance (pa_cons (pv 1) (pa_cons (pe_bltn (by rfl) z_str bt_str rfl) pa_nil))) (by intro _; rfl))
      (pss_one (ps_ret (pe_and (pe_callB call_isiU (by rfl) z_isinstance bt_isinstance (pa_cons (pv 0) (pa_cons (pe_bltn (by rfl) z_str bt_str rfl) pa_nil))) (pe_one (pe_cmpR (op_eqU hr.units) (pv 0) (pv 1) (nomark _))))))
      pss_nil)
      (pss_one (ps_ret (pe_and (pe_callB call_isiU (by rfl) z_isinstance bt_isinstance (pa_cons (pv 0) (pa_cons (pe_bltn (by rfl) z_int bt_int rfl) pa_nil))) (pe_and (pe_not (pe_callB call_isiU (by rfl) z_isinstance bt_isinstance (pa_cons (pv 0) (pa_cons (pe_bltn (by rfl) z_bool bt_bool rfl) pa_nil)))) (pe_one (pe_cmpR (op_eqU hr.units) (pv 0) (pv 1) (nomark _)))))))))))
abbrev NN_Disk_names : List Str := [("self" : Str)]
abbrev sT_Disk_names : Stmt := inClass (topS 7) 8
theorem sc_Disk_names : FnScope NN_Disk_names [("self" : Str)] (defScope sT_Disk_names) := ⟨rfl, rfl, rfl, by decide +kernel, rfl, by decide +kernel, by decide +kernel⟩
theorem ok_Disk_names {f : Addr} {fd : FuncData} (F : Fun K ("names" : Str) ("Disk.names" : Str) sT_Disk_names f fd) (z_sorted : mg ("sorted" : Str) = none) (z_list : mg ("list" : Str) = none) {c_Disk : Addr} (m_Disk : mg ("Disk" : Str) = some (.ref c_Disk)) {sp : Sp} (hl : ∀ vs H Q E, sp vs H Q E → vs.length = 1)
    (hp : ∀ vs H Q E, sp vs H Q E → t_Disk_names K { nx := fun _ H' => Q .non H', rt := Q } (start NN_Disk_names vs) H) : FnOk P w K mg base CX0 1 f fd [("self" : Str)] sp := by
  refine F.ok (k := 0) sc_Disk_names hl (fun cdv A outer s H vs Q E hr h => ⟨t_Disk_names K, ?_, hp vs H Q E h⟩)
  exact (pss_one (ps_ret (pe_callB cr_sortIT (by rfl) z_sorted bt_sorted (pa_cons (pe_callTy (call_listU (by rfl)) (by rfl) z_list bt_list (pa_cons (pe_fld (pv 0) rfl) pa_nil)) pa_nil))))
abbrev NN_Disk_steps : List Str := [("self" : Str)]
abbrev sT_Disk_steps : Stmt := inClass (topS 7) 9
theorem sc_Disk_steps : FnScope NN_Disk_steps [("self" : Str)] (defScope sT_Disk_steps) := ⟨rfl, rfl, rfl, by decide +kernel, rfl, by decide +kernel, by decide +kernel⟩
theorem ok_Disk_steps {f : Addr} {fd : FuncData} (F : Fun K ("steps" : Str) ("Disk.steps" : Str) sT_Disk_steps f fd) {c_Disk : Addr} (m_Disk : mg ("Disk" : Str) = some (.ref c_Disk)) {sp : Sp} (hl : ∀ vs H Q E, sp vs H Q E → vs.length = 1)
    (hp : ∀ vs H Q E, sp vs H Q E → t_Disk_steps K { nx := fun _ H' => Q .non H', rt := Q } (start NN_Disk_steps vs) H) : FnOk P w K mg base CX0 1 f fd [("self" : Str)] sp := by
  refine F.ok (k := 0) sc_Disk_steps hl (fun cdv A outer s H vs Q E hr h => ⟨t_Disk_steps K, ?_, hp vs H Q E h⟩)
  exact (pss_one (ps_ret (pe_fld (pv 0) rfl)))
abbrev NN_Disk_read : List Str := [("self" : Str), ("name" : Str)]
abbrev sT_Disk_read : Stmt := inClass (topS 7) 7
theorem sc_Disk_read : FnScope NN_Disk_read [("self" : Str), ("name" : Str)] (defScope sT_Disk_read) := ⟨rfl, rfl, rfl, by decide +kernel, rfl, by decide +kernel, by decide +kernel⟩
theorem ok_Disk_read {f : Addr} {fd : FuncData} (F : Fun K ("read" : Str) ("Disk.read" : Str) sT_Disk_read f fd) {f_Disk_look_file : Addr} {fd_Disk_look_file : FuncData} {s_Disk_look_file_ : Sp} (G_Disk_look_file : FnOk P w K mg base (L2.CX P w) 1 f_Disk_look_file fd_Disk_look_file [("self" : Str), ("name" : Str)] s_Disk_look_file_) (b_Disk_look_file : Binds K fd_Disk_look_file [("self" : Str), ("name" : Str)] []) {c_Disk : Addr} (cl_Disk : Cls K c_Disk) (me_Disk_look_file : Meth K c_Disk ("look_file" : Str) f_Disk_look_file) (z_list : mg ("list" : Str) = none) (m_Disk : mg ("Disk" : Str) = some (.ref c_Disk)) {sp : Sp} (hl : ∀ vs H Q E, sp vs H Q E → vs.length = 2)
    (hp : ∀ vs H Q E, sp vs H Q E → t_Disk_read K s_Disk_look_file_ c_Disk E { nx := fun _ H' => Q .non H', rt := Q } (start NN_Disk_read vs) H) : FnOk P w K mg base (L2.CX P w) 2 f fd [("self" : Str), ("name" : Str)] sp := by
  refine F.okX (k := 1) sc_Disk_read hl (fun cdv A outer s H vs Q E hr h => ⟨t_Disk_read K s_Disk_look_file_ c_Disk E, ?_, hp vs H Q E h⟩)
  exact (pss_cons (ps_expr (pe_methQ (pv 0) cl_Disk me_Disk_look_file G_Disk_look_file (hr.mono (by decide)) b_Disk_look_file (fun σ => passAt (takes_of rfl rfl rfl rfl) σ) (pa_cons (pv 1) pa_nil)))
      (pss_one (ps_ret (pe_callTy (call_listU (by rfl)) (by rfl) z_list bt_list (pa_cons (pe_ix (ix_u (hu_of hr)) (pe_fld (pv 0) rfl) (pv 1) (fun _ _ => rfl)) pa_nil)))))
abbrev NN_disk_is : List Str := [("_law_disk" : Str), ("_law_files" : Str), ("_law_many" : Str), ("_law_name" : Str)]
abbrev sT_disk_is : Stmt := topS 16
theorem sc_disk_is : FnScope NN_disk_is [("_law_disk" : Str), ("_law_files" : Str), ("_law_many" : Str)] (defScope sT_disk_is) := ⟨rfl, rfl, rfl, by decide +kernel, rfl, by decide +kernel, by decide +kernel⟩
theorem ok_disk_is {f : Addr} {fd : FuncData} (F : Fun K ("_law_disk_is" : Str) ("_law_disk_is" : Str) sT_disk_is f fd) {f_same : Addr} {fd_same : FuncData} {s_same_ : Sp} (G_same : FnOk P w K mg base CX0 6 f_same fd_same [("_law_found" : Str), ("_law_due" : Str)] s_same_) (b_same : Binds K fd_same [("_law_found" : Str), ("_law_due" : Str)] []) (m_same : mg ("_law_same" : Str) = some (.ref f_same)) (kp_same : PySem.W.keepIn K (.ref f_same) = true) {f_Disk_names : Addr} {fd_Disk_names : FuncData} {s_Disk_names_ : Sp} (G_Disk_names : FnOk P w K mg base CX0 1 f_Disk_names fd_Disk_names [("self" : Str)] s_Disk_names_) (b_Disk_names : Binds K fd_Disk_names [("self" : Str)] []) {c_Disk : Addr} (cl_Disk : Cls K c_Disk) (me_Disk_names : Meth K c_Disk ("names" : Str) f_Disk_names) {f_Disk_steps : Addr} {fd_Disk_steps : FuncData} {s_Disk_steps_ : Sp} (G_Disk_steps : FnOk P w K mg base CX0 1 f_Disk_steps fd_Disk_steps [("self" : Str)] s_Disk_steps_) (b_Disk_steps : Binds K fd_Disk_steps [("self" : Str)] []) (me_Disk_steps : Meth K c_Disk ("steps" : Str) f_Disk_steps) {f_Disk_read : Addr} {fd_Disk_read : FuncData} {s_Disk_read_ : Sp} (G_Disk_read : FnOk P w K mg base (L2.CX P w) 2 f_Disk_read fd_Disk_read [("self" : Str), ("name" : Str)] s_Disk_read_) (b_Disk_read : Binds K fd_Disk_read [("self" : Str), ("name" : Str)] []) (me_Disk_read : Meth K c_Disk ("read" : Str) f_Disk_read) (z_sorted : mg ("sorted" : Str) = none) (z_all : mg ("all" : Str) = none) {sp : Sp} (hl : ∀ vs H Q E, sp vs H Q E → vs.length = 3)
    (hp : ∀ vs H Q E, sp vs H Q E → t_disk_is K s_same_ s_Disk_names_ s_Disk_steps_ s_Disk_read_ c_Disk { nx := fun _ H' => Q .non H', rt := Q } (start NN_disk_is vs) H) : FnOk P w K mg base CX0 7 f fd [("_law_disk" : Str), ("_law_files" : Str), ("_law_many" : Str)] sp := by
  refine F.ok (k := 6) sc_disk_is hl (fun cdv A outer s H vs Q E hr h => ⟨t_disk_is K s_same_ s_Disk_names_ s_Disk_steps_ s_Disk_read_ c_Disk, ?_, hp vs H Q E h⟩)
  exact (pss_cons (ps_if (PW.pt (pw_or (pt_not (pt_truU (pe_call G_same (hr.mono (by decide)) (by rfl) m_same kp_same b_same .nil pass0 (pa_cons (pe_methQ0 (pv 0) cl_Disk me_Disk_names G_Disk_names (hr.mono (by decide)) b_Disk_names passQ0) (pa_cons (pe_callB (cr_sortD (by rfl)) (by rfl) z_sorted bt_sorted (pa_cons (pv 1) pa_nil)) pa_nil))) (by intro _; rfl))) (pw_or1 (pt_not (pt_truU (pe_call G_same (hr.mono (by decide)) (by rfl) m_same kp_same b_same .nil pass0 (pa_cons (pe_methQ0 (pv 0) cl_Disk me_Disk_steps G_Disk_steps (hr.mono (by decide)) b_Disk_steps passQ0) (pa_cons (pv 2) pa_nil))) (by intro _; rfl))))))
      (pss_one (ps_ret pe_bl))
      pss_nil)
      (pss_one (ps_ret (pe_callB (cr_all (by rfl)) (by rfl) z_all bt_all (pa_cons (pe_lock (pe_lc (own := [(("_law_name" : Str), 3)]) (g := (gName 3)) (tt := tYes) (te := (tCall s_same_ [] E0 (tCons (tMethQ c_Disk ("read" : Str) s_Disk_read_ (fun _ => E0) (tVar 0) (tCons (tVar 3) tNil)) (tCons (tOp (rIxU K) (tVar 1) (tVar 3)) tNil)))) (by rfl) sc_disk_is.nd (pi_keys (pv 1)) (blkOk_by (own := [(("_law_name" : Str), 3)]) (N := [("_law_disk" : Str), ("_law_files" : Str), ("_law_many" : Str), ("_law_name" : Str)]) (sc := defScope sT_disk_is) (by decide +kernel)) (fun _ _ _ _ _ => (pg_name (i := 3) sc_disk_is.nd rfl (by first | exact Or.inl rfl | exact Or.inr rfl))) (fun _ _ _ _ _ => pts_nil) (fun _ _ _ _ _ => (pe_call G_same (hr.mono (by decide)) (by rfl) m_same kp_same b_same .nil pass0 (pa_cons (pe_methQ (pv 0) cl_Disk me_Disk_read G_Disk_read (hr.mono (by decide)) b_Disk_read passQL (pa_cons (pv 3) pa_nil)) (pa_cons (pe_ix (ix_u (hu_of hr)) (pv 1) (pv 3) (fun _ _ => rfl)) pa_nil)))))) pa_nil)))))
abbrev NN_deed_part : List Str := [("deed" : Str), ("many" : Str)]
abbrev sT_deed_part : Stmt := topS 5
theorem sc_deed_part : FnScope NN_deed_part [("deed" : Str), ("many" : Str)] (defScope sT_deed_part) := ⟨rfl, rfl, rfl, by decide +kernel, rfl, by decide +kernel, by decide +kernel⟩
theorem ok_deed_part {f : Addr} {fd : FuncData} (F : Fun K ("deed_part" : Str) ("deed_part" : Str) sT_deed_part f fd) {sp : Sp} (hl : ∀ vs H Q E, sp vs H Q E → vs.length = 2)
    (hp : ∀ vs H Q E, sp vs H Q E → t_deed_part K { nx := fun _ H' => Q .non H', rt := Q } (start NN_deed_part vs) H) : FnOk P w K mg base CX0 1 f fd [("deed" : Str), ("many" : Str)] sp := by
  refine F.ok (k := 0) sc_deed_part hl (fun cdv A outer s H vs Q E hr h => ⟨t_deed_part K, ?_, hp vs H Q E h⟩)
  exact (pss_cons (ps_if (pt_cmpR (op_eqU hr.units) (pe_ix (ix_u (hu_of hr)) (pv 0) pe_int (fun _ _ => rfl)) pe_str (nomark _))
      (pss_one (ps_ret (pe_tup (pa_cons (pe_ix (ix_u (hu_of hr)) (pv 0) pe_int (fun _ _ => rfl)) (pa_cons (pe_ix (ix_u (hu_of hr)) (pv 0) pe_int (fun _ _ => rfl)) (pa_cons (pe_slice sl_u (pe_ix (ix_u (hu_of hr)) (pv 0) pe_int (fun _ _ => rfl)) po_none (po_some (pv 1))) pa_nil))))))
      pss_nil)
      (pss_one (ps_ret (pv 0))))
abbrev NN_Disk_fallen : List Str := [("self" : Str), ("k" : Str), ("disk" : Str), ("left" : Str), ("deed" : Str), ("many" : Str)]
abbrev sT_Disk_fallen : Stmt := inClass (topS 7) 10
theorem sc_Disk_fallen : FnScope NN_Disk_fallen [("self" : Str), ("k" : Str)] (defScope sT_Disk_fallen) := ⟨rfl, rfl, rfl, by decide +kernel, rfl, by decide +kernel, by decide +kernel⟩
theorem ok_Disk_fallen {f : Addr} {fd : FuncData} (F : Fun K ("fallen" : Str) ("Disk.fallen" : Str) sT_Disk_fallen f fd) {f_deed_steps : Addr} {fd_deed_steps : FuncData} {s_deed_steps_ : Sp} (G_deed_steps : FnOk P w K mg base CX0 1 f_deed_steps fd_deed_steps [("deed" : Str)] s_deed_steps_) (b_deed_steps : Binds K fd_deed_steps [("deed" : Str)] []) (m_deed_steps : mg ("deed_steps" : Str) = some (.ref f_deed_steps)) (kp_deed_steps : PySem.W.keepIn K (.ref f_deed_steps) = true) {f_deed_part : Addr} {fd_deed_part : FuncData} {s_deed_part_ : Sp} (G_deed_part : FnOk P w K mg base CX0 1 f_deed_part fd_deed_part [("deed" : Str), ("many" : Str)] s_deed_part_) (b_deed_part : Binds K fd_deed_part [("deed" : Str), ("many" : Str)] []) (m_deed_part : mg ("deed_part" : Str) = some (.ref f_deed_part)) (kp_deed_part : PySem.W.keepIn K (.ref f_deed_part) = true) {f_Disk_keep_deed : Addr} {fd_Disk_keep_deed : FuncData} {s_Disk_keep_deed_ : Sp} (G_Disk_keep_deed : FnOk P w K mg base CX0 2 f_Disk_keep_deed fd_Disk_keep_deed [("self" : Str), ("deed" : Str)] s_Disk_keep_deed_) (b_Disk_keep_deed : Binds K fd_Disk_keep_deed [("self" : Str), ("deed" : Str)] []) {c_Disk : Addr} (cl_Disk : Cls K c_Disk) (me_Disk_keep_deed : Meth K c_Disk ("keep_deed" : Str) f_Disk_keep_deed) {f_Disk_init : Addr} {fd_Disk_init : FuncData} {s_Disk_init_ : Sp} (G_Disk_init : FnOk P w K mg base CX0 1 f_Disk_init fd_Disk_init [("self" : Str)] s_Disk_init_) (b_Disk_init : Binds K fd_Disk_init [("self" : Str)] []) (mk_Disk : Mk K c_Disk f_Disk_init) (z_min : mg ("min" : Str) = none) (m_Disk : mg ("Disk" : Str) = some (.ref c_Disk)) {sp : Sp} (hl : ∀ vs H Q E, sp vs H Q E → vs.length = 2)
    (hp : ∀ vs H Q E, sp vs H Q E → t_Disk_fallen K s_deed_steps_ s_deed_part_ s_Disk_keep_deed_ s_Disk_init_ c_Disk { nx := fun _ H' => Q .non H', rt := Q } (start NN_Disk_fallen vs) H) : FnOk P w K mg base CX0 3 f fd [("self" : Str), ("k" : Str)] sp := by
  refine F.ok (k := 2) sc_Disk_fallen hl (fun cdv A outer s H vs Q E hr h => ⟨t_Disk_fallen K s_deed_steps_ s_deed_part_ s_Disk_keep_deed_ s_Disk_init_ c_Disk, ?_, hp vs H Q E h⟩)
  exact (pss_cons (ps_set (i := 2) sc_Disk_fallen.nd rfl (by first | exact Or.inl rfl | exact Or.inr rfl) (pe_makeQ0 mk_Disk G_Disk_init (hr.mono (by decide)) (by rfl) m_Disk b_Disk_init passQ0))
      (pss_cons (ps_set (i := 3) sc_Disk_fallen.nd rfl (by first | exact Or.inl rfl | exact Or.inr rfl) (pv 1))
      (pss_cons (ps_for PassesOwn.never rfl (pi_seqV (pe_fld (pv 0) rfl)) (pg_name (i := 4) sc_Disk_fallen.nd rfl (by first | exact Or.inl rfl | exact Or.inr rfl))
      (pss_cons (ps_set (i := 5) sc_Disk_fallen.nd rfl (by first | exact Or.inl rfl | exact Or.inr rfl) (pe_callB (call_min2U (by rfl)) (by rfl) z_min bt_min (pa_cons (pv 3) (pa_cons (pe_call G_deed_steps (hr.mono (by decide)) (by rfl) m_deed_steps kp_deed_steps b_deed_steps .nil pass0 (pa_cons (pv 4) pa_nil)) pa_nil))))
      (pss_cons (ps_if (pt_cmpR op_gtV (pv 5) pe_int (nomark _))
      (pss_one (ps_expr (pe_methQ (pv 2) cl_Disk me_Disk_keep_deed G_Disk_keep_deed (hr.mono (by decide)) b_Disk_keep_deed passQ0 (pa_cons (pe_call G_deed_part (hr.mono (by decide)) (by rfl) m_deed_part kp_deed_part b_deed_part .nil pass0 (pa_cons (pv 4) (pa_cons (pv 5) pa_nil))) pa_nil))))
      pss_nil)
      (pss_one (ps_set (i := 3) sc_Disk_fallen.nd rfl (by first | exact Or.inl rfl | exact Or.inr rfl) (pe_op op_subU (pv 3) (pv 5)))))))
      (pss_one (ps_ret (pv 2))))))
abbrev NN_fall_right : List Str := [("_law_state" : Str), ("_law_disk" : Str), ("_law_steps" : Str), ("_law_k" : Str), ("_law_other" : Str), ("_law_less" : Str), ("_law_more" : Str)]
abbrev sT_fall_right : Stmt := topS 18
theorem sc_fall_right : FnScope NN_fall_right [("_law_state" : Str), ("_law_disk" : Str), ("_law_steps" : Str), ("_law_k" : Str)] (defScope sT_fall_right) := ⟨rfl, rfl, rfl, by decide +kernel, rfl, by decide +kernel, by decide +kernel⟩
theorem ok_fall_right {f : Addr} {fd : FuncData} (F : Fun K ("_law_fall_right" : Str) ("_law_fall_right" : Str) sT_fall_right f fd) {f_disk_is : Addr} {fd_disk_is : FuncData} {s_disk_is_ : Sp} (G_disk_is : FnOk P w K mg base CX0 7 f_disk_is fd_disk_is [("_law_disk" : Str), ("_law_files" : Str), ("_law_many" : Str)] s_disk_is_) (b_disk_is : Binds K fd_disk_is [("_law_disk" : Str), ("_law_files" : Str), ("_law_many" : Str)] []) (m_disk_is : mg ("_law_disk_is" : Str) = some (.ref f_disk_is)) (kp_disk_is : PySem.W.keepIn K (.ref f_disk_is) = true) {f_files_by : Addr} {fd_files_by : FuncData} {s_files_by_ : Sp} (G_files_by : FnOk P w K mg base CX0 1 f_files_by fd_files_by [("_law_steps" : Str)] s_files_by_) (b_files_by : Binds K fd_files_by [("_law_steps" : Str)] []) (m_files_by : mg ("_law_files_by" : Str) = some (.ref f_files_by)) (kp_files_by : PySem.W.keepIn K (.ref f_files_by) = true) {f_take : Addr} {fd_take : FuncData} {s_take_ : Sp} (G_take : FnOk P w K mg base CX0 1 f_take fd_take [("_law_state" : Str), ("_law_many" : Str)] s_take_) (b_take : Binds K fd_take [("_law_state" : Str), ("_law_many" : Str)] []) (m_take : mg ("_law_take" : Str) = some (.ref f_take)) (kp_take : PySem.W.keepIn K (.ref f_take) = true) {f_Disk_fallen : Addr} {fd_Disk_fallen : FuncData} {s_Disk_fallen_ : Sp} (G_Disk_fallen : FnOk P w K mg base CX0 3 f_Disk_fallen fd_Disk_fallen [("self" : Str), ("k" : Str)] s_Disk_fallen_) (b_Disk_fallen : Binds K fd_Disk_fallen [("self" : Str), ("k" : Str)] []) {c_Disk : Addr} (cl_Disk : Cls K c_Disk) (me_Disk_fallen : Meth K c_Disk ("fallen" : Str) f_Disk_fallen) {f_Disk_make : Addr} {fd_Disk_make : FuncData} {s_Disk_make_ : Sp} (G_Disk_make : FnOk P w K mg base CX0 3 f_Disk_make fd_Disk_make [("self" : Str), ("name" : Str)] s_Disk_make_) (b_Disk_make : Binds K fd_Disk_make [("self" : Str), ("name" : Str)] []) (me_Disk_make : Meth K c_Disk ("make" : Str) f_Disk_make) {f_Disk_add : Addr} {fd_Disk_add : FuncData} {s_Disk_add_ : Sp} (G_Disk_add : FnOk P w K mg base (L2.CX P w) 3 f_Disk_add fd_Disk_add [("self" : Str), ("name" : Str), ("row" : Str)] s_Disk_add_) (b_Disk_add : Binds K fd_Disk_add [("self" : Str), ("name" : Str), ("row" : Str)] []) (me_Disk_add : Meth K c_Disk ("add" : Str) f_Disk_add) {sp : Sp} (hl : ∀ vs H Q E, sp vs H Q E → vs.length = 4)
    (hp : ∀ vs H Q E, sp vs H Q E → t_fall_right K s_disk_is_ s_files_by_ s_take_ s_Disk_fallen_ s_Disk_make_ s_Disk_add_ c_Disk { nx := fun _ H' => Q .non H', rt := Q } (start NN_fall_right vs) H) : FnOk P w K mg base CX0 8 f fd [("_law_state" : Str), ("_law_disk" : Str), ("_law_steps" : Str), ("_law_k" : Str)] sp := by
  refine F.ok (k := 7) sc_fall_right hl (fun cdv A outer s H vs Q E hr h => ⟨t_fall_right K s_disk_is_ s_files_by_ s_take_ s_Disk_fallen_ s_Disk_make_ s_Disk_add_ c_Disk, ?_, hp vs H Q E h⟩)
  exact (pss_cons (ps_set (i := 4) sc_fall_right.nd rfl (by first | exact Or.inl rfl | exact Or.inr rfl) (pe_methQ (pv 1) cl_Disk me_Disk_fallen G_Disk_fallen (hr.mono (by decide)) b_Disk_fallen passQ0 (pa_cons (pv 3) pa_nil)))
      (pss_cons (ps_if (pt_not (pt_truU (pe_call G_disk_is (hr.mono (by decide)) (by rfl) m_disk_is kp_disk_is b_disk_is .nil pass0 (pa_cons (pv 4) (pa_cons (pe_call G_files_by (hr.mono (by decide)) (by rfl) m_files_by kp_files_by b_files_by .nil pass0 (pa_cons (pe_slice sl_u (pv 2) po_none (po_some (pv 3))) pa_nil)) (pa_cons (pv 3) pa_nil)))) (by intro _; rfl)))
      (pss_one (ps_ret pe_bl))
      pss_nil)
      (pss_cons (ps_set (i := 5) sc_fall_right.nd rfl (by first | exact Or.inl rfl | exact Or.inr rfl) (pe_call G_take (hr.mono (by decide)) (by rfl) m_take kp_take b_take .nil pass0 (pa_cons (pv 0) (pa_cons (pe_op op_addU (pv 3) pe_int) pa_nil))))
      (pss_cons (ps_if (pt_not (pt_truU (pe_call G_disk_is (hr.mono (by decide)) (by rfl) m_disk_is kp_disk_is b_disk_is .nil pass0 (pa_cons (pe_methQ (pv 4) cl_Disk me_Disk_fallen G_Disk_fallen (hr.mono (by decide)) b_Disk_fallen passQ0 (pa_cons (pv 5) pa_nil)) (pa_cons (pe_call G_files_by (hr.mono (by decide)) (by rfl) m_files_by kp_files_by b_files_by .nil pass0 (pa_cons (pe_slice sl_u (pv 2) po_none (po_some (pv 5))) pa_nil)) (pa_cons (pv 5) pa_nil)))) (by intro _; rfl)))
      (pss_one (ps_ret pe_bl))
      pss_nil)
      (pss_cons (ps_set (i := 6) sc_fall_right.nd rfl (by first | exact Or.inl rfl | exact Or.inr rfl) (pe_lst (pa_cons (pe_tup (pa_cons pe_str (pa_cons pe_str (pa_cons pe_non pa_nil)))) (pa_cons (pe_tup (pa_cons pe_str (pa_cons pe_str (pa_cons pe_int pa_nil)))) (pa_cons (pe_tup (pa_cons pe_str (pa_cons pe_str (pa_cons pe_int pa_nil)))) pa_nil)))))
      (pss_cons (ps_expr (pe_methQ (pv 4) cl_Disk me_Disk_make G_Disk_make (hr.mono (by decide)) b_Disk_make passQ0 (pa_cons pe_str pa_nil)))
      (pss_cons (ps_expr (pe_methQ (pv 4) cl_Disk me_Disk_add G_Disk_add (hr.mono (by decide)) b_Disk_add passQL (pa_cons pe_str (pa_cons (pe_lst (pa_cons pe_int (pa_cons pe_int pa_nil))) pa_nil))))
      (pss_cons (ps_if (pt_not (pt_truU (pe_call G_disk_is (hr.mono (by decide)) (by rfl) m_disk_is kp_disk_is b_disk_is .nil pass0 (pa_cons (pv 4) (pa_cons (pe_call G_files_by (hr.mono (by decide)) (by rfl) m_files_by kp_files_by b_files_by .nil pass0 (pa_cons (pe_op op_addU (pe_slice sl_u (pv 2) po_none (po_some (pv 3))) (pv 6)) pa_nil)) (pa_cons (pe_op op_addU (pv 3) pe_int) pa_nil)))) (by intro _; rfl)))
      (pss_one (ps_ret pe_bl))
      pss_nil)
      (pss_one (ps_ret (pe_call G_disk_is (hr.mono (by decide)) (by rfl) m_disk_is kp_disk_is b_disk_is .nil pass0 (pa_cons (pe_methQ (pv 4) cl_Disk me_Disk_fallen G_Disk_fallen (hr.mono (by decide)) b_Disk_fallen passQ0 (pa_cons (pe_op op_addU (pv 3) pe_int) pa_nil)) (pa_cons (pe_call G_files_by (hr.mono (by decide)) (by rfl) m_files_by kp_files_by b_files_by .nil pass0 (pa_cons (pe_op op_addU (pe_slice sl_u (pv 2) po_none (po_some (pv 3))) (pe_slice sl_u (pv 6) po_none (po_some pe_int))) pa_nil)) (pa_cons (pe_op op_addU (pv 3) pe_int) pa_nil))))))))))))))
abbrev NN_law : List Str := [("_law_script" : Str), ("_law_state" : Str), ("_law_disk" : Str), ("_law_steps" : Str), ("_law_k" : Str), ("_law_other" : Str)]
abbrev sT_law : Stmt := topS 19
theorem sc_law : FnScope NN_law [("_law_script" : Str)] (defScope sT_law) := ⟨rfl, rfl, rfl, by decide +kernel, rfl, by decide +kernel, by decide +kernel⟩
theorem ok_law {f : Addr} {fd : FuncData} (F : Fun K ("law" : Str) ("law" : Str) sT_law f fd) {f_begin : Addr} {fd_begin : FuncData} {s_begin_ : Sp} (G_begin : FnOk P w K mg base CX0 1 f_begin fd_begin [("_law_script" : Str)] s_begin_) (b_begin : Binds K fd_begin [("_law_script" : Str)] []) (m_begin : mg ("_law_begin" : Str) = some (.ref f_begin)) (kp_begin : PySem.W.keepIn K (.ref f_begin) = true) {f_drawn : Addr} {fd_drawn : FuncData} {s_drawn_ : Sp} (G_drawn : FnOk P w K mg base CX0 5 f_drawn fd_drawn [("_law_state" : Str)] s_drawn_) (b_drawn : Binds K fd_drawn [("_law_state" : Str)] []) (m_drawn : mg ("_law_drawn" : Str) = some (.ref f_drawn)) (kp_drawn : PySem.W.keepIn K (.ref f_drawn) = true) {f_fall_right : Addr} {fd_fall_right : FuncData} {s_fall_right_ : Sp} (G_fall_right : FnOk P w K mg base CX0 8 f_fall_right fd_fall_right [("_law_state" : Str), ("_law_disk" : Str), ("_law_steps" : Str), ("_law_k" : Str)] s_fall_right_) (b_fall_right : Binds K fd_fall_right [("_law_state" : Str), ("_law_disk" : Str), ("_law_steps" : Str), ("_law_k" : Str)] []) (m_fall_right : mg ("_law_fall_right" : Str) = some (.ref f_fall_right)) (kp_fall_right : PySem.W.keepIn K (.ref f_fall_right) = true) {f_disk_is : Addr} {fd_disk_is : FuncData} {s_disk_is_ : Sp} (G_disk_is : FnOk P w K mg base CX0 7 f_disk_is fd_disk_is [("_law_disk" : Str), ("_law_files" : Str), ("_law_many" : Str)] s_disk_is_) (b_disk_is : Binds K fd_disk_is [("_law_disk" : Str), ("_law_files" : Str), ("_law_many" : Str)] []) (m_disk_is : mg ("_law_disk_is" : Str) = some (.ref f_disk_is)) (kp_disk_is : PySem.W.keepIn K (.ref f_disk_is) = true) {f_files_by : Addr} {fd_files_by : FuncData} {s_files_by_ : Sp} (G_files_by : FnOk P w K mg base CX0 1 f_files_by fd_files_by [("_law_steps" : Str)] s_files_by_) (b_files_by : Binds K fd_files_by [("_law_steps" : Str)] []) (m_files_by : mg ("_law_files_by" : Str) = some (.ref f_files_by)) (kp_files_by : PySem.W.keepIn K (.ref f_files_by) = true) {f_Disk_fallen : Addr} {fd_Disk_fallen : FuncData} {s_Disk_fallen_ : Sp} (G_Disk_fallen : FnOk P w K mg base CX0 3 f_Disk_fallen fd_Disk_fallen [("self" : Str), ("k" : Str)] s_Disk_fallen_) (b_Disk_fallen : Binds K fd_Disk_fallen [("self" : Str), ("k" : Str)] []) {c_Disk : Addr} (cl_Disk : Cls K c_Disk) (me_Disk_fallen : Meth K c_Disk ("fallen" : Str) f_Disk_fallen) {f_Disk_make : Addr} {fd_Disk_make : FuncData} {s_Disk_make_ : Sp} (G_Disk_make : FnOk P w K mg base CX0 3 f_Disk_make fd_Disk_make [("self" : Str), ("name" : Str)] s_Disk_make_) (b_Disk_make : Binds K fd_Disk_make [("self" : Str), ("name" : Str)] []) (me_Disk_make : Meth K c_Disk ("make" : Str) f_Disk_make) (z_range : mg ("range" : Str) = none) (z_len : mg ("len" : Str) = none) {sp : Sp} (hl : ∀ vs H Q E, sp vs H Q E → vs.length = 1)
    (hp : ∀ vs H Q E, sp vs H Q E → t_law K s_begin_ s_drawn_ s_fall_right_ s_disk_is_ s_files_by_ s_Disk_fallen_ s_Disk_make_ c_Disk { nx := fun _ H' => Q .non H', rt := Q } (start NN_law vs) H) : FnOk P w K mg base CX0 9 f fd [("_law_script" : Str)] sp := by
  refine F.ok (k := 8) sc_law hl (fun cdv A outer s H vs Q E hr h => ⟨t_law K s_begin_ s_drawn_ s_fall_right_ s_disk_is_ s_files_by_ s_Disk_fallen_ s_Disk_make_ c_Disk, ?_, hp vs H Q E h⟩)
  exact (pss_cons (ps_set (i := 1) sc_law.nd rfl (by first | exact Or.inl rfl | exact Or.inr rfl) (pe_call G_begin (hr.mono (by decide)) (by rfl) m_begin kp_begin b_begin .nil pass0 (pa_cons (pv 0) pa_nil)))
      (pss_cons (ps_asg (pe_call G_drawn (hr.mono (by decide)) (by rfl) m_drawn kp_drawn b_drawn .nil pass0 (pa_cons (pv 1) pa_nil)) (pg_tup rfl (pgs_cons (pg_name (i := 2) sc_law.nd rfl (by first | exact Or.inl rfl | exact Or.inr rfl)) (pgs_cons (pg_name (i := 3) sc_law.nd rfl (by first | exact Or.inl rfl | exact Or.inr rfl)) pgs_nil))))
      (pss_cons (ps_for PassesOwn.never rfl (pi_range1 rfl z_range (pa_cons (pe_op op_addU (pe_callB call_lenU (by rfl) z_len bt_len (pa_cons (pv 3) pa_nil)) pe_int) pa_nil)) (pg_name (i := 4) sc_law.nd rfl (by first | exact Or.inl rfl | exact Or.inr rfl))
      (pss_one (ps_if (PW.pt (pw_or (pt_cmpR op_ltU (pe_callB call_lenU (by rfl) z_len bt_len (pa_cons (pv 3) pa_nil)) pe_int (nomark _)) (pw_or (pt_cmpR (op_eqU hr.units) (pe_op op_modU (pv 4) pe_int) pe_int (nomark _)) (pw_or1 (pt_cmpR (op_eqU hr.units) (pv 4) (pe_callB call_lenU (by rfl) z_len bt_len (pa_cons (pv 3) pa_nil)) (nomark _))))))
      (pss_one (ps_if (pt_not (pt_truU (pe_call G_fall_right (hr.mono (by decide)) (by rfl) m_fall_right kp_fall_right b_fall_right .nil pass0 (pa_cons (pv 1) (pa_cons (pv 2) (pa_cons (pv 3) (pa_cons (pv 4) pa_nil))))) (by intro _; rfl)))
      (pss_one (ps_ret pe_bl))
      pss_nil))
      pss_nil)))
      (pss_cons (ps_if (pt_not (pt_truU (pe_call G_disk_is (hr.mono (by decide)) (by rfl) m_disk_is kp_disk_is b_disk_is .nil pass0 (pa_cons (pv 2) (pa_cons (pe_call G_files_by (hr.mono (by decide)) (by rfl) m_files_by kp_files_by b_files_by .nil pass0 (pa_cons (pv 3) pa_nil)) (pa_cons (pe_callB call_lenU (by rfl) z_len bt_len (pa_cons (pv 3) pa_nil)) pa_nil)))) (by intro _; rfl)))
      (pss_one (ps_ret pe_bl))
      pss_nil)
      (pss_cons (ps_set (i := 5) sc_law.nd rfl (by first | exact Or.inl rfl | exact Or.inr rfl) (pe_methQ (pv 2) cl_Disk me_Disk_fallen G_Disk_fallen (hr.mono (by decide)) b_Disk_fallen passQ0 (pa_cons (pe_callB call_lenU (by rfl) z_len bt_len (pa_cons (pv 3) pa_nil)) pa_nil)))
      (pss_cons (ps_expr (pe_methQ (pv 2) cl_Disk me_Disk_make G_Disk_make (hr.mono (by decide)) b_Disk_make passQ0 (pa_cons pe_str pa_nil)))
      (pss_one (ps_ret (pe_call G_disk_is (hr.mono (by decide)) (by rfl) m_disk_is kp_disk_is b_disk_is .nil pass0 (pa_cons (pv 5) (pa_cons (pe_call G_files_by (hr.mono (by decide)) (by rfl) m_files_by kp_files_by b_files_by .nil pass0 (pa_cons (pv 3) pa_nil)) (pa_cons (pe_callB call_lenU (by rfl) z_len bt_len (pa_cons (pv 3) pa_nil)) pa_nil))))))))))))
end
theorem all_mk {l : PySem.W.OpenLaw} {w : World} {K : PySem.W.Frag} {h : Heap} {mg : Str → Option Value} {fa : Addr} (X : K.In h) (G : h.Ns mainGlobals mg) (hfa : mg "law" = some (.ref fa))
    {c_Disk : Addr} {c_NoFile : Addr} {f_begin : Addr} {od_begin an_begin : Option Addr} {sl_begin : Array (Option Value)} {oc_begin kV_begin dc_begin pm_begin cd_begin ct_begin : Value} {f_take : Addr} {od_take an_take : Option Addr} {sl_take : Array (Option Value)} {oc_take kV_take dc_take pm_take cd_take ct_take : Value} {f_files_by : Addr} {od_files_by an_files_by : Option Addr} {sl_files_by : Array (Option Value)} {oc_files_by kV_files_by dc_files_by pm_files_by cd_files_by ct_files_by : Value} {f_disk_deed : Addr} {od_disk_deed an_disk_deed : Option Addr} {sl_disk_deed : Array (Option Value)} {oc_disk_deed kV_disk_deed dc_disk_deed pm_disk_deed cd_disk_deed ct_disk_deed : Value} {f_deed_steps : Addr} {od_deed_steps an_deed_steps : Option Addr} {sl_deed_steps : Array (Option Value)} {oc_deed_steps kV_deed_steps dc_deed_steps pm_deed_steps cd_deed_steps ct_deed_steps : Value} {f_done_with : Addr} {od_done_with an_done_with : Option Addr} {sl_done_with : Array (Option Value)} {oc_done_with kV_done_with dc_done_with pm_done_with cd_done_with ct_done_with : Value} {f_Disk_keep_deed : Addr} {od_Disk_keep_deed an_Disk_keep_deed : Option Addr} {sl_Disk_keep_deed : Array (Option Value)} {oc_Disk_keep_deed kV_Disk_keep_deed dc_Disk_keep_deed pm_Disk_keep_deed cd_Disk_keep_deed ct_Disk_keep_deed : Value} {f_Disk_make : Addr} {od_Disk_make an_Disk_make : Option Addr} {sl_Disk_make : Array (Option Value)} {oc_Disk_make kV_Disk_make dc_Disk_make pm_Disk_make cd_Disk_make ct_Disk_make : Value} {f_Disk_look_file : Addr} {od_Disk_look_file an_Disk_look_file : Option Addr} {sl_Disk_look_file : Array (Option Value)} {oc_Disk_look_file kV_Disk_look_file dc_Disk_look_file pm_Disk_look_file cd_Disk_look_file ct_Disk_look_file : Value} {f_Disk_add : Addr} {od_Disk_add an_Disk_add : Option Addr} {sl_Disk_add : Array (Option Value)} {oc_Disk_add kV_Disk_add dc_Disk_add pm_Disk_add cd_Disk_add ct_Disk_add : Value} {f_Disk_cut : Addr} {od_Disk_cut an_Disk_cut : Option Addr} {sl_Disk_cut : Array (Option Value)} {oc_Disk_cut kV_Disk_cut dc_Disk_cut pm_Disk_cut cd_Disk_cut ct_Disk_cut : Value} {f_Disk_drop : Addr} {od_Disk_drop an_Disk_drop : Option Addr} {sl_Disk_drop : Array (Option Value)} {oc_Disk_drop kV_Disk_drop dc_Disk_drop pm_Disk_drop cd_Disk_drop ct_Disk_drop : Value} {f_done_on : Addr} {od_done_on an_done_on : Option Addr} {sl_done_on : Array (Option Value)} {oc_done_on kV_done_on dc_done_on pm_done_on cd_done_on ct_done_on : Value} {f_single_steps : Addr} {od_single_steps an_single_steps : Option Addr} {sl_single_steps : Array (Option Value)} {oc_single_steps kV_single_steps dc_single_steps pm_single_steps cd_single_steps ct_single_steps : Value} {f_Disk_init : Addr} {od_Disk_init an_Disk_init : Option Addr} {sl_Disk_init : Array (Option Value)} {oc_Disk_init kV_Disk_init dc_Disk_init pm_Disk_init cd_Disk_init ct_Disk_init : Value} {f_drawn : Addr} {od_drawn an_drawn : Option Addr} {sl_drawn : Array (Option Value)} {oc_drawn kV_drawn dc_drawn pm_drawn cd_drawn ct_drawn : Value} {f_same : Addr} {od_same an_same : Option Addr} {sl_same : Array (Option Value)} {oc_same kV_same dc_same pm_same cd_same ct_same : Value} {f_Disk_names : Addr} {od_Disk_names an_Disk_names : Option Addr} {sl_Disk_names : Array (Option Value)} {oc_Disk_names kV_Disk_names dc_Disk_names pm_Disk_names cd_Disk_names ct_Disk_names : Value} {f_Disk_steps : Addr} {od_Disk_steps an_Disk_steps : Option Addr} {sl_Disk_steps : Array (Option Value)} {oc_Disk_steps kV_Disk_steps dc_Disk_steps pm_Disk_steps cd_Disk_steps ct_Disk_steps : Value} {f_Disk_read : Addr} {od_Disk_read an_Disk_read : Option Addr} {sl_Disk_read : Array (Option Value)} {oc_Disk_read kV_Disk_read dc_Disk_read pm_Disk_read cd_Disk_read ct_Disk_read : Value} {f_disk_is : Addr} {od_disk_is an_disk_is : Option Addr} {sl_disk_is : Array (Option Value)} {oc_disk_is kV_disk_is dc_disk_is pm_disk_is cd_disk_is ct_disk_is : Value} {f_deed_part : Addr} {od_deed_part an_deed_part : Option Addr} {sl_deed_part : Array (Option Value)} {oc_deed_part kV_deed_part dc_deed_part pm_deed_part cd_deed_part ct_deed_part : Value} {f_Disk_fallen : Addr} {od_Disk_fallen an_Disk_fallen : Option Addr} {sl_Disk_fallen : Array (Option Value)} {oc_Disk_fallen kV_Disk_fallen dc_Disk_fallen pm_Disk_fallen cd_Disk_fallen ct_Disk_fallen : Value} {f_fall_right : Addr} {od_fall_right an_fall_right : Option Addr} {sl_fall_right : Array (Option Value)} {oc_fall_right kV_fall_right dc_fall_right pm_fall_right cd_fall_right ct_fall_right : Value} {f_law : Addr} {od_law an_law : Option Addr} {sl_law : Array (Option Value)} {oc_law kV_law dc_law pm_law cd_law ct_law : Value}
    (a_Disk : PySem.W.nsIn K mainGlobals ("Disk" : Str) = some (some (.ref c_Disk)))
    (a_NoFile : PySem.W.nsIn K mainGlobals ("NoFile" : Str) = some (some (.ref c_NoFile)))
    (a_begin : PySem.W.nsIn K mainGlobals ("_law_begin" : Str) = some (some (.ref f_begin)))
    (l_begin : K.lookup f_begin = some ⟨oc_begin, od_begin, .func (PySem.W.fnOf ("_law_begin" : Str) ("_law_begin" : Str) (defArgs sT_begin) (defBody sT_begin) (defScope sT_begin) .none kV_begin dc_begin pm_begin an_begin cd_begin ct_begin), sl_begin⟩)
    (c_begin : PySem.W.codeIn K cd_begin ("_law_begin" : Str) = true)
    (kp_begin : PySem.W.keepIn K (.ref f_begin) = true)
    (a_take : PySem.W.nsIn K mainGlobals ("_law_take" : Str) = some (some (.ref f_take)))
    (l_take : K.lookup f_take = some ⟨oc_take, od_take, .func (PySem.W.fnOf ("_law_take" : Str) ("_law_take" : Str) (defArgs sT_take) (defBody sT_take) (defScope sT_take) .none kV_take dc_take pm_take an_take cd_take ct_take), sl_take⟩)
    (c_take : PySem.W.codeIn K cd_take ("_law_take" : Str) = true)
    (kp_take : PySem.W.keepIn K (.ref f_take) = true)
    (a_files_by : PySem.W.nsIn K mainGlobals ("_law_files_by" : Str) = some (some (.ref f_files_by)))
    (l_files_by : K.lookup f_files_by = some ⟨oc_files_by, od_files_by, .func (PySem.W.fnOf ("_law_files_by" : Str) ("_law_files_by" : Str) (defArgs sT_files_by) (defBody sT_files_by) (defScope sT_files_by) .none kV_files_by dc_files_by pm_files_by an_files_by cd_files_by ct_files_by), sl_files_by⟩)
    (c_files_by : PySem.W.codeIn K cd_files_by ("_law_files_by" : Str) = true)
    (kp_files_by : PySem.W.keepIn K (.ref f_files_by) = true)
    (a_disk_deed : PySem.W.nsIn K mainGlobals ("_law_disk_deed" : Str) = some (some (.ref f_disk_deed)))
    (l_disk_deed : K.lookup f_disk_deed = some ⟨oc_disk_deed, od_disk_deed, .func (PySem.W.fnOf ("_law_disk_deed" : Str) ("_law_disk_deed" : Str) (defArgs sT_disk_deed) (defBody sT_disk_deed) (defScope sT_disk_deed) .none kV_disk_deed dc_disk_deed pm_disk_deed an_disk_deed cd_disk_deed ct_disk_deed), sl_disk_deed⟩)
    (c_disk_deed : PySem.W.codeIn K cd_disk_deed ("_law_disk_deed" : Str) = true)
    (kp_disk_deed : PySem.W.keepIn K (.ref f_disk_deed) = true)
    (a_deed_steps : PySem.W.nsIn K mainGlobals ("deed_steps" : Str) = some (some (.ref f_deed_steps)))
    (l_deed_steps : K.lookup f_deed_steps = some ⟨oc_deed_steps, od_deed_steps, .func (PySem.W.fnOf ("deed_steps" : Str) ("deed_steps" : Str) (defArgs sT_deed_steps) (defBody sT_deed_steps) (defScope sT_deed_steps) .none kV_deed_steps dc_deed_steps pm_deed_steps an_deed_steps cd_deed_steps ct_deed_steps), sl_deed_steps⟩)
    (c_deed_steps : PySem.W.codeIn K cd_deed_steps ("deed_steps" : Str) = true)
    (kp_deed_steps : PySem.W.keepIn K (.ref f_deed_steps) = true)
    (a_done_with : PySem.W.nsIn K mainGlobals ("done_with" : Str) = some (some (.ref f_done_with)))
    (l_done_with : K.lookup f_done_with = some ⟨oc_done_with, od_done_with, .func (PySem.W.fnOf ("done_with" : Str) ("done_with" : Str) (defArgs sT_done_with) (defBody sT_done_with) (defScope sT_done_with) .none kV_done_with dc_done_with pm_done_with an_done_with cd_done_with ct_done_with), sl_done_with⟩)
    (c_done_with : PySem.W.codeIn K cd_done_with ("done_with" : Str) = true)
    (kp_done_with : PySem.W.keepIn K (.ref f_done_with) = true)
    (a_Disk_keep_deed : PySem.W.findIn K (.ref c_Disk) ("keep_deed" : Str) = some (some (.ref f_Disk_keep_deed)))
    (i_Disk_keep_deed : PySem.W.isFn K (.ref f_Disk_keep_deed) = true)
    (l_Disk_keep_deed : K.lookup f_Disk_keep_deed = some ⟨oc_Disk_keep_deed, od_Disk_keep_deed, .func (PySem.W.fnOf ("keep_deed" : Str) ("Disk.keep_deed" : Str) (defArgs sT_Disk_keep_deed) (defBody sT_Disk_keep_deed) (defScope sT_Disk_keep_deed) .none kV_Disk_keep_deed dc_Disk_keep_deed pm_Disk_keep_deed an_Disk_keep_deed cd_Disk_keep_deed ct_Disk_keep_deed), sl_Disk_keep_deed⟩)
    (c_Disk_keep_deed : PySem.W.codeIn K cd_Disk_keep_deed ("Disk.keep_deed" : Str) = true)
    (kp_Disk_keep_deed : PySem.W.keepIn K (.ref f_Disk_keep_deed) = true)
    (a_Disk_make : PySem.W.findIn K (.ref c_Disk) ("make" : Str) = some (some (.ref f_Disk_make)))
    (i_Disk_make : PySem.W.isFn K (.ref f_Disk_make) = true)
    (l_Disk_make : K.lookup f_Disk_make = some ⟨oc_Disk_make, od_Disk_make, .func (PySem.W.fnOf ("make" : Str) ("Disk.make" : Str) (defArgs sT_Disk_make) (defBody sT_Disk_make) (defScope sT_Disk_make) .none kV_Disk_make dc_Disk_make pm_Disk_make an_Disk_make cd_Disk_make ct_Disk_make), sl_Disk_make⟩)
    (c_Disk_make : PySem.W.codeIn K cd_Disk_make ("Disk.make" : Str) = true)
    (kp_Disk_make : PySem.W.keepIn K (.ref f_Disk_make) = true)
    (a_Disk_look_file : PySem.W.findIn K (.ref c_Disk) ("look_file" : Str) = some (some (.ref f_Disk_look_file)))
    (i_Disk_look_file : PySem.W.isFn K (.ref f_Disk_look_file) = true)
    (l_Disk_look_file : K.lookup f_Disk_look_file = some ⟨oc_Disk_look_file, od_Disk_look_file, .func (PySem.W.fnOf ("look_file" : Str) ("Disk.look_file" : Str) (defArgs sT_Disk_look_file) (defBody sT_Disk_look_file) (defScope sT_Disk_look_file) .none kV_Disk_look_file dc_Disk_look_file pm_Disk_look_file an_Disk_look_file cd_Disk_look_file ct_Disk_look_file), sl_Disk_look_file⟩)
    (c_Disk_look_file : PySem.W.codeIn K cd_Disk_look_file ("Disk.look_file" : Str) = true)
    (kp_Disk_look_file : PySem.W.keepIn K (.ref f_Disk_look_file) = true)
    (a_Disk_add : PySem.W.findIn K (.ref c_Disk) ("add" : Str) = some (some (.ref f_Disk_add)))
    (i_Disk_add : PySem.W.isFn K (.ref f_Disk_add) = true)
    (l_Disk_add : K.lookup f_Disk_add = some ⟨oc_Disk_add, od_Disk_add, .func (PySem.W.fnOf ("add" : Str) ("Disk.add" : Str) (defArgs sT_Disk_add) (defBody sT_Disk_add) (defScope sT_Disk_add) .none kV_Disk_add dc_Disk_add pm_Disk_add an_Disk_add cd_Disk_add ct_Disk_add), sl_Disk_add⟩)
    (c_Disk_add : PySem.W.codeIn K cd_Disk_add ("Disk.add" : Str) = true)
    (kp_Disk_add : PySem.W.keepIn K (.ref f_Disk_add) = true)
    (a_Disk_cut : PySem.W.findIn K (.ref c_Disk) ("cut" : Str) = some (some (.ref f_Disk_cut)))
    (i_Disk_cut : PySem.W.isFn K (.ref f_Disk_cut) = true)
    (l_Disk_cut : K.lookup f_Disk_cut = some ⟨oc_Disk_cut, od_Disk_cut, .func (PySem.W.fnOf ("cut" : Str) ("Disk.cut" : Str) (defArgs sT_Disk_cut) (defBody sT_Disk_cut) (defScope sT_Disk_cut) .none kV_Disk_cut dc_Disk_cut pm_Disk_cut an_Disk_cut cd_Disk_cut ct_Disk_cut), sl_Disk_cut⟩)
    (c_Disk_cut : PySem.W.codeIn K cd_Disk_cut ("Disk.cut" : Str) = true)
    (kp_Disk_cut : PySem.W.keepIn K (.ref f_Disk_cut) = true)
    (a_Disk_drop : PySem.W.findIn K (.ref c_Disk) ("drop" : Str) = some (some (.ref f_Disk_drop)))
    (i_Disk_drop : PySem.W.isFn K (.ref f_Disk_drop) = true)
    (l_Disk_drop : K.lookup f_Disk_drop = some ⟨oc_Disk_drop, od_Disk_drop, .func (PySem.W.fnOf ("drop" : Str) ("Disk.drop" : Str) (defArgs sT_Disk_drop) (defBody sT_Disk_drop) (defScope sT_Disk_drop) .none kV_Disk_drop dc_Disk_drop pm_Disk_drop an_Disk_drop cd_Disk_drop ct_Disk_drop), sl_Disk_drop⟩)
    (c_Disk_drop : PySem.W.codeIn K cd_Disk_drop ("Disk.drop" : Str) = true)
    (kp_Disk_drop : PySem.W.keepIn K (.ref f_Disk_drop) = true)
    (a_done_on : PySem.W.nsIn K mainGlobals ("_law_done_on" : Str) = some (some (.ref f_done_on)))
    (l_done_on : K.lookup f_done_on = some ⟨oc_done_on, od_done_on, .func (PySem.W.fnOf ("_law_done_on" : Str) ("_law_done_on" : Str) (defArgs sT_done_on) (defBody sT_done_on) (defScope sT_done_on) .none kV_done_on dc_done_on pm_done_on an_done_on cd_done_on ct_done_on), sl_done_on⟩)
    (c_done_on : PySem.W.codeIn K cd_done_on ("_law_done_on" : Str) = true)
    (kp_done_on : PySem.W.keepIn K (.ref f_done_on) = true)
    (a_single_steps : PySem.W.nsIn K mainGlobals ("_law_single_steps" : Str) = some (some (.ref f_single_steps)))
    (l_single_steps : K.lookup f_single_steps = some ⟨oc_single_steps, od_single_steps, .func (PySem.W.fnOf ("_law_single_steps" : Str) ("_law_single_steps" : Str) (defArgs sT_single_steps) (defBody sT_single_steps) (defScope sT_single_steps) .none kV_single_steps dc_single_steps pm_single_steps an_single_steps cd_single_steps ct_single_steps), sl_single_steps⟩)
    (c_single_steps : PySem.W.codeIn K cd_single_steps ("_law_single_steps" : Str) = true)
    (kp_single_steps : PySem.W.keepIn K (.ref f_single_steps) = true)
    (a_Disk_init : PySem.W.findIn K (.ref c_Disk) ("__init__" : Str) = some (some (.ref f_Disk_init)))
    (i_Disk_init : PySem.W.isFn K (.ref f_Disk_init) = true)
    (l_Disk_init : K.lookup f_Disk_init = some ⟨oc_Disk_init, od_Disk_init, .func (PySem.W.fnOf ("__init__" : Str) ("Disk.__init__" : Str) (defArgs sT_Disk_init) (defBody sT_Disk_init) (defScope sT_Disk_init) .none kV_Disk_init dc_Disk_init pm_Disk_init an_Disk_init cd_Disk_init ct_Disk_init), sl_Disk_init⟩)
    (c_Disk_init : PySem.W.codeIn K cd_Disk_init ("Disk.__init__" : Str) = true)
    (kp_Disk_init : PySem.W.keepIn K (.ref f_Disk_init) = true)
    (a_drawn : PySem.W.nsIn K mainGlobals ("_law_drawn" : Str) = some (some (.ref f_drawn)))
    (l_drawn : K.lookup f_drawn = some ⟨oc_drawn, od_drawn, .func (PySem.W.fnOf ("_law_drawn" : Str) ("_law_drawn" : Str) (defArgs sT_drawn) (defBody sT_drawn) (defScope sT_drawn) .none kV_drawn dc_drawn pm_drawn an_drawn cd_drawn ct_drawn), sl_drawn⟩)
    (c_drawn : PySem.W.codeIn K cd_drawn ("_law_drawn" : Str) = true)
    (kp_drawn : PySem.W.keepIn K (.ref f_drawn) = true)
    (a_same : PySem.W.nsIn K mainGlobals ("_law_same" : Str) = some (some (.ref f_same)))
    (l_same : K.lookup f_same = some ⟨oc_same, od_same, .func (PySem.W.fnOf ("_law_same" : Str) ("_law_same" : Str) (defArgs sT_same) (defBody sT_same) (defScope sT_same) .none kV_same dc_same pm_same an_same cd_same ct_same), sl_same⟩)
    (c_same : PySem.W.codeIn K cd_same ("_law_same" : Str) = true)
    (kp_same : PySem.W.keepIn K (.ref f_same) = true)
    (a_Disk_names : PySem.W.findIn K (.ref c_Disk) ("names" : Str) = some (some (.ref f_Disk_names)))
    (i_Disk_names : PySem.W.isFn K (.ref f_Disk_names) = true)
    (l_Disk_names : K.lookup f_Disk_names = some ⟨oc_Disk_names, od_Disk_names, .func (PySem.W.fnOf ("names" : Str) ("Disk.names" : Str) (defArgs sT_Disk_names) (defBody sT_Disk_names) (defScope sT_Disk_names) .none kV_Disk_names dc_Disk_names pm_Disk_names an_Disk_names cd_Disk_names ct_Disk_names), sl_Disk_names⟩)
    (c_Disk_names : PySem.W.codeIn K cd_Disk_names ("Disk.names" : Str) = true)
    (kp_Disk_names : PySem.W.keepIn K (.ref f_Disk_names) = true)
    (a_Disk_steps : PySem.W.findIn K (.ref c_Disk) ("steps" : Str) = some (some (.ref f_Disk_steps)))
    (i_Disk_steps : PySem.W.isFn K (.ref f_Disk_steps) = true)
    (l_Disk_steps : K.lookup f_Disk_steps = some ⟨oc_Disk_steps, od_Disk_steps, .func (PySem.W.fnOf ("steps" : Str) ("Disk.steps" : Str) (defArgs sT_Disk_steps) (defBody sT_Disk_steps) (defScope sT_Disk_steps) .none kV_Disk_steps dc_Disk_steps pm_Disk_steps an_Disk_steps cd_Disk_steps ct_Disk_steps), sl_Disk_steps⟩)
    (c_Disk_steps : PySem.W.codeIn K cd_Disk_steps ("Disk.steps" : Str) = true)
    (kp_Disk_steps : PySem.W.keepIn K (.ref f_Disk_steps) = true)
    (a_Disk_read : PySem.W.findIn K (.ref c_Disk) ("read" : Str) = some (some (.ref f_Disk_read)))
    (i_Disk_read : PySem.W.isFn K (.ref f_Disk_read) = true)
    (l_Disk_read : K.lookup f_Disk_read = some ⟨oc_Disk_read, od_Disk_read, .func (PySem.W.fnOf ("read" : Str) ("Disk.read" : Str) (defArgs sT_Disk_read) (defBody sT_Disk_read) (defScope sT_Disk_read) .none kV_Disk_read dc_Disk_read pm_Disk_read an_Disk_read cd_Disk_read ct_Disk_read), sl_Disk_read⟩)
    (c_Disk_read : PySem.W.codeIn K cd_Disk_read ("Disk.read" : Str) = true)
    (kp_Disk_read : PySem.W.keepIn K (.ref f_Disk_read) = true)
    (a_disk_is : PySem.W.nsIn K mainGlobals ("_law_disk_is" : Str) = some (some (.ref f_disk_is)))
    (l_disk_is : K.lookup f_disk_is = some ⟨oc_disk_is, od_disk_is, .func (PySem.W.fnOf ("_law_disk_is" : Str) ("_law_disk_is" : Str) (defArgs sT_disk_is) (defBody sT_disk_is) (defScope sT_disk_is) .none kV_disk_is dc_disk_is pm_disk_is an_disk_is cd_disk_is ct_disk_is), sl_disk_is⟩)
    (c_disk_is : PySem.W.codeIn K cd_disk_is ("_law_disk_is" : Str) = true)
    (kp_disk_is : PySem.W.keepIn K (.ref f_disk_is) = true)
    (a_deed_part : PySem.W.nsIn K mainGlobals ("deed_part" : Str) = some (some (.ref f_deed_part)))
    (l_deed_part : K.lookup f_deed_part = some ⟨oc_deed_part, od_deed_part, .func (PySem.W.fnOf ("deed_part" : Str) ("deed_part" : Str) (defArgs sT_deed_part) (defBody sT_deed_part) (defScope sT_deed_part) .none kV_deed_part dc_deed_part pm_deed_part an_deed_part cd_deed_part ct_deed_part), sl_deed_part⟩)
    (c_deed_part : PySem.W.codeIn K cd_deed_part ("deed_part" : Str) = true)
    (kp_deed_part : PySem.W.keepIn K (.ref f_deed_part) = true)
    (a_Disk_fallen : PySem.W.findIn K (.ref c_Disk) ("fallen" : Str) = some (some (.ref f_Disk_fallen)))
    (i_Disk_fallen : PySem.W.isFn K (.ref f_Disk_fallen) = true)
    (l_Disk_fallen : K.lookup f_Disk_fallen = some ⟨oc_Disk_fallen, od_Disk_fallen, .func (PySem.W.fnOf ("fallen" : Str) ("Disk.fallen" : Str) (defArgs sT_Disk_fallen) (defBody sT_Disk_fallen) (defScope sT_Disk_fallen) .none kV_Disk_fallen dc_Disk_fallen pm_Disk_fallen an_Disk_fallen cd_Disk_fallen ct_Disk_fallen), sl_Disk_fallen⟩)
    (c_Disk_fallen : PySem.W.codeIn K cd_Disk_fallen ("Disk.fallen" : Str) = true)
    (kp_Disk_fallen : PySem.W.keepIn K (.ref f_Disk_fallen) = true)
    (a_fall_right : PySem.W.nsIn K mainGlobals ("_law_fall_right" : Str) = some (some (.ref f_fall_right)))
    (l_fall_right : K.lookup f_fall_right = some ⟨oc_fall_right, od_fall_right, .func (PySem.W.fnOf ("_law_fall_right" : Str) ("_law_fall_right" : Str) (defArgs sT_fall_right) (defBody sT_fall_right) (defScope sT_fall_right) .none kV_fall_right dc_fall_right pm_fall_right an_fall_right cd_fall_right ct_fall_right), sl_fall_right⟩)
    (c_fall_right : PySem.W.codeIn K cd_fall_right ("_law_fall_right" : Str) = true)
    (kp_fall_right : PySem.W.keepIn K (.ref f_fall_right) = true)
    (a_law : PySem.W.nsIn K mainGlobals ("law" : Str) = some (some (.ref f_law)))
    (l_law : K.lookup f_law = some ⟨oc_law, od_law, .func (PySem.W.fnOf ("law" : Str) ("law" : Str) (defArgs sT_law) (defBody sT_law) (defScope sT_law) .none kV_law dc_law pm_law an_law cd_law ct_law), sl_law⟩)
    (c_law : PySem.W.codeIn K cd_law ("law" : Str) = true)
    (kp_law : PySem.W.keepIn K (.ref f_law) = true)
    (zz_list : PySem.W.nsIn K mainGlobals ("list" : Str) = some none)
    (zz_len : PySem.W.nsIn K mainGlobals ("len" : Str) = some none)
    (zz_divmod : PySem.W.nsIn K mainGlobals ("divmod" : Str) = some none)
    (zz_sorted : PySem.W.nsIn K mainGlobals ("sorted" : Str) = some none)
    (zz_int : PySem.W.nsIn K mainGlobals ("int" : Str) = some none)
    (zz_range : PySem.W.nsIn K mainGlobals ("range" : Str) = some none)
    (zz_isinstance : PySem.W.nsIn K mainGlobals ("isinstance" : Str) = some none)
    (zz_dict : PySem.W.nsIn K mainGlobals ("dict" : Str) = some none)
    (zz_tuple : PySem.W.nsIn K mainGlobals ("tuple" : Str) = some none)
    (zz_all : PySem.W.nsIn K mainGlobals ("all" : Str) = some none)
    (zz_zip : PySem.W.nsIn K mainGlobals ("zip" : Str) = some none)
    (zz_str : PySem.W.nsIn K mainGlobals ("str" : Str) = some none)
    (zz_bool : PySem.W.nsIn K mainGlobals ("bool" : Str) = some none)
    (zz_min : PySem.W.nsIn K mainGlobals ("min" : Str) = some none)
    (pg_Disk : PySem.W.plainGet K c_Disk Str.empty = true)
    (hd_Disk : PySem.W.hasDictIn K c_Disk = true)
    (po_Disk : PySem.W.plainOver K c_Disk = true)
    (sa_Disk : PySem.W.findIn K (.ref c_Disk) "__setattr__" = some (some (.builtin "object.__setattr__")))
    (na_Disk_own_files : PySem.W.findIn K (.ref c_Disk) ("own_files" : Str) = some none)
    (na_Disk_own_log : PySem.W.findIn K (.ref c_Disk) ("own_log" : Str) = some none)
    (na_Disk_so_many : PySem.W.findIn K (.ref c_Disk) ("so_many" : Str) = some none)
    (mm_Disk : PySem.W.makesIn K c_Disk = true)
    (kc_Disk : PySem.W.keepIn K (.ref c_Disk) = true)
    (x_NoFile : PySem.W.excIn K c_NoFile [.type "ValueError", .type "Exception", .type "BaseException", .type "object"] "ValueError.__new__" = true)
    (kc_NoFile : PySem.W.keepIn K (.ref c_NoFile) = true)
    (bs_NoFile : PySem.W.subIn K (.ref c_NoFile) (.type "BaseException") = some true)
    (ty_NoFile : PySem.W.typeIn K (.ref c_NoFile) = some (.type "type")) :
    ∃ fd : FuncData, (∀ (s : Shared) (v : Value), BindsTo s fd ⟨[v], []⟩ [("_law_script", v)]) ∧ ∀ base : Heap, K.In base → base.Ns mainGlobals mg → FnOk l.prog w K mg base CX0 9 fa fd ["_law_script"] (spLaw K) := by
  have e := hfa.symm.trans (PySem.W.mg_of X G a_law)
  cases e
  have F_begin := fun_mk (st := sT_begin) l_begin c_begin kp_begin
  have m_begin := PySem.W.mg_of X G a_begin
  have b_begin := F_begin.binds (ps := [("_law_script" : Str)]) fun _ _ _ _ _ _ us hl => match us, hl with | [_], _ => rfl
  have F_take := fun_mk (st := sT_take) l_take c_take kp_take
  have m_take := PySem.W.mg_of X G a_take
  have b_take := F_take.binds (ps := [("_law_state" : Str), ("_law_many" : Str)]) fun _ _ _ _ _ _ us hl => match us, hl with | [_, _], _ => rfl
  have F_files_by := fun_mk (st := sT_files_by) l_files_by c_files_by kp_files_by
  have m_files_by := PySem.W.mg_of X G a_files_by
  have b_files_by := F_files_by.binds (ps := [("_law_steps" : Str)]) fun _ _ _ _ _ _ us hl => match us, hl with | [_], _ => rfl
  have F_disk_deed := fun_mk (st := sT_disk_deed) l_disk_deed c_disk_deed kp_disk_deed
  have m_disk_deed := PySem.W.mg_of X G a_disk_deed
  have b_disk_deed := F_disk_deed.binds (ps := [("_law_state" : Str), ("_law_files" : Str)]) fun _ _ _ _ _ _ us hl => match us, hl with | [_, _], _ => rfl
  have F_deed_steps := fun_mk (st := sT_deed_steps) l_deed_steps c_deed_steps kp_deed_steps
  have m_deed_steps := PySem.W.mg_of X G a_deed_steps
  have b_deed_steps := F_deed_steps.binds (ps := [("deed" : Str)]) fun _ _ _ _ _ _ us hl => match us, hl with | [_], _ => rfl
  have F_done_with := fun_mk (st := sT_done_with) l_done_with c_done_with kp_done_with
  have m_done_with := PySem.W.mg_of X G a_done_with
  have b_done_with := F_done_with.binds (ps := [("files" : Str), ("deed" : Str)]) fun _ _ _ _ _ _ us hl => match us, hl with | [_, _], _ => rfl
  have F_Disk_keep_deed := fun_mk (st := sT_Disk_keep_deed) l_Disk_keep_deed c_Disk_keep_deed kp_Disk_keep_deed
  have b_Disk_keep_deed := F_Disk_keep_deed.binds (ps := [("self" : Str), ("deed" : Str)]) fun _ _ _ _ _ _ us hl => match us, hl with | [_, _], _ => rfl
  have F_Disk_make := fun_mk (st := sT_Disk_make) l_Disk_make c_Disk_make kp_Disk_make
  have b_Disk_make := F_Disk_make.binds (ps := [("self" : Str), ("name" : Str)]) fun _ _ _ _ _ _ us hl => match us, hl with | [_, _], _ => rfl
  have F_Disk_look_file := fun_mk (st := sT_Disk_look_file) l_Disk_look_file c_Disk_look_file kp_Disk_look_file
  have b_Disk_look_file := F_Disk_look_file.binds (ps := [("self" : Str), ("name" : Str)]) fun _ _ _ _ _ _ us hl => match us, hl with | [_, _], _ => rfl
  have F_Disk_add := fun_mk (st := sT_Disk_add) l_Disk_add c_Disk_add kp_Disk_add
  have b_Disk_add := F_Disk_add.binds (ps := [("self" : Str), ("name" : Str), ("row" : Str)]) fun _ _ _ _ _ _ us hl => match us, hl with | [_, _, _], _ => rfl
  have F_Disk_cut := fun_mk (st := sT_Disk_cut) l_Disk_cut c_Disk_cut kp_Disk_cut
  have b_Disk_cut := F_Disk_cut.binds (ps := [("self" : Str), ("name" : Str), ("many" : Str)]) fun _ _ _ _ _ _ us hl => match us, hl with | [_, _, _], _ => rfl
  have F_Disk_drop := fun_mk (st := sT_Disk_drop) l_Disk_drop c_Disk_drop kp_Disk_drop
  have b_Disk_drop := F_Disk_drop.binds (ps := [("self" : Str), ("name" : Str)]) fun _ _ _ _ _ _ us hl => match us, hl with | [_, _], _ => rfl
  have F_done_on := fun_mk (st := sT_done_on) l_done_on c_done_on kp_done_on
  have m_done_on := PySem.W.mg_of X G a_done_on
  have b_done_on := F_done_on.binds (ps := [("_law_disk" : Str), ("_law_deed" : Str)]) fun _ _ _ _ _ _ us hl => match us, hl with | [_, _], _ => rfl
  have F_single_steps := fun_mk (st := sT_single_steps) l_single_steps c_single_steps kp_single_steps
  have m_single_steps := PySem.W.mg_of X G a_single_steps
  have b_single_steps := F_single_steps.binds (ps := [("_law_deed" : Str)]) fun _ _ _ _ _ _ us hl => match us, hl with | [_], _ => rfl
  have F_Disk_init := fun_mk (st := sT_Disk_init) l_Disk_init c_Disk_init kp_Disk_init
  have b_Disk_init := F_Disk_init.binds (ps := [("self" : Str)]) fun _ _ _ _ _ _ us hl => match us, hl with | [_], _ => rfl
  have F_drawn := fun_mk (st := sT_drawn) l_drawn c_drawn kp_drawn
  have m_drawn := PySem.W.mg_of X G a_drawn
  have b_drawn := F_drawn.binds (ps := [("_law_state" : Str)]) fun _ _ _ _ _ _ us hl => match us, hl with | [_], _ => rfl
  have F_same := fun_mk (st := sT_same) l_same c_same kp_same
  have m_same := PySem.W.mg_of X G a_same
  have b_same := F_same.binds (ps := [("_law_found" : Str), ("_law_due" : Str)]) fun _ _ _ _ _ _ us hl => match us, hl with | [_, _], _ => rfl
  have F_Disk_names := fun_mk (st := sT_Disk_names) l_Disk_names c_Disk_names kp_Disk_names
  have b_Disk_names := F_Disk_names.binds (ps := [("self" : Str)]) fun _ _ _ _ _ _ us hl => match us, hl with | [_], _ => rfl
  have F_Disk_steps := fun_mk (st := sT_Disk_steps) l_Disk_steps c_Disk_steps kp_Disk_steps
  have b_Disk_steps := F_Disk_steps.binds (ps := [("self" : Str)]) fun _ _ _ _ _ _ us hl => match us, hl with | [_], _ => rfl
  have F_Disk_read := fun_mk (st := sT_Disk_read) l_Disk_read c_Disk_read kp_Disk_read
  have b_Disk_read := F_Disk_read.binds (ps := [("self" : Str), ("name" : Str)]) fun _ _ _ _ _ _ us hl => match us, hl with | [_, _], _ => rfl
  have F_disk_is := fun_mk (st := sT_disk_is) l_disk_is c_disk_is kp_disk_is
  have m_disk_is := PySem.W.mg_of X G a_disk_is
  have b_disk_is := F_disk_is.binds (ps := [("_law_disk" : Str), ("_law_files" : Str), ("_law_many" : Str)]) fun _ _ _ _ _ _ us hl => match us, hl with | [_, _, _], _ => rfl
  have F_deed_part := fun_mk (st := sT_deed_part) l_deed_part c_deed_part kp_deed_part
  have m_deed_part := PySem.W.mg_of X G a_deed_part
  have b_deed_part := F_deed_part.binds (ps := [("deed" : Str), ("many" : Str)]) fun _ _ _ _ _ _ us hl => match us, hl with | [_, _], _ => rfl
  have F_Disk_fallen := fun_mk (st := sT_Disk_fallen) l_Disk_fallen c_Disk_fallen kp_Disk_fallen
  have b_Disk_fallen := F_Disk_fallen.binds (ps := [("self" : Str), ("k" : Str)]) fun _ _ _ _ _ _ us hl => match us, hl with | [_, _], _ => rfl
  have F_fall_right := fun_mk (st := sT_fall_right) l_fall_right c_fall_right kp_fall_right
  have m_fall_right := PySem.W.mg_of X G a_fall_right
  have b_fall_right := F_fall_right.binds (ps := [("_law_state" : Str), ("_law_disk" : Str), ("_law_steps" : Str), ("_law_k" : Str)]) fun _ _ _ _ _ _ us hl => match us, hl with | [_, _, _, _], _ => rfl
  have F_law := fun_mk (st := sT_law) l_law c_law kp_law
  have m_law := PySem.W.mg_of X G a_law
  have b_law := F_law.binds (ps := [("_law_script" : Str)]) fun _ _ _ _ _ _ us hl => match us, hl with | [_], _ => rfl
  have z_list := PySem.W.mg_none_of X G zz_list
  have z_len := PySem.W.mg_none_of X G zz_len
  have z_divmod := PySem.W.mg_none_of X G zz_divmod
  have z_sorted := PySem.W.mg_none_of X G zz_sorted
  have z_int := PySem.W.mg_none_of X G zz_int
  have z_range := PySem.W.mg_none_of X G zz_range
  have z_isinstance := PySem.W.mg_none_of X G zz_isinstance
  have z_dict := PySem.W.mg_none_of X G zz_dict
  have z_tuple := PySem.W.mg_none_of X G zz_tuple
  have z_all := PySem.W.mg_none_of X G zz_all
  have z_zip := PySem.W.mg_none_of X G zz_zip
  have z_str := PySem.W.mg_none_of X G zz_str
  have z_bool := PySem.W.mg_none_of X G zz_bool
  have z_min := PySem.W.mg_none_of X G zz_min
  have m_Disk := PySem.W.mg_of X G a_Disk
  have m_NoFile := PySem.W.mg_of X G a_NoFile
  have cl_Disk : Cls K c_Disk := ⟨pg_Disk, hd_Disk, po_Disk, sa_Disk⟩
  have kx_Disk : ClsK K c_Disk [("own_files" : Str), ("own_log" : Str), ("so_many" : Str)] := ⟨cl_Disk, by simp only [List.forall_mem_cons]; exact ⟨na_Disk_own_files, na_Disk_own_log, na_Disk_so_many,  fun _ h => by cases h⟩⟩
  have mk_Disk : Mk K c_Disk f_Disk_init := ⟨mm_Disk, a_Disk_init, i_Disk_init, kc_Disk⟩
  have me_Disk_keep_deed : Meth K c_Disk ("keep_deed" : Str) f_Disk_keep_deed := ⟨a_Disk_keep_deed, i_Disk_keep_deed, kp_Disk_keep_deed⟩
  have me_Disk_look_file : Meth K c_Disk ("look_file" : Str) f_Disk_look_file := ⟨a_Disk_look_file, i_Disk_look_file, kp_Disk_look_file⟩
  have me_Disk_make : Meth K c_Disk ("make" : Str) f_Disk_make := ⟨a_Disk_make, i_Disk_make, kp_Disk_make⟩
  have me_Disk_add : Meth K c_Disk ("add" : Str) f_Disk_add := ⟨a_Disk_add, i_Disk_add, kp_Disk_add⟩
  have me_Disk_cut : Meth K c_Disk ("cut" : Str) f_Disk_cut := ⟨a_Disk_cut, i_Disk_cut, kp_Disk_cut⟩
  have me_Disk_drop : Meth K c_Disk ("drop" : Str) f_Disk_drop := ⟨a_Disk_drop, i_Disk_drop, kp_Disk_drop⟩
  have me_Disk_names : Meth K c_Disk ("names" : Str) f_Disk_names := ⟨a_Disk_names, i_Disk_names, kp_Disk_names⟩
  have me_Disk_steps : Meth K c_Disk ("steps" : Str) f_Disk_steps := ⟨a_Disk_steps, i_Disk_steps, kp_Disk_steps⟩
  have me_Disk_read : Meth K c_Disk ("read" : Str) f_Disk_read := ⟨a_Disk_read, i_Disk_read, kp_Disk_read⟩
  have me_Disk_fallen : Meth K c_Disk ("fallen" : Str) f_Disk_fallen := ⟨a_Disk_fallen, i_Disk_fallen, kp_Disk_fallen⟩
  refine ⟨PySem.W.fnOf ("law" : Str) ("law" : Str) (defArgs sT_law) (defBody sT_law) (defScope sT_law) .none kV_law dc_law pm_law an_law cd_law ct_law, fun s v => .of_eq rfl, fun base hb hg => ?_⟩
  have G_begin : FnOk l.prog w K mg base CX0 1 f_begin _ [("_law_script" : Str)] (spV K .O vBegin) := ok_begin (P := l.prog) (w := w) (base := base) F_begin z_list (sp := (spV K .O vBegin)) (fun _ _ _ _ h => spV.len (n := 1) (fun ds m P X ⟨_, e, _⟩ => by rw [e]; rfl) h) (fun vs H Q E h => pure_begin vs H Q E (cv_begin h))
  have G_take : FnOk l.prog w K mg base CX0 1 f_take _ [("_law_state" : Str), ("_law_many" : Str)] (spV K .O vTake) := ok_take (P := l.prog) (w := w) (base := base) F_take z_len z_divmod (sp := (spV K .O vTake)) (fun _ _ _ _ h => spV.len (n := 2) (fun ds m P X ⟨_, _, _, _, e, _⟩ => by rw [e]; rfl) h) (fun vs H Q E h => pure_take vs H Q E (cv_take h))
  have G_files_by : FnOk l.prog w K mg base CX0 1 f_files_by _ [("_law_steps" : Str)] (spV K .F wFilesBy) := ok_files_by (P := l.prog) (w := w) (base := base) F_files_by (sp := (spV K .F wFilesBy)) (fun _ _ _ _ h => spV.len (n := 1) (fun ds m P X h => ((p_files_by (K := K)) ds m P X h).1) h) (sim_files_by (fun ds m P X h => (p_files_by (K := K)) ds m P X h))
  have G_disk_deed : FnOk l.prog w K mg base CX0 2 f_disk_deed _ [("_law_state" : Str), ("_law_files" : Str)] (spV K .O wDiskDeed) := ok_disk_deed (P := l.prog) (w := w) (base := base) F_disk_deed G_take b_take m_take kp_take z_sorted z_len z_int z_range (sp := (spV K .O wDiskDeed)) (fun _ _ _ _ h => spV.len (n := 2) (fun ds m P X h => ((p_disk_deed (K := K)) ds m P X h).1) h) (sim_disk_deed (fun ds m P X h => (p_disk_deed (K := K)) ds m P X h))
  have G_deed_steps : FnOk l.prog w K mg base CX0 1 f_deed_steps _ [("deed" : Str)] (spV K .O wDeedSteps) := ok_deed_steps (P := l.prog) (w := w) (base := base) F_deed_steps z_len (sp := (spV K .O wDeedSteps)) (fun _ _ _ _ h => spV.len (n := 1) (fun ds m P X h => ((p_deed_steps (K := K)) ds m P X h).1) h) (sim_deed_steps (fun ds m P X h => (p_deed_steps (K := K)) ds m P X h))
  have G_done_with : FnOk l.prog w K mg base CX0 1 f_done_with _ [("files" : Str), ("deed" : Str)] (spV K .O wDoneWith) := ok_done_with (P := l.prog) (w := w) (base := base) F_done_with (sp := (spV K .O wDoneWith)) (fun _ _ _ _ h => spV.len (n := 2) (fun ds m P X h => ((p_done_with (K := K)) ds m P X h).1) h) (sim_done_with (fun ds m P X h => (p_done_with (K := K)) ds m P X h))
  have G_Disk_keep_deed : FnOk l.prog w K mg base CX0 2 f_Disk_keep_deed _ [("self" : Str), ("deed" : Str)] (spV K .O (wKeepDeed c_Disk)) := ok_Disk_keep_deed (P := l.prog) (w := w) (base := base) F_Disk_keep_deed G_deed_steps b_deed_steps m_deed_steps kp_deed_steps G_done_with b_done_with m_done_with kp_done_with m_Disk (sp := (spV K .O (wKeepDeed c_Disk))) (fun _ _ _ _ h => spV.len (n := 2) (fun ds m P X h => ((p_Disk_keep_deed (K := K)) ds m P X h).1) h) (sim_Disk_keep_deed kx_Disk (fun ds m P X h => (p_Disk_keep_deed (K := K)) ds m P X h))
  have G_Disk_make : FnOk l.prog w K mg base CX0 3 f_Disk_make _ [("self" : Str), ("name" : Str)] (spV K .O (wDkMake c_Disk)) := ok_Disk_make (P := l.prog) (w := w) (base := base) F_Disk_make G_Disk_keep_deed b_Disk_keep_deed cl_Disk me_Disk_keep_deed (sp := (spV K .O (wDkMake c_Disk))) (fun _ _ _ _ h => spV.len (n := 2) (fun ds m P X h => ((p_Disk_make (K := K)) ds m P X h).1) h) (sim_Disk_make (fun ds m P X h => (p_Disk_make (K := K)) ds m P X h))
  have G_Disk_look_file : FnOk l.prog w K mg base (L2.CX l.prog w) 1 f_Disk_look_file _ [("self" : Str), ("name" : Str)] (spV K .O (wLookFile c_Disk c_NoFile)) := ok_Disk_look_file (P := l.prog) (w := w) (base := base) F_Disk_look_file x_NoFile kc_NoFile bs_NoFile ty_NoFile m_Disk m_NoFile (sp := (spV K .O (wLookFile c_Disk c_NoFile))) (fun _ _ _ _ h => spV.len (n := 2) (fun ds m P X h => ((p_Disk_look_file (K := K)) ds m P X h).1) h) (sim_Disk_look_file kx_Disk (fun ds m P X h => (p_Disk_look_file (K := K)) ds m P X h))
  have G_Disk_add : FnOk l.prog w K mg base (L2.CX l.prog w) 3 f_Disk_add _ [("self" : Str), ("name" : Str), ("row" : Str)] (spV K .O (wDkAdd c_Disk c_NoFile)) := ok_Disk_add (P := l.prog) (w := w) (base := base) F_Disk_add G_Disk_look_file b_Disk_look_file cl_Disk me_Disk_look_file G_Disk_keep_deed b_Disk_keep_deed me_Disk_keep_deed z_list (sp := (spV K .O (wDkAdd c_Disk c_NoFile))) (fun _ _ _ _ h => spV.len (n := 3) (fun ds m P X h => ((p_Disk_add (K := K)) ds m P X h).1) h) (sim_Disk_add (fun ds m P X h => (p_Disk_add (K := K)) ds m P X h))
  have G_Disk_cut : FnOk l.prog w K mg base (L2.CX l.prog w) 3 f_Disk_cut _ [("self" : Str), ("name" : Str), ("many" : Str)] (spV K .O (wDkCut c_Disk c_NoFile)) := ok_Disk_cut (P := l.prog) (w := w) (base := base) F_Disk_cut G_Disk_look_file b_Disk_look_file cl_Disk me_Disk_look_file G_Disk_keep_deed b_Disk_keep_deed me_Disk_keep_deed (sp := (spV K .O (wDkCut c_Disk c_NoFile))) (fun _ _ _ _ h => spV.len (n := 3) (fun ds m P X h => ((p_Disk_cut (K := K)) ds m P X h).1) h) (sim_Disk_cut (fun ds m P X h => (p_Disk_cut (K := K)) ds m P X h))
  have G_Disk_drop : FnOk l.prog w K mg base (L2.CX l.prog w) 3 f_Disk_drop _ [("self" : Str), ("name" : Str)] (spV K .O (wDkDrop c_Disk c_NoFile)) := ok_Disk_drop (P := l.prog) (w := w) (base := base) F_Disk_drop G_Disk_look_file b_Disk_look_file cl_Disk me_Disk_look_file G_Disk_keep_deed b_Disk_keep_deed me_Disk_keep_deed (sp := (spV K .O (wDkDrop c_Disk c_NoFile))) (fun _ _ _ _ h => spV.len (n := 2) (fun ds m P X h => ((p_Disk_drop (K := K)) ds m P X h).1) h) (sim_Disk_drop (fun ds m P X h => (p_Disk_drop (K := K)) ds m P X h))
  have G_done_on : FnOk l.prog w K mg base (L2.CX l.prog w) 4 f_done_on _ [("_law_disk" : Str), ("_law_deed" : Str)] (spV K .O (wDoneOn c_Disk c_NoFile)) := ok_done_on (P := l.prog) (w := w) (base := base) F_done_on G_Disk_make b_Disk_make cl_Disk me_Disk_make G_Disk_add b_Disk_add me_Disk_add G_Disk_cut b_Disk_cut me_Disk_cut G_Disk_drop b_Disk_drop me_Disk_drop (sp := (spV K .O (wDoneOn c_Disk c_NoFile))) (fun _ _ _ _ h => spV.len (n := 2) (fun ds m P X h => ((p_done_on (K := K)) ds m P X h).1) h) (sim_done_on (fun ds m P X h => (p_done_on (K := K)) ds m P X h))
  have G_single_steps : FnOk l.prog w K mg base CX0 1 f_single_steps _ [("_law_deed" : Str)] (spV K .O wSingle) := ok_single_steps (P := l.prog) (w := w) (base := base) F_single_steps (sp := (spV K .O wSingle)) (fun _ _ _ _ h => spV.len (n := 1) (fun ds m P X h => ((p_single_steps (K := K)) ds m P X h).1) h) (sim_single_steps (fun ds m P X h => (p_single_steps (K := K)) ds m P X h))
  have G_Disk_init : FnOk l.prog w K mg base CX0 1 f_Disk_init _ [("self" : Str)] (spV K .O (wDkInit c_Disk)) := ok_Disk_init (P := l.prog) (w := w) (base := base) F_Disk_init m_Disk (sp := (spV K .O (wDkInit c_Disk))) (fun _ _ _ _ h => spV.len (n := 1) (fun ds m P X h => ((p_Disk_init (K := K)) ds m P X h).1) h) (sim_Disk_init kx_Disk (fun ds m P X h => (p_Disk_init (K := K)) ds m P X h))
  have G_drawn : FnOk l.prog w K mg base CX0 5 f_drawn _ [("_law_state" : Str)] (spV K .O (wDrawn c_Disk)) := ok_drawn (P := l.prog) (w := w) (base := base) F_drawn G_take b_take m_take kp_take G_files_by b_files_by m_files_by kp_files_by G_disk_deed b_disk_deed m_disk_deed kp_disk_deed G_done_on b_done_on m_done_on kp_done_on G_single_steps b_single_steps m_single_steps kp_single_steps G_Disk_init b_Disk_init mk_Disk z_range m_Disk (sp := (spV K .O (wDrawn c_Disk))) (fun _ _ _ _ h => spV.len (n := 1) (fun ds m P X h => ((p_drawn (K := K) (N := c_NoFile)) ds m P X h).1) h) (sim_drawn (fun ds m P X h => (p_drawn (K := K) (N := c_NoFile)) ds m P X h))
  have G_same_0 : FnOk l.prog w K mg base CX0 0 f_same _ [("_law_found" : Str), ("_law_due" : Str)] (spSame K 0) := fn_no (fd := PySem.W.fnOf ("_law_same" : Str) ("_law_same" : Str) (defArgs sT_same) (defBody sT_same) (defScope sT_same) .none kV_same dc_same pm_same an_same cd_same ct_same) same_no
  have G_same_1 : FnOk l.prog w K mg base CX0 1 f_same _ [("_law_found" : Str), ("_law_due" : Str)] (spSame K 1) := ok_same (P := l.prog) (w := w) (base := base) F_same G_same_0 b_same m_same kp_same z_isinstance z_dict z_list z_tuple z_len z_all z_zip z_str z_int z_bool (sp := (spSame K 1)) (by rintro vs H Q E ⟨_, _, _, rfl, _⟩; rfl) pure_same
  have G_same_2 : FnOk l.prog w K mg base CX0 2 f_same _ [("_law_found" : Str), ("_law_due" : Str)] (spSame K 2) := ok_same (P := l.prog) (w := w) (base := base) F_same G_same_1 b_same m_same kp_same z_isinstance z_dict z_list z_tuple z_len z_all z_zip z_str z_int z_bool (sp := (spSame K 2)) (by rintro vs H Q E ⟨_, _, _, rfl, _⟩; rfl) pure_same
  have G_same_3 : FnOk l.prog w K mg base CX0 3 f_same _ [("_law_found" : Str), ("_law_due" : Str)] (spSame K 3) := ok_same (P := l.prog) (w := w) (base := base) F_same G_same_2 b_same m_same kp_same z_isinstance z_dict z_list z_tuple z_len z_all z_zip z_str z_int z_bool (sp := (spSame K 3)) (by rintro vs H Q E ⟨_, _, _, rfl, _⟩; rfl) pure_same
  have G_same_4 : FnOk l.prog w K mg base CX0 4 f_same _ [("_law_found" : Str), ("_law_due" : Str)] (spSame K 4) := ok_same (P := l.prog) (w := w) (base := base) F_same G_same_3 b_same m_same kp_same z_isinstance z_dict z_list z_tuple z_len z_all z_zip z_str z_int z_bool (sp := (spSame K 4)) (by rintro vs H Q E ⟨_, _, _, rfl, _⟩; rfl) pure_same
  have G_same_5 : FnOk l.prog w K mg base CX0 5 f_same _ [("_law_found" : Str), ("_law_due" : Str)] (spSame K 5) := ok_same (P := l.prog) (w := w) (base := base) F_same G_same_4 b_same m_same kp_same z_isinstance z_dict z_list z_tuple z_len z_all z_zip z_str z_int z_bool (sp := (spSame K 5)) (by rintro vs H Q E ⟨_, _, _, rfl, _⟩; rfl) pure_same
  have G_same_6 : FnOk l.prog w K mg base CX0 6 f_same _ [("_law_found" : Str), ("_law_due" : Str)] (spSame K 6) := ok_same (P := l.prog) (w := w) (base := base) F_same G_same_5 b_same m_same kp_same z_isinstance z_dict z_list z_tuple z_len z_all z_zip z_str z_int z_bool (sp := (spSame K 6)) (by rintro vs H Q E ⟨_, _, _, rfl, _⟩; rfl) pure_same
  have G_same : FnOk l.prog w K mg base CX0 6 f_same _ [("_law_found" : Str), ("_law_due" : Str)] (spV K .O (vSame 6)) := G_same_6.imp fun _ _ _ _ h => cv_same h
  have G_Disk_names : FnOk l.prog w K mg base CX0 1 f_Disk_names _ [("self" : Str)] (spV K .O (wDkNames c_Disk)) := ok_Disk_names (P := l.prog) (w := w) (base := base) F_Disk_names z_sorted z_list m_Disk (sp := (spV K .O (wDkNames c_Disk))) (fun _ _ _ _ h => spV.len (n := 1) (fun ds m P X h => ((p_Disk_names (K := K)) ds m P X h).1) h) (sim_Disk_names kx_Disk (fun ds m P X h => (p_Disk_names (K := K)) ds m P X h))
  have G_Disk_steps : FnOk l.prog w K mg base CX0 1 f_Disk_steps _ [("self" : Str)] (spV K .F (wDkSteps c_Disk)) := ok_Disk_steps (P := l.prog) (w := w) (base := base) F_Disk_steps m_Disk (sp := (spV K .F (wDkSteps c_Disk))) (fun _ _ _ _ h => spV.len (n := 1) (fun ds m P X h => ((p_Disk_steps (K := K)) ds m P X h).1) h) (sim_Disk_steps kx_Disk (fun ds m P X h => (p_Disk_steps (K := K)) ds m P X h))
  have G_Disk_read : FnOk l.prog w K mg base (L2.CX l.prog w) 2 f_Disk_read _ [("self" : Str), ("name" : Str)] (spV K .O (wDkRead c_Disk c_NoFile)) := ok_Disk_read (P := l.prog) (w := w) (base := base) F_Disk_read G_Disk_look_file b_Disk_look_file cl_Disk me_Disk_look_file z_list m_Disk (sp := (spV K .O (wDkRead c_Disk c_NoFile))) (fun _ _ _ _ h => spV.len (n := 2) (fun ds m P X h => ((p_Disk_read (K := K)) ds m P X h).1) h) (sim_Disk_read kx_Disk (fun ds m P X h => (p_Disk_read (K := K)) ds m P X h))
  have G_disk_is : FnOk l.prog w K mg base CX0 7 f_disk_is _ [("_law_disk" : Str), ("_law_files" : Str), ("_law_many" : Str)] (spV K .O (wDiskIs c_Disk)) := ok_disk_is (P := l.prog) (w := w) (base := base) F_disk_is G_same b_same m_same kp_same G_Disk_names b_Disk_names cl_Disk me_Disk_names G_Disk_steps b_Disk_steps me_Disk_steps G_Disk_read b_Disk_read me_Disk_read z_sorted z_all (sp := (spV K .O (wDiskIs c_Disk))) (fun _ _ _ _ h => spV.len (n := 3) (fun ds m P X h => ((p_disk_is (K := K) (M := c_NoFile)) ds m P X h).1) h) (sim_disk_is (fun ds m P X h => (p_disk_is (K := K) (M := c_NoFile)) ds m P X h))
  have G_deed_part : FnOk l.prog w K mg base CX0 1 f_deed_part _ [("deed" : Str), ("many" : Str)] (spV K .F wDeedPart) := ok_deed_part (P := l.prog) (w := w) (base := base) F_deed_part (sp := (spV K .F wDeedPart)) (fun _ _ _ _ h => spV.len (n := 2) (fun ds m P X h => ((p_deed_part (K := K)) ds m P X h).1) h) (sim_deed_part (fun ds m P X h => (p_deed_part (K := K)) ds m P X h))
  have G_Disk_fallen : FnOk l.prog w K mg base CX0 3 f_Disk_fallen _ [("self" : Str), ("k" : Str)] (spV K .F (wFallen c_Disk)) := ok_Disk_fallen (P := l.prog) (w := w) (base := base) F_Disk_fallen G_deed_steps b_deed_steps m_deed_steps kp_deed_steps G_deed_part b_deed_part m_deed_part kp_deed_part G_Disk_keep_deed b_Disk_keep_deed cl_Disk me_Disk_keep_deed G_Disk_init b_Disk_init mk_Disk z_min m_Disk (sp := (spV K .F (wFallen c_Disk))) (fun _ _ _ _ h => spV.len (n := 2) (fun ds m P X h => ((p_Disk_fallen (K := K)) ds m P X h).1) h) (sim_Disk_fallen kx_Disk (fun ds m P X h => (p_Disk_fallen (K := K)) ds m P X h))
  have G_fall_right : FnOk l.prog w K mg base CX0 8 f_fall_right _ [("_law_state" : Str), ("_law_disk" : Str), ("_law_steps" : Str), ("_law_k" : Str)] (spV K .O (wFallRight c_Disk)) := ok_fall_right (P := l.prog) (w := w) (base := base) F_fall_right G_disk_is b_disk_is m_disk_is kp_disk_is G_files_by b_files_by m_files_by kp_files_by G_take b_take m_take kp_take G_Disk_fallen b_Disk_fallen cl_Disk me_Disk_fallen G_Disk_make b_Disk_make me_Disk_make G_Disk_add b_Disk_add me_Disk_add (sp := (spV K .O (wFallRight c_Disk))) (fun _ _ _ _ h => spV.len (n := 4) (fun ds m P X h => ((p_fall_right (K := K) (N := c_NoFile)) ds m P X h).1) h) (sim_fall_right (fun ds m P X h => (p_fall_right (K := K) (N := c_NoFile)) ds m P X h))
  exact FnOk.imp (ok_law (P := l.prog) (w := w) (base := base) F_law G_begin b_begin m_begin kp_begin G_drawn b_drawn m_drawn kp_drawn G_fall_right b_fall_right m_fall_right kp_fall_right G_disk_is b_disk_is m_disk_is kp_disk_is G_files_by b_files_by m_files_by kp_files_by G_Disk_fallen b_Disk_fallen cl_Disk me_Disk_fallen G_Disk_make b_Disk_make me_Disk_make z_range z_len (sp := (spV K .O vLaw)) (fun _ _ _ _ h => spV.len (n := 1) (fun ds m P X h => ((p_law (K := K) (C := c_Disk)) ds m P X h).1) h) (sim_law (fun ds m P X h => (p_law (K := K) (C := c_Disk)) ds m P X h))) fun _ _ _ _ h => cv_law h
theorem walk {l : PySem.W.OpenLaw} {q : Program} {loose : List Str} {XP : (Str → Option Value) → Heap → Prop} {YP : World → Heap → Prop} {d : DefRec} {K : Params → PySem.W.Frag} (hn : l.most = some 63) (hdf : d.params.defaults = [])
    (hY : ∀ (w : World) (h : Heap), YP w h → (K w.params).In h)
    (F : ∀ (w : World) (mg : Str → Option Value) (fa : Addr) (h : Heap), (K w.params).In h → h.Ns mainGlobals mg → mg d.name = some (.ref fa) →
      ∃ fd : FuncData, (∀ (s : Shared) (u : Value), BindsTo s fd ⟨[u], []⟩ [("_law_script", u)]) ∧ ∀ base : Heap, (K w.params).In base → base.Ns mainGlobals mg → FnOk l.prog w (K w.params) mg base CX0 9 fa fd ["_law_script"] (spLaw (K w.params))) :
    PySem.W.WalkO q loose XP YP l.row.toRowW d [] (fun f vs => PySem.call f vs) :=
  L2.walk_of (n := 63) (k := 9) (x := "_law_script") (CX := fun _ => CX0) (sp := fun w => spLaw (K w.params)) hn (by decide) hdf ⟨rfl, by decide, by decide⟩ hY F (fun _ _ a ns hl _ hS => ⟨a, ns, rfl, hS, hl, fun _ => rfl⟩) fun _ _ _ _ _ z => z
end Ps
open PySem PySem.W PyProof.Rows
set_option maxRecDepth 100000 in
set_option maxHeartbeats 0 in
theorem PySem.Challenge.cw_pillarstore_k77_fallen_disks_holds : PySem.Challenge.rw_pillarstore_k77_fallen_disks.Holds := by
  w_on; o_law; k_head; (case hw => w_witness2)
  k_fill
  refine Ps.walk (l := PySem.Challenge.rw_pillarstore_k77_fallen_disks) rfl rfl (fun w h Y => PySem.W.kIn_of Y) ?F
  case F =>
    intro w mg fa h KX G hmg
    refine' Ps.all_mk KX G hmg ?a_Disk ?a_NoFile ?a_begin ?l_begin ?c_begin ?kp_begin ?a_take ?l_take ?c_take ?kp_take ?a_files_by ?l_files_by ?c_files_by ?kp_files_by ?a_disk_deed ?l_disk_deed ?c_disk_deed ?kp_disk_deed ?a_deed_steps ?l_deed_steps ?c_deed_steps ?kp_deed_steps ?a_done_with ?l_done_with ?c_done_with ?kp_done_with ?a_Disk_keep_deed ?i_Disk_keep_deed ?l_Disk_keep_deed ?c_Disk_keep_deed ?kp_Disk_keep_deed ?a_Disk_make ?i_Disk_make ?l_Disk_make ?c_Disk_make ?kp_Disk_make ?a_Disk_look_file ?i_Disk_look_file ?l_Disk_look_file ?c_Disk_look_file ?kp_Disk_look_file ?a_Disk_add ?i_Disk_add ?l_Disk_add ?c_Disk_add ?kp_Disk_add ?a_Disk_cut ?i_Disk_cut ?l_Disk_cut ?c_Disk_cut ?kp_Disk_cut ?a_Disk_drop ?i_Disk_drop ?l_Disk_drop ?c_Disk_drop ?kp_Disk_drop ?a_done_on ?l_done_on ?c_done_on ?kp_done_on ?a_single_steps ?l_single_steps ?c_single_steps ?kp_single_steps ?a_Disk_init ?i_Disk_init ?l_Disk_init ?c_Disk_init ?kp_Disk_init ?a_drawn ?l_drawn ?c_drawn ?kp_drawn ?a_same ?l_same ?c_same ?kp_same ?a_Disk_names ?i_Disk_names ?l_Disk_names ?c_Disk_names ?kp_Disk_names ?a_Disk_steps ?i_Disk_steps ?l_Disk_steps ?c_Disk_steps ?kp_Disk_steps ?a_Disk_read ?i_Disk_read ?l_Disk_read ?c_Disk_read ?kp_Disk_read ?a_disk_is ?l_disk_is ?c_disk_is ?kp_disk_is ?a_deed_part ?l_deed_part ?c_deed_part ?kp_deed_part ?a_Disk_fallen ?i_Disk_fallen ?l_Disk_fallen ?c_Disk_fallen ?kp_Disk_fallen ?a_fall_right ?l_fall_right ?c_fall_right ?kp_fall_right ?a_law ?l_law ?c_law ?kp_law ?zz_list ?zz_len ?zz_divmod ?zz_sorted ?zz_int ?zz_range ?zz_isinstance ?zz_dict ?zz_tuple ?zz_all ?zz_zip ?zz_str ?zz_bool ?zz_min ?pg_Disk ?hd_Disk ?po_Disk ?sa_Disk ?na_Disk_own_files ?na_Disk_own_log ?na_Disk_so_many ?mm_Disk ?kc_Disk ?x_NoFile ?kc_NoFile ?bs_NoFile ?ty_NoFile
    (case a_Disk => k_is)
    (case a_NoFile => k_is)
    (case a_begin => k_is)
    (case l_begin => k_is)
    (case c_begin => k_is)
    (case kp_begin => k_is)
    (case a_take => k_is)
    (case l_take => k_is)
    (case c_take => k_is)
    (case kp_take => k_is)
    (case a_files_by => k_is)
    (case l_files_by => k_is)
    (case c_files_by => k_is)
    (case kp_files_by => k_is)
    (case a_disk_deed => k_is)
    (case l_disk_deed => k_is)
    (case c_disk_deed => k_is)
    (case kp_disk_deed => k_is)
    (case a_deed_steps => k_is)
    (case l_deed_steps => k_is)
    (case c_deed_steps => k_is)
    (case kp_deed_steps => k_is)
    (case a_done_with => k_is)
    (case l_done_with => k_is)
    (case c_done_with => k_is)
    (case kp_done_with => k_is)
    (case a_Disk_keep_deed => k_is)
    (case i_Disk_keep_deed => k_is)
    (case l_Disk_keep_deed => k_is)
    (case c_Disk_keep_deed => k_is)
    (case kp_Disk_keep_deed => k_is)
    (case a_Disk_make => k_is)
    (case i_Disk_make => k_is)
    (case l_Disk_make => k_is)
    (case c_Disk_make => k_is)
    (case kp_Disk_make => k_is)
    (case a_Disk_look_file => k_is)
    (case i_Disk_look_file => k_is)
    (case l_Disk_look_file => k_is)
    (case c_Disk_look_file => k_is)
    (case kp_Disk_look_file => k_is)
    (case a_Disk_add => k_is)
    (case i_Disk_add => k_is)
    (case l_Disk_add => k_is)
    (case c_Disk_add => k_is)
    (case kp_Disk_add => k_is)
    (case a_Disk_cut => k_is)
    (case i_Disk_cut => k_is)
    (case l_Disk_cut => k_is)
    (case c_Disk_cut => k_is)
    (case kp_Disk_cut => k_is)
    (case a_Disk_drop => k_is)
    (case i_Disk_drop => k_is)
    (case l_Disk_drop => k_is)
    (case c_Disk_drop => k_is)
    (case kp_Disk_drop => k_is)
    (case a_done_on => k_is)
    (case l_done_on => k_is)
    (case c_done_on => k_is)
    (case kp_done_on => k_is)
    (case a_single_steps => k_is)
    (case l_single_steps => k_is)
    (case c_single_steps => k_is)
    (case kp_single_steps => k_is)
    (case a_Disk_init => k_is)
    (case i_Disk_init => k_is)
    (case l_Disk_init => k_is)
    (case c_Disk_init => k_is)
    (case kp_Disk_init => k_is)
    (case a_drawn => k_is)
    (case l_drawn => k_is)
    (case c_drawn => k_is)
    (case kp_drawn => k_is)
    (case a_same => k_is)
    (case l_same => k_is)
    (case c_same => k_is)
    (case kp_same => k_is)
    (case a_Disk_names => k_is)
    (case i_Disk_names => k_is)
    (case l_Disk_names => k_is)
    (case c_Disk_names => k_is)
    (case kp_Disk_names => k_is)
    (case a_Disk_steps => k_is)
    (case i_Disk_steps => k_is)
    (case l_Disk_steps => k_is)
    (case c_Disk_steps => k_is)
    (case kp_Disk_steps => k_is)
    (case a_Disk_read => k_is)
    (case i_Disk_read => k_is)
    (case l_Disk_read => k_is)
    (case c_Disk_read => k_is)
    (case kp_Disk_read => k_is)
    (case a_disk_is => k_is)
    (case l_disk_is => k_is)
    (case c_disk_is => k_is)
    (case kp_disk_is => k_is)
    (case a_deed_part => k_is)
    (case l_deed_part => k_is)
    (case c_deed_part => k_is)
    (case kp_deed_part => k_is)
    (case a_Disk_fallen => k_is)
    (case i_Disk_fallen => k_is)
    (case l_Disk_fallen => k_is)
    (case c_Disk_fallen => k_is)
    (case kp_Disk_fallen => k_is)
    (case a_fall_right => k_is)
    (case l_fall_right => k_is)
    (case c_fall_right => k_is)
    (case kp_fall_right => k_is)
    (case a_law => k_is)
    (case l_law => k_is)
    (case c_law => k_is)
    (case kp_law => k_is)
    (case zz_list => k_is)
    (case zz_len => k_is)
    (case zz_divmod => k_is)
    (case zz_sorted => k_is)
    (case zz_int => k_is)
    (case zz_range => k_is)
    (case zz_isinstance => k_is)
    (case zz_dict => k_is)
    (case zz_tuple => k_is)
    (case zz_all => k_is)
    (case zz_zip => k_is)
    (case zz_str => k_is)
    (case zz_bool => k_is)
    (case zz_min => k_is)
    (case pg_Disk => k_is)
    (case hd_Disk => k_is)
    (case po_Disk => k_is)
    (case sa_Disk => k_is)
    (case na_Disk_own_files => k_is)
    (case na_Disk_own_log => k_is)
    (case na_Disk_so_many => k_is)
    (case mm_Disk => k_is)
    (case kc_Disk => k_is)
    (case x_NoFile => k_exc)
    (case kc_NoFile => k_is)
    (case bs_NoFile => k_is)
    (case ty_NoFile => k_is)
#print axioms PySem.Challenge.cw_pillarstore_k77_fallen_disks_holds
